import PyProof.Rows.All
import HandS.ForMost
import HandS.ForExc
import HandS.IsInst
import HandS.Flow
import HandS.ExcInit
import HandS.TryMany
import HandS.ExcField
import HandS.ExcIs
import HandS.ClsMeth
import HandS.FStr
import HandS.RaiseMore
import HandS.StrMore
import HandS.Deep
import HandS.TupAny
import HandS.Codes
import HandS.Wide
import HandS.Ends
import HandS.Slots
import HandS.Defaults
import KE.KExcIs
import PySem.Challenge.RW_keptnomore_k02_words_of_events
set_option Elab.async false
set_option linter.all false
set_option maxRecDepth 100000
set_option maxHeartbeats 4000000
/-! KnA: data, slots, owned cells, the symbolic store and the judgements over it. -/
namespace Kn
open PySem PySem.Spec PyProof.Rows
open L2 hiding St
abbrev SV := L2.St
/-! ### data that never changes -/
inductive Dat where
  | non | bl (b : Bool) | int (i : Int) | str (x : Str)
  | lst (xs : List Dat) | tup (xs : List Dat)
  | ins (C : Addr) (fs : List (Str × Dat))
  | cls (C : Addr) | ty (n : String)
  | exc (a dd : Addr) (fs : List (Str × Dat))
  | fro (xs : List Dat)
  | slo (C : Addr) (ds : List Dat)
  | tre (C : Addr) (d1 : List (Str × Dat)) (g : Str) (es : List Dat) (d2 : List (Str × Dat))
theorem sql_at {K : PySem.W.Frag} {G : Hp} {a : Addr} {xs : List V} (h : G a = some (.lst xs)) : SqL K G a xs := .inl (.inl h)
/-- what a name or a place holds: nothing known, data, or a cell that its holder may still change -/
inductive Slot where
  | unk | dat (d : Dat) | own (p : Addr)
/-- a cell that may still change -/
inductive Cell where
  | lst (xs : List Slot)
  | ins (C dx : Addr) (fs : List (Str × Slot))
  | dK (kvs : List (Key × Slot))
  | exo (C : Addr) (d : Option Addr)
  | exd (fs : List (Str × Slot))
  | slt (C dx : Addr) (fs : List (Option Slot))
  | obj (o : HO)
  | tpl (xs : List Slot)
abbrev Own := Addr → Option Cell
def up (O : Own) (p : Addr) (c : Cell) : Own := fun b => if b = p then some c else O b
def dn (O : Own) (p : Addr) : Own := fun b => if b = p then none else O b
theorem up_at {O : Own} {p : Addr} {c : Cell} : up O p c p = some c := if_pos rfl
theorem up_ne {O : Own} {p q : Addr} {c : Cell} (h : q ≠ p) : up O p c q = O q := if_neg h
theorem dn_at {O : Own} {p : Addr} : dn O p p = none := if_pos rfl
theorem dn_ne {O : Own} {p q : Addr} (h : q ≠ p) : dn O p q = O q := if_neg h
theorem dn_up {O : Own} {p : Addr} {c : Cell} (h : O p = none) : dn (up O p c) p = O := by
  funext b
  by_cases e : b = p
  · subst e; rw [dn_at, h]
  · rw [dn_ne e, up_ne e]
theorem up_up {O : Own} {p : Addr} {c d : Cell} : up (up O p c) p d = up O p d := by
  funext b
  by_cases e : b = p
  · subst e; rw [up_at, up_at]
  · rw [up_ne e, up_ne e, up_ne e]
theorem up_self {O : Own} {p : Addr} {c : Cell} (h : O p = some c) : up O p c = O := by
  funext b
  by_cases e : b = p
  · subst e; rw [up_at, h]
  · rw [up_ne e]
theorem own_ne {O : Own} {p q : Addr} {c : Cell} (hp : O p = some c) (hq : O q = none) : p ≠ q := by
  intro e; rw [e, hq] at hp; cases hp
/-- the heap without the cells -/
def hid (O : Own) (H : Hp) : Hp := fun b => match O b with | some _ => none | none => H b
theorem hid_none {O : Own} {H : Hp} {b : Addr} (h : O b = none) : hid O H b = H b := by
  show (match O b with | some _ => none | none => H b) = _
  rw [h]
theorem hid_some {O : Own} {H : Hp} {b : Addr} {c : Cell} (h : O b = some c) : hid O H b = none := by
  show (match O b with | some _ => none | none => H b) = _
  rw [h]
theorem of_hid {O : Own} {H : Hp} {b : Addr} {o : HO} (h : hid O H b = some o) : O b = none ∧ H b = some o := by
  cases e : O b with
  | none => exact ⟨rfl, (hid_none (H := H) e).symm.trans h⟩
  | some c => rw [hid_some e] at h; cases h
section
variable (K : PySem.W.Frag) (G : Hp)
mutual
inductive Rp : V → Dat → Prop
  | non : Rp .non .non
  | bl (b : Bool) : Rp (.bl b) (.bl b)
  | int (i : Int) : Rp (.int i) (.int i)
  | str (x : Str) : Rp (.str x) (.str x)
  | lst {a : Addr} {xs : List V} {ds : List Dat} : G a = some (.lst xs) → RpA xs ds → Rp (.ref a) (.lst ds)
  | fro {a : Addr} {xs : List V} {ds : List Dat} : SqL K G a xs → RpA xs ds → Rp (.ref a) (.fro ds)
  | tup {a : Addr} {xs : List V} {ds : List Dat} : SqT K G a xs → RpA xs ds → Rp (.ref a) (.tup ds)
  | ins {a C dx : Addr} {fs : List (Str × V)} {ds : List (Str × Dat)} : G a = some (.ins C dx fs) → RpF fs ds → Rp (.ref a) (.ins C ds)
  | cls (C : Addr) : Rp (.ref C) (.cls C)
  | ty (n : String) : Rp (.ty n) (.ty n)
  | exc {a dd : Addr} {fs : List (Str × V)} {ds : List (Str × Dat)} : G dd = some (.xd fs) → RpF fs ds → Rp (.ref a) (.exc a dd ds)
  | slo {a C dx : Addr} {vs : List V} {ds : List Dat} : G a = some (SlX.SlO a C dx (vs.map some)) → G dx = some (.xd []) → dx ≠ a → RpA vs ds → Rp (.ref a) (.slo C ds)
  | tre {a C dx n : Addr} {f1 f2 : List (Str × V)} {us : List V} {d1 d2 : List (Str × Dat)} {g : Str} {es : List Dat} : G a = some (.ins C dx (f1 ++ (g, .ref n) :: f2)) → G n = some (.tup (.ref a :: us)) → RpF f1 d1 → RpF f2 d2 → RpA us es → Rp (.ref a) (.tre C d1 g es d2)
inductive RpA : List V → List Dat → Prop
  | nil : RpA [] []
  | cons {v : V} {vs : List V} {d : Dat} {ds : List Dat} : Rp v d → RpA vs ds → RpA (v :: vs) (d :: ds)
inductive RpF : List (Str × V) → List (Str × Dat) → Prop
  | nil : RpF [] []
  | cons {f : Str} {v : V} {fs : List (Str × V)} {d : Dat} {ds : List (Str × Dat)} : Rp v d → RpF fs ds → RpF ((f, v) :: fs) ((f, d) :: ds)
end
def SlOk (v : V) : Slot → Prop
  | .unk => True
  | .dat d => Rp K G v d
  | .own p => v = .ref p
def FlOk (a : Str × V) (b : Str × Slot) : Prop := a.1 = b.1 ∧ SlOk K G a.2 b.2
def OpOk : Option V → Option Slot → Prop
  | some v, some s => SlOk K G v s
  | none, none => True
  | _, _ => False
def KyOk (a : Key × V) (b : Key × Slot) : Prop := a.1 = b.1 ∧ SlOk K G a.2 b.2
def ClOk (p : Addr) (o : HO) : Cell → Prop
  | .lst ss => ∃ vs, o = .lst vs ∧ Paired (SlOk K G) vs ss
  | .ins C dx ss => ∃ fs, o = .ins C dx fs ∧ Paired (FlOk K G) fs ss
  | .dK ss => ∃ kvs, o = .dK kvs ∧ Paired (KyOk K G) kvs ss
  | .exo C d => o = L2.exo p C d
  | .exd ss => ∃ fs, o = L2.exd p fs ∧ Paired (FlOk K G) fs ss
  | .slt C dx ss => G dx = some (.xd []) ∧ dx ≠ p ∧ ∃ vs, o = SlX.SlO p C dx vs ∧ Paired (OpOk K G) vs ss
  | .obj u => o = u
  | .tpl ss => ∃ vs, o = .tup vs ∧ Paired (SlOk K G) vs ss
end
theorem sql_mono {K : PySem.W.Frag} {G G' : Hp} {a : Addr} {xs : List V} (e : Same G G') : SqL K G a xs → SqL K G' a xs
  | .inl (.inl h) => .inl (.inl (e a _ h))
  | .inl (.inr ⟨o, h⟩) => .inl (.inr ⟨o, e a _ h⟩)
  | .inr h => .inr h
theorem sqt_mono {K : PySem.W.Frag} {G G' : Hp} {a : Addr} {xs : List V} (e : Same G G') : SqT K G a xs → SqT K G' a xs
  | .inl (.inl h) => .inl (.inl (e a _ h))
  | .inl (.inr ⟨o, h⟩) => .inl (.inr ⟨o, e a _ h⟩)
  | .inr h => .inr h
section
variable {K : PySem.W.Frag} {G G' : Hp}
mutual
theorem Rp.mono (e : Same G G') {v : V} : ∀ {d : Dat}, Rp K G v d → Rp K G' v d
  | .non, h => by cases h; exact .non
  | .bl b, h => by cases h; exact .bl b
  | .int i, h => by cases h; exact .int i
  | .str x, h => by cases h; exact .str x
  | .lst ds, h => by
    cases h with
    | lst h1 h2 => exact .lst (e _ _ h1) (RpA.mono e h2)
  | .tup ds, h => by
    cases h with
    | tup h1 h2 => exact .tup (sqt_mono e h1) (RpA.mono e h2)
  | .ins C fs, h => by
    cases h with
    | ins h1 h2 => exact .ins (e _ _ h1) (RpF.mono e h2)
  | .cls C, h => by cases h; exact .cls C
  | .ty n, h => by cases h; exact .ty n
  | .exc a dd fs, h => by
    cases h with
    | exc h1 h2 => exact .exc (e _ _ h1) (RpF.mono e h2)
  | .fro ds, h => by
    cases h with
    | fro h1 h2 => exact .fro (sql_mono e h1) (RpA.mono e h2)
  | .slo C ds, h => by
    cases h with
    | slo h1 h2 h3 h4 => exact .slo (e _ _ h1) (e _ _ h2) h3 (RpA.mono e h4)
  | .tre C d1 g es d2, h => by
    cases h with
    | tre h1 h2 h3 h4 h5 => exact .tre (e _ _ h1) (e _ _ h2) (RpF.mono e h3) (RpF.mono e h4) (RpA.mono e h5)
theorem RpA.mono (e : Same G G') : ∀ {vs : List V} {ds : List Dat}, RpA K G vs ds → RpA K G' vs ds
  | _, [], h => by cases h; exact .nil
  | _, d :: ds, h => by
    cases h with
    | cons h1 h2 => exact .cons (Rp.mono e h1) (RpA.mono e h2)
theorem RpF.mono (e : Same G G') : ∀ {vs : List (Str × V)} {ds : List (Str × Dat)}, RpF K G vs ds → RpF K G' vs ds
  | _, [], h => by cases h; exact .nil
  | _, (f, d) :: ds, h => by
    cases h with
    | cons h1 h2 => exact .cons (Rp.mono e h1) (RpF.mono e h2)
end
theorem SlOk.mono (e : Same G G') {v : V} {s : Slot} (h : SlOk K G v s) : SlOk K G' v s := by
  cases s with
  | unk => trivial
  | dat d => exact Rp.mono e h
  | own p => exact h
theorem pmap {α β : Type} {F F' : α → β → Prop} (e : ∀ a b, F a b → F' a b) : ∀ {xs : List α} {ys : List β}, Paired F xs ys → Paired F' xs ys
  | _, _, .nil => .nil
  | _, _, .cons h t => .cons (e _ _ h) (pmap e t)
theorem OpOk.mono (e : Same G G') {v : Option V} {s : Option Slot} (h : OpOk K G v s) : OpOk K G' v s := by
  cases v with
  | none => cases s with
    | none => trivial
    | some s => exact h.elim
  | some v => cases s with
    | none => exact h.elim
    | some s => exact SlOk.mono e (v := v) h
theorem ClOk.mono (e : Same G G') {p : Addr} {o : HO} {c : Cell} (h : ClOk K G p o c) : ClOk K G' p o c := by
  cases c with
  | lst ss =>
    obtain ⟨vs, h1, h2⟩ := h
    exact ⟨vs, h1, pmap (fun _ _ q => SlOk.mono e q) h2⟩
  | ins C dx ss =>
    obtain ⟨vs, h1, h2⟩ := h
    exact ⟨vs, h1, pmap (fun _ _ q => ⟨q.1, SlOk.mono e q.2⟩) h2⟩
  | dK ss =>
    obtain ⟨vs, h1, h2⟩ := h
    exact ⟨vs, h1, pmap (fun _ _ q => ⟨q.1, SlOk.mono e q.2⟩) h2⟩
  | exo C d => exact h
  | obj u => exact h
  | tpl ss =>
    obtain ⟨vs, h1, h2⟩ := h
    exact ⟨vs, h1, pmap (fun _ _ q => SlOk.mono e q) h2⟩
  | exd ss =>
    obtain ⟨vs, h1, h2⟩ := h
    exact ⟨vs, h1, pmap (fun _ _ q => ⟨q.1, SlOk.mono e q.2⟩) h2⟩
  | slt C dx ss =>
    obtain ⟨h1, h2, vs, h3, h4⟩ := h
    exact ⟨e _ _ h1, h2, vs, h3, pmap (fun _ _ q => OpOk.mono e q) h4⟩
theorem RpA.length {vs : List V} {ds : List Dat} : RpA K G vs ds → vs.length = ds.length
  | .nil => rfl
  | .cons _ t => by rw [List.length_cons, List.length_cons, RpA.length t]
theorem RpA.get : ∀ {vs : List V} {ds : List Dat} {i : Nat} {d : Dat}, RpA K G vs ds → ds[i]? = some d → ∃ v, vs[i]? = some v ∧ Rp K G v d
  | _, _, _, _, .nil, e => by cases e
  | _, _, 0, _, .cons r _, e => by cases e; exact ⟨_, rfl, r⟩
  | _, _, i + 1, d, .cons _ t, e => RpA.get (i := i) t e
theorem RpA.snoc {v : V} {d : Dat} (r : Rp K G v d) : ∀ {vs : List V} {ds : List Dat}, RpA K G vs ds → RpA K G (vs ++ [v]) (ds ++ [d])
  | _, _, .nil => .cons r .nil
  | _, _, .cons h t => .cons h (RpA.snoc r t)
theorem RpA.append : ∀ {vs ws : List V} {ds es : List Dat}, RpA K G vs ds → RpA K G ws es → RpA K G (vs ++ ws) (ds ++ es)
  | _, _, _, _, .nil, h => h
  | _, _, _, _, .cons h t, q => .cons h (RpA.append t q)
theorem RpA.paired : ∀ {vs : List V} {ds : List Dat}, RpA K G vs ds → Paired (SlOk K G) vs (ds.map .dat)
  | _, _, .nil => .nil
  | _, _, .cons h t => .cons h (RpA.paired t)
theorem RpA.of_paired : ∀ {vs : List V} {ds : List Dat}, Paired (SlOk K G) vs (ds.map .dat) → RpA K G vs ds
  | _, [], h => by cases h; exact .nil
  | _, d :: ds, h => by
    cases h with
    | cons h t => exact .cons h (RpA.of_paired t)
theorem RpF.of_paired : ∀ {vs : List (Str × V)} {ds : List (Str × Dat)}, Paired (FlOk K G) vs (ds.map fun p => (p.1, .dat p.2)) → RpF K G vs ds
  | _, [], h => by cases h; exact .nil
  | _, (f, d) :: ds, h => by
    cases h with
    | cons h t =>
      rename_i a _
      obtain ⟨f', v⟩ := a
      obtain ⟨e, r⟩ := h
      cases e
      exact .cons r (RpF.of_paired t)
theorem RpF.lookup {f : Str} {d : Dat} : ∀ {vs : List (Str × V)} {ds : List (Str × Dat)}, RpF K G vs ds → ds.lookup f = some d → ∃ v, vs.lookup f = some v ∧ Rp K G v d
  | _, _, .nil, e => by cases e
  | _, _, .cons (f := g) h t, e => by
    rw [List.lookup_cons] at e ⊢
    split at e
    · rename_i q
      cases e
      exact ⟨_, rfl, h⟩
    · exact RpF.lookup t e
theorem paired_len {α β : Type} {F : α → β → Prop} : ∀ {xs : List α} {ys : List β}, Paired F xs ys → xs.length = ys.length
  | _, _, .nil => rfl
  | _, _, .cons _ t => by rw [List.length_cons, List.length_cons, paired_len t]
theorem paired_get {α β : Type} {F : α → β → Prop} : ∀ {xs : List α} {ys : List β} {i : Nat} {y : β}, Paired F xs ys → ys[i]? = some y → ∃ x, xs[i]? = some x ∧ F x y
  | _, _, _, _, .nil, e => by cases e
  | _, _, 0, _, .cons r _, e => by cases e; exact ⟨_, rfl, r⟩
  | _, _, i + 1, d, .cons _ t, e => paired_get (i := i) t e
theorem paired_set {α β : Type} {F : α → β → Prop} {x : α} {y : β} (r : F x y) : ∀ {xs : List α} {ys : List β} (i : Nat), Paired F xs ys → Paired F (xs.set i x) (ys.set i y)
  | _, _, _, .nil => .nil
  | _, _, 0, .cons _ t => .cons r t
  | _, _, i + 1, .cons h t => .cons h (paired_set r i t)
theorem paired_app {α β : Type} {F : α → β → Prop} : ∀ {xs xs' : List α} {ys ys' : List β}, Paired F xs ys → Paired F xs' ys' → Paired F (xs ++ xs') (ys ++ ys')
  | _, _, _, _, .nil, h => h
  | _, _, _, _, .cons h t, q => .cons h (paired_app t q)
end
/-! ### the symbolic store -/
structure OwnOk (K : PySem.W.Frag) (O : Own) (H : Hp) : Prop where
  cell : ∀ p c, O p = some c → ∃ o, H p = some o ∧ ClOk K (hid O H) p o c
def EnvOk (K : PySem.W.Frag) (G : Hp) (x : Option V) : Slot → Prop
  | .unk => True
  | .dat d => ∃ v, x = some v ∧ Rp K G v d
  | .own p => x = some (.ref p)
structure StOk (K : PySem.W.Frag) (H0 : Hp) (O : Own) (σ : SV) (ρ : List Slot) (H : Hp) : Prop where
  own : OwnOk K O H
  base : Same H0 (hid O H)
  env : Paired (EnvOk K (hid O H)) σ ρ
theorem EnvOk.mono {K : PySem.W.Frag} {G G' : Hp} (e : Same G G') {x : Option V} {s : Slot} (h : EnvOk K G x s) : EnvOk K G' x s := by
  cases s with
  | unk => trivial
  | dat d =>
    obtain ⟨v, q, r⟩ := h
    exact ⟨v, q, Rp.mono e r⟩
  | own p => exact h
section
variable {K : PySem.W.Frag} {H0 H1 H H' : Hp} {O O' : Own} {σ : SV} {ρ : List Slot}
theorem StOk.rebase (h : StOk K H0 O σ ρ H) (e : Same H1 H0) : StOk K H1 O σ ρ H := ⟨h.own, e.trans h.base, h.env⟩
/-- the greatest base -/
theorem StOk.top (h : StOk K H0 O σ ρ H) : StOk K (hid O H) O σ ρ H := ⟨h.own, Same.refl _, h.env⟩
theorem hid_same (e : Same H H') : Same (hid O H) (hid O H') := fun b o h => by
  obtain ⟨h1, h2⟩ := of_hid h
  rw [hid_none h1]
  exact e b o h2
/-- all that was tracked stays -/
theorem StOk.grow (h : StOk K H0 O σ ρ H) (e : Same H H') : StOk K H0 O σ ρ H' := by
  have g : Same (hid O H) (hid O H') := hid_same e
  refine ⟨⟨fun p c hp => ?_⟩, h.base.trans g, pmap (fun _ _ q => EnvOk.mono g q) h.env⟩
  obtain ⟨o, h1, h2⟩ := h.own.cell p c hp
  exact ⟨o, e p o h1, ClOk.mono g h2⟩
theorem StOk.len (h : StOk K H0 O σ ρ H) : σ.length = ρ.length := paired_len h.env
theorem StOk.set {i : Nat} {v : V} {s : Slot} (h : StOk K H0 O σ ρ H) (r : SlOk K (hid O H) v s) : StOk K H0 O (σ.set i (some v)) (ρ.set i s) H := by
  refine ⟨h.own, h.base, paired_set ?_ i h.env⟩
  cases s with
  | unk => trivial
  | dat d => exact ⟨v, rfl, r⟩
  | own p => exact congrArg some r
theorem own_free (h : OwnOk K O H) {p : Addr} (hp : H p = none) : O p = none := by
  cases e : O p with
  | none => rfl
  | some c =>
    obtain ⟨o, h1, _⟩ := h.cell p c e
    rw [hp] at h1; cases h1
/-- a new object, a cell from now on -/
theorem StOk.alloc {p : Addr} {o : HO} {c : Cell} (h : StOk K H0 O σ ρ H) (hp : H p = none) (r : ClOk K (hid O H) p o c) : StOk K H0 (up O p c) σ ρ (upd H p o) := by
  have hO : O p = none := own_free h.own hp
  have g : Same (hid O H) (hid (up O p c) (upd H p o)) := fun b u q => by
    obtain ⟨h1, h2⟩ := of_hid q
    have nb : b ≠ p := ne_of_none h2 hp
    rw [hid_none (by rw [up_ne nb]; exact h1), upd_ne nb]
    exact h2
  refine ⟨⟨fun q d hq => ?_⟩, h.base.trans g, pmap (fun _ _ z => EnvOk.mono g z) h.env⟩
  by_cases e : q = p
  · subst e
    rw [up_at] at hq; cases hq
    exact ⟨o, upd_same, ClOk.mono g r⟩
  · rw [up_ne e] at hq
    obtain ⟨u, h1, h2⟩ := h.own.cell q d hq
    exact ⟨u, by rw [upd_ne e]; exact h1, ClOk.mono g h2⟩
theorem same_new {p : Addr} {o : HO} (h : H p = none) : Same H (upd H p o) := fun b u e => by
  rw [upd_ne (ne_of_none e h)]
  exact e
/-- a cell is written -/
theorem StOk.write {p : Addr} {o : HO} {c c0 : Cell} (h : StOk K H0 O σ ρ H) (hp : O p = some c0) (r : ClOk K (hid O H) p o c) : StOk K H0 (up O p c) σ ρ (upd H p o) := by
  have g : Same (hid O H) (hid (up O p c) (upd H p o)) := fun b u q => by
    obtain ⟨h1, h2⟩ := of_hid q
    have nb : b ≠ p := fun z => by rw [z, hp] at h1; cases h1
    rw [hid_none (by rw [up_ne nb]; exact h1), upd_ne nb]
    exact h2
  refine ⟨⟨fun q d hq => ?_⟩, h.base.trans g, pmap (fun _ _ z => EnvOk.mono g z) h.env⟩
  by_cases e : q = p
  · subst e
    rw [up_at] at hq; cases hq
    exact ⟨o, upd_same, ClOk.mono g r⟩
  · rw [up_ne e] at hq
    obtain ⟨u, h1, h2⟩ := h.own.cell q d hq
    exact ⟨u, by rw [upd_ne e]; exact h1, ClOk.mono g h2⟩
theorem hid_write {p : Addr} {o : HO} {c c0 : Cell} (hp : O p = some c0) : Same (hid O H) (hid (up O p c) (upd H p o)) := fun b u q => by
  obtain ⟨h1, h2⟩ := of_hid q
  have nb : b ≠ p := fun z => by rw [z, hp] at h1; cases h1
  rw [hid_none (by rw [up_ne nb]; exact h1), upd_ne nb]
  exact h2
/-- a cell becomes data -/
theorem hid_dn {p : Addr} : Same (hid O H) (hid (dn O p) H) := fun b o h => by
  obtain ⟨h1, h2⟩ := of_hid h
  by_cases e : b = p
  · subst e
    rw [hid_none dn_at]; exact h2
  · rw [hid_none (by rw [dn_ne e]; exact h1)]; exact h2
theorem OwnOk.freeze {p : Addr} (h : OwnOk K O H) : OwnOk K (dn O p) H := ⟨fun q c hq => by
  by_cases e : q = p
  · subst e; rw [dn_at] at hq; cases hq
  · rw [dn_ne e] at hq
    obtain ⟨o, h1, h2⟩ := h.cell q c hq
    exact ⟨o, h1, ClOk.mono hid_dn h2⟩⟩
theorem StOk.freeze {p : Addr} (h : StOk K H0 O σ ρ H) : StOk K H0 (dn O p) σ ρ H :=
  ⟨h.own.freeze, h.base.trans hid_dn, pmap (fun _ _ q => EnvOk.mono hid_dn q) h.env⟩
/-- the list cell as data -/
theorem OwnOk.lst {p : Addr} {ds : List Dat} (h : OwnOk K O H) (hp : O p = some (.lst (ds.map .dat))) : Rp K (hid (dn O p) H) (.ref p) (.lst ds) := by
  obtain ⟨o, h1, xs, rfl, h2⟩ := h.cell p _ hp
  exact .lst (by rw [hid_none dn_at]; exact h1) (RpA.of_paired (pmap (fun _ _ q => SlOk.mono hid_dn q) h2))
theorem OwnOk.ins {p C dx : Addr} {ds : List (Str × Dat)} (h : OwnOk K O H) (hp : O p = some (.ins C dx (ds.map fun q => (q.1, .dat q.2)))) : Rp K (hid (dn O p) H) (.ref p) (.ins C ds) := by
  obtain ⟨o, h1, fs, rfl, h2⟩ := h.cell p _ hp
  exact .ins (by rw [hid_none dn_at]; exact h1) (RpF.of_paired (pmap (fun _ _ q => ⟨q.1, SlOk.mono hid_dn q.2⟩) h2))
end
/-! ### exceptions -/
inductive Exn where
  | own (C : Addr) (fs : List (Str × Dat))
  | ty (n : String)
abbrev ExK := Exn → List Slot → Own → Prop
def noX : ExK := fun _ _ _ => False
def ExOk (K : PySem.W.Frag) (O : Own) (H : Hp) (cls : Value) (d : Option Addr) : Exn → Prop
  | .own C fs => cls = .ref C ∧ ∃ (dx : Addr) (fv : List (Str × V)), d = some dx ∧ O dx = none ∧ H dx = some (.xd fv) ∧ RpF K (hid O H) fv fs
  | .ty n => cls = .type n
def Wsem (K : PySem.W.Frag) (H0 : Hp) (x : ExK) : WX := fun cls d σ H => ∃ e ρ O, x e ρ O ∧ StOk K H0 O σ ρ H ∧ ExOk K O H cls d e
theorem takes_base {X : Cx} {K : PySem.W.Frag} {H0 H1 : Hp} {x : ExK} (t : Takes X (Wsem K H0 x)) (e : Same H0 H1) : Takes X (Wsem K H1 x) :=
  t.imp fun _ _ _ _ ⟨a, ρ, O, h1, h2, h3⟩ => ⟨a, ρ, O, h1, h2.rebase e, h3⟩
theorem takes_no {X : Cx} {K : PySem.W.Frag} {H0 : Hp} : Takes X (Wsem K H0 noX) := takes0.imp fun _ _ _ _ ⟨_, _, _, h, _⟩ => h
theorem takes_x {X : Cx} {K : PySem.W.Frag} {H0 : Hp} {x y : ExK} (t : Takes X (Wsem K H0 x)) (h : ∀ e ρ O, y e ρ O → x e ρ O) : Takes X (Wsem K H0 y) :=
  t.imp fun _ _ _ _ ⟨a, ρ, O, h1, h2, h3⟩ => ⟨a, ρ, O, h _ _ _ h1, h2, h3⟩
/-! ### the strongest readings -/
/-- a wall: what is behind it is not reduced -/
structure Bx (p : Prop) : Prop where
  r : p
section
variable (X : Cx)
def We (e : Expr) : TE := fun σ H Q => Bx (∀ (pins : List (Addr × Obj)) (s : Shared), Inv X pins σ H s → wpAny (model X.prog X.w) X.A (eval e X.env) (EP X pins σ Q) X.xe s)
def Wt (e : Expr) : TT := fun σ H Q => Bx (∀ (pins : List (Addr × Obj)) (s : Shared), Inv X pins σ H s → wpAny (model X.prog X.w) X.A (isTrue e X.env (eval e X.env)) (TP X pins σ Q) X.xe s)
def Wa (es : List Expr) : TA := fun σ H Q => Bx (∀ (pos : Pos) (pins : List (Addr × Obj)) (s : Shared), Inv X pins σ H s → wpAny (model X.prog X.w) X.A (spliced (backTo pos (starEach es X.env))) (AP X pins σ Q) X.xe s)
def Ws (st : Stmt) : TS := fun D σ H => Bx (∀ (pins : List (Addr × Obj)) (s : Shared), Inv X pins σ H s → wpAny (model X.prog X.w) X.A (exec st X.env) (SP X pins D) X.xe s)
def Wss (st : List Stmt) : TS := fun D σ H => Bx (∀ (pins : List (Addr × Obj)) (s : Shared), Inv X pins σ H s → wpAny (model X.prog X.w) X.A (execs st X.env) (SP X pins D) X.xe s)
end
section
variable {X : Cx}
theorem pe_w {e : Expr} : PE X e (We X e) := ⟨fun pins s σ H Q I h => h.r pins s I⟩
theorem pt_w {e : Expr} : PT X e (Wt X e) := ⟨fun pins s σ H Q I h => h.r pins s I⟩
theorem pa_w {es : List Expr} : PA X es (Wa X es) := ⟨fun pos pins s σ H Q I h => h.r pos pins s I⟩
theorem ps_w {st : Stmt} : PS X st (Ws X st) := ⟨fun pins s σ H D I h => h.r pins s I⟩
theorem pss_w {st : List Stmt} : PSs X st (Wss X st) := ⟨fun pins s σ H D I h => h.r pins s I⟩
theorem we_of {e : Expr} {t : TE} (h : PE X e t) {σ : SV} {H : Hp} {Q : VK} (q : t σ H Q) : We X e σ H Q := ⟨fun pins s I => h.run pins s σ H Q I q⟩
theorem wt_of {e : Expr} {t : TT} (h : PT X e t) {σ : SV} {H : Hp} {Q : Bool → Hp → Prop} (q : t σ H Q) : Wt X e σ H Q := ⟨fun pins s I => h.run pins s σ H Q I q⟩
theorem wa_of {es : List Expr} {t : TA} (h : PA X es t) {σ : SV} {H : Hp} {Q : List V → Hp → Prop} (q : t σ H Q) : Wa X es σ H Q := ⟨fun pos pins s I => h.run pos pins s σ H Q I q⟩
theorem ws_of {st : Stmt} {t : TS} (h : PS X st t) {σ : SV} {H : Hp} {D : Ends} (q : t D σ H) : Ws X st D σ H := ⟨fun pins s I => h.run pins s σ H D I q⟩
theorem wss_of {st : List Stmt} {t : TS} (h : PSs X st t) {σ : SV} {H : Hp} {D : Ends} (q : t D σ H) : Wss X st D σ H := ⟨fun pins s I => h.run pins s σ H D I q⟩
end
/-! ### the judgements: e is evaluated in the store O, the names hold ρ; an exception is handed to x; k is what follows -/
section
variable (X : Cx)
def EW (O : Own) (ρ : List Slot) (e : Expr) (x : ExK) (k : Slot → Own → Prop) : Prop :=
  ∀ H0 σ H, StOk X.K H0 O σ ρ H → Takes X (Wsem X.K H0 x) → ∀ Q : VK, (∀ v H' s O', k s O' → StOk X.K H0 O' σ ρ H' → SlOk X.K (hid O' H') v s → Q v H') → We X e σ H Q
def AW (O : Own) (ρ : List Slot) (es : List Expr) (x : ExK) (k : List Slot → Own → Prop) : Prop :=
  ∀ H0 σ H, StOk X.K H0 O σ ρ H → Takes X (Wsem X.K H0 x) → ∀ Q : List V → Hp → Prop, (∀ vs H' ss O', k ss O' → StOk X.K H0 O' σ ρ H' → Paired (SlOk X.K (hid O' H')) vs ss → Q vs H') → Wa X es σ H Q
def TW (O : Own) (ρ : List Slot) (e : Expr) (x : ExK) (k : Bool → Own → Prop) : Prop :=
  ∀ H0 σ H, StOk X.K H0 O σ ρ H → Takes X (Wsem X.K H0 x) → ∀ Q : Bool → Hp → Prop, (∀ b H' O', k b O' → StOk X.K H0 O' σ ρ H' → Q b H') → Wt X e σ H Q
structure SD where
  nx : List Slot → Own → Prop
  rt : Slot → Own → Prop
  bk : List Slot → Own → Prop := fun _ _ => False
  ct : List Slot → Own → Prop := fun _ _ => False
structure EndsOk (K : PySem.W.Frag) (H0 : Hp) (D : SD) (E : Ends) : Prop where
  nx : ∀ σ ρ O H, D.nx ρ O → StOk K H0 O σ ρ H → E.nx σ H
  rt : ∀ v s O H, D.rt s O → OwnOk K O H → Same H0 (hid O H) → SlOk K (hid O H) v s → E.rt v H
  bk : ∀ σ ρ O H, D.bk ρ O → StOk K H0 O σ ρ H → E.bk σ H
  ct : ∀ σ ρ O H, D.ct ρ O → StOk K H0 O σ ρ H → E.ct σ H
def S1 (O : Own) (ρ : List Slot) (st : Stmt) (x : ExK) (D : SD) : Prop :=
  ∀ H0 σ H, StOk X.K H0 O σ ρ H → Takes X (Wsem X.K H0 x) → ∀ E, EndsOk X.K H0 D E → Ws X st E σ H
def SW (O : Own) (ρ : List Slot) (st : List Stmt) (x : ExK) (D : SD) : Prop :=
  ∀ H0 σ H, StOk X.K H0 O σ ρ H → Takes X (Wsem X.K H0 x) → ∀ E, EndsOk X.K H0 D E → Wss X st E σ H
end
theorem EndsOk.base {K : PySem.W.Frag} {H0 H1 : Hp} {D : SD} {E : Ends} (h : EndsOk K H0 D E) (e : Same H0 H1) : EndsOk K H1 D E :=
  ⟨fun σ ρ O H q s => h.nx σ ρ O H q (s.rebase e), fun v s O H q o b r => h.rt v s O H q o (e.trans b) r, fun σ ρ O H q s => h.bk σ ρ O H q (s.rebase e), fun σ ρ O H q s => h.ct σ ρ O H q (s.rebase e)⟩
end Kn
/-! KnB: the structural rules. -/
namespace Kn
open PySem PySem.Spec PyProof.Rows
open L2 hiding St
def Slot.known : Slot → Bool
  | .unk => false
  | _ => true
section
variable {es : List Expr} {env : Env} {p : Pos}
theorem star_const {c : Const} {j} : starEach ((.Constant c j p) :: es) env = (false, eval (.Constant c j p) env) :: starEach es env := rfl
theorem star_name {n : Str} : starEach ((.Name n p) :: es) env = (false, eval (.Name n p) env) :: starEach es env := rfl
theorem star_call {f : Expr} {as} {kw} : starEach ((.Call f as kw p) :: es) env = (false, eval (.Call f as kw p) env) :: starEach es env := rfl
theorem star_attr {o : Expr} {n} : starEach ((.Attribute o n p) :: es) env = (false, eval (.Attribute o n p) env) :: starEach es env := rfl
theorem star_sub {o i : Expr} : starEach ((.Subscript o i p) :: es) env = (false, eval (.Subscript o i p) env) :: starEach es env := rfl
theorem star_bin {a : Expr} {o} {b : Expr} : starEach ((.BinOp a o b p) :: es) env = (false, eval (.BinOp a o b p) env) :: starEach es env := rfl
theorem star_un {o} {b : Expr} : starEach ((.UnaryOp o b p) :: es) env = (false, eval (.UnaryOp o b p) env) :: starEach es env := rfl
theorem star_cmp {a : Expr} {os} {bs} : starEach ((.Compare a os bs p) :: es) env = (false, eval (.Compare a os bs p) env) :: starEach es env := rfl
theorem star_bool {o} {bs} : starEach ((.BoolOp o bs p) :: es) env = (false, eval (.BoolOp o bs p) env) :: starEach es env := rfl
theorem star_if {a b c : Expr} : starEach ((.IfExp a b c p) :: es) env = (false, eval (.IfExp a b c p) env) :: starEach es env := rfl
theorem star_list {xs} : starEach ((.List xs p) :: es) env = (false, eval (.List xs p) env) :: starEach es env := rfl
theorem star_tup {xs} {j} : starEach ((.Tuple xs j p) :: es) env = (false, eval (.Tuple xs j p) env) :: starEach es env := rfl
theorem star_comp {e : Expr} {gs} {sc} : starEach ((.ListComp e gs sc p) :: es) env = (false, eval (.ListComp e gs sc p) env) :: starEach es env := rfl
theorem star_join {xs} : starEach ((.JoinedStr xs p) :: es) env = (false, eval (.JoinedStr xs p) env) :: starEach es env := rfl
end
section
variable {X : Cx} {O : Own} {ρ : List Slot} {x : ExK} {k k' : Slot → Own → Prop} {kl kl' : List Slot → Own → Prop} {kt kt' : Bool → Own → Prop} {e a b c : Expr} {es : List Expr} {pos : Pos} {D : SD}
theorem EW.mono (h : EW X O ρ e x k) (m : ∀ s O', k s O' → k' s O') : EW X O ρ e x k' := fun H0 σ H st tk Q q =>
  h H0 σ H st tk Q fun v H' s O' ks s' r => q v H' s O' (m _ _ ks) s' r
theorem TW.mono (h : TW X O ρ e x kt) (m : ∀ s O', kt s O' → kt' s O') : TW X O ρ e x kt' := fun H0 σ H st tk Q q =>
  h H0 σ H st tk Q fun v H' O' ks s' => q v H' O' (m _ _ ks) s'
theorem AW.mono (h : AW X O ρ es x kl) (m : ∀ s O', kl s O' → kl' s O') : AW X O ρ es x kl' := fun H0 σ H st tk Q q =>
  h H0 σ H st tk Q fun v H' s O' ks s' r => q v H' s O' (m _ _ ks) s' r
theorem EW.exc {y : ExK} (h : EW X O ρ e y k) (m : ∀ e ρ O, y e ρ O → x e ρ O) : EW X O ρ e x k := fun H0 σ H st tk Q q => h H0 σ H st (takes_x tk m) Q q
theorem known_env {K : PySem.W.Frag} {G : Hp} {s : Slot} (h : s.known = true) {o : Option V} (e : EnvOk K G o s) : ∃ v, o = some v ∧ SlOk K G v s := by
  cases s with
  | unk => cases h
  | dat d => exact e
  | own p => exact ⟨_, e, rfl⟩
/-! ### names and constants -/
theorem ew_var (i : Nat) {nm : Str} {s : Slot} (h : k s O) (hρ : ρ[i]? = some s := by rfl) (hk : s.known = true := by rfl) (hN : X.N[i]? = some nm := by rfl)
    (hv : Vis X.env.scope nm := by first | exact Or.inl rfl | exact Or.inr (Or.inl rfl) | exact Or.inr (Or.inr rfl)) (hd : (nm == ("__debug__" : Str)) = false := by decide)
    (hcd : (nm == ("__classdict__" : Str)) = false := by decide) : EW X O ρ (.Name nm pos) x k := fun H0 σ H st tk Q q => by
  obtain ⟨o, h1, h2⟩ := paired_get st.env hρ
  obtain ⟨v, h3, h4⟩ := known_env hk h2
  exact we_of (pe_var (i := i) hN hv hd hcd) ⟨v, by rw [h1, h3], q v H s O h st h4⟩
theorem ew_int {i : Int} {j} (h : k (.dat (.int i)) O) : EW X O ρ (.Constant (.int i) j pos) x k := fun H0 σ H st tk Q q => we_of pe_int (q _ H _ O h st (.int i))
theorem ew_bl {i : Bool} {j} (h : k (.dat (.bl i)) O) : EW X O ρ (.Constant (.bool i) j pos) x k := fun H0 σ H st tk Q q => we_of pe_bl (q _ H _ O h st (.bl i))
theorem ew_non {j} (h : k (.dat .non) O) : EW X O ρ (.Constant .none j pos) x k := fun H0 σ H st tk Q q => we_of pe_non (q _ H _ O h st .non)
theorem ew_str {z : Str} {j} (h : k (.dat (.str z)) O) : EW X O ρ (.Constant (.str z) j pos) x k := fun H0 σ H st tk Q q => we_of pe_str (q _ H _ O h st (.str z))
/-- a module's name that holds data -/
def GlobD (K : PySem.W.Frag) (mg : Str → Option Value) (nm : Str) (d : Dat) : Prop := ∃ v u, mg nm = some u ∧ RelV v u ∧ ∀ G, Rp K G v d
theorem ew_glob {nm : Str} {d : Dat} (g : GlobD X.K X.mg nm d) (h : k (.dat d) O) (hg : Gl X nm := by rfl) (hd : (nm == ("__debug__" : Str)) = false := by decide) : EW X O ρ (.Name nm pos) x k := fun H0 σ H st tk Q q => by
  obtain ⟨v, u, hm, r, hr⟩ := g
  exact we_of (pe_glob hg hm r hd) (q v H _ O h st (hr _))
/-! ### arguments, displays -/
theorem aw_nil (h : kl [] O) : AW X O ρ [] x kl := fun H0 σ H st tk Q q => wa_of pa_nil (q [] H [] O h st .nil)
theorem aw_cons (h : EW X O ρ a x fun s O1 => AW X O1 ρ es x fun ss O2 => kl (s :: ss) O2) (hs : starEach (a :: es) X.env = (false, eval a X.env) :: starEach es X.env := by first | exact star_const | exact star_name | exact star_call | exact star_attr | exact star_sub | exact star_bin | exact star_un | exact star_cmp | exact star_bool | exact star_if | exact star_list | exact star_tup | exact star_comp | exact star_join | rfl) : AW X O ρ (a :: es) x kl := fun H0 σ H st tk Q q =>
  wa_of (pa_cons pe_w pa_w hs) (h H0 σ H st tk _ fun v H1 s O1 h1 st1 r1 =>
    h1 (hid O1 H1) σ H1 st1.top (takes_base tk st1.base) _ fun vs H2 ss O2 h2 st2 r2 => q (v :: vs) H2 (s :: ss) O2 h2 (st2.rebase st1.base) (.cons (SlOk.mono st2.base r1) r2))
/-! ### operators by what they are given -/
def R1D (K : PySem.W.Frag) (r : V → Hp → VK → Prop) (s1 : Slot) (O : Own) (k : Slot → Own → Prop) : Prop :=
  ∀ H0 σ ρ H v1, StOk K H0 O σ ρ H → SlOk K (hid O H) v1 s1 → ∀ Q : VK, (∀ v H' s O', k s O' → StOk K H0 O' σ ρ H' → SlOk K (hid O' H') v s → Q v H') → r v1 H Q
def R2D (K : PySem.W.Frag) (r : R2) (s1 s2 : Slot) (O : Own) (k : Slot → Own → Prop) : Prop :=
  ∀ H0 σ ρ H v1 v2, StOk K H0 O σ ρ H → SlOk K (hid O H) v1 s1 → SlOk K (hid O H) v2 s2 → ∀ Q : VK, (∀ v H' s O', k s O' → StOk K H0 O' σ ρ H' → SlOk K (hid O' H') v s → Q v H') → r v1 v2 H Q
def RlD (K : PySem.W.Frag) (r : List V → Hp → VK → Prop) (ss : List Slot) (O : Own) (k : Slot → Own → Prop) : Prop :=
  ∀ H0 σ ρ H vs, StOk K H0 O σ ρ H → Paired (SlOk K (hid O H)) vs ss → ∀ Q : VK, (∀ v H' s O', k s O' → StOk K H0 O' σ ρ H' → SlOk K (hid O' H') v s → Q v H') → r vs H Q
def OpB (X : Cx) (f : Value → Value → Sem Value) (s1 s2 : Slot) (O : Own) (k : Slot → Own → Prop) : Prop := ∃ r, OpR X f r ∧ R2D X.K r s1 s2 O k
def OpU (X : Cx) (f : Value → Sem Value) (s1 : Slot) (O : Own) (k : Slot → Own → Prop) : Prop := ∃ r, UnR X f r ∧ R1D X.K r s1 O k
def IxB (X : Cx) (s1 s2 : Slot) (O : Own) (k : Slot → Own → Prop) : Prop := ∃ r, IxR X r ∧ R2D X.K r s1 s2 O k
def CaB (X : Cx) (f : Value) (ss : List Slot) (O : Own) (k : Slot → Own → Prop) : Prop := ∃ r, CallR X f r ∧ RlD X.K r ss O k
theorem two {P : Slot → Slot → Own → Prop} (h : EW X O ρ a x fun s1 O1 => EW X O1 ρ b x fun s2 O2 => P s1 s2 O2) {H0 : Hp} {σ : SV} {H : Hp} (st : StOk X.K H0 O σ ρ H) (tk : Takes X (Wsem X.K H0 x))
    {Q : V → V → Hp → Prop} (q : ∀ v1 v2 s1 s2 O2 H2, P s1 s2 O2 → StOk X.K H0 O2 σ ρ H2 → SlOk X.K (hid O2 H2) v1 s1 → SlOk X.K (hid O2 H2) v2 s2 → Q v1 v2 H2) :
    We X a σ H fun v1 H1 => We X b σ H1 fun v2 H2 => Q v1 v2 H2 :=
  h H0 σ H st tk _ fun v1 H1 s1 O1 h1 st1 r1 => h1 (hid O1 H1) σ H1 st1.top (takes_base tk st1.base) _ fun v2 H2 s2 O2 h2 st2 r2 =>
    q v1 v2 s1 s2 O2 H2 h2 (st2.rebase st1.base) (SlOk.mono st2.base r1) r2
theorem ew_bin {op : Operator} (h : EW X O ρ a x fun s1 O1 => EW X O1 ρ b x fun s2 O2 => OpB X (binaryOp op) s1 s2 O2 k) : EW X O ρ (.BinOp a op b pos) x k := fun H0 σ H st tk Q q => by
  refine ⟨fun pins s I => ?_⟩
  refine wpAny_BinOp (bin pe_w pe_w I (two h st tk (Q := fun v1 v2 H2 => ∃ r, OpR X (binaryOp op) r ∧ r v1 v2 H2 Q) fun v1 v2 s1 s2 O2 H2 hp st2 r1 r2 => ?_) fun v u s2 z y H2 I2 rx ry hq => ?_)
  · obtain ⟨r, ho, hr⟩ := hp
    exact ⟨r, ho, hr H0 σ ρ H2 v1 v2 st2 r1 r2 Q q⟩
  · obtain ⟨r, ho, hr⟩ := hq
    exact ho pins s2 σ H2 z y v u Q I2 rx ry hr
theorem ew_cmp {op : CmpOp} (h : EW X O ρ a x fun s1 O1 => EW X O1 ρ b x fun s2 O2 => OpB X (compareOp op) s1 s2 O2 k) (hm : behindInMarks op b = false := by first | exact nomark _ | rfl) : EW X O ρ (.Compare a [op] [b] pos) x k := fun H0 σ H st tk Q q => by
  have main : OpR X (compareOp op) (fun v1 v2 H2 Q => ∃ r, OpR X (compareOp op) r ∧ r v1 v2 H2 Q) := fun pins s σ H x y v u Q I rx ry ⟨r, ho, hr⟩ => ho pins s σ H x y v u Q I rx ry hr
  refine we_of (pe_cmpR main pe_w pe_w hm) (two h st tk (Q := fun v1 v2 H2 => ∃ r, OpR X (compareOp op) r ∧ r v1 v2 H2 Q) fun v1 v2 s1 s2 O2 H2 hp st2 r1 r2 => ?_)
  obtain ⟨r, ho, hr⟩ := hp
  exact ⟨r, ho, hr H0 σ ρ H2 v1 v2 st2 r1 r2 Q q⟩
theorem ew_un {op : UnaryOp} (h : EW X O ρ a x fun s1 O1 => OpU X (unaryOp op) s1 O1 k) : EW X O ρ (.UnaryOp op a pos) x k := fun H0 σ H st tk Q q => by
  have main : UnR X (unaryOp op) (fun v1 H2 Q => ∃ r, UnR X (unaryOp op) r ∧ r v1 H2 Q) := fun pins s σ H y v Q I rx ⟨r, ho, hr⟩ => ho pins s σ H y v Q I rx hr
  refine we_of (pe_un main pe_w) (h H0 σ H st tk _ fun v H1 s O1 hp st1 r1 => ?_)
  obtain ⟨r, ho, hr⟩ := hp
  exact ⟨r, ho, hr H0 σ ρ H1 v st1 r1 Q q⟩
theorem ew_ix (h : EW X O ρ a x fun s1 O1 => EW X O1 ρ b x fun s2 O2 => IxB X s1 s2 O2 k) (hs : PlainIx b := by intro _ _; rfl) : EW X O ρ (.Subscript a b pos) x k := fun H0 σ H st tk Q q => by
  have main : IxR X (fun v1 v2 H2 Q => ∃ r, IxR X r ∧ r v1 v2 H2 Q) := fun value slice pins s σ H z y v u Q I rx ry ⟨r, ho, hr⟩ hs => ho value slice pins s σ H z y v u Q I rx ry hr hs
  refine we_of (pe_ix main pe_w pe_w hs) (two h st tk (Q := fun v1 v2 H2 => ∃ r, IxR X r ∧ r v1 v2 H2 Q) fun v1 v2 s1 s2 O2 H2 hp st2 r1 r2 => ?_)
  obtain ⟨r, ho, hr⟩ := hp
  exact ⟨r, ho, hr H0 σ ρ H2 v1 v2 st2 r1 r2 Q q⟩
/-- a built-in function, a built-in class, called -/
theorem ew_callB {nm : Str} {id : String} {p : Pos} (hm : X.mg nm = none) (hv : bootBuiltins nm = some (.builtin id)) (h : AW X O ρ (e :: es) x fun ss O1 => CaB X (.builtin id) ss O1 k) (hg : Gl X nm := by rfl)
    (hn : nm ≠ "__name__" := by decide) (hd : (nm == ("__debug__" : Str)) = false := by decide) (hs : starEach (e :: es) X.env = (false, eval e X.env) :: starEach es X.env := by rfl) (hpl : (backTo pos (starEach es X.env)).any (·.1) = false := by rfl) :
    EW X O ρ (.Call (.Name nm p) (e :: es) [] pos) x k := fun H0 σ H st tk Q q => by
  have main : CallR X (.builtin id) (fun vs H2 Q => ∃ r, CallR X (.builtin id) r ∧ r vs H2 Q) := fun pins s σ H xs us Q I rx ⟨r, ho, hr⟩ => ho pins s σ H xs us Q I rx hr
  refine we_of (pe_callB main hg hm hv pa_w (hn := hn) (hdb := hd) (he := hs) (hpl := hpl)) (h H0 σ H st tk _ fun vs H1 ss O1 hp st1 r1 => ?_)
  obtain ⟨r, ho, hr⟩ := hp
  exact ⟨r, ho, hr H0 σ ρ H1 vs st1 r1 Q q⟩
theorem ew_callTy {nm : Str} {id : String} {p : Pos} (hm : X.mg nm = none) (hv : bootBuiltins nm = some (.type id)) (h : AW X O ρ (e :: es) x fun ss O1 => CaB X (.type id) ss O1 k) (hg : Gl X nm := by rfl)
    (hn : nm ≠ "__name__" := by decide) (hd : (nm == ("__debug__" : Str)) = false := by decide) (hs : starEach (e :: es) X.env = (false, eval e X.env) :: starEach es X.env := by rfl) (hpl : (backTo pos (starEach es X.env)).any (·.1) = false := by rfl) :
    EW X O ρ (.Call (.Name nm p) (e :: es) [] pos) x k := fun H0 σ H st tk Q q => by
  have main : CallR X (.type id) (fun vs H2 Q => ∃ r, CallR X (.type id) r ∧ r vs H2 Q) := fun pins s σ H xs us Q I rx ⟨r, ho, hr⟩ => ho pins s σ H xs us Q I rx hr
  refine we_of (pe_callTy main hg hm hv pa_w (hn := hn) (hdb := hd) (he := hs) (hpl := hpl)) (h H0 σ H st tk _ fun vs H1 ss O1 hp st1 r1 => ?_)
  obtain ⟨r, ho, hr⟩ := hp
  exact ⟨r, ho, hr H0 σ ρ H1 vs st1 r1 Q q⟩
/-! ### tests -/
theorem tw_val (h : EW X O ρ e x fun s O1 => ∃ t, s = .dat (.bl t) ∧ kt t O1) (he : ∀ whole, isTrue e X.env whole = (do let v ← whole; standAt e.pos; holding [v] (truthy v)) := by intro _; rfl) : TW X O ρ e x kt := fun H0 σ H st tk Q q =>
  wt_of (pt_val pe_w he) (h H0 σ H st tk _ fun v H1 s O1 ⟨t, e1, h1⟩ st1 r1 => by
    subst e1
    cases r1
    exact ⟨t, rfl, q t H1 O1 h1 st1⟩)
theorem tw_cmp {op : CmpOp} (h : EW X O ρ a x fun s1 O1 => EW X O1 ρ b x fun s2 O2 => OpB X (compareOp op) s1 s2 O2 fun s O3 => ∃ t, s = .dat (.bl t) ∧ kt t O3) (hm : behindInMarks op b = false := by first | exact nomark _ | rfl) : TW X O ρ (.Compare a [op] [b] pos) x kt := fun H0 σ H st tk Q q => by
  have main : OpR X (compareOp op) (fun v1 v2 H2 Q => ∃ r, OpR X (compareOp op) r ∧ r v1 v2 H2 Q) := fun pins s σ H x y v u Q I rx ry ⟨r, ho, hr⟩ => ho pins s σ H x y v u Q I rx ry hr
  refine wt_of (pt_cmpR main pe_w pe_w hm) (two h st tk (Q := fun v1 v2 H2 => ∃ r, OpR X (compareOp op) r ∧ r v1 v2 H2 fun z H3 => ∃ k, z = .bl k ∧ Q k H3) fun v1 v2 s1 s2 O2 H2 hp st2 r1 r2 => ?_)
  obtain ⟨r, ho, hr⟩ := hp
  exact ⟨r, ho, hr H0 σ ρ H2 v1 v2 st2 r1 r2 _ fun z H3 s O3 ⟨t, e1, h1⟩ st3 r3 => by
    subst e1
    cases r3
    exact ⟨t, rfl, q t H3 O3 h1 st3⟩⟩
theorem tw_not (h : TW X O ρ a x fun t O1 => kt (!t) O1) : TW X O ρ (.UnaryOp .Not a pos) x kt := fun H0 σ H st tk Q q =>
  wt_of (pt_not pt_w) (h H0 σ H st tk _ fun t H1 O1 h1 st1 => q (!t) H1 O1 h1 st1)
/-- truth of what is no bool -/
def TrD (s : Slot) (O : Own) (kt : Bool → Own → Prop) : Prop := match s with
  | .dat .non => kt false O
  | .dat (.bl t) => kt t O
  | .dat (.int i) => kt (i != 0) O
  | .dat (.str z) => z.length ≤ sizeLine ∧ kt (z.length != 0) O
  | .dat (.lst ds) => kt (!ds.isEmpty) O
  | .dat (.tup ds) => kt (!ds.isEmpty) O
  | .own p => match O p with
    | some (.lst ss) => kt (!ss.isEmpty) O
    | some (.dK ss) => kt (!ss.isEmpty) O
    | _ => False
  | _ => False
theorem isEmpty_rp {K : PySem.W.Frag} {G : Hp} {vs : List V} {ds : List Dat} (h : RpA K G vs ds) : vs.isEmpty = ds.isEmpty := by cases h <;> rfl
theorem isEmpty_pd {α β : Type} {F : α → β → Prop} {vs : List α} {ds : List β} (h : Paired F vs ds) : vs.isEmpty = ds.isEmpty := by cases h <;> rfl
theorem tw_truth (h : EW X O ρ e x fun s O1 => TrD s O1 kt) (he : ∀ whole, isTrue e X.env whole = (do let v ← whole; standAt e.pos; holding [v] (truthy v)) := by intro _; rfl) : TW X O ρ e x kt := fun H0 σ H st tk Q q => by
  refine wt_of (pt_truth pe_w he) (h H0 σ H st tk _ fun v H1 s O1 h1 st1 r1 => ?_)
  cases s with
  | unk => exact h1.elim
  | dat d =>
    cases d with
    | non => cases r1; exact ⟨false, rfl, q _ H1 O1 h1 st1⟩
    | bl t => cases r1; exact ⟨t, rfl, q _ H1 O1 h1 st1⟩
    | int i => cases r1; exact ⟨_, rfl, q _ H1 O1 h1 st1⟩
    | str z =>
      cases r1
      refine ⟨_, ⟨h1.1, rfl⟩, q _ H1 O1 ?_ st1⟩
      have e1 : ((z.length : Int) != 0) = (z.length != 0) := by
        cases hz : z.length with
        | zero => rfl
        | succ n => rfl
      rw [e1]
      exact h1.2
    | lst ds =>
      cases r1 with
      | lst h2 h3 => exact ⟨_, .inl ⟨_, sql_at ((of_hid h2).2), rfl⟩, q _ H1 O1 (by rw [isEmpty_rp h3]; exact h1) st1⟩
    | tup ds =>
      cases r1 with
      | tup h2 h3 => exact ⟨_, .inr (.inl ⟨_, sqt_mono (fun b o hb => (of_hid hb).2) h2, rfl⟩), q _ H1 O1 (by rw [isEmpty_rp h3]; exact h1) st1⟩
    | ins C fs => exact h1.elim
    | cls C => exact h1.elim
    | ty n => exact h1.elim
    | exc a dd fs => exact h1.elim
    | fro ds => exact h1.elim
    | slo C ds => exact h1.elim
    | tre C d1 g es d2 => exact h1.elim
  | own p =>
    have r1 : v = .ref p := r1
    subst r1
    have h1 : match O1 p with
      | some (.lst ss) => kt (!ss.isEmpty) O1
      | some (.dK ss) => kt (!ss.isEmpty) O1
      | _ => False := h1
    cases hc : O1 p with
    | none => rw [hc] at h1; exact h1.elim
    | some cl =>
      rw [hc] at h1
      obtain ⟨o, h2, h3⟩ := st1.own.cell p cl hc
      cases cl with
      | lst ss =>
        obtain ⟨vs, rfl, h3⟩ := h3
        exact ⟨_, .inl ⟨_, .inl (.inl h2), rfl⟩, q _ H1 O1 (by rw [isEmpty_pd h3]; exact h1) st1⟩
      | ins C dx fs => exact h1.elim
      | exo C d => exact h1.elim
      | exd ss => exact h1.elim
      | slt C dx ss => exact h1.elim
      | obj u => exact h1.elim
      | tpl ss => exact h1.elim
      | dK ss =>
        obtain ⟨vs, rfl, h3⟩ := h3
        exact ⟨_, .inr (.inr ⟨_, h2, rfl⟩), q _ H1 O1 (by rw [isEmpty_pd h3]; exact h1) st1⟩
/-- and, or as tests, whatever their whole is -/
def TWw (X : Cx) (O : Own) (ρ : List Slot) (e : Expr) (x : ExK) (kt : Bool → Own → Prop) : Prop :=
  ∀ H0 σ H, StOk X.K H0 O σ ρ H → Takes X (Wsem X.K H0 x) → ∀ Q : Bool → Hp → Prop, (∀ b H' O', kt b O' → StOk X.K H0 O' σ ρ H' → Q b H') → Bx (∀ (whole : Sem Value) (pins : List (Addr × Obj)) (s : Shared), Inv X pins σ H s →
    wpAny (model X.prog X.w) X.A (isTrue e X.env whole) (TP X pins σ Q) X.xe s)
theorem tw_w (h : TWw X O ρ e x kt) : TW X O ρ e x kt := fun H0 σ H st tk Q q => ⟨fun pins s I => (h H0 σ H st tk Q q).r _ pins s I⟩
def Wp (X : Cx) (e : Expr) : TT := fun σ H Q => Bx (∀ (whole : Sem Value) (pins : List (Addr × Obj)) (s : Shared), Inv X pins σ H s → wpAny (model X.prog X.w) X.A (isTrue e X.env whole) (TP X pins σ Q) X.xe s)
theorem pw_w : PW X e (Wp X e) := ⟨fun wh pins s σ H Q I h => h.r wh pins s I⟩
theorem wp_of {t : TT} (h : PW X e t) {σ : SV} {H : Hp} {Q : Bool → Hp → Prop} (q : t σ H Q) : Wp X e σ H Q := ⟨fun wh pins s I => h.run wh pins s σ H Q I q⟩
theorem tww_and1 (h : TW X O ρ a x kt) : TWw X O ρ (.BoolOp .And [a] pos) x kt := fun H0 σ H st tk Q q => wp_of (pw_and1 pt_w) (h H0 σ H st tk Q q)
theorem tww_or1 (h : TW X O ρ a x kt) : TWw X O ρ (.BoolOp .Or [a] pos) x kt := fun H0 σ H st tk Q q => wp_of (pw_or1 pt_w) (h H0 σ H st tk Q q)
theorem tww_and (h : TW X O ρ a x fun t O1 => (t = true → TWw X O1 ρ (.BoolOp .And (b :: es) pos) x kt) ∧ (t = false → kt false O1)) : TWw X O ρ (.BoolOp .And (a :: b :: es) pos) x kt := fun H0 σ H st tk Q q =>
  wp_of (pw_and pt_w pw_w) (h H0 σ H st tk _ fun t H1 O1 h1 st1 => by
    cases t with
    | true => exact (h1.1 rfl) H0 σ H1 st1 tk Q q
    | false => exact q false H1 O1 (h1.2 rfl) st1)
theorem tww_or (h : TW X O ρ a x fun t O1 => (t = true → kt true O1) ∧ (t = false → TWw X O1 ρ (.BoolOp .Or (b :: es) pos) x kt)) : TWw X O ρ (.BoolOp .Or (a :: b :: es) pos) x kt := fun H0 σ H st tk Q q =>
  wp_of (pw_or pt_w pw_w) (h H0 σ H st tk _ fun t H1 O1 h1 st1 => by
    cases t with
    | true => exact q true H1 O1 (h1.1 rfl) st1
    | false => exact (h1.2 rfl) H0 σ H1 st1 tk Q q)
/-! and, or, not as values of bools -/
theorem ew_one {op : BoolOp} (h : EW X O ρ a x k) : EW X O ρ (.BoolOp op [a] pos) x k := fun H0 σ H st tk Q q => we_of (pe_one pe_w) (h H0 σ H st tk Q q)
theorem ew_and (h : EW X O ρ a x fun s O1 => ∃ t, s = .dat (.bl t) ∧ (t = true → EW X O1 ρ (.BoolOp .And (b :: es) pos) x k) ∧ (t = false → k (.dat (.bl false)) O1)) : EW X O ρ (.BoolOp .And (a :: b :: es) pos) x k := fun H0 σ H st tk Q q =>
  we_of (pe_and pe_w pe_w) (h H0 σ H st tk _ fun v H1 s O1 ⟨t, e1, h1, h2⟩ st1 r1 => by
    subst e1
    cases r1
    refine ⟨t, rfl, ?_⟩
    cases t with
    | true => exact iteT ((h1 rfl) H0 σ H1 st1 tk Q q)
    | false => exact iteF (q _ H1 _ O1 (h2 rfl) st1 (.bl false)))
theorem ew_or (h : EW X O ρ a x fun s O1 => ∃ t, s = .dat (.bl t) ∧ (t = true → k (.dat (.bl true)) O1) ∧ (t = false → EW X O1 ρ (.BoolOp .Or (b :: es) pos) x k)) : EW X O ρ (.BoolOp .Or (a :: b :: es) pos) x k := fun H0 σ H st tk Q q =>
  we_of (pe_or pe_w pe_w) (h H0 σ H st tk _ fun v H1 s O1 ⟨t, e1, h1, h2⟩ st1 r1 => by
    subst e1
    cases r1
    refine ⟨t, rfl, ?_⟩
    cases t with
    | true => exact iteT (q _ H1 _ O1 (h1 rfl) st1 (.bl true))
    | false => exact iteF ((h2 rfl) H0 σ H1 st1 tk Q q))
theorem ew_notv (h : EW X O ρ a x fun s O1 => ∃ t, s = .dat (.bl t) ∧ k (.dat (.bl (!t))) O1) : EW X O ρ (.UnaryOp .Not a pos) x k := fun H0 σ H st tk Q q =>
  we_of (pe_not pe_w) (h H0 σ H st tk _ fun v H1 s O1 ⟨t, e1, h1⟩ st1 r1 => by
    subst e1
    cases r1
    exact ⟨t, rfl, q _ H1 _ O1 h1 st1 (.bl _)⟩)
theorem ew_if (h : TW X O ρ c x fun t O1 => (t = true → EW X O1 ρ a x k) ∧ (t = false → EW X O1 ρ b x k)) : EW X O ρ (.IfExp c a b pos) x k := fun H0 σ H st tk Q q =>
  we_of (pe_ifExp pt_w pe_w pe_w) (h H0 σ H st tk _ fun t H1 O1 h1 st1 => by
    cases t with
    | true => exact iteT ((h1.1 rfl) H0 σ H1 st1 tk Q q)
    | false => exact iteF ((h1.2 rfl) H0 σ H1 st1 tk Q q))
/-! ### statements -/
variable {st0 : Stmt} {sts body orelse : List Stmt}
theorem sw_nil (h : D.nx ρ O) : SW X O ρ [] x D := fun H0 σ H st tk E ok => wss_of pss_nil (ok.nx σ ρ O H h st)
theorem sw_cons (h : S1 X O ρ st0 x { D with nx := fun ρ' O' => SW X O' ρ' sts x D }) : SW X O ρ (st0 :: sts) x D := fun H0 σ H st tk E ok =>
  wss_of (pss_cons ps_w pss_w) (h H0 σ H st tk _ ⟨fun σ' ρ' O' H' q s => q H0 σ' H' s tk E ok, ok.rt, ok.bk, ok.ct⟩)
theorem sw_one (h : S1 X O ρ st0 x D) : SW X O ρ [st0] x D := fun H0 σ H st tk E ok => wss_of (pss_one ps_w) (h H0 σ H st tk E ok)
theorem s1_pass (h : D.nx ρ O) : S1 X O ρ (.Pass pos) x D := fun H0 σ H st tk E ok => ws_of ps_pass (ok.nx σ ρ O H h st)
theorem s1_break (h : D.bk ρ O) : S1 X O ρ (.Break pos) x D := fun H0 σ H st tk E ok => ws_of ps_break (ok.bk σ ρ O H h st)
theorem s1_continue (h : D.ct ρ O) : S1 X O ρ (.Continue pos) x D := fun H0 σ H st tk E ok => ws_of ps_continue (ok.ct σ ρ O H h st)
theorem s1_expr (h : EW X O ρ e x fun _ O' => D.nx ρ O') (hs : swapsWith e none pos.line X.env = pure false := by rfl) : S1 X O ρ (.Expr e pos) x D := fun H0 σ H st tk E ok => ws_of (ps_expr pe_w hs) (h H0 σ H st tk _ fun v H' s O' q st' r => ok.nx σ ρ O' H' q st')
theorem s1_ret (h : EW X O ρ e x D.rt) : S1 X O ρ (.Return (some e) pos) x D := fun H0 σ H st tk E ok => ws_of (ps_ret pe_w) (h H0 σ H st tk _ fun v H' s O' q st' r => ok.rt v s O' H' q st'.own st'.base r)
theorem s1_retN (h : D.rt (.dat .non) O) : S1 X O ρ (.Return none pos) x D := fun H0 σ H st tk E ok => ws_of ps_retN (ok.rt .non _ O H h st.own st.base .non)
theorem s1_if (h : TW X O ρ c x fun t O1 => (t = true → SW X O1 ρ body x D) ∧ (t = false → SW X O1 ρ orelse x D)) : S1 X O ρ (.If c body orelse pos) x D := fun H0 σ H st tk E ok =>
  ws_of (ps_if pt_w pss_w pss_w) (h H0 σ H st tk _ fun t H1 O1 h1 st1 => by
    cases t with
    | true => exact iteT ((h1.1 rfl) H0 σ H1 st1 tk E ok)
    | false => exact iteF ((h1.2 rfl) H0 σ H1 st1 tk E ok))
theorem s1_set (i : Nat) {nm : Str} {p : Pos} (h : EW X O ρ e x fun s O' => D.nx (ρ.set i s) O') (hN : X.N.Nodup) (hi : X.N[i]? = some nm := by rfl) (hx : Loc X.env.scope nm := by first | exact .inl rfl | exact .inr rfl)
    (hs : swapsWith e (some (.Name nm p)) pos.line X.env = pure false := by rfl) (hf : X.fn nm = true ∨ X.env.scope.names.lookup nm = some .local := by first | exact .inl rfl | exact .inr rfl | assumption) :
    S1 X O ρ (.Assign [.Name nm p] e pos) x D := fun H0 σ H st tk E ok =>
  ws_of (ps_set hN hi hx pe_w hs hf) (h H0 σ H st tk _ fun v H' s O' q st' r => ok.nx _ _ O' H' q (st'.set r))
/-! targets -/
def Wg (X : Cx) (tg : Expr) : TG := fun v σ H Q => Bx (∀ (pins : List (Addr × Obj)) (s : Shared) (u : Value), Inv X pins σ H s → RelV v u → wpAny (model X.prog X.w) X.A (assign tg X.env u) (fun _ s' => ∃ σ' H', Inv X pins σ' H' s' ∧ Q σ' H') X.xe s)
theorem pg_w {tg : Expr} : PG X tg (Wg X tg) := ⟨fun pins s σ H v u Q I r h => h.r pins s u I r⟩
theorem wg_of {tg : Expr} {t : TG} (h : PG X tg t) {v : V} {σ : SV} {H : Hp} {Q : SV → Hp → Prop} (q : t v σ H Q) : Wg X tg v σ H Q := ⟨fun pins s u I r => h.run pins s σ H v u Q I r q⟩
def GW (X : Cx) (O : Own) (ρ : List Slot) (tg : Expr) (s : Slot) (x : ExK) (k : List Slot → Own → Prop) : Prop :=
  ∀ H0 σ H v, StOk X.K H0 O σ ρ H → SlOk X.K (hid O H) v s → Takes X (Wsem X.K H0 x) → ∀ Q : SV → Hp → Prop, (∀ σ' H' ρ' O', k ρ' O' → StOk X.K H0 O' σ' ρ' H' → Q σ' H') → Wg X tg v σ H Q
theorem gw_name (i : Nat) {nm : Str} {s : Slot} (h : kl (ρ.set i s) O) (hN : X.N.Nodup) (hi : X.N[i]? = some nm := by rfl) (hx : Loc X.env.scope nm := by first | exact .inl rfl | exact .inr rfl)
    (hf : X.fn nm = true ∨ X.env.scope.names.lookup nm = some .local := by first | exact .inl rfl | exact .inr rfl | assumption) : GW X O ρ (.Name nm pos) s x kl := fun H0 σ H v st r tk Q q =>
  wg_of (pg_name hN hi hx hf) (q _ H _ O h (st.set r))
/-- several targets -/
def GsW (X : Cx) (O : Own) (ρ : List Slot) (tgs : List Expr) (ss : List Slot) (x : ExK) (k : List Slot → Own → Prop) : Prop :=
  ∀ H0 σ H vs, StOk X.K H0 O σ ρ H → Paired (SlOk X.K (hid O H)) vs ss → Takes X (Wsem X.K H0 x) → ∀ Q : SV → Hp → Prop, (∀ σ' H' ρ' O', k ρ' O' → StOk X.K H0 O' σ' ρ' H' → Q σ' H') →
    Bx (∀ (pins : List (Addr × Obj)) (s : Shared) (us : List Value), Inv X pins σ H s → Vals vs us → wpAny (model X.prog X.w) X.A (assignInOrder ((assignEach tgs X.env).map (·.2)) us) (fun _ s' => ∃ σ' H', Inv X pins σ' H' s' ∧ Q σ' H') X.xe s)
def Wgs (X : Cx) (tgs : List Expr) : TGs := fun vs σ H Q => Bx (∀ (pins : List (Addr × Obj)) (s : Shared) (us : List Value), Inv X pins σ H s → Vals vs us → wpAny (model X.prog X.w) X.A (assignInOrder ((assignEach tgs X.env).map (·.2)) us) (fun _ s' => ∃ σ' H', Inv X pins σ' H' s' ∧ Q σ' H') X.xe s)
theorem pgs_w {tgs : List Expr} : PGs X tgs (Wgs X tgs) := ⟨fun pins s σ H vs us Q I r h => h.r pins s us I r⟩
theorem gsw_nil (h : kl ρ O) : GsW X O ρ [] [] x kl := fun H0 σ H vs st r tk Q q => ⟨fun pins s us I rv => by
  cases r
  exact pgs_nil.run pins s σ H [] us Q I rv ⟨rfl, q σ H ρ O h st⟩⟩
theorem gsw_cons {tg : Expr} {tgs : List Expr} {s : Slot} {ss : List Slot} (h : GW X O ρ tg s x fun ρ1 O1 => GsW X O1 ρ1 tgs ss x kl) (hs : (assignEach (tg :: tgs) X.env).map (·.2) = assign tg X.env :: (assignEach tgs X.env).map (·.2) := by rfl) : GsW X O ρ (tg :: tgs) (s :: ss) x kl := fun H0 σ H vs st r tk Q q => ⟨fun pins sh us I rv => by
  cases r with
  | cons r1 r2 =>
    refine (pgs_cons pg_w pgs_w hs).run pins sh σ H _ us Q I rv ⟨_, _, rfl, h (hid O H) σ H _ st.top r1 (takes_base tk st.base) _ fun σ1 H1 ρ1 O1 h1 st1 => ?_⟩
    exact h1 H0 σ1 H1 _ (st1.rebase st.base) (pmap (fun _ _ z => SlOk.mono st1.base z) r2) tk Q q⟩
theorem gw_tup {tgs : List Expr} {kk : Nat} {ds : List Dat} (h : GsW X O ρ tgs (ds.map .dat) x kl) (hc : X.calm = true := by rfl) (hn : (assignEach tgs X.env).length = ds.length := by rfl) (hst : (assignEach tgs X.env).findIdx? (·.1) = none := by rfl) :
    GW X O ρ (.Tuple tgs kk pos) (.dat (.tup ds)) x kl := fun H0 σ H v st r tk Q q => by
  cases r with
  | tup h1 h2 =>
    refine wg_of (pg_tup hc pgs_w hn hst) ⟨_, _, rfl, sqt_mono (fun b o hb => (of_hid hb).2) h1, RpA.length h2, ?_⟩
    exact h H0 σ H _ st h2.paired tk Q q
theorem s1_asg {tg : Expr} (h : EW X O ρ e x fun s O' => GW X O' ρ tg s x D.nx) (hs : swapsWithSole [tg] e pos.line X.env = pure false := by rfl) (hw : swappedStores [tg] e X.env = pure none := by rfl)
    (h1 : (assignEach [tg] X.env).map (·.2) = [assign tg X.env] := by rfl) : S1 X O ρ (.Assign [tg] e pos) x D := fun H0 σ H st tk E ok =>
  ws_of (ps_asg pe_w pg_w hs hw h1) (h H0 σ H st tk _ fun v H' s O' q st' r => q H0 σ H' v st' r tk _ fun σ' H'' ρ' O'' q2 st2 => ok.nx σ' ρ' O'' H'' q2 st2)
/-- a, b = c, d with plain local names -/
theorem s1_par (i j : Nat) {nx ny : Str} {px py pt : Pos} {kt1 k2 pt2} (h : AW X O ρ [a, b] x fun ss O' => ∃ s1 s2, ss = [s1, s2] ∧ D.nx ((ρ.set i s1).set j s2) O') (hN : X.N.Nodup) (hc : X.calm = true := by rfl) (hi : X.N[i]? = some nx := by rfl) (hj : X.N[j]? = some ny := by rfl) (hij : i ≠ j := by decide)
    (hx : X.env.scope.names.lookup nx = some .local := by rfl) (hy : X.env.scope.names.lookup ny = some .local := by rfl)
    (hw : swappedStores [.Tuple [.Name nx px, .Name ny py] kt1 pt] (.Tuple [a, b] k2 pt2) X.env = pure (some [nx, ny]) := by rfl)
    (hs : swapsWithSole [.Tuple [.Name nx px, .Name ny py] kt1 pt] (.Tuple [a, b] k2 pt2) pos.line X.env = pure false := by rfl) :
    S1 X O ρ (.Assign [.Tuple [.Name nx px, .Name ny py] kt1 pt] (.Tuple [a, b] k2 pt2) pos) x D := fun H0 σ H st tk E ok =>
  ws_of (ps_par hc hN hi hj hij hx hy pa_w hw hs) (h H0 σ H st tk _ fun vs H' ss O' ⟨s1, s2, e1, q⟩ st' r => by
    subst e1
    cases r with
    | cons r1 r =>
      cases r with
      | cons r2 r =>
        cases r
        exact ⟨_, _, rfl, ok.nx _ _ O' H' q ((st'.set r1).set r2)⟩)
end
end Kn
/-! KnC: what is walked, loops, comprehensions, displays. -/
namespace Kn
open PySem PySem.Spec PyProof.Rows
open L2 hiding St
/-! ### what is walked: a row of data, fixed ahead -/
def ItD (K : PySem.W.Frag) (G : Hp) (J : It) (ds : List Dat) : Prop := ∀ O H, OwnOk K O H → Same G (hid O H) → ∀ i,
  (∀ d, ds[i]? = some d → J.go i H ∧ ∀ v H', J.yld i H v H' → Same H H' ∧ Rp K (hid O H') v d) ∧ (ds[i]? = none → J.stop i H)
def Wi (X : Cx) (tg iter : Expr) : TI := fun σ H R => Bx (∀ (pins : List (Addr × Obj)) (s : Shared), Inv X pins σ H s →
  wpAny (model X.prog X.w) X.A (eval iter X.env) (fun v s1 => wpAny (model X.prog X.w) X.A (pyIter v) (PIE X pins σ tg R) X.xe s1) X.xe s)
def IW (X : Cx) (O : Own) (ρ : List Slot) (tg iter : Expr) (x : ExK) (k : List Dat → Own → Prop) : Prop :=
  ∀ H0 σ H, StOk X.K H0 O σ ρ H → Takes X (Wsem X.K H0 x) → ∀ R : It → Hp → Prop, (∀ J H' ds O', k ds O' → StOk X.K H0 O' σ ρ H' → ItD X.K (hid O' H') J ds → R J H') → Wi X tg iter σ H R
theorem hid_le {O : Own} {H : Hp} : Same (hid O H) H := fun b o h => (of_hid h).2
theorem itd_list {K : PySem.W.Frag} {G : Hp} {a : Addr} {xs : List V} {ds : List Dat} (h : SqL K G a xs) (r : RpA K G xs ds) : ItD K G (Itl K a) ds := fun O H ok sm i => by
  have hS : SqL K H a xs := sql_mono (sm.trans hid_le) h
  refine ⟨fun d hd => ?_, fun hn => ⟨xs, hS, by rw [r.length]; exact List.getElem?_eq_none_iff.mp hn⟩⟩
  obtain ⟨v, h1, h2⟩ := r.get hd
  refine ⟨⟨xs, v, hS, h1⟩, fun v' H' hy => ?_⟩
  obtain ⟨rfl, hv⟩ := hy
  refine ⟨Same.refl _, ?_⟩
  have e : v = v' := Option.some.inj (h1.symm.trans (hv xs hS))
  rw [← e]
  exact Rp.mono sm h2
theorem itd_tup {K : PySem.W.Frag} {G : Hp} {a : Addr} {xs : List V} {ds : List Dat} (h : SqT K G a xs) (r : RpA K G xs ds) : ItD K G (Itt K a) ds := fun O H ok sm i => by
  have hS : SqT K H a xs := sqt_mono (sm.trans hid_le) h
  refine ⟨fun d hd => ?_, fun hn => ⟨xs, hS, by rw [r.length]; exact List.getElem?_eq_none_iff.mp hn⟩⟩
  obtain ⟨v, h1, h2⟩ := r.get hd
  refine ⟨⟨xs, v, hS, h1⟩, fun v' H' hy => ?_⟩
  obtain ⟨rfl, hv⟩ := hy
  refine ⟨Same.refl _, ?_⟩
  have e : v = v' := Option.some.inj (h1.symm.trans (hv xs hS))
  rw [← e]
  exact Rp.mono sm h2
def rangeD (lo : Int) (n : Nat) : List Dat := (List.range n).map fun (i : Nat) => Dat.int (lo + (i : Int))
theorem rangeD_len (lo : Int) (n : Nat) : (rangeD lo n).length = n := by unfold rangeD; rw [List.length_map, List.length_range]
theorem rangeD_at {lo : Int} {n i : Nat} {d : Dat} (h : (rangeD lo n)[i]? = some d) : i < n ∧ d = .int (lo + (i : Int)) := by
  have hl : i < (rangeD lo n).length := (List.getElem?_eq_some_iff.mp h).1
  rw [rangeD_len] at hl
  refine ⟨hl, ?_⟩
  unfold rangeD at h
  rw [List.getElem?_map, List.getElem?_range hl] at h
  exact (Option.some.inj h).symm
theorem itd_range {K : PySem.W.Frag} {G : Hp} {lo : Int} {n : Nat} : ItD K G (Itr lo n) (rangeD lo n) := fun O H ok sm i => by
  refine ⟨fun d hd => ?_, fun hn => ?_⟩
  · obtain ⟨h1, rfl⟩ := rangeD_at hd
    refine ⟨h1, fun v H' hy => ?_⟩
    obtain ⟨rfl, rfl⟩ := hy
    exact ⟨Same.refl _, .int _⟩
  · have h1 := List.getElem?_eq_none_iff.mp hn
    rw [rangeD_len] at h1
    exact h1
def signsD (z : Str) : List Dat := z.cps.toList.map fun c => .str ⟨#[c]⟩
theorem itd_str {K : PySem.W.Frag} {G : Hp} {z : Str} : ItD K G (Its z) (signsD z) := fun O H ok sm i => by
  refine ⟨fun d hd => ?_, fun hn => ?_⟩
  · unfold signsD at hd
    rw [List.getElem?_map] at hd
    cases hc : z.cps.toList[i]? with
    | none => rw [hc] at hd; cases hd
    | some c =>
      rw [hc] at hd
      cases hd
      have hi : i < z.cps.toList.length := (List.getElem?_eq_some_iff.mp hc).1
      refine ⟨by rw [Array.length_toList] at hi; exact hi, fun v H' hy => ?_⟩
      obtain ⟨rfl, c', hc', rfl⟩ := hy
      have e : c = c' := by
        rw [Array.getElem?_toList] at hc
        exact Option.some.inj (hc.symm.trans hc')
      rw [e]
      exact ⟨Same.refl _, .str _⟩
  · have h1 := List.getElem?_eq_none_iff.mp hn
    unfold signsD at h1
    rw [List.length_map, Array.length_toList] at h1
    exact h1
def enumD (ds : List Dat) : List Dat := ds.mapIdx fun i d => .tup [.int (i : Int), d]
theorem itd_enum {K : PySem.W.Frag} {G : Hp} {a : Addr} {xs : List V} {ds : List Dat} (h : SqL K G a xs) (r : RpA K G xs ds) : ItD K G (Ite K a) (enumD ds) := fun O H ok sm i => by
  have hS : SqL K H a xs := sql_mono (sm.trans hid_le) h
  refine ⟨fun d hd => ?_, fun hn => ⟨xs, hS, ?_⟩⟩
  · unfold enumD at hd
    rw [List.getElem?_mapIdx] at hd
    cases hc : ds[i]? with
    | none => rw [hc] at hd; cases hd
    | some d0 =>
      rw [hc] at hd
      cases hd
      obtain ⟨v, h1, h2⟩ := r.get hc
      refine ⟨⟨xs, v, hS, h1⟩, fun v' H' hy => ?_⟩
      obtain ⟨T, x, rfl, nT, rfl, hv⟩ := hy
      have e : v = x := Option.some.inj (h1.symm.trans (hv xs hS))
      rw [← e]
      refine ⟨same_new nT, .tup (.inl (.inl ?_)) (.cons (.int _) (.cons (Rp.mono (sm.trans (hid_same (same_new nT))) h2) .nil))⟩
      rw [hid_none (own_free ok nT), upd_same]
  · have h1 := List.getElem?_eq_none_iff.mp hn
    unfold enumD at h1
    rw [List.length_mapIdx] at h1
    rw [r.length]; exact h1
def zipD (ds es : List Dat) : List Dat := List.zipWith (fun d e => .tup [d, e]) ds es
theorem itd_zip {K : PySem.W.Frag} {G : Hp} {a b : Addr} {xs ys : List V} {ds es : List Dat} (h : SqL K G a xs) (r : RpA K G xs ds) (h' : SqL K G b ys) (r' : RpA K G ys es) : ItD K G (Itz K a b) (zipD ds es) := fun O H ok sm i => by
  have hS : SqL K H a xs := sql_mono (sm.trans hid_le) h
  have hT : SqL K H b ys := sql_mono (sm.trans hid_le) h'
  refine ⟨fun d hd => ?_, fun hn => ⟨xs, ys, hS, hT, ?_⟩⟩
  · unfold zipD at hd
    rw [List.getElem?_zipWith] at hd
    cases hc : ds[i]? with
    | none => rw [hc] at hd; cases hd
    | some d0 =>
      cases hc' : es[i]? with
      | none => rw [hc, hc'] at hd; cases hd
      | some e0 =>
        rw [hc, hc'] at hd
        cases hd
        obtain ⟨v, h1, h2⟩ := r.get hc
        obtain ⟨u, h3, h4⟩ := r'.get hc'
        refine ⟨⟨xs, ys, v, u, hS, hT, h1, h3⟩, fun v' H' hy => ?_⟩
        obtain ⟨T, z1, z2, rfl, nT, rfl, hv, hu⟩ := hy
        have e : v = z1 := Option.some.inj (h1.symm.trans (hv xs hS))
        have e' : u = z2 := Option.some.inj (h3.symm.trans (hu ys hT))
        rw [← e, ← e']
        refine ⟨same_new nT, .tup (.inl (.inl ?_)) (.cons (Rp.mono (sm.trans (hid_same (same_new nT))) h2) (.cons (Rp.mono (sm.trans (hid_same (same_new nT))) h4) .nil))⟩
        rw [hid_none (own_free ok nT), upd_same]
  · have h1 := List.getElem?_eq_none_iff.mp hn
    unfold zipD at h1
    rw [List.length_zipWith] at h1
    rw [r.length, r'.length]; omega
theorem itd_rev {K : PySem.W.Frag} {G : Hp} {a : Addr} {xs : List V} {ds : List Dat} (h : SqL K G a xs) (r : RpA K G xs ds) : ItD K G (Itv K a xs.length) ds.reverse := fun O H ok sm i => by
  have hS : SqL K H a xs := sql_mono (sm.trans hid_le) h
  have hl := r.length
  refine ⟨fun d hd => ?_, fun hn => ?_⟩
  · have hi : i < ds.reverse.length := (List.getElem?_eq_some_iff.mp hd).1
    rw [List.length_reverse] at hi
    rw [List.getElem?_reverse hi, ← hl] at hd
    obtain ⟨v, h1, h2⟩ := r.get hd
    refine ⟨⟨by omega, xs, v, hS, h1⟩, fun v' H' hy => ?_⟩
    obtain ⟨rfl, hv⟩ := hy
    refine ⟨Same.refl _, ?_⟩
    have e : v = v' := Option.some.inj (h1.symm.trans (hv xs hS))
    rw [← e]
    exact Rp.mono sm h2
  · have h1 := List.getElem?_eq_none_iff.mp hn
    rw [List.length_reverse] at h1
    show xs.length ≤ i
    omega
section
variable {X : Cx} {O : Own} {ρ : List Slot} {x : ExK} {k k' : Slot → Own → Prop} {kl kl' : List Slot → Own → Prop} {kd : List Dat → Own → Prop} {kt kt' : Bool → Own → Prop} {e a b c tg iter : Expr} {es : List Expr} {pos p : Pos} {D : SD}
theorem pi_w : PI X tg iter (Wi X tg iter) := ⟨fun pins s σ H R I h => h.r pins s I⟩
theorem wi_of {t : TI} (h : PI X tg iter t) {σ : SV} {H : Hp} {R : It → Hp → Prop} (q : t σ H R) : Wi X tg iter σ H R := ⟨fun pins s I => h.run pins s σ H R I q⟩
theorem iw_list (h : EW X O ρ e x fun s O' => ∃ ds, s = .dat (.lst ds) ∧ kd ds O') : IW X O ρ tg e x kd := fun H0 σ H st tk R q =>
  wi_of (pi_list pe_w) (h H0 σ H st tk _ fun v H' s O' ⟨ds, e1, h1⟩ st' r => by
    subst e1
    cases r with
    | lst h2 h3 => exact ⟨_, rfl, ⟨_, sql_at (hid_le _ _ h2)⟩, q _ H' ds O' h1 st' (itd_list (sql_at h2) h3)⟩)
theorem iw_fro (h : EW X O ρ e x fun s O' => ∃ ds, s = .dat (.fro ds) ∧ kd ds O') : IW X O ρ tg e x kd := fun H0 σ H st tk R q =>
  wi_of (pi_list pe_w) (h H0 σ H st tk _ fun v H' s O' ⟨ds, e1, h1⟩ st' r => by
    subst e1
    cases r with
    | fro h2 h3 => exact ⟨_, rfl, ⟨_, sql_mono hid_le h2⟩, q _ H' ds O' h1 st' (itd_list h2 h3)⟩)
theorem iw_tup (h : EW X O ρ e x fun s O' => ∃ ds, s = .dat (.tup ds) ∧ kd ds O') : IW X O ρ tg e x kd := fun H0 σ H st tk R q =>
  wi_of (pi_tup pe_w) (h H0 σ H st tk _ fun v H' s O' ⟨ds, e1, h1⟩ st' r => by
    subst e1
    cases r with
    | tup h2 h3 => exact ⟨_, rfl, ⟨_, sqt_mono hid_le h2⟩, q _ H' ds O' h1 st' (itd_tup h2 h3)⟩)
theorem iw_str (h : EW X O ρ e x fun s O' => ∃ z, s = .dat (.str z) ∧ kd (signsD z) O') : IW X O ρ tg e x kd := fun H0 σ H st tk R q =>
  wi_of (pi_str pe_w) (h H0 σ H st tk _ fun v H' s O' ⟨z, e1, h1⟩ st' r => by
    subst e1
    cases r
    exact ⟨z, rfl, q _ H' _ O' h1 st' itd_str⟩)
theorem iw_range1 (hm : X.mg "range" = none) (h : AW X O ρ [a] x fun ss O' => ∃ n : Int, ss = [.dat (.int n)] ∧ (-(2 ^ 62) ≤ n ∧ n < 2 ^ 62) ∧ kd (rangeD 0 n.toNat) O') (hg : Gl X "range" := by rfl) (hs : starEach [a] X.env = [(false, eval a X.env)] := by rfl) :
    IW X O ρ tg (.Call (.Name "range" p) [a] [] pos) x kd := fun H0 σ H st tk R q =>
  wi_of (pi_range1 hg hm pa_w hs) (h H0 σ H st tk _ fun vs H' ss O' ⟨n, e1, h1, h2⟩ st' r => by
    subst e1
    cases r with
    | cons r1 r2 =>
      cases r1
      cases r2
      exact ⟨n, rfl, h1.1, h1.2, q _ H' _ O' h2 st' itd_range⟩)
theorem iw_range2 (hm : X.mg "range" = none) (h : AW X O ρ [a, b] x fun ss O' => ∃ m n : Int, ss = [.dat (.int m), .dat (.int n)] ∧ (-(2 ^ 62) ≤ m ∧ m < 2 ^ 62 ∧ -(2 ^ 62) ≤ n ∧ n < 2 ^ 62) ∧ kd (rangeD m (n - m).toNat) O') (hg : Gl X "range" := by rfl)
    (hs : starEach [a, b] X.env = [(false, eval a X.env), (false, eval b X.env)] := by rfl) (hs2 : starEach [b] X.env = [(false, eval b X.env)] := by rfl) :
    IW X O ρ tg (.Call (.Name "range" p) [a, b] [] pos) x kd := fun H0 σ H st tk R q =>
  wi_of (pi_range2 hg hm pa_w hs hs2) (h H0 σ H st tk _ fun vs H' ss O' ⟨m, n, e1, h1, h2⟩ st' r => by
    subst e1
    cases r with
    | cons r1 r2 =>
      cases r1
      cases r2 with
      | cons r2 r3 =>
        cases r2
        cases r3
        exact ⟨m, n, rfl, h1, q _ H' _ O' h2 st' itd_range⟩)
theorem iw_enum {elts : List Expr} {kk : Nat} {tpos : Pos} (hm : X.mg "enumerate" = none) (h : AW X O ρ [e] x fun ss O' => ∃ ds, ss = [.dat (.lst ds)] ∧ kd (enumD ds) O') (hg : Gl X "enumerate" := by rfl) (hs : starEach [e] X.env = [(false, eval e X.env)] := by rfl) :
    IW X O ρ (.Tuple elts kk tpos) (.Call (.Name "enumerate" p) [e] [] pos) x kd := fun H0 σ H st tk R q =>
  wi_of (pi_enum hg hm pa_w hs) (h H0 σ H st tk _ fun vs H' ss O' ⟨ds, e1, h1⟩ st' r => by
    subst e1
    cases r with
    | cons r1 r2 =>
      cases r2
      cases r1 with
      | lst h2 h3 => exact ⟨_, _, rfl, sql_at (hid_le _ _ h2), q _ H' _ O' h1 st' (itd_enum (sql_at h2) h3)⟩)
theorem iw_zip {elts : List Expr} {kk : Nat} {tpos : Pos} (hm : X.mg "zip" = none) (h : AW X O ρ [a, b] x fun ss O' => ∃ ds es, ss = [.dat (.lst ds), .dat (.lst es)] ∧ kd (zipD ds es) O') (hg : Gl X "zip" := by rfl)
    (hs : starEach [a, b] X.env = (false, eval a X.env) :: starEach [b] X.env := by rfl) (hpl : (backTo pos (starEach [b] X.env)).any (·.1) = false := by rfl) :
    IW X O ρ (.Tuple elts kk tpos) (.Call (.Name "zip" p) [a, b] [] pos) x kd := fun H0 σ H st tk R q =>
  wi_of (pi_zip hg hm pa_w hs hpl) (h H0 σ H st tk _ fun vs H' ss O' ⟨ds, es, e1, h1⟩ st' r => by
    subst e1
    cases r with
    | cons r1 r2 =>
      cases r2 with
      | cons r2 r3 =>
        cases r3
        cases r1 with
        | lst h2 h3 =>
          cases r2 with
          | lst h4 h5 => exact ⟨_, _, _, _, rfl, sql_at (hid_le _ _ h2), sql_at (hid_le _ _ h4), q _ H' _ O' h1 st' (itd_zip (sql_at h2) h3 (sql_at h4) h5)⟩)
theorem iw_rev (hm : X.mg "reversed" = none) (h : AW X O ρ [e] x fun ss O' => ∃ ds, ss = [.dat (.lst ds)] ∧ kd ds.reverse O') (hg : Gl X "reversed" := by rfl) (hs : starEach [e] X.env = [(false, eval e X.env)] := by rfl) :
    IW X O ρ tg (.Call (.Name "reversed" p) [e] [] pos) x kd := fun H0 σ H st tk R q =>
  wi_of (pi_reversed hg hm pa_w hs) (h H0 σ H st tk _ fun vs H' ss O' ⟨ds, e1, h1⟩ st' r => by
    subst e1
    cases r with
    | cons r1 r2 =>
      cases r2
      cases r1 with
      | lst h2 h3 => exact ⟨_, _, rfl, sql_at (hid_le _ _ h2), q _ H' _ O' h1 st' (itd_rev (sql_at h2) h3)⟩)
/-! ### for, while -/
theorem s1_for {body : List Stmt} (hpo : PassesOwn (model X.prog X.w) X.A X.env X.xe)
    (h : IW X O ρ tg iter x fun ds O1 => ∃ J : Nat → List Slot → Own → Prop, J 0 ρ O1 ∧
      (∀ i d ρ' O', J i ρ' O' → ds[i]? = some d → GW X O' ρ' tg (.dat d) x fun ρ2 O2 => SW X O2 ρ2 body x { nx := J (i + 1), rt := D.rt, bk := D.nx, ct := J (i + 1) }) ∧
      ∀ ρ' O', J ds.length ρ' O' → D.nx ρ' O')
    (hc : X.calm = true := by rfl) (hs : ∀ x, foldedSetIterable iter X.env x = pure x := by intro _; rfl) : S1 X O ρ (.For tg iter body [] pos) x D := fun H0 σ H st tk E ok => by
  refine ws_of (ps_for hpo hc pi_w pg_w pss_w hs) (h H0 σ H st tk _ fun J0 H1 ds O1 ⟨J, j0, js, je⟩ st1 it => ?_)
  have tkB := takes_base tk st1.base
  have okB := ok.base st1.base
  refine ⟨fun i m σ' H' => i + m = ds.length ∧ ∃ ρ' O', J i ρ' O' ∧ StOk X.K (hid O1 H1) O' σ' ρ' H', ⟨ds.length, by omega, ρ, O1, j0, st1.top⟩, fun i m σ' H' hW => ?_⟩
  obtain ⟨em, ρ', O', hj, st'⟩ := hW
  obtain ⟨i1, i2⟩ := it O' H' st'.own st'.base i
  cases hd : ds[i]? with
  | none =>
    have hi : ds.length ≤ i := List.getElem?_eq_none_iff.mp hd
    have ei : i = ds.length := by omega
    subst ei
    exact .inl ⟨i2 hd, okB.nx σ' ρ' O' H' (je ρ' O' hj) st'⟩
  | some d =>
    have hi : i < ds.length := (List.getElem?_eq_some_iff.mp hd).1
    obtain ⟨g1, g2⟩ := i1 d hd
    refine .inr ⟨g1, fun σ'' H'' => ∃ ρ'' O'', J (i + 1) ρ'' O'' ∧ StOk X.K (hid O1 H1) O'' σ'' ρ'' H'', fun σ'' H'' hN => ⟨m - 1, by omega, by omega, hN⟩, fun v H2 hy => ?_⟩
    obtain ⟨s1, r1⟩ := g2 v H2 hy
    refine js i d ρ' O' hj hd (hid O1 H1) σ' H2 v (st'.grow s1) r1 tkB _ fun σ3 H3 ρ3 O3 h3 st3 => ?_
    exact h3 (hid O1 H1) σ3 H3 st3 tkB _ ⟨fun σ4 ρ4 O4 H4 q s => ⟨ρ4, O4, q, s⟩, okB.rt, okB.nx, fun σ4 ρ4 O4 H4 q s => ⟨ρ4, O4, q, s⟩⟩
theorem s1_while {body : List Stmt} (hpo : PassesOwn (model X.prog X.w) X.A X.env X.xe) (J : Nat → List Slot → Own → Prop) (h0 : ∃ m, J m ρ O)
    (h : ∀ m ρ' O', J m ρ' O' → TW X O' ρ' c x fun t O2 => (t = true → SW X O2 ρ' body x { nx := fun ρ2 O3 => ∃ m', m' < m ∧ J m' ρ2 O3, rt := D.rt, bk := D.nx, ct := fun ρ2 O3 => ∃ m', m' < m ∧ J m' ρ2 O3 }) ∧ (t = false → D.nx ρ' O2)) :
    S1 X O ρ (.While c body [] pos) x D := fun H0 σ H st tk E ok => by
  refine ws_of (ps_while hpo pt_w pss_w) ⟨fun m σ' H' => ∃ ρ' O', J m ρ' O' ∧ StOk X.K H0 O' σ' ρ' H', ?_, fun m σ' H' hW => ?_⟩
  · obtain ⟨m, hm⟩ := h0
    exact ⟨m, ρ, O, hm, st⟩
  · obtain ⟨ρ', O', hj, st'⟩ := hW
    refine h m ρ' O' hj H0 σ' H' st' tk _ fun t H1 O1 h1 st1 => ?_
    cases t with
    | false => exact iteF (ok.nx σ' ρ' O1 H1 (h1.2 rfl) st1)
    | true =>
      refine iteT ⟨fun σ'' H'' => ∃ m', m' < m ∧ ∃ ρ'' O'', J m' ρ'' O'' ∧ StOk X.K H0 O'' σ'' ρ'' H'', fun σ'' H'' hN => hN, ?_⟩
      exact (h1.1 rfl) H0 σ' H1 st1 tk _ ⟨fun σ4 ρ4 O4 H4 ⟨m', l, q⟩ s => ⟨m', l, ρ4, O4, q, s⟩, ok.rt, ok.nx, fun σ4 ρ4 O4 H4 ⟨m', l, q⟩ s => ⟨m', l, ρ4, O4, q, s⟩⟩
/-! ### displays -/
theorem ew_lst (h : AW X O ρ es x fun ss O' => ss.length ≤ sizeLine ∧ ∀ p, O' p = none → k (.own p) (up O' p (.lst ss))) : EW X O ρ (.List es pos) x k := fun H0 σ H st tk Q q =>
  we_of (pe_lst pa_w) (h H0 σ H st tk _ fun vs H' ss O' ⟨h1, h2⟩ st' r => ⟨by rw [paired_len r]; exact h1, fun p hp =>
    q _ _ _ _ (h2 p (own_free st'.own hp)) (st'.alloc hp ⟨vs, rfl, r⟩) rfl⟩)
/-- the cell is given away at once -/
theorem ew_frz (h : EW X O ρ e x fun s O' => ∃ p ds, s = .own p ∧ O' p = some (.lst (ds.map .dat)) ∧ k (.dat (.lst ds)) (dn O' p)) : EW X O ρ e x k := fun H0 σ H st tk Q q =>
  h H0 σ H st tk Q fun v H' s O' ⟨p, ds, e1, h1, h2⟩ st' r => by
    subst e1
    obtain rfl : v = .ref p := r
    exact q _ H' _ _ h2 st'.freeze (st'.own.lst h1)
theorem ew_lstD (h : AW X O ρ es x fun ss O' => ∃ ds, ss = ds.map .dat ∧ ds.length ≤ sizeLine ∧ k (.dat (.lst ds)) O') : EW X O ρ (.List es pos) x k :=
  ew_frz (ew_lst (h.mono fun ss O' ⟨ds, e1, h1, h2⟩ => by
    subst e1
    exact ⟨by rw [List.length_map]; exact h1, fun p hp => ⟨p, ds, rfl, up_at, by rw [dn_up hp]; exact h2⟩⟩))
theorem ew_tup {x1} (h : AW X O ρ es x fun ss O' => ∃ ds, ss = ds.map .dat ∧ ds.length ≤ sizeLine ∧ k (.dat (.tup ds)) O') : EW X O ρ (.Tuple es x1 pos) x k := fun H0 σ H st tk Q q =>
  we_of (pe_tup pa_w) (h H0 σ H st tk _ fun vs H' ss O' ⟨ds, e1, h1, h2⟩ st' r => by
    subst e1
    have r' := RpA.of_paired r
    refine ⟨by rw [r'.length]; exact h1, fun p hp => q _ _ _ _ h2 (st'.grow (same_new hp)) ?_⟩
    have hO := own_free st'.own hp
    exact Rp.tup (.inl (.inl (by rw [hid_none hO, upd_same]))) (RpA.mono (hid_same (same_new hp)) r'))
/-! ### comprehensions -/
def Blk (X : Cx) (scope : Scope) (Y : Cx) : Prop := ∃ (s : Shared) (H : Hp) (C : Addr) (cl : List (Str × Addr)) (fp : List Addr), Y = X.blk s H scope (compEnvC scope cl C X.env) fp
def TsW (Y : Cx) (O : Own) (ρ : List Slot) (ifs : List Expr) (x : ExK) (kt : Bool → Own → Prop) : Prop :=
  ∀ H0 σ H, StOk Y.K H0 O σ ρ H → Takes Y (Wsem Y.K H0 x) → ∀ Q : Bool → Hp → Prop, (∀ b H' O', kt b O' → StOk Y.K H0 O' σ ρ H' → Q b H') → Bx (∀ (pins : List (Addr × Obj)) (s : Shared), Inv Y pins σ H s →
    wpAny (model Y.prog Y.w) Y.A (forIn ifs true fun c r => if r = true then do let ok ← isTrue c Y.env (eval c Y.env); pure (ForInStep.yield ok) else pure (ForInStep.yield r)) (TP Y pins σ Q) Y.xe s)
theorem tsw_nil (h : kt true O) : TsW X O ρ [] x kt := fun H0 σ H st tk Q q => ⟨fun pins s I => pts_nil.run pins s σ H Q I (q true H O h st)⟩
theorem tsw_one (h : TW X O ρ c x kt) : TsW X O ρ [c] x kt := fun H0 σ H st tk Q q => ⟨fun pins s I => (pts_one pt_w).run pins s σ H Q I (h H0 σ H st tk Q q)⟩
def wipeS (ρ : List Slot) : List Nat → List Slot
  | [] => ρ
  | v :: vs => (wipeS ρ vs).set v .unk
theorem env_none {K : PySem.W.Frag} {G : Hp} {o : Option V} : EnvOk K G o .unk := trivial
theorem wipe_env {K : PySem.W.Frag} {G : Hp} {σ : SV} {ρ : List Slot} (h : Paired (EnvOk K G) σ ρ) : ∀ vs, Paired (EnvOk K G) (wipe σ vs) (wipeS ρ vs)
  | [] => h
  | v :: vs => paired_set (x := none) env_none v (wipe_env h vs)
theorem StOk.wipe {K : PySem.W.Frag} {H0 H : Hp} {σ : SV} (h : StOk K H0 O σ ρ H) (vs : List Nat) : StOk K H0 O (wipe σ vs) (wipeS ρ vs) H := ⟨h.own, h.base, wipe_env h.env vs⟩
theorem wipe_at {σ : SV} : ∀ {vs : List Nat} {i : Nat}, i ∈ vs → ∀ v, wipe (σ.set i v) vs = wipe σ vs
  | j :: vs, i, h, v => by
    show (wipe (σ.set i v) vs).set j none = (wipe σ vs).set j none
    by_cases e : i ∈ vs
    · rw [wipe_at e v]
    · have ej : i = j := by
        rcases List.mem_cons.mp h with q | q
        · exact q
        · exact absurd q e
      subst ej
      have : ∀ (vs : List Nat) (σ : SV), i ∉ vs → wipe (σ.set i v) vs = (wipe σ vs).set i v := by
        intro vs
        induction vs with
        | nil => intro σ _; rfl
        | cons z zs ih =>
          intro σ hz
          show (wipe (σ.set i v) zs).set z none = ((wipe σ zs).set z none).set i v
          rw [ih σ fun q => hz (List.mem_cons_of_mem _ q)]
          exact List.set_comm _ _ fun q => hz (by rw [q]; exact List.mem_cons_self)
      rw [this vs σ e, List.set_set]
theorem wipe_wipe {σ : SV} : ∀ {vs ws : List Nat}, (∀ i ∈ ws, i ∈ vs) → wipe (wipe σ ws) vs = wipe σ vs
  | vs, [], _ => rfl
  | vs, w :: ws, h => by
    show wipe ((wipe σ ws).set w none) vs = _
    rw [wipe_at (h w List.mem_cons_self), wipe_wipe fun i hi => h i (List.mem_cons_of_mem _ hi)]
/-- what a comprehension's target is -/
inductive Tgt (X : Cx) (scope : Scope) (vs : List Nat) : Expr → (Dat → List Slot → List Slot → Prop) → Prop
  | name {nm : Str} {p : Pos} {i : Nat} (hi : i ∈ vs) (hg : ∀ Y, Blk X scope Y → PG Y (.Name nm p) (gName i)) : Tgt X scope vs (.Name nm p) (fun d ρ ρ' => ρ' = ρ.set i (.dat d))
  | two {n1 n2 : Str} {p1 p2 p : Pos} {kk i j : Nat} (hi : i ∈ vs) (hj : j ∈ vs) (hg : ∀ Y, Blk X scope Y → PG Y (.Tuple [.Name n1 p1, .Name n2 p2] kk p) (gTup X.K 2 (gCons (gName i) (gCons (gName j) gNil)))) :
    Tgt X scope vs (.Tuple [.Name n1 p1, .Name n2 p2] kk p) (fun d ρ ρ' => ∃ d1 d2, d = .tup [d1, d2] ∧ ρ' = (ρ.set i (.dat d1)).set j (.dat d2))
  | three {n1 n2 n3 : Str} {p1 p2 p3 p : Pos} {kk i j l : Nat} (hi : i ∈ vs) (hj : j ∈ vs) (hl : l ∈ vs) (hg : ∀ Y, Blk X scope Y → PG Y (.Tuple [.Name n1 p1, .Name n2 p2, .Name n3 p3] kk p) (gTup X.K 3 (gCons (gName i) (gCons (gName j) (gCons (gName l) gNil))))) :
    Tgt X scope vs (.Tuple [.Name n1 p1, .Name n2 p2, .Name n3 p3] kk p) (fun d ρ ρ' => ∃ d1 d2 d3, d = .tup [d1, d2, d3] ∧ ρ' = ((ρ.set i (.dat d1)).set j (.dat d2)).set l (.dat d3))
theorem tgt_run {scope : Scope} {vs : List Nat} {T : Dat → List Slot → List Slot → Prop} (h : Tgt X scope vs tg T) :
    ∃ g : TG, (∀ Y, Blk X scope Y → PG Y tg g) ∧ ∀ {H0 H : Hp} {O : Own} {σ : SV} {ρ ρ' : List Slot} {v : V} {d : Dat} {Q : SV → Hp → Prop}, StOk X.K H0 O (wipe σ vs) ρ H → Rp X.K (hid O H) v d → T d ρ ρ' →
      (∀ σ', StOk X.K H0 O σ' ρ' H → wipe σ' vs = wipe σ vs → Q σ' H) → g v (wipe σ vs) H Q := by
  cases h with
  | name hi hg =>
    refine ⟨_, hg, fun {H0 H O σ ρ ρ' v d Q} st r t q => ?_⟩
    subst t
    exact q _ (st.set r) (by rw [wipe_at hi, wipe_wipe fun _ z => z])
  | two hi hj hg =>
    refine ⟨_, hg, fun {H0 H O σ ρ ρ' v d Q} st r t q => ?_⟩
    obtain ⟨d1, d2, rfl, rfl⟩ := t
    cases r with
    | tup h1 h2 =>
      cases h2 with
      | cons r1 h2 =>
        cases h2 with
        | cons r2 h2 =>
          cases h2
          refine ⟨_, _, rfl, sqt_mono hid_le h1, rfl, _, _, rfl, _, _, rfl, rfl, q _ ((st.set (s := .dat d1) r1).set (s := .dat d2) r2) ?_⟩
          rw [wipe_at hj, wipe_at hi, wipe_wipe fun _ z => z]
  | three hi hj hl hg =>
    refine ⟨_, hg, fun {H0 H O σ ρ ρ' v d Q} st r t q => ?_⟩
    obtain ⟨d1, d2, d3, rfl, rfl⟩ := t
    cases r with
    | tup h1 h2 =>
      cases h2 with
      | cons r1 h2 =>
        cases h2 with
        | cons r2 h2 =>
          cases h2 with
          | cons r3 h2 =>
            cases h2
            refine ⟨_, _, rfl, sqt_mono hid_le h1, rfl, _, _, rfl, _, _, rfl, _, _, rfl, rfl, q _ (((st.set (s := .dat d1) r1).set (s := .dat d2) r2).set (s := .dat d3) r3) ?_⟩
            rw [wipe_at hl, wipe_at hj, wipe_at hi, wipe_wipe fun _ z => z]
theorem tlc_of {elt : Expr} {ifs : List Expr} {scope : Scope} {vs : List Nat} {T : Dat → List Slot → List Slot → Prop} {g : TG}
    (hg : ∀ {H0 H : Hp} {O : Own} {σ : SV} {ρ ρ' : List Slot} {v : V} {d : Dat} {Q : SV → Hp → Prop}, StOk X.K H0 O (wipe σ vs) ρ H → Rp X.K (hid O H) v d → T d ρ ρ' → (∀ σ', StOk X.K H0 O σ' ρ' H → wipe σ' vs = wipe σ vs → Q σ' H) → g v (wipe σ vs) H Q)
    (h : IW X O ρ tg iter x fun ds O1 => ds.length ≤ sizeLine ∧ ∃ J : Nat → List Slot → Own → Prop, J 0 [] O1 ∧
      (∀ i d acc O', J i acc O' → ds[i]? = some d → ∃ ρ', T d (wipeS ρ vs) ρ' ∧ ∀ Dd, O' Dd = none → ∀ Y, Blk X scope Y → TsW Y (up O' Dd (.lst acc)) ρ' ifs noX fun t O2 =>
        (t = true → ∀ Z, Blk X scope Z → EW Z O2 ρ' elt noX fun s O3 => ∃ O4, O3 = up O4 Dd (.lst acc) ∧ O4 Dd = none ∧ J (i + 1) (acc ++ [s]) O4) ∧ (t = false → ∃ O4, O2 = up O4 Dd (.lst acc) ∧ O4 Dd = none ∧ J (i + 1) acc O4)) ∧
      ∀ acc O', J ds.length acc O' → ∀ p, O' p = none → k (.own p) (up O' p (.lst acc))) {H0 : Hp} {σ : SV} {H : Hp} {Q : VK} (st : StOk X.K H0 O σ ρ H) (tk : Takes X (Wsem X.K H0 x))
    (q : ∀ v H' s O', k s O' → StOk X.K H0 O' σ ρ H' → SlOk X.K (hid O' H') v s → Q v H') :
    tLc (Wi X tg iter) g (fun σ H Q => ∀ Y, Blk X scope Y → ∀ (pins : List (Addr × Obj)) (s : Shared), Inv Y pins σ H s →
      wpAny (model Y.prog Y.w) Y.A (forIn ifs true fun c r => if r = true then do let ok ← isTrue c Y.env (eval c Y.env); pure (ForInStep.yield ok) else pure (ForInStep.yield r)) (TP Y pins σ Q) Y.xe s)
      (fun σ H Q => ∀ Y, Blk X scope Y → We Y elt σ H Q) vs σ H Q := by
  refine h H0 σ H st tk _ fun J0 H1 ds O1 ⟨hz, J, j0, js, je⟩ st1 it => ?_
  intro Dd hD
  have hOD : O1 Dd = none := own_free st1.own hD
  have gS : Same (hid O1 H1) (hid (up O1 Dd (.lst [])) (upd H1 Dd (.lst []))) := fun b o hb => by
    obtain ⟨z1, z2⟩ := of_hid hb
    have nb := ne_of_none z2 hD
    rw [hid_none (by rw [up_ne nb]; exact z1), upd_ne nb]
    exact z2
  -- the store with the new list as a cell, over the greatest base
  refine ⟨fun i m H' => i + m = ds.length ∧ ∃ acc O', J i acc O' ∧ O' Dd = none ∧ acc.length ≤ i ∧ StOk X.K (hid O1 H1) (up O' Dd (.lst acc)) σ ρ H',
    ⟨ds.length, by omega, [], O1, j0, hOD, Nat.le_refl _, ⟨?_, gS, pmap (fun _ _ z => EnvOk.mono gS z) st1.env⟩⟩, fun i m H' hW => ?_⟩
  · exact (st1.alloc (o := .lst []) (c := .lst []) hD ⟨[], rfl, .nil⟩).own
  · obtain ⟨em, acc, O', hj, nD, hacc, st'⟩ := hW
    obtain ⟨i1, i2⟩ := it _ H' st'.own st'.base i
    cases hd : ds[i]? with
    | none =>
      have hi : ds.length ≤ i := List.getElem?_eq_none_iff.mp hd
      have ei : i = ds.length := by omega
      subst ei
      exact .inl ⟨i2 hd, q _ H' _ _ (je acc O' hj Dd nD) (st'.rebase st1.base) rfl⟩
    | some d =>
      have hi : i < ds.length := (List.getElem?_eq_some_iff.mp hd).1
      obtain ⟨g1, g2⟩ := i1 d hd
      obtain ⟨ρ', ht, hb⟩ := js i d acc O' hj hd
      have hb := hb Dd nD
      refine .inr ⟨g1, fun H'' => ∃ acc2 O2, J (i + 1) acc2 O2 ∧ O2 Dd = none ∧ acc2.length ≤ i + 1 ∧ StOk X.K (hid O1 H1) (up O2 Dd (.lst acc2)) σ ρ H'', fun H'' hN => ⟨m - 1, by omega, by omega, hN⟩, fun v H2 hy => ?_⟩
      obtain ⟨s1, r1⟩ := g2 v H2 hy
      have st2 := st'.grow s1
      refine hg (σ := σ) (st2.wipe vs) r1 ht fun σ' st3 hw => ⟨hw, fun Y hY pins s I => ?_⟩
      obtain ⟨sY, HY, CY, clY, fpY, eY⟩ := id hY
      have eK : Y.K = X.K := by rw [eY]
      have st3Y : StOk Y.K (hid O1 H1) (up O' Dd (.lst acc)) σ' ρ' H2 := by rw [eK]; exact st3
      refine (hb Y hY (hid O1 H1) σ' H2 st3Y takes_no _ fun t H3 O3 h3 st4 => ?_).r pins s I
      -- the way back to the outer names
      have env2 : Paired (EnvOk X.K (hid (up O' Dd (.lst acc)) H2)) σ ρ := st2.env
      cases t with
      | false =>
        obtain ⟨O4, e4, n4, j4⟩ := h3.2 rfl
        subst e4
        refine iteF ⟨acc, O4, j4, n4, by omega, ?_⟩
        rw [eK] at st4
        exact ⟨st4.own, st4.base, pmap (fun _ _ z => EnvOk.mono st4.base z) st1.env⟩
      | true =>
        refine iteT fun Z hZ => ?_
        obtain ⟨sZ, HZ, CZ, clZ, fpZ, eZ⟩ := id hZ
        have eKZ : Z.K = X.K := by rw [eZ]
        have eYZ : Z.K = Y.K := by rw [eZ, eY]
        refine (h3.1 rfl) Z hZ (hid O1 H1) σ' H3 (by rw [eYZ]; exact st4) takes_no _ fun u H5 s5 O5 h5 st5 r5 => ?_
        obtain ⟨O4, e4, n4, j4⟩ := h5
        subst e4
        rw [eKZ] at st5 r5
        obtain ⟨o5, c1, xs5, rfl, c2⟩ := st5.own.cell Dd _ up_at
        have lx : xs5.length = acc.length := paired_len c2
        have gw : Same (hid (up O4 Dd (.lst acc)) H5) (hid (up O4 Dd (.lst (acc ++ [s5]))) (upd H5 Dd (.lst (xs5 ++ [u])))) := by
          have := hid_write (H := H5) (o := .lst (xs5 ++ [u])) (c := .lst (acc ++ [s5])) (O := up O4 Dd (.lst acc)) up_at
          rw [up_up] at this
          exact this
        have st6 := st5.write (o := .lst (xs5 ++ [u])) (c := .lst (acc ++ [s5])) up_at ⟨_, rfl, paired_app c2 (.cons r5 .nil)⟩
        rw [up_up] at st6
        refine ⟨xs5, c1, by omega, acc ++ [s5], O4, j4, n4, by rw [List.length_append]; exact Nat.add_le_add_right hacc 1, ⟨st6.own, st6.base, pmap (fun _ _ z => EnvOk.mono st6.base z) st1.env⟩⟩
theorem ew_lc (own : List (Str × Nat)) {elt : Expr} {ifs : List Expr} {scope : Scope} {T : Dat → List Slot → List Slot → Prop} (hN : X.N.Nodup) (tg_ok : Tgt X scope (own.map (·.2)) tg T) (ok : BlkOk X.N X.env.scope scope own)
    (h : IW X O ρ tg iter x fun ds O1 => ds.length ≤ sizeLine ∧ ∃ J : Nat → List Slot → Own → Prop, J 0 [] O1 ∧
      (∀ i d acc O', J i acc O' → ds[i]? = some d → ∃ ρ', T d (wipeS ρ (own.map (·.2))) ρ' ∧ ∀ Dd, O' Dd = none → ∀ Y, Blk X scope Y → TsW Y (up O' Dd (.lst acc)) ρ' ifs noX fun t O2 =>
        (t = true → ∀ Z, Blk X scope Z → EW Z O2 ρ' elt noX fun s O3 => ∃ O4, O3 = up O4 Dd (.lst acc) ∧ O4 Dd = none ∧ J (i + 1) (acc ++ [s]) O4) ∧ (t = false → ∃ O4, O2 = up O4 Dd (.lst acc) ∧ O4 Dd = none ∧ J (i + 1) acc O4)) ∧
      ∀ acc O', J ds.length acc O' → ∀ p, O' p = none → k (.own p) (up O' p (.lst acc))) (hc : X.calm = true := by rfl) (hs : ∀ x, foldedSetIterable iter X.env x = pure x := by intro _; rfl) :
    EW X O ρ (.ListComp elt [⟨tg, iter, ifs, 0⟩] scope pos) x k := fun H0 σ H st tk Q q => by
  obtain ⟨g, g1, g2⟩ := tgt_run tg_ok
  exact we_of (pe_lc hc hN pi_w ok (fun s H C cl fp => g1 _ ⟨s, H, C, cl, fp, rfl⟩) (fun s H C cl fp => ⟨fun pins sh σ H5 Q I hq => hq _ ⟨s, H, C, cl, fp, rfl⟩ pins sh I⟩) (fun s H C cl fp => ⟨fun pins sh σ H5 Q I hq => (hq _ ⟨s, H, C, cl, fp, rfl⟩).r pins sh I⟩) hs)
    (tlc_of g2 h st tk q)
/-- y = [..] with y a local -/
theorem s1_setLc (own : List (Str × Nat)) (i : Nat) {nm : Str} {py spos : Pos} {elt : Expr} {ifs : List Expr} {scope : Scope} {T : Dat → List Slot → List Slot → Prop} (hN : X.N.Nodup) (tg_ok : Tgt X scope (own.map (·.2)) tg T) (ok : BlkOk X.N X.env.scope scope own)
    (h : IW X O ρ tg iter x fun ds O1 => ds.length ≤ sizeLine ∧ ∃ J : Nat → List Slot → Own → Prop, J 0 [] O1 ∧
      (∀ i d acc O', J i acc O' → ds[i]? = some d → ∃ ρ', T d (wipeS ρ (own.map (·.2))) ρ' ∧ ∀ Dd, O' Dd = none → ∀ Y, Blk X scope Y → TsW Y (up O' Dd (.lst acc)) ρ' ifs noX fun t O2 =>
        (t = true → ∀ Z, Blk X scope Z → EW Z O2 ρ' elt noX fun s O3 => ∃ O4, O3 = up O4 Dd (.lst acc) ∧ O4 Dd = none ∧ J (i + 1) (acc ++ [s]) O4) ∧ (t = false → ∃ O4, O2 = up O4 Dd (.lst acc) ∧ O4 Dd = none ∧ J (i + 1) acc O4)) ∧
      ∀ acc O', J ds.length acc O' → ∀ p, O' p = none → D.nx (ρ.set i (.own p)) (up O' p (.lst acc))) (hc : X.calm = true := by rfl)
    (hy : X.N[i]? = some nm := by rfl) (hyl : X.env.scope.names.lookup nm = some .local := by rfl)
    (hsw : swapsWith (.ListComp elt [⟨tg, iter, ifs, 0⟩] scope pos) (some (.Name nm py)) spos.line X.env = pure true := by exact sw_true rfl rfl rfl (by decide +kernel)) (hs : ∀ x, foldedSetIterable iter X.env x = pure x := by intro _; rfl) :
    S1 X O ρ (.Assign [.Name nm py] (.ListComp elt [⟨tg, iter, ifs, 0⟩] scope pos) spos) x D := fun H0 σ H st tk E okE => by
  obtain ⟨g, g1, g2⟩ := tgt_run tg_ok
  exact ws_of (ps_setLc hc hN hy hyl hsw pi_w ok (fun s H C cl fp => g1 _ ⟨s, H, C, cl, fp, rfl⟩) (fun s H C cl fp => ⟨fun pins sh σ H5 Q I hq => hq _ ⟨s, H, C, cl, fp, rfl⟩ pins sh I⟩) (fun s H C cl fp => ⟨fun pins sh σ H5 Q I hq => (hq _ ⟨s, H, C, cl, fp, rfl⟩).r pins sh I⟩) hs)
    (tlc_of (k := fun s O' => D.nx (ρ.set i s) O') g2 h st tk fun v H' s O' hq st' r => okE.nx _ _ O' H' hq (st'.set r))
end
end Kn
/-! KnD: contracts of defs, their calls, what is raised and caught. -/
namespace Kn
open PySem PySem.Spec PyProof.Rows
open L2 hiding St
inductive Out where
  | ret (s : Slot)
  | exc (e : Exn)
/-- a contract: the arguments, the cells, and what is wanted of each way out -/
abbrev SpecT := List Slot → Own → (Out → Own → Prop) → Prop
structure RoomB (g : Bool) (k : Nat) (A : Around) : Prop where
  r : Room k A
  g : g = true → A.guards = some []
theorem RoomB.mono {g g' : Bool} {j k : Nat} {A : Around} (h : RoomB g k A) (hk : j ≤ k) (hg : g' = true → g = true) : RoomB g' j A := ⟨h.r.mono hk, fun e => h.g (hg e)⟩
def RetOk (K : PySem.W.Frag) (O : Own) (H : Hp) (R : Out → Own → Prop) (Q : VK) : Prop :=
  ∀ v H' s O', R (.ret s) O' → OwnOk K O' H' → Same (hid O H) (hid O' H') → SlOk K (hid O' H') v s → Q v H'
def ErrOk (K : PySem.W.Frag) (O : Own) (H : Hp) (R : Out → Own → Prop) (E : XK) : Prop :=
  ∀ cls d e H' O', R (.exc e) O' → OwnOk K O' H' → Same (hid O H) (hid O' H') → ExOk K O' H' cls d e → E cls d H'
def spS (K : PySem.W.Frag) (S : SpecT) : Sp := fun vs H Q E => ∃ O ss R, OwnOk K O H ∧ Paired (SlOk K (hid O H)) vs ss ∧ S ss O R ∧ RetOk K O H R Q ∧ ErrOk K O H R E
structure Fn (P : Program) (w : World) (K : PySem.W.Frag) (mg : Str → Option Value) (base : Heap) (g : Bool) (k : Nat) (f : Addr) (fd : FuncData) (ps : List Str) (S : SpecT) : Prop where
  len : ∀ ss O R, S ss O R → ss.length = ps.length
  run : ∀ (A : Around) (outer : List Env) (s : Shared) (H : Hp) (args : Args) (us : List Value) (vs : List V) (Q : VK) (E : XK), RoomB g k A → Env0 P w K mg base A outer s H → BindsTo s fd args (ps.zip us) → Vals vs us → spS K S vs H Q E →
    codeAny (model P w) A (.call (.ref f) args) (CR (L2.CX P w) outer P w H s Q E) s
section
variable {P : Program} {w : World} {K : PySem.W.Frag} {mg : Str → Option Value} {base : Heap} {g : Bool} {k : Nat} {f : Addr} {fd : FuncData} {ps : List Str} {S : SpecT}
theorem spS_len (len : ∀ ss O R, S ss O R → ss.length = ps.length) : ∀ vs H Q E, spS K S vs H Q E → vs.length = ps.length := fun vs H Q E ⟨O, ss, R, _, pr, hS, _⟩ => (paired_len pr).trans (len _ _ _ hS)
theorem Fn.ok (F : Fn P w K mg base false k f fd ps S) : FnOk P w K mg base (L2.CX P w) k f fd ps (spS K S) :=
  ⟨spS_len F.len, fun A outer s H args us vs Q E hr e0 hb r hs => F.run A outer s H args us vs Q E ⟨hr, fun e => nomatch e⟩ e0 hb r hs⟩
def startS (N : List Str) (ss : List Slot) : List Slot := ss ++ List.replicate (N.length - ss.length) .unk
theorem paired_rep {α β : Type} {F : α → β → Prop} {a : α} {b : β} (h : F a b) : ∀ n, Paired F (List.replicate n a) (List.replicate n b)
  | 0 => .nil
  | n + 1 => .cons h (paired_rep h n)
theorem env_of {G : Hp} : ∀ {vs : List V} {ss : List Slot}, Paired (SlOk K G) vs ss → Paired (EnvOk K G) (vs.map some) ss
  | _, _, .nil => .nil
  | _, s :: _, .cons h t => .cons (by
      cases s with
      | unk => trivial
      | dat d => exact ⟨_, rfl, h⟩
      | own p => exact congrArg some h) (env_of t)
theorem start_env {G : Hp} {N : List Str} {vs : List V} {ss : List Slot} (h : Paired (SlOk K G) vs ss) : Paired (EnvOk K G) (L2.start N vs) (startS N ss) := by
  unfold L2.start startS
  rw [paired_len h]
  exact paired_app (env_of h) (paired_rep trivial _)
theorem roomB_deeper {A : Around} (r : RoomB g (k + 1) A) (env : Env) : RoomB g k (A.deeper env) := ⟨r.r.deeper env, fun e => r.g e⟩
/-- a def as it stands behind the top, whatever its defaults -/
def FunX (K : PySem.W.Frag) (x qual : Str) (st : Stmt) (f : Addr) (fd : FuncData) : Prop := ∃ (oc : Value) (od : Option Addr) (dV kV doc pm : Value) (an : Option Addr) (cdv ct : Value) (osl : Array (Option Value)),
  fd = PySem.W.fnOf x qual (defArgs st) (defBody st) (defScope st) dV kV doc pm an cdv ct ∧ K.lookup f = some ⟨oc, od, .func fd, osl⟩ ∧ PySem.W.codeIn K cdv qual = true
theorem funX_of {x qual : Str} {st : Stmt} (F : L2.Fun K x qual st f fd) : FunX K x qual st f fd := by
  obtain ⟨oc, od, kV, doc, pm, an, cdv, ct, osl, h⟩ := F.ex
  exact ⟨oc, od, .none, kV, doc, pm, an, cdv, ct, osl, h⟩
theorem funX_ofD {x qual : Str} {st : Stmt} {dvs : List V} (F : L2.FunD K x qual (defArgs st) (defBody st) (defScope st) dvs [] f fd) : FunX K x qual st f fd := by
  obtain ⟨oc, od, dV, kV, doc, pm, an, cdv, ct, osl, h1, h2, h3, _⟩ := F.ex
  exact ⟨oc, od, dV, kV, doc, pm, an, cdv, ct, osl, h1, h2, h3⟩
/-- a def keeps its contract -/
theorem fn_mkX {x qual : Str} {st : Stmt} {N : List Str} (F : FunX K x qual st f fd) (Sc : FnScope N ps (defScope st)) (len : ∀ ss O R, S ss O R → ss.length = ps.length)
    (body : ∀ (cdv : Value) (A : Around) (outer : List Env) (s : Shared) (H : Hp) (E : XK) (ss : List Slot) (O : Own) (R : Out → Own → Prop), RoomB g k (cxOf (L2.CX P w) P w K mg base N qual (defScope st) f cdv A outer s H E).A →
      PassesOwn (model P w) (cxOf (L2.CX P w) P w K mg base N qual (defScope st) f cdv A outer s H E).A (cxOf (L2.CX P w) P w K mg base N qual (defScope st) f cdv A outer s H E).env (cxOf (L2.CX P w) P w K mg base N qual (defScope st) f cdv A outer s H E).xe → S ss O R →
      SW (cxOf (L2.CX P w) P w K mg base N qual (defScope st) f cdv A outer s H E) O (startS N ss) (defBody st) (fun e _ O' => R (.exc e) O') { nx := fun _ O' => R (.ret (.dat .non)) O', rt := fun z O' => R (.ret z) O' }) :
    Fn P w K mg base g (k + 1) f fd ps S := by
  obtain ⟨oc, od, dV, kV, doc, pm, an, cdv, ct, osl, rfl, lk, hcd⟩ := F
  refine ⟨len, fun A outer s H args us vs Q E hr e0 hb r hsp => ?_⟩
  obtain ⟨O, ss, R, own, pr, hS, hret, herr⟩ := hsp
  have hl : vs.length = ps.length := (paired_len pr).trans (len _ _ _ hS)
  have KX : K.In s.heap := e0.mod.kin.keeps fun b o e => (e0.bs b o e).1
  have lim : s.heap.NoLimit := e0.mod.nolimit.keeps fun b o e => (e0.bs b o e).1
  have hkind : ∀ y ∈ ps.zip us, (defScope st).names.lookup y.1 = some .local ∨ ((defScope st).names.lookup y.1 = some .cell ∧ ((cellsFrom (s.heap.objs.size + 1) (defScope st).names []).lookup y.1).isSome = true) := fun y hy => by
    rcases Sc.par y.1 (List.of_mem_zip (show (y.1, y.2) ∈ ps.zip us from hy)).1 with q | q
    · exact .inl q
    · exact .inr ⟨q, PySem.W.cellsFrom_some _ _ _ (.inl q)⟩
  refine codeAny_call_function hr.r.depth (KX _ _ lk) rfl Sc.co Sc.gen rfl (PySem.W.codeRec_of KX hcd) (hb _ _ _ _ ?_)
  refine wpAny_newFunctionEnv_cells Sc.kind hkind fun env he s1 hin => ?_
  subst he
  refine ⟨lim.keeps hin.toInCall.keep, codeAny_func ?_⟩
  have I := inv_start (CX := L2.CX P w) (E := E) Sc hr.r.hd e0 hl r hin
  have hrD : RoomB g k (cxOf (L2.CX P w) P w K mg base N qual (defScope st) f cdv A outer s H E).A := roomB_deeper hr _
  have hpo : PassesOwn (model P w) (cxOf (L2.CX P w) P w K mg base N qual (defScope st) f cdv A outer s H E).A (cxOf (L2.CX P w) P w K mg base N qual (defScope st) f cdv A outer s H E).env (cxOf (L2.CX P w) P w K mg base N qual (defScope st) f cdv A outer s H E).xe :=
    passes_of (X := cxOf (L2.CX P w) P w K mg base N qual (defScope st) f cdv A outer s H E) rfl
  have hst : StOk K (hid O H) O (L2.start N vs) (startS N ss) H := ⟨own, Same.refl _, start_env pr⟩
  have tk : Takes (cxOf (L2.CX P w) P w K mg base N qual (defScope st) f cdv A outer s H E) (Wsem K (hid O H) fun e _ O' => R (.exc e) O') :=
    (takes_of (X := cxOf (L2.CX P w) P w K mg base N qual (defScope st) f cdv A outer s H E) rfl rfl rfl rfl).imp fun cls d σ' H' ⟨e, ρ', O', h1, h2, h3⟩ => herr cls d e H' O' h1 h2.own h2.base h3
  have main := (body cdv A outer s H E ss O R hrD hpo hS (hid O H) (L2.start N vs) H hst tk { nx := fun _ H' => Q .non H', rt := Q }
    ⟨fun σ' ρ' O' H' h1 h2 => hret .non H' _ O' h1 h2.own h2.base .non, fun v z O' H' h1 h2 h3 h4 => hret v H' z O' h1 h2 h3 h4, fun _ _ _ _ h _ => h.elim, fun _ _ _ _ h _ => h.elim⟩).r [] s1 I
  refine wpAny_mono main (fun fl s' hs => ?_) fun e s' hs => hs
  have fin : ∀ {σ' : SV} {H' : Hp} {v : V} {u : Value}, L2.Inv (cxOf (L2.CX P w) P w K mg base N qual (defScope st) f cdv A outer s H E) [] σ' H' s' → RelV v u → Q v H' → CE outer P w H s Q u s' :=
    fun {σ' H' v u} J rv q => ⟨v, H', J.os, J.bare, J.base, J.hok, rv, q⟩
  cases fl with
  | ret u =>
    obtain ⟨v, σ', H', J, rv, q⟩ := hs
    exact fin J rv q
  | next =>
    obtain ⟨σ', H', J, q⟩ := hs
    exact fin (v := V.non) (u := Value.none) J rfl q
  | brk =>
    obtain ⟨_, _, _, q⟩ := hs
    exact False.elim q
  | cont =>
    obtain ⟨_, _, _, q⟩ := hs
    exact False.elim q
theorem fn_mk {x qual : Str} {st : Stmt} {N : List Str} (F : L2.Fun K x qual st f fd) (Sc : FnScope N ps (defScope st)) (len : ∀ ss O R, S ss O R → ss.length = ps.length)
    (body : ∀ (cdv : Value) (A : Around) (outer : List Env) (s : Shared) (H : Hp) (E : XK) (ss : List Slot) (O : Own) (R : Out → Own → Prop), RoomB g k (cxOf (L2.CX P w) P w K mg base N qual (defScope st) f cdv A outer s H E).A →
      PassesOwn (model P w) (cxOf (L2.CX P w) P w K mg base N qual (defScope st) f cdv A outer s H E).A (cxOf (L2.CX P w) P w K mg base N qual (defScope st) f cdv A outer s H E).env (cxOf (L2.CX P w) P w K mg base N qual (defScope st) f cdv A outer s H E).xe → S ss O R →
      SW (cxOf (L2.CX P w) P w K mg base N qual (defScope st) f cdv A outer s H E) O (startS N ss) (defBody st) (fun e _ O' => R (.exc e) O') { nx := fun _ O' => R (.ret (.dat .non)) O', rt := fun z O' => R (.ret z) O' }) :
    Fn P w K mg base g (k + 1) f fd ps S := fn_mkX (funX_of F) Sc len body
end
/-! ### calls -/
/-- a module's def by its name, with its contract and the defaults that fill up -/
def Cal (P : Program) (w : World) (K : PySem.W.Frag) (mg : Str → Option Value) (base : Heap) (g : Bool) (k : Nat) (nm : Str) (S : SpecT) (df : List Dat) : Prop :=
  ∃ (f : Addr) (fd : FuncData) (ps : List Str) (ds : List Value) (dvs : List V), mg nm = some (.ref f) ∧ PySem.W.keepIn K (.ref f) = true ∧ Fn P w K mg base g k f fd ps S ∧ Binds K fd ps ds ∧ Vals dvs ds ∧ ∀ G, RpA K G dvs df
section
variable {X : Cx} {O : Own} {ρ : List Slot} {x : ExK} {k k' : Slot → Own → Prop} {kl kl' : List Slot → Own → Prop} {e a b c : Expr} {es : List Expr} {pos p : Pos} {D : SD} {g g' : Bool} {j n : Nat} {S : SpecT} {df : List Dat}
theorem StOk.next {K : PySem.W.Frag} {H0 H H' : Hp} {O O' : Own} {σ : SV} {ρ : List Slot} (h : StOk K H0 O σ ρ H) (o : OwnOk K O' H') (s : Same (hid O H) (hid O' H')) : StOk K H0 O' σ ρ H' :=
  ⟨o, h.base.trans s, pmap (fun _ _ z => EnvOk.mono s z) h.env⟩
/-- what follows a call -/
@[reducible] def kOut (x : ExK) (ρ : List Slot) (k : Slot → Own → Prop) : Out → Own → Prop
  | .ret s, O => k s O
  | .exc e, O => x e ρ O
theorem run_call {f : Addr} {fd : FuncData} {ps : List Str} {ds : List Value} {dvs vs : List V} {us : List Value} {ss : List Slot} {pins : List (Addr × Obj)} {s : Shared} {σ : SV} {H0 H : Hp} {Q : VK}
    (F : Fn X.prog X.w X.K X.mg X.base g n f fd ps S) (hr : RoomB g n X.A) (hb : Binds X.K fd ps ds) (hd : Vals dvs ds) (hdf : ∀ G, RpA X.K G dvs df) (I : Inv X pins σ H s) (st : StOk X.K H0 O σ ρ H) (tk : Takes X (Wsem X.K H0 x)) (rv : Vals vs us)
    (pr : Paired (SlOk X.K (hid O H)) vs ss) (hS : S (ss ++ df.map .dat) O (kOut x ρ k)) (q : ∀ v H' s O', k s O' → StOk X.K H0 O' σ ρ H' → SlOk X.K (hid O' H') v s → Q v H') :
    wpAny (model X.prog X.w) X.A (call (.ref f) us) (EP X pins σ Q) X.xe s := by
  have r2 : Vals (vs ++ dvs) (us ++ ds) := rv.append hd
  have sp : spS X.K S (vs ++ dvs) H Q (fun cls d H' => Wsem X.K H0 x cls d σ H') := ⟨O, ss ++ df.map .dat, kOut x ρ k, st.own, paired_app pr (hdf _).paired, hS,
    fun v H' s' O' h1 h2 h3 h4 => q v H' s' O' h1 (st.next h2 h3) h4, fun cls d e H' O' h1 h2 h3 h4 => ⟨e, ρ, O', h1, st.next h2 h3, h4⟩⟩
  have hl : (us ++ ds).length = ps.length := by rw [← r2.length]; exact spS_len F.len _ _ _ _ sp
  refine wpAny_call (codeAny_mono (F.run X.A X.stack s H ⟨us, []⟩ (us ++ ds) (vs ++ dvs) Q _ hr I.env0 (hb s us I.kIn hl) r2 sp) fun r s' hq => ?_)
  cases r with
  | error e => exact tk e s' (XE.of_call I (fun _ _ _ h => h) hq)
  | ok fl =>
    cases fl with
    | ret u => exact I.after hq
    | next => exact False.elim hq
    | brk => exact False.elim hq
    | cont => exact False.elim hq
theorem ew_call {nm : Str} (cl : Cal X.prog X.w X.K X.mg X.base g n nm S df) (hr : RoomB g' j X.A) (h : AW X O ρ (e :: es) x fun ss O1 => S (ss ++ df.map .dat) O1 (kOut x ρ k)) (hj : n ≤ j := by decide) (hgg : g = true → g' = true := by first | exact fun _ => rfl | exact fun h => h | exact fun h => nomatch h)
    (hg : Gl X nm := by rfl) (hdb : (nm == ("__debug__" : Str)) = false := by decide) (he : starEach (e :: es) X.env = (false, eval e X.env) :: starEach es X.env := by rfl) (hpl : (backTo pos (starEach es X.env)).any (·.1) = false := by rfl) :
    EW X O ρ (.Call (.Name nm p) (e :: es) [] pos) x k := fun H0 σ H st tk Q q => ⟨fun pins s I => by
  obtain ⟨f, fd, ps, ds, dvs, hm, hk, F, hb, hd, hdf⟩ := cl
  refine wpAny_Call_Name_kw (ld_glob I hg hm ?_ hdb)
  refine PySem.W.callWith_K (h₀ := X.base) I.ok.mod.kin hk (thn ((pa_w (es := e :: es)).run pos pins s σ H (fun vs H1 => ∃ ss O1, StOk X.K H0 O1 σ ρ H1 ∧ Paired (SlOk X.K (hid O1 H1)) vs ss ∧ S (ss ++ df.map .dat) O1 (kOut x ρ k)) I (h H0 σ H st tk _ fun vs H1 ss O1 h1 st1 r1 => ⟨ss, O1, st1, r1, h1⟩)) fun us s1 hq => ?_) he hpl
  obtain ⟨vs, H1, I1, rv, ss, O1, st1, pr, hS⟩ := hq
  exact ⟨I1.kIn, run_call F (hr.mono hj hgg) hb hd hdf I1 st1 tk rv pr hS q⟩⟩
theorem ew_call0 {nm : Str} (cl : Cal X.prog X.w X.K X.mg X.base g n nm S df) (hr : RoomB g' j X.A) (h : S (df.map .dat) O (kOut x ρ k)) (hj : n ≤ j := by decide) (hgg : g = true → g' = true := by first | exact fun _ => rfl | exact fun h => h | exact fun h => nomatch h)
    (hg : Gl X nm := by rfl) (hdb : (nm == ("__debug__" : Str)) = false := by decide) : EW X O ρ (.Call (.Name nm p) [] [] pos) x k := fun H0 σ H st tk Q q => ⟨fun pins s I => by
  obtain ⟨f, fd, ps, ds, dvs, hm, hk, F, hb, hd, hdf⟩ := cl
  refine wpAny_Call_Name_kw (ld_glob I hg hm ?_ hdb)
  exact PySem.W.callWith_K0 I.kIn hk (run_call (us := []) (vs := []) (ss := []) F (hr.mono hj hgg) hb hd hdf I st tk .nil .nil h q)⟩
/-! ### exceptions of one's own that are made by their __init__ -/
/-- what the written part says of such a class, its own __init__ with a contract -/
structure ExCls (P : Program) (w : World) (K : PySem.W.Frag) (mg : Str → Option Value) (base : Heap) (n : Nat) (nm : Str) (C : Addr) (S : SpecT) : Prop where
  oex : OexC K C
  mgC : mg nm = some (.ref C)
  ini : ∃ (f : Addr) (fd : FuncData) (ps : List Str), PySem.W.findIn K (.ref C) "__init__" = some (some (.ref f)) ∧ PySem.W.typeIn K (.ref f) = some (.type "function") ∧ Fn P w K mg base false n f fd ps S ∧ Binds K fd ps []
/-- __init__ of such a class: the new exception at a -/
def MkEx (C : Addr) (S : SpecT) (x : ExK) (ρ : List Slot) : List Slot → Own → Prop := fun ss O1 => ss.length ≤ 1000 ∧ ∀ a, O1 a = none → S (.own a :: ss) (up O1 a (.exo C none)) fun o O2 =>
  ∃ s, o = .ret s ∧ s = .dat .non ∧ ∃ (d : Addr) (fs : List (Str × Dat)), O2 a = some (.exo C (some d)) ∧ O2 d = some (.exd (fs.map fun q => (q.1, .dat q.2))) ∧ O1 d = none ∧ x (.own C fs) ρ (dn (dn O2 a) d)
theorem exo_ext {p C : Addr} {d : Option Addr} : ∃ φ, L2.exo p C d = .ext φ := ⟨_, rfl⟩
theorem s1_raise {nm : Str} {C : Addr} {pos2 : Pos} (cl : ExCls X.prog X.w X.K X.mg X.base n nm C S) (hr : RoomB g' j X.A) (h : AW X O ρ (e :: es) x (MkEx C S x ρ)) (hj : n + 1 ≤ j := by decide) (hc : X.calm = true := by rfl)
    (hg : Gl X nm := by rfl) (hdb : (nm == ("__debug__" : Str)) = false := by decide) (he : starEach (e :: es) X.env = (false, eval e X.env) :: starEach es X.env := by rfl) (hpl : (backTo pos (starEach es X.env)).any (·.1) = false := by rfl) :
    S1 X O ρ (.Raise (some (.Call (.Name nm p) (e :: es) [] pos)) none pos2) x D := fun H0 σ H st tk E ok => by
  obtain ⟨f, fd, ps, iC, tI, F, hb⟩ := cl.ini
  have pm := pmk_oex (X := X) (p := p) (pos := pos) (CX := L2.CX X.prog X.w) (sp := spS X.K S) (dvs := []) (ds := []) cl.oex iC tI F.ok (hr.r.mono hj) hb .nil passL hg cl.mgC (pa_w (es := e :: es)) hdb he hpl
  refine ws_of (ps_raise hc tk pm) ?_
  refine h H0 σ H st tk _ fun vs H1 ss O1 hm st1 pr => ?_
  obtain ⟨hl, hm⟩ := hm
  refine ⟨by rw [paired_len pr]; exact hl, fun a ha => ?_⟩
  have hO : O1 a = none := own_free st1.own ha
  have st2 := st1.alloc (o := L2.exo a C none) (c := .exo C none) ha rfl
  rw [List.append_nil]
  refine ⟨up O1 a (.exo C none), .own a :: ss, _, st2.own, .cons rfl (pmap (fun _ _ z => SlOk.mono (by
    intro b o hb
    obtain ⟨z1, z2⟩ := of_hid hb
    have nb := ne_of_none z2 ha
    rw [hid_none (by rw [up_ne nb]; exact z1), upd_ne nb]
    exact z2) z) pr), hm a hO, fun v H2 s O2 hR own2 sm2 r2 => ?_, fun cls d ee H2 O2 hR => ?_⟩
  · obtain ⟨s', e1, e2, d, fs, ca, cd, nd, hx⟩ := hR
    cases e1
    subst e2
    cases r2
    obtain ⟨oa, ha1, ha2⟩ := own2.cell a _ ca
    obtain ⟨od, hd1, fv, hd2, hd3⟩ := own2.cell d _ cd
    subst ha2 hd2
    have nda : d ≠ a := fun z => by rw [z, ca] at cd; cases cd
    have sm1 : Same (hid O1 H1) (hid (up O1 a (.exo C none)) (upd H1 a (L2.exo a C none))) := fun b o hb => by
      obtain ⟨z1, z2⟩ := of_hid hb
      have nb := ne_of_none z2 ha
      rw [hid_none (by rw [up_ne nb]; exact z1), upd_ne nb]
      exact z2
    have hd0 : H1 d = none := by
      cases hz : H1 d with
      | none => rfl
      | some o =>
        have z1 : hid O1 H1 d = some o := by rw [hid_none nd]; exact hz
        have z2 := sm2 d o (sm1 d o z1)
        rw [hid_some cd] at z2; cases z2
    have gS : Same (hid O2 H2) (hid (dn (dn O2 a) d) (upd (del H2 a) d (.xd fv))) := fun b o hb => by
      obtain ⟨z1, z2⟩ := of_hid hb
      have nba : b ≠ a := fun z => by rw [z, ca] at z1; cases z1
      have nbd : b ≠ d := fun z => by rw [z, cd] at z1; cases z1
      rw [hid_none (by rw [dn_ne nbd, dn_ne nba]; exact z1), upd_ne nbd, del_ne nba]
      exact z2
    have own3 : OwnOk X.K (dn (dn O2 a) d) (upd (del H2 a) d (.xd fv)) := ⟨fun q c hq => by
      have nqd : q ≠ d := fun z => by rw [z, dn_at] at hq; cases hq
      rw [dn_ne nqd] at hq
      have nqa : q ≠ a := fun z => by rw [z, dn_at] at hq; cases hq
      rw [dn_ne nqa] at hq
      obtain ⟨o, z1, z2⟩ := own2.cell q c hq
      exact ⟨o, by rw [upd_ne nqd, del_ne nqa]; exact z1, ClOk.mono gS z2⟩⟩
    refine ⟨rfl, d, fv, ha1, hd1, hd0, _, ρ, _, hx, st1.next own3 ((sm1.trans sm2).trans gS), rfl, d, fv, rfl, dn_at, upd_same, RpF.of_paired (pmap (fun _ _ z => ⟨z.1, SlOk.mono gS z.2⟩) hd3)⟩
  · obtain ⟨s', e1, _⟩ := hR
    cases e1
end
end Kn
/-! KnE: the making of exceptions from within, try, what is asked of a caught one. -/
namespace Kn
open PySem PySem.Spec PyProof.Rows
open L2 hiding St
/-! ### isinstance(e, C) of an exception that has its own dict -/
section
open PySem.W PySem.Calls
variable {prog : Program} {w : World} {A : Around} {E : Value → Shared → Prop} {s : Shared} {K : Frag} {x D : Addr} {ox : Obj} {od : Option Obj}
theorem class_of_exc {Q : Option Value → Shared → Prop} (T : ExcC K D) (X : K.In s.heap) (I : InstAt s.heap x ox D od) (h : Q (some (.ref D)) { s with toks := s.toks + 1 }) : wpAny (model prog w) A (getAttr? (.ref x) "__class__") Q E s :=
  kx_classE X I T.hg T.hk T.hs (findObj_dataE (let ⟨_, e, _⟩ := any_some T.hd; e ▸ rfl) T.ha T.hn T.ht) T.hm h
/-- an exception's class lies in K, as a class -/
theorem exc_cls (T : ExcC K D) : ∃ o, K.lookup D = some o ∧ (∃ cd, o.data = .cls cd) := by
  obtain ⟨cd, e, _⟩ := any_some T.hd
  unfold clsIn at e
  split at e
  · rename_i k
    exact ⟨_, k, _, rfl⟩
  · cases e
theorem kit_exc (T : ExcC K D) : KitX K (.ref x) (.ref D) (fun h => ∃ od, InstAt h x ox D od) where
  ty := fun _ _ _ ⟨_, I⟩ => I.type
  it := fun _ _ X _ A Q E s keep q => by
    obtain ⟨o, k, _, isCls⟩ := exc_cls T
    unfold isType loadHead
    refine wpAny_bind (wpAny_loadPart (keep _ _ (X _ _ k)) ?_)
    rw [isCls]
    exact wpAny_pure q
  ne := fun h tp dd its n sl X tup => by
    obtain ⟨o, k, _, isCls⟩ := exc_cls T
    rw [beq_eq_false_iff_ne]
    intro same
    rw [← Value.ref.inj same, X _ _ k] at tup
    rw [Option.some.inj tup] at isCls
    cases isCls
  ca := fun X ⟨_, I⟩ kk => class_of_exc T X I kk
end
section
variable {X : Cx} {O : Own} {ρ : List Slot} {x : ExK} {k k' : Slot → Own → Prop} {kl kl' : List Slot → Own → Prop} {e a b c o : Expr} {es : List Expr} {pos p p1 p2 p' : Pos} {D : SD} {g g' : Bool} {j n : Nat} {S : SpecT} {df : List Dat}
/-! ### within an __init__ -/
/-- Base.__init__(self, ..): Base a class of one's own (over ValueError) that has no __init__ -/
structure BaseIni (K : PySem.W.Frag) (mg : Str → Option Value) (nm : Str) : Prop where
  ex : ∃ (C : Addr) (mc : Value), mg nm = some (.ref C) ∧ ClX.CRead K C mc ∧ PySem.W.findCls K (.ref C) mc "__init__" = some (.val (.builtin "ValueError.__init__"))
theorem pe_kinit {nm : Str} {ta : TA} {pl : Sem Bool} (T : BaseIni X.K X.mg nm) (hg : Gl X nm) (ha : PA X (e :: es) ta)
    (hc : eval (.Call (.Attribute (.Name nm p1) "__init__" p2) (e :: es) [] pos) X.env = (do
      let ov ← eval (.Name nm p1) X.env
      standAt p2.atName
      let (f, first) ← holding [ov] (getMethod ov "__init__" pl)
      callWith pos f first (backTo pos (starEach (e :: es) X.env)) (backToKw pos (keywordEach [] X.env))) := by rfl)
    (he : starEach (e :: es) X.env = (false, eval e X.env) :: starEach es X.env := by rfl) (hpl : (backTo pos (starEach es X.env)).any (·.1) = false := by rfl) (hdb : (nm == ("__debug__" : Str)) = false := by decide) :
    PE X (.Call (.Attribute (.Name nm p1) "__init__" p2) (e :: es) [] pos) (tVeI X.K ta) := by
  obtain ⟨C0, mc, hm, hr, hf⟩ := T.ex
  constructor
  intro pins s σ H Q I want
  refine PySem.W.methodCall_KW (ld_glob I hg hm ?_ hdb) hc
  refine PySem.W.method_cls I.kIn hr.ga (PySem.W.cls_value I.kIn hr.rd hf (by decide +kernel) ?_)
  show wpAny _ _ (callWith pos _ _ _ _) _ _ _
  refine PyProof.Rows.callWith_method1 (thn (ha.run pos pins _ σ H _ (I.tok _) want) ?_) he hpl
  rintro us t ⟨vs, H1, I1, r1, a, C, ws, rfl, size, T, at_, q⟩
  cases r1 with
  | @cons _ u _ us' same rest =>
    cases (show u = Value.ref a from same)
    exact oinit_ok T I1 at_ (by rw [← Paired.length rest, sizeLine_eq]; omega) fun t J => ⟨.non, H1, J, rfl, q⟩
theorem ew_kinit {nm : Str} {pl : Sem Bool} (T : BaseIni X.K X.mg nm) (h : AW X O ρ (e :: es) x fun ss O1 => ∃ (a C : Addr) (ws : List Slot), ss = .own a :: ws ∧ ws.length ≤ 1000 ∧ OexC X.K C ∧ O1 a = some (.exo C none) ∧ k (.dat .non) O1) (hg : Gl X nm := by rfl)
    (hc : eval (.Call (.Attribute (.Name nm p1) "__init__" p2) (e :: es) [] pos) X.env = (do
      let ov ← eval (.Name nm p1) X.env
      standAt p2.atName
      let (f, first) ← holding [ov] (getMethod ov "__init__" pl)
      callWith pos f first (backTo pos (starEach (e :: es) X.env)) (backToKw pos (keywordEach [] X.env))) := by rfl)
    (he : starEach (e :: es) X.env = (false, eval e X.env) :: starEach es X.env := by rfl) (hpl : (backTo pos (starEach es X.env)).any (·.1) = false := by rfl) (hdb : (nm == ("__debug__" : Str)) = false := by decide) :
    EW X O ρ (.Call (.Attribute (.Name nm p1) "__init__" p2) (e :: es) [] pos) x k := fun H0 σ H st tk Q q =>
  we_of (pe_kinit (pl := pl) T hg pa_w hc he hpl hdb) (h H0 σ H st tk _ fun vs H1 ss O1 ⟨a, C, ws, e1, h1, h2, h3, h4⟩ st1 pr => by
    subst e1
    cases pr with
    | cons r1 r2 =>
      rename_i v vs'
      obtain rfl : v = .ref a := r1
      obtain ⟨oa, z1, z2⟩ := st1.own.cell a _ h3
      subst z2
      exact ⟨a, C, vs', rfl, by rw [paired_len r2]; exact h1, h2, z1, q _ H1 _ O1 h4 st1 .non⟩)
/-- self.f = e, self an exception that is being made -/
theorem s1_ost {f : Str} (h : EW X O ρ e x fun s1 O1 => EW X O1 ρ o x fun s2 O2 => ∃ a C, s2 = .own a ∧ OexC X.K C ∧ PySem.W.findIn X.K (.ref C) f = some none ∧
      ((O2 a = some (.exo C none) ∧ ∀ dx, O2 dx = none → D.nx ρ (up (up O2 dx (.exd [(f, s1)])) a (.exo C (some dx)))) ∨
        ∃ dx fs, O2 a = some (.exo C (some dx)) ∧ O2 dx = some (.exd fs) ∧ fs.length ≤ 900 ∧ D.nx ρ (up O2 dx (.exd ((f, s1) :: fs)))))
    (hs : swapsWith e (some (.Attribute o f p')) pos.line X.env = pure false := by rfl) : S1 X O ρ (.Assign [.Attribute o f p'] e pos) x D := fun H0 σ H st tk E ok => by
  refine ws_of (ps_ost pe_w pe_w hs) (two h st tk (Q := fun y v2 H2 => ∃ a C : Addr, v2 = .ref a ∧ OexC X.K C ∧ PySem.W.findIn X.K (.ref C) f = some none ∧ ((H2 a = some (exo a C none) ∧ ∀ dx, H2 dx = none → dx ≠ a → E.nx σ (upd (upd H2 dx (exd dx [(f, y)])) a (exo a C (some dx)))) ∨
    ∃ (dx : Addr) (fs : List (Str × V)), H2 a = some (exo a C (some dx)) ∧ H2 dx = some (exd dx fs) ∧ fs.length ≤ 900 ∧ E.nx σ (upd H2 dx (exd dx ((f, y) :: fs))))) fun y v2 s1 s2 O2 H2 hp st2 r1 r2 => ?_)
  obtain ⟨a, C, e1, h1, h2, h3⟩ := hp
  subst e1
  obtain rfl : v2 = .ref a := r2
  refine ⟨a, C, rfl, h1, h2, ?_⟩
  rcases h3 with ⟨ca, hn⟩ | ⟨dx, fs, ca, cd, hl, hn⟩
  · obtain ⟨oa, z1, z2⟩ := st2.own.cell a _ ca
    subst z2
    refine .inl ⟨z1, fun dx hd nda => ?_⟩
    have hO := own_free st2.own hd
    have st3 := st2.alloc (o := exd dx [(f, y)]) (c := .exd [(f, s1)]) hd ⟨_, rfl, .cons ⟨rfl, r1⟩ .nil⟩
    have st4 := st3.write (p := a) (o := exo a C (some dx)) (c := .exo C (some dx)) (by rw [up_ne nda.symm]; exact ca) rfl
    exact ok.nx σ ρ _ _ (hn dx hO) st4
  · obtain ⟨oa, z1, z2⟩ := st2.own.cell a _ ca
    subst z2
    obtain ⟨od, z3, fv, z4, z5⟩ := st2.own.cell dx _ cd
    subst z4
    refine .inr ⟨dx, fv, z1, z3, by rw [paired_len z5]; exact hl, ?_⟩
    exact ok.nx σ ρ _ _ hn (st2.write (o := exd dx ((f, y) :: fv)) (c := .exd ((f, s1) :: fs)) cd ⟨_, rfl, .cons ⟨rfl, r1⟩ z5⟩)
/-! ### try -/
def ExMt (K : PySem.W.Frag) (e : Exn) (c : Value) (b : Bool) : Prop := match e with
  | .own C _ => PySem.W.exmOne K (.ref C) c = some b
  | .ty n => PySem.W.exmOne K (.type n) c = some b
theorem exMt_of {K : PySem.W.Frag} {O : Own} {H : Hp} {cls : Value} {d : Option Addr} {e : Exn} {c : Value} {b : Bool} (h : ExMt K e c b) (q : ExOk K O H cls d e) : PySem.W.exmOne K cls c = some b := by
  cases e with
  | own C fs => rw [q.1]; exact h
  | ty n =>
    have q : cls = .type n := q
    rw [q]; exact h
/-- the suite of a clause, for each way in which the exception may lie; i: the place of its name -/
def Suite (X : Cx) (i : Option Nat) (suite : List Stmt) (D : SD) (e : Exn) (ρ : List Slot) (O : Own) : Prop := match e with
  | .own C fs => ∀ (a dd : Addr) (oe : Obj) (pn : List (Addr × Obj)), Zc (.ref C) (some dd) oe → (∃ vs, oe.data = .fields vs) → O a = none →
      SW (X.suite a ((a, oe) :: pn)) O (match i with | some j => ρ.set j (.dat (.exc a dd fs)) | none => ρ) suite noX D
  | .ty n => ∀ (a : Addr) (d : Option Addr) (oe : Obj) (pn : List (Addr × Obj)), Zc (.type n) d oe → (∃ vs, oe.data = .fields vs) → O a = none →
      SW (X.suite a ((a, oe) :: pn)) O (match i with | some j => ρ.set j (.own a) | none => ρ) suite noX D
theorem StOk.unset {K : PySem.W.Frag} {H0 H : Hp} {σ : SV} (h : StOk K H0 O σ ρ H) (i : Nat) : StOk K H0 O (σ.set i none) (ρ.set i .unk) H := ⟨h.own, h.base, paired_set (x := none) env_none i h.env⟩
theorem suite_of {i : Option Nat} {suite : List Stmt} {ex : Exn} {H0 H : Hp} {σ : SV} {cls : Value} {d : Option Addr} {E : Ends} {a : Addr} {oe : Obj} {pn : List (Addr × Obj)} (h : Suite X i suite D ex ρ O) (st : StOk X.K H0 O σ ρ H) (hx : ExOk X.K O H cls d ex) (ha : H a = none)
    (hz : Zc cls d oe) (hf : ∃ vs, oe.data = .fields vs) (ok : EndsOk X.K H0 D E) : Wss (X.suite a ((a, oe) :: pn)) suite E (match i with | some j => σ.set j (some (.ref a)) | none => σ) H := by
  have hO := own_free st.own ha
  cases ex with
  | own C fs =>
    obtain ⟨e1, dd, fv, e2, n1, h1, h2⟩ := hx
    subst e1 e2
    have rr : SlOk X.K (hid O H) (.ref a) (.dat (.exc a dd fs)) := Rp.exc (by rw [hid_none n1]; exact h1) h2
    cases i with
    | none => exact h a dd oe pn hz hf hO H0 σ H st takes_no E ok
    | some j => exact h a dd oe pn hz hf hO H0 _ H (st.set (i := j) rr) takes_no E ok
  | ty nn =>
    have e1 : cls = .type nn := hx
    subst e1
    cases i with
    | none => exact h a d oe pn hz hf hO H0 σ H st takes_no E ok
    | some j => exact h a d oe pn hz hf hO H0 _ H (st.set (i := j) (v := .ref a) (s := .own a) rfl) takes_no E ok
/-- except C as n -/
theorem s1_try_as {nm nn : Str} {cc : Value} {body suite : List Stmt} {b₀ : Stmt} {np pos' : Pos} (i : Nat) (hN : X.N.Nodup) (hcn : Names X nm cc)
    (h : ∀ (pn : List (Addr × Obj)) (xe : Value → Shared → Prop), PassesOwn (model X.prog X.w) X.A X.env xe → SW (X.tr pn xe) O ρ body
      (fun e ρ' O' => ∃ t, ExMt X.K e cc t ∧ (t = true → Suite X (some i) (b₀ :: suite) { nx := fun ρ2 O2 => D.nx (ρ2.set i .unk) O2, rt := D.rt, bk := fun ρ2 O2 => D.bk (ρ2.set i .unk) O2, ct := fun ρ2 O2 => D.ct (ρ2.set i .unk) O2 } e ρ' O') ∧ (t = false → x e ρ' O')) D)
    (hs : X.stack = X.env :: X.outer := by rfl) (hf : X.env.frame = some X.env.locals := by rfl) (hi : X.N[i]? = some nn := by rfl) (hln : X.env.kindOf nn = some .local := by rfl) :
    S1 X O ρ (.Try body [.ExceptHandler (some (.Name nm np)) (some nn) (b₀ :: suite) pos'] [] [] pos) x D := fun H0 σ H st tk E ok => by
  refine ws_of (ps_try_as (X := X) (tb := fun W D σ H => ∀ pn xe, Takes (X.tr pn xe) W → PassesOwn (model X.prog X.w) X.A X.env xe → Wss (X.tr pn xe) body D σ H)
    (ts := fun a cls d D σ H => ∀ oe pn, Zc cls d oe → (∃ vs, oe.data = .fields vs) → Wss (X.suite a ((a, oe) :: pn)) (b₀ :: suite) D σ H) hs hf hN hi hln hcn tk
    (fun W pn xe tkW hpo => ⟨fun pins s σ H D I q => (q pn xe tkW hpo).r pins s I⟩) (fun a oe cls d pn hz hf => ⟨fun pins s σ H D I q => (q oe pn hz hf).r pins s I⟩)) ?_
  intro pn xe tkW hpo
  refine h pn xe hpo H0 σ H st (tkW.imp fun cls d σ' H' hw => ?_) E ok
  obtain ⟨ex, ρ', O', ⟨t, hm, hy, hn⟩, st', hx⟩ := hw
  refine ⟨t, exMt_of hm hx, fun ht a ha oe pn' hz hf' => ?_, fun ht => ⟨ex, ρ', O', hn ht, st', hx⟩⟩
  exact suite_of (i := some i) (hy ht) st' hx ha hz hf' ⟨fun σ2 ρ2 O2 H2 q s => ok.nx _ _ O2 H2 q (s.unset i), ok.rt, fun σ2 ρ2 O2 H2 q s => ok.bk _ _ O2 H2 q (s.unset i), fun σ2 ρ2 O2 H2 q s => ok.ct _ _ O2 H2 q (s.unset i)⟩
/-- except C -/
theorem s1_try_only {nm : Str} {cc : Value} {body suite : List Stmt} {b₀ : Stmt} {np pos' : Pos} (hcn : Names X nm cc)
    (h : ∀ (pn : List (Addr × Obj)) (xe : Value → Shared → Prop), PassesOwn (model X.prog X.w) X.A X.env xe → SW (X.tr pn xe) O ρ body
      (fun e ρ' O' => ∃ t, ExMt X.K e cc t ∧ (t = true → Suite X none (b₀ :: suite) D e ρ' O') ∧ (t = false → x e ρ' O')) D)
    (hs : X.stack = X.env :: X.outer := by rfl) (hf : X.env.frame = some X.env.locals := by rfl) :
    S1 X O ρ (.Try body [.ExceptHandler (some (.Name nm np)) none (b₀ :: suite) pos'] [] [] pos) x D := fun H0 σ H st tk E ok => by
  refine ws_of (ps_try_only (X := X) (tb := fun W D σ H => ∀ pn xe, Takes (X.tr pn xe) W → PassesOwn (model X.prog X.w) X.A X.env xe → Wss (X.tr pn xe) body D σ H)
    (ts := fun a cls d D σ H => ∀ oe pn, Zc cls d oe → (∃ vs, oe.data = .fields vs) → Wss (X.suite a ((a, oe) :: pn)) (b₀ :: suite) D σ H) hs hf hcn tk
    (fun W pn xe tkW hpo => ⟨fun pins s σ H D I q => (q pn xe tkW hpo).r pins s I⟩) (fun a oe cls d pn hz hf => ⟨fun pins s σ H D I q => (q oe pn hz hf).r pins s I⟩)) ?_
  intro pn xe tkW hpo
  refine h pn xe hpo H0 σ H st (tkW.imp fun cls d σ' H' hw => ?_) E ok
  obtain ⟨ex, ρ', O', ⟨t, hm, hy, hn⟩, st', hx⟩ := hw
  refine ⟨t, exMt_of hm hx, fun ht a ha oe pn' hz hf' => ?_, fun ht => ⟨ex, ρ', O', hn ht, st', hx⟩⟩
  exact suite_of (i := none) (hy ht) st' hx ha hz hf' ok
/-! ### in a suite: e.f and isinstance(e, C) of the caught e -/
theorem ew_exf {f : Str} {aa dd C : Addr} {oe : Obj} {pn : List (Addr × Obj)} (T : XfC X.K C) (hno : PySem.W.findIn X.K (.ref C) f = some none) (hz : Zc (.ref C) (some dd) oe) (hf : ∃ vs, oe.data = .fields vs)
    (h : EW (X.suite aa ((aa, oe) :: pn)) O ρ e x fun s O1 => ∃ fs d, s = .dat (.exc aa dd fs) ∧ fs.lookup f = some d ∧ k (.dat d) O1) (hb : attributeBase e f X.env (eval e X.env) = eval e X.env := by rfl) :
    EW (X.suite aa ((aa, oe) :: pn)) O ρ (.Attribute e f pos) x k := fun H0 σ H st tk Q q =>
  we_of (pe_xf T hno hz hf pe_w hb) (h H0 σ H st tk _ fun v H1 s O1 ⟨fs, d, e1, h1, h2⟩ st1 r1 => by
    subst e1
    cases r1 with
    | exc h3 h4 =>
      obtain ⟨v, h5, h6⟩ := h4.lookup h1
      exact ⟨rfl, rfl, dd, _, v, rfl, hid_le _ _ h3, h5, q v H1 _ O1 h2 st1 h6⟩)
theorem cb_isE {aa dd C C' : Addr} {oe : Obj} {pn : List (Addr × Obj)} {fs : List (Str × Dat)} {t : Bool} (T : ExcC X.K C) (hz : Zc (.ref C) (some dd) oe) (hf : ∃ vs, oe.data = .fields vs) (hk : PySem.W.kitOne X.K (.ref C) (.ref C') = some t) (h : k (.dat (.bl t)) O) :
    CaB (X.suite aa ((aa, oe) :: pn)) (.builtin "isinstance") [.dat (.exc aa dd fs), .dat (.cls C')] O k := by
  refine ⟨fun xs H Q => xs = [.ref aa, .ref C'] ∧ (∃ fv, H dd = some (.xd fv)) ∧ Q (.bl t) H, ?_, ?_⟩
  · intro pins s σ H xs us Q I r hq
    obtain ⟨rfl, ⟨fv, hdd⟩, q⟩ := hq
    cases r with
    | cons rx rr =>
      cases rr with
      | cons rt rr =>
        cases rr
        cases rx
        cases rt
        obtain ⟨hget, _⟩ := I.pin (aa, oe) (List.mem_append.mpr (.inl List.mem_cons_self))
        obtain ⟨vs, hv⟩ := hf
        have hx : ObjOk X.prog X.w H s.heap dd (.xd fv) := I.hok dd _ hdd
        obtain ⟨mA, hns, _⟩ := hx
        obtain ⟨od, ho, _⟩ := lookIn_ns hns
        have J : PySem.W.InstAt s.heap aa oe C (some od) := ⟨hget, hz.1, by unfold PySem.W.notCls; rw [hv] <;> rfl, by rw [hz.2]; exact ho⟩
        exact PySem.W.kia_one (kit_exc T) I.kIn ⟨_, J⟩ hk (fun z => nomatch z) fun tk => ⟨.bl t, H, I.kept (t' := tk) fun _ _ z => z, rfl, q⟩
  · intro H0 σ ρ H vs st pr Q q
    cases pr with
    | cons r1 pr =>
      cases pr with
      | cons r2 pr =>
        cases pr
        cases r1 with
        | exc h3 h4 =>
          cases r2
          exact ⟨rfl, ⟨_, hid_le _ _ h3⟩, q _ H _ O h st (.bl t)⟩
end
end Kn
/-! KnF: operators, built-in functions and methods by what they are given. -/
namespace Kn
open PySem PySem.Spec PyProof.Rows
open L2 hiding St
/-! ### data as the library's data -/
mutual
def toPy : Dat → PyData
  | .non => .none
  | .bl b => .bool b
  | .int i => .int i
  | .str x => .str x
  | .lst xs => .list (toPys xs)
  | .fro xs => .list (toPys xs)
  | .tup xs => .tuple (toPys xs)
  | _ => .none
def toPys : List Dat → List PyData
  | [] => []
  | d :: ds => toPy d :: toPys ds
end
mutual
def plain : Dat → Bool
  | .non => true
  | .bl _ => true
  | .int _ => true
  | .str _ => true
  | .lst xs => plains xs
  | .fro xs => plains xs
  | .tup xs => plains xs
  | _ => false
def plains : List Dat → Bool
  | [] => true
  | d :: ds => plain d && plains ds
end
section
variable {K : PySem.W.Frag} {G H : Hp} {O : Own}
mutual
theorem Rp.dp {v : V} : ∀ {d : Dat}, plain d = true → Rp K G v d → Dp K G v (toPy d)
  | .non, _, h => by cases h; exact .non
  | .bl b, _, h => by cases h; exact .bl b
  | .int i, _, h => by cases h; exact .int i
  | .str x, _, h => by cases h; exact .str x
  | .lst ds, p, h => by
    cases h with
    | lst h1 h2 => exact .lst (sql_at h1) (RpA.dp p h2)
  | .fro ds, p, h => by
    cases h with
    | fro h1 h2 => exact .lst h1 (RpA.dp p h2)
  | .tup ds, p, h => by
    cases h with
    | tup h1 h2 => exact .tup h1 (RpA.dp p h2)
theorem RpA.dp : ∀ {vs : List V} {ds : List Dat}, plains ds = true → RpA K G vs ds → DpAll K G vs (toPys ds)
  | _, [], _, h => by cases h; exact .nil
  | _, d :: ds, p, h => by
    cases h with
    | cons h1 h2 =>
      obtain ⟨p1, p2⟩ := Bool.and_eq_true_iff.mp p
      exact .cons (Rp.dp p1 h1) (RpA.dp p2 h2)
end
theorem Rp.tk {v : V} {d : Dat} (h : Rp K (hid O H) v d) : Rp K H v d := Rp.mono hid_le h
end
section
variable {X : Cx} {O : Own} {ρ : List Slot} {x : ExK} {k k' : Slot → Own → Prop} {kl kl' : List Slot → Own → Prop} {e a b c o : Expr} {es : List Expr} {pos p apos : Pos} {D : SD}
/-! ### ints -/
theorem ob_add {i j : Int} (h : k (.dat (.int (i + j))) O) : OpB X (binaryOp .Add) (.dat (.int i)) (.dat (.int j)) O k := ⟨_, op_add, fun H0 σ ρ H v1 v2 st r1 r2 Q q => by
  cases r1; cases r2; exact ⟨i, j, rfl, rfl, q _ H _ O h st (.int _)⟩⟩
theorem ob_sub {i j : Int} (h : k (.dat (.int (i - j))) O) : OpB X (binaryOp .Sub) (.dat (.int i)) (.dat (.int j)) O k := ⟨_, op_sub, fun H0 σ ρ H v1 v2 st r1 r2 Q q => by
  cases r1; cases r2; exact ⟨i, j, rfl, rfl, q _ H _ O h st (.int _)⟩⟩
theorem ob_mul {i j : Int} (hb : (-(2 ^ 64) < i ∧ i < 2 ^ 64) ∨ (-(2 ^ 64) < j ∧ j < 2 ^ 64)) (h : k (.dat (.int (i * j))) O) : OpB X (binaryOp .Mult) (.dat (.int i)) (.dat (.int j)) O k := ⟨_, op_mul, fun H0 σ ρ H v1 v2 st r1 r2 Q q => by
  cases r1; cases r2; exact ⟨i, j, rfl, rfl, hb, q _ H _ O h st (.int _)⟩⟩
theorem ob_mod {i j : Int} (hb : 0 < j) (h : k (.dat (.int (i % j))) O) : OpB X (binaryOp .Mod) (.dat (.int i)) (.dat (.int j)) O k := ⟨_, op_mod, fun H0 σ ρ H v1 v2 st r1 r2 Q q => by
  cases r1; cases r2; exact ⟨i, j, rfl, rfl, hb, q _ H _ O h st (.int _)⟩⟩
theorem ob_fdiv {i j : Int} (hb : 0 < j ∧ j < 1073741824) (h : k (.dat (.int (i / j))) O) : OpB X (binaryOp .FloorDiv) (.dat (.int i)) (.dat (.int j)) O k := ⟨_, op_fdiv, fun H0 σ ρ H v1 v2 st r1 r2 Q q => by
  cases r1; cases r2; exact ⟨i, j, rfl, rfl, hb, q _ H _ O h st (.int _)⟩⟩
theorem ob_pow {i j : Int} (hb : 0 ≤ j ∧ j ≤ 1000000 ∧ i.natAbs < 2 ^ 64) (h : k (.dat (.int (i ^ j.toNat))) O) : OpB X (binaryOp .Pow) (.dat (.int i)) (.dat (.int j)) O k := ⟨_, op_pow, fun H0 σ ρ H v1 v2 st r1 r2 Q q => by
  cases r1; cases r2; exact ⟨i, j, rfl, rfl, hb, q _ H _ O h st (.int _)⟩⟩
theorem ob_lt {i j : Int} (h : k (.dat (.bl (decide (i < j)))) O) : OpB X (compareOp .Lt) (.dat (.int i)) (.dat (.int j)) O k := ⟨_, op_lt, fun H0 σ ρ H v1 v2 st r1 r2 Q q => by
  cases r1; cases r2; exact ⟨i, j, rfl, rfl, q _ H _ O h st (.bl _)⟩⟩
theorem ob_le {i j : Int} (h : k (.dat (.bl (decide (i ≤ j)))) O) : OpB X (compareOp .LtE) (.dat (.int i)) (.dat (.int j)) O k := ⟨_, op_le, fun H0 σ ρ H v1 v2 st r1 r2 Q q => by
  cases r1; cases r2; exact ⟨i, j, rfl, rfl, q _ H _ O h st (.bl _)⟩⟩
theorem ob_gt {i j : Int} (h : k (.dat (.bl (decide (j < i)))) O) : OpB X (compareOp .Gt) (.dat (.int i)) (.dat (.int j)) O k := ⟨_, op_gt, fun H0 σ ρ H v1 v2 st r1 r2 Q q => by
  cases r1; cases r2; exact ⟨i, j, rfl, rfl, q _ H _ O h st (.bl _)⟩⟩
theorem ob_ge {i j : Int} (h : k (.dat (.bl (decide (j ≤ i)))) O) : OpB X (compareOp .GtE) (.dat (.int i)) (.dat (.int j)) O k := ⟨_, op_ge, fun H0 σ ρ H v1 v2 st r1 r2 Q q => by
  cases r1; cases r2; exact ⟨i, j, rfl, rfl, q _ H _ O h st (.bl _)⟩⟩
theorem ou_neg {i : Int} (h : k (.dat (.int (-i))) O) : OpU X (unaryOp .USub) (.dat (.int i)) O k := ⟨_, un_neg, fun H0 σ ρ H v1 st r1 Q q => by
  cases r1; exact ⟨i, rfl, q _ H _ O h st (.int _)⟩⟩
/-! ### ==, !=, in on data -/
def eqD (a b : Dat) : Bool := PyData.eqv (toPy a) (toPy b)
theorem ob_eq {d1 d2 : Dat} (hr : Room 0 X.A) (p1 : plain d1 = true) (p2 : plain d2 = true) (s1 : SeqAt.shaped (toPy d1) = true) (s2 : SeqAt.shaped (toPy d2) = true) (h : k (.dat (.bl (eqD d1 d2))) O) : OpB X (compareOp .Eq) (.dat d1) (.dat d2) O k :=
  ⟨_, op_eqD hr.units, fun H0 σ ρ H v1 v2 st r1 r2 Q q => ⟨_, _, Rp.dp p1 (Rp.tk r1), Rp.dp p2 (Rp.tk r2), s1, s2, q _ H _ O h st (.bl _)⟩⟩
theorem ob_ne {d1 d2 : Dat} (hr : Room 0 X.A) (p1 : plain d1 = true) (p2 : plain d2 = true) (s1 : SeqAt.shaped (toPy d1) = true) (s2 : SeqAt.shaped (toPy d2) = true) (h : k (.dat (.bl (!eqD d1 d2))) O) : OpB X (compareOp .NotEq) (.dat d1) (.dat d2) O k :=
  ⟨_, op_neD hr.units, fun H0 σ ρ H v1 v2 st r1 r2 Q q => ⟨_, _, Rp.dp p1 (Rp.tk r1), Rp.dp p2 (Rp.tk r2), s1, s2, q _ H _ O h st (.bl _)⟩⟩
theorem ob_eqI {i j : Int} (h : k (.dat (.bl (decide (i = j)))) O) : OpB X (compareOp .Eq) (.dat (.int i)) (.dat (.int j)) O k := ⟨_, op_eq, fun H0 σ ρ H v1 v2 st r1 r2 Q q => by
  cases r1; cases r2
  refine ⟨rfl, q _ H _ O h st ?_⟩
  rw [show decide (V.int i = V.int j) = decide (i = j) by by_cases e : i = j <;> simp [e]]
  exact .bl _⟩
theorem ob_neI {i j : Int} (h : k (.dat (.bl (!decide (i = j)))) O) : OpB X (compareOp .NotEq) (.dat (.int i)) (.dat (.int j)) O k := ⟨_, op_ne, fun H0 σ ρ H v1 v2 st r1 r2 Q q => by
  cases r1; cases r2
  refine ⟨rfl, q _ H _ O h st ?_⟩
  rw [show decide (V.int i = V.int j) = decide (i = j) by by_cases e : i = j <;> simp [e]]
  exact .bl _⟩
theorem ob_eqS {y z : Str} (h : k (.dat (.bl (decide (y = z)))) O) : OpB X (compareOp .Eq) (.dat (.str y)) (.dat (.str z)) O k := ⟨_, op_eq, fun H0 σ ρ H v1 v2 st r1 r2 Q q => by
  cases r1; cases r2
  refine ⟨rfl, q _ H _ O h st ?_⟩
  rw [show decide (V.str y = V.str z) = decide (y = z) by by_cases e : y = z <;> simp [e]]
  exact .bl _⟩
theorem ob_neS {y z : Str} (h : k (.dat (.bl (!decide (y = z)))) O) : OpB X (compareOp .NotEq) (.dat (.str y)) (.dat (.str z)) O k := ⟨_, op_ne, fun H0 σ ρ H v1 v2 st r1 r2 Q q => by
  cases r1; cases r2
  refine ⟨rfl, q _ H _ O h st ?_⟩
  rw [show decide (V.str y = V.str z) = decide (y = z) by by_cases e : y = z <;> simp [e]]
  exact .bl _⟩
theorem ob_eqB {y z : Bool} (h : k (.dat (.bl (decide (y = z)))) O) : OpB X (compareOp .Eq) (.dat (.bl y)) (.dat (.bl z)) O k := ⟨_, op_eq, fun H0 σ ρ H v1 v2 st r1 r2 Q q => by
  cases r1; cases r2
  refine ⟨rfl, q _ H _ O h st ?_⟩
  rw [show decide (V.bl y = V.bl z) = decide (y = z) by cases y <;> cases z <;> rfl]
  exact .bl _⟩
theorem decide_non {v : V} {d : Dat} {K : PySem.W.Frag} {G : Hp} (r : Rp K G v d) : decide (v = .non) = (match d with | .non => true | _ => false) := by
  cases r <;> rfl
def isNon : Dat → Bool
  | .non => true
  | _ => false
theorem ob_isN {d : Dat} (h : k (.dat (.bl (isNon d))) O) : OpB X (compareOp .Is) (.dat d) (.dat .non) O k := ⟨_, op_isN, fun H0 σ ρ H v1 v2 st r1 r2 Q q => by
  cases r2
  refine ⟨rfl, q _ H _ O h st ?_⟩
  have e : decide (v1 = .non) = isNon d := by cases r1 <;> rfl
  rw [e]; exact .bl _⟩
theorem ob_isNotN {d : Dat} (h : k (.dat (.bl (!isNon d))) O) : OpB X (compareOp .IsNot) (.dat d) (.dat .non) O k := ⟨_, op_notN, fun H0 σ ρ H v1 v2 st r1 r2 Q q => by
  cases r2
  refine ⟨rfl, q _ H _ O h st ?_⟩
  have e : decide (v1 = .non) = isNon d := by cases r1 <;> rfl
  rw [e]; exact .bl _⟩
/-- a text among texts -/
theorem eqV_str (y z : Str) : eqV (.str y) (.str z) = (y == z) := rfl
theorem inV_strs {z : Str} : ∀ {ws : List Str}, inV (.str z) (ws.map V.str) = ws.any (· == z)
  | [] => rfl
  | y :: ws => by
    show (eqV (.str y) (.str z) || inV (.str z) (ws.map V.str)) = _
    rw [inV_strs, eqV_str]; rfl
theorem rpa_strs {K : PySem.W.Frag} {G : Hp} : ∀ {vs : List V} {ws : List Str}, RpA K G vs (ws.map .str) → vs = ws.map V.str
  | _, [], h => by cases h; rfl
  | _, w :: ws, h => by
    cases h with
    | cons h1 h2 =>
      cases h1
      rw [rpa_strs h2]; rfl
theorem all_flat (ws : List Str) : (ws.map V.str).all flatV = true := by
  induction ws with
  | nil => rfl
  | cons w ws ih =>
    rw [List.map_cons, List.all_cons, ih]; rfl
theorem ob_inT {z : Str} {ws : List Str} (h : k (.dat (.bl (ws.any (· == z)))) O) : OpB X (compareOp .In) (.dat (.str z)) (.dat (.tup (ws.map .str))) O k := ⟨_, op_in_seq, fun H0 σ ρ H v1 v2 st r1 r2 Q q => by
  cases r1
  cases r2 with
  | tup h1 h2 =>
    have e := rpa_strs h2
    subst e
    refine ⟨_, _, rfl, .inr (sqt_mono hid_le h1), rfl, all_flat ws, q _ H _ O h st ?_⟩
    rw [inV_strs]; exact .bl _⟩
theorem ob_niT {z : Str} {ws : List Str} (h : k (.dat (.bl (!ws.any (· == z)))) O) : OpB X (compareOp .NotIn) (.dat (.str z)) (.dat (.tup (ws.map .str))) O k := ⟨_, op_notIn_seq, fun H0 σ ρ H v1 v2 st r1 r2 Q q => by
  cases r1
  cases r2 with
  | tup h1 h2 =>
    have e := rpa_strs h2
    subst e
    refine ⟨_, _, rfl, .inr (sqt_mono hid_le h1), rfl, all_flat ws, q _ H _ O h st ?_⟩
    rw [inV_strs]; exact .bl _⟩
theorem ob_inL {z : Str} {ws : List Str} (h : k (.dat (.bl (ws.any (· == z)))) O) : OpB X (compareOp .In) (.dat (.str z)) (.dat (.lst (ws.map .str))) O k := ⟨_, op_in_seq, fun H0 σ ρ H v1 v2 st r1 r2 Q q => by
  cases r1
  cases r2 with
  | lst h1 h2 =>
    have e := rpa_strs h2
    subst e
    refine ⟨_, _, rfl, .inl (sql_at (hid_le _ _ h1)), rfl, all_flat ws, q _ H _ O h st ?_⟩
    rw [inV_strs]; exact .bl _⟩
theorem ob_niL {z : Str} {ws : List Str} (h : k (.dat (.bl (!ws.any (· == z)))) O) : OpB X (compareOp .NotIn) (.dat (.str z)) (.dat (.lst (ws.map .str))) O k := ⟨_, op_notIn_seq, fun H0 σ ρ H v1 v2 st r1 r2 Q q => by
  cases r1
  cases r2 with
  | lst h1 h2 =>
    have e := rpa_strs h2
    subst e
    refine ⟨_, _, rfl, .inl (sql_at (hid_le _ _ h1)), rfl, all_flat ws, q _ H _ O h st ?_⟩
    rw [inV_strs]; exact .bl _⟩
/-- one sign in a text -/
theorem ob_inS {c : Nat} {z : Str} (h : k (.dat (.bl (decide (c ∈ z.cps.toList)))) O) : OpB X (compareOp .In) (.dat (.str ⟨#[c]⟩)) (.dat (.str z)) O k := ⟨_, op_in_sign, fun H0 σ ρ H v1 v2 st r1 r2 Q q => by
  cases r1; cases r2; exact ⟨c, z, rfl, rfl, q _ H _ O h st (.bl _)⟩⟩
theorem ob_niS {c : Nat} {z : Str} (h : k (.dat (.bl (!decide (c ∈ z.cps.toList)))) O) : OpB X (compareOp .NotIn) (.dat (.str ⟨#[c]⟩)) (.dat (.str z)) O k := ⟨_, op_notIn_sign, fun H0 σ ρ H v1 v2 st r1 r2 Q q => by
  cases r1; cases r2; exact ⟨c, z, rfl, rfl, q _ H _ O h st (.bl _)⟩⟩
/-! ### texts, lists, tuples joined -/
theorem ob_cat {y z : Str} (hl : y.length + z.length ≤ sizeLine) (h : k (.dat (.str (y ++ z))) O) : OpB X (binaryOp .Add) (.dat (.str y)) (.dat (.str z)) O k := ⟨_, op_add_str, fun H0 σ ρ H v1 v2 st r1 r2 Q q => by
  cases r1; cases r2; exact ⟨y, z, rfl, rfl, hl, q _ H _ O h st (.str _)⟩⟩
theorem ob_catL {ds es : List Dat} (hl : ds.length + es.length ≤ sizeLine) (h : k (.dat (.lst (ds ++ es))) O) : OpB X (binaryOp .Add) (.dat (.lst ds)) (.dat (.lst es)) O k := ⟨_, op_cat, fun H0 σ ρ H v1 v2 st r1 r2 Q q => by
  cases r1 with
  | lst h1 h2 =>
    cases r2 with
    | lst h3 h4 =>
      refine ⟨_, _, _, _, rfl, rfl, hid_le _ _ h1, hid_le _ _ h3, by rw [h2.length, h4.length]; exact hl, fun p hp => q _ _ _ O h (st.grow (same_new hp)) ?_⟩
      exact .lst (by rw [hid_none (own_free st.own hp), upd_same]) (RpA.mono (hid_same (same_new hp)) (h2.append h4))⟩
/-- .. the new list a cell -/
theorem ob_catC {ds es : List Dat} (hl : ds.length + es.length ≤ sizeLine) (h : ∀ p, O p = none → k (.own p) (up O p (.lst ((ds ++ es).map .dat)))) : OpB X (binaryOp .Add) (.dat (.lst ds)) (.dat (.lst es)) O k := ⟨_, op_cat, fun H0 σ ρ H v1 v2 st r1 r2 Q q => by
  cases r1 with
  | lst h1 h2 =>
    cases r2 with
    | lst h3 h4 => exact ⟨_, _, _, _, rfl, rfl, hid_le _ _ h1, hid_le _ _ h3, by rw [h2.length, h4.length]; exact hl, fun p hp => q _ _ _ _ (h p (own_free st.own hp)) (st.alloc hp ⟨_, rfl, (h2.append h4).paired⟩) rfl⟩⟩
theorem ob_catT {ds es : List Dat} (hl : ds.length + es.length ≤ sizeLine) (h : k (.dat (.tup (ds ++ es))) O) : OpB X (binaryOp .Add) (.dat (.tup ds)) (.dat (.tup es)) O k := ⟨_, op_catA, fun H0 σ ρ H v1 v2 st r1 r2 Q q => by
  cases r1 with
  | tup h1 h2 =>
    cases r2 with
    | tup h3 h4 =>
      refine ⟨_, _, _, _, rfl, rfl, sqt_mono hid_le h1, sqt_mono hid_le h3, by rw [h2.length, h4.length]; exact hl, fun e1 => ?_, fun e1 e2 => ?_, fun e1 e2 p hp => ?_⟩
      · subst e1
        cases h2
        exact q _ H _ O h st (.tup h3 h4)
      · subst e2
        cases h4
        rw [List.append_nil] at h
        exact q _ H _ O h st (.tup h1 h2)
      · refine q _ _ _ O h (st.grow (same_new hp)) ?_
        exact .tup (.inl (.inl (by rw [hid_none (own_free st.own hp), upd_same]))) (RpA.mono (hid_same (same_new hp)) (h2.append h4))⟩
theorem replicate_rp {K : PySem.W.Frag} {G : Hp} {vs : List V} {ds : List Dat} (h : RpA K G vs ds) : ∀ n, RpA K G (List.replicate n vs).flatten (List.replicate n ds).flatten
  | 0 => .nil
  | n + 1 => by
    rw [List.replicate_succ, List.replicate_succ, List.flatten_cons, List.flatten_cons]
    exact h.append (replicate_rp h n)
theorem ob_rep {ds : List Dat} {n : Int} (hn : -(2 ^ 63) ≤ n ∧ n < 2 ^ 63) (hl : ds.length * n.toNat ≤ sizeLine) (h : k (.dat (.lst (List.replicate n.toNat ds).flatten)) O) : OpB X (binaryOp .Mult) (.dat (.lst ds)) (.dat (.int n)) O k := ⟨_, op_rep, fun H0 σ ρ H v1 v2 st r1 r2 Q q => by
  cases r2
  cases r1 with
  | lst h1 h2 =>
    refine ⟨_, n, _, rfl, rfl, hid_le _ _ h1, hn.1, hn.2, by rw [h2.length]; exact hl, fun p hp => q _ _ _ O h (st.grow (same_new hp)) ?_⟩
    exact .lst (by rw [hid_none (own_free st.own hp), upd_same]) (RpA.mono (hid_same (same_new hp)) (replicate_rp h2 _))⟩
/-- a text n times -/
def timesS (z : Str) (n : Int) : Str := if n < 1 then Str.empty else if (n == 1 || z.length == 0) = true then z else ⟨(List.replicate n.toNat z.cps).foldl (· ++ ·) #[]⟩
theorem op_timesS : OpR X (binaryOp .Mult) (fun v1 v2 H Q => ∃ z n, v1 = .str z ∧ v2 = .int n ∧ n < 1000 ∧ -1000 < n ∧ z.length ≤ 1000 ∧ Q (.str (timesS z n)) H) := by
  intro pins s σ H y z v u Q I rx ry h
  obtain ⟨zz, n, rfl, rfl, h1, h2, h3, q⟩ := h
  obtain ⟨t, rfl⟩ := rx
  obtain ⟨t', rfl⟩ := ry
  have hlen : zz.length * n.toNat ≤ 1000 * 1000 := Nat.mul_le_mul h3 (by omega)
  have hT : Builtin.Str.tooLong (zz.length * n.toNat) = false := by
    unfold Builtin.Str.tooLong
    rw [sizeLine_eq]
    exact decide_eq_false (by omega)
  refine PySem.P.mul_str (by rw [decide_eq_false (by omega), decide_eq_false (by omega)]; rfl) (fun g1 g2 => ?_) (fun g1 g2 => ?_) ?_
  · have e1 : (2 ^ 63 - 1 : Int) / n ≥ (2 ^ 63 - 1) / 1000 := by
      have hn : 0 < n := by omega
      have := Int.ediv_nonneg (show (0 : Int) ≤ 2 ^ 63 - 1 by decide) (show (0 : Int) ≤ n by omega)
      refine (Int.le_ediv_iff_mul_le hn).mpr ?_
      have h5 : ((2 ^ 63 - 1 : Int) / 1000) * n ≤ ((2 ^ 63 - 1 : Int) / 1000) * 1000 := Int.mul_le_mul_of_nonneg_left (by omega) (by decide)
      have h6 : ((2 ^ 63 - 1 : Int) / 1000) * 1000 ≤ 2 ^ 63 - 1 := by decide
      omega
    have e2 : (1000 : Int) ≤ (2 ^ 63 - 1) / 1000 := by decide
    omega
  · exact hT
  · by_cases g1 : n < 1
    · rw [if_pos g1]
      have e : timesS zz n = Str.empty := if_pos g1
      rw [e] at q
      exact ⟨by decide, .str Str.empty, H, I.tok _, ⟨_, rfl⟩, q⟩
    · rw [if_neg g1]
      by_cases g2 : (n == 1 || zz.length == 0) = true
      · rw [if_pos g2]
        have e : timesS zz n = zz := by unfold timesS; rw [if_neg g1, if_pos g2]
        rw [e] at q
        exact ⟨.str zz, H, I, ⟨_, rfl⟩, q⟩
      · rw [if_neg g2]
        have e : timesS zz n = ⟨(List.replicate n.toNat zz.cps).foldl (· ++ ·) #[]⟩ := by unfold timesS; rw [if_neg g1, if_neg g2]
        rw [e] at q
        exact ⟨fits_reps hT, .str _, H, I.tok _, ⟨_, rfl⟩, q⟩
theorem ob_times {z : Str} {n : Int} (hn : n < 1000 ∧ -1000 < n) (hz : z.length ≤ 1000) (h : k (.dat (.str (timesS z n))) O) : OpB X (binaryOp .Mult) (.dat (.str z)) (.dat (.int n)) O k := ⟨_, op_timesS, fun H0 σ ρ H v1 v2 st r1 r2 Q q => by
  cases r1; cases r2; exact ⟨z, n, rfl, rfl, hn.1, hn.2, hz, q _ H _ O h st (.str _)⟩⟩
/-! ### subscripts -/
theorem atI_rp {K : PySem.W.Frag} {G : Hp} {vs : List V} {ds : List Dat} {i : Int} {d : Dat} (h : RpA K G vs ds) (e : atI ds i = some d) : ∃ v, atI vs i = some v ∧ Rp K G v d := by
  unfold atI at e ⊢
  rw [h.length]
  cases hj : ixN ds.length i with
  | none => rw [hj] at e; cases e
  | some j =>
    rw [hj] at e
    exact h.get e
theorem atI_pd {F : V → Slot → Prop} {vs : List V} {ss : List Slot} {i : Int} {s : Slot} (h : Paired F vs ss) (e : atI ss i = some s) : ∃ v, atI vs i = some v ∧ F v s := by
  unfold atI at e ⊢
  rw [paired_len h]
  cases hj : ixN ss.length i with
  | none => rw [hj] at e; cases e
  | some j =>
    rw [hj] at e
    exact paired_get h e
theorem ix_lst {ds : List Dat} {i : Int} {d : Dat} (e : atI ds i = some d) (h : k (.dat d) O) : IxB X (.dat (.lst ds)) (.dat (.int i)) O k := ⟨_, ix_list, fun H0 σ ρ H v1 v2 st r1 r2 Q q => by
  cases r2
  cases r1 with
  | lst h1 h2 =>
    obtain ⟨v, h3, h4⟩ := atI_rp h2 e
    exact ⟨_, _, i, v, rfl, rfl, sql_at (hid_le _ _ h1), h3, q _ H _ O h st h4⟩⟩
theorem ix_fro {ds : List Dat} {i : Int} {d : Dat} (e : atI ds i = some d) (h : k (.dat d) O) : IxB X (.dat (.fro ds)) (.dat (.int i)) O k := ⟨_, ix_list, fun H0 σ ρ H v1 v2 st r1 r2 Q q => by
  cases r2
  cases r1 with
  | fro h1 h2 =>
    obtain ⟨v, h3, h4⟩ := atI_rp h2 e
    exact ⟨_, _, i, v, rfl, rfl, sql_mono hid_le h1, h3, q _ H _ O h st h4⟩⟩
theorem ix_tpl {ds : List Dat} {i : Int} {d : Dat} (e : atI ds i = some d) (h : k (.dat d) O) : IxB X (.dat (.tup ds)) (.dat (.int i)) O k := ⟨_, ix_tup, fun H0 σ ρ H v1 v2 st r1 r2 Q q => by
  cases r2
  cases r1 with
  | tup h1 h2 =>
    obtain ⟨v, h3, h4⟩ := atI_rp h2 e
    exact ⟨_, _, i, v, rfl, rfl, sqt_mono hid_le h1, h3, q _ H _ O h st h4⟩⟩
theorem ix_sgn {z : Str} {i : Int} {c : Nat} (hz : z.length ≤ sizeLine) (e : atI z.cps.toList i = some c) (h : k (.dat (.str ⟨#[c]⟩)) O) : IxB X (.dat (.str z)) (.dat (.int i)) O k := ⟨_, ix_str, fun H0 σ ρ H v1 v2 st r1 r2 Q q => by
  cases r1; cases r2; exact ⟨z, i, c, rfl, rfl, hz, e, q _ H _ O h st (.str _)⟩⟩
theorem ix_own {p : Addr} {ss : List Slot} {i : Int} {s : Slot} (hp : O p = some (.lst ss)) (e : atI ss i = some s) (h : k s O) : IxB X (.own p) (.dat (.int i)) O k := ⟨_, ix_list, fun H0 σ ρ H v1 v2 st r1 r2 Q q => by
  cases r2
  obtain rfl : v1 = .ref p := r1
  obtain ⟨o, h1, vs, rfl, h2⟩ := st.own.cell p _ hp
  obtain ⟨v, h3, h4⟩ := atI_pd h2 e
  exact ⟨p, vs, i, v, rfl, rfl, sql_at h1, h3, q _ H _ O h st h4⟩⟩
/-! slices -/
def OW (X : Cx) (O : Own) (ρ : List Slot) (e : Option Expr) (x : ExK) (k : Option Int → Own → Prop) : Prop :=
  ∀ H0 σ H, StOk X.K H0 O σ ρ H → Takes X (Wsem X.K H0 x) → ∀ Q : Option Int → Hp → Prop, (∀ o H' O', k o O' → StOk X.K H0 O' σ ρ H' → Q o H') → Bx (∀ (pins : List (Addr × Obj)) (s : Shared), Inv X pins σ H s →
    wpAny (model X.prog X.w) X.A (evalPart e X.env) (fun u s' => ∃ o H', Inv X pins σ H' s' ∧ IsPart u o ∧ Q o H') X.xe s)
def Wo (X : Cx) (e : Option Expr) : TO := fun σ H Q => Bx (∀ (pins : List (Addr × Obj)) (s : Shared), Inv X pins σ H s → wpAny (model X.prog X.w) X.A (evalPart e X.env) (fun u s' => ∃ o H', Inv X pins σ H' s' ∧ IsPart u o ∧ Q o H') X.xe s)
theorem po_w {e : Option Expr} : PO X e (Wo X e) := ⟨fun pins s σ H Q I h => h.r pins s I⟩
variable {ko : Option Int → Own → Prop}
theorem ow_none (h : ko none O) : OW X O ρ none x ko := fun H0 σ H st tk Q q => ⟨fun pins s I => po_none.run pins s σ H Q I (q none H O h st)⟩
theorem ow_some (h : EW X O ρ e x fun s O' => ∃ i, s = .dat (.int i) ∧ ko (some i) O') : OW X O ρ (some e) x ko := fun H0 σ H st tk Q q => ⟨fun pins s I =>
  (po_some pe_w).run pins s σ H Q I (h H0 σ H st tk _ fun v H1 s O1 ⟨i, e1, h1⟩ st1 r1 => by
    subst e1
    cases r1
    exact ⟨i, rfl, q _ H1 O1 h1 st1⟩)⟩
def SlB (X : Cx) (s : Slot) (lo hi : Option Int) (O : Own) (k : Slot → Own → Prop) : Prop := ∃ r, SlR X r ∧ ∀ H0 σ ρ H v, StOk X.K H0 O σ ρ H → SlOk X.K (hid O H) v s → ∀ Q : VK, (∀ v H' s O', k s O' → StOk X.K H0 O' σ ρ H' → SlOk X.K (hid O' H') v s → Q v H') → r v lo hi H Q
theorem ew_slice {lo hi : Option Expr} {p2 : Pos} (h : EW X O ρ e x fun s O1 => OW X O1 ρ lo x fun l O2 => OW X O2 ρ hi x fun u O3 => SlB X s l u O3 k) : EW X O ρ (.Subscript e (.Slice lo hi none p2) pos) x k := fun H0 σ H st tk Q q => by
  have main : SlR X (fun v lo hi H Q => ∃ r, SlR X r ∧ r v lo hi H Q) := fun pins s σ H x v vl vu lo hi sl Q I rx hs hl hu ⟨r, ho, hr⟩ => ho pins s σ H x v vl vu lo hi sl Q I rx hs hl hu hr
  refine we_of (pe_slice main pe_w po_w po_w) (h H0 σ H st tk _ fun v H1 s O1 h1 st1 r1 => ?_)
  refine h1 (hid O1 H1) σ H1 st1.top (takes_base tk st1.base) _ fun l H2 O2 h2 st2 => ?_
  have b2 := st1.base.trans st2.base
  refine h2 (hid O2 H2) σ H2 st2.top (takes_base tk b2) _ fun u H3 O3 h3 st3 => ?_
  obtain ⟨r, ho, hr⟩ := h3
  exact ⟨r, ho, hr H0 σ ρ H3 v (st3.rebase b2) (SlOk.mono (st2.base.trans st3.base) r1) Q q⟩
def cutD {α : Type} (xs : List α) (lo hi : Option Int) : List α := (xs.drop (HT.sIx xs.length 0 lo)).take (HT.sIx xs.length xs.length hi - HT.sIx xs.length 0 lo)
theorem RpA.drop {K : PySem.W.Frag} {G : Hp} : ∀ {vs : List V} {ds : List Dat} (n : Nat), RpA K G vs ds → RpA K G (vs.drop n) (ds.drop n)
  | _, _, 0, h => h
  | _, _, n + 1, .nil => .nil
  | _, _, n + 1, .cons _ t => RpA.drop n t
theorem RpA.take {K : PySem.W.Frag} {G : Hp} : ∀ {vs : List V} {ds : List Dat} (n : Nat), RpA K G vs ds → RpA K G (vs.take n) (ds.take n)
  | _, _, 0, _ => .nil
  | _, _, n + 1, .nil => .nil
  | _, _, n + 1, .cons h t => .cons h (RpA.take n t)
theorem cut_rp {K : PySem.W.Frag} {G : Hp} {vs : List V} {ds : List Dat} (h : RpA K G vs ds) (lo hi : Option Int) : RpA K G (cutV vs lo hi) (cutD ds lo hi) := by
  unfold cutV cutD
  rw [h.length]
  exact (h.drop _).take _
theorem sb_lst {ds : List Dat} {lo hi : Option Int} (h : k (.dat (.lst (cutD ds lo hi))) O) : SlB X (.dat (.lst ds)) lo hi O k := ⟨_, sl_list, fun H0 σ ρ H v st r Q q => by
  cases r with
  | lst h1 h2 =>
    refine ⟨_, _, rfl, sql_at (hid_le _ _ h1), fun p hp => q _ _ _ O h (st.grow (same_new hp)) ?_⟩
    exact .lst (by rw [hid_none (own_free st.own hp), upd_same]) (RpA.mono (hid_same (same_new hp)) (cut_rp h2 lo hi))⟩
/-- .. a cell -/
theorem sb_lstC {ds : List Dat} {lo hi : Option Int} (h : ∀ p, O p = none → k (.own p) (up O p (.lst ((cutD ds lo hi).map .dat)))) : SlB X (.dat (.lst ds)) lo hi O k := ⟨_, sl_list, fun H0 σ ρ H v st r Q q => by
  cases r with
  | lst h1 h2 => exact ⟨_, _, rfl, sql_at (hid_le _ _ h1), fun p hp => q _ _ _ _ (h p (own_free st.own hp)) (st.alloc hp ⟨_, rfl, (cut_rp h2 lo hi).paired⟩) rfl⟩⟩
theorem sb_str {z : Str} {lo hi : Option Int} (hz : z.length ≤ sizeLine) (h : k (.dat (.str (cutS z lo hi))) O) : SlB X (.dat (.str z)) lo hi O k := ⟨_, sl_str, fun H0 σ ρ H v st r Q q => by
  cases r; exact ⟨z, rfl, hz, q _ H _ O h st (.str _)⟩⟩
theorem sb_tup {ds : List Dat} {lo hi : Option Int} (h : k (.dat (.tup (cutD ds lo hi))) O) : SlB X (.dat (.tup ds)) lo hi O k := ⟨_, sl_tupA, fun H0 σ ρ H v st r Q q => by
  cases r with
  | tup h1 h2 =>
    refine ⟨_, _, rfl, sqt_mono hid_le h1, fun hw => ?_, fun _ p hp => q _ _ _ O h (st.grow (same_new hp)) ?_⟩
    · rw [h2.length] at hw
      have e : cutD ds lo hi = ds := by
        unfold cutD
        rw [hw.1, hw.2, Nat.sub_zero, List.drop_zero, List.take_length]
      rw [e] at h
      exact q _ H _ O h st (.tup h1 h2)
    · exact .tup (.inl (.inl (by rw [hid_none (own_free st.own hp), upd_same]))) (RpA.mono (hid_same (same_new hp)) (cut_rp h2 lo hi))⟩
/-! ### built-in functions -/
theorem cb_abs {i : Int} (h : k (.dat (.int (if i < 0 then -i else i))) O) : CaB X (.builtin "abs") [.dat (.int i)] O k := ⟨_, call_abs, fun H0 σ ρ H vs st pr Q q => by
  cases pr with
  | cons r1 pr => cases pr; cases r1; exact ⟨i, rfl, q _ H _ O h st (.int _)⟩⟩
theorem cb_max {i j : Int} (hc : X.calm = true) (h : k (.dat (.int (if j > i then j else i))) O) : CaB X (.builtin "max") [.dat (.int i), .dat (.int j)] O k := ⟨_, call_max2 hc, fun H0 σ ρ H vs st pr Q q => by
  cases pr with
  | cons r1 pr =>
    cases pr with
    | cons r2 pr => cases pr; cases r1; cases r2; exact ⟨i, j, rfl, q _ H _ O h st (.int _)⟩⟩
theorem cb_min {i j : Int} (hc : X.calm = true) (h : k (.dat (.int (if j < i then j else i))) O) : CaB X (.builtin "min") [.dat (.int i), .dat (.int j)] O k := ⟨_, call_min2 hc, fun H0 σ ρ H vs st pr Q q => by
  cases pr with
  | cons r1 pr =>
    cases pr with
    | cons r2 pr => cases pr; cases r1; cases r2; exact ⟨i, j, rfl, q _ H _ O h st (.int _)⟩⟩
theorem cb_intB {t : Bool} (h : k (.dat (.int (if t then 1 else 0))) O) : CaB X (.type "int") [.dat (.bl t)] O k := ⟨_, call_int1, fun H0 σ ρ H vs st pr Q q => by
  cases pr with
  | cons r1 pr => cases pr; cases r1; exact .inr ⟨t, rfl, q _ H _ O h st (.int _)⟩⟩
theorem cb_intS {z : Str} {n : Int} (e : PySem.intText? z = some n) (hl : z.length ≤ 640) (h : k (.dat (.int n)) O) : CaB X (.type "int") [.dat (.str z)] O k := ⟨_, call_int_str, fun H0 σ ρ H vs st pr Q q => by
  cases pr with
  | cons r1 pr => cases pr; cases r1; exact ⟨z, n, rfl, e, hl, q _ H _ O h st (.int _)⟩⟩
theorem cb_strI {n : Int} (hl : n.natAbs.log2 < 1920) (h : k (.dat (.str (toString n))) O) : CaB X (.type "str") [.dat (.int n)] O k := ⟨_, call_str_int, fun H0 σ ρ H vs st pr Q q => by
  cases pr with
  | cons r1 pr => cases pr; cases r1; exact ⟨n, rfl, hl, q _ H _ O h st (.str _)⟩⟩
theorem cb_strS {z : Str} (h : k (.dat (.str z)) O) : CaB X (.type "str") [.dat (.str z)] O k := ⟨_, SkE.call_str_str, fun H0 σ ρ H vs st pr Q q => by
  cases pr with
  | cons r1 pr => cases pr; cases r1; exact ⟨z, rfl, q _ H _ O h st (.str _)⟩⟩
theorem cb_lenS {z : Str} (hl : z.length ≤ sizeLine) (h : k (.dat (.int (z.length : Int))) O) : CaB X (.builtin "len") [.dat (.str z)] O k := ⟨_, call_len_str, fun H0 σ ρ H vs st pr Q q => by
  cases pr with
  | cons r1 pr => cases pr; cases r1; exact ⟨z, rfl, hl, q _ H _ O h st (.int _)⟩⟩
theorem cb_lenL {ds : List Dat} (h : k (.dat (.int (ds.length : Int))) O) : CaB X (.builtin "len") [.dat (.lst ds)] O k := ⟨_, call_len_seq, fun H0 σ ρ H vs st pr Q q => by
  cases pr with
  | cons r1 pr =>
    cases pr
    cases r1 with
    | lst h1 h2 =>
      refine ⟨_, _, rfl, .inl (sql_at (hid_le _ _ h1)), q _ H _ O h st ?_⟩
      rw [h2.length]; exact .int _⟩
theorem cb_lenF {ds : List Dat} (h : k (.dat (.int (ds.length : Int))) O) : CaB X (.builtin "len") [.dat (.fro ds)] O k := ⟨_, call_len_seq, fun H0 σ ρ H vs st pr Q q => by
  cases pr with
  | cons r1 pr =>
    cases pr
    cases r1 with
    | fro h1 h2 =>
      refine ⟨_, _, rfl, .inl (sql_mono hid_le h1), q _ H _ O h st ?_⟩
      rw [h2.length]; exact .int _⟩
theorem cb_lenT {ds : List Dat} (h : k (.dat (.int (ds.length : Int))) O) : CaB X (.builtin "len") [.dat (.tup ds)] O k := ⟨_, call_len_seq, fun H0 σ ρ H vs st pr Q q => by
  cases pr with
  | cons r1 pr =>
    cases pr
    cases r1 with
    | tup h1 h2 =>
      refine ⟨_, _, rfl, .inr (sqt_mono hid_le h1), q _ H _ O h st ?_⟩
      rw [h2.length]; exact .int _⟩
theorem cb_lenO {p : Addr} {ss : List Slot} (hp : O p = some (.lst ss)) (h : k (.dat (.int (ss.length : Int))) O) : CaB X (.builtin "len") [.own p] O k := ⟨_, call_len_seq, fun H0 σ ρ H vs st pr Q q => by
  cases pr with
  | cons r1 pr =>
    cases pr
    rename_i v
    obtain rfl : v = .ref p := r1
    obtain ⟨o, h1, xs, rfl, h2⟩ := st.own.cell p _ hp
    refine ⟨_, _, rfl, .inl (sql_at h1), q _ H _ O h st ?_⟩
    rw [paired_len h2]; exact .int _⟩
theorem rpa_bools {K : PySem.W.Frag} {G : Hp} : ∀ {vs : List V} {ws : List Bool}, RpA K G vs (ws.map .bl) → vs = ws.map V.bl
  | _, [], h => by cases h; rfl
  | _, w :: ws, h => by
    cases h with
    | cons h1 h2 =>
      cases h1
      rw [rpa_bools h2]; rfl
theorem cb_all {ts : List Bool} (hc : X.calm = true) (h : k (.dat (.bl (ts.all id))) O) : CaB X (.builtin "all") [.dat (.lst (ts.map .bl))] O k := ⟨_, cr_all hc, fun H0 σ ρ H vs st pr Q q => by
  cases pr with
  | cons r1 pr =>
    cases pr
    cases r1 with
    | lst h1 h2 =>
      have e := rpa_bools h2
      subst e
      exact ⟨_, ts, rfl, sql_at (hid_le _ _ h1), q _ H _ O h st (.bl _)⟩⟩
theorem cb_any {ts : List Bool} (hc : X.calm = true) (h : k (.dat (.bl (ts.any id))) O) : CaB X (.builtin "any") [.dat (.lst (ts.map .bl))] O k := ⟨_, cr_any hc, fun H0 σ ρ H vs st pr Q q => by
  cases pr with
  | cons r1 pr =>
    cases pr
    cases r1 with
    | lst h1 h2 =>
      have e := rpa_bools h2
      subst e
      exact ⟨_, ts, rfl, sql_at (hid_le _ _ h1), q _ H _ O h st (.bl _)⟩⟩
/-- list(xs), a new cell -/
theorem cb_listL {ds : List Dat} (h : ∀ p, O p = none → k (.own p) (up O p (.lst (ds.map .dat)))) : CaB X (.type "list") [.dat (.lst ds)] O k := ⟨_, call_list_of, fun H0 σ ρ H vs st pr Q q => by
  cases pr with
  | cons r1 pr =>
    cases pr
    cases r1 with
    | lst h1 h2 => exact ⟨_, _, rfl, .inl (sql_at (hid_le _ _ h1)), fun p hp => q _ _ _ _ (h p (own_free st.own hp)) (st.alloc hp ⟨_, rfl, h2.paired⟩) rfl⟩⟩
theorem cb_listT {ds : List Dat} (h : ∀ p, O p = none → k (.own p) (up O p (.lst (ds.map .dat)))) : CaB X (.type "list") [.dat (.tup ds)] O k := ⟨_, call_list_of, fun H0 σ ρ H vs st pr Q q => by
  cases pr with
  | cons r1 pr =>
    cases pr
    cases r1 with
    | tup h1 h2 => exact ⟨_, _, rfl, .inr (sqt_mono hid_le h1), fun p hp => q _ _ _ _ (h p (own_free st.own hp)) (st.alloc hp ⟨_, rfl, h2.paired⟩) rfl⟩⟩
theorem cb_tupL {ds : List Dat} (h : k (.dat (.tup ds)) O) : CaB X (.type "tuple") [.dat (.lst ds)] O k := ⟨_, call_tuple_of, fun H0 σ ρ H vs st pr Q q => by
  cases pr with
  | cons r1 pr =>
    cases pr
    cases r1 with
    | lst h1 h2 =>
      refine ⟨_, _, rfl, .inl ⟨sql_at (hid_le _ _ h1), fun p hp => q _ _ _ O h (st.grow (same_new hp)) ?_⟩⟩
      exact .tup (.inl (.inl (by rw [hid_none (own_free st.own hp), upd_same]))) (RpA.mono (hid_same (same_new hp)) h2)⟩
theorem cb_tupT {ds : List Dat} (h : k (.dat (.tup ds)) O) : CaB X (.type "tuple") [.dat (.tup ds)] O k := ⟨_, call_tuple_of, fun H0 σ ρ H vs st pr Q q => by
  cases pr with
  | cons r1 pr =>
    cases pr
    cases r1 with
    | tup h1 h2 => exact ⟨_, _, rfl, .inr ⟨sqt_mono hid_le h1, q _ H _ O h st (.tup h1 h2)⟩⟩⟩
/-- repr of data -/
def reprOk (d : Dat) : Bool := plain d && (toPy d).layable0 && (toPy d).showable && !(toPy d).hasDict && (toPy d).intsShort 13
def reprD (d : Dat) : Str := (toPy d).shown
theorem call_reprD (hr : RoomB true 0 X.A) : CallR X (.builtin "repr") (fun xs H Q => ∃ (a : Addr) (d : PyData), xs = [.ref a] ∧ Dp X.K H (.ref a) d ∧ d.layable0 = true ∧ d.showable = true ∧ d.hasDict = false ∧ d.intsShort 13 = true ∧ Q (.str d.shown) H) := by
  intro pins s σ H xs us Q I r hq
  obtain ⟨a, d, rfl, hd, h1, h2, h3, h4, q⟩ := hq
  cases r with
  | cons rx rr =>
    cases rr
    cases rx
    obtain ⟨as, rd⟩ := Dp.reads I d _ _ hd (show RelV (.ref a) (.ref a) from rfl)
    have hz : d.shown.length ≤ sizeLine := Nat.le_trans (shown_le13 h1 h4) (by rw [sizeLine_eq]; decide)
    have h5 : (PyData.canLay0 d && decide (PyData.depth d ≤ 64) && decide (PyData.weight d ≤ 2 ^ 20)) = true := h1
    simp only [Bool.and_eq_true, decide_eq_true_eq] at h5
    refine repr_of_reads' rd h2 (PyData.noDict_hsm h3) (hr.g rfl) (by have := hr.r.un; omega) (fun _ _ z => z) (fun h' u tk hk => ?_) hz
    exact ⟨.str d.shown, H, I.kept hk, ⟨_, rfl⟩, q⟩
theorem reprOk_and {d : Dat} (h : reprOk d = true) : plain d = true ∧ (toPy d).layable0 = true ∧ (toPy d).showable = true ∧ (toPy d).hasDict = false ∧ (toPy d).intsShort 13 = true := by
  unfold reprOk at h
  simp only [Bool.and_eq_true, Bool.not_eq_true'] at h
  exact ⟨h.1.1.1.1, h.1.1.1.2, h.1.1.2, h.1.2, h.2⟩
theorem cb_reprL (hr : RoomB true 0 X.A) {ds : List Dat} (e : reprOk (.lst ds) = true) (h : k (.dat (.str (reprD (.lst ds)))) O) : CaB X (.builtin "repr") [.dat (.lst ds)] O k := ⟨_, call_reprD hr, fun H0 σ ρ H vs st pr Q q => by
  obtain ⟨e1, e2, e3, e4, e5⟩ := reprOk_and e
  cases pr with
  | cons r1 pr =>
    cases pr
    have r1 : Rp X.K (hid O H) _ (.lst ds) := r1
    have r2 := Rp.dp e1 (Rp.tk r1)
    cases r1
    exact ⟨_, _, rfl, r2, e2, e3, e4, e5, q _ H _ O h st (.str _)⟩⟩
theorem cb_reprT (hr : RoomB true 0 X.A) {ds : List Dat} (e : reprOk (.tup ds) = true) (h : k (.dat (.str (reprD (.tup ds)))) O) : CaB X (.builtin "repr") [.dat (.tup ds)] O k := ⟨_, call_reprD hr, fun H0 σ ρ H vs st pr Q q => by
  obtain ⟨e1, e2, e3, e4, e5⟩ := reprOk_and e
  cases pr with
  | cons r1 pr =>
    cases pr
    have r1 : Rp X.K (hid O H) _ (.tup ds) := r1
    have r2 := Rp.dp e1 (Rp.tk r1)
    cases r1
    exact ⟨_, _, rfl, r2, e2, e3, e4, e5, q _ H _ O h st (.str _)⟩⟩
end
end Kn
/-! KnG: methods of built-in types, f-strings, evaluation without changes, comprehensions of such. -/
namespace Kn
open PySem PySem.Spec PyProof.Rows
open L2 hiding St
section
variable {X : Cx} {O : Own} {ρ : List Slot} {x : ExK} {k k' : Slot → Own → Prop} {kl kl' : List Slot → Own → Prop} {e a b c o : Expr} {es : List Expr} {pos p apos cpos : Pos} {D : SD}
/-! ### methods -/
def TyS (T : String) (O : Own) : Slot → Prop
  | .own p => T = "list" ∧ ∃ ss, O p = some (.lst ss)
  | .dat (.lst _) => T = "list"
  | .dat (.str _) => T = "str"
  | _ => False
theorem tyV_of {T : String} {s : Slot} {H0 H : Hp} {σ : SV} {v : V} (h : TyS T O s) (st : StOk X.K H0 O σ ρ H) (r : SlOk X.K (hid O H) v s) : tyV X.K T v H := by
  cases s with
  | unk => exact h.elim
  | own p =>
    obtain ⟨e1, ss, h2⟩ := h
    obtain rfl : v = .ref p := r
    obtain ⟨o, h3, vs, rfl, _⟩ := st.own.cell p _ h2
    exact .inl ⟨e1, _, sql_at h3⟩
  | dat d =>
    cases d with
    | lst ds =>
      cases r with
      | lst h1 h2 => exact .inl ⟨h, _, sql_at (hid_le _ _ h1)⟩
    | str z => cases r; exact h
    | _ => exact h.elim
def MtB (X : Cx) (id : String) (s : Slot) (ss : List Slot) (O : Own) (k : Slot → Own → Prop) : Prop := ∃ r, MtR X id r ∧ ∀ H0 σ ρ H v vs, StOk X.K H0 O σ ρ H → SlOk X.K (hid O H) v s → Paired (SlOk X.K (hid O H)) vs ss →
  ∀ Q : VK, (∀ v H' s O', k s O' → StOk X.K H0 O' σ ρ H' → SlOk X.K (hid O' H') v s → Q v H') → r v vs H Q
theorem ew_bm {T id : String} {name : Str} (pa : PlainAttrs T) (slot : PySem.Slot T name id) (hty : typeOf (.builtin id) = pure (.type "method_descriptor"))
    (h : EW X O ρ o x fun s O1 => TyS T O1 s ∧ AW X O1 ρ (e :: es) x fun ss O2 => MtB X id s ss O2 k) (hbase : attributeBase o name X.env (eval o X.env) = eval o X.env := by rfl)
    (hfew : ((backTo cpos (starEach (e :: es) X.env)).all (fun x => !x.1) && (backToKw cpos (keywordEach [] X.env)).all (fun x => x.1.isSome)
      && decide ((e :: es).length + ([] : List Keyword).length + (if ([] : List Keyword).isEmpty then 0 else 1) < 30)) = true := by rfl)
    (hline : (apos.endLine == cpos.line) = true := by rfl) (hs : starEach (e :: es) X.env = (false, eval e X.env) :: starEach es X.env := by rfl) (hplain : (backTo cpos (starEach es X.env)).any (·.1) = false := by rfl) :
    EW X O ρ (.Call (.Attribute o name apos) (e :: es) [] cpos) x k := fun H0 σ H st tk Q q => by
  have main : MtR X id (fun v vs H Q => ∃ r, MtR X id r ∧ r v vs H Q) := fun pins s σ H x xs v us Q I rx rv ⟨r, ho, hr⟩ => ho pins s σ H x xs v us Q I rx rv hr
  refine we_of (pe_bm pa slot hty main pe_w pa_w hbase hfew hline hs hplain) (h H0 σ H st tk _ fun v H1 s O1 ⟨t1, h1⟩ st1 r1 => ?_)
  refine ⟨tyV_of t1 st1 r1, h1 (hid O1 H1) σ H1 st1.top (takes_base tk st1.base) _ fun vs H2 ss O2 ⟨r, ho, hr⟩ st2 pr => ⟨r, ho, ?_⟩⟩
  exact hr H0 σ ρ H2 v vs (st2.rebase st1.base) (SlOk.mono st2.base r1) pr Q q
theorem ew_bm0 {T id : String} {name : Str} (pa : PlainAttrs T) (slot : PySem.Slot T name id) (hty : typeOf (.builtin id) = pure (.type "method_descriptor"))
    (h : EW X O ρ o x fun s O1 => TyS T O1 s ∧ MtB X id s [] O1 k) (hbase : attributeBase o name X.env (eval o X.env) = eval o X.env := by rfl)
    (hline : (apos.endLine == cpos.line) = true := by rfl) : EW X O ρ (.Call (.Attribute o name apos) [] [] cpos) x k := fun H0 σ H st tk Q q => by
  have main : MtR X id (fun v vs H Q => ∃ r, MtR X id r ∧ r v vs H Q) := fun pins s σ H x xs v us Q I rx rv ⟨r, ho, hr⟩ => ho pins s σ H x xs v us Q I rx rv hr
  refine we_of (pe_bm0 pa slot hty main pe_w hbase hline) (h H0 σ H st tk _ fun v H1 s O1 ⟨t1, r, ho, hr⟩ st1 r1 => ?_)
  exact ⟨tyV_of t1 st1 r1, r, ho, hr H0 σ ρ H1 v [] st1 r1 .nil Q q⟩
theorem mb_append {p : Addr} {ss : List Slot} {s : Slot} (hp : O p = some (.lst ss)) (hl : ss.length < sizeLine) (h : k (.dat .non) (up O p (.lst (ss ++ [s])))) : MtB X "list.append" (.own p) [s] O k := ⟨_, mt_append, fun H0 σ ρ H v vs st r pr Q q => by
  obtain rfl : v = .ref p := r
  cases pr with
  | cons r1 pr =>
    cases pr
    obtain ⟨o, h1, xs, rfl, h2⟩ := st.own.cell p _ hp
    exact ⟨p, xs, _, rfl, rfl, h1, by rw [paired_len h2]; exact hl, q _ _ _ _ h (st.write hp ⟨_, rfl, paired_app h2 (.cons r1 .nil)⟩) .non⟩⟩
theorem mb_extendL {p : Addr} {ss : List Slot} {ds : List Dat} (hp : O p = some (.lst ss)) (hl : ss.length + ds.length ≤ sizeLine) (h : k (.dat .non) (up O p (.lst (ss ++ ds.map .dat)))) : MtB X "list.extend" (.own p) [.dat (.lst ds)] O k := ⟨_, mt_extend, fun H0 σ ρ H v vs st r pr Q q => by
  obtain rfl : v = .ref p := r
  cases pr with
  | cons r1 pr =>
    cases pr
    obtain ⟨o, h1, xs, rfl, h2⟩ := st.own.cell p _ hp
    cases r1 with
    | lst h3 h4 => exact ⟨p, _, xs, _, rfl, rfl, h1, hid_le _ _ h3, by rw [paired_len h2, h4.length]; exact hl, q _ _ _ _ h (st.write hp ⟨_, rfl, paired_app h2 h4.paired⟩) .non⟩⟩
theorem paired_dropLast {α β : Type} {F : α → β → Prop} : ∀ {xs : List α} {ys : List β}, Paired F xs ys → Paired F xs.dropLast ys.dropLast
  | _, _, .nil => .nil
  | _, _, .cons h .nil => .nil
  | _, _, .cons h (.cons h2 t) => .cons h (paired_dropLast (.cons h2 t))
theorem paired_erase {α β : Type} {F : α → β → Prop} : ∀ {xs : List α} {ys : List β} (i : Nat), Paired F xs ys → Paired F (xs.eraseIdx i) (ys.eraseIdx i)
  | _, _, _, .nil => .nil
  | _, _, 0, .cons _ t => t
  | _, _, i + 1, .cons h t => .cons h (paired_erase i t)
theorem mb_pop {p : Addr} {ss : List Slot} {s : Slot} (hp : O p = some (.lst (ss ++ [s]))) (h : k s (up O p (.lst ss))) : MtB X "list.pop" (.own p) [] O k := ⟨_, mt_pop, fun H0 σ ρ H v vs st r pr Q q => by
  obtain rfl : v = .ref p := r
  cases pr
  obtain ⟨o, h1, xs, rfl, h2⟩ := st.own.cell p _ hp
  have hl := paired_len h2
  rw [List.length_append, List.length_singleton] at hl
  obtain ⟨y, h3, h4⟩ := paired_get (i := ss.length) h2 (by rw [List.getElem?_append_right (Nat.le_refl _), Nat.sub_self]; rfl)
  refine ⟨p, xs, y, rfl, rfl, h1, by rw [show xs.length - 1 = ss.length by omega]; exact h3, ?_⟩
  have h5 := paired_dropLast h2
  rw [List.dropLast_concat] at h5
  exact q _ _ _ _ h (st.write hp ⟨_, rfl, h5⟩) (SlOk.mono (hid_write hp) h4)⟩
theorem mb_popAt {p : Addr} {ss : List Slot} {s : Slot} {i : Int} {j : Nat} (hp : O p = some (.lst ss)) (hi : -(2 ^ 63) ≤ i ∧ i < 2 ^ 63) (hj : seqIndex? i ss.length = some j) (hs : ss[j]? = some s) (h : k s (up O p (.lst (ss.eraseIdx j)))) :
    MtB X "list.pop" (.own p) [.dat (.int i)] O k := ⟨_, mt_popAt, fun H0 σ ρ H v vs st r pr Q q => by
  obtain rfl : v = .ref p := r
  cases pr with
  | cons r1 pr =>
    cases pr
    cases r1
    obtain ⟨o, h1, xs, rfl, h2⟩ := st.own.cell p _ hp
    obtain ⟨y, h3, h4⟩ := paired_get h2 hs
    exact ⟨p, xs, i, j, y, rfl, rfl, h1, hi.1, hi.2, by rw [paired_len h2]; exact hj, h3, q _ _ _ _ h (st.write hp ⟨_, rfl, paired_erase j h2⟩) (SlOk.mono (hid_write hp) h4)⟩⟩
/-- xs.index(d), the first place of it -/
theorem toPys_get : ∀ {ds : List Dat} {j : Nat}, (toPys ds)[j]? = (ds[j]?).map toPy
  | [], j => rfl
  | d :: ds, 0 => rfl
  | d :: ds, j + 1 => toPys_get (ds := ds) (j := j)
theorem mb_index {ds : List Dat} {d z : Dat} {j : Nat} (hr : Room 0 X.A) (p1 : plain (.lst ds) = true) (p2 : plain d = true) (s1 : SeqAt.shaped (toPy (.lst ds)) = true) (s2 : SeqAt.shaped (toPy d) = true) (hj : ds[j]? = some z) (he : eqD z d = true)
    (hb : ∀ (m : Nat) (y : Dat), m < j → ds[m]? = some y → eqD y d = false) (h : k (.dat (.int (j : Int))) O) : MtB X "list.index" (.dat (.lst ds)) [.dat d] O k := ⟨_, mt_indexD (by have := hr.un; omega), fun H0 σ ρ H v vs st r pr Q q => by
  have r' : Rp X.K (hid O H) v (.lst ds) := r
  have r2 := Rp.dp p1 (Rp.tk r')
  cases r'
  cases pr with
  | cons r1 pr =>
    cases pr
    have r1 : Rp X.K (hid O H) _ d := r1
    refine ⟨_, _, toPy d, toPys ds, j, toPy z, rfl, rfl, r2, Rp.dp p2 (Rp.tk r1), s1, s2, ?_, he, fun m z' hm hz => ?_, q _ H _ O h st (.int _)⟩
    · rw [toPys_get, hj]; rfl
    · rw [toPys_get] at hz
      cases hy : ds[m]? with
      | none => rw [hy] at hz; cases hz
      | some y =>
        rw [hy] at hz
        cases hz
        exact hb m y hm hy⟩
theorem ob_inD {ds : List Dat} {d : Dat} (hr : Room 0 X.A) (p1 : plain (.lst ds) = true) (p2 : plain d = true) (s1 : SeqAt.shaped (toPy (.lst ds)) = true) (s2 : SeqAt.shaped (toPy d) = true) (h : k (.dat (.bl ((toPys ds).any fun z => PyData.eqv z (toPy d)))) O) :
    OpB X (compareOp .In) (.dat d) (.dat (.lst ds)) O k := ⟨_, op_inD (by have := hr.un; omega), fun H0 σ ρ H v1 v2 st r1 r2 Q q => ⟨toPy d, toPys ds, Rp.dp p2 (Rp.tk r1), Rp.dp p1 (Rp.tk r2), s2, s1, q _ H _ O h st (.bl _)⟩⟩
theorem strs_rp {K : PySem.W.Frag} {G : Hp} : ∀ ys : List Str, RpA K G (ys.map V.str) (ys.map .str)
  | [] => .nil
  | y :: ys => .cons (.str y) (strs_rp ys)
/-- a text's method with one argument -/
def M1B (X : Cx) (id : String) (z : Str) (s : Slot) (O : Own) (k : Slot → Own → Prop) : Prop := ∃ r, MtR X id r ∧ ∀ H0 σ ρ H v, StOk X.K H0 O σ ρ H → SlOk X.K (hid O H) v s →
  ∀ Q : VK, (∀ v H' s O', k s O' → StOk X.K H0 O' σ ρ H' → SlOk X.K (hid O' H') v s → Q v H') → r (.str z) [v] H Q
theorem ew_m1 {id : String} {name : Str} (slot : PySem.Slot "str" name id) (ty : typeOf (.builtin id) = pure (.type "method_descriptor")) (h : EW X O ρ o x fun s O1 => ∃ z, s = .dat (.str z) ∧ EW X O1 ρ e x fun s2 O2 => M1B X id z s2 O2 k)
    (hs : starEach [e] X.env = [(false, eval e X.env)] := by rfl) (hbase : attributeBase o name X.env (eval o X.env) = eval o X.env := by rfl) (hline : (apos.endLine == cpos.line) = true := by rfl) :
    EW X O ρ (.Call (.Attribute o name apos) [e] [] cpos) x k := fun H0 σ H st tk Q q => by
  have main : MtR X id (fun v vs H Q => ∃ r, MtR X id r ∧ r v vs H Q) := fun pins s σ H x xs v us Q I rx rv ⟨r, ho, hr⟩ => ho pins s σ H x xs v us Q I rx rv hr
  refine we_of (pe_m1 slot ty main pe_w pe_w hs hbase hline) (h H0 σ H st tk _ fun v H1 s O1 ⟨z, e1, h1⟩ st1 r1 => ?_)
  subst e1
  cases r1
  refine ⟨⟨z, rfl⟩, h1 (hid O1 H1) σ H1 st1.top (takes_base tk st1.base) _ fun v2 H2 s2 O2 ⟨r, ho, hr⟩ st2 r2 => ⟨r, ho, ?_⟩⟩
  exact hr H0 σ ρ H2 v2 (st2.rebase st1.base) r2 Q q
theorem m1_split {z y : Str} (hy : (y.length == 0) = false) (hz : z.length + 2 ≤ sizeLine) (h : k (.dat (.lst ((Txt.split z y).map .str))) O) : M1B X "str.split" z (.dat (.str y)) O k := ⟨_, mt_split, fun H0 σ ρ H v st r Q q => by
  cases r
  refine ⟨z, y, rfl, rfl, hy, hz, fun p hp => q _ _ _ O h (st.grow (same_new hp)) ?_⟩
  exact .lst (by rw [hid_none (own_free st.own hp), upd_same]) (strs_rp _)⟩
/-- .. a cell -/
theorem m1_splitC {z y : Str} (hy : (y.length == 0) = false) (hz : z.length + 2 ≤ sizeLine) (h : ∀ p, O p = none → k (.own p) (up O p (.lst ((Txt.split z y).map fun w => .dat (.str w))))) : M1B X "str.split" z (.dat (.str y)) O k := ⟨_, mt_split, fun H0 σ ρ H v st r Q q => by
  cases r
  refine ⟨z, y, rfl, rfl, hy, hz, fun p hp => q _ _ _ _ (h p (own_free st.own hp)) (st.alloc hp ⟨_, rfl, ?_⟩) rfl⟩
  have := (strs_rp (K := X.K) (G := hid O H) (Txt.split z y)).paired
  rw [List.map_map] at this
  exact this⟩
theorem m1_partition {z y : Str} (hy : (y.length == 0) = false) (hz : z.length ≤ sizeLine) (h : k (.dat (.tup [.str (Txt.partition z y).1, .str (Txt.partition z y).2.1, .str (Txt.partition z y).2.2])) O) : M1B X "str.partition" z (.dat (.str y)) O k := ⟨_, mt_partition, fun H0 σ ρ H v st r Q q => by
  cases r
  refine ⟨z, y, rfl, rfl, hy, hz, fun p hp => q _ _ _ O h (st.grow (same_new hp)) ?_⟩
  exact .tup (.inl (.inl (by rw [hid_none (own_free st.own hp), upd_same]))) (.cons (.str _) (.cons (.str _) (.cons (.str _) .nil)))⟩
theorem m1_join {z : Str} {ys : List Str} (hl : (ys.map (·.length)).sum + ys.length * z.length ≤ 16777216) (h : k (.dat (.str (Txt.join z ys))) O) : M1B X "str.join" z (.dat (.lst (ys.map .str))) O k := ⟨_, mt_join, fun H0 σ ρ H v st r Q q => by
  cases r with
  | lst h1 h2 =>
    have e := rpa_strs h2
    subst e
    exact ⟨z, _, ys, rfl, rfl, .inl (sql_at (hid_le _ _ h1)), hl, q _ H _ O h st (.str _)⟩⟩
theorem m1_joinT {z : Str} {ys : List Str} (hl : (ys.map (·.length)).sum + ys.length * z.length ≤ 16777216) (h : k (.dat (.str (Txt.join z ys))) O) : M1B X "str.join" z (.dat (.tup (ys.map .str))) O k := ⟨_, mt_join, fun H0 σ ρ H v st r Q q => by
  cases r with
  | tup h1 h2 =>
    have e := rpa_strs h2
    subst e
    exact ⟨z, _, ys, rfl, rfl, .inr (sqt_mono hid_le h1), hl, q _ H _ O h st (.str _)⟩⟩
theorem m1_find {z y : Str} (h : k (.dat (.int (Txt.find z y))) O) : M1B X "str.find" z (.dat (.str y)) O k := ⟨_, mt_find, fun H0 σ ρ H v st r Q q => by
  cases r; exact ⟨z, y, rfl, rfl, q _ H _ O h st (.int _)⟩⟩
/-! f-strings -/
theorem ew_fmt (h : EW X O ρ e x fun s O1 => (∃ z, s = .dat (.str z) ∧ z.length ≤ sizeLine ∧ k (.dat (.str z)) O1) ∨ ∃ i : Int, s = .dat (.int i) ∧ i.natAbs.log2 < 1920 ∧ k (.dat (.str (toString i))) O1) : EW X O ρ (.FormattedValue e (-1) none pos) x k := fun H0 σ H st tk Q q =>
  we_of (pe_fmt pe_w) (h H0 σ H st tk _ fun v H1 s O1 h1 st1 r1 => by
    rcases h1 with ⟨z, e1, h2, h3⟩ | ⟨i, e1, h2, h3⟩
    · subst e1
      cases r1
      exact .inl ⟨z, rfl, h2, q _ H1 _ O1 h3 st1 (.str _)⟩
    · subst e1
      cases r1
      exact .inr ⟨i, rfl, h2, q _ H1 _ O1 h3 st1 (.str _)⟩)
/-- the parts of an f-string, from the left; acc: what they come to so far -/
def JW (X : Cx) (ρ : List Slot) (x : ExK) (k : Str → Own → Prop) : List Expr → Str → Own → Prop
  | [], acc, O => k acc O
  | e :: es, acc, O => EW X O ρ e x fun s O1 => ∃ z, s = .dat (.str z) ∧ (acc ++ z).length ≤ sizeLine ∧ JW X ρ x k es (acc ++ z) O1
theorem pj_w : ∀ es : List Expr, PJ X es (es.map (We X))
  | [] => .nil
  | e :: es => .cons pe_w (pj_w es)
theorem tjs_of {ks : Str → Own → Prop} {H0 : Hp} {σ : SV} {Q : Str → Hp → Prop} (tk : Takes X (Wsem X.K H0 x)) (q : ∀ z H' O', ks z O' → StOk X.K H0 O' σ ρ H' → Q z H') :
    ∀ (es : List Expr) (acc : Str) (O : Own) (H : Hp), JW X ρ x ks es acc O → StOk X.K H0 O σ ρ H → tJs (es.map (We X)) acc σ H Q
  | [], acc, O, H, h, st => q acc H O h st
  | e :: es, acc, O, H, h, st => by
    have h : EW X O ρ e x fun s O1 => ∃ z, s = .dat (.str z) ∧ (acc ++ z).length ≤ sizeLine ∧ JW X ρ x ks es (acc ++ z) O1 := h
    refine h H0 σ H st tk _ fun v H1 s O1 ⟨z, e1, h1, h2⟩ st1 r1 => ?_
    subst e1
    cases r1
    exact ⟨z, rfl, h1, tjs_of tk q es (acc ++ z) O1 H1 h2 st1⟩
theorem ew_joined {v1 v2 : Expr} {rest : List Expr} (h : JW X ρ x (fun z O' => k (.dat (.str z)) O') (v1 :: v2 :: rest) Str.empty O) : EW X O ρ (.JoinedStr (v1 :: v2 :: rest) pos) x k := fun H0 σ H st tk Q q =>
  we_of (pe_joined (pj_w (v1 :: v2 :: rest))) (tjs_of tk (fun z H' O' hk st' => q (.str z) H' (.dat (.str z)) O' hk st' (Rp.str z)) _ _ O H h st)
theorem ew_joined1 (h : EW X O ρ e x k) : EW X O ρ (.JoinedStr [e] pos) x k := fun H0 σ H st tk Q q => we_of (pe_joined1 pe_w) (h H0 σ H st tk Q q)
/-! ### what is evaluated and changes nothing -/
def EV (X : Cx) (O : Own) (ρ : List Slot) (e : Expr) (x : ExK) (d : Dat) : Prop := EW X O ρ e x fun s O' => s = .dat d ∧ O' = O
def TV (X : Cx) (O : Own) (ρ : List Slot) (e : Expr) (x : ExK) (t : Bool) : Prop := TW X O ρ e x fun u O' => u = t ∧ O' = O
theorem ew_ev {d : Dat} (h : EV X O ρ e x d) (hk : k (.dat d) O) : EW X O ρ e x k := h.mono fun s O' ⟨e1, e2⟩ => by subst e1 e2; exact hk
theorem tw_tv {t : Bool} {kt : Bool → Own → Prop} (h : TV X O ρ e x t) (hk : kt t O) : TW X O ρ e x kt := h.mono fun s O' ⟨e1, e2⟩ => by subst e1 e2; exact hk
theorem ev_is {d d' : Dat} (h : EV X O ρ e x d) (e1 : d = d') : EV X O ρ e x d' := e1 ▸ h
theorem ev_if {t : Bool} {d1 d2 : Dat} (h : TV X O ρ c x t) (h1 : t = true → EV X O ρ a x d1) (h2 : t = false → EV X O ρ b x d2) : EV X O ρ (.IfExp c a b pos) x (bif t then d1 else d2) :=
  ew_if (h.mono fun u O' ⟨e1, e2⟩ => by
    subst e1 e2
    exact ⟨fun ht => (h1 ht).mono fun s O'' ⟨e3, e4⟩ => by subst e3 e4 ht; exact ⟨rfl, rfl⟩, fun ht => (h2 ht).mono fun s O'' ⟨e3, e4⟩ => by subst e3 e4 ht; exact ⟨rfl, rfl⟩⟩)
theorem ev_and {t u : Bool} (h : EV X O ρ a x (.bl t)) (h1 : t = true → EV X O ρ (.BoolOp .And (b :: es) pos) x (.bl u)) : EV X O ρ (.BoolOp .And (a :: b :: es) pos) x (.bl (t && u)) :=
  ew_and (h.mono fun s O' ⟨e1, e2⟩ => by
    subst e1 e2
    refine ⟨t, rfl, fun ht => ?_, fun ht => ?_⟩
    · subst ht; exact h1 rfl
    · subst ht; exact ⟨rfl, rfl⟩)
theorem ev_or {t u : Bool} (h : EV X O ρ a x (.bl t)) (h1 : t = false → EV X O ρ (.BoolOp .Or (b :: es) pos) x (.bl u)) : EV X O ρ (.BoolOp .Or (a :: b :: es) pos) x (.bl (t || u)) :=
  ew_or (h.mono fun s O' ⟨e1, e2⟩ => by
    subst e1 e2
    refine ⟨t, rfl, fun ht => ?_, fun ht => ?_⟩
    · subst ht; exact ⟨rfl, rfl⟩
    · subst ht; exact h1 rfl)
def TVw (X : Cx) (O : Own) (ρ : List Slot) (e : Expr) (x : ExK) (t : Bool) : Prop := TWw X O ρ e x fun u O' => u = t ∧ O' = O
theorem tv_w {t : Bool} (h : TVw X O ρ e x t) : TV X O ρ e x t := tw_w h
theorem tvw_and1 {t : Bool} (h : TV X O ρ a x t) : TVw X O ρ (.BoolOp .And [a] pos) x t := tww_and1 h
theorem tvw_or1 {t : Bool} (h : TV X O ρ a x t) : TVw X O ρ (.BoolOp .Or [a] pos) x t := tww_or1 h
theorem tvw_and {t u : Bool} (h : TV X O ρ a x t) (h1 : t = true → TVw X O ρ (.BoolOp .And (b :: es) pos) x u) : TVw X O ρ (.BoolOp .And (a :: b :: es) pos) x (t && u) :=
  tww_and (h.mono fun s O' ⟨e1, e2⟩ => by
    subst e1 e2
    refine ⟨fun ht => ?_, fun ht => ?_⟩
    · subst ht; exact h1 rfl
    · subst ht; exact ⟨rfl, rfl⟩)
theorem tvw_or {t u : Bool} (h : TV X O ρ a x t) (h1 : t = false → TVw X O ρ (.BoolOp .Or (b :: es) pos) x u) : TVw X O ρ (.BoolOp .Or (a :: b :: es) pos) x (t || u) :=
  tww_or (h.mono fun s O' ⟨e1, e2⟩ => by
    subst e1 e2
    refine ⟨fun ht => ?_, fun ht => ?_⟩
    · subst ht; exact ⟨rfl, rfl⟩
    · subst ht; exact h1 rfl)
theorem tv_not {t : Bool} (h : TV X O ρ a x t) : TV X O ρ (.UnaryOp .Not a pos) x (!t) := tw_not (h.mono fun s O' ⟨e1, e2⟩ => by subst e1 e2; exact ⟨rfl, rfl⟩)
/-! ### comprehensions whose parts change nothing -/
/-- [elt for tg in iter if ..] over data that ι tells of l: f the element, g whether it is taken -/
theorem ew_map {α : Type} (l : List α) (ι f : α → Dat) (g : α → Bool) (own : List (Str × Nat)) {elt tg iter : Expr} {ifs : List Expr} {scope : Scope} {T : Dat → List Slot → List Slot → Prop} (hN : X.N.Nodup) (tg_ok : Tgt X scope (own.map (·.2)) tg T) (ok : BlkOk X.N X.env.scope scope own)
    (hi : IW X O ρ tg iter x fun ds' O1 => ds' = l.map ι ∧ O1 = O) (hz : l.length ≤ sizeLine)
    (hb : ∀ d, d ∈ l → ∃ ρ', T (ι d) (wipeS ρ (own.map (·.2))) ρ' ∧ ∀ O' Y, Blk X scope Y → TsW Y O' ρ' ifs noX (fun t O2 => t = g d ∧ O2 = O') ∧ (g d = true → EV Y O' ρ' elt noX (f d)))
    (h : k (.dat (.lst ((l.filter g).map f))) O) (hc : X.calm = true := by rfl) (hs : ∀ x, foldedSetIterable iter X.env x = pure x := by intro _; rfl) : EW X O ρ (.ListComp elt [⟨tg, iter, ifs, 0⟩] scope pos) x k := by
  refine ew_frz (ew_lc own hN tg_ok ok (fun H0 σ H st tk R q => hi H0 σ H st tk R fun J H' ds' O1 ⟨e1, e2⟩ st' it => q J H' ds' O1 ?_ st' it) hc hs)
  subst e1 e2
  refine ⟨by rw [List.length_map]; exact hz, fun i acc O' => O' = O1 ∧ acc = (((l.take i).filter g).map f).map .dat, ⟨rfl, rfl⟩, fun i d0 acc O' hj hd0 => ?_, fun acc O' hj p hp => ?_⟩
  · obtain ⟨rfl, rfl⟩ := hj
    rw [List.getElem?_map] at hd0
    obtain ⟨d, hd, rfl⟩ := Option.map_eq_some_iff.mp hd0
    obtain ⟨ρ', ht, hb⟩ := hb d (List.mem_of_getElem? hd)
    refine ⟨ρ', ht, fun Dd nD Y hY => ?_⟩
    have htake : l.take (i + 1) = l.take i ++ [d] := by rw [List.take_add_one, hd]; rfl
    obtain ⟨h1, _⟩ := hb (up O' Dd (.lst ((((l.take i).filter g).map f).map .dat))) Y hY
    refine fun H0 σ H st tk Q q => h1 H0 σ H st tk Q fun t H' O2 ⟨e1, e2⟩ st2 => q t H' O2 ⟨fun ht => fun Z hZ => ?_, fun ht => ?_⟩ st2
    · subst e2
      have hg : g d = true := e1 ▸ ht
      refine ((hb (up O' Dd (.lst ((((l.take i).filter g).map f).map .dat))) Z hZ).2 hg).mono fun s O3 ⟨e3, e4⟩ => ?_
      subst e3 e4
      refine ⟨O', rfl, nD, rfl, ?_⟩
      rw [htake, List.filter_append, List.filter_cons_of_pos hg]
      simp
    · subst e2
      have hg : g d = false := e1 ▸ ht
      refine ⟨O', rfl, nD, rfl, ?_⟩
      rw [htake, List.filter_append, List.filter_cons_of_neg (by rw [hg]; exact Bool.false_ne_true)]
      simp
  · obtain ⟨rfl, rfl⟩ := hj
    refine ⟨p, (l.filter g).map f, rfl, by rw [List.length_map, List.take_length]; exact up_at, ?_⟩
    rw [dn_up hp]
    exact h
theorem filter_yes {α : Type} (l : List α) : l.filter (fun _ => true) = l := List.filter_eq_self.mpr fun _ _ => rfl
theorem ew_map1 {α : Type} (l : List α) (ι f : α → Dat) (own : List (Str × Nat)) {elt tg iter : Expr} {scope : Scope} {T : Dat → List Slot → List Slot → Prop} (hN : X.N.Nodup) (tg_ok : Tgt X scope (own.map (·.2)) tg T) (ok : BlkOk X.N X.env.scope scope own)
    (hi : IW X O ρ tg iter x fun ds' O1 => ds' = l.map ι ∧ O1 = O) (hz : l.length ≤ sizeLine)
    (hb : ∀ d, d ∈ l → ∃ ρ', T (ι d) (wipeS ρ (own.map (·.2))) ρ' ∧ ∀ O' Y, Blk X scope Y → EV Y O' ρ' elt noX (f d))
    (h : k (.dat (.lst (l.map f))) O) (hc : X.calm = true := by rfl) (hs : ∀ x, foldedSetIterable iter X.env x = pure x := by intro _; rfl) : EW X O ρ (.ListComp elt [⟨tg, iter, [], 0⟩] scope pos) x k :=
  ew_map l ι f (fun _ => true) own hN tg_ok ok hi hz (fun d hd => by
    obtain ⟨ρ', h1, h2⟩ := hb d hd
    exact ⟨ρ', h1, fun O' Y hY => ⟨tsw_nil ⟨rfl, rfl⟩, fun _ => h2 O' Y hY⟩⟩) (by rw [filter_yes]; exact h) hc hs
end
/-! ### methods by their names -/
section
variable {X : Cx} {O : Own} {ρ : List Slot} {x : ExK} {k : Slot → Own → Prop} {e a o : Expr} {es : List Expr} {apos cpos pos : Pos}
theorem ew_split (h : EW X O ρ o x fun s O1 => ∃ z, s = .dat (.str z) ∧ EW X O1 ρ e x fun s2 O2 => M1B X "str.split" z s2 O2 k) (hs : starEach [e] X.env = [(false, eval e X.env)] := by rfl) (hbase : attributeBase o "split" X.env (eval o X.env) = eval o X.env := by rfl) (hline : (apos.endLine == cpos.line) = true := by rfl) :
    EW X O ρ (.Call (.Attribute o "split" apos) [e] [] cpos) x k := ew_m1 PySem.F.slot_str_split PySem.F.type_str_split h hs hbase hline
theorem ew_join (h : EW X O ρ o x fun s O1 => ∃ z, s = .dat (.str z) ∧ EW X O1 ρ e x fun s2 O2 => M1B X "str.join" z s2 O2 k) (hs : starEach [e] X.env = [(false, eval e X.env)] := by rfl) (hbase : attributeBase o "join" X.env (eval o X.env) = eval o X.env := by rfl) (hline : (apos.endLine == cpos.line) = true := by rfl) :
    EW X O ρ (.Call (.Attribute o "join" apos) [e] [] cpos) x k := ew_m1 PySem.F.slot_str_join PySem.F.type_str_join h hs hbase hline
theorem ew_partition (h : EW X O ρ o x fun s O1 => ∃ z, s = .dat (.str z) ∧ EW X O1 ρ e x fun s2 O2 => M1B X "str.partition" z s2 O2 k) (hs : starEach [e] X.env = [(false, eval e X.env)] := by rfl) (hbase : attributeBase o "partition" X.env (eval o X.env) = eval o X.env := by rfl) (hline : (apos.endLine == cpos.line) = true := by rfl) :
    EW X O ρ (.Call (.Attribute o "partition" apos) [e] [] cpos) x k := ew_m1 PySem.F.slot_str_partition PySem.F.type_str_partition h hs hbase hline
theorem ew_find (h : EW X O ρ o x fun s O1 => ∃ z, s = .dat (.str z) ∧ EW X O1 ρ e x fun s2 O2 => M1B X "str.find" z s2 O2 k) (hs : starEach [e] X.env = [(false, eval e X.env)] := by rfl) (hbase : attributeBase o "find" X.env (eval o X.env) = eval o X.env := by rfl) (hline : (apos.endLine == cpos.line) = true := by rfl) :
    EW X O ρ (.Call (.Attribute o "find" apos) [e] [] cpos) x k := ew_m1 PySem.F.slot_str_find PySem.F.type_str_find h hs hbase hline
theorem few1 {env : Env} {cpos : Pos} {e : Expr} (hs : starEach [e] env = [(false, eval e env)]) : ((backTo cpos (starEach [e] env)).all (fun x => !x.1) && (backToKw cpos (keywordEach [] env)).all (fun x => x.1.isSome)
      && decide (([e] : List Expr).length + ([] : List Keyword).length + (if ([] : List Keyword).isEmpty then 0 else 1) < 30)) = true := by
  rw [hs]; rfl
theorem ew_lm {id : String} {name : Str} (slot : PySem.Slot "list" name id) (hty : typeOf (.builtin id) = pure (.type "method_descriptor"))
    (h : EW X O ρ o x fun s O1 => TyS "list" O1 s ∧ EW X O1 ρ e x fun s2 O2 => MtB X id s [s2] O2 k) (hs : starEach [e] X.env = [(false, eval e X.env)] := by rfl) (hbase : attributeBase o name X.env (eval o X.env) = eval o X.env := by rfl)
    (hline : (apos.endLine == cpos.line) = true := by rfl) : EW X O ρ (.Call (.Attribute o name apos) [e] [] cpos) x k :=
  ew_bm PySem.F.plainAttrs_list slot hty (h.mono fun s O1 ⟨h1, h2⟩ => ⟨h1, aw_cons (h2.mono fun s2 O2 h3 => aw_nil h3) hs⟩) hbase (few1 hs) hline hs rfl
theorem ew_append (h : EW X O ρ o x fun s O1 => TyS "list" O1 s ∧ EW X O1 ρ e x fun s2 O2 => MtB X "list.append" s [s2] O2 k) (hs : starEach [e] X.env = [(false, eval e X.env)] := by rfl) (hbase : attributeBase o "append" X.env (eval o X.env) = eval o X.env := by rfl)
    (hline : (apos.endLine == cpos.line) = true := by rfl) : EW X O ρ (.Call (.Attribute o "append" apos) [e] [] cpos) x k := ew_lm PySem.F.slot_list_append PySem.F.type_list_append h hs hbase hline
theorem ew_extend (h : EW X O ρ o x fun s O1 => TyS "list" O1 s ∧ EW X O1 ρ e x fun s2 O2 => MtB X "list.extend" s [s2] O2 k) (hs : starEach [e] X.env = [(false, eval e X.env)] := by rfl) (hbase : attributeBase o "extend" X.env (eval o X.env) = eval o X.env := by rfl)
    (hline : (apos.endLine == cpos.line) = true := by rfl) : EW X O ρ (.Call (.Attribute o "extend" apos) [e] [] cpos) x k := ew_lm PySem.F.slot_list_extend PySem.F.type_list_extend h hs hbase hline
theorem ew_index (h : EW X O ρ o x fun s O1 => TyS "list" O1 s ∧ EW X O1 ρ e x fun s2 O2 => MtB X "list.index" s [s2] O2 k) (hs : starEach [e] X.env = [(false, eval e X.env)] := by rfl) (hbase : attributeBase o "index" X.env (eval o X.env) = eval o X.env := by rfl)
    (hline : (apos.endLine == cpos.line) = true := by rfl) : EW X O ρ (.Call (.Attribute o "index" apos) [e] [] cpos) x k := ew_lm PySem.F.slot_list_index PySem.F.type_list_index h hs hbase hline
theorem ew_popAt (h : EW X O ρ o x fun s O1 => TyS "list" O1 s ∧ EW X O1 ρ e x fun s2 O2 => MtB X "list.pop" s [s2] O2 k) (hs : starEach [e] X.env = [(false, eval e X.env)] := by rfl) (hbase : attributeBase o "pop" X.env (eval o X.env) = eval o X.env := by rfl)
    (hline : (apos.endLine == cpos.line) = true := by rfl) : EW X O ρ (.Call (.Attribute o "pop" apos) [e] [] cpos) x k := ew_lm PySem.F.slot_list_pop PySem.F.type_list_pop h hs hbase hline
theorem ew_pop (h : EW X O ρ o x fun s O1 => TyS "list" O1 s ∧ MtB X "list.pop" s [] O1 k) (hbase : attributeBase o "pop" X.env (eval o X.env) = eval o X.env := by rfl)
    (hline : (apos.endLine == cpos.line) = true := by rfl) : EW X O ρ (.Call (.Attribute o "pop" apos) [] [] cpos) x k := ew_bm0 PySem.F.plainAttrs_list PySem.F.slot_list_pop PySem.F.type_list_pop h hbase hline
/-! a < b < c -/
theorem ew_chain {op op' : CmpOp} {b c : Expr} (h : EW X O ρ a x fun s1 O1 => EW X O1 ρ b x fun s2 O2 => OpB X (compareOp op) s1 s2 O2 fun s O3 => O3 = O2 ∧ ∃ t, s = .dat (.bl t) ∧ (t = true → EW X O3 ρ c x fun s3 O4 => OpB X (compareOp op') s2 s3 O4 k) ∧ (t = false → k (.dat (.bl false)) O3)) (hm : lastMarks [op, op'] [b, c] = false := by rfl) :
    EW X O ρ (.Compare a [op, op'] [b, c] pos) x k := fun H0 σ H st tk Q q => by
  have m1 : OpR X (compareOp op) (fun v1 v2 H2 Q => ∃ r, OpR X (compareOp op) r ∧ r v1 v2 H2 Q) := fun pins s σ H x y v u Q I rx ry ⟨r, ho, hr⟩ => ho pins s σ H x y v u Q I rx ry hr
  have m2 : OpR X (compareOp op') (fun v1 v2 H2 Q => ∃ r, OpR X (compareOp op') r ∧ r v1 v2 H2 Q) := fun pins s σ H x y v u Q I rx ry ⟨r, ho, hr⟩ => ho pins s σ H x y v u Q I rx ry hr
  refine we_of (pe_chain m1 m2 pe_w pe_w pe_w (hm := hm)) ?_
  refine h H0 σ H st tk _ fun v1 H1 s1 O1 h1 st1 r1 => h1 (hid O1 H1) σ H1 st1.top (takes_base tk st1.base) _ fun v2 H2 s2 O2 ⟨r, ho, hr⟩ st2 r2 => ⟨r, ho, ?_⟩
  have b2 := st1.base.trans st2.base
  refine hr (hid O2 H2) σ ρ H2 v1 v2 st2.top (SlOk.mono st2.base r1) r2 _ fun z H3 s O3 ⟨e3, t, e1, h3, h4⟩ st3 r3 => ?_
  subst e1 e3
  cases r3
  refine ⟨t, rfl, ?_⟩
  have st3' := st3.rebase b2
  cases t with
  | true =>
    refine iteT ((h3 rfl) (hid O3 H3) σ H3 st3.top (takes_base tk (b2.trans st3.base)) _ fun w' H4 s3 O4 ⟨r', ho', hr'⟩ st4 r4 => ⟨r', ho', ?_⟩)
    exact hr' H0 σ ρ H4 v2 w' (st4.rebase (b2.trans st3.base)) (SlOk.mono (st3.base.trans st4.base) r2) r4 Q q
  | false => exact iteF (q _ H3 _ O3 (h4 rfl) st3' (.bl false))
end
section
variable {X : Cx} {O : Own} {ρ : List Slot} {x : ExK} {kl : List Slot → Own → Prop} {o i : Expr} {pos : Pos} {s : Slot}
/-- o[i] = v, o a cell -/
theorem gw_set (h : EW X O ρ o x fun s1 O1 => EW X O1 ρ i x fun s2 O2 => ∃ p ss n j, s1 = .own p ∧ s2 = .dat (.int n) ∧ O2 p = some (.lst ss) ∧ ixN ss.length n = some j ∧ kl ρ (up O2 p (.lst (ss.set j s))))
    (ha : ∀ v, assign (.Subscript o i pos) X.env v = (do { let ov ← holding [v] (eval o X.env); let iv ← holding [v, ov] (eval i X.env); standAt pos; holding [v, ov, iv] (setItem ov iv v); release [v, ov, iv] [] }) := by intro _; rfl) : GW X O ρ (.Subscript o i pos) s x kl := fun H0 σ H v st r tk Q q => by
  refine wg_of (pg_sub pe_w pe_w set_list ha) (two h st.top (takes_base tk st.base) (Q := fun v1 v2 H2 => rSetL v1 v2 v H2 fun H3 => Q σ H3) fun v1 v2 s1 s2 O2 H2 hp st2 r1 r2 => ?_)
  obtain ⟨p, ss, n, j, e1, e2, h1, h2, h3⟩ := hp
  subst e1 e2
  obtain rfl : v1 = .ref p := r1
  cases r2
  obtain ⟨oo, h4, vs, rfl, h5⟩ := st2.own.cell p _ h1
  refine ⟨p, vs, n, j, rfl, rfl, h4, by rw [paired_len h5]; exact h2, q σ _ ρ _ h3 ((st2.rebase st.base).write h1 ⟨_, rfl, paired_set (SlOk.mono st2.base r) j h5⟩)⟩
end
end Kn
/-! KnH: isinstance of data, built-in classes as values. -/
namespace Kn
open PySem PySem.Spec PyProof.Rows
open L2 hiding St
section
variable {X : Cx} {O : Own} {ρ : List Slot} {x : ExK} {k : Slot → Own → Prop} {e a o : Expr} {es : List Expr} {apos cpos pos : Pos}
theorem ew_bltn {nm : Str} {n : String} (hm : X.mg nm = none) (hv : bootBuiltins nm = some (.type n)) (h : k (.dat (.ty n)) O) (hg : Gl X nm := by rfl) (hn : nm ≠ "__name__" := by decide) (hd : (nm == ("__debug__" : Str)) = false := by decide) : EW X O ρ (.Name nm pos) x k := fun H0 σ H st tk Q q =>
  we_of (pe_bltn (v := .ty n) hg hm hv rfl hn hd) (q _ H _ O h st (.ty n))
/-- a class of one's own as a value -/
theorem ew_cls {nm : Str} {C : Addr} (hm : X.mg nm = some (.ref C)) (h : k (.dat (.cls C)) O) (hg : Gl X nm := by rfl) (hd : (nm == ("__debug__" : Str)) = false := by decide) : EW X O ρ (.Name nm pos) x k := fun H0 σ H st tk Q q =>
  we_of (pe_glob (v := .ref C) hg hm rfl hd) (q _ H _ O h st (.cls C))
def tyName : Dat → String
  | .non => "NoneType"
  | .bl _ => "bool"
  | .int _ => "int"
  | .str _ => "str"
  | .lst _ => "list"
  | .fro _ => "list"
  | .tup _ => "tuple"
  | _ => ""
theorem tyX_of {K : PySem.W.Frag} {O : Own} {H : Hp} {v : V} {d : Dat} (p : tyName d ≠ "") (r : Rp K (hid O H) v d) : TyX K H v (.type (tyName d)) := by
  cases r with
  | non => exact .base .non
  | bl b => exact .base (.bl b)
  | int i => exact .base (.int i)
  | str z => exact .base (.str z)
  | lst h1 h2 => exact .base (.lst (hid_le _ _ h1))
  | fro h1 h2 =>
    rcases h1 with (h1 | ⟨ob, h1⟩) | ⟨ob, its, n, h1, h3, _⟩
    · exact .base (.lst (hid_le _ _ h1))
    · exact .base (.frz (hid_le _ _ h1))
    · exact .kList h1 h3
  | tup h1 h2 =>
    rcases h1 with (h1 | ⟨ob, h1⟩) | ⟨ob, its, n, h1, h3, _⟩
    · exact .base (.tup (hid_le _ _ h1))
    · exact .fTuple (hid_le _ _ h1)
    · exact .kTuple h1 h3
  | ins h1 h2 => exact absurd rfl p
  | cls C => exact absurd rfl p
  | ty n => exact absurd rfl p
  | exc h1 h2 => exact absurd rfl p
  | slo h1 h2 h3 h4 => exact absurd rfl p
  | tre h1 h2 h3 h4 h5 => exact absurd rfl p
theorem cb_isTy {d : Dat} {n : String} {t : Bool} (hk : kitB (tyName d) n = some t) (h : k (.dat (.bl t)) O) (hp : tyName d ≠ "" := by first | decide | assumption) : CaB X (.builtin "isinstance") [.dat d, .dat (.ty n)] O k := ⟨_, call_isi, fun H0 σ ρ H vs st pr Q q => by
  cases pr with
  | cons r1 pr =>
    cases pr with
    | cons r2 pr =>
      cases pr
      cases r2
      exact ⟨_, _, _, _, t, rfl, .ty n, tyX_of hp r1, kit_ty hk, q _ H _ O h st (.bl t)⟩⟩
def isStrD : Dat → Bool | .str _ => true | _ => false
def isLstD : Dat → Bool | .lst _ => true | .fro _ => true | _ => false
def isTupD : Dat → Bool | .tup _ => true | _ => false
def isIntD : Dat → Bool | .int _ => true | .bl _ => true | _ => false
def isBlD : Dat → Bool | .bl _ => true | _ => false
theorem kit_str {d : Dat} (hp : tyName d ≠ "") : kitB (tyName d) "str" = some (isStrD d) := by
  cases d <;> first | exact absurd rfl hp | exact (show kitB "NoneType" "str" = some false by decide +kernel) | exact (show kitB "bool" "str" = some false by decide +kernel) | exact (show kitB "int" "str" = some false by decide +kernel) | exact (show kitB "str" "str" = some true by decide +kernel) | exact (show kitB "list" "str" = some false by decide +kernel) | exact (show kitB "tuple" "str" = some false by decide +kernel)
theorem kit_lst {d : Dat} (hp : tyName d ≠ "") : kitB (tyName d) "list" = some (isLstD d) := by
  cases d <;> first | exact absurd rfl hp | exact (show kitB "NoneType" "list" = some false by decide +kernel) | exact (show kitB "bool" "list" = some false by decide +kernel) | exact (show kitB "int" "list" = some false by decide +kernel) | exact (show kitB "str" "list" = some false by decide +kernel) | exact (show kitB "list" "list" = some true by decide +kernel) | exact (show kitB "tuple" "list" = some false by decide +kernel)
theorem kit_tup {d : Dat} (hp : tyName d ≠ "") : kitB (tyName d) "tuple" = some (isTupD d) := by
  cases d <;> first | exact absurd rfl hp | exact (show kitB "NoneType" "tuple" = some false by decide +kernel) | exact (show kitB "bool" "tuple" = some false by decide +kernel) | exact (show kitB "int" "tuple" = some false by decide +kernel) | exact (show kitB "str" "tuple" = some false by decide +kernel) | exact (show kitB "list" "tuple" = some false by decide +kernel) | exact (show kitB "tuple" "tuple" = some true by decide +kernel)
theorem kit_int {d : Dat} (hp : tyName d ≠ "") : kitB (tyName d) "int" = some (isIntD d) := by
  cases d <;> first | exact absurd rfl hp | exact (show kitB "NoneType" "int" = some false by decide +kernel) | exact (show kitB "bool" "int" = some true by decide +kernel) | exact (show kitB "int" "int" = some true by decide +kernel) | exact (show kitB "str" "int" = some false by decide +kernel) | exact (show kitB "list" "int" = some false by decide +kernel) | exact (show kitB "tuple" "int" = some false by decide +kernel)
theorem kit_bool {d : Dat} (hp : tyName d ≠ "") : kitB (tyName d) "bool" = some (isBlD d) := by
  cases d <;> first | exact absurd rfl hp | exact (show kitB "NoneType" "bool" = some false by decide +kernel) | exact (show kitB "bool" "bool" = some true by decide +kernel) | exact (show kitB "int" "bool" = some false by decide +kernel) | exact (show kitB "str" "bool" = some false by decide +kernel) | exact (show kitB "list" "bool" = some false by decide +kernel) | exact (show kitB "tuple" "bool" = some false by decide +kernel)
end
end Kn
/-! KnW: the program's words: what names, figures are; plain. -/
namespace Kn
open PySem PySem.Spec PyProof.Rows
open L2 hiding St
/-! built-ins by their names -/
theorem bt_abs : bootBuiltins "abs" = some (.builtin "abs") := by decide +kernel
theorem bt_max : bootBuiltins "max" = some (.builtin "max") := by decide +kernel
theorem bt_min : bootBuiltins "min" = some (.builtin "min") := by decide +kernel
theorem bt_len : bootBuiltins "len" = some (.builtin "len") := by decide +kernel
theorem bt_all : bootBuiltins "all" = some (.builtin "all") := by decide +kernel
theorem bt_any : bootBuiltins "any" = some (.builtin "any") := by decide +kernel
theorem bt_repr : bootBuiltins "repr" = some (.builtin "repr") := by decide +kernel
theorem bt_isinstance : bootBuiltins "isinstance" = some (.builtin "isinstance") := by decide +kernel
theorem bt_sorted : bootBuiltins "sorted" = some (.builtin "sorted") := by decide +kernel
theorem bt_sum : bootBuiltins "sum" = some (.builtin "sum") := by decide +kernel
theorem bt_hash : bootBuiltins "hash" = some (.builtin "hash") := by decide +kernel
theorem bt_int : bootBuiltins "int" = some (.type "int") := by decide +kernel
theorem bt_str : bootBuiltins "str" = some (.type "str") := by decide +kernel
theorem bt_list : bootBuiltins "list" = some (.type "list") := by decide +kernel
theorem bt_tuple : bootBuiltins "tuple" = some (.type "tuple") := by decide +kernel
theorem bt_set : bootBuiltins "set" = some (.type "set") := by decide +kernel
theorem bt_bool : bootBuiltins "bool" = some (.type "bool") := by decide +kernel
theorem bt_dict : bootBuiltins "dict" = some (.type "dict") := by decide +kernel
def sgs (z : Str) : List Nat := z.cps.toList
theorem sgs_len (z : Str) : z.length = (sgs z).length := TL.len_tl z
theorem sgs_ext {y z : Str} (h : sgs y = sgs z) : y = z := TL.ext_tl h
theorem sgs_app (y z : Str) : sgs (y ++ z) = sgs y ++ sgs z := TL.tl_append y z
theorem len_app (y z : Str) : (y ++ z).length = y.length + z.length := by rw [sgs_len, sgs_app, List.length_append, ← sgs_len, ← sgs_len]
/-- value made of letters, at most m of them -/
def madeOf (z L : Str) (m : Nat) : Bool := decide (0 < z.length) && (decide (z.length ≤ m) && (sgs z).all fun c => decide (c ∈ sgs L))
def madeD (d : Dat) (L : Str) (m : Nat) : Bool := match d with
  | .str z => madeOf z L m
  | _ => false
def ltrs : Str := "abcdefghijklmnopqrstuvwxyz"
def digs : Str := "0123456789"
def takenW : List Str := ["any", "other", "where"]
def isNm (z : Str) : Bool := madeOf z ltrs 8 && !(takenW.any (· == z))
def isNmD (d : Dat) : Bool := match d with
  | .str z => isNm z
  | _ => false
/-- a figure -/
def figL (l : List Nat) : Bool := decide (l = [48]) || decide (l.head? ≠ some 48)
def isFg (z : Str) : Bool := madeOf z digs 12 && figL (sgs z)
def isFgD (d : Dat) : Bool := match d with
  | .str z => isFg z
  | _ => false
theorem madeOf_pos {z L : Str} {m : Nat} (h : madeOf z L m = true) : 0 < z.length ∧ z.length ≤ m ∧ ∀ c ∈ sgs z, c ∈ sgs L := by
  unfold madeOf at h
  simp only [Bool.and_eq_true, decide_eq_true_eq, List.all_eq_true] at h
  exact ⟨h.1, h.2.1, h.2.2⟩
theorem madeOf_of {z L : Str} {m : Nat} (h1 : 0 < z.length) (h2 : z.length ≤ m) (h3 : ∀ c ∈ sgs z, c ∈ sgs L) : madeOf z L m = true := by
  unfold madeOf
  simp only [Bool.and_eq_true, decide_eq_true_eq, List.all_eq_true]
  exact ⟨h1, h2, h3⟩
def wordsS (z : Str) : List Str := if z = "" then [] else Txt.split z " "
/-- the digits' value -/
def figV (z : Str) : Int := ((NumText.digitsVal (sgs z) : Nat) : Int)
theorem digs_mem {c : Nat} : c ∈ sgs digs ↔ 48 ≤ c ∧ c ≤ 57 := by
  have e : sgs digs = [48, 49, 50, 51, 52, 53, 54, 55, 56, 57] := by decide +kernel
  rw [e]
  simp only [List.mem_cons, List.not_mem_nil, or_false]
  omega
theorem ltrs_mem {c : Nat} : c ∈ sgs ltrs ↔ 97 ≤ c ∧ c ≤ 122 := by
  have e : sgs ltrs = [97, 98, 99, 100, 101, 102, 103, 104, 105, 106, 107, 108, 109, 110, 111, 112, 113, 114, 115, 116, 117, 118, 119, 120, 121, 122] := by decide +kernel
  rw [e]
  simp only [List.mem_cons, List.not_mem_nil, or_false]
  omega
theorem fig_int {z : Str} (h : isFg z = true) : PySem.intText? z = some (figV z) ∧ z.length ≤ 12 := by
  obtain ⟨h1, h2, h3⟩ := madeOf_pos (Bool.and_eq_true_iff.mp h).1
  refine ⟨PySem.intText_digits (fun c hc => digs_mem.mp (h3 c hc)) (fun e => ?_) (by omega), h2⟩
  rw [sgs_len] at h1
  rw [show sgs z = [] from e] at h1
  exact absurd h1 (Nat.lt_irrefl 0)
theorem fig_zero {z : Str} (h : z = "0") : figL (sgs z) = true := by
  subst h
  decide +kernel
theorem one_str {c : Nat} {s : String} {n : Nat} (e : sgs (Str.ofString s) = [n]) : decide ((⟨#[c]⟩ : Str) = Str.ofString s) = decide (c = n) := by
  by_cases h : c = n
  · have e1 : (⟨#[c]⟩ : Str) = Str.ofString s := sgs_ext (by rw [e, h]; rfl)
    rw [decide_eq_true e1, decide_eq_true h]
  · have e1 : ¬ (⟨#[c]⟩ : Str) = Str.ofString s := fun q => by
      have q2 := congrArg sgs q
      rw [e] at q2
      have q3 : [c] = [n] := q2
      exact h (List.cons.inj q3).1
    rw [decide_eq_false e1, decide_eq_false h]
theorem fig_first {z : Str} (hm : madeOf z digs 12 = true) (h : ¬ z = "0") : ∃ c, atI z.cps.toList 0 = some c ∧ figL (sgs z) = !decide ((⟨#[c]⟩ : Str) = "0") := by
  obtain ⟨h1, _, _⟩ := madeOf_pos hm
  cases hz : sgs z with
  | nil =>
    rw [sgs_len, hz] at h1
    exact absurd h1 (Nat.lt_irrefl 0)
  | cons c r =>
    refine ⟨c, ?_, ?_⟩
    · rw [show z.cps.toList = c :: r from hz]
      exact atI_nat (j := 0) rfl
    · rw [one_str (n := 48) (by decide +kernel)]
      have e : ¬ (c :: r) = [48] := fun q => h (sgs_ext (by rw [hz, q]; decide +kernel))
      show (decide ((c :: r) = [48]) || decide (some c ≠ some 48)) = _
      rw [decide_eq_false e, Bool.false_or]
      by_cases hc : c = 48
      · rw [hc]; rfl
      · rw [decide_eq_false hc]
        exact decide_eq_true fun q => hc (Option.some.inj q)
section
variable {X : Cx} {O : Own} {k : Slot → Own → Prop}
theorem cb_allF {α : Type} {l : List α} {g : α → Bool} (hc : X.calm = true) (h : k (.dat (.bl (l.all g))) O) : CaB X (.builtin "all") [.dat (.lst (l.map fun a => Dat.bl (g a)))] O k := by
  have e : (l.map fun a => Dat.bl (g a)) = (l.map g).map .bl := by rw [List.map_map]; rfl
  rw [e]
  refine cb_all hc ?_
  rw [List.all_map]
  exact h
theorem cb_anyF {α : Type} {l : List α} {g : α → Bool} (hc : X.calm = true) (h : k (.dat (.bl (l.any g))) O) : CaB X (.builtin "any") [.dat (.lst (l.map fun a => Dat.bl (g a)))] O k := by
  have e : (l.map fun a => Dat.bl (g a)) = (l.map g).map .bl := by rw [List.map_map]; rfl
  rw [e]
  refine cb_any hc ?_
  rw [List.any_map]
  exact h
end
/-! ### texts split and joined -/
theorem join_len (y : Str) : ∀ ws : List Str, ws ≠ [] → (Txt.join y ws).length + y.length = (ws.map (·.length)).sum + ws.length * y.length := by
  intro ws
  rw [TL.join_eq]
  induction ws with
  | nil => intro h; exact absurd rfl h
  | cons a r ih =>
    intro _
    cases r with
    | nil =>
      show a.length + y.length = (a.length + 0) + 1 * y.length
      omega
    | cons b r =>
      have e := ih (List.cons_ne_nil b r)
      show (a ++ y ++ Str.join y (b :: r)).length + y.length = (a.length + ((b :: r).map (·.length)).sum) + ((b :: r).length + 1) * y.length
      rw [len_app, len_app, Nat.succ_mul]
      omega
theorem split_ne (z y : Str) : Txt.split z y ≠ [] := by
  unfold Txt.split
  split
  · exact List.cons_ne_nil _ _
  · split
    · exact List.cons_ne_nil _ _
    · intro e
      have h := congrArg List.length e
      rw [PySem.length_partsBetween] at h
      exact absurd h (Nat.succ_ne_zero _)
theorem join_split (z y : Str) (hy : (y.length == 0) = false) : Txt.join y (Txt.split z y) = z := by
  unfold Txt.split
  split
  · rfl
  · split
    · rfl
    · exact PySem.StrLaws.glued_between_self _ _ _
theorem split_sum (z y : Str) (hy : (y.length == 0) = false) : z.length + y.length = ((Txt.split z y).map (·.length)).sum + (Txt.split z y).length * y.length := by
  have h := join_len y (Txt.split z y) (split_ne z y)
  rw [join_split z y hy] at h
  exact h
theorem mem_sum {l : List Str} {w : Str} (h : w ∈ l) : w.length ≤ (l.map (·.length)).sum := by
  induction l with
  | nil => cases h
  | cons a r ih =>
    show w.length ≤ a.length + (r.map (·.length)).sum
    rcases List.mem_cons.mp h with e | e
    · rw [e]; omega
    · have := ih e
      omega
theorem sp1 : (Str.ofString " ").length = 1 := by decide +kernel
/-- what a text's words come to -/
theorem words_sum (z : Str) : z.length + 1 = ((Txt.split z " ").map (·.length)).sum + (Txt.split z " ").length := by
  have h := split_sum z " " (by decide +kernel)
  rw [sp1, Nat.mul_one] at h
  exact h
theorem word_len {z w : Str} (h : w ∈ Txt.split z " ") : w.length ≤ z.length := by
  have h1 := words_sum z
  have h2 := mem_sum h
  have h3 : 0 < (Txt.split z " ").length := List.length_pos_iff.mpr (split_ne z " ")
  omega
theorem findIdx_at {α : Type} {p : α → Bool} : ∀ {l : List α} {i : Nat} {y : α}, l[i]? = some y → p y = true → (∀ x ∈ l.take i, p x = false) → l.findIdx? p = some i
  | [], i, y, h, _, _ => by cases h
  | a :: l, 0, y, h, hp, _ => by
    cases h
    rw [List.findIdx?_cons, hp]; rfl
  | a :: l, i + 1, y, h, hp, hb => by
    have ha := hb a (by rw [List.take_succ_cons]; exact List.mem_cons_self)
    have e := findIdx_at (l := l) (i := i) (y := y) h hp fun x hx => hb x (by rw [List.take_succ_cons]; exact List.mem_cons_of_mem _ hx)
    rw [List.findIdx?_cons, ha, e]; rfl
theorem findIdx_no {α : Type} {p : α → Bool} {l : List α} (hb : ∀ x ∈ l, p x = false) : l.findIdx? p = none := List.findIdx?_eq_none_iff.mpr hb
/-! ### events -/
abbrev Ev := Option (Str × Int)
def evD : Ev → Dat
  | none => .tup [.str "close"]
  | some (n, m) => .tup [.str "open", .str n, .int m]
def evR : Option Ev → Dat
  | none => .non
  | some e => evD e
def evS (z : Str) : Option Ev := if z = "/" then some none else if isNm (Txt.partition z ":").1 && (!decide ((Txt.partition z ":").2.1 = "") && isFg (Txt.partition z ":").2.2) then some (some ((Txt.partition z ":").1, figV (Txt.partition z ":").2.2)) else none
def wordE : Ev → Str
  | none => "/"
  | some (n, m) => n ++ ":" ++ (toString m : String)
def textE (es : List Ev) : Str := Txt.join " " (es.map wordE)
/-- marks and names that stay small -/
def smallE : Ev → Prop
  | none => True
  | some (n, m) => n.length ≤ 100 ∧ 0 ≤ m ∧ m < 10 ^ 100
/-- what may be asked for its kind -/
def okD (d : Dat) : Prop := tyName d ≠ "" ∧ ∀ z, d = .str z → z.length ≤ 100000
theorem okD_str {z : Str} (h : z.length ≤ 100000) : okD (.str z) := ⟨(show "str" ≠ "" by decide), fun y e => by cases e; exact h⟩
def SplitS : SpecT := fun ss O R => ∃ z : Str, ss = [.dat (.str z)] ∧ z.length ≤ 100000 ∧ R (.ret (.dat (.lst ((wordsS z).map .str)))) O
def MadeS : SpecT := fun ss O R => ∃ (d : Dat) (L : Str) (m : Nat), ss = [.dat d, .dat (.str L), .dat (.int (m : Int))] ∧ okD d ∧ R (.ret (.dat (.bl (madeD d L m)))) O
def NameS : SpecT := fun ss O R => ∃ d : Dat, ss = [.dat d] ∧ okD d ∧ R (.ret (.dat (.bl (isNmD d)))) O
def FigS : SpecT := fun ss O R => ∃ d : Dat, ss = [.dat d] ∧ okD d ∧ R (.ret (.dat (.bl (isFgD d)))) O
/-- own_copy of what is no list and no tuple -/
def Own0S : SpecT := fun ss O R => ∃ d : Dat, ss = [.dat d] ∧ tyName d ≠ "" ∧ isLstD d = false ∧ isTupD d = false ∧ R (.ret (.dat d)) O
end Kn
/-! KnI: what the written part holds, by names; the law's own end. -/
namespace Kn
open PySem PySem.Spec PyProof.Rows
open L2 hiding St
/-! ### cells that nobody needs any more -/
def Sub (O' O : Own) : Prop := ∀ p c, O' p = some c → O p = some c
theorem Sub.refl {O : Own} : Sub O O := fun _ _ h => h
theorem Sub.trans {O1 O2 O3 : Own} (h : Sub O1 O2) (h' : Sub O2 O3) : Sub O1 O3 := fun p c e => h' p c (h p c e)
theorem Sub.up {O : Own} {p : Addr} {c : Cell} (h : O p = none) : Sub O (up O p c) := fun q d e => by
  rw [up_ne (own_ne e h)]; exact e
theorem Sub.upw {O' O : Own} {p : Addr} {c : Cell} (h : Sub O' O) (n : O' p = none) : Sub O' (Kn.up O p c) := fun q d e => by
  rw [up_ne (own_ne e n)]; exact h q d e
theorem Sub.ups {O' O : Own} {p : Addr} {c : Cell} (h : Sub O' O) : Sub (Kn.up O' p c) (Kn.up O p c) := fun q d e => by
  by_cases z : q = p
  · subst z
    rw [up_at] at e ⊢
    exact e
  · rw [up_ne z] at e ⊢
    exact h q d e
theorem Sub.none {O' O : Own} {p : Addr} (h : Sub O' O) (n : O p = none) : O' p = none := by
  cases e : O' p with
  | none => rfl
  | some c => rw [h p c e] at n; cases n
theorem hid_sub {O' O : Own} {H : Hp} (h : Sub O' O) : Same (hid O H) (hid O' H) := fun b o e => by
  obtain ⟨h1, h2⟩ := of_hid e
  rw [hid_none (h.none h1)]
  exact h2
section
variable {K : PySem.W.Frag} {H0 H : Hp} {O O' : Own} {σ : SV} {ρ : List Slot}
theorem OwnOk.sub (h : OwnOk K O H) (s : Sub O' O) : OwnOk K O' H := ⟨fun p c e => by
  obtain ⟨o, h1, h2⟩ := h.cell p c (s p c e)
  exact ⟨o, h1, ClOk.mono (hid_sub s) h2⟩⟩
theorem StOk.sub (h : StOk K H0 O σ ρ H) (s : Sub O' O) : StOk K H0 O' σ ρ H := ⟨h.own.sub s, h.base.trans (hid_sub s), pmap (fun _ _ q => EnvOk.mono (hid_sub s) q) h.env⟩
theorem ExOk.sub {cls : Value} {d : Option Addr} {e : Exn} (h : ExOk K O H cls d e) (s : Sub O' O) : ExOk K O' H cls d e := by
  cases e with
  | own C fs =>
    obtain ⟨h1, dx, fv, h2, h3, h4, h5⟩ := h
    exact ⟨h1, dx, fv, h2, s.none h3, h4, RpF.mono (hid_sub s) h5⟩
  | ty n => exact h
end
/-- .. forgotten at the way out -/
def drX (x : ExK) : ExK := fun e ρ O => ∃ O', Sub O' O ∧ x e ρ O'
def drR (r : Slot → Own → Prop) : Slot → Own → Prop := fun z O => ∃ O', Sub O' O ∧ r z O'
def drN (r : List Slot → Own → Prop) : List Slot → Own → Prop := fun z O => ∃ O', Sub O' O ∧ r z O'
section
variable {X : Cx} {O : Own} {ρ : List Slot} {x : ExK} {D : SD} {sts : List Stmt} {e : Expr} {k : Slot → Own → Prop}
theorem takes_dr {H0 : Hp} (t : Takes X (Wsem X.K H0 x)) : Takes X (Wsem X.K H0 (drX x)) := t.imp fun _ _ _ _ ⟨e, ρ, O, ⟨O', s, h1⟩, h2, h3⟩ => ⟨e, ρ, O', h1, h2.sub s, h3.sub s⟩
theorem sw_drop (h : SW X O ρ sts (drX x) { nx := drN D.nx, rt := drR D.rt, bk := drN D.bk, ct := drN D.ct }) : SW X O ρ sts x D := fun H0 σ H st tk E ok =>
  h H0 σ H st (takes_dr tk) E ⟨fun σ ρ O H ⟨O', s, q⟩ z => ok.nx σ ρ O' H q (z.sub s), fun v z O H ⟨O', s, q⟩ o b r => ok.rt v z O' H q (o.sub s) (b.trans (hid_sub s)) (SlOk.mono (hid_sub s) r), fun σ ρ O H ⟨O', s, q⟩ z => ok.bk σ ρ O' H q (z.sub s), fun σ ρ O H ⟨O', s, q⟩ z => ok.ct σ ρ O' H q (z.sub s)⟩
theorem ew_drop (h : EW X O ρ e (drX x) (drR k)) : EW X O ρ e x k := fun H0 σ H st tk Q q =>
  h H0 σ H st (takes_dr tk) Q fun v H' s O1 ⟨O2, z, h2⟩ st1 r1 => q v H' s O2 h2 (st1.sub z) (SlOk.mono (hid_sub z) r1)
end
/-! ### exceptions with one field -/
def Ini1 (okI : Dat → Prop) (C : Addr) (f : Str) : SpecT := fun ss O R => ∃ (a : Addr) (d : Dat), ss = [.own a, .dat d] ∧ okI d ∧ O a = some (.exo C none) ∧ ∀ dx, O dx = none → R (.ret (.dat .non)) (up (up O dx (.exd [(f, .dat d)])) a (.exo C (some dx)))
theorem raised1 {okI : Dat → Prop} {C : Addr} {f : Str} {d : Dat} {x : ExK} {ρ : List Slot} {O : Own} (hd : okI d) (h : x (.own C [(f, d)]) ρ O) : MkEx C (Ini1 okI C f) x ρ [.dat d] O := by
  refine ⟨(show 1 ≤ 1000 by decide), fun a ha => ⟨a, d, rfl, hd, up_at, fun dx nd => ⟨_, rfl, rfl, dx, [(f, d)], up_at, ?_, ?_, ?_⟩⟩⟩
  · have na : dx ≠ a := fun e => by rw [e, up_at] at nd; cases nd
    rw [up_ne na, up_at]
    rfl
  · have na : dx ≠ a := fun e => by rw [e, up_at] at nd; cases nd
    rw [up_ne na] at nd
    exact nd
  · have na : dx ≠ a := fun e => by rw [e, up_at] at nd; cases nd
    have nd' := nd
    rw [up_ne na] at nd'
    have e : dn (dn (up (up (up O a (.exo C none)) dx (.exd [(f, .dat d)])) a (.exo C (some dx))) a) dx = O := by
      funext b
      by_cases e1 : b = dx
      · subst e1; rw [dn_at, nd']
      · rw [dn_ne e1]
        by_cases e2 : b = a
        · subst e2; rw [dn_at, ha]
        · rw [dn_ne e2, up_ne e2, up_ne e1, up_ne e2]
    rw [e]
    exact h
/-- mg is what the written part says of the module's names -/
def TopOf (K : PySem.W.Frag) (mg : Str → Option Value) : Prop := ∃ h : Heap, K.In h ∧ h.Ns mainGlobals mg
theorem TopOf.no {K : PySem.W.Frag} {mg : Str → Option Value} {nm : Str} (T : TopOf K mg) (e : PySem.W.nsIn K mainGlobals nm = some none) : mg nm = none := by
  obtain ⟨h, h1, h2⟩ := T
  exact PySem.W.mg_none_of h1 h2 e
theorem TopOf.is {K : PySem.W.Frag} {mg : Str → Option Value} {nm : Str} {v : Value} (T : TopOf K mg) (e : PySem.W.nsIn K mainGlobals nm = some (some v)) : mg nm = some v := by
  obtain ⟨h, h1, h2⟩ := T
  exact PySem.W.mg_of h1 h2 e
/-- a def without defaults under its name -/
structure DefIn (K : PySem.W.Frag) (nm : Str) (st : Stmt) : Prop where
  ex : ∃ (f : Addr) (fd : FuncData), PySem.W.nsIn K mainGlobals nm = some (some (.ref f)) ∧ L2.Fun K nm nm st f fd
theorem def_in {K : PySem.W.Frag} {nm : Str} {st : Stmt} {f : Addr} {oc : Value} {od an : Option Addr} {osl : Array (Option Value)} {kV doc pm cdv ct : Value} (a : PySem.W.nsIn K mainGlobals nm = some (some (.ref f)))
    (l : K.lookup f = some ⟨oc, od, .func (PySem.W.fnOf nm nm (defArgs st) (defBody st) (defScope st) .none kV doc pm an cdv ct), osl⟩) (c : PySem.W.codeIn K cdv nm = true) (k : PySem.W.keepIn K (.ref f) = true) : DefIn K nm st :=
  ⟨f, _, a, fun_mk l c k⟩
/-- how the arguments of a def of n parameters bind -/
def BindsAs (nm : Str) (st : Stmt) (ps : List Str) : Prop := ∀ (kV doc pm : Value) (an : Option Addr) (cdv ct : Value) (us : List Value), us.length = ps.length →
  bindArgs (PySem.W.fnOf nm nm (defArgs st) (defBody st) (defScope st) .none kV doc pm an cdv ct) ⟨us, []⟩ = pure (ps.zip us)
/-- a text, a tuple of texts under a module's name -/
def TextIn (K : PySem.W.Frag) (nm z : Str) : Prop := ∃ t, PySem.W.nsIn K mainGlobals nm = some (some (.str z t))
theorem text_in {K : PySem.W.Frag} {nm y z : Str} {t : Tok} (a : PySem.W.nsIn K mainGlobals nm = some (some (.str y t))) (e : y = z) : TextIn K nm z := ⟨t, by rw [← e]; exact a⟩
theorem TextIn.glob {K : PySem.W.Frag} {mg : Str → Option Value} {nm z : Str} (h : TextIn K nm z) (T : TopOf K mg) : GlobD K mg nm (.str z) := by
  obtain ⟨t, a⟩ := h
  exact ⟨.str z, .str z t, T.is a, ⟨t, rfl⟩, fun G => .str z⟩
def strsOf : List Value → Option (List Str)
  | [] => some []
  | .str z _ :: r => (strsOf r).map (z :: ·)
  | _ :: _ => none
theorem vals_strsOf : ∀ {us : List Value} {zs : List Str}, strsOf us = some zs → Vals (zs.map V.str) us
  | [], zs, h => by cases h; exact .nil
  | u :: us, zs, h => by
    cases u with
    | str z t =>
      cases q : strsOf us with
      | none =>
        unfold strsOf at h
        rw [q] at h; cases h
      | some ys =>
        unfold strsOf at h
        rw [q] at h; cases h
        exact .cons ⟨t, rfl⟩ (vals_strsOf q)
    | _ => cases h
def TextsIn (K : PySem.W.Frag) (nm : Str) (zs : List Str) : Prop := ∃ (a : Addr) (od : Option Addr) (its : Array Value) (n : Nat) (sl : Array (Option Value)), PySem.W.nsIn K mainGlobals nm = some (some (.ref a)) ∧ K.lookup a = some ⟨.type "tuple", od, .seq its n, sl⟩ ∧ its.size ≤ sizeLine ∧ strsOf its.toList = some zs
theorem texts_in {K : PySem.W.Frag} {nm : Str} {zs : List Str} {a : Addr} {od : Option Addr} {its : Array Value} {n : Nat} {sl : Array (Option Value)} (h : PySem.W.nsIn K mainGlobals nm = some (some (.ref a))) (l : K.lookup a = some ⟨.type "tuple", od, .seq its n, sl⟩) (z : its.size ≤ sizeLine) (e : strsOf its.toList = some zs) : TextsIn K nm zs :=
  ⟨a, od, its, n, sl, h, l, z, e⟩
theorem TextsIn.glob {K : PySem.W.Frag} {mg : Str → Option Value} {nm : Str} {zs : List Str} (h : TextsIn K nm zs) (T : TopOf K mg) : GlobD K mg nm (.tup (zs.map .str)) := by
  obtain ⟨a, od, its, n, sl, h1, h2, h3, h4⟩ := h
  exact ⟨.ref a, .ref a, T.is h1, rfl, fun G => .tup (xs := zs.map V.str) (.inr ⟨_, its, n, h2, rfl, rfl, h3, vals_strsOf h4⟩) (strs_rp zs)⟩
/-- an exception class of one's own with an __init__ of its own -/
structure ExcAt (K : PySem.W.Frag) (nm qual : Str) (st : Stmt) (C : Addr) : Prop where
  at_ : PySem.W.nsIn K mainGlobals nm = some (some (.ref C))
  oex : OexC K C
  ini : ∃ f fd, PySem.W.findIn K (.ref C) "__init__" = some (some (.ref f)) ∧ PySem.W.typeIn K (.ref f) = some (.type "function") ∧ L2.Fun K "__init__" qual st f fd
theorem exc_at {K : PySem.W.Frag} {nm qual cn cq : Str} {st : Stmt} {C f N : Addr} {bs bm sub : List Value} {sn : List Str} {ab : Bool} {col : Option Bool} {dd od an : Option Addr} {k0 k1 k2 k3 k5 : Option Value} {oc kV doc pm cdv ct : Value} {osl : Array (Option Value)}
    (h1 : PySem.W.nsIn K mainGlobals nm = some (some (.ref C))) (h2 : K.lookup C = some (excClassObj cn cq C N bs bm true sn sub ab col dd k0 k1 k2 k3 k5 "ValueError.__new__")) (h3 : PySem.HandSPX.refsVE bm = true)
    (h4 : PySem.W.findIn K (.ref C) "__setattr__" = some (some (.builtin "object.__setattr__"))) (h5 : PySem.W.subIn K (.ref C) (.type "BaseException") = some true) (h6 : PySem.W.typeIn K (.ref C) = some (.type "type")) (h7 : PySem.W.keepIn K (.ref C) = true)
    (h8 : PySem.W.findIn K (.ref C) "__init__" = some (some (.ref f))) (h9 : PySem.W.typeIn K (.ref f) = some (.type "function"))
    (l : K.lookup f = some ⟨oc, od, .func (PySem.W.fnOf "__init__" qual (defArgs st) (defBody st) (defScope st) .none kV doc pm an cdv ct), osl⟩) (c : PySem.W.codeIn K cdv qual = true) (k : PySem.W.keepIn K (.ref f) = true) : ExcAt K nm qual st C :=
  ⟨h1, ⟨⟨cn, cq, N, bs, bm, sn, sub, ab, col, dd, k0, k1, k2, k3, k5, h2, h3⟩, h4, h5, h6, h7⟩, f, _, h8, h9, fun_mk l c k⟩
/-- .. with all that is asked of it where it is caught; B: the class that it is derived from -/
structure ExcIn (K : PySem.W.Frag) (nm qual bn : Str) (st : Stmt) (C B : Addr) : Prop where
  a : ExcAt K nm qual st C
  xf : XfC K C
  ec : ExcC K C
  own : PySem.W.subIn K (.ref C) (.ref C) = some true
  bat : PySem.W.nsIn K mainGlobals bn = some (some (.ref B))
  sup : PySem.W.subIn K (.ref C) (.ref B) = some true
  bty : PySem.W.typeIn K (.ref B) = some (.type "type")
  bcl : PySem.W.isClsIn K B = true
  brd : ClX.CRead K B (.type "type")
  bin : PySem.W.findCls K (.ref B) (.type "type") "__init__" = some (.val (.builtin "ValueError.__init__"))
section
variable {K : PySem.W.Frag} {nm qual bn : Str} {st : Stmt} {C B : Addr} {mg : Str → Option Value}
theorem ExcIn.exm (h : ExcIn K nm qual bn st C B) : PySem.W.exmOne K (.ref C) (.ref C) = some true := PySem.W.exm_ref h.xf.exC h.xf.hdC h.a.oex.tyC h.own
theorem kit_sub {C B : Addr} (bcl : PySem.W.isClsIn K B = true) (bty : PySem.W.typeIn K (.ref B) = some (.type "type")) (sup : PySem.W.subIn K (.ref C) (.ref B) = some true) : PySem.W.kitOne K (.ref C) (.ref B) = some true := by
  unfold PySem.W.kitOne
  split
  · rfl
  · have e1 : ((PySem.W.clsIn K B).isSome && PySem.W.typeIn K (.ref B) == some (.type "type")) = true := by
      rw [bty]
      rw [show (PySem.W.clsIn K B).isSome = true from bcl]
      rfl
    show (if ((PySem.W.clsIn K B).isSome && PySem.W.typeIn K (.ref B) == some (.type "type")) = true then _ else _) = _
    rw [if_pos e1]
    exact sup
theorem ExcIn.kit (h : ExcIn K nm qual bn st C B) : PySem.W.kitOne K (.ref C) (.ref B) = some true := kit_sub h.bcl h.bty h.sup
theorem ExcIn.ini (h : ExcIn K nm qual bn st C B) (T : TopOf K mg) : BaseIni K mg bn := ⟨B, .type "type", T.is h.bat, h.brd, h.bin⟩
end
section
variable {P : Program} {w : World} {K : PySem.W.Frag} {mg : Str → Option Value} {base : Heap} {g : Bool} {k : Nat} {ps : List Str} {S : SpecT}
theorem cal_of {nm : Str} {st : Stmt} (T : TopOf K mg) (D : DefIn K nm st) (b : BindsAs nm st ps) (h : ∀ f fd, L2.Fun K nm nm st f fd → Fn P w K mg base g k f fd ps S) : Cal P w K mg base g k nm S [] := by
  obtain ⟨f, fd, a, F⟩ := D.ex
  exact ⟨f, fd, ps, [], [], T.is a, F.kp, h f fd F, F.binds b, .nil, fun _ => .nil⟩
/-- how the arguments of an __init__ bind -/
def IniAs (qual : Str) (st : Stmt) (ps : List Str) : Prop := ∀ (kV doc pm : Value) (an : Option Addr) (cdv ct : Value) (us : List Value), us.length = ps.length →
  bindArgs (PySem.W.fnOf "__init__" qual (defArgs st) (defBody st) (defScope st) .none kV doc pm an cdv ct) ⟨us, []⟩ = pure (ps.zip us)
theorem xc_of {nm qual bn : Str} {st : Stmt} {C B : Addr} (T : TopOf K mg) (D : ExcIn K nm qual bn st C B) (b : IniAs qual st ps) (h : ∀ f fd, L2.Fun K "__init__" qual st f fd → Fn P w K mg base false k f fd ps S) : ExCls P w K mg base k nm C S := by
  obtain ⟨f, fd, h1, h2, F⟩ := D.a.ini
  exact ⟨D.a.oex, T.is D.a.at_, f, fd, ps, h1, h2, h f fd F, F.binds b⟩
end
/-! ### the law's end -/
/-- what a law has to do: given the script it says True -/
def LawS : SpecT := fun ss O R => ∃ ns : List Int, ss = [.dat (.fro (ns.map .int))] ∧ ns.length ≤ 63 ∧ ∀ O', R (.ret (.dat (.bl true))) O'
theorem ints_rp {K : PySem.W.Frag} {G : Hp} : ∀ ns : List Int, RpA K G (ns.map V.int) (ns.map Dat.int)
  | [] => .nil
  | n :: ns => .cons (.int n) (ints_rp ns)
def noO : Own := fun _ => none
theorem hid_no {H : Hp} : hid noO H = H := by
  funext b
  exact hid_none rfl
theorem room_caller {n : Nat} (h : Room n callerA) (hg : callerA.guards = some []) : RoomB true n callerA := ⟨h, fun _ => hg⟩
theorem fn_at {P : Program} {w : World} {K : PySem.W.Frag} {mg : Str → Option Value} {base : Heap} {n : Nat} {fa a : Addr} {fd : FuncData} {x : Str} {ns : List Int} {s : Shared} {H : Hp}
    (F : Fn P w K mg base true n fa fd [x] LawS) (hr : RoomB true n callerA) (e0 : Env0 P w K mg base callerA [] s H) (hb : BindsTo s fd ⟨[.ref a], []⟩ [(x, .ref a)]) (hS : SqL K H a (ns.map V.int)) (hl : ns.length ≤ 63) :
    codeAny (model P w) callerA (.call (.ref fa) ⟨[.ref a], []⟩) (CR (L2.CX P w) [] P w H s (fun v _ => v = .bl true) fun _ _ _ => False) s := by
  refine F.run callerA [] s H ⟨[.ref a], []⟩ [.ref a] [.ref a] _ _ hr e0 hb (.cons rfl .nil) ?_
  refine ⟨noO, [.dat (.fro (ns.map .int))], fun o _ => o = .ret (.dat (.bl true)), ⟨fun p c hp => by cases hp⟩, .cons ?_ .nil, ⟨ns, rfl, hl, fun _ => rfl⟩, fun v H' z O' e1 _ _ r => ?_, fun cls d e H' O' e1 => ?_⟩
  · refine Rp.fro (xs := ns.map V.int) ?_ (ints_rp ns)
    rw [hid_no]; exact hS
  · cases e1
    cases r
    rfl
  · cases e1
/-- the law's def, called with the script -/
theorem run_law {P : Program} {w : World} {K : PySem.W.Frag} {mg mb : Str → Option Value} {n : Nat} {fa a : Addr} {fd : FuncData} {x : Str} {sh : Shared} {vs : List Value} {ns : List Int}
    (kin : K.In sh.heap) (glob : sh.heap.Ns mainGlobals mg) (blt : sh.heap.Ns builtinsNs mb) (bltE : ∀ y : Str, y ≠ "__name__" → mb y = bootBuiltins y) (lim : sh.heap.NoLimit) (gen : sh.gens = #[])
    (hobj : sh.heap.get? a = some { cls := .type "list", data := .seq vs.toArray }) (hint : IntsAre vs ns) (hlen : ns.length ≤ 63) (hr : RoomB true n callerA)
    (F : ∀ base : Heap, K.In base → base.Ns mainGlobals mg → Fn P w K mg base true n fa fd [x] LawS) (hbind : ∀ (s : Shared) (u : Value), BindsTo s fd ⟨[u], []⟩ [(x, u)]) :
    codeAny (model P w) callerA (.call (.ref fa) ⟨[.ref a], []⟩) (fun r s' => r = .ok (.ret (.bool true)) ∧ OldK sh.heap s'.heap ∧ s'.os = sh.os ∧ AllBare s'.gens) sh := by
  have vals := vals_ints hint
  have lenV := hint.length
  have small : ns.length ≤ sizeLine := Nat.le_trans hlen (by decide)
  -- H tells of the script alone, or of nothing
  suffices main : ∀ H : Hp, Only H → SqL K H a (ns.map V.int) → HOk P w H sh.heap → (∀ b, H b ≠ none → b = a) → (H a ≠ none → K.lookup a = none) →
      codeAny (model P w) callerA (.call (.ref fa) ⟨[.ref a], []⟩) (fun r s' => r = .ok (.ret (.bool true)) ∧ OldK sh.heap s'.heap ∧ s'.os = sh.os ∧ AllBare s'.gens) sh by
    by_cases hk : ∃ o, K.lookup a = some o
    · obtain ⟨o, hk⟩ := hk
      have eo := (kin a o hk).symm.trans hobj
      cases eo
      have frz : SqL K (fun _ => none) a (ns.map V.int) := .inr ⟨_, vs.toArray, _, hk, rfl, rfl, rfl, by rw [List.size_toArray, lenV]; exact small, by simpa using vals⟩
      exact main (fun _ => none) (fun _ => .inl rfl) frz (fun b u z => by
        have z' : (none : Option HO) = some u := z
        cases z') (fun b z => absurd rfl z) fun z => absurd rfl z
    · have hk : K.lookup a = none := by
        cases q : K.lookup a with
        | none => rfl
        | some o => exact absurd ⟨o, q⟩ hk
      let O1 : HO := .frz { cls := .type "list", data := .seq vs.toArray } (.lst (ns.map V.int))
      have at1 : ∀ b u, (if b = a then some O1 else none) = some u → b = a ∧ O1 = u := fun b u z => by
        by_cases q : b = a
        · rw [if_pos q] at z
          exact ⟨q, Option.some.inj z⟩
        · rw [if_neg q] at z
          cases z
      refine main (fun b => if b = a then some O1 else none) (fun b => ?_) (.inl (.inr ⟨_, if_pos rfl⟩)) (fun b u z => ?_) (fun b z => ?_) fun _ => hk
      · by_cases q : b = a
        · exact .inr ⟨_, _, if_pos q⟩
        · exact .inl (if_neg q)
      · obtain ⟨rfl, rfl⟩ := at1 b u z
        exact ⟨hobj, by rw [List.length_map]; exact small, vs, _, vals, hobj⟩
      · cases q : (if b = a then some O1 else none) with
        | none => exact absurd q z
        | some u => exact (at1 b u q).1
  intro H only hS hok isA notK
  -- the base: the heap without the script
  have at_base : ∀ {b : Addr} {o : Obj}, sh.heap.get? b = some o → H b = none → (hidT sh.heap H).get? b = some o := fun e z => hidT_get e z
  have dict_free : ∀ {b : Addr} {o : Obj} {es : Array DictEntry} {ep : Nat}, sh.heap.get? b = some o → o.data = .dict es ep → H b = none := fun {b o es ep} e d => by
    cases q : H b with
    | none => rfl
    | some u =>
      obtain rfl := isA b (by rw [q]; exact fun z => by cases z)
      have eo := e.symm.trans hobj
      cases eo
      have d : Data.seq vs.toArray _ = Data.dict es ep := d
      cases d
  have nsB : ∀ {b : Addr} {m : Str → Option Value}, sh.heap.Ns b m → (hidT sh.heap H).Ns b m := fun {b m} z => by
    obtain ⟨o, es, ep, e, d, r⟩ := z
    exact ⟨o, es, ep, at_base e (dict_free e d), d, r⟩
  have kinB : K.In (hidT sh.heap H) := fun b o e => at_base (kin b o e) (by
    cases q : H b with
    | none => rfl
    | some u =>
      obtain rfl := isA b (by rw [q]; exact fun z => by cases z)
      rw [notK (by rw [q]; exact fun z => by cases z)] at e
      cases e)
  have limB : (hidT sh.heap H).NoLimit := by
    obtain ⟨mc, h1, h2⟩ := lim
    exact ⟨mc, nsB h1, h2⟩
  have e0 : Env0 P w K mg (hidT sh.heap H) callerA [] sh H :=
    { frames := rfl, mod := ⟨kinB, nsB glob, ⟨mb, nsB blt, bltE⟩, limB⟩, bs := fun b o e => of_hidT e, bsz := Nat.le_of_eq (hidT_size _ _), funs := trivial, frf := fun b hb => absurd (show b ∈ ([] : List Addr) from hb) List.not_mem_nil, hok := hok, bare := .of_eq gen }
  refine codeAny_mono (fn_at (F _ kinB (nsB glob)) hr e0 (hbind sh (.ref a)) hS hlen) fun r s' h => ?_
  cases r with
  | error e =>
    have h : L2.CX P w [] H sh (fun _ _ _ => False) e s' := h
    obtain ⟨_, _, _, _, _, _, _, _, _, _, h⟩ := h
    exact False.elim h.2.2
  | ok fl =>
    cases fl with
    | next => exact False.elim h
    | brk => exact False.elim h
    | cont => exact False.elim h
    | ret u =>
      obtain ⟨v, H', os, bare, un, hok', rv, q⟩ := h
      have q : v = .bl true := q
      subst q
      obtain rfl : u = Value.bool true := rv
      refine ⟨rfl, OldK.of_keep fun b o e => ?_, os, bare⟩
      cases q : H b with
      | none => exact un.keep b o e q (fun z => absurd (show b ∈ ([] : List Addr) from z) List.not_mem_nil) (by simp)
      | some u =>
        rcases only b with z | ⟨ob, xs, z⟩
        · rw [q] at z; cases z
        · obtain ⟨e1, _⟩ := hok b _ z
          obtain ⟨e2, _⟩ := hok' b _ (un.frzs b ob _ z)
          cases e.symm.trans e1
          exact e2
/-- what is left of a law -/
theorem law_walk {l : PySem.W.OpenLaw} {n : Nat} {q : Program} {loose : List Str} {XP : (Str → Option Value) → Heap → Prop} {YP : World → Heap → Prop} {d : DefRec} {K : Params → PySem.W.Frag} {x : Str} {st : Stmt} {Z : PySem.W.Frag → Prop}
    (hn : l.most = some 63) (hdf : d.params.defaults = []) (hr : Room n callerA) (hg : callerA.guards = some [])
    (hY : ∀ (w : World) (h : Heap), YP w h → (K w.params).In h) (hz : ∀ w : World, Z (K w.params)) (hD : ∀ w : World, DefIn (K w.params) d.name st) (hb : BindsAs d.name st [x])
    (F : ∀ (w : World) (mg : Str → Option Value) (f : Addr) (fd : FuncData), Z (K w.params) → TopOf (K w.params) mg → L2.Fun (K w.params) d.name d.name st f fd → ∀ base : Heap, (K w.params).In base → Fn l.prog w (K w.params) mg base true n f fd [x] LawS) :
    PySem.W.WalkO q loose XP YP l.row.toRowW d [] (fun f vs => PySem.call f vs) := by
  refine Att.attach_call hn hdf fun w s0 s1 mg mb fa o pm cd doc a vs ns G Y ho hd hcd hmg hobj hints hlen hgen => ?_
  have kin := hY w _ Y
  have T : TopOf (K w.params) mg := ⟨_, kin, G.T.g⟩
  obtain ⟨f, fd, ha, hF⟩ := (hD w).ex
  have e := hmg.symm.trans (T.is ha)
  cases e
  obtain ⟨oc, od, kV, doc', pm', an, cdv, ct, osl, rfl, _, _⟩ := id hF.ex
  exact run_law kin G.T.g G.T.b G.T.builtins G.T.nolimit hgen hobj hints hlen ⟨hr, fun _ => hg⟩ (fun base kb nb => F w mg fa _ (hz w) T hF base kb) fun s u => .of_eq (hb _ _ _ _ _ _ [u] rfl)
end Kn
/-! KnJ: a name's list given away; y = [..]; draws. -/
namespace Kn
open PySem PySem.Spec PyProof.Rows
open L2 hiding St
section
variable {X : Cx} {O : Own} {ρ : List Slot} {x : ExK} {D : SD} {sts : List Stmt}
theorem StOk.give {K : PySem.W.Frag} {H0 H : Hp} {σ : SV} {i : Nat} {p : Addr} {ds : List Dat} (h : StOk K H0 O σ ρ H) (hi : ρ[i]? = some (.own p)) (hp : O p = some (.lst (ds.map .dat))) : StOk K H0 (dn O p) σ (ρ.set i (.dat (.lst ds))) H := by
  have f := h.freeze (p := p)
  refine ⟨f.own, f.base, ?_⟩
  obtain ⟨v, h1, h2⟩ := paired_get f.env hi
  have r : Rp K (hid (dn O p) H) (.ref p) (.lst ds) := h.own.lst hp
  have z := paired_set (x := v) (y := Slot.dat (.lst ds)) (F := EnvOk K (hid (dn O p) H)) ⟨.ref p, h2, r⟩ i f.env
  have e : σ.set i v = σ := by
    obtain ⟨hl, e⟩ := List.getElem?_eq_some_iff.mp h1
    rw [← e, List.set_getElem_self]
  rw [e] at z
  exact z
/-- the list that a name holds is data from now on -/
theorem sw_frz (i : Nat) {p : Addr} {ds : List Dat} (hp : O p = some (.lst (ds.map .dat))) (h : SW X (dn O p) (ρ.set i (.dat (.lst ds))) sts x D) (hi : ρ[i]? = some (.own p) := by rfl) : SW X O ρ sts x D := fun H0 σ H st tk E ok => h H0 σ H (st.give hi hp) tk E ok
/-- y = [elt for tg in iter if ..] whose parts change nothing -/
theorem s1_setMap {α : Type} (l : List α) (ι f : α → Dat) (g : α → Bool) (own : List (Str × Nat)) (i : Nat) {nm : Str} {py spos pos : Pos} {elt tg iter : Expr} {ifs : List Expr} {scope : Scope} {T : Dat → List Slot → List Slot → Prop} (hN : X.N.Nodup) (tg_ok : Tgt X scope (own.map (·.2)) tg T) (ok : BlkOk X.N X.env.scope scope own)
    (hi : IW X O ρ tg iter x fun ds' O1 => ds' = l.map ι ∧ O1 = O) (hz : l.length ≤ sizeLine)
    (hb : ∀ d, d ∈ l → ∃ ρ', T (ι d) (wipeS ρ (own.map (·.2))) ρ' ∧ ∀ O' Y, Blk X scope Y → TsW Y O' ρ' ifs noX (fun t O2 => t = g d ∧ O2 = O') ∧ (g d = true → EV Y O' ρ' elt noX (f d)))
    (h : ∀ p, O p = none → D.nx (ρ.set i (.own p)) (up O p (.lst (((l.filter g).map f).map .dat)))) (hc : X.calm = true := by rfl)
    (hy : X.N[i]? = some nm := by rfl) (hyl : X.env.scope.names.lookup nm = some .local := by rfl)
    (hsw : swapsWith (.ListComp elt [⟨tg, iter, ifs, 0⟩] scope pos) (some (.Name nm py)) spos.line X.env = pure true := by exact sw_true rfl rfl rfl (by decide +kernel)) (hs : ∀ x, foldedSetIterable iter X.env x = pure x := by intro _; rfl) :
    S1 X O ρ (.Assign [.Name nm py] (.ListComp elt [⟨tg, iter, ifs, 0⟩] scope pos) spos) x D := by
  refine s1_setLc own i hN tg_ok ok (fun H0 σ H st tk R q => hi H0 σ H st tk R fun J H' ds' O1 ⟨e1, e2⟩ st' it => q J H' ds' O1 ?_ st' it) hc hy hyl hsw hs
  subst e1 e2
  refine ⟨by rw [List.length_map]; exact hz, fun i acc O' => O' = O1 ∧ acc = (((l.take i).filter g).map f).map .dat, ⟨rfl, rfl⟩, fun i d0 acc O' hj hd0 => ?_, fun acc O' hj p hp => ?_⟩
  · obtain ⟨rfl, rfl⟩ := hj
    rw [List.getElem?_map] at hd0
    obtain ⟨d, hd, rfl⟩ := Option.map_eq_some_iff.mp hd0
    obtain ⟨ρ', ht, hb⟩ := hb d (List.mem_of_getElem? hd)
    refine ⟨ρ', ht, fun Dd nD Y hY => ?_⟩
    have htake : l.take (i + 1) = l.take i ++ [d] := by rw [List.take_add_one, hd]; rfl
    obtain ⟨h1, _⟩ := hb (up O' Dd (.lst ((((l.take i).filter g).map f).map .dat))) Y hY
    refine fun H0 σ H st tk Q q => h1 H0 σ H st tk Q fun t H' O2 ⟨e1, e2⟩ st2 => q t H' O2 ⟨fun ht => fun Z hZ => ?_, fun ht => ?_⟩ st2
    · subst e2
      have hg : g d = true := e1 ▸ ht
      refine ((hb (up O' Dd (.lst ((((l.take i).filter g).map f).map .dat))) Z hZ).2 hg).mono fun s O3 ⟨e3, e4⟩ => ?_
      subst e3 e4
      refine ⟨O', rfl, nD, rfl, ?_⟩
      rw [htake, List.filter_append, List.filter_cons_of_pos hg]
      simp
    · subst e2
      have hg : g d = false := e1 ▸ ht
      refine ⟨O', rfl, nD, rfl, ?_⟩
      rw [htake, List.filter_append, List.filter_cons_of_neg (by rw [hg]; exact Bool.false_ne_true)]
      simp
  · obtain ⟨rfl, rfl⟩ := hj
    rw [List.length_map, List.take_length]
    exact h p hp
theorem s1_setMap1 {α : Type} (l : List α) (ι f : α → Dat) (own : List (Str × Nat)) (i : Nat) {nm : Str} {py spos pos : Pos} {elt tg iter : Expr} {scope : Scope} {T : Dat → List Slot → List Slot → Prop} (hN : X.N.Nodup) (tg_ok : Tgt X scope (own.map (·.2)) tg T) (ok : BlkOk X.N X.env.scope scope own)
    (hi : IW X O ρ tg iter x fun ds' O1 => ds' = l.map ι ∧ O1 = O) (hz : l.length ≤ sizeLine)
    (hb : ∀ d, d ∈ l → ∃ ρ', T (ι d) (wipeS ρ (own.map (·.2))) ρ' ∧ ∀ O' Y, Blk X scope Y → EV Y O' ρ' elt noX (f d))
    (h : ∀ p, O p = none → D.nx (ρ.set i (.own p)) (up O p (.lst ((l.map f).map .dat)))) (hc : X.calm = true := by rfl)
    (hy : X.N[i]? = some nm := by rfl) (hyl : X.env.scope.names.lookup nm = some .local := by rfl)
    (hsw : swapsWith (.ListComp elt [⟨tg, iter, [], 0⟩] scope pos) (some (.Name nm py)) spos.line X.env = pure true := by exact sw_true rfl rfl rfl (by decide +kernel)) (hs : ∀ x, foldedSetIterable iter X.env x = pure x := by intro _; rfl) :
    S1 X O ρ (.Assign [.Name nm py] (.ListComp elt [⟨tg, iter, [], 0⟩] scope pos) spos) x D :=
  s1_setMap l ι f (fun _ => true) own i hN tg_ok ok hi hz (fun d hd => by
    obtain ⟨ρ', h1, h2⟩ := hb d hd
    exact ⟨ρ', h1, fun O' Y hY => ⟨tsw_nil ⟨rfl, rfl⟩, fun _ => h2 O' Y hY⟩⟩) (by rw [filter_yes]; exact h) hc hy hyl hsw hs
end
section
variable {X : Cx} {O : Own} {ρ : List Slot} {x : ExK} {a b c : Expr} {pos : Pos} {kt : Bool → Own → Prop}
/-- a < b < c as a test -/
theorem tw_chain {op op' : CmpOp} (h : EW X O ρ a x fun s1 O1 => EW X O1 ρ b x fun s2 O2 => OpB X (compareOp op) s1 s2 O2 fun s O3 => O3 = O2 ∧ ∃ t, s = .dat (.bl t) ∧ (t = true → EW X O3 ρ c x fun s3 O4 => OpB X (compareOp op') s2 s3 O4 fun s O5 => ∃ t, s = .dat (.bl t) ∧ kt t O5) ∧ (t = false → kt false O3)) (hm : lastMarks [op, op'] [b, c] = false := by rfl) :
    TW X O ρ (.Compare a [op, op'] [b, c] pos) x kt := fun H0 σ H st tk Q q => by
  have m1 : OpR X (compareOp op) (fun v1 v2 H2 Q => ∃ r, OpR X (compareOp op) r ∧ r v1 v2 H2 Q) := fun pins s σ H x y v u Q I rx ry ⟨r, ho, hr⟩ => ho pins s σ H x y v u Q I rx ry hr
  have m2 : OpR X (compareOp op') (fun v1 v2 H2 Q => ∃ r, OpR X (compareOp op') r ∧ r v1 v2 H2 Q) := fun pins s σ H x y v u Q I rx ry ⟨r, ho, hr⟩ => ho pins s σ H x y v u Q I rx ry hr
  refine wt_of (pt_chain m1 m2 pe_w pe_w pe_w (hm := hm)) ?_
  refine h H0 σ H st tk _ fun v1 H1 s1 O1 h1 st1 r1 => h1 (hid O1 H1) σ H1 st1.top (takes_base tk st1.base) _ fun v2 H2 s2 O2 ⟨r, ho, hr⟩ st2 r2 => ⟨r, ho, ?_⟩
  have b2 := st1.base.trans st2.base
  refine hr (hid O2 H2) σ ρ H2 v1 v2 st2.top (SlOk.mono st2.base r1) r2 _ fun z H3 s O3 ⟨e3, t, e1, h3, h4⟩ st3 r3 => ?_
  subst e1 e3
  cases r3
  refine ⟨t, rfl, ?_⟩
  have st3' := st3.rebase b2
  cases t with
  | true =>
    refine iteT ((h3 rfl) (hid O3 H3) σ H3 st3.top (takes_base tk (b2.trans st3.base)) _ fun w' H4 s3 O4 ⟨r', ho', hr'⟩ st4 r4 => ⟨r', ho', ?_⟩)
    exact hr' H0 σ ρ H4 v2 w' (st4.rebase (b2.trans st3.base)) (SlOk.mono (st3.base.trans st4.base) r2) r4 _ fun z5 H5 s5 O5 ⟨t5, e5, h5⟩ st5 r5 => by
      subst e5
      cases r5
      exact ⟨t5, rfl, q t5 H5 O5 h5 st5⟩
  | false => exact iteF ⟨false, rfl, q false H3 O3 (h4 rfl) st3'⟩
/-- the one or the other as a test -/
theorem tw_if {pos : Pos} (h : TW X O ρ c x fun t O1 => (t = true → TW X O1 ρ a x kt) ∧ (t = false → TW X O1 ρ b x kt)) : TW X O ρ (.IfExp c a b pos) x kt := fun H0 σ H st tk Q q => ⟨fun pins s I => by
  show wpAny _ _ (PySem.isTrue c X.env (eval c X.env) >>= fun t => if t = true then PySem.isTrue a X.env (eval a X.env) else PySem.isTrue b X.env (eval b X.env)) _ _ _
  refine wpAny_bind (wpAny_mono ((h H0 σ H st tk (fun t H1 => (t = true → Wt X a σ H1 Q) ∧ (t = false → Wt X b σ H1 Q)) (fun t H1 O1 h1 st1 => ⟨fun ht => (h1.1 ht) H0 σ H1 st1 tk Q q, fun ht => (h1.2 ht) H0 σ H1 st1 tk Q q⟩)).r pins s I) (fun t s1 hq => ?_) fun _ _ z => z)
  obtain ⟨H1, I1, q1, q2⟩ := hq
  cases t with
  | true =>
    rw [if_pos rfl]
    exact (q1 rfl).r pins s1 I1
  | false =>
    rw [if_neg Bool.false_ne_true]
    exact (q2 rfl).r pins s1 I1⟩
end
theorem seq_at {d : Int} {n : Nat} (h0 : 0 ≤ d) (h : d < (n : Int)) : seqIndex? d n = some d.toNat := by
  have e : (if d < 0 then d + (n : Int) else d) = d := if_neg (by omega)
  have e2 : (decide (0 ≤ d) && decide (d < (n : Int))) = true := by rw [decide_eq_true h0, decide_eq_true h]; rfl
  show (if (decide (0 ≤ (if d < 0 then d + (n : Int) else d)) && decide ((if d < 0 then d + (n : Int) else d) < (n : Int))) = true then some (if d < 0 then d + (n : Int) else d).toNat else none) = _
  rw [e, if_pos e2]
theorem up_swap {O : Own} {p q : Addr} {c d : Cell} (h : p ≠ q) : up (up O p c) q d = up (up O q d) p c := by
  funext b
  by_cases e1 : b = q
  · subst e1
    rw [up_at, up_ne h.symm, up_at]
  · rw [up_ne e1]
    by_cases e2 : b = p
    · subst e2; rw [up_at, up_at]
    · rw [up_ne e2, up_ne e2, up_ne e1]
theorem rot_perm {α : Type} : ∀ {ls : List α} {j : Nat} {a : α}, ls[j]? = some a → (a :: ls.eraseIdx j).Perm ls
  | [], j, a, h => by cases h
  | b :: ls, 0, a, h => by cases h; exact .refl _
  | b :: ls, j + 1, a, h => (List.Perm.swap b a _).trans ((rot_perm (ls := ls) (j := j) h).cons b)
theorem erase_map {α β : Type} (f : α → β) : ∀ (l : List α) (i : Nat), (l.map f).eraseIdx i = (l.eraseIdx i).map f
  | [], _ => rfl
  | _ :: _, 0 => rfl
  | a :: l, i + 1 => congrArg (f a :: ·) (erase_map f l i)
theorem cut_take {α : Type} {l : List α} {m : Int} (h : 0 ≤ m) : cutD l none (some m) = l.take m.toNat := by
  obtain ⟨n, rfl⟩ := Int.eq_ofNat_of_zero_le h
  unfold cutD
  rw [HT.sIx_none, show HT.sIx l.length l.length (some (n : Int)) = min n l.length from HT.sIx_nat _ _ n, List.drop_zero, Nat.sub_zero, Int.toNat_natCast]
  rw [← List.take_eq_take_min]
theorem cut_drop {α : Type} {l : List α} {m : Int} (h : 0 ≤ m) : cutD l (some m) none = l.drop m.toNat := by
  obtain ⟨n, rfl⟩ := Int.eq_ofNat_of_zero_le h
  unfold cutD
  rw [HT.sIx_none, show HT.sIx l.length 0 (some (n : Int)) = min n l.length from HT.sIx_nat _ _ n, Int.toNat_natCast]
  rw [List.take_of_length_le (by rw [List.length_drop]; omega)]
  by_cases q : n ≤ l.length
  · rw [Nat.min_eq_left q]
  · rw [Nat.min_eq_right (by omega), List.drop_of_length_le (Nat.le_refl _), List.drop_of_length_le (by omega)]
end Kn
/-! KnR: data that may be shown and compared; texts of small signs; find. -/
namespace Kn
open PySem PySem.Spec PyProof.Rows
open L2 hiding St
def smlB (z : Str) : Bool := z.cps.all (· < 0x110000)
mutual
def fine : Dat → Bool
  | .non => true
  | .bl _ => true
  | .int i => decide ((PyData.shown (.int i)).length ≤ 13) && decide (i.natAbs.log2 < 1920)
  | .str x => smlB x
  | .lst xs => fines xs
  | .fro xs => fines xs
  | .tup xs => fines xs
  | _ => false
def fines : List Dat → Bool
  | [] => true
  | d :: ds => fine d && fines ds
end
mutual
theorem fine_all : ∀ d : Dat, fine d = true → plain d = true ∧ (toPy d).canLay0 = true ∧ (toPy d).showable = true ∧ (toPy d).hasDict = false ∧ (toPy d).intsShort 13 = true
  | .non, _ => ⟨rfl, rfl, rfl, rfl, rfl⟩
  | .bl _, _ => ⟨rfl, rfl, rfl, rfl, rfl⟩
  | .int i, h => by
    have h : (decide ((PyData.shown (.int i)).length ≤ 13) && decide (i.natAbs.log2 < 1920)) = true := h
    obtain ⟨h1, h2⟩ := Bool.and_eq_true_iff.mp h
    exact ⟨rfl, rfl, h2, rfl, h1⟩
  | .str x, h => ⟨rfl, h, rfl, rfl, rfl⟩
  | .lst xs, h => by
    obtain ⟨h1, h2, h3, h4, h5⟩ := fines_all xs h
    exact ⟨h1, h2, h3, h4, h5⟩
  | .fro xs, h => by
    obtain ⟨h1, h2, h3, h4, h5⟩ := fines_all xs h
    exact ⟨h1, h2, h3, h4, h5⟩
  | .tup xs, h => by
    obtain ⟨h1, h2, h3, h4, h5⟩ := fines_all xs h
    exact ⟨h1, h2, h3, h4, h5⟩
theorem fines_all : ∀ ds : List Dat, fines ds = true → plains ds = true ∧ PyData.canLayAll0 (toPys ds) = true ∧ PyData.showableAll (toPys ds) = true ∧ PyData.hasDictAll (toPys ds) = false ∧ PyData.intsShortAll 13 (toPys ds) = true
  | [], _ => ⟨rfl, rfl, rfl, rfl, rfl⟩
  | d :: ds, h => by
    have h : (fine d && fines ds) = true := h
    obtain ⟨h1, h2⟩ := Bool.and_eq_true_iff.mp h
    obtain ⟨a1, a2, a3, a4, a5⟩ := fine_all d h1
    obtain ⟨b1, b2, b3, b4, b5⟩ := fines_all ds h2
    refine ⟨?_, ?_, ?_, ?_, ?_⟩
    · show (plain d && plains ds) = true
      rw [a1, b1]; rfl
    · show (PyData.canLay0 (toPy d) && PyData.canLayAll0 (toPys ds)) = true
      rw [a2, b2]; rfl
    · show (PyData.showable (toPy d) && PyData.showableAll (toPys ds)) = true
      rw [a3, b3]; rfl
    · show (PyData.hasDict (toPy d) || PyData.hasDictAll (toPys ds)) = false
      rw [a4, b4]; rfl
    · show (PyData.intsShort 13 (toPy d) && PyData.intsShortAll 13 (toPys ds)) = true
      rw [a5, b5]; rfl
end
def dep (d : Dat) : Nat := (toPy d).depth
def wgt (d : Dat) : Nat := (toPy d).weight
theorem shape_of {d : Dat} (h : fine d = true) (hd : dep d ≤ 64) : SeqAt.shaped (toPy d) = true := by
  unfold SeqAt.shaped
  rw [(fine_all d h).2.1]
  exact decide_eq_true hd
theorem reprOk_of {d : Dat} (h : fine d = true) (hd : dep d ≤ 64) (hw : wgt d ≤ 2 ^ 20) : reprOk d = true := by
  obtain ⟨h1, h2, h3, h4, h5⟩ := fine_all d h
  have h6 : (toPy d).layable0 = true := by
    unfold PyData.layable0
    rw [h2, decide_eq_true (show (toPy d).depth ≤ 64 from hd), decide_eq_true (show (toPy d).weight ≤ 2 ^ 20 from hw)]; rfl
  unfold reprOk
  rw [h1, h6, h3, h4, h5]; rfl
def deps : List Dat → Nat := fun ds => PyData.depthAll (toPys ds)
def wgts : List Dat → Nat := fun ds => PyData.weightAll (toPys ds)
section
variable {α : Type} {f : α → Dat} {l : List α} {b : Nat}
theorem fines_map : ∀ {l : List α}, (∀ a ∈ l, fine (f a) = true) → fines (l.map f) = true
  | [], _ => rfl
  | a :: l, h => by
    show (fine (f a) && fines (l.map f)) = true
    rw [h a List.mem_cons_self, fines_map fun c hc => h c (List.mem_cons_of_mem a hc)]; rfl
theorem deps_map : ∀ {l : List α}, (∀ a ∈ l, dep (f a) ≤ b) → deps (l.map f) ≤ b
  | [], _ => Nat.zero_le _
  | a :: l, h => Nat.max_le.mpr ⟨h a List.mem_cons_self, deps_map fun c hc => h c (List.mem_cons_of_mem a hc)⟩
theorem wgts_map : ∀ {l : List α}, (∀ a ∈ l, wgt (f a) ≤ b) → wgts (l.map f) ≤ l.length * (b + 1)
  | [], _ => Nat.zero_le _
  | a :: l, h => by
    have h1 := h a List.mem_cons_self
    have h2 := wgts_map (l := l) fun c hc => h c (List.mem_cons_of_mem a hc)
    show wgt (f a) + 1 + wgts (l.map f) ≤ (l.length + 1) * (b + 1)
    rw [Nat.succ_mul]
    omega
end
theorem dep_lst {ds : List Dat} : dep (.lst ds) = deps ds + 1 := rfl
theorem dep_tup {ds : List Dat} : dep (.tup ds) = deps ds + 1 := rfl
theorem wgt_lst {ds : List Dat} : wgt (.lst ds) = wgts ds := rfl
theorem wgt_tup {ds : List Dat} : wgt (.tup ds) = wgts ds := rfl
theorem eqD_nil (ds : List Dat) : eqD (.lst ds) (.lst []) = ds.isEmpty := by
  cases ds <;> rfl
/-! numbers that are small enough to be shown -/
theorem fine_nat {m : Int} (h0 : 0 ≤ m) (h : m < 10 ^ 12) : fine (.int m) = true := by
  have h1 : (PyData.shown (.int m)).length ≤ 13 := by
    have := PyProof.Rows.toString_length_le (v := m) (k := 12) h0 (by decide) h
    exact Nat.le_trans this (by decide)
  have h2 : m.natAbs.log2 < 1920 := by
    by_cases hz : m.natAbs = 0
    · rw [hz]; decide
    · rw [Nat.log2_lt hz]
      have e : m.natAbs < 10 ^ 12 := by omega
      exact Nat.lt_of_lt_of_le e (by decide +kernel)
  show (decide _ && decide _) = true
  rw [decide_eq_true h1, decide_eq_true h2]; rfl
theorem wgt_nat {m : Int} (h0 : 0 ≤ m) (h : m < 10 ^ 12) : wgt (.int m) ≤ 41 := by
  show (if m == 0 then 0 else m.natAbs.log2 + 1) ≤ 41
  split
  · exact Nat.zero_le _
  · rename_i hm
    have hz : m.natAbs ≠ 0 := fun e => hm (by rw [show m = 0 by omega]; rfl)
    have h2 : m.natAbs.log2 < 40 := by
      rw [Nat.log2_lt hz]
      have e : m.natAbs < 10 ^ 12 := by omega
      exact Nat.lt_of_lt_of_le e (by decide +kernel)
    omega
/-! ### small signs -/
def sml (z : Str) : Prop := ∀ c ∈ sgs z, c < 0x110000
theorem sml_b {z : Str} (h : sml z) : smlB z = true := by
  unfold smlB
  rw [Array.all_eq_true_iff_forall_mem]
  exact fun c hc => decide_eq_true (h c (Array.mem_toList_iff.mpr hc))
theorem sml_app {y z : Str} (h : sml y) (h' : sml z) : sml (y ++ z) := fun c hc => by
  rw [sgs_app] at hc
  exact (List.mem_append.mp hc).elim (h c) (h' c)
theorem sgs_cut (z : Str) (lo hi : Option Int) : sgs (cutS z lo hi) = cutD (sgs z) lo hi := by
  show (z.cps.toList.drop (HT.sIx z.length 0 lo)).take (HT.sIx z.length z.length hi - HT.sIx z.length 0 lo) = _
  unfold cutD
  rw [← sgs_len]
  rfl
theorem cut_mem {α : Type} {l : List α} {lo hi : Option Int} {c : α} (h : c ∈ cutD l lo hi) : c ∈ l := List.mem_of_mem_drop (List.mem_of_mem_take h)
theorem cut_len {α : Type} {l : List α} {lo hi : Option Int} : (cutD l lo hi).length ≤ l.length := by
  unfold cutD
  rw [List.length_take, List.length_drop]
  omega
theorem sml_cut {z : Str} {lo hi : Option Int} (h : sml z) : sml (cutS z lo hi) := fun c hc => by
  rw [sgs_cut] at hc
  exact h c (cut_mem hc)
theorem cutS_len {z : Str} {lo hi : Option Int} : (cutS z lo hi).length ≤ z.length := by
  rw [sgs_len, sgs_cut, sgs_len]
  exact cut_len
theorem mem_joined {y : Str} {c : Nat} : ∀ {ws : List Str}, c ∈ sgs (Txt.join y ws) ↔ (∃ z ∈ ws, c ∈ sgs z) ∨ (2 ≤ ws.length ∧ c ∈ sgs y) := by
  intro ws
  rw [TL.join_eq]
  induction ws with
  | nil =>
    constructor
    · intro h; cases h
    · rintro (⟨z, hz, _⟩ | ⟨h, _⟩)
      · cases hz
      · exact absurd h (by decide)
  | cons a r ih =>
    cases r with
    | nil =>
      constructor
      · intro h; exact .inl ⟨a, List.mem_cons_self, h⟩
      · rintro (⟨z, hz, h⟩ | ⟨h, _⟩)
        · rw [List.mem_singleton.mp hz] at h; exact h
        · exact absurd h (show ¬ 2 ≤ 1 by decide)
    | cons b r =>
      have e : sgs (Str.join y (a :: b :: r)) = sgs a ++ sgs y ++ sgs (Str.join y (b :: r)) := by
        show sgs (a ++ y ++ Str.join y (b :: r)) = _
        rw [sgs_app, sgs_app]
      rw [e]
      constructor
      · intro h
        rcases List.mem_append.mp h with h | h
        · rcases List.mem_append.mp h with h | h
          · exact .inl ⟨a, List.mem_cons_self, h⟩
          · exact .inr ⟨by rw [List.length_cons, List.length_cons]; omega, h⟩
        · rcases ih.mp h with ⟨z, hz, h⟩ | ⟨_, h⟩
          · exact .inl ⟨z, List.mem_cons_of_mem _ hz, h⟩
          · exact .inr ⟨by rw [List.length_cons, List.length_cons]; omega, h⟩
      · rintro (⟨z, hz, h⟩ | ⟨_, h⟩)
        · rcases List.mem_cons.mp hz with rfl | hz
          · exact List.mem_append.mpr (.inl (List.mem_append.mpr (.inl h)))
          · exact List.mem_append.mpr (.inr (ih.mpr (.inl ⟨z, hz, h⟩)))
        · exact List.mem_append.mpr (.inl (List.mem_append.mpr (.inr h)))
theorem sml_word {z x : Str} (h : sml z) (hw : x ∈ Txt.split z " ") : sml x := fun c hc => by
  refine h c ?_
  rw [← join_split z " " (by decide +kernel)]
  exact mem_joined.mpr (.inl ⟨x, hw, hc⟩)
theorem sml_join {ws : List Str} (h : ∀ x ∈ ws, sml x) : sml (Txt.join " " ws) := fun c hc => by
  rcases mem_joined.mp hc with ⟨x, hx, h1⟩ | ⟨_, h1⟩
  · exact h x hx c h1
  · have e : sgs (Str.ofString " ") = [32] := by decide +kernel
    rw [e] at h1
    rw [List.mem_singleton.mp h1]
    decide
/-- joined by blanks: at most this long -/
theorem join_le {ws : List Str} : (Txt.join " " ws).length ≤ (ws.map (·.length)).sum + ws.length := by
  cases ws with
  | nil => exact Nat.zero_le _
  | cons a r =>
    have h := join_len " " (a :: r) (List.cons_ne_nil _ _)
    rw [sp1, Nat.mul_one] at h
    omega
/-! ### find and partition alike -/
theorem find_whole (x y : Str) : (Txt.find x y = -1 ∧ ∀ i, ¬ StrLaws.At x y x.length i) ∨ ∃ i : Nat, Txt.find x y = (i : Int) ∧ StrLaws.At x y x.length i ∧ ∀ k, k < i → ¬ StrLaws.At x y x.length k := by
  unfold Txt.find
  rcases StrLaws.occ_head x y 1 (Nat.le_refl 1) with ⟨h0, hn⟩ | ⟨i, r, h0, hi, hn⟩
  · rw [h0]; exact .inl ⟨rfl, hn⟩
  · rw [h0]; exact .inr ⟨i, rfl, hi, hn⟩
/-- a text cut at its first y, both ways -/
theorem cut_at (x y : Str) : (Txt.find x y = -1 ∧ Txt.partition x y = (x, Str.empty, Str.empty)) ∨ ∃ i : Nat, Txt.find x y = (i : Int) ∧ Txt.partition x y = (cutS x none (some (i : Int)), y, cutS x (some ((i : Int) + (y.length : Int))) none) := by
  rcases find_whole x y with ⟨e, hn⟩ | ⟨i, e, hi, hn⟩
  · rcases PyProof.Rows.partition_whole x y with ⟨e2, _⟩ | ⟨j, _, hj, _⟩
    · exact .inl ⟨e, e2⟩
    · exact absurd hj (hn j)
  · rcases PyProof.Rows.partition_whole x y with ⟨_, hn2⟩ | ⟨j, e2, hj, hn2⟩
    · exact absurd hi (hn2 i)
    · have hij : i = j := by
        rcases Nat.lt_trichotomy i j with h | h | h
        · exact absurd hi (hn2 i h)
        · exact h
        · exact absurd hj (hn j h)
      subst hij
      refine .inr ⟨i, e, ?_⟩
      have hb : i + y.length ≤ x.length := hi.1
      rw [e2]
      have e3 : Builtin.Str.strSub x 0 i = cutS x none (some (i : Int)) := TL.ext_tl (by
        rw [TL.tl_strSub]
        show _ = sgs (cutS x none (some (i : Int)))
        rw [sgs_cut, cut_take (by omega), Int.toNat_natCast, List.drop_zero, Nat.sub_zero]
        rfl)
      have e4 : Builtin.Str.strSub x (i + y.length) x.length = cutS x (some ((i : Int) + (y.length : Int))) none := TL.ext_tl (by
        rw [TL.tl_strSub_end]
        show _ = sgs (cutS x (some ((i : Int) + (y.length : Int))) none)
        rw [sgs_cut, cut_drop (by omega), show ((i : Int) + (y.length : Int)).toNat = i + y.length by omega]
        rfl)
      rw [e3, e4]
end Kn
namespace Lw
open PySem PySem.Spec PyProof.Rows
open L2 hiding St
open Kn
def topS (i : Nat) : Stmt := PySem.Challenge.pw_keptnomore_k02_words_of_events.main.body.getD i (.Pass ⟨0, 0, 0, 0⟩)
abbrev s_split_words : Stmt := topS 4
abbrev N_split_words : List Str := ["row"]
theorem sc_split_words : FnScope ["row"] ["row"] (defScope s_split_words) := ⟨rfl, rfl, rfl, by decide +kernel, rfl, by decide +kernel, by decide +kernel⟩
abbrev s_is_made_of : Stmt := topS 5
abbrev N_is_made_of : List Str := ["value", "letters", "most", "sign"]
theorem sc_is_made_of : FnScope ["value", "letters", "most", "sign"] ["value", "letters", "most"] (defScope s_is_made_of) := ⟨rfl, rfl, rfl, by decide +kernel, rfl, by decide +kernel, by decide +kernel⟩
abbrev s_is_name : Stmt := topS 6
abbrev N_is_name : List Str := ["value"]
theorem sc_is_name : FnScope ["value"] ["value"] (defScope s_is_name) := ⟨rfl, rfl, rfl, by decide +kernel, rfl, by decide +kernel, by decide +kernel⟩
abbrev s_is_figure : Stmt := topS 7
abbrev N_is_figure : List Str := ["value"]
theorem sc_is_figure : FnScope ["value"] ["value"] (defScope s_is_figure) := ⟨rfl, rfl, rfl, by decide +kernel, rfl, by decide +kernel, by decide +kernel⟩
abbrev s_own_copy : Stmt := topS 8
abbrev N_own_copy : List Str := ["value", "one"]
theorem sc_own_copy : FnScope ["value", "one"] ["value"] (defScope s_own_copy) := ⟨rfl, rfl, rfl, by decide +kernel, rfl, by decide +kernel, by decide +kernel⟩
abbrev s_NoTree_init : Stmt := inClass (topS 11) 0
abbrev N_NoTree_init : List Str := ["self", "at"]
theorem sc_NoTree_init : FnScope ["self", "at"] ["self", "at"] (defScope s_NoTree_init) := ⟨rfl, rfl, rfl, by decide +kernel, rfl, by decide +kernel, by decide +kernel⟩
abbrev s_event_of : Stmt := topS 13
abbrev N_event_of : List Str := ["word", "name", "colon", "mark"]
theorem sc_event_of : FnScope ["word", "name", "colon", "mark"] ["word"] (defScope s_event_of) := ⟨rfl, rfl, rfl, by decide +kernel, rfl, by decide +kernel, by decide +kernel⟩
abbrev s_words_of : Stmt := topS 14
abbrev N_words_of : List Str := ["events", "event"]
theorem sc_words_of : FnScope ["events", "event"] ["events"] (defScope s_words_of) := ⟨rfl, rfl, rfl, by decide +kernel, rfl, by decide +kernel, by decide +kernel⟩
abbrev s_events_of : Stmt := topS 15
abbrev N_events_of : List Str := ["text", "found", "at", "word", "event"]
theorem sc_events_of : FnScope ["text", "found", "at", "word", "event"] ["text"] (defScope s_events_of) := ⟨rfl, rfl, rfl, by decide +kernel, rfl, by decide +kernel, by decide +kernel⟩
abbrev s_law_box : Stmt := topS 17
abbrev N_law_box : List Str := ["_law_script", "_law_k", "_law_own", "_law_cell", "_law_seed"]
theorem sc_law_box : FnScope ["_law_script", "_law_k", "_law_own", "_law_cell", "_law_seed"] ["_law_script", "_law_k", "_law_own"] (defScope s_law_box) := ⟨rfl, rfl, rfl, by decide +kernel, rfl, by decide +kernel, by decide +kernel⟩
abbrev s_law_take : Stmt := topS 18
abbrev N_law_take : List Str := ["_law_box_here", "_law_many", "_law_digit", "_law_raw", "_law_wide"]
theorem sc_law_take : FnScope ["_law_box_here", "_law_many", "_law_digit", "_law_raw", "_law_wide"] ["_law_box_here", "_law_many"] (defScope s_law_take) := ⟨rfl, rfl, rfl, by decide +kernel, rfl, by decide +kernel, by decide +kernel⟩
abbrev s_law_mixed : Stmt := topS 19
abbrev N_law_mixed : List Str := ["_law_box_here", "_law_items", "_law_left", "_law_found", "_law_turn"]
theorem sc_law_mixed : FnScope ["_law_box_here", "_law_items", "_law_left", "_law_found", "_law_turn"] ["_law_box_here", "_law_items"] (defScope s_law_mixed) := ⟨rfl, rfl, rfl, by decide +kernel, rfl, by decide +kernel, by decide +kernel⟩
abbrev s_law_names : Stmt := topS 20
abbrev N_law_names : List Str := ["_law_box_here", "_law_many", "_law_letters", "_law_first", "_law_form", "_law_found", "_law_k"]
theorem sc_law_names : FnScope ["_law_box_here", "_law_many", "_law_letters", "_law_first", "_law_form", "_law_found", "_law_k"] ["_law_box_here", "_law_many"] (defScope s_law_names) := ⟨rfl, rfl, rfl, by decide +kernel, rfl, by decide +kernel, by decide +kernel⟩
abbrev s_law_text : Stmt := topS 21
abbrev N_law_text : List Str := ["_law_events", "_law_event_here"]
theorem sc_law_text : FnScope ["_law_events", "_law_event_here"] ["_law_events"] (defScope s_law_text) := ⟨rfl, rfl, rfl, by decide +kernel, rfl, by decide +kernel, by decide +kernel⟩
abbrev s_law_row : Stmt := topS 22
abbrev N_law_row : List Str := ["_law_box_here", "_law_names_here", "_law_found", "_law_turn", "_law_mark", "_law_event_here"]
theorem sc_law_row : FnScope ["_law_box_here", "_law_names_here", "_law_found", "_law_turn", "_law_mark", "_law_event_here"] ["_law_box_here", "_law_names_here"] (defScope s_law_row) := ⟨rfl, rfl, rfl, by decide +kernel, rfl, by decide +kernel, by decide +kernel⟩
abbrev s_law_is_name : Stmt := topS 23
abbrev N_law_is_name : List Str := ["_law_word", "_law_letters", "_law_sign"]
theorem sc_law_is_name : FnScope ["_law_word", "_law_letters", "_law_sign"] ["_law_word"] (defScope s_law_is_name) := ⟨rfl, rfl, rfl, by decide +kernel, rfl, by decide +kernel, by decide +kernel⟩
abbrev s_law_is_figure : Stmt := topS 24
abbrev N_law_is_figure : List Str := ["_law_word", "_law_sign"]
theorem sc_law_is_figure : FnScope ["_law_word", "_law_sign"] ["_law_word"] (defScope s_law_is_figure) := ⟨rfl, rfl, rfl, by decide +kernel, rfl, by decide +kernel, by decide +kernel⟩
abbrev s_law_event : Stmt := topS 25
abbrev N_law_event : List Str := ["_law_word", "_law_spot"]
theorem sc_law_event : FnScope ["_law_word", "_law_spot"] ["_law_word"] (defScope s_law_event) := ⟨rfl, rfl, rfl, by decide +kernel, rfl, by decide +kernel, by decide +kernel⟩
abbrev s_law_due : Stmt := topS 26
abbrev N_law_due : List Str := ["_law_text_here", "_law_found", "_law_word"]
theorem sc_law_due : FnScope ["_law_text_here", "_law_found", "_law_word"] ["_law_text_here"] (defScope s_law_due) := ⟨rfl, rfl, rfl, by decide +kernel, rfl, by decide +kernel, by decide +kernel⟩
abbrev s_law_is_great : Stmt := topS 27
abbrev N_law_is_great : List Str := ["_law_text_here", "_law_marks", "_law_word", "_law_mark"]
theorem sc_law_is_great : FnScope ["_law_text_here", "_law_marks", "_law_word", "_law_mark"] ["_law_text_here"] (defScope s_law_is_great) := ⟨rfl, rfl, rfl, by decide +kernel, rfl, by decide +kernel, by decide +kernel⟩
abbrev s_law_heard : Stmt := topS 28
abbrev N_law_heard : List Str := ["_law_text_here", "_law_found", "e"]
theorem sc_law_heard : FnScope ["_law_text_here", "_law_found", "e"] ["_law_text_here"] (defScope s_law_heard) := ⟨rfl, rfl, rfl, by decide +kernel, rfl, by decide +kernel, by decide +kernel⟩
abbrev s_law_spoilt : Stmt := topS 29
abbrev N_law_spoilt : List Str := ["_law_box_here", "_law_text_here", "_law_words", "_law_form", "_law_at", "_law_some", "_law_spot", "_law_sign"]
theorem sc_law_spoilt : FnScope ["_law_box_here", "_law_text_here", "_law_words", "_law_form", "_law_at", "_law_some", "_law_spot", "_law_sign"] ["_law_box_here", "_law_text_here"] (defScope s_law_spoilt) := ⟨rfl, rfl, rfl, by decide +kernel, rfl, by decide +kernel, by decide +kernel⟩
abbrev s_law : Stmt := topS 30
abbrev N_law : List Str := ["_law_script", "_law_k", "_law_box_here", "_law_names_here", "_law_turn", "_law_row_here", "_law_text_here", "_law_found", "_law_more"]
theorem sc_law : FnScope ["_law_script", "_law_k", "_law_box_here", "_law_names_here", "_law_turn", "_law_row_here", "_law_text_here", "_law_found", "_law_more"] ["_law_script"] (defScope s_law) := ⟨rfl, rfl, rfl, by decide +kernel, rfl, by decide +kernel, by decide +kernel⟩
def k_NAME_LETTERS : Str := ltrs
def k_DIGITS : Str := digs
def k_TAKEN : List Str := takenW
structure Facts (K : PySem.W.Frag) : Prop where
  n_isinstance : PySem.W.nsIn K mainGlobals "isinstance" = some none
  n_list : PySem.W.nsIn K mainGlobals "list" = some none
  n_enumerate : PySem.W.nsIn K mainGlobals "enumerate" = some none
  n_range : PySem.W.nsIn K mainGlobals "range" = some none
  n_str : PySem.W.nsIn K mainGlobals "str" = some none
  n_all : PySem.W.nsIn K mainGlobals "all" = some none
  n_tuple : PySem.W.nsIn K mainGlobals "tuple" = some none
  n_len : PySem.W.nsIn K mainGlobals "len" = some none
  n_abs : PySem.W.nsIn K mainGlobals "abs" = some none
  n_int : PySem.W.nsIn K mainGlobals "int" = some none
  n_max : PySem.W.nsIn K mainGlobals "max" = some none
  n_min : PySem.W.nsIn K mainGlobals "min" = some none
  n_repr : PySem.W.nsIn K mainGlobals "repr" = some none
  d_split_words : DefIn K "split_words" s_split_words
  d_is_made_of : DefIn K "is_made_of" s_is_made_of
  d_is_name : DefIn K "is_name" s_is_name
  d_is_figure : DefIn K "is_figure" s_is_figure
  d_own_copy : DefIn K "own_copy" s_own_copy
  d_event_of : DefIn K "event_of" s_event_of
  d_words_of : DefIn K "words_of" s_words_of
  d_events_of : DefIn K "events_of" s_events_of
  d_law_box : DefIn K "_law_box" s_law_box
  d_law_take : DefIn K "_law_take" s_law_take
  d_law_mixed : DefIn K "_law_mixed" s_law_mixed
  d_law_names : DefIn K "_law_names" s_law_names
  d_law_text : DefIn K "_law_text" s_law_text
  d_law_row : DefIn K "_law_row" s_law_row
  d_law_is_name : DefIn K "_law_is_name" s_law_is_name
  d_law_is_figure : DefIn K "_law_is_figure" s_law_is_figure
  d_law_event : DefIn K "_law_event" s_law_event
  d_law_due : DefIn K "_law_due" s_law_due
  d_law_is_great : DefIn K "_law_is_great" s_law_is_great
  d_law_heard : DefIn K "_law_heard" s_law_heard
  d_law_spoilt : DefIn K "_law_spoilt" s_law_spoilt
  d_law : DefIn K "law" s_law
  g_NAME_LETTERS : TextIn K "NAME_LETTERS" k_NAME_LETTERS
  g_DIGITS : TextIn K "DIGITS" k_DIGITS
  g_TAKEN : TextsIn K "TAKEN" k_TAKEN
  x_NoTree : ∃ C B, ExcIn K "NoTree" "NoTree.__init__" "KeptError" s_NoTree_init C B ∧ PySem.W.findIn K (.ref C) "at" = some none
local macro_rules | `(tactic| walk_at "side") => `(tactic| first | rfl | decide | assumption | omega | (constructor <;> first | decide | omega) | (refine ⟨?_, ?_, ?_⟩ <;> first | decide | omega))
local macro_rules | `(tactic| walk_at "cell") => `(tactic| first | exact up_at | assumption | (rw [up_ne (by assumption)]; first | exact up_at | assumption) | (rw [up_ne (Ne.symm (by assumption))]; first | exact up_at | assumption))
local macro_rules | `(tactic| walk_at "ty") => `(tactic| first | exact rfl | exact ⟨rfl, _, by walk_at "cell"⟩)
local macro_rules | `(tactic| walk_at "ix") => `(tactic| first | refine ix_own (by walk_at "cell") (by rfl) ?_ | refine ix_lst (by rfl) ?_ | refine ix_tpl (by rfl) ?_ | refine ix_fro (by rfl) ?_)
local macro_rules | `(tactic| walk_at "op add") => `(tactic| first | refine ob_add ?_ | refine ob_cat (by walk_at "side") ?_ | refine ob_catL (by walk_at "side") ?_ | refine ob_catT (by walk_at "side") ?_)
local macro_rules | `(tactic| walk_at "op sub") => `(tactic| refine ob_sub ?_)
local macro_rules | `(tactic| walk_at "op mul") => `(tactic| first | refine ob_mul (.inr (by decide)) ?_ | refine ob_mul (.inl (by decide)) ?_ | refine ob_mul (.inl (by constructor <;> omega)) ?_ | refine ob_mul (.inr (by constructor <;> omega)) ?_ | refine ob_rep (by walk_at "side") (by walk_at "side") ?_ | refine ob_times (by walk_at "side") (by walk_at "side") ?_)
local macro_rules | `(tactic| walk_at "op mod") => `(tactic| refine ob_mod (by first | decide | omega) ?_)
local macro_rules | `(tactic| walk_at "op fdiv") => `(tactic| refine ob_fdiv (by first | decide | omega) ?_)
local macro_rules | `(tactic| walk_at "op pow") => `(tactic| refine ob_pow (by first | decide | (refine ⟨by decide, by decide, by omega⟩)) ?_)
local macro_rules | `(tactic| walk_at "cmp Gt") => `(tactic| refine ob_gt ?_)
local macro_rules | `(tactic| walk_at "cmp Lt") => `(tactic| refine ob_lt ?_)
local macro_rules | `(tactic| walk_at "cmp GtE") => `(tactic| refine ob_ge ?_)
local macro_rules | `(tactic| walk_at "cmp LtE") => `(tactic| refine ob_le ?_)
local macro_rules | `(tactic| walk_at "cmp Eq") => `(tactic| first | refine ob_eqI ?_ | refine ob_eqS ?_ | refine ob_eqB ?_)
local macro_rules | `(tactic| walk_at "cmp NotEq") => `(tactic| first | refine ob_neI ?_ | refine ob_neS ?_)
local macro_rules | `(tactic| walk_at "cmp Is") => `(tactic| refine ob_isN ?_)
local macro_rules | `(tactic| walk_at "cmp IsNot") => `(tactic| refine ob_isNotN ?_)
local macro_rules | `(tactic| walk_at "cmp In") => `(tactic| first | refine ob_inS ?_ | refine ob_inT ?_ | refine ob_inL ?_)
local macro_rules | `(tactic| walk_at "cmp NotIn") => `(tactic| first | refine ob_niS ?_ | refine ob_niT ?_ | refine ob_niL ?_)
local macro_rules | `(tactic| walk_at "cb len") => `(tactic| first | refine cb_lenL ?_ | refine cb_lenT ?_ | refine cb_lenF ?_ | refine cb_lenO (by walk_at "cell") ?_ | refine cb_lenS (by walk_at "side") ?_)
local macro_rules | `(tactic| walk_at "cb abs") => `(tactic| refine cb_abs ?_)
local macro_rules | `(tactic| walk_at "cb int") => `(tactic| refine cb_intB ?_)
local macro_rules | `(tactic| walk_at "cb max") => `(tactic| refine cb_max rfl ?_)
local macro_rules | `(tactic| walk_at "cb min") => `(tactic| refine cb_min rfl ?_)
local macro_rules | `(tactic| walk_at "cb str") => `(tactic| first | refine cb_strS ?_ | refine cb_strI (by walk_at "side") ?_)
local macro_rules | `(tactic| walk_at "cb tuple") => `(tactic| first | refine cb_tupL ?_ | refine cb_tupT ?_)
local macro_rules | `(tactic| walk_at "cb list") => `(tactic| first | refine cb_listL fun p hp => ?_ | refine cb_listT fun p hp => ?_)
local macro_rules | `(tactic| walk_at "m1 split") => `(tactic| refine m1_split (by first | rfl | decide) (by walk_at "side") ?_)
local macro_rules | `(tactic| walk_at "m1 partition") => `(tactic| refine m1_partition (by first | rfl | decide) (by walk_at "side") ?_)
local macro_rules | `(tactic| walk_at "m1 find") => `(tactic| refine m1_find ?_)
local macro_rules | `(tactic| walk_at "mb append") => `(tactic| refine mb_append (by walk_at "cell") (by walk_at "side") ?_)
local macro_rules | `(tactic| walk_at "b1") => `(tactic| exact fun _ _ _ _ _ _ us hl => match us, hl with | [_], _ => rfl)
local macro_rules | `(tactic| walk_at "b2") => `(tactic| exact fun _ _ _ _ _ _ us hl => match us, hl with | [_, _], _ => rfl)
local macro_rules | `(tactic| walk_at "b3") => `(tactic| exact fun _ _ _ _ _ _ us hl => match us, hl with | [_, _, _], _ => rfl)
local macro_rules | `(tactic| walk_at "b4") => `(tactic| exact fun _ _ _ _ _ _ us hl => match us, hl with | [_, _, _, _], _ => rfl)
local macro_rules | `(tactic| walk_at "blk") => `(tactic| first | exact ⟨rfl, by decide +kernel, by decide +kernel, by decide +kernel, by decide +kernel⟩ | (constructor <;> first | rfl | decide +kernel))
local macro_rules | `(tactic| walk_at "few") => `(tactic| first | decide | exact Nat.le_of_ble_eq_true rfl)
local macro_rules | `(tactic| walk_at "own") => `(tactic| (funext z_; simp only [Kn.up, Kn.dn]; (repeat' split) <;> first | rfl | (subst_vars; first | rfl | contradiction) | simp_all))
section
variable {P : Program} {w : World} {K : PySem.W.Frag} {mg : Str → Option Value} {base : Heap}
theorem fn_split_words (T : TopOf K mg) (Z : Facts K) {f : Addr} {fd : FuncData} (F : L2.Fun K "split_words" "split_words" s_split_words f fd) : Fn P w K mg base false 1 f fd ["row"] SplitS := by
  have sc := sc_split_words
  refine fn_mk F sc_split_words (fun ss O R h => by obtain ⟨z, rfl, _⟩ := h; rfl) fun cdv A outer s H E ss O R hr hpo h => ?_
  obtain ⟨z, rfl, hz, h⟩ := h
  refine sw_one ?_
  refine s1_ret ?_
  refine ew_if ?_
  refine tw_cmp ?_
  refine ew_var 0 ?_
  refine ew_str ?_
  walk_at "cmp NotEq"
  refine ⟨_, rfl, fun ht => ?_, fun ht => ?_⟩
  · refine ew_split ?_
    refine ew_var 0 ?_
    refine ⟨_, rfl, ?_⟩
    refine ew_str ?_
    refine m1_split (by decide +kernel) (Nat.le_trans (Nat.add_le_add_right hz 2) (by decide)) ?_
    have e : wordsS z = Txt.split z " " := if_neg (by simpa using ht)
    rw [← e]
    exact h
  · refine ew_lstD ?_
    refine aw_nil ?_
    refine ⟨[], rfl, by decide, ?_⟩
    have e : wordsS z = [] := if_pos (by simpa using ht)
    rw [e] at h
    exact h
theorem c_split_words (T : TopOf K mg) (Z : Facts K) : Cal P w K mg base false 1 "split_words" SplitS [] := cal_of T Z.d_split_words (by walk_at "b1") fun f fd F => fn_split_words T Z F
theorem fn_is_made_of (T : TopOf K mg) (Z : Facts K) {f : Addr} {fd : FuncData} (F : L2.Fun K "is_made_of" "is_made_of" s_is_made_of f fd) : Fn P w K mg base false 1 f fd ["value", "letters", "most"] MadeS := by
  have sc := sc_is_made_of
  refine fn_mk F sc_is_made_of (fun ss O R h => by obtain ⟨z, _, _, rfl, _⟩ := h; rfl) fun cdv A outer s H E ss O R hr hpo h => ?_
  obtain ⟨d, L, m, rfl, hd, h⟩ := h
  refine sw_one ?_
  refine s1_ret ?_
  refine ew_and ?_
  refine ew_callB (T.no Z.n_isinstance) bt_isinstance ?_
  refine aw_cons ?_
  refine ew_var 0 ?_
  refine aw_cons ?_
  refine ew_bltn (T.no Z.n_str) bt_str ?_
  refine aw_nil ?_
  refine cb_isTy (kit_str hd.1) ?_ hd.1
  refine ⟨_, rfl, fun hc => ?_, fun hc => ?_⟩
  · cases d with
    | str z =>
      have hz := hd.2 z rfl
      have hzl : z.length ≤ sizeLine := Nat.le_trans hz (by decide)
      refine ew_and ?_
      refine ew_chain ?_
      refine ew_int ?_
      refine ew_callB (T.no Z.n_len) bt_len ?_
      refine aw_cons ?_
      refine ew_var 0 ?_
      refine aw_nil ?_
      refine cb_lenS hzl ?_
      walk_at "cmp Lt"
      refine ⟨rfl, _, rfl, fun hc => ?_, fun hc => ?_⟩
      · refine ew_var 2 ?_
        walk_at "cmp LtE"
        refine ⟨_, rfl, fun hc2 => ?_, fun hc2 => ?_⟩
        · refine ew_one ?_
          refine ew_callB (T.no Z.n_all) bt_all ?_
          refine aw_cons ?_
          refine ew_map1 (sgs z) (fun c => .str ⟨#[c]⟩) (fun c => .bl (decide (c ∈ sgs L))) [("sign", 3)] sc.nd (.name (i := 3) (by decide) fun Y ⟨_, _, _, _, _, e⟩ => by subst e; exact pg_name (i := 3) sc.nd rfl (.inl rfl) (.inr rfl)) (blkOk_by (N := N_is_made_of) (sc := defScope s_is_made_of) (by decide +kernel)) (iw_str (ew_var 0 ⟨z, rfl, rfl, rfl⟩)) (by rw [← sgs_len]; exact hzl) (fun c hcm => ⟨_, rfl, fun O' Y hY => ?_⟩) ?_
          · obtain ⟨_, _, _, _, _, rfl⟩ := hY
            refine ew_cmp ?_
            refine ew_var 3 ?_
            refine ew_var 1 ?_
            walk_at "cmp In"
            exact ⟨rfl, rfl⟩
          · refine aw_nil ?_
            refine cb_allF rfl ?_
            have e : madeD (.str z) L m = (sgs z).all fun c => decide (c ∈ sgs L) := by
              have h1 : decide (0 < z.length) = true := by simpa using hc
              have h2 : decide (z.length ≤ m) = true := by simpa using hc2
              show (decide (0 < z.length) && (decide (z.length ≤ m) && _)) = _
              rw [h1, h2]; rfl
            rw [e] at h
            exact h
        · have e : madeD (.str z) L m = false := by
            have h2 : decide (z.length ≤ m) = false := by simpa using hc2
            show (decide (0 < z.length) && (decide (z.length ≤ m) && _)) = _
            rw [h2, Bool.false_and, Bool.and_false]
          rw [e] at h
          exact h
      · refine ⟨_, rfl, fun hc => ?_, fun hc2 => ?_⟩
        · exact absurd hc (by decide)
        · have e : madeD (.str z) L m = false := by
            have h2 : decide (0 < z.length) = false := by simpa using hc
            show (decide (0 < z.length) && (decide (z.length ≤ m) && _)) = _
            rw [h2, Bool.false_and]
          rw [e] at h
          exact h
    | _ => cases hc
  · cases d with
    | str z => cases hc
    | _ => exact h
theorem c_is_made_of (T : TopOf K mg) (Z : Facts K) : Cal P w K mg base false 1 "is_made_of" MadeS [] := cal_of T Z.d_is_made_of (by walk_at "b3") fun f fd F => fn_is_made_of T Z F
theorem fn_is_name (T : TopOf K mg) (Z : Facts K) {f : Addr} {fd : FuncData} (F : L2.Fun K "is_name" "is_name" s_is_name f fd) : Fn P w K mg base false 2 f fd ["value"] NameS := by
  have sc := sc_is_name
  refine fn_mk F sc_is_name (fun ss O R h => by obtain ⟨z, rfl, _⟩ := h; rfl) fun cdv A outer s H E ss O R hr hpo h => ?_
  obtain ⟨d, rfl, hd, h⟩ := h
  refine sw_one ?_
  refine s1_ret ?_
  refine ew_and ?_
  refine ew_call (c_is_made_of T Z) hr ?_
  refine aw_cons ?_
  refine ew_var 0 ?_
  refine aw_cons ?_
  refine ew_glob (Z.g_NAME_LETTERS.glob T) ?_
  refine aw_cons ?_
  refine ew_int ?_
  refine aw_nil ?_
  refine ⟨d, _, 8, rfl, hd, ?_⟩
  refine ⟨_, rfl, fun hc => ?_, fun hc => ?_⟩
  · cases d with
    | str z =>
      refine ew_one ?_
      refine ew_cmp ?_
      refine ew_var 0 ?_
      refine ew_glob (Z.g_TAKEN.glob T) ?_
      refine ob_niT (ws := takenW) ?_
      have e : isNmD (.str z) = !takenW.any (· == z) := by
        show (madeOf z ltrs 8 && _) = _
        rw [show madeOf z ltrs 8 = true from hc]; rfl
      rw [e] at h
      exact h
    | _ => cases hc
  · have e : isNmD d = false := by
      cases d with
      | str z =>
        show (madeOf z ltrs 8 && _) = _
        rw [show madeOf z ltrs 8 = false from hc]; rfl
      | _ => rfl
    rw [e] at h
    exact h
theorem c_is_name (T : TopOf K mg) (Z : Facts K) : Cal P w K mg base false 2 "is_name" NameS [] := cal_of T Z.d_is_name (by walk_at "b1") fun f fd F => fn_is_name T Z F
theorem fn_is_figure (T : TopOf K mg) (Z : Facts K) {f : Addr} {fd : FuncData} (F : L2.Fun K "is_figure" "is_figure" s_is_figure f fd) : Fn P w K mg base false 2 f fd ["value"] FigS := by
  have sc := sc_is_figure
  refine fn_mk F sc_is_figure (fun ss O R h => by obtain ⟨z, rfl, _⟩ := h; rfl) fun cdv A outer s H E ss O R hr hpo h => ?_
  obtain ⟨d, rfl, hd, h⟩ := h
  refine sw_one ?_
  refine s1_ret ?_
  refine ew_and ?_
  refine ew_call (c_is_made_of T Z) hr ?_
  refine aw_cons ?_
  refine ew_var 0 ?_
  refine aw_cons ?_
  refine ew_glob (Z.g_DIGITS.glob T) ?_
  refine aw_cons ?_
  refine ew_int ?_
  refine aw_nil ?_
  refine ⟨d, _, 12, rfl, hd, ?_⟩
  refine ⟨_, rfl, fun hc => ?_, fun hc => ?_⟩
  · cases d with
    | str z =>
      have hm : madeOf z digs 12 = true := hc
      have e : isFgD (.str z) = figL (sgs z) := by
        show (madeOf z digs 12 && _) = _
        rw [hm]; rfl
      rw [e] at h
      refine ew_one ?_
      refine ew_or ?_
      refine ew_cmp ?_
      refine ew_var 0 ?_
      refine ew_str ?_
      walk_at "cmp Eq"
      refine ⟨_, rfl, fun hc => ?_, fun hc => ?_⟩
      · have e : figL (sgs z) = true := fig_zero (of_decide_eq_true hc)
        rw [e] at h
        exact h
      · obtain ⟨c, hx, e2⟩ := fig_first hm (of_decide_eq_false hc)
        refine ew_one ?_
        refine ew_cmp ?_
        refine ew_ix ?_
        refine ew_var 0 ?_
        refine ew_int ?_
        refine ix_sgn (Nat.le_trans (hd.2 z rfl) (by decide)) hx ?_
        refine ew_str ?_
        walk_at "cmp NotEq"
        rw [e2] at h
        exact h
    | _ => cases hc
  · have e : isFgD d = false := by
      cases d with
      | str z =>
        show (madeOf z digs 12 && _) = _
        rw [show madeOf z digs 12 = false from hc]; rfl
      | _ => rfl
    rw [e] at h
    exact h
theorem c_is_figure (T : TopOf K mg) (Z : Facts K) : Cal P w K mg base false 2 "is_figure" FigS [] := cal_of T Z.d_is_figure (by walk_at "b1") fun f fd F => fn_is_figure T Z F
theorem fn_own_copy0 (T : TopOf K mg) (Z : Facts K) {f : Addr} {fd : FuncData} (F : L2.Fun K "own_copy" "own_copy" s_own_copy f fd) : Fn P w K mg base false 1 f fd ["value"] Own0S := by
  have sc := sc_own_copy
  refine fn_mk F sc_own_copy (fun ss O R h => by obtain ⟨z, rfl, _⟩ := h; rfl) fun cdv A outer s H E ss O R hr hpo h => ?_
  obtain ⟨d, rfl, hd, hl, hnt, h⟩ := h
  refine sw_cons ?_
  refine s1_if ?_
  refine tw_val ?_
  refine ew_callB (T.no Z.n_isinstance) bt_isinstance ?_
  refine aw_cons ?_
  refine ew_var 0 ?_
  refine aw_cons ?_
  refine ew_bltn (T.no Z.n_list) bt_list ?_
  refine aw_nil ?_
  refine cb_isTy (kit_lst hd) ?_ hd
  rw [hl]
  refine ⟨_, rfl, fun ht => ?_, fun ht => ?_⟩
  · cases ht
  · refine sw_nil ?_
    refine sw_one ?_
    refine s1_ret ?_
    refine ew_if ?_
    refine tw_val ?_
    refine ew_callB (T.no Z.n_isinstance) bt_isinstance ?_
    refine aw_cons ?_
    refine ew_var 0 ?_
    refine aw_cons ?_
    refine ew_bltn (T.no Z.n_tuple) bt_tuple ?_
    refine aw_nil ?_
    refine cb_isTy (kit_tup hd) ?_ hd
    rw [hnt]
    refine ⟨_, rfl, fun ht => ?_, fun ht => ?_⟩
    · cases ht
    · refine ew_var 0 ?_
      exact h
theorem c_own_copy0 (T : TopOf K mg) (Z : Facts K) : Cal P w K mg base false 1 "own_copy" Own0S [] := cal_of T Z.d_own_copy (by walk_at "b1") fun f fd F => fn_own_copy0 T Z F
/-- a scalar -/
def flatD (d : Dat) : Prop := tyName d ≠ "" ∧ isLstD d = false ∧ isTupD d = false
theorem fn_NoTree (T : TopOf K mg) (Z : Facts K) {C B : Addr} (X : ExcIn K "NoTree" "NoTree.__init__" "KeptError" s_NoTree_init C B) (nf : PySem.W.findIn K (.ref C) "at" = some none) {f : Addr} {fd : FuncData} (F : L2.Fun K "__init__" "NoTree.__init__" s_NoTree_init f fd) : Fn P w K mg base false 2 f fd ["self", "at"] (Ini1 flatD C "at") := by
  have sc := sc_NoTree_init
  refine fn_mk F sc_NoTree_init (fun ss O R h => by obtain ⟨a, d, rfl, _⟩ := h; rfl) fun cdv A outer s H E ss O R hr hpo h => ?_
  obtain ⟨a, d, rfl, hd, ha, h⟩ := h
  refine sw_cons ?_
  refine s1_expr ?_
  refine ew_kinit (X.ini T) ?_
  refine aw_cons ?_
  refine ew_var 0 ?_
  refine aw_cons ?_
  refine ew_str ?_
  refine aw_nil ?_
  refine ⟨a, C, _, rfl, by decide, X.a.oex, ha, ?_⟩
  refine sw_one ?_
  refine s1_ost ?_
  refine ew_call (c_own_copy0 T Z) hr ?_
  refine aw_cons ?_
  refine ew_var 1 ?_
  refine aw_nil ?_
  refine ⟨d, rfl, hd.1, hd.2.1, hd.2.2, ?_⟩
  refine ew_var 0 ?_
  exact ⟨a, C, rfl, X.a.oex, nf, .inl ⟨ha, fun dx nd => h dx nd⟩⟩
theorem xc_NoTree (T : TopOf K mg) (Z : Facts K) : ∃ C B, ExcIn K "NoTree" "NoTree.__init__" "KeptError" s_NoTree_init C B ∧ PySem.W.findIn K (.ref C) "at" = some none ∧ ExCls P w K mg base 2 "NoTree" C (Ini1 flatD C "at") := by
  obtain ⟨C, B, X, nf⟩ := Z.x_NoTree
  exact ⟨C, B, X, nf, xc_of T X (by walk_at "b2") fun f fd F => fn_NoTree T Z X nf F⟩
end
section
variable {P : Program} {w : World} {K : PySem.W.Frag} {mg : Str → Option Value} {base : Heap}
def EventS : SpecT := fun ss O R => ∃ z : Str, ss = [.dat (.str z)] ∧ z.length ≤ 100000 ∧ R (.ret (.dat (evR (evS z)))) O
theorem part_len {z : Str} : (Txt.partition z ":").1.length ≤ z.length ∧ (Txt.partition z ":").2.2.length ≤ z.length := by
  rcases PyProof.Rows.partition_whole z ":" with ⟨e, _⟩ | ⟨i, e, h, _⟩
  · rw [e]
    exact ⟨Nat.le_refl _, Nat.zero_le _⟩
  · rw [e]
    have h1 : i + (":" : Str).length ≤ z.length := h.1
    refine ⟨?_, ?_⟩
    · rw [sgs_len, sgs_len]
      show (TL.tl _).length ≤ _
      rw [TL.tl_strSub, List.drop_zero, List.length_take]
      exact Nat.min_le_right _ _
    · rw [sgs_len, sgs_len]
      show (TL.tl _).length ≤ _
      rw [TL.tl_strSub_end, List.length_drop]
      exact Nat.sub_le _ _
theorem evS_open {z : Str} (h0 : ¬ z = "/") (h1 : isNm (Txt.partition z ":").1 = true) (h2 : decide ((Txt.partition z ":").2.1 = "") = false) (h3 : isFg (Txt.partition z ":").2.2 = true) : evS z = some (some ((Txt.partition z ":").1, figV (Txt.partition z ":").2.2)) := by
  unfold evS
  rw [if_neg h0, h1, h2, h3]; rfl
theorem evS_none {z : Str} (h0 : ¬ z = "/") (h : (isNm (Txt.partition z ":").1 && (!decide ((Txt.partition z ":").2.1 = "") && isFg (Txt.partition z ":").2.2)) = false) : evS z = none := by
  unfold evS
  rw [if_neg h0, h]; rfl
theorem fn_event_of (T : TopOf K mg) (Z : Facts K) {f : Addr} {fd : FuncData} (F : L2.Fun K "event_of" "event_of" s_event_of f fd) : Fn P w K mg base false 3 f fd ["word"] EventS := by
  have sc := sc_event_of
  refine fn_mk F sc_event_of (fun ss O R h => by obtain ⟨z, rfl, _⟩ := h; rfl) fun cdv A outer s H E ss O R hr hpo h => ?_
  obtain ⟨z, rfl, hz, h⟩ := h
  obtain ⟨hz1, hz2⟩ := part_len (z := z)
  -- 0:word 1:name 2:colon 3:mark
  refine sw_cons ?_
  refine s1_if ?_
  refine tw_cmp ?_
  refine ew_var 0 ?_
  refine ew_str ?_
  walk_at "cmp Eq"
  refine ⟨_, rfl, fun ht => ?_, fun ht => ?_⟩
  · refine sw_one ?_
    refine s1_ret ?_
    refine ew_tup ?_
    refine aw_cons ?_
    refine ew_str ?_
    refine aw_nil ?_
    refine ⟨[_], rfl, by decide, ?_⟩
    have e : evS z = some none := if_pos (of_decide_eq_true ht)
    rw [e] at h
    exact h
  · have h0 : ¬ z = "/" := of_decide_eq_false ht
    refine sw_nil ?_
    refine sw_cons ?_
    refine s1_asg ?_
    refine ew_partition ?_
    refine ew_var 0 ?_
    refine ⟨_, rfl, ?_⟩
    refine ew_str ?_
    refine m1_partition (by decide +kernel) (Nat.le_trans hz (by decide)) ?_
    refine gw_tup ?_
    refine gsw_cons ?_
    refine gw_name 1 ?_ sc.nd
    refine gsw_cons ?_
    refine gw_name 2 ?_ sc.nd
    refine gsw_cons ?_
    refine gw_name 3 ?_ sc.nd
    refine gsw_nil ?_
    refine sw_one ?_
    refine s1_ret ?_
    refine ew_if ?_
    refine tw_w ?_
    refine tww_and ?_
    refine tw_val ?_
    refine ew_call (c_is_name T Z) hr ?_
    refine aw_cons ?_
    refine ew_var 1 ?_
    refine aw_nil ?_
    refine ⟨_, rfl, okD_str (Nat.le_trans hz1 hz), ?_⟩
    refine ⟨_, rfl, fun ht1 => ?_, fun ht1 => ?_⟩
    · refine tww_and ?_
      refine tw_cmp ?_
      refine ew_var 2 ?_
      refine ew_str ?_
      walk_at "cmp NotEq"
      refine ⟨_, rfl, fun ht2 => ?_, fun ht2 => ?_⟩
      · refine tww_and1 ?_
        refine tw_val ?_
        refine ew_call (c_is_figure T Z) hr ?_
        refine aw_cons ?_
        refine ew_var 3 ?_
        refine aw_nil ?_
        refine ⟨_, rfl, okD_str (Nat.le_trans hz2 hz), ?_⟩
        refine ⟨_, rfl, fun ht3 => ?_, fun ht3 => ?_⟩
        · have ht3 : isFg (Txt.partition z ":").2.2 = true := ht3
          obtain ⟨hi, hl⟩ := fig_int ht3
          refine ew_tup ?_
          refine aw_cons ?_
          refine ew_str ?_
          refine aw_cons ?_
          refine ew_var 1 ?_
          refine aw_cons ?_
          refine ew_callTy (T.no Z.n_int) bt_int ?_
          refine aw_cons ?_
          refine ew_var 3 ?_
          refine aw_nil ?_
          refine cb_intS hi (by omega) ?_
          refine aw_nil ?_
          refine ⟨[_, _, _], rfl, by walk_at "few", ?_⟩
          rw [evS_open h0 ht1 (by simpa using ht2) ht3] at h
          exact h
        · refine ew_non ?_
          have ht3 : isFg (Txt.partition z ":").2.2 = false := ht3
          rw [evS_none h0 (by rw [ht3, Bool.and_false, Bool.and_false])] at h
          exact h
      · refine ⟨fun hb => ?_, fun hb => ?_⟩
        · exact absurd hb (by decide)
        · refine ew_non ?_
          rw [evS_none h0 (by rw [ht2, Bool.false_and, Bool.and_false])] at h
          exact h
    · refine ⟨fun hb => ?_, fun hb => ?_⟩
      · exact absurd hb (by decide)
      · refine ew_non ?_
        have ht1 : isNm (Txt.partition z ":").1 = false := ht1
        rw [evS_none h0 (by rw [ht1, Bool.false_and])] at h
        exact h
theorem c_event_of (T : TopOf K mg) (Z : Facts K) : Cal P w K mg base false 3 "event_of" EventS [] := cal_of T Z.d_event_of (by walk_at "b1") fun f fd F => fn_event_of T Z F
/-! words_of -/
def WordsS : SpecT := fun ss O R => ∃ (es : List Ev) (d : Dat), ss = [.dat d] ∧ (d = .lst (es.map evD) ∨ d = .tup (es.map evD)) ∧ es.length ≤ 1000 ∧ (∀ e ∈ es, smallE e) ∧ R (.ret (.dat (.str (textE es)))) O
theorem num_log {m : Int} (h0 : 0 ≤ m) (h : m < 10 ^ 100) : m.natAbs.log2 < 1920 := by
  by_cases hz : m.natAbs = 0
  · rw [hz]; decide
  · rw [Nat.log2_lt hz]
    have e : m.natAbs < 10 ^ 100 := by omega
    exact Nat.lt_of_lt_of_le e (by decide +kernel)
theorem num_len {m : Int} (h0 : 0 ≤ m) (h : m < 10 ^ 100) : (Str.ofString (toString m)).length ≤ 100 := PyProof.Rows.toString_length_le h0 (by decide) h
theorem wordE_len {e : Ev} (h : smallE e) : (wordE e).length ≤ 201 := by
  cases e with
  | none => exact (show (Str.ofString "/").length ≤ 201 by decide +kernel)
  | some q =>
    obtain ⟨n, m⟩ := q
    obtain ⟨h1, h2, h3⟩ := h
    have h4 := num_len h2 h3
    show (n ++ Str.ofString ":" ++ Str.ofString (toString m)).length ≤ 201
    rw [len_app, len_app, show (Str.ofString ":").length = 1 by decide +kernel]
    omega
theorem sum_le {α : Type} {g : α → Nat} {b : Nat} : ∀ {l : List α}, (∀ a ∈ l, g a ≤ b) → (l.map g).sum ≤ l.length * b
  | [], _ => Nat.zero_le _
  | a :: l, h => by
    have h1 := h a List.mem_cons_self
    have h2 := sum_le fun c hc => h c (List.mem_cons_of_mem a hc)
    rw [List.map_cons, List.sum_cons, List.length_cons, Nat.succ_mul]
    omega
theorem empty_app {z : Str} : Str.empty ++ z = z := sgs_ext (by rw [sgs_app]; rfl)
theorem colon_len : (Str.ofString ":").length = 1 := by decide +kernel
theorem fn_words_of (T : TopOf K mg) (Z : Facts K) {f : Addr} {fd : FuncData} (F : L2.Fun K "words_of" "words_of" s_words_of f fd) : Fn P w K mg base false 1 f fd ["events"] WordsS := by
  have sc := sc_words_of
  refine fn_mk F sc_words_of (fun ss O R h => by obtain ⟨_, z, rfl, _⟩ := h; rfl) fun cdv A outer s H E ss O R hr hpo h => ?_
  obtain ⟨es, d, rfl, hd, hl, hs, h⟩ := h
  -- 0:events 1:event
  refine sw_one ?_
  refine s1_ret ?_
  refine ew_join ?_
  refine ew_str ?_
  refine ⟨_, rfl, ?_⟩
  refine ew_map1 es evD (fun e => .str (wordE e)) [("event", 1)] sc.nd (.name (i := 1) (by decide) fun Y ⟨_, _, _, _, _, e⟩ => by subst e; exact pg_name (i := 1) sc.nd rfl (.inl rfl) (.inr rfl)) (blkOk_by (N := N_words_of) (sc := defScope s_words_of) (by decide +kernel)) ?_ (Nat.le_trans hl (by decide)) (fun e he => ⟨_, rfl, fun O' Y hY => ?_⟩) ?_
  · rcases hd with rfl | rfl
    · exact iw_list (ew_var 0 ⟨_, rfl, rfl, rfl⟩)
    · exact iw_tup (ew_var 0 ⟨_, rfl, rfl, rfl⟩)
  · obtain ⟨_, _, _, _, _, rfl⟩ := hY
    have hse := hs e he
    refine ew_if ?_
    refine tw_cmp ?_
    refine ew_ix ?_
    refine ew_var 1 ?_
    refine ew_int ?_
    cases e with
    | none =>
      refine ix_tpl (atI_nat (j := 0) rfl) ?_
      refine ew_str ?_
      walk_at "cmp Eq"
      refine ⟨_, rfl, fun ht => ?_, fun ht => ?_⟩
      · exact absurd ht (by decide +kernel)
      · refine ew_str ?_
        exact ⟨rfl, rfl⟩
    | some q =>
      obtain ⟨n, m⟩ := q
      obtain ⟨h1, h2, h3⟩ := hse
      have h4 := num_len h2 h3
      refine ix_tpl (atI_nat (j := 0) rfl) ?_
      refine ew_str ?_
      walk_at "cmp Eq"
      refine ⟨_, rfl, fun ht => ?_, fun ht => ?_⟩
      · refine ew_joined ?_
        refine ew_fmt ?_
        refine ew_ix ?_
        refine ew_var 1 ?_
        refine ew_int ?_
        refine ix_tpl (atI_nat (j := 1) rfl) ?_
        refine .inl ⟨_, rfl, Nat.le_trans h1 (by decide), ?_⟩
        refine ⟨_, rfl, by rw [empty_app]; exact Nat.le_trans h1 (by decide), ?_⟩
        refine ew_str ?_
        refine ⟨_, rfl, by rw [empty_app, len_app, colon_len]; exact Nat.le_trans (Nat.add_le_add_right h1 1) (by decide), ?_⟩
        refine ew_fmt ?_
        refine ew_ix ?_
        refine ew_var 1 ?_
        refine ew_int ?_
        refine ix_tpl (atI_nat (j := 2) rfl) ?_
        refine .inr ⟨m, rfl, num_log h2 h3, ?_⟩
        refine ⟨_, rfl, by rw [empty_app, len_app, len_app, colon_len]; exact Nat.le_trans (Nat.add_le_add (Nat.add_le_add_right h1 1) h4) (by decide), ?_⟩
        refine ⟨?_, rfl⟩
        rw [empty_app]
        rfl
      · exact absurd ht (by decide +kernel)
  · have e : (es.map fun e => Dat.str (wordE e)) = (es.map wordE).map .str := by rw [List.map_map]; rfl
    rw [e]
    refine m1_join ?_ h
    have hb := sum_le (g := fun e : Ev => (wordE e).length) (b := 201) fun e he => wordE_len (hs e he)
    rw [List.map_map, List.length_map, show (Str.ofString " ").length = 1 by decide +kernel]
    show (es.map fun e => (wordE e).length).sum + es.length * 1 ≤ _
    omega
theorem c_words_of (T : TopOf K mg) (Z : Facts K) : Cal P w K mg base false 1 "words_of" WordsS [] := cal_of T Z.d_words_of (by walk_at "b1") fun f fd F => fn_words_of T Z F
/-! events_of -/
def badW (w : Str) : Bool := match evS w with
  | none => true
  | some _ => false
def EventsS (C : Addr) : SpecT := fun ss O R => ∃ z : Str, ss = [.dat (.str z)] ∧ z.length ≤ 100000 ∧
  (∀ i, (wordsS z).findIdx? badW = some i → R (.exc (.own C [("at", .int (i : Int))])) O) ∧
  ((wordsS z).findIdx? badW = none → ∀ p, O p = none → R (.ret (.own p)) (up O p (.lst (((wordsS z).filterMap evS).map fun e => .dat (evD e)))))
theorem wordsS_len {z w : Str} (h : w ∈ wordsS z) : w.length ≤ z.length := by
  unfold wordsS at h
  split at h
  · cases h
  · exact word_len h
theorem wordsS_count (z : Str) : (wordsS z).length ≤ z.length + 1 := by
  unfold wordsS
  split
  · exact Nat.zero_le _
  · have := words_sum z
    omega
theorem flatD_int {i : Int} : flatD (.int i) := ⟨(show "int" ≠ "" by decide), rfl, rfl⟩
theorem fn_events_of (T : TopOf K mg) (Z : Facts K) {C B : Addr} (X : ExcIn K "NoTree" "NoTree.__init__" "KeptError" s_NoTree_init C B) (nf : PySem.W.findIn K (.ref C) "at" = some none) {f : Addr} {fd : FuncData} (F : L2.Fun K "events_of" "events_of" s_events_of f fd) : Fn P w K mg base false 4 f fd ["text"] (EventsS C) := by
  have sc := sc_events_of
  refine fn_mk F sc_events_of (fun ss O R h => by obtain ⟨z, rfl, _⟩ := h; rfl) fun cdv A outer s H E ss O R hr hpo h => ?_
  obtain ⟨z, rfl, hz, hx, hv⟩ := h
  -- 0:text 1:found 2:at 3:word 4:event
  refine sw_drop ?_
  refine sw_cons ?_
  refine s1_set 1 ?_ sc.nd
  refine ew_lst ?_
  refine aw_nil ?_
  refine ⟨by decide, fun p hp => ?_⟩
  refine sw_cons ?_
  refine s1_for hpo ?_
  refine iw_enum (T.no Z.n_enumerate) ?_
  refine aw_cons ?_
  refine ew_call (c_split_words T Z) hr ?_
  refine aw_cons ?_
  refine ew_var 0 ?_
  refine aw_nil ?_
  refine ⟨z, rfl, hz, ?_⟩
  refine aw_nil ?_
  refine ⟨_, rfl, ?_⟩
  refine ⟨fun i ρ' O' => ∃ s2 s3 s4, ρ' = [.dat (.str z), .own p, s2, s3, s4] ∧ O' = up O p (.lst ((((wordsS z).take i).filterMap evS).map fun e => .dat (evD e))) ∧ ∀ y ∈ (wordsS z).take i, badW y = false, ⟨_, _, _, rfl, rfl, fun y hy => by cases hy⟩, ?_, ?_⟩
  · intro i d ρ2 O2 hj hd
    obtain ⟨s2, s3, s4, rfl, rfl, hbad⟩ := hj
    unfold enumD at hd
    rw [List.getElem?_mapIdx, List.getElem?_map] at hd
    obtain ⟨dw, hdw, rfl⟩ := Option.map_eq_some_iff.mp hd
    obtain ⟨y, hy, rfl⟩ := Option.map_eq_some_iff.mp hdw
    have hyl := Nat.le_trans (wordsS_len (List.mem_of_getElem? hy)) hz
    have htake : (wordsS z).take (i + 1) = (wordsS z).take i ++ [y] := by rw [List.take_add_one, hy]; rfl
    refine gw_tup ?_
    refine gsw_cons ?_
    refine gw_name 2 ?_ sc.nd
    refine gsw_cons ?_
    refine gw_name 3 ?_ sc.nd
    refine gsw_nil ?_
    refine sw_cons ?_
    refine s1_set 4 ?_ sc.nd
    refine ew_call (c_event_of T Z) hr ?_
    refine aw_cons ?_
    refine ew_var 3 ?_
    refine aw_nil ?_
    refine ⟨y, rfl, hyl, ?_⟩
    refine sw_cons ?_
    refine s1_if ?_
    refine tw_cmp ?_
    refine ew_var 4 ?_
    refine ew_non ?_
    walk_at "cmp Is"
    refine ⟨_, rfl, fun ht => ?_, fun ht => ?_⟩
    · obtain ⟨C', B', X', nf', xc⟩ := xc_NoTree (P := P) (w := w) (base := base) T Z
      have eC : C' = C := by
        have q := X'.a.at_.symm.trans X.a.at_
        cases q
        rfl
      subst eC
      refine sw_one ?_
      refine s1_raise xc hr ?_
      refine aw_cons ?_
      refine ew_var 2 ?_
      refine aw_nil ?_
      refine raised1 flatD_int ?_
      refine ⟨O, Sub.up hp, hx i (findIdx_at hy ?_ hbad)⟩
      unfold badW
      cases hev : evS y with
      | none => rfl
      | some e =>
        rw [hev] at ht
        cases e <;> cases ht
    · refine sw_nil ?_
      refine sw_one ?_
      refine s1_expr ?_
      refine ew_append ?_
      refine ew_var 1 ?_
      refine ⟨?_, ?_⟩
      · walk_at "ty"
      refine ew_var 4 ?_
      obtain ⟨e, hev⟩ : ∃ e, evS y = some e := by
        cases hev : evS y with
        | none =>
          rw [hev] at ht
          cases ht
        | some e => exact ⟨e, rfl⟩
      refine mb_append up_at ?_ ?_
      · rw [List.length_map]
        have h1 := List.length_filterMap_le evS ((wordsS z).take i)
        rw [List.length_take] at h1
        have h2 := wordsS_count z
        have h3 : (100000 : Nat) + 1 < sizeLine := by decide
        omega
      · rw [up_up]
        refine ⟨_, _, _, rfl, ?_, fun x hx => ?_⟩
        · rw [htake, List.filterMap_append, List.map_append, List.filterMap_cons, hev]
          rfl
        · rw [htake] at hx
          rcases List.mem_append.mp hx with hx | hx
          · exact hbad x hx
          · obtain rfl := List.mem_singleton.mp hx
            unfold badW
            rw [hev]
  · intro ρ2 O2 hj
    obtain ⟨s2, s3, s4, rfl, rfl, hbad⟩ := hj
    have e : (wordsS z).take (enumD ((wordsS z).map Dat.str)).length = wordsS z := by
      unfold enumD
      rw [List.length_mapIdx, List.length_map, List.take_length]
    rw [e] at hbad ⊢
    refine sw_one ?_
    refine s1_ret ?_
    refine ew_var 1 ?_
    exact ⟨_, Sub.refl, hv (findIdx_no hbad) p hp⟩
theorem c_events_of (T : TopOf K mg) (Z : Facts K) {C B : Addr} (X : ExcIn K "NoTree" "NoTree.__init__" "KeptError" s_NoTree_init C B) (nf : PySem.W.findIn K (.ref C) "at" = some none) : Cal P w K mg base false 4 "events_of" (EventsS C) [] := cal_of T Z.d_events_of (by walk_at "b1") fun f fd F => fn_events_of T Z X nf F
end
/-- the source of draws -/
def boxC (c s n : Int) : Cell := .lst [.dat (.int c), .dat (.int s), .dat (.int n)]
def isBox (b : Cell) : Prop := ∃ c s n, b = boxC c s n ∧ 0 ≤ c ∧ 1 ≤ s ∧ s ≤ 2147483629 ∧ 0 ≤ n
def Take : SpecT := fun ss O R => ∃ (p : Addr) (m : Int) (b : Cell), ss = [.own p, .dat (.int m)] ∧ O p = some b ∧ isBox b ∧ 1 ≤ m ∧ m < 1073741824 ∧ ∀ (d : Int) (b' : Cell), 0 ≤ d → d < m → isBox b' → R (.ret (.dat (.int d))) (up O p b')
def BoxS : SpecT := fun ss O R => ∃ (ns : List Int) (k o : Int), ss = [.dat (.fro (ns.map .int)), .dat (.int k), .dat (.int o)] ∧ 0 ≤ k ∧ k ≤ 1000 ∧ 0 ≤ o ∧ o ≤ 1000 ∧ ∀ p b, O p = none → isBox b → R (.ret (.own p)) (up O p b)
section
variable {P : Program} {w : World} {K : PySem.W.Frag} {mg : Str → Option Value} {base : Heap}
theorem fn_law_take {f : Addr} {fd : FuncData} (F : L2.Fun K "_law_take" "_law_take" s_law_take f fd) : Fn P w K mg base false 1 f fd ["_law_box_here", "_law_many"] Take := by
  have sc := sc_law_take
  refine fn_mk F sc_law_take (fun ss O R h => by obtain ⟨p, m, b, rfl, _⟩ := h; rfl) fun cdv A outer s H E ss O R hr hpo h => ?_
  obtain ⟨p, m, b, rfl, hp, hb, hm1, hm2, h⟩ := h
  obtain ⟨c, s0, n, rfl, hc, hs1, hs2, hn⟩ := hb
  have hp : O p = some (.lst [.dat (.int c), .dat (.int s0), .dat (.int n)]) := hp
  -- 0:_law_box_here 1:_law_many 2:_law_digit 3:_law_raw 4:_law_wide
  refine sw_cons ?_
  refine s1_if ?_
  refine tw_cmp ?_
  refine ew_ix ?_
  refine ew_var 0 ?_
  refine ew_int ?_
  walk_at "ix"
  refine ew_int ?_
  walk_at "cmp Gt"
  refine ⟨_, rfl, fun ht => ?_, fun ht => ?_⟩
  · refine sw_cons ?_
    refine s1_set 2 ?_ sc.nd
    refine ew_bin ?_
    refine ew_ix ?_
    refine ew_var 0 ?_
    refine ew_int ?_
    walk_at "ix"
    refine ew_var 1 ?_
    walk_at "op mod"
    refine sw_cons ?_
    refine s1_asg ?_
    refine ew_bin ?_
    refine ew_ix ?_
    refine ew_var 0 ?_
    refine ew_int ?_
    walk_at "ix"
    refine ew_var 1 ?_
    walk_at "op fdiv"
    refine gw_set ?_
    refine ew_var 0 ?_
    refine ew_int ?_
    refine ⟨_, _, _, _, rfl, rfl, by walk_at "cell", rfl, ?_⟩
    refine sw_one ?_
    refine s1_ret ?_
    refine ew_var 2 ?_
    show R (.ret _) (up O p _)
    exact h _ _ (Int.emod_nonneg _ (by omega)) (Int.emod_lt_of_pos _ (by omega)) ⟨c / m, s0, n, rfl, Int.ediv_nonneg hc (by omega), hs1, hs2, hn⟩
  · refine sw_nil ?_
    refine sw_cons ?_
    refine s1_asg ?_
    refine ew_bin ?_
    refine ew_ix ?_
    refine ew_var 0 ?_
    refine ew_int ?_
    walk_at "ix"
    refine ew_int ?_
    walk_at "op add"
    refine gw_set ?_
    refine ew_var 0 ?_
    refine ew_int ?_
    refine ⟨_, _, _, _, rfl, rfl, by walk_at "cell", rfl, ?_⟩
    refine sw_cons ?_
    refine s1_set 3 ?_ sc.nd
    refine ew_bin ?_
    refine ew_bin ?_
    refine ew_bin ?_
    refine ew_ix ?_
    refine ew_var 0 ?_
    refine ew_int ?_
    walk_at "ix"
    refine ew_bin ?_
    refine ew_int ?_
    refine ew_ix ?_
    refine ew_var 0 ?_
    refine ew_int ?_
    walk_at "ix"
    walk_at "op mul"
    walk_at "op add"
    refine ew_int ?_
    walk_at "op mul"
    refine ew_int ?_
    walk_at "op mod"
    refine sw_cons ?_
    refine s1_asg ?_
    refine ew_bin ?_
    refine ew_bin ?_
    refine ew_bin ?_
    refine ew_bin ?_
    refine ew_var 3 ?_
    refine ew_int ?_
    walk_at "op mul"
    refine ew_int ?_
    walk_at "op add"
    refine ew_int ?_
    walk_at "op mod"
    refine ew_int ?_
    walk_at "op add"
    refine gw_set ?_
    refine ew_var 0 ?_
    refine ew_int ?_
    refine ⟨_, _, _, _, rfl, rfl, by walk_at "cell", rfl, ?_⟩
    refine sw_cons ?_
    refine s1_if ?_
    refine tw_cmp ?_
    refine ew_var 1 ?_
    refine ew_bin ?_
    refine ew_int ?_
    refine ew_int ?_
    walk_at "op pow"
    walk_at "cmp Lt"
    refine ⟨_, rfl, fun ht => ?_, fun ht => ?_⟩
    · refine sw_one ?_
      refine s1_ret ?_
      refine ew_bin ?_
      refine ew_bin ?_
      refine ew_bin ?_
      refine ew_bin ?_
      refine ew_var 3 ?_
      refine ew_int ?_
      walk_at "op mul"
      refine ew_ix ?_
      refine ew_var 0 ?_
      refine ew_int ?_
      walk_at "ix"
      walk_at "op add"
      refine ew_int ?_
      walk_at "op fdiv"
      refine ew_var 1 ?_
      walk_at "op mod"
      show R (.ret _) (up (up O p _) p _)
      rw [up_up]
      refine h _ _ (Int.emod_nonneg _ (by omega)) (Int.emod_lt_of_pos _ (by omega)) ⟨c, _, n + 1, rfl, hc, ?_, ?_, by omega⟩ <;> omega
    · refine sw_nil ?_
      refine sw_cons ?_
      refine s1_set 4 ?_ sc.nd
      refine ew_bin ?_
      refine ew_bin ?_
      refine ew_bin ?_
      refine ew_var 3 ?_
      refine ew_int ?_
      walk_at "op mul"
      refine ew_ix ?_
      refine ew_var 0 ?_
      refine ew_int ?_
      walk_at "ix"
      walk_at "op add"
      refine ew_bin ?_
      refine ew_int ?_
      refine ew_int ?_
      walk_at "op pow"
      walk_at "op mul"
      refine sw_one ?_
      refine s1_ret ?_
      refine ew_bin ?_
      refine ew_bin ?_
      refine ew_bin ?_
      refine ew_var 4 ?_
      refine ew_bin ?_
      refine ew_bin ?_
      refine ew_ix ?_
      refine ew_var 0 ?_
      refine ew_int ?_
      walk_at "ix"
      refine ew_int ?_
      walk_at "op pow"
      refine ew_int ?_
      walk_at "op mul"
      walk_at "op add"
      refine ew_var 3 ?_
      walk_at "op add"
      refine ew_var 1 ?_
      walk_at "op mod"
      show R (.ret _) (up (up O p _) p _)
      rw [up_up]
      refine h _ _ (Int.emod_nonneg _ (by omega)) (Int.emod_lt_of_pos _ (by omega)) ⟨c, _, n + 1, rfl, hc, ?_, ?_, by omega⟩ <;> omega
theorem c_law_take (T : TopOf K mg) (Z : Facts K) : Cal P w K mg base false 1 "_law_take" Take [] := cal_of T Z.d_law_take (by walk_at "b2") fun f fd F => fn_law_take F
theorem box_last {c k o : Int} (hc : 0 ≤ c) (hk : 0 ≤ k) (ho : 0 ≤ o) : isBox (boxC c ((c % 2147483629 * 48271 + 40692 * (k + 11 * o)) % 2147483629 + 1) 0) := ⟨c, _, 0, rfl, hc, by omega, by omega, by omega⟩
theorem box_zero {c k o : Int} (hk : 0 ≤ k) (ho : 0 ≤ o) : isBox (boxC 0 ((c % 2147483629 * 48271 + 40692 * (k + 11 * o)) % 2147483629 + 1) 0) := ⟨0, _, 0, rfl, by omega, by omega, by omega, by omega⟩
theorem at_int {ns : List Int} {k : Int} (h0 : 0 ≤ k) (h : k < (ns.length : Int)) : ∃ n, atI (ns.map Dat.int) k = some (.int n) := by
  obtain ⟨j, rfl⟩ := Int.eq_ofNat_of_zero_le h0
  have hj : j < ns.length := by omega
  exact ⟨ns[j], atI_nat (by rw [List.getElem?_map, List.getElem?_eq_getElem hj]; rfl)⟩
theorem fn_law_box (T : TopOf K mg) (Z : Facts K) {f : Addr} {fd : FuncData} (F : L2.Fun K "_law_box" "_law_box" s_law_box f fd) : Fn P w K mg base false 1 f fd ["_law_script", "_law_k", "_law_own"] BoxS := by
  have sc := sc_law_box
  refine fn_mk F sc_law_box (fun ss O R h => by obtain ⟨_, _, _, rfl, _⟩ := h; rfl) fun cdv A outer s H E ss O R hr hpo h => ?_
  obtain ⟨ns, k, o, rfl, hk, hk2, ho, ho2, h⟩ := h
  -- 0:_law_script 1:_law_k 2:_law_own 3:_law_cell 4:_law_seed
  have tail : ∀ (x : ExK) (c : Int) (ρ : List Slot) (s4 : Slot), 0 ≤ c → (∀ e ρ' O', x e ρ' O' ↔ x e ρ' O') → SW (cxOf (L2.CX P w) P w K mg base N_law_box "_law_box" (defScope s_law_box) f cdv A outer s H E) O [.dat (.fro (ns.map .int)), .dat (.int k), .dat (.int o), .dat (.int c), s4] ((defBody s_law_box).drop 2) x { nx := fun _ O' => R (.ret (.dat .non)) O', rt := fun z O' => R (.ret z) O' } := by
    intro x c ρ s4 hc _
    refine sw_cons ?_
    refine s1_set 4 ?_ sc.nd
    refine ew_bin ?_
    refine ew_bin ?_
    refine ew_bin ?_
    refine ew_bin ?_
    refine ew_bin ?_
    refine ew_var 3 ?_
    refine ew_int ?_
    walk_at "op mod"
    refine ew_int ?_
    walk_at "op mul"
    refine ew_bin ?_
    refine ew_int ?_
    refine ew_bin ?_
    refine ew_var 1 ?_
    refine ew_bin ?_
    refine ew_int ?_
    refine ew_var 2 ?_
    walk_at "op mul"
    walk_at "op add"
    walk_at "op mul"
    walk_at "op add"
    refine ew_int ?_
    walk_at "op mod"
    refine ew_int ?_
    walk_at "op add"
    refine sw_one ?_
    refine s1_ret ?_
    refine ew_lst ?_
    refine aw_cons ?_
    refine ew_ix ?_
    refine ew_lstD ?_
    refine aw_cons ?_
    refine ew_int ?_
    refine aw_cons ?_
    refine ew_var 3 ?_
    refine aw_nil ?_
    refine ⟨[_, _], rfl, by walk_at "few", ?_⟩
    refine ew_callTy (T.no Z.n_int) bt_int ?_
    refine aw_cons ?_
    refine ew_cmp ?_
    refine ew_var 3 ?_
    refine ew_bin ?_
    refine ew_int ?_
    refine ew_int ?_
    walk_at "op pow"
    walk_at "cmp GtE"
    refine aw_nil ?_
    walk_at "cb int"
    by_cases hb : (10 : Int) ^ (18 : Int).toNat ≤ c
    · rw [decide_eq_true hb]
      refine ix_lst (i := 1) (atI_nat (j := 1) rfl) ?_
      refine aw_cons ?_
      refine ew_var 4 ?_
      refine aw_cons ?_
      refine ew_int ?_
      refine aw_nil ?_
      refine ⟨by walk_at "few", fun p hp => ?_⟩
      exact h p _ hp (box_last hc hk ho)
    · rw [decide_eq_false hb]
      refine ix_lst (i := 0) (atI_nat (j := 0) rfl) ?_
      refine aw_cons ?_
      refine ew_var 4 ?_
      refine aw_cons ?_
      refine ew_int ?_
      refine aw_nil ?_
      refine ⟨by walk_at "few", fun p hp => ?_⟩
      exact h p _ hp (box_zero hk ho)
  refine sw_cons ?_
  refine s1_set 3 ?_ sc.nd
  refine ew_bin ?_
  refine ew_bin ?_
  refine ew_bin ?_
  refine ew_int ?_
  refine ew_var 1 ?_
  walk_at "op mul"
  refine ew_bin ?_
  refine ew_int ?_
  refine ew_var 2 ?_
  walk_at "op mul"
  walk_at "op add"
  refine ew_int ?_
  walk_at "op add"
  refine sw_cons ?_
  refine s1_if ?_
  refine tw_cmp ?_
  refine ew_var 1 ?_
  refine ew_callB (T.no Z.n_len) bt_len ?_
  refine aw_cons ?_
  refine ew_var 0 ?_
  refine aw_nil ?_
  walk_at "cb len"
  rw [List.length_map]
  walk_at "cmp Lt"
  refine ⟨_, rfl, fun ht => ?_, fun ht => ?_⟩
  · obtain ⟨n, hn⟩ := at_int hk (of_decide_eq_true ht)
    refine sw_one ?_
    refine s1_set 3 ?_ sc.nd
    refine ew_callB (T.no Z.n_abs) bt_abs ?_
    refine aw_cons ?_
    refine ew_ix ?_
    refine ew_var 0 ?_
    refine ew_var 1 ?_
    refine ix_fro hn ?_
    refine aw_nil ?_
    walk_at "cb abs"
    refine tail _ _ [] _ ?_ (fun _ _ _ => Iff.rfl)
    split <;> omega
  · refine sw_one ?_
    refine s1_if ?_
    refine tw_cmp ?_
    refine ew_callB (T.no Z.n_len) bt_len ?_
    refine aw_cons ?_
    refine ew_var 0 ?_
    refine aw_nil ?_
    walk_at "cb len"
    rw [List.length_map]
    refine ew_int ?_
    walk_at "cmp Gt"
    refine ⟨_, rfl, fun ht2 => ?_, fun ht2 => ?_⟩
    · have hl : 0 < (ns.length : Int) := of_decide_eq_true ht2
      obtain ⟨n, hn⟩ := at_int (ns := ns) (Int.emod_nonneg k (by omega)) (Int.emod_lt_of_pos k hl)
      refine sw_one ?_
      refine s1_set 3 ?_ sc.nd
      refine ew_bin ?_
      refine ew_var 3 ?_
      refine ew_bin ?_
      refine ew_bin ?_
      refine ew_callB (T.no Z.n_abs) bt_abs ?_
      refine aw_cons ?_
      refine ew_ix ?_
      refine ew_var 0 ?_
      refine ew_bin ?_
      refine ew_var 1 ?_
      refine ew_callB (T.no Z.n_len) bt_len ?_
      refine aw_cons ?_
      refine ew_var 0 ?_
      refine aw_nil ?_
      walk_at "cb len"
      rw [List.length_map]
      refine ob_mod hl ?_
      refine ix_fro hn ?_
      refine aw_nil ?_
      walk_at "cb abs"
      refine ew_int ?_
      walk_at "op mod"
      refine ew_int ?_
      walk_at "op mul"
      walk_at "op add"
      refine tail _ _ [] _ ?_ (fun _ _ _ => Iff.rfl)
      have := Int.emod_nonneg (if n < 0 then -n else n) (show (2147483629 : Int) ≠ 0 by decide)
      omega
    · refine sw_nil ?_
      refine tail _ _ [] _ ?_ (fun _ _ _ => Iff.rfl)
      omega
theorem c_law_box (T : TopOf K mg) (Z : Facts K) : Cal P w K mg base false 1 "_law_box" BoxS [] := cal_of T Z.d_law_box (by walk_at "b3") fun f fd F => fn_law_box T Z F
end
def MixS : SpecT := fun ss O R => ∃ (α : Type) (l : List α) (ι : α → Dat) (p : Addr) (b : Cell), ss = [.own p, .dat (.lst (l.map ι))] ∧ O p = some b ∧ isBox b ∧ l.length ≤ 1000 ∧ ∀ (q : Addr) (b' : Cell) (l' : List α), O q = none → isBox b' → l'.Perm l → R (.ret (.own q)) (up (up O p b') q (.lst ((l'.map ι).map .dat)))
section
variable {P : Program} {w : World} {K : PySem.W.Frag} {mg : Str → Option Value} {base : Heap}
theorem fn_law_mixed (T : TopOf K mg) (Z : Facts K) {f : Addr} {fd : FuncData} (F : L2.Fun K "_law_mixed" "_law_mixed" s_law_mixed f fd) : Fn P w K mg base false 2 f fd ["_law_box_here", "_law_items"] MixS := by
  have sc := sc_law_mixed
  refine fn_mk F sc_law_mixed (fun ss O R h => by obtain ⟨_, _, _, _, _, rfl, _⟩ := h; rfl) fun cdv A outer s H E ss O R hr hpo h => ?_
  obtain ⟨α, l, ι, p, b, rfl, hp, hb, hl, h⟩ := h
  -- 0:_law_box_here 1:_law_items 2:_law_left 3:_law_found 4:_law_turn
  refine sw_drop ?_
  refine sw_cons ?_
  refine s1_par 2 3 ?_ sc.nd
  refine aw_cons ?_
  refine ew_callTy (T.no Z.n_list) bt_list ?_
  refine aw_cons ?_
  refine ew_var 1 ?_
  refine aw_nil ?_
  refine cb_listL fun L hL => ?_
  refine aw_cons ?_
  refine ew_lst ?_
  refine aw_nil ?_
  refine ⟨by decide, fun q hq => ?_⟩
  have hqO : O q = none := by
    have n : q ≠ L := fun e => by rw [e, up_at] at hq; cases hq
    rw [up_ne n] at hq; exact hq
  have nql : q ≠ L := fun e => by rw [e, up_at] at hq; cases hq
  have npL : p ≠ L := own_ne hp hL
  have npq : p ≠ q := own_ne hp hqO
  refine aw_nil ?_
  refine ⟨_, _, rfl, ?_⟩
  refine sw_cons ?_
  refine s1_for hpo ?_
  refine iw_range1 (T.no Z.n_range) ?_
  refine aw_cons ?_
  refine ew_callB (T.no Z.n_len) bt_len ?_
  refine aw_cons ?_
  refine ew_var 2 ?_
  refine aw_nil ?_
  refine cb_lenO (by walk_at "cell") ?_
  refine aw_nil ?_
  refine ⟨_, rfl, by rw [List.length_map, List.length_map]; constructor <;> omega, ?_⟩
  rw [List.length_map, List.length_map, Int.toNat_natCast]
  refine ⟨fun i ρ' O' => ∃ (b' : Cell) (ls es : List α) (s4 : Slot), ρ' = [.own p, .dat (.lst (l.map ι)), .own L, .own q, s4] ∧ O' = up (up (up O p b') L (.lst ((ls.map ι).map .dat))) q (.lst ((es.map ι).map .dat)) ∧ isBox b' ∧ (es ++ ls).Perm l ∧ es.length = i, ?_, ?_, ?_⟩
  · refine ⟨b, l, [], .unk, rfl, ?_, hb, .refl _, rfl⟩
    rw [up_self hp]
    rfl
  · intro i d ρ2 O2 hj hd
    obtain ⟨b', ls, es, s4, rfl, rfl, hb', hperm, hes⟩ := hj
    have hi := (rangeD_at hd).1
    have hlen := hperm.length_eq
    rw [List.length_append] at hlen
    refine gw_name 4 ?_ sc.nd
    refine sw_one ?_
    refine s1_expr ?_
    refine ew_append ?_
    refine ew_var 3 ?_
    refine ⟨?_, ?_⟩
    · walk_at "ty"
    refine ew_popAt ?_
    refine ew_var 2 ?_
    refine ⟨?_, ?_⟩
    · exact ⟨rfl, _, by rw [up_ne nql.symm]; exact up_at⟩
    refine ew_call (c_law_take T Z) hr ?_
    refine aw_cons ?_
    refine ew_var 0 ?_
    refine aw_cons ?_
    refine ew_callB (T.no Z.n_len) bt_len ?_
    refine aw_cons ?_
    refine ew_var 2 ?_
    refine aw_nil ?_
    refine cb_lenO (by rw [up_ne nql.symm]; exact up_at) ?_
    refine aw_nil ?_
    refine ⟨p, _, b', rfl, by rw [up_ne npq, up_ne npL]; exact up_at, hb', by rw [List.length_map, List.length_map]; omega, by rw [List.length_map, List.length_map]; omega, fun r b2 h0 h1 hb2 => ?_⟩
    rw [List.length_map, List.length_map] at h1
    obtain ⟨a, ha⟩ : ∃ a, ls[r.toNat]? = some a := ⟨_, List.getElem?_eq_getElem (by omega)⟩
    refine mb_popAt (j := r.toNat) (s := .dat (ι a)) (by rw [up_ne npL.symm, up_ne nql.symm]; exact up_at) (by constructor <;> omega) (by rw [List.length_map, List.length_map]; exact seq_at h0 h1) (by rw [List.getElem?_map, List.getElem?_map, ha]; rfl) ?_
    refine mb_append (by rw [up_ne nql, up_ne npq.symm]; exact up_at) (by rw [List.length_map, List.length_map]; exact Nat.lt_of_le_of_lt (show es.length ≤ 1000 by omega) (by decide)) ?_
    refine ⟨b2, ls.eraseIdx r.toNat, es ++ [a], _, rfl, ?_, hb2, ?_, ?_⟩
    · rw [erase_map, erase_map, List.map_append, List.map_append]
      walk_at "own"
    · rw [List.append_assoc]
      exact ((rot_perm ha).append_left es).trans hperm
    · rw [List.length_append, hes]; rfl
  · intro ρ2 O2 hj
    obtain ⟨b', ls, es, s4, rfl, rfl, hb', hperm, hes⟩ := hj
    rw [rangeD_len] at hes
    have hlen := hperm.length_eq
    rw [List.length_append] at hlen
    have els : ls = [] := List.length_eq_zero_iff.mp (by omega)
    subst els
    rw [List.append_nil] at hperm
    refine sw_one ?_
    refine s1_ret ?_
    refine ew_var 3 ?_
    refine ⟨_, ?_, h q b' es hqO hb' hperm⟩
    exact Sub.ups (Sub.up (by rw [up_ne npL.symm]; exact hL))
theorem c_law_mixed (T : TopOf K mg) (Z : Facts K) : Cal P w K mg base false 2 "_law_mixed" MixS [] := cal_of T Z.d_law_mixed (by walk_at "b2") fun f fd F => fn_law_mixed T Z F
end
def NamesS : SpecT := fun ss O R => ∃ (p : Addr) (b : Cell) (m : Int), ss = [.own p, .dat (.int m)] ∧ O p = some b ∧ isBox b ∧ 1 ≤ m ∧ m ≤ 8 ∧ ∀ (b' : Cell) (ws : List Str), isBox b' → 0 < ws.length → ws.length ≤ 20 → (∀ y ∈ ws, isNm y = true) → R (.ret (.dat (.lst (ws.map .str)))) (up O p b')
def nmAt (first form : Int) (i : Nat) : Str := timesS ⟨#[97 + ((first + 7 * (0 + (i : Int))) % 26).toNat]⟩ (1 + (0 + (i : Int)) * (if decide (form = 1) = true then 1 else 0))
theorem ltr_at : ∀ j : Fin 26, (sgs ltrs)[j.val]? = some (97 + j.val) := by decide +kernel
theorem nm_ok : ∀ c : Fin 26, ∀ n : Fin 8, isNm (timesS ⟨#[97 + c.val]⟩ ((n.val : Int) + 1)) = true := by decide +kernel
theorem nmAt_ok {first form : Int} {i : Nat} (hi : i < 8) : isNm (nmAt first form i) = true := by
  unfold nmAt
  have h0 := Int.emod_nonneg (first + 7 * (0 + (i : Int))) (show (26 : Int) ≠ 0 by decide)
  have h1 := Int.emod_lt_of_pos (first + 7 * (0 + (i : Int))) (show (0 : Int) < 26 by decide)
  generalize (first + 7 * (0 + (i : Int))) % 26 = r at h0 h1
  by_cases hf : form = 1
  · rw [decide_eq_true hf, if_pos rfl]
    have e := nm_ok ⟨r.toNat, by omega⟩ ⟨i, hi⟩
    rw [show 1 + (0 + (i : Int)) * 1 = (i : Int) + 1 by omega]
    exact e
  · rw [decide_eq_false hf, if_neg Bool.false_ne_true]
    have e := nm_ok ⟨r.toNat, by omega⟩ ⟨0, by decide⟩
    rw [show 1 + (0 + (i : Int)) * 0 = ((0 : Nat) : Int) + 1 by omega]
    exact e
def words2 : Str := "kind of some every not mod open close root parent above earlier later all"
def words3 : Str := "a aa b bounds zz others anyone c"
theorem words2_ok : ((Txt.split words2 " ").all isNm && decide (8 ≤ (Txt.split words2 " ").length) && decide ((Txt.split words2 " ").length ≤ 20)) = true := by decide +kernel
theorem words3_ok : ((Txt.split words3 " ").all isNm && decide (8 ≤ (Txt.split words3 " ").length) && decide ((Txt.split words3 " ").length ≤ 20)) = true := by decide +kernel
structure GoodWs (ws : List Str) : Prop where
  all : ∀ y ∈ ws, isNm y = true
  lo : 8 ≤ ws.length
  hi : ws.length ≤ 20
theorem goodWs_of {ws : List Str} (h : (ws.all isNm && decide (8 ≤ ws.length) && decide (ws.length ≤ 20)) = true) : GoodWs ws := by
  simp only [Bool.and_eq_true, decide_eq_true_eq, List.all_eq_true] at h
  exact ⟨h.1.1, h.1.2, h.2⟩
theorem names_good {first form : Int} : GoodWs ((List.range 8).map (nmAt first form)) := ⟨fun y hy => by
  obtain ⟨i, hi, rfl⟩ := List.mem_map.mp hy
  exact nmAt_ok (List.mem_range.mp hi), by rw [List.length_map]; decide, by rw [List.length_map]; decide⟩
section
variable {P : Program} {w : World} {K : PySem.W.Frag} {mg : Str → Option Value} {base : Heap}
theorem fn_law_names (T : TopOf K mg) (Z : Facts K) {f : Addr} {fd : FuncData} (F : L2.Fun K "_law_names" "_law_names" s_law_names f fd) : Fn P w K mg base false 3 f fd ["_law_box_here", "_law_many"] NamesS := by
  have sc := sc_law_names
  refine fn_mk F sc_law_names (fun ss O R h => by obtain ⟨_, _, _, rfl, _⟩ := h; rfl) fun cdv A outer s H E ss O R hr hpo h => ?_
  obtain ⟨p, b, m, rfl, hp, hb, hm1, hm2, h⟩ := h
  -- 0:_law_box_here 1:_law_many 2:_law_letters 3:_law_first 4:_law_form 5:_law_found 6:_law_k
  have tail : ∀ (b1 : Cell) (ws : List Str) (s2 s3 s4 s6 : Slot) (x : ExK), isBox b1 → GoodWs ws → SW (cxOf (L2.CX P w) P w K mg base N_law_names "_law_names" (defScope s_law_names) f cdv A outer s H E) (up O p b1) [.own p, .dat (.int m), s2, s3, s4, .dat (.lst (ws.map .str)), s6] ((defBody s_law_names).drop 4) x { nx := fun _ O' => R (.ret (.dat .non)) O', rt := fun z O' => R (.ret z) O' } := by
    intro b1 ws s2 s3 s4 s6 x hb1 hg
    have h1 := hg.lo
    have h2 := hg.hi
    refine sw_one ?_
    refine s1_ret ?_
    refine ew_slice ?_
    refine ew_frz ?_
    refine ew_call (c_law_mixed T Z) hr ?_
    refine aw_cons ?_
    refine ew_var 0 ?_
    refine aw_cons ?_
    refine ew_var 5 ?_
    refine aw_nil ?_
    refine ⟨Str, ws, .str, p, b1, rfl, up_at, hb1, by omega, fun q b2 ws' hq hb2 hperm => ?_⟩
    refine ⟨q, ws'.map .str, rfl, up_at, ?_⟩
    have hq2 : up (up O p b1) p b2 q = none := by
      have n : q ≠ p := fun e => by rw [e, up_at] at hq; cases hq
      rw [up_ne n]; exact hq
    rw [dn_up hq2, up_up]
    refine ow_none ?_
    refine ow_some ?_
    refine ew_var 1 ?_
    refine ⟨_, rfl, ?_⟩
    refine sb_lst ?_
    rw [cut_take (by omega), ← List.map_take]
    have e := hperm.length_eq
    refine h b2 _ hb2 ?_ ?_ fun y hy => hg.all y (hperm.mem_iff.mp (List.mem_of_mem_take hy))
    · rw [List.length_take]; omega
    · rw [List.length_take]; omega
  refine sw_cons ?_
  refine s1_asg ?_
  refine ew_tup ?_
  refine aw_cons ?_
  refine ew_str ?_
  refine aw_cons ?_
  refine ew_call (c_law_take T Z) hr ?_
  refine aw_cons ?_
  refine ew_var 0 ?_
  refine aw_cons ?_
  refine ew_int ?_
  refine aw_nil ?_
  refine ⟨p, _, b, rfl, hp, hb, by decide, by decide, fun first b1 hf0 hf1 hb1 => ?_⟩
  refine aw_cons ?_
  refine ew_call (c_law_take T Z) hr ?_
  refine aw_cons ?_
  refine ew_var 0 ?_
  refine aw_cons ?_
  refine ew_int ?_
  refine aw_nil ?_
  refine ⟨p, _, b1, rfl, up_at, hb1, by decide, by decide, fun form b2 hg0 hg1 hb2 => ?_⟩
  rw [up_up]
  refine aw_nil ?_
  refine ⟨[_, _, _], rfl, by walk_at "few", ?_⟩
  refine gw_tup ?_
  refine gsw_cons ?_
  refine gw_name 2 ?_ sc.nd
  refine gsw_cons ?_
  refine gw_name 3 ?_ sc.nd
  refine gsw_cons ?_
  refine gw_name 4 ?_ sc.nd
  refine gsw_nil ?_
  refine sw_cons ?_
  refine s1_setMap1 (List.range 8) (fun i => .int (0 + (i : Int))) (fun i => .str (nmAt first form i)) [("_law_k", 6)] 5 sc.nd (.name (i := 6) (by decide) fun Y ⟨_, _, _, _, _, e⟩ => by subst e; exact pg_name (i := 6) sc.nd rfl (.inl rfl) (.inr rfl)) (blkOk_by (N := N_law_names) (sc := defScope s_law_names) (by decide +kernel)) ?_ (by decide) (fun i hi => ⟨_, rfl, fun O' Y hY => ?_⟩) ?_
  · refine iw_range1 (T.no Z.n_range) ?_
    refine aw_cons ?_
    refine ew_int ?_
    refine aw_nil ?_
    exact ⟨8, rfl, by decide, rfl, rfl⟩
  · obtain ⟨_, _, _, _, _, rfl⟩ := hY
    have hi := List.mem_range.mp hi
    have h0 := Int.emod_nonneg (first + 7 * (0 + (i : Int))) (show (26 : Int) ≠ 0 by decide)
    have h1 := Int.emod_lt_of_pos (first + 7 * (0 + (i : Int))) (show (0 : Int) < 26 by decide)
    refine ew_bin ?_
    refine ew_ix ?_
    refine ew_var 2 ?_
    refine ew_bin ?_
    refine ew_bin ?_
    refine ew_var 3 ?_
    refine ew_bin ?_
    refine ew_int ?_
    refine ew_var 6 ?_
    walk_at "op mul"
    walk_at "op add"
    refine ew_int ?_
    walk_at "op mod"
    have hat : atI (sgs ltrs) ((first + 7 * (0 + (i : Int))) % 26) = some (97 + ((first + 7 * (0 + (i : Int))) % 26).toNat) := by
      have e := ltr_at ⟨((first + 7 * (0 + (i : Int))) % 26).toNat, by omega⟩
      have e2 : (first + 7 * (0 + (i : Int))) % 26 = (((first + 7 * (0 + (i : Int))) % 26).toNat : Int) := by omega
      rw [e2]
      exact atI_nat e
    refine ix_sgn (by decide +kernel) hat ?_
    refine ew_bin ?_
    refine ew_int ?_
    refine ew_bin ?_
    refine ew_var 6 ?_
    refine ew_callTy (T.no Z.n_int) bt_int ?_
    refine aw_cons ?_
    refine ew_cmp ?_
    refine ew_var 4 ?_
    refine ew_int ?_
    walk_at "cmp Eq"
    refine aw_nil ?_
    walk_at "cb int"
    refine ob_mul (.inl (by constructor <;> omega)) ?_
    walk_at "op add"
    refine ob_times ?_ (show 1 ≤ 1000 by decide) ?_
    · by_cases hf : form = 1
      · rw [decide_eq_true hf, if_pos rfl]
        constructor <;> omega
      · rw [decide_eq_false hf, if_neg Bool.false_ne_true]
        constructor <;> omega
    · exact ⟨rfl, rfl⟩
  intro q hq
  have eL : (List.range 8).map (fun i => Dat.str (nmAt first form i)) = ((List.range 8).map (nmAt first form)).map .str := by rw [List.map_map]; rfl
  rw [eL]
  refine sw_frz 5 (p := q) (ds := ((List.range 8).map (nmAt first form)).map .str) up_at ?_
  rw [dn_up hq]
  refine sw_cons ?_
  refine s1_if ?_
  refine tw_cmp ?_
  refine ew_var 4 ?_
  refine ew_int ?_
  walk_at "cmp Eq"
  refine ⟨_, rfl, fun ht => ?_, fun ht => ?_⟩
  · refine sw_one ?_
    refine s1_set 5 ?_ sc.nd
    refine ew_split ?_
    refine ew_str ?_
    refine ⟨_, rfl, ?_⟩
    refine ew_str ?_
    refine m1_split (by decide +kernel) (by decide +kernel) ?_
    refine sw_cons ?_
    refine s1_if ?_
    refine tw_cmp ?_
    refine ew_var 4 ?_
    refine ew_int ?_
    walk_at "cmp Eq"
    refine ⟨_, rfl, fun ht => ?_, fun ht => ?_⟩
    · refine sw_one ?_
      refine s1_set 5 ?_ sc.nd
      refine ew_split ?_
      refine ew_str ?_
      refine ⟨_, rfl, ?_⟩
      refine ew_str ?_
      refine m1_split (by decide +kernel) (by decide +kernel) ?_
      exact tail b2 _ _ _ _ _ _ hb2 (goodWs_of words3_ok)
    · refine sw_nil ?_
      exact tail b2 _ _ _ _ _ _ hb2 (goodWs_of words2_ok)
  · refine sw_nil ?_
    refine sw_cons ?_
    refine s1_if ?_
    refine tw_cmp ?_
    refine ew_var 4 ?_
    refine ew_int ?_
    walk_at "cmp Eq"
    refine ⟨_, rfl, fun ht => ?_, fun ht => ?_⟩
    · refine sw_one ?_
      refine s1_set 5 ?_ sc.nd
      refine ew_split ?_
      refine ew_str ?_
      refine ⟨_, rfl, ?_⟩
      refine ew_str ?_
      refine m1_split (by decide +kernel) (by decide +kernel) ?_
      exact tail b2 _ _ _ _ _ _ hb2 (goodWs_of words3_ok)
    · refine sw_nil ?_
      exact tail b2 _ _ _ _ _ _ hb2 names_good
theorem c_law_names (T : TopOf K mg) (Z : Facts K) : Cal P w K mg base false 3 "_law_names" NamesS [] := cal_of T Z.d_law_names (by walk_at "b2") fun f fd F => fn_law_names T Z F
end
def TextS : SpecT := fun ss O R => ∃ es : List Ev, ss = [.dat (.lst (es.map evD))] ∧ es.length ≤ 1000 ∧ (∀ e ∈ es, smallE e) ∧ R (.ret (.dat (.str (textE es)))) O
/-- an event that the program takes -/
def goodE : Ev → Prop
  | none => True
  | some (n, m) => isNm n = true ∧ 0 ≤ m ∧ m < 10 ^ 9
theorem goodE.small {e : Ev} (h : goodE e) : smallE e := by
  cases e with
  | none => trivial
  | some q =>
    obtain ⟨n, m⟩ := q
    obtain ⟨h1, h2, h3⟩ := h
    obtain ⟨_, h4, _⟩ := madeOf_pos (Bool.and_eq_true_iff.mp h1).1
    exact ⟨by omega, h2, Int.lt_trans h3 (by decide)⟩
def RowS : SpecT := fun ss O R => ∃ (p : Addr) (b : Cell) (ws : List Str), ss = [.own p, .dat (.lst (ws.map .str))] ∧ O p = some b ∧ isBox b ∧ 0 < ws.length ∧ ws.length ≤ 1000 ∧ (∀ y ∈ ws, isNm y = true) ∧
  ∀ (q : Addr) (b' : Cell) (es : List Ev), O q = none → isBox b' → es.length ≤ 20 → (∀ e ∈ es, goodE e) → R (.ret (.own q)) (up (up O p b') q (.lst ((es.map evD).map .dat)))
section
variable {P : Program} {w : World} {K : PySem.W.Frag} {mg : Str → Option Value} {base : Heap}
theorem fn_law_text (T : TopOf K mg) (Z : Facts K) {f : Addr} {fd : FuncData} (F : L2.Fun K "_law_text" "_law_text" s_law_text f fd) : Fn P w K mg base false 1 f fd ["_law_events"] TextS := by
  have sc := sc_law_text
  refine fn_mk F sc_law_text (fun ss O R h => by obtain ⟨_, rfl, _⟩ := h; rfl) fun cdv A outer s H E ss O R hr hpo h => ?_
  obtain ⟨es, rfl, hl, hs, h⟩ := h
  -- 0:_law_events 1:_law_event_here
  refine sw_one ?_
  refine s1_ret ?_
  refine ew_join ?_
  refine ew_str ?_
  refine ⟨_, rfl, ?_⟩
  refine ew_map1 es evD (fun e => .str (wordE e)) [("_law_event_here", 1)] sc.nd (.name (i := 1) (by decide) fun Y ⟨_, _, _, _, _, e⟩ => by subst e; exact pg_name (i := 1) sc.nd rfl (.inl rfl) (.inr rfl)) (blkOk_by (N := N_law_text) (sc := defScope s_law_text) (by decide +kernel)) (iw_list (ew_var 0 ⟨_, rfl, rfl, rfl⟩)) (Nat.le_trans hl (by decide)) (fun e he => ⟨_, rfl, fun O' Y hY => ?_⟩) ?_
  · obtain ⟨_, _, _, _, _, rfl⟩ := hY
    have hse := hs e he
    refine ew_if ?_
    refine tw_cmp ?_
    refine ew_callB (T.no Z.n_len) bt_len ?_
    refine aw_cons ?_
    refine ew_var 1 ?_
    refine aw_nil ?_
    cases e with
    | none =>
      refine cb_lenT ?_
      refine ew_int ?_
      walk_at "cmp Gt"
      refine ⟨_, rfl, fun ht => ?_, fun ht => ?_⟩
      · exact absurd ht (by decide +kernel)
      · refine ew_str ?_
        exact ⟨rfl, rfl⟩
    | some q =>
      obtain ⟨n, m⟩ := q
      obtain ⟨h1, h2, h3⟩ := hse
      have h4 := num_len h2 h3
      refine cb_lenT ?_
      refine ew_int ?_
      walk_at "cmp Gt"
      refine ⟨_, rfl, fun ht => ?_, fun ht => ?_⟩
      · refine ew_bin ?_
        refine ew_bin ?_
        refine ew_ix ?_
        refine ew_var 1 ?_
        refine ew_int ?_
        refine ix_tpl (atI_nat (j := 1) rfl) ?_
        refine ew_str ?_
        refine ob_cat (by rw [colon_len]; exact Nat.le_trans (Nat.add_le_add_right h1 1) (by decide)) ?_
        refine ew_callTy (T.no Z.n_str) bt_str ?_
        refine aw_cons ?_
        refine ew_ix ?_
        refine ew_var 1 ?_
        refine ew_int ?_
        refine ix_tpl (atI_nat (j := 2) rfl) ?_
        refine aw_nil ?_
        refine cb_strI (num_log h2 h3) ?_
        refine ob_cat (by rw [len_app, colon_len]; exact Nat.le_trans (Nat.add_le_add (Nat.add_le_add_right h1 1) h4) (by decide)) ?_
        exact ⟨rfl, rfl⟩
      · have ht : decide ((1 : Int) < 3) = false := ht
        exact absurd ht (by decide)
  · have e : (es.map fun e => Dat.str (wordE e)) = (es.map wordE).map .str := by rw [List.map_map]; rfl
    rw [e]
    refine m1_join ?_ h
    have hb := sum_le (g := fun e : Ev => (wordE e).length) (b := 201) fun e he => wordE_len (hs e he)
    rw [List.map_map, List.length_map, show (Str.ofString " ").length = 1 by decide +kernel]
    show (es.map fun e => (wordE e).length).sum + es.length * 1 ≤ _
    omega
theorem c_law_text (T : TopOf K mg) (Z : Facts K) : Cal P w K mg base false 1 "_law_text" TextS [] := cal_of T Z.d_law_text (by walk_at "b1") fun f fd F => fn_law_text T Z F
theorem two_at {α : Type} {d : Int} (h0 : 0 ≤ d) (h1 : d < 2) (a b : α) : atI [a, b] d = some (if d = 0 then a else b) := by
  have h : d = 0 ∨ d = 1 := by omega
  rcases h with rfl | rfl
  · exact atI_nat (j := 0) rfl
  · exact atI_nat (j := 1) rfl
theorem fn_law_row (T : TopOf K mg) (Z : Facts K) {f : Addr} {fd : FuncData} (F : L2.Fun K "_law_row" "_law_row" s_law_row f fd) : Fn P w K mg base false 2 f fd ["_law_box_here", "_law_names_here"] RowS := by
  have sc := sc_law_row
  refine fn_mk F sc_law_row (fun ss O R h => by obtain ⟨_, _, _, rfl, _⟩ := h; rfl) fun cdv A outer s H E ss O R hr hpo h => ?_
  obtain ⟨p, b, ws, rfl, hp, hb, hw0, hw1, hws, h⟩ := h
  -- 0:_law_box_here 1:_law_names_here 2:_law_found 3:_law_turn 4:_law_mark 5:_law_event_here
  refine sw_cons ?_
  refine s1_set 2 ?_ sc.nd
  refine ew_lst ?_
  refine aw_nil ?_
  refine ⟨by decide, fun q hq => ?_⟩
  have npq : p ≠ q := own_ne hp hq
  refine sw_cons ?_
  refine s1_for hpo ?_
  refine iw_range1 (T.no Z.n_range) ?_
  refine aw_cons ?_
  refine ew_call (c_law_take T Z) hr ?_
  refine aw_cons ?_
  refine ew_var 0 ?_
  refine aw_cons ?_
  refine ew_int ?_
  refine aw_nil ?_
  refine ⟨p, _, b, rfl, by rw [up_ne npq]; exact hp, hb, by decide, by decide, fun many b1 hm0 hm1 hb1 => ?_⟩
  refine aw_nil ?_
  refine ⟨many, rfl, by constructor <;> omega, ?_⟩
  refine ⟨fun i ρ' O' => ∃ (b' : Cell) (es : List Ev) (s3 s4 s5 : Slot), ρ' = [.own p, .dat (.lst (ws.map .str)), .own q, s3, s4, s5] ∧ O' = up (up O p b') q (.lst ((es.map evD).map .dat)) ∧ isBox b' ∧ es.length = i ∧ ∀ e ∈ es, goodE e, ?_, ?_, ?_⟩
  · refine ⟨b1, [], _, _, _, rfl, ?_, hb1, rfl, fun e he => by cases he⟩
    exact up_swap npq.symm
  · intro i d ρ2 O2 hj hd
    obtain ⟨b', es, s3, s4, s5, rfl, rfl, hb', hes, hgood⟩ := hj
    obtain ⟨hi, rfl⟩ := rangeD_at hd
    have hi : i < 21 := by omega
    refine gw_name 3 ?_ sc.nd
    refine sw_cons ?_
    refine s1_set 4 ?_ sc.nd
    refine ew_ix ?_
    refine ew_lstD ?_
    refine aw_cons ?_
    refine ew_var 3 ?_
    refine aw_cons ?_
    refine ew_bin ?_
    refine ew_bin ?_
    refine ew_bin ?_
    refine ew_int ?_
    refine ew_int ?_
    walk_at "op pow"
    refine ew_bin ?_
    refine ew_var 3 ?_
    refine ew_int ?_
    walk_at "op add"
    walk_at "op mul"
    refine ew_call (c_law_take T Z) hr ?_
    refine aw_cons ?_
    refine ew_var 0 ?_
    refine aw_cons ?_
    refine ew_bin ?_
    refine ew_int ?_
    refine ew_int ?_
    walk_at "op pow"
    refine aw_nil ?_
    refine ⟨p, _, b', rfl, by rw [up_ne npq]; exact up_at, hb', by decide, by decide, fun r b2 hr0 hr1 hb2 => ?_⟩
    have hr1 : r < 1000000 := hr1
    walk_at "op add"
    refine aw_nil ?_
    refine ⟨[_, _], rfl, by walk_at "few", ?_⟩
    refine ew_call (c_law_take T Z) hr ?_
    refine aw_cons ?_
    refine ew_var 0 ?_
    refine aw_cons ?_
    refine ew_int ?_
    refine aw_nil ?_
    refine ⟨p, _, b2, rfl, up_at, hb2, by decide, by decide, fun c b3 hc0 hc1 hb3 => ?_⟩
    refine ix_lst (two_at hc0 hc1 _ _) ?_
    obtain ⟨m, em, hm0, hm1⟩ : ∃ m : Int, (if c = 0 then Dat.int (0 + (i : Int)) else Dat.int ((10 : Int) ^ (6 : Int).toNat * (0 + (i : Int) + 1) + r)) = .int m ∧ 0 ≤ m ∧ m < 10 ^ 9 := by
      have e6 : (10 : Int) ^ (6 : Int).toNat = 1000000 := by decide
      split
      · exact ⟨_, rfl, by omega, by omega⟩
      · refine ⟨_, rfl, ?_, ?_⟩
        · rw [e6]; omega
        · rw [e6]; omega
    rw [em]
    refine sw_cons ?_
    refine s1_set 5 ?_ sc.nd
    refine ew_tup ?_
    refine aw_cons ?_
    refine ew_str ?_
    refine aw_cons ?_
    refine ew_ix ?_
    refine ew_var 1 ?_
    refine ew_call (c_law_take T Z) hr ?_
    refine aw_cons ?_
    refine ew_var 0 ?_
    refine aw_cons ?_
    refine ew_callB (T.no Z.n_len) bt_len ?_
    refine aw_cons ?_
    refine ew_var 1 ?_
    refine aw_nil ?_
    walk_at "cb len"
    refine aw_nil ?_
    refine ⟨p, _, b3, rfl, up_at, hb3, by rw [List.length_map]; omega, by rw [List.length_map]; omega, fun j b4 hj0 hj1 hb4 => ?_⟩
    rw [List.length_map] at hj1
    have hy : ws[j.toNat]? = some ws[j.toNat] := List.getElem?_eq_getElem (by omega)
    generalize ws[j.toNat] = y at hy
    have hyn := hws y (List.mem_of_getElem? hy)
    have haty : atI (ws.map Dat.str) j = some (.str y) := by
      rw [show j = ((j.toNat : Nat) : Int) by omega]
      exact atI_nat (by rw [List.getElem?_map, hy]; rfl)
    refine ix_lst haty ?_
    refine aw_cons ?_
    refine ew_var 4 ?_
    refine aw_nil ?_
    refine ⟨[_, _, _], rfl, by walk_at "few", ?_⟩
    refine sw_one ?_
    refine s1_expr ?_
    refine ew_append ?_
    refine ew_var 2 ?_
    refine ⟨?_, ?_⟩
    · exact ⟨rfl, _, by rw [up_ne npq.symm, up_ne npq.symm, up_ne npq.symm]; exact up_at⟩
    refine ew_ix ?_
    refine ew_lstD ?_
    refine aw_cons ?_
    refine ew_var 5 ?_
    refine aw_cons ?_
    refine ew_tup ?_
    refine aw_cons ?_
    refine ew_str ?_
    refine aw_nil ?_
    refine ⟨[_], rfl, by walk_at "few", ?_⟩
    refine aw_nil ?_
    refine ⟨[_, _], rfl, by walk_at "few", ?_⟩
    refine ew_call (c_law_take T Z) hr ?_
    refine aw_cons ?_
    refine ew_var 0 ?_
    refine aw_cons ?_
    refine ew_int ?_
    refine aw_nil ?_
    refine ⟨p, _, b4, rfl, up_at, hb4, by decide, by decide, fun v b5 hv0 hv1 hb5 => ?_⟩
    refine ix_lst (two_at hv0 hv1 _ _) ?_
    obtain ⟨e, he, hge⟩ : ∃ e : Ev, (if v = 0 then Dat.tup [.str "open", .str y, .int m] else .tup [.str "close"]) = evD e ∧ goodE e := by
      split
      · exact ⟨some (y, m), rfl, hyn, hm0, hm1⟩
      · exact ⟨none, rfl, trivial⟩
    rw [he]
    rw [up_up, up_up, up_up]
    refine mb_append (by rw [up_ne npq.symm]; exact up_at) (by rw [List.length_map, List.length_map]; exact Nat.lt_of_le_of_lt (show es.length ≤ 1000 by omega) (by decide)) ?_
    refine ⟨b5, es ++ [e], _, _, _, rfl, ?_, hb5, by rw [List.length_append, hes]; rfl, fun e' he' => ?_⟩
    · rw [List.map_append, List.map_append]
      walk_at "own"
    · rcases List.mem_append.mp he' with q | q
      · exact hgood e' q
      · rw [List.mem_singleton.mp q]; exact hge
  · intro ρ2 O2 hj
    obtain ⟨b', es, s3, s4, s5, rfl, rfl, hb', hes, hgood⟩ := hj
    rw [rangeD_len] at hes
    refine sw_one ?_
    refine s1_ret ?_
    refine ew_var 2 ?_
    exact h q b' es hq hb' (by omega) hgood
theorem c_law_row (T : TopOf K mg) (Z : Facts K) : Cal P w K mg base false 2 "_law_row" RowS [] := cal_of T Z.d_law_row (by walk_at "b2") fun f fd F => fn_law_row T Z F
end
def TxtOk (z : Str) : Prop := z.length ≤ 1000 ∧ sml z
def LNameS : SpecT := fun ss O R => ∃ z : Str, ss = [.dat (.str z)] ∧ TxtOk z ∧ R (.ret (.dat (.bl (isNm z)))) O
def LFigS : SpecT := fun ss O R => ∃ z : Str, ss = [.dat (.str z)] ∧ TxtOk z ∧ R (.ret (.dat (.bl (isFg z)))) O
def LEventS : SpecT := fun ss O R => ∃ z : Str, ss = [.dat (.str z)] ∧ TxtOk z ∧ R (.ret (.dat (evR (evS z)))) O
def sgn (c : Nat) : Dat := .str ⟨#[c]⟩
theorem fine_sgn {z : Str} (h : sml z) {g : Nat → Bool} : fine (.lst (((sgs z).filter g).map sgn)) = true := fines_map fun c hc => by
  have h1 := h c (List.mem_filter.mp hc).1
  show smlB ⟨#[c]⟩ = true
  exact sml_b fun x hx => by rw [List.mem_singleton.mp (show x ∈ [c] from hx)]; exact h1
theorem dep_sgn {l : List Nat} : dep (.lst (l.map sgn)) ≤ 64 := by
  have := deps_map (f := sgn) (l := l) (b := 0) fun c _ => Nat.le_refl 0
  rw [dep_lst]; omega
theorem shaped_nil : SeqAt.shaped (toPy (.lst [])) = true := by decide +kernel
theorem none_bad {z L : Str} : (((sgs z).filter fun c => !decide (c ∈ sgs L)).map sgn).isEmpty = (sgs z).all fun c => decide (c ∈ sgs L) := by
  rw [List.isEmpty_map]
  induction sgs z with
  | nil => rfl
  | cons a r ih =>
    rw [List.filter_cons, List.all_cons]
    by_cases h : a ∈ sgs L
    · rw [decide_eq_true h]; exact ih
    · rw [decide_eq_false h]; rfl
section
variable {P : Program} {w : World} {K : PySem.W.Frag} {mg : Str → Option Value} {base : Heap}
theorem fn_law_is_name (T : TopOf K mg) (Z : Facts K) {f : Addr} {fd : FuncData} (F : L2.Fun K "_law_is_name" "_law_is_name" s_law_is_name f fd) : Fn P w K mg base false 1 f fd ["_law_word"] LNameS := by
  have sc := sc_law_is_name
  refine fn_mk F sc_law_is_name (fun ss O R h => by obtain ⟨_, rfl, _⟩ := h; rfl) fun cdv A outer s H E ss O R hr hpo h => ?_
  obtain ⟨z, rfl, hz, h⟩ := h
  have hzl : z.length ≤ sizeLine := Nat.le_trans hz.1 (by decide)
  -- 0:_law_word 1:_law_letters 2:_law_sign
  refine sw_cons ?_
  refine s1_set 1 ?_ sc.nd
  refine ew_str ?_
  refine sw_cons ?_
  refine s1_if ?_
  refine tw_w ?_
  refine tww_or ?_
  refine tw_cmp ?_
  refine ew_var 0 ?_
  refine ew_tup ?_
  refine aw_cons ?_
  refine ew_str ?_
  refine aw_cons ?_
  refine ew_str ?_
  refine aw_cons ?_
  refine ew_str ?_
  refine aw_nil ?_
  refine ⟨[_, _, _], rfl, by walk_at "few", ?_⟩
  refine ob_inT (ws := takenW) ?_
  refine ⟨_, rfl, fun ht => ?_, fun ht => ?_⟩
  · have e : isNm z = false := by
      unfold isNm
      rw [ht, Bool.not_true, Bool.and_false]
    rw [e] at h
    refine ⟨fun hb => ?_, fun hb => ?_⟩
    · refine sw_one ?_
      refine s1_ret ?_
      refine ew_bl ?_
      exact h
    · exact absurd hb (by decide)
  · refine tww_or1 ?_
    refine tw_not ?_
    refine tw_chain ?_
    refine ew_int ?_
    refine ew_callB (T.no Z.n_len) bt_len ?_
    refine aw_cons ?_
    refine ew_var 0 ?_
    refine aw_nil ?_
    refine cb_lenS hzl ?_
    walk_at "cmp Lt"
    refine ⟨rfl, _, rfl, fun hc => ?_, fun hc => ?_⟩
    · refine ew_int ?_
      walk_at "cmp Lt"
      refine ⟨_, rfl, fun ht2 => ?_, fun ht2 => ?_⟩
      · have e : isNm z = false := by
          have e1 : decide (z.length ≤ 8) = false := decide_eq_false fun q => by
            have e2 : decide ((z.length : Int) < 9) = false := by
              cases hq : decide ((z.length : Int) < 9) with
              | false => rfl
              | true => rw [hq] at ht2; cases ht2
            exact of_decide_eq_false e2 (by omega)
          unfold isNm madeOf
          rw [e1, Bool.false_and, Bool.and_false, Bool.false_and]
        rw [e] at h
        refine sw_one ?_
        refine s1_ret ?_
        refine ew_bl ?_
        exact h
      · refine sw_nil ?_
        refine sw_one ?_
        refine s1_ret ?_
        refine ew_cmp ?_
        refine ew_map (sgs z) sgn sgn (fun c => !decide (c ∈ sgs ltrs)) [("_law_sign", 2)] sc.nd (.name (i := 2) (by decide) fun Y ⟨_, _, _, _, _, e⟩ => by subst e; exact pg_name (i := 2) sc.nd rfl (.inl rfl) (.inr rfl)) (blkOk_by (N := N_law_is_name) (sc := defScope s_law_is_name) (by decide +kernel)) (iw_str (ew_var 0 ⟨z, rfl, rfl, rfl⟩)) (by rw [← sgs_len]; exact hzl) (fun c hcm => ⟨_, rfl, fun O' Y hY => ?_⟩) ?_
        · obtain ⟨_, _, _, _, _, rfl⟩ := hY
          refine ⟨tsw_one ?_, fun _ => ?_⟩
          · refine tw_cmp ?_
            refine ew_var 2 ?_
            refine ew_var 1 ?_
            refine ob_niS ?_
            exact ⟨_, rfl, rfl, rfl⟩
          · refine ew_var 2 ?_
            exact ⟨rfl, rfl⟩
        · refine ew_lstD ?_
          refine aw_nil ?_
          refine ⟨[], rfl, by decide, ?_⟩
          have hf := fine_sgn (g := fun c => !decide (c ∈ sgs ltrs)) hz.2
          refine ob_eq (hr.r.mono (by decide)) (fine_all _ hf).1 rfl (shape_of hf dep_sgn) shaped_nil ?_
          rw [eqD_nil, none_bad]
          have e : isNm z = (sgs z).all fun c => decide (c ∈ sgs ltrs) := by
            have h1 : decide (0 < z.length) = true := decide_eq_true (by have := of_decide_eq_true hc; omega)
            have h2 : decide (z.length ≤ 8) = true := decide_eq_true (by
              have e2 : decide ((z.length : Int) < 9) = true := by
                cases hq : decide ((z.length : Int) < 9) with
                | true => rfl
                | false => rw [hq] at ht2; cases ht2
              have := of_decide_eq_true e2
              omega)
            unfold isNm madeOf
            rw [h1, h2, ht, Bool.true_and, Bool.true_and, Bool.not_false, Bool.and_true]
          rw [e] at h
          exact h
    · have e : isNm z = false := by
        have e1 : decide (0 < z.length) = false := decide_eq_false fun q => of_decide_eq_false hc (by omega)
        unfold isNm madeOf
        rw [e1, Bool.false_and, Bool.false_and]
      rw [e] at h
      refine ⟨fun ht2 => ?_, fun ht2 => ?_⟩
      · refine sw_one ?_
        refine s1_ret ?_
        refine ew_bl ?_
        exact h
      · exact absurd ht2 (by decide)
theorem c_law_is_name (T : TopOf K mg) (Z : Facts K) : Cal P w K mg base false 1 "_law_is_name" LNameS [] := cal_of T Z.d_law_is_name (by walk_at "b1") fun f fd F => fn_law_is_name T Z F
end
section
variable {P : Program} {w : World} {K : PySem.W.Frag} {mg : Str → Option Value} {base : Heap}
theorem ne_nil (ds : List Dat) : (!eqD (.lst ds) (.lst [])) = !ds.isEmpty := by rw [eqD_nil]
theorem fn_law_is_figure (T : TopOf K mg) (Z : Facts K) {f : Addr} {fd : FuncData} (F : L2.Fun K "_law_is_figure" "_law_is_figure" s_law_is_figure f fd) : Fn P w K mg base false 1 f fd ["_law_word"] LFigS := by
  have sc := sc_law_is_figure
  refine fn_mk F sc_law_is_figure (fun ss O R h => by obtain ⟨_, rfl, _⟩ := h; rfl) fun cdv A outer s H E ss O R hr hpo h => ?_
  obtain ⟨z, rfl, hz, h⟩ := h
  have hzl : z.length ≤ sizeLine := Nat.le_trans hz.1 (by decide)
  -- 0:_law_word 1:_law_sign
  refine sw_cons ?_
  refine s1_if ?_
  refine tw_w ?_
  refine tww_or ?_
  refine tw_not ?_
  refine tw_chain ?_
  refine ew_int ?_
  refine ew_callB (T.no Z.n_len) bt_len ?_
  refine aw_cons ?_
  refine ew_var 0 ?_
  refine aw_nil ?_
  refine cb_lenS hzl ?_
  walk_at "cmp Lt"
  refine ⟨rfl, _, rfl, fun hc => ?_, fun hc => ?_⟩
  · have h1 : decide (0 < z.length) = true := decide_eq_true (by have := of_decide_eq_true hc; omega)
    refine ew_int ?_
    walk_at "cmp Lt"
    refine ⟨_, rfl, ?_⟩
    refine ⟨fun ht => ?_, fun ht => ?_⟩
    · have e : isFg z = false := by
        have e1 : decide (z.length ≤ 12) = false := decide_eq_false fun q => by
          rw [decide_eq_true (show (z.length : Int) < 13 by omega)] at ht
          cases ht
        unfold isFg madeOf
        rw [e1, Bool.false_and, Bool.and_false, Bool.false_and]
      rw [e] at h
      refine ⟨fun hb => ?_, fun hb => absurd hb (by decide)⟩
      refine sw_one ?_
      refine s1_ret ?_
      refine ew_bl ?_
      exact h
    · have h2 : decide (z.length ≤ 12) = true := decide_eq_true (by
        cases hq : decide ((z.length : Int) < 13) with
        | true =>
          have := of_decide_eq_true hq
          omega
        | false => rw [hq] at ht; cases ht)
      refine tww_or1 ?_
      refine tw_cmp ?_
      refine ew_map (sgs z) sgn sgn (fun c => !decide (c ∈ sgs digs)) [("_law_sign", 1)] sc.nd (.name (i := 1) (by decide) fun Y ⟨_, _, _, _, _, e⟩ => by subst e; exact pg_name (i := 1) sc.nd rfl (.inl rfl) (.inr rfl)) (blkOk_by (N := N_law_is_figure) (sc := defScope s_law_is_figure) (by decide +kernel)) (iw_str (ew_var 0 ⟨z, rfl, rfl, rfl⟩)) (by rw [← sgs_len]; exact hzl) (fun c hcm => ⟨_, rfl, fun O' Y hY => ?_⟩) ?_
      · obtain ⟨_, _, _, _, _, rfl⟩ := hY
        refine ⟨tsw_one ?_, fun _ => ?_⟩
        · refine tw_cmp ?_
          refine ew_var 1 ?_
          refine ew_str ?_
          refine ob_niS ?_
          exact ⟨_, rfl, rfl, rfl⟩
        · refine ew_var 1 ?_
          exact ⟨rfl, rfl⟩
      · refine ew_lstD ?_
        refine aw_nil ?_
        refine ⟨[], rfl, by decide, ?_⟩
        have hf := fine_sgn (g := fun c => !decide (c ∈ sgs digs)) hz.2
        refine ob_ne (hr.r.mono (by decide)) (fine_all _ hf).1 rfl (shape_of hf dep_sgn) shaped_nil ?_
        rw [eqD_nil, none_bad]
        refine ⟨_, rfl, fun ht2 => ?_, fun ht2 => ?_⟩
        · have e : isFg z = false := by
            have e3 : ((sgs z).all fun c => decide (c ∈ sgs digs)) = false := by
              cases hq : ((sgs z).all fun c => decide (c ∈ sgs digs)) with
              | false => rfl
              | true => rw [hq] at ht2; cases ht2
            unfold isFg madeOf
            rw [e3, Bool.and_false, Bool.and_false, Bool.false_and]
          rw [e] at h
          refine sw_one ?_
          refine s1_ret ?_
          refine ew_bl ?_
          exact h
        · have e3 : ((sgs z).all fun c => decide (c ∈ sgs digs)) = true := by
            cases hq : ((sgs z).all fun c => decide (c ∈ sgs digs)) with
            | true => rfl
            | false => rw [hq] at ht2; cases ht2
          have hm : madeOf z digs 12 = true := by
            unfold madeOf
            rw [h1, h2, e3]; rfl
          have e : isFg z = figL (sgs z) := by
            unfold isFg
            rw [hm, Bool.true_and]
          rw [e] at h
          refine sw_nil ?_
          refine sw_one ?_
          refine s1_ret ?_
          refine ew_or ?_
          refine ew_cmp ?_
          refine ew_var 0 ?_
          refine ew_str ?_
          walk_at "cmp Eq"
          refine ⟨_, rfl, fun hc => ?_, fun hc => ?_⟩
          · rw [fig_zero (of_decide_eq_true hc)] at h
            exact h
          · obtain ⟨c, hx, e2⟩ := fig_first hm (of_decide_eq_false hc)
            refine ew_one ?_
            refine ew_cmp ?_
            refine ew_ix ?_
            refine ew_var 0 ?_
            refine ew_int ?_
            refine ix_sgn hzl hx ?_
            refine ew_str ?_
            walk_at "cmp NotEq"
            rw [e2] at h
            exact h
  · have e : isFg z = false := by
      have e1 : decide (0 < z.length) = false := decide_eq_false fun q => of_decide_eq_false hc (by omega)
      unfold isFg madeOf
      rw [e1, Bool.false_and, Bool.false_and]
    rw [e] at h
    refine ⟨fun _ => ⟨fun hb => ?_, fun hb => absurd hb (by decide)⟩, fun hb => absurd hb (by decide)⟩
    refine sw_one ?_
    refine s1_ret ?_
    refine ew_bl ?_
    exact h
theorem c_law_is_figure (T : TopOf K mg) (Z : Facts K) : Cal P w K mg base false 1 "_law_is_figure" LFigS [] := cal_of T Z.d_law_is_figure (by walk_at "b1") fun f fd F => fn_law_is_figure T Z F
theorem TxtOk.cut {z : Str} {lo hi : Option Int} (h : TxtOk z) : TxtOk (cutS z lo hi) := ⟨Nat.le_trans cutS_len h.1, sml_cut h.2⟩
theorem fn_law_event (T : TopOf K mg) (Z : Facts K) {f : Addr} {fd : FuncData} (F : L2.Fun K "_law_event" "_law_event" s_law_event f fd) : Fn P w K mg base false 2 f fd ["_law_word"] LEventS := by
  have sc := sc_law_event
  refine fn_mk F sc_law_event (fun ss O R h => by obtain ⟨_, rfl, _⟩ := h; rfl) fun cdv A outer s H E ss O R hr hpo h => ?_
  obtain ⟨z, rfl, hz, h⟩ := h
  have hzl : z.length ≤ sizeLine := Nat.le_trans hz.1 (by decide)
  -- 0:_law_word 1:_law_spot
  refine sw_cons ?_
  refine s1_if ?_
  refine tw_cmp ?_
  refine ew_var 0 ?_
  refine ew_str ?_
  walk_at "cmp Eq"
  refine ⟨_, rfl, fun ht => ?_, fun ht => ?_⟩
  · refine sw_one ?_
    refine s1_ret ?_
    refine ew_tup ?_
    refine aw_cons ?_
    refine ew_str ?_
    refine aw_nil ?_
    refine ⟨[_], rfl, by walk_at "few", ?_⟩
    have e : evS z = some none := if_pos (of_decide_eq_true ht)
    rw [e] at h
    exact h
  · have h0 : ¬ z = "/" := of_decide_eq_false ht
    refine sw_nil ?_
    refine sw_cons ?_
    refine s1_set 1 ?_ sc.nd
    refine ew_find ?_
    refine ew_var 0 ?_
    refine ⟨_, rfl, ?_⟩
    refine ew_str ?_
    walk_at "m1 find"
    refine sw_cons ?_
    refine s1_if ?_
    refine tw_w ?_
    refine tww_or ?_
    refine tw_cmp ?_
    refine ew_var 1 ?_
    refine ew_int ?_
    walk_at "cmp Lt"
    rcases cut_at z ":" with ⟨e1, e2⟩ | ⟨i, e1, e2⟩
    · rw [e1]
      have e : evS z = none := evS_none h0 (by rw [e2]; exact Bool.and_false _)
      rw [e] at h
      refine ⟨_, rfl, fun ht => ?_, fun ht => ?_⟩
      · refine ⟨fun hb => ?_, fun hb => ?_⟩
        · refine sw_one ?_
          refine s1_ret ?_
          refine ew_non ?_
          exact h
        · exact absurd hb (by decide)
      · exact absurd ht (by decide)
    · rw [e1]
      rw [colon_len] at e2
      have f1 : (Txt.partition z ":").1 = cutS z none (some (i : Int)) := by rw [e2]
      have f2 : (Txt.partition z ":").2.1 = ":" := by rw [e2]
      have f3 : (Txt.partition z ":").2.2 = cutS z (some ((i : Int) + 1)) none := by rw [e2]; rfl
      have fc : decide ((Txt.partition z ":").2.1 = "") = false := by rw [f2]; decide +kernel
      refine ⟨_, rfl, fun ht => ?_, fun ht => ?_⟩
      · exact absurd (of_decide_eq_true ht) (by omega)
      · refine tww_or ?_
        refine tw_not ?_
        refine tw_val ?_
        refine ew_call (c_law_is_name T Z) hr ?_
        refine aw_cons ?_
        refine ew_slice ?_
        refine ew_var 0 ?_
        refine ow_none ?_
        refine ow_some ?_
        refine ew_var 1 ?_
        refine ⟨_, rfl, ?_⟩
        refine sb_str hzl ?_
        refine aw_nil ?_
        refine ⟨_, rfl, hz.cut, ?_⟩
        refine ⟨_, rfl, fun ht => ?_, fun ht => ?_⟩
        · have e : evS z = none := evS_none h0 (by
            rw [f1]
            cases hq : isNm (cutS z none (some (i : Int))) with
            | false => rfl
            | true => rw [hq] at ht; cases ht)
          rw [e] at h
          refine ⟨fun hb => ?_, fun hb => absurd hb (by decide)⟩
          refine sw_one ?_
          refine s1_ret ?_
          refine ew_non ?_
          exact h
        · have hnm : isNm (cutS z none (some (i : Int))) = true := by
            cases hq : isNm (cutS z none (some (i : Int))) with
            | true => rfl
            | false => rw [hq] at ht; cases ht
          refine tww_or1 ?_
          refine tw_not ?_
          refine tw_val ?_
          refine ew_call (c_law_is_figure T Z) hr ?_
          refine aw_cons ?_
          refine ew_slice ?_
          refine ew_var 0 ?_
          refine ow_some ?_
          refine ew_bin ?_
          refine ew_var 1 ?_
          refine ew_int ?_
          walk_at "op add"
          refine ⟨_, rfl, ?_⟩
          refine ow_none ?_
          refine sb_str hzl ?_
          refine aw_nil ?_
          refine ⟨_, rfl, hz.cut, ?_⟩
          refine ⟨_, rfl, fun ht => ?_, fun ht => ?_⟩
          · have e : evS z = none := evS_none h0 (by
              rw [f3]
              cases hq : isFg (cutS z (some ((i : Int) + 1)) none) with
              | false => rw [Bool.and_false, Bool.and_false]
              | true => rw [hq] at ht; cases ht)
            rw [e] at h
            refine sw_one ?_
            refine s1_ret ?_
            refine ew_non ?_
            exact h
          · have hfg : isFg (cutS z (some ((i : Int) + 1)) none) = true := by
              cases hq : isFg (cutS z (some ((i : Int) + 1)) none) with
              | true => rfl
              | false => rw [hq] at ht; cases ht
            obtain ⟨hi, hl⟩ := fig_int hfg
            have e : evS z = some (some (cutS z none (some (i : Int)), figV (cutS z (some ((i : Int) + 1)) none))) := by
              have := evS_open h0 (by rw [f1]; exact hnm) fc (by rw [f3]; exact hfg)
              rw [f1, f3] at this
              exact this
            rw [e] at h
            refine sw_nil ?_
            refine sw_one ?_
            refine s1_ret ?_
            refine ew_tup ?_
            refine aw_cons ?_
            refine ew_str ?_
            refine aw_cons ?_
            refine ew_slice ?_
            refine ew_var 0 ?_
            refine ow_none ?_
            refine ow_some ?_
            refine ew_var 1 ?_
            refine ⟨_, rfl, ?_⟩
            refine sb_str hzl ?_
            refine aw_cons ?_
            refine ew_callTy (T.no Z.n_int) bt_int ?_
            refine aw_cons ?_
            refine ew_slice ?_
            refine ew_var 0 ?_
            refine ow_some ?_
            refine ew_bin ?_
            refine ew_var 1 ?_
            refine ew_int ?_
            walk_at "op add"
            refine ⟨_, rfl, ?_⟩
            refine ow_none ?_
            refine sb_str hzl ?_
            refine aw_nil ?_
            refine cb_intS hi (by omega) ?_
            refine aw_nil ?_
            refine ⟨[_, _, _], rfl, by walk_at "few", ?_⟩
            exact h
theorem c_law_event (T : TopOf K mg) (Z : Facts K) : Cal P w K mg base false 2 "_law_event" LEventS [] := cal_of T Z.d_law_event (by walk_at "b1") fun f fd F => fn_law_event T Z F
end
/-! what is read of a word is small -/
theorem digits_lt : ∀ (cs : List Nat) (a : Nat), (∀ c ∈ cs, 48 ≤ c ∧ c ≤ 57) → cs.foldl (fun acc c => acc * 10 + (c - 48)) a < (a + 1) * 10 ^ cs.length
  | [], a, _ => by
    show a < (a + 1) * 1
    omega
  | c :: cs, a, h => by
    have hc := h c List.mem_cons_self
    have e := digits_lt cs (a * 10 + (c - 48)) fun d hd => h d (List.mem_cons_of_mem _ hd)
    rw [List.foldl_cons, List.length_cons, Nat.pow_succ]
    refine Nat.lt_of_lt_of_le e ?_
    rw [Nat.mul_comm (10 ^ cs.length) 10, ← Nat.mul_assoc]
    exact Nat.mul_le_mul_right _ (by omega)
theorem figV_lt {z : Str} (h : isFg z = true) : 0 ≤ figV z ∧ figV z < 10 ^ 12 := by
  obtain ⟨h1, h2, h3⟩ := madeOf_pos (Bool.and_eq_true_iff.mp h).1
  have e := digits_lt (sgs z) 0 fun c hc => digs_mem.mp (h3 c hc)
  have e2 : (0 + 1) * 10 ^ (sgs z).length ≤ 10 ^ 12 := by
    rw [Nat.zero_add, Nat.one_mul, ← sgs_len]
    exact Nat.pow_le_pow_right (by decide) h2
  have e3 : NumText.digitsVal (sgs z) < 10 ^ 12 := Nat.lt_of_lt_of_le e e2
  refine ⟨Int.natCast_nonneg _, ?_⟩
  show ((NumText.digitsVal (sgs z) : Nat) : Int) < 10 ^ 12
  omega
theorem nm_len {z : Str} (h : isNm z = true) : z.length ≤ 8 := (madeOf_pos (Bool.and_eq_true_iff.mp h).1).2.1
theorem nm_sml {z : Str} (h : isNm z = true) : sml z := fun c hc => by
  have := ltrs_mem.mp ((madeOf_pos (Bool.and_eq_true_iff.mp h).1).2.2 c hc)
  omega
/-- an event that may be shown -/
def showE : Ev → Prop
  | none => True
  | some (n, m) => isNm n = true ∧ 0 ≤ m ∧ m < 10 ^ 12
theorem evS_show {y : Str} {e : Ev} (h : evS y = some e) : showE e := by
  unfold evS at h
  split at h
  · cases h; trivial
  · split at h
    · rename_i h2
      cases h
      simp only [Bool.and_eq_true] at h2
      exact ⟨h2.1, figV_lt h2.2.2⟩
    · cases h
theorem fine_str {s : Str} (h : sml s) : fine (.str s) = true := sml_b h
theorem fine_tup {ds : List Dat} (h : fines ds = true) : fine (.tup ds) = true := h
theorem fine_ev {e : Ev} (h : showE e) : fine (evD e) = true := by
  cases e with
  | none => exact (by decide +kernel : fine (.tup [.str "close"]) = true)
  | some q =>
    obtain ⟨n, m⟩ := q
    obtain ⟨h1, h2, h3⟩ := h
    show (fine (.str "open") && (fine (.str n) && (fine (.int m) && true))) = true
    rw [fine_str (nm_sml h1), fine_nat h2 h3, show fine (.str "open") = true by decide +kernel]; rfl
theorem dep_ev (e : Ev) : dep (evD e) ≤ 1 := by
  cases e with
  | none => exact Nat.le_refl 1
  | some q => exact Nat.le_refl 1
theorem wgt_ev {e : Ev} (h : showE e) : wgt (evD e) ≤ 100 := by
  cases e with
  | none => exact (by decide +kernel : wgt (.tup [.str "close"]) ≤ 100)
  | some q =>
    obtain ⟨n, m⟩ := q
    obtain ⟨h1, h2, h3⟩ := h
    have e1 := wgt_nat h2 h3
    have e2 := nm_len h1
    show wgt (.str "open") + 1 + (n.cps.size + 1 + (wgt (.int m) + 1 + 0)) ≤ 100
    have e3 : wgt (.str "open") = 4 := by decide +kernel
    have e4 : n.cps.size ≤ 8 := e2
    omega
theorem fine_evR {y : Str} : fine (evR (evS y)) = true := by
  cases h : evS y with
  | none => rfl
  | some e => exact fine_ev (evS_show h)
theorem dep_evR {o : Option Ev} : dep (evR o) ≤ 1 := by
  cases o with
  | none => exact Nat.zero_le _
  | some e => exact dep_ev e
/-! what is due -/
def dueD (z : Str) : Dat := match (wordsS z).findIdx? badW with
  | some i => .tup [.str "at", .int (i : Int)]
  | none => .tup [.str "events", .lst (((wordsS z).filterMap evS).map evD)]
def DueS : SpecT := fun ss O R => ∃ z : Str, ss = [.dat (.str z)] ∧ TxtOk z ∧ R (.ret (.dat (dueD z))) O
theorem any_none : ∀ ws : List Str, ((toPys (ws.map fun y => evR (evS y))).any fun d => PyData.eqv d (toPy .non)) = ws.any badW
  | [] => rfl
  | y :: ws => by
    rw [List.any_cons, ← any_none ws]
    show (PyData.eqv (toPy (evR (evS y))) (toPy .non) || _) = _
    have e : PyData.eqv (toPy (evR (evS y))) (toPy .non) = badW y := by
      unfold badW
      cases evS y with
      | none => rfl
      | some e => cases e <;> rfl
    rw [e]
theorem all_read : ∀ {ws : List Str}, (∀ y ∈ ws, badW y = false) → (ws.map fun y => evR (evS y)) = (ws.filterMap evS).map evD
  | [], _ => rfl
  | y :: ws, h => by
    have h1 := h y List.mem_cons_self
    have h2 := all_read fun x hx => h x (List.mem_cons_of_mem y hx)
    rw [List.map_cons, h2]
    unfold badW at h1
    cases e : evS y with
    | none => rw [e] at h1; cases h1
    | some v => rw [List.filterMap_cons, e]; rfl
theorem words_le (z : Str) (h : TxtOk z) : (wordsS z).length ≤ 1001 := by
  have := wordsS_count z
  have := h.1
  omega
section
variable {P : Program} {w : World} {K : PySem.W.Frag} {mg : Str → Option Value} {base : Heap}
theorem fn_law_due (T : TopOf K mg) (Z : Facts K) {f : Addr} {fd : FuncData} (F : L2.Fun K "_law_due" "_law_due" s_law_due f fd) : Fn P w K mg base false 3 f fd ["_law_text_here"] DueS := by
  have sc := sc_law_due
  refine fn_mk F sc_law_due (fun ss O R h => by obtain ⟨_, rfl, _⟩ := h; rfl) fun cdv A outer s H E ss O R hr hpo h => ?_
  obtain ⟨z, rfl, hz, h⟩ := h
  have hzl : z.length ≤ sizeLine := Nat.le_trans hz.1 (by decide)
  -- 0:_law_text_here 1:_law_found 2:_law_word
  have tail : SW (cxOf (L2.CX P w) P w K mg base N_law_due "_law_due" (defScope s_law_due) f cdv A outer s H E) O [.dat (.str z), .dat (.lst ((wordsS z).map fun y => evR (evS y))), .unk] ((defBody s_law_due).drop 1) (fun e x O' => R (.exc e) O') { nx := fun _ O' => R (.ret (.dat .non)) O', rt := fun z O' => R (.ret z) O' } := by
    have hf : fine (.lst ((wordsS z).map fun y => evR (evS y))) = true := fines_map fun y _ => fine_evR
    have hs := shape_of hf (by
      have := deps_map (f := fun y => evR (evS y)) (l := wordsS z) (b := 1) fun y _ => dep_evR
      rw [dep_lst]; omega)
    refine sw_one ?_
    refine s1_ret ?_
    refine ew_if ?_
    refine tw_cmp ?_
    refine ew_non ?_
    refine ew_var 1 ?_
    refine ob_inD (hr.r.mono (by decide)) (fine_all _ hf).1 rfl hs (by decide +kernel) ?_
    rw [any_none]
    refine ⟨_, rfl, fun ht => ?_, fun ht => ?_⟩
    · obtain ⟨i, hi⟩ : ∃ i, (wordsS z).findIdx? badW = some i := by
        have e : ((wordsS z).findIdx? badW).isSome = true := by rw [List.findIdx?_isSome]; exact ht
        exact Option.isSome_iff_exists.mp e
      obtain ⟨hl, hb, hno⟩ := List.findIdx?_eq_some_iff_getElem.mp hi
      refine ew_tup ?_
      refine aw_cons ?_
      refine ew_str ?_
      refine aw_cons ?_
      refine ew_index ?_
      refine ew_var 1 ?_
      refine ⟨?_, ?_⟩
      · exact rfl
      refine ew_non ?_
      refine mb_index (j := i) (z := evR (evS (wordsS z)[i])) (hr.r.mono (by decide)) (fine_all _ hf).1 rfl hs (by decide +kernel) (by rw [List.getElem?_map, List.getElem?_eq_getElem hl]; rfl) ?_ (fun m y hm hy => ?_) ?_
      · unfold badW at hb
        cases e : evS (wordsS z)[i] with
        | none => rfl
        | some v => rw [e] at hb; cases hb
      · have hml : m < (wordsS z).length := Nat.lt_trans hm hl
        rw [List.getElem?_map, List.getElem?_eq_getElem hml] at hy
        cases hy
        have := hno m hm
        cases e : evS (wordsS z)[m] with
        | none =>
          unfold badW at this
          rw [e] at this
          exact absurd rfl this
        | some v =>
          show eqD (evR (evS (wordsS z)[m])) .non = false
          rw [e]
          cases v <;> rfl
      refine aw_nil ?_
      refine ⟨[_, _], rfl, by walk_at "few", ?_⟩
      unfold dueD at h
      rw [hi] at h
      exact h
    · have hn : (wordsS z).findIdx? badW = none := by
        cases e : (wordsS z).findIdx? badW with
        | none => rfl
        | some i =>
          have e2 : ((wordsS z).findIdx? badW).isSome = true := by rw [e]; rfl
          rw [List.findIdx?_isSome, ht] at e2
          cases e2
      refine ew_tup ?_
      refine aw_cons ?_
      refine ew_str ?_
      refine aw_cons ?_
      refine ew_var 1 ?_
      refine aw_nil ?_
      refine ⟨[_, _], rfl, by walk_at "few", ?_⟩
      unfold dueD at h
      rw [hn] at h
      rw [all_read (List.findIdx?_eq_none_iff.mp hn)]
      exact h
  refine sw_cons ?_
  refine s1_set 1 ?_ sc.nd
  refine ew_if ?_
  refine tw_cmp ?_
  refine ew_var 0 ?_
  refine ew_str ?_
  walk_at "cmp NotEq"
  refine ⟨_, rfl, fun ht => ?_, fun ht => ?_⟩
  · have ews : wordsS z = Txt.split z " " := if_neg (by
      cases hq : decide (z = "") with
      | true => rw [hq] at ht; cases ht
      | false => exact of_decide_eq_false hq)
    refine ew_map1 (wordsS z) .str (fun y => evR (evS y)) [("_law_word", 2)] sc.nd (.name (i := 2) (by decide) fun Y ⟨_, _, _, _, _, e⟩ => by subst e; exact pg_name (i := 2) sc.nd rfl (.inl rfl) (.inr rfl)) (blkOk_by (N := N_law_due) (sc := defScope s_law_due) (by decide +kernel)) ?_ (Nat.le_trans (words_le z hz) (by decide)) (fun y hy => ⟨_, rfl, fun O' Y hY => ?_⟩) ?_
    · refine iw_list ?_
      refine ew_split ?_
      refine ew_var 0 ?_
      refine ⟨_, rfl, ?_⟩
      refine ew_str ?_
      refine m1_split (by decide +kernel) (Nat.le_trans (Nat.add_le_add_right hz.1 2) (by decide)) ?_
      rw [← ews]
      exact ⟨_, rfl, rfl, rfl⟩
    · obtain ⟨_, _, _, _, _, rfl⟩ := hY
      rw [ews] at hy
      refine ew_call (c_law_event T Z) hr ?_
      refine aw_cons ?_
      refine ew_var 2 ?_
      refine aw_nil ?_
      exact ⟨y, rfl, ⟨Nat.le_trans (word_len hy) hz.1, sml_word hz.2 hy⟩, rfl, rfl⟩
    · exact tail
  · have ews : wordsS z = [] := if_pos (by
      cases hq : decide (z = "") with
      | true => exact of_decide_eq_true hq
      | false => rw [hq] at ht; cases ht)
    rw [ews] at tail
    refine ew_lstD ?_
    refine aw_nil ?_
    refine ⟨[], rfl, by decide, ?_⟩
    exact tail
theorem c_law_due (T : TopOf K mg) (Z : Facts K) : Cal P w K mg base false 3 "_law_due" DueS [] := cal_of T Z.d_law_due (by walk_at "b1") fun f fd F => fn_law_due T Z F
def GreatS : SpecT := fun ss O R => ∃ z : Str, ss = [.dat (.str z)] ∧ TxtOk z ∧ ∀ b : Bool, R (.ret (.dat (.bl b))) O
theorem fn_law_is_great (T : TopOf K mg) (Z : Facts K) {f : Addr} {fd : FuncData} (F : L2.Fun K "_law_is_great" "_law_is_great" s_law_is_great f fd) : Fn P w K mg base false 2 f fd ["_law_text_here"] GreatS := by
  have sc := sc_law_is_great
  refine fn_mk F sc_law_is_great (fun ss O R h => by obtain ⟨_, rfl, _⟩ := h; rfl) fun cdv A outer s H E ss O R hr hpo h => ?_
  obtain ⟨z, rfl, hz, h⟩ := h
  have hwl : (Txt.split z " ").length ≤ 1001 := by
    have := words_sum z
    have := hz.1
    omega
  -- 0:_law_text_here 1:_law_marks 2:_law_word 3:_law_mark
  refine sw_cons ?_
  refine s1_setMap1 (Txt.split z " ") .str (fun y => .str (cutS y (some (Txt.find y ":" + 1)) none)) [("_law_word", 2)] 1 sc.nd (.name (i := 2) (by decide) fun Y ⟨_, _, _, _, _, e⟩ => by subst e; exact pg_name (i := 2) sc.nd rfl (.inl rfl) (.inr rfl)) (blkOk_by (N := N_law_is_great) (sc := defScope s_law_is_great) (by decide +kernel)) ?_ (Nat.le_trans hwl (by decide)) (fun y hy => ⟨_, rfl, fun O' Y hY => ?_⟩) ?_
  · refine iw_list ?_
    refine ew_split ?_
    refine ew_var 0 ?_
    refine ⟨_, rfl, ?_⟩
    refine ew_str ?_
    refine m1_split (by decide +kernel) (Nat.le_trans (Nat.add_le_add_right hz.1 2) (by decide)) ?_
    exact ⟨_, rfl, rfl, rfl⟩
  · obtain ⟨_, _, _, _, _, rfl⟩ := hY
    refine ew_slice ?_
    refine ew_var 2 ?_
    refine ow_some ?_
    refine ew_bin ?_
    refine ew_find ?_
    refine ew_var 2 ?_
    refine ⟨_, rfl, ?_⟩
    refine ew_str ?_
    walk_at "m1 find"
    refine ew_int ?_
    walk_at "op add"
    refine ⟨_, rfl, ?_⟩
    refine ow_none ?_
    refine sb_str (Nat.le_trans (Nat.le_trans (word_len hy) hz.1) (by decide)) ?_
    exact ⟨rfl, rfl⟩
  intro q hq
  have eL : ((Txt.split z " ").map fun y => Dat.str (cutS y (some (Txt.find y ":" + 1)) none)) = ((Txt.split z " ").map fun y => cutS y (some (Txt.find y ":" + 1)) none).map .str := by rw [List.map_map]; rfl
  rw [eL]
  have hms : ∀ y ∈ (Txt.split z " ").map fun y => cutS y (some (Txt.find y ":" + 1)) none, TxtOk y := fun y hy => by
    obtain ⟨x, hx, rfl⟩ := List.mem_map.mp hy
    exact TxtOk.cut ⟨Nat.le_trans (word_len hx) hz.1, sml_word hz.2 hx⟩
  have hml : ((Txt.split z " ").map fun y => cutS y (some (Txt.find y ":" + 1)) none).length ≤ 1001 := by rw [List.length_map]; exact hwl
  generalize (Txt.split z " ").map (fun y => cutS y (some (Txt.find y ":" + 1)) none) = ms at hms hml
  refine sw_frz 1 (p := q) (ds := ms.map .str) up_at ?_
  rw [dn_up hq]
  refine sw_one ?_
  refine s1_ret ?_
  refine ew_cmp ?_
  refine ew_map ms .str .str (fun y => (decide ((9 : Int) < (y.length : Int)) && decide ((y.length : Int) < 13)) && isFg y) [("_law_mark", 3)] sc.nd (.name (i := 3) (by decide) fun Y ⟨_, _, _, _, _, e⟩ => by subst e; exact pg_name (i := 3) sc.nd rfl (.inl rfl) (.inr rfl)) (blkOk_by (N := N_law_is_great) (sc := defScope s_law_is_great) (by decide +kernel)) (iw_list (ew_var 1 ⟨_, rfl, rfl, rfl⟩)) (Nat.le_trans hml (by decide)) (fun y hy => ⟨_, rfl, fun O' Y hY => ?_⟩) ?_
  · obtain ⟨_, _, _, _, _, rfl⟩ := hY
    have hyo := hms y hy
    refine ⟨tsw_one ?_, fun _ => ?_⟩
    · refine tw_w ?_
      refine tww_and ?_
      refine tw_chain ?_
      refine ew_int ?_
      refine ew_callB (T.no Z.n_len) bt_len ?_
      refine aw_cons ?_
      refine ew_var 3 ?_
      refine aw_nil ?_
      refine cb_lenS (Nat.le_trans hyo.1 (by decide)) ?_
      walk_at "cmp Lt"
      refine ⟨rfl, _, rfl, fun hc => ?_, fun hc => ?_⟩
      · rw [hc]
        refine ew_int ?_
        walk_at "cmp Lt"
        refine ⟨_, rfl, fun ht => ?_, fun ht => ?_⟩
        · rw [ht]
          refine tww_and1 ?_
          refine tw_val ?_
          refine ew_call (c_law_is_figure T Z) hr ?_
          refine aw_cons ?_
          refine ew_var 3 ?_
          refine aw_nil ?_
          exact ⟨y, rfl, hyo, _, rfl, rfl, rfl⟩
        · rw [ht]
          exact ⟨rfl, rfl⟩
      · rw [hc]
        refine ⟨fun hb => absurd hb (by decide), fun _ => ⟨rfl, rfl⟩⟩
    · refine ew_var 3 ?_
      exact ⟨rfl, rfl⟩
  · refine ew_lstD ?_
    refine aw_nil ?_
    refine ⟨[], rfl, by decide, ?_⟩
    have hf : fine (.lst ((ms.filter fun y => (decide ((9 : Int) < (y.length : Int)) && decide ((y.length : Int) < 13)) && isFg y).map .str)) = true := fines_map fun y hy => fine_str (hms y (List.mem_filter.mp hy).1).2
    have hd : ∀ l : List Str, dep (.lst (l.map .str)) ≤ 64 := fun l => by
      have := deps_map (f := Dat.str) (l := l) (b := 0) fun _ _ => Nat.le_refl 0
      rw [dep_lst]; omega
    refine ob_ne (hr.r.mono (by decide)) (fine_all _ hf).1 rfl (shape_of hf (hd _)) shaped_nil ?_
    exact h _
theorem c_law_is_great (T : TopOf K mg) (Z : Facts K) : Cal P w K mg base false 2 "_law_is_great" GreatS [] := cal_of T Z.d_law_is_great (by walk_at "b1") fun f fd F => fn_law_is_great T Z F
end
section
variable {P : Program} {w : World} {K : PySem.W.Frag} {mg : Str → Option Value} {base : Heap}
theorem fn_law_heard (T : TopOf K mg) (Z : Facts K) {f : Addr} {fd : FuncData} (F : L2.Fun K "_law_heard" "_law_heard" s_law_heard f fd) : Fn P w K mg base false 5 f fd ["_law_text_here"] DueS := by
  have sc := sc_law_heard
  obtain ⟨C, B, XI, nf⟩ := Z.x_NoTree
  refine fn_mk F sc_law_heard (fun ss O R h => by obtain ⟨_, rfl, _⟩ := h; rfl) fun cdv A outer s H E ss O R hr hpo h => ?_
  obtain ⟨z, rfl, hz, h⟩ := h
  unfold dueD at h
  -- 0:_law_text_here 1:_law_found 2:e
  refine sw_cons ?_
  refine s1_set 1 ?_ sc.nd
  refine ew_tup ?_
  refine aw_cons ?_
  refine ew_str ?_
  refine aw_cons ?_
  refine ew_int ?_
  refine aw_nil ?_
  refine ⟨[_, _], rfl, by walk_at "few", ?_⟩
  refine sw_cons ?_
  refine s1_try_as 2 sc.nd ⟨rfl, by decide, .inl (T.is XI.a.at_)⟩ fun pn xe hpo2 => ?_
  refine sw_one ?_
  refine s1_set 1 ?_ sc.nd
  refine ew_tup ?_
  refine aw_cons ?_
  refine ew_str ?_
  refine aw_cons ?_
  refine ew_frz ?_
  refine ew_call (c_events_of T Z XI nf) hr ?_
  refine aw_cons ?_
  refine ew_var 0 ?_
  refine aw_nil ?_
  refine ⟨z, rfl, Nat.le_trans hz.1 (by decide), fun i hi => ?_, fun hn p hp => ?_⟩
  · rw [hi] at h
    refine ⟨true, XI.exm, fun _ => ?_, fun e => by cases e⟩
    intro a dd oe pn2 hzc hf ha
    refine sw_one ?_
    refine s1_set 1 ?_ sc.nd
    refine ew_tup ?_
    refine aw_cons ?_
    refine ew_if ?_
    refine tw_val ?_
    refine ew_callB (T.no Z.n_isinstance) bt_isinstance ?_
    refine aw_cons ?_
    refine ew_var 2 ?_
    refine aw_cons ?_
    refine ew_cls (T.is XI.bat) ?_
    refine aw_nil ?_
    refine cb_isE XI.ec hzc hf XI.kit ?_
    refine ⟨_, rfl, fun ht => ?_, fun ht => ?_⟩
    · refine ew_str ?_
      refine aw_cons ?_
      refine ew_exf XI.xf nf hzc hf ?_
      refine ew_var 2 ?_
      refine ⟨_, _, rfl, rfl, ?_⟩
      refine aw_nil ?_
      refine ⟨[_, _], rfl, by walk_at "few", ?_⟩
      refine sw_one ?_
      refine s1_ret ?_
      refine ew_var 1 ?_
      exact h
    · cases ht
  · rw [hn] at h
    refine ⟨p, (((wordsS z).filterMap evS).map evD), rfl, by rw [List.map_map]; exact up_at, ?_⟩
    rw [dn_up hp]
    refine aw_nil ?_
    refine ⟨[_, _], rfl, by walk_at "few", ?_⟩
    refine sw_one ?_
    refine s1_ret ?_
    refine ew_var 1 ?_
    exact h
theorem c_law_heard (T : TopOf K mg) (Z : Facts K) : Cal P w K mg base false 5 "_law_heard" DueS [] := cal_of T Z.d_law_heard (by walk_at "b1") fun f fd F => fn_law_heard T Z F
end
theorem cut_map {α β : Type} {f : α → β} {l : List α} {lo hi : Option Int} : Kn.cutD (l.map f) lo hi = (Kn.cutD l lo hi).map f := by
  unfold Kn.cutD
  rw [List.length_map, ← List.map_drop, ← List.map_take]
def lenS (ws : List Str) : Nat := (ws.map (·.length)).sum
theorem lenS_app {a b : List Str} : lenS (a ++ b) = lenS a + lenS b := by unfold lenS; rw [List.map_append, List.sum_append]
theorem lenS_cut {ws : List Str} {a b : Nat} (h : a ≤ b) : lenS (ws.take a) + lenS (ws.drop b) ≤ lenS ws ∧ (ws.take a).length + (ws.drop b).length ≤ ws.length := by
  have e : lenS ws = lenS (ws.take b) + lenS (ws.drop b) := by rw [← lenS_app, List.take_append_drop]
  have e2 : lenS (ws.take b) = lenS (ws.take a) + lenS ((ws.take b).drop a) := by
    rw [← lenS_app]
    have : ws.take a = (ws.take b).take a := by rw [List.take_take, Nat.min_eq_left h]
    rw [this, List.take_append_drop]
  refine ⟨by omega, ?_⟩
  rw [List.length_take, List.length_drop]
  omega
def smS : List Str := ["//", "a:", ":1", "a:01", "a:-1", "A:1", "a1:1", "any:1", "other:2", "where:3", "abcdefghi:1", "a:1:2", "a"]
def smT : List Str := ["", Str.ofString "a:" ++ timesS "9" 9, Str.ofString "a:" ++ timesS "1" 13, "a:0", "/", "anyone:1", "a: 1", "a:+1", "a:1.0"]
theorem sm_ok : ((smS ++ smT).all fun y => decide (y.length ≤ 15) && smlB y) = true := by decide +kernel
theorem sml_of {z : Str} (h : smlB z = true) : sml z := fun c hc => by
  unfold smlB at h
  rw [Array.all_eq_true_iff_forall_mem] at h
  exact of_decide_eq_true (h c (Array.mem_toList_iff.mp hc))
theorem sm_at {y : Str} (h : y ∈ smS ++ smT) : y.length ≤ 15 ∧ sml y := by
  have := List.all_eq_true.mp sm_ok y h
  simp only [Bool.and_eq_true, decide_eq_true_eq] at this
  exact ⟨this.1, sml_of this.2⟩
def signsT : Str := "/: a0A\n:1"
theorem signs_at : ∀ j : Fin 9, ∃ c, (sgs signsT)[j.val]? = some c ∧ c < 0x110000 := by decide +kernel
def SpoiltS : SpecT := fun ss O R => ∃ (p : Addr) (b : Cell) (z : Str), ss = [.own p, .dat (.str z)] ∧ O p = some b ∧ isBox b ∧ z.length ≤ 900 ∧ sml z ∧ ∀ (b' : Cell) (z' : Str), isBox b' → z'.length ≤ z.length + 20 → sml z' → R (.ret (.dat (.str z'))) (up O p b')
theorem sml_one {c : Nat} (h : c < 0x110000) : sml ⟨#[c]⟩ := fun x hx => by rw [List.mem_singleton.mp (show x ∈ [c] from hx)]; exact h
section
variable {P : Program} {w : World} {K : PySem.W.Frag} {mg : Str → Option Value} {base : Heap}
theorem fn_law_spoilt (T : TopOf K mg) (Z : Facts K) {f : Addr} {fd : FuncData} (F : L2.Fun K "_law_spoilt" "_law_spoilt" s_law_spoilt f fd) : Fn P w K mg base false 2 f fd ["_law_box_here", "_law_text_here"] SpoiltS := by
  have sc := sc_law_spoilt
  refine fn_mk F sc_law_spoilt (fun ss O R h => by obtain ⟨_, _, _, rfl, _⟩ := h; rfl) fun cdv A outer s H E ss O R hr hpo h => ?_
  obtain ⟨p, b, z, rfl, hp, hb, hzl, hzs, h⟩ := h
  have hz : TxtOk z := ⟨by omega, hzs⟩
  have hz1 : z.length ≤ sizeLine := Nat.le_trans hz.1 (by decide)
  have hws := words_sum z
  have hw0 : 0 < (Txt.split z " ").length := List.length_pos_iff.mpr (split_ne z " ")
  have hwm : ∀ x ∈ Txt.split z " ", sml x := fun x hx => sml_word hzs hx
  have hwL : lenS (Txt.split z " ") + (Txt.split z " ").length = z.length + 1 := hws.symm
  -- 0:_law_box_here 1:_law_text_here 2:_law_words 3:_law_form 4:_law_at 5:_law_some 6:_law_spot 7:_law_sign
  refine sw_drop ?_
  refine sw_cons ?_
  refine s1_par 2 3 ?_ sc.nd
  refine aw_cons ?_
  refine ew_split ?_
  refine ew_var 1 ?_
  refine ⟨_, rfl, ?_⟩
  refine ew_str ?_
  refine m1_split (by decide +kernel) (Nat.le_trans (Nat.add_le_add_right hz.1 2) (by decide)) ?_
  generalize Txt.split z " " = ws at hw0 hwm hwL
  have hwn : ws.length ≤ 901 := by omega
  refine aw_cons ?_
  refine ew_call (c_law_take T Z) hr ?_
  refine aw_cons ?_
  refine ew_var 0 ?_
  refine aw_cons ?_
  refine ew_int ?_
  refine aw_nil ?_
  refine ⟨p, _, b, rfl, hp, hb, by decide, by decide, fun form b1 hf0 hf1 hb1 => ?_⟩
  refine aw_nil ?_
  refine ⟨_, _, rfl, ?_⟩
  refine sw_cons ?_
  refine s1_set 4 ?_ sc.nd
  refine ew_call (c_law_take T Z) hr ?_
  refine aw_cons ?_
  refine ew_var 0 ?_
  refine aw_cons ?_
  refine ew_callB (T.no Z.n_len) bt_len ?_
  refine aw_cons ?_
  refine ew_var 2 ?_
  refine aw_nil ?_
  walk_at "cb len"
  refine aw_nil ?_
  refine ⟨p, _, b1, rfl, up_at, hb1, by rw [List.length_map]; omega, by rw [List.length_map]; omega, fun at_ b2 ha0 ha1 hb2 => ?_⟩
  rw [List.length_map] at ha1
  rw [up_up]
  refine sw_cons ?_
  refine s1_set 5 ?_ sc.nd
  refine ew_lst ?_
  refine aw_cons ?_
  refine ew_str ?_
  refine aw_cons ?_
  refine ew_str ?_
  refine aw_cons ?_
  refine ew_str ?_
  refine aw_cons ?_
  refine ew_str ?_
  refine aw_cons ?_
  refine ew_str ?_
  refine aw_cons ?_
  refine ew_str ?_
  refine aw_cons ?_
  refine ew_str ?_
  refine aw_cons ?_
  refine ew_str ?_
  refine aw_cons ?_
  refine ew_str ?_
  refine aw_cons ?_
  refine ew_str ?_
  refine aw_cons ?_
  refine ew_str ?_
  refine aw_cons ?_
  refine ew_str ?_
  refine aw_cons ?_
  refine ew_str ?_
  refine aw_nil ?_
  refine ⟨by walk_at "few", fun q hq => ?_⟩
  have nqp : q ≠ p := fun e => by rw [e, up_at] at hq; cases hq
  refine sw_cons ?_
  refine s1_expr ?_
  refine ew_extend ?_
  refine ew_var 5 ?_
  refine ⟨?_, ?_⟩
  · walk_at "ty"
  refine ew_lstD ?_
  refine aw_cons ?_
  refine ew_str ?_
  refine aw_cons ?_
  refine ew_bin ?_
  refine ew_str ?_
  refine ew_bin ?_
  refine ew_str ?_
  refine ew_int ?_
  refine ob_times (by decide) (by decide +kernel) ?_
  refine ob_cat (by decide +kernel) ?_
  refine aw_cons ?_
  refine ew_bin ?_
  refine ew_str ?_
  refine ew_bin ?_
  refine ew_str ?_
  refine ew_int ?_
  refine ob_times (by decide) (by decide +kernel) ?_
  refine ob_cat (by decide +kernel) ?_
  refine aw_cons ?_
  refine ew_str ?_
  refine aw_cons ?_
  refine ew_str ?_
  refine aw_cons ?_
  refine ew_str ?_
  refine aw_cons ?_
  refine ew_str ?_
  refine aw_cons ?_
  refine ew_str ?_
  refine aw_cons ?_
  refine ew_str ?_
  refine aw_nil ?_
  refine ⟨smT.map .str, rfl, Nat.le_trans (show 9 ≤ 9 from Nat.le_refl 9) (by decide), ?_⟩
  refine mb_extendL up_at (Nat.le_trans (show 13 + 9 ≤ 22 from Nat.le_refl 22) (by decide)) ?_
  rw [up_up]
  have eSome : (Kn.Cell.lst ([.dat (.str "//"), .dat (.str "a:"), .dat (.str ":1"), .dat (.str "a:01"), .dat (.str "a:-1"), .dat (.str "A:1"), .dat (.str "a1:1"), .dat (.str "any:1"), .dat (.str "other:2"), .dat (.str "where:3"), .dat (.str "abcdefghi:1"), .dat (.str "a:1:2"), .dat (.str "a")] ++ (smT.map Dat.str).map .dat)) = .lst (((smS ++ smT).map Dat.str).map .dat) := rfl
  rw [eSome]
  refine sw_cons ?_
  refine s1_if ?_
  refine tw_cmp ?_
  refine ew_var 3 ?_
  refine ew_int ?_
  walk_at "cmp Eq"
  refine ⟨_, rfl, fun ht => ?_, fun ht => ?_⟩
  · refine sw_one ?_
    refine s1_ret ?_
    refine ew_join ?_
    refine ew_str ?_
    refine ⟨_, rfl, ?_⟩
    refine ew_bin ?_
    refine ew_slice ?_
    refine ew_var 2 ?_
    refine ow_none ?_
    refine ow_some ?_
    refine ew_var 4 ?_
    refine ⟨_, rfl, ?_⟩
    refine sb_lst ?_
    refine ew_slice ?_
    refine ew_var 2 ?_
    refine ow_some ?_
    refine ew_bin ?_
    refine ew_var 4 ?_
    refine ew_int ?_
    walk_at "op add"
    refine ⟨_, rfl, ?_⟩
    refine ow_none ?_
    refine sb_lst ?_
    rw [cut_map, cut_map, cut_take ha0, cut_drop (by omega)]
    obtain ⟨hc1, hc2⟩ := lenS_cut (ws := ws) (a := at_.toNat) (b := (at_ + 1).toNat) (by omega)
    refine ob_catL (by rw [List.length_map, List.length_map]; exact Nat.le_trans (show _ ≤ 1000 by omega) (by decide)) ?_
    rw [← List.map_append]
    have hL : lenS (ws.take at_.toNat ++ ws.drop (at_ + 1).toNat) + (ws.take at_.toNat ++ ws.drop (at_ + 1).toNat).length ≤ z.length + 1 := by
      rw [lenS_app, List.length_append]; omega
    refine m1_join (by rw [sp1, Nat.mul_one]; exact Nat.le_trans hL (by omega)) ?_
    refine ⟨_, Sub.up (by rw [up_ne nqp]; rw [up_ne nqp] at hq; exact hq), h b2 _ hb2 (Nat.le_trans join_le (Nat.le_trans hL (by omega))) (sml_join fun x hx => ?_)⟩
    rcases List.mem_append.mp hx with hx | hx
    · exact hwm x (List.mem_of_mem_take hx)
    · exact hwm x (List.mem_of_mem_drop hx)
  · refine sw_nil ?_
    refine sw_cons ?_
    refine s1_if ?_
    refine tw_cmp ?_
    refine ew_var 3 ?_
    refine ew_int ?_
    walk_at "cmp Eq"
    refine ⟨_, rfl, fun ht1 => ?_, fun ht1 => ?_⟩
    · refine sw_one ?_
      refine s1_ret ?_
      refine ew_join ?_
      refine ew_str ?_
      refine ⟨_, rfl, ?_⟩
      refine ew_bin ?_
      refine ew_bin ?_
      refine ew_slice ?_
      refine ew_var 2 ?_
      refine ow_none ?_
      refine ow_some ?_
      refine ew_var 4 ?_
      refine ⟨_, rfl, ?_⟩
      refine sb_lst ?_
      rw [cut_map, cut_take ha0]
      refine ew_lstD ?_
      refine aw_cons ?_
      refine ew_ix ?_
      refine ew_var 5 ?_
      refine ew_call (c_law_take T Z) hr ?_
      refine aw_cons ?_
      refine ew_var 0 ?_
      refine aw_cons ?_
      refine ew_callB (T.no Z.n_len) bt_len ?_
      refine aw_cons ?_
      refine ew_var 5 ?_
      refine aw_nil ?_
      refine cb_lenO up_at ?_
      refine aw_nil ?_
      refine ⟨p, _, b2, rfl, by rw [up_ne nqp.symm]; exact up_at, hb2, by decide, by decide, fun j b3 hj0 hj1 hb3 => ?_⟩
      obtain ⟨y, hy⟩ : ∃ y, (smS ++ smT)[j.toNat]? = some y := by
        have hj1 : j < 22 := hj1
        exact ⟨_, List.getElem?_eq_getElem (show j.toNat < (smS ++ smT).length by show j.toNat < 22; omega)⟩
      obtain ⟨hyl, hys⟩ := sm_at (List.mem_of_getElem? hy)
      refine ix_own (s := .dat (.str y)) (by rw [up_ne nqp]; exact up_at) (by
        rw [show j = ((j.toNat : Nat) : Int) by omega]
        exact atI_nat (by rw [List.getElem?_map, List.getElem?_map, hy]; rfl)) ?_
      refine aw_nil ?_
      refine ⟨[_], rfl, by walk_at "few", ?_⟩
      refine ob_catL (by rw [List.length_map]; show (ws.take at_.toNat).length + 1 ≤ _; rw [List.length_take]; exact Nat.le_trans (show _ ≤ 1000 by omega) (by decide)) ?_
      refine ew_slice ?_
      refine ew_var 2 ?_
      refine ow_some ?_
      refine ew_bin ?_
      refine ew_var 4 ?_
      refine ew_call (c_law_take T Z) hr ?_
      refine aw_cons ?_
      refine ew_var 0 ?_
      refine aw_cons ?_
      refine ew_int ?_
      refine aw_nil ?_
      refine ⟨p, _, b3, rfl, up_at, hb3, by decide, by decide, fun v b4 hv0 hv1 hb4 => ?_⟩
      rw [up_up]
      walk_at "op add"
      refine ⟨_, rfl, ?_⟩
      refine ow_none ?_
      refine sb_lst ?_
      rw [cut_map, cut_drop (by omega)]
      obtain ⟨hc1, hc2⟩ := lenS_cut (ws := ws) (a := at_.toNat) (b := (at_ + v).toNat) (by omega)
      have eL : (ws.take at_.toNat).map Dat.str ++ [.str y] = (ws.take at_.toNat ++ [y]).map .str := by rw [List.map_append]; rfl
      rw [eL]
      refine ob_catL (by rw [List.length_map, List.length_map, List.length_append]; exact Nat.le_trans (show _ ≤ 1000 by simp only [List.length_singleton]; omega) (by decide)) ?_
      rw [← List.map_append]
      have hL : lenS (ws.take at_.toNat ++ [y] ++ ws.drop (at_ + v).toNat) + (ws.take at_.toNat ++ [y] ++ ws.drop (at_ + v).toNat).length ≤ z.length + 17 := by
        rw [lenS_app, lenS_app, List.length_append, List.length_append, List.length_singleton]
        have : lenS [y] = y.length + 0 := rfl
        omega
      refine m1_join (by rw [sp1, Nat.mul_one]; exact Nat.le_trans hL (by omega)) ?_
      refine ⟨_, ?_, h b4 _ hb4 (Nat.le_trans join_le (Nat.le_trans hL (by omega))) (sml_join fun x hx => ?_)⟩
      · rw [up_ne nqp] at hq
        refine Sub.trans (Sub.up (c := .lst (((smS ++ smT).map Dat.str).map .dat)) (p := q) (by rw [up_ne nqp]; exact hq)) ?_
        rw [up_swap nqp.symm, up_swap nqp.symm, up_up]
        exact Sub.refl
      · rcases List.mem_append.mp hx with hx | hx
        · rcases List.mem_append.mp hx with hx | hx
          · exact hwm x (List.mem_of_mem_take hx)
          · rw [List.mem_singleton.mp hx]; exact hys
        · exact hwm x (List.mem_of_mem_drop hx)
    · have hform : 2 ≤ form := by
        have h1 := of_decide_eq_false ht
        have h2 := of_decide_eq_false ht1
        omega
      refine sw_nil ?_
      refine sw_cons ?_
      refine s1_par 6 7 ?_ sc.nd
      refine aw_cons ?_
      refine ew_call (c_law_take T Z) hr ?_
      refine aw_cons ?_
      refine ew_var 0 ?_
      refine aw_cons ?_
      refine ew_bin ?_
      refine ew_callB (T.no Z.n_len) bt_len ?_
      refine aw_cons ?_
      refine ew_var 1 ?_
      refine aw_nil ?_
      refine cb_lenS hz1 ?_
      refine ew_int ?_
      walk_at "op add"
      refine aw_nil ?_
      refine ⟨p, _, b2, rfl, by rw [up_ne nqp.symm]; exact up_at, hb2, by omega, by omega, fun j b3 hj0 hj1 hb3 => ?_⟩
      refine aw_cons ?_
      refine ew_ix ?_
      refine ew_str ?_
      refine ew_call (c_law_take T Z) hr ?_
      refine aw_cons ?_
      refine ew_var 0 ?_
      refine aw_cons ?_
      refine ew_int ?_
      refine aw_nil ?_
      refine ⟨p, _, b3, rfl, up_at, hb3, by decide, by decide, fun v b4 hv0 hv1 hb4 => ?_⟩
      rw [up_up]
      obtain ⟨c, hc, hcs⟩ := signs_at ⟨v.toNat, by omega⟩
      refine ix_sgn (c := c) (by decide +kernel) (by
        rw [show v = ((v.toNat : Nat) : Int) by omega]
        exact atI_nat hc) ?_
      refine aw_nil ?_
      refine ⟨_, _, rfl, ?_⟩
      refine sw_one ?_
      refine s1_ret ?_
      refine ew_bin ?_
      refine ew_bin ?_
      refine ew_slice ?_
      refine ew_var 1 ?_
      refine ow_none ?_
      refine ow_some ?_
      refine ew_var 6 ?_
      refine ⟨_, rfl, ?_⟩
      refine sb_str hz1 ?_
      refine ew_var 7 ?_
      refine ob_cat (Nat.le_trans (Nat.add_le_add_right (Nat.le_trans cutS_len hz.1) _) (show 1000 + 1 ≤ sizeLine by decide)) ?_
      refine ew_slice ?_
      refine ew_var 1 ?_
      refine ow_some ?_
      refine ew_bin ?_
      refine ew_bin ?_
      refine ew_var 6 ?_
      refine ew_var 3 ?_
      walk_at "op add"
      refine ew_int ?_
      walk_at "op sub"
      refine ⟨_, rfl, ?_⟩
      refine ow_none ?_
      refine sb_str hz1 ?_
      have hlen : (cutS z none (some j)).length + (cutS z (some (j + form - 2)) none).length ≤ z.length := by
        rw [sgs_len, sgs_len, sgs_cut, sgs_cut, cut_take hj0, cut_drop (by omega), List.length_take, List.length_drop, sgs_len z]
        omega
      have hone : (⟨#[c]⟩ : Str).length = 1 := rfl
      refine ob_cat (by rw [len_app, hone]; exact Nat.le_trans (show _ ≤ 1001 by omega) (by decide)) ?_
      refine ⟨_, ?_, h b4 _ hb4 (by rw [len_app, len_app, hone]; omega) (sml_app (sml_app (sml_cut hzs) (sml_one hcs)) (sml_cut hzs))⟩
      rw [up_ne nqp] at hq
      refine Sub.trans (Sub.up (c := .lst (((smS ++ smT).map Dat.str).map .dat)) (p := q) (by rw [up_ne nqp]; exact hq)) ?_
      rw [up_swap nqp.symm, up_swap nqp.symm, up_up]
      exact Sub.refl
theorem c_law_spoilt (T : TopOf K mg) (Z : Facts K) : Cal P w K mg base false 2 "_law_spoilt" SpoiltS [] := cal_of T Z.d_law_spoilt (by walk_at "b2") fun f fd F => fn_law_spoilt T Z F
end
/-! a row of events, written and read -/
theorem num_head : ∀ k : Nat, k ≠ 0 → (TL.numL k).head? ≠ some 48 := by
  intro k
  induction k using Nat.strongRecOn with
  | _ k ih =>
    intro hk
    by_cases h : k < 10
    · rw [TL.numL_lt h]
      intro e
      have e : 48 + k = 48 := Option.some.inj e
      omega
    · rw [TL.numL_step (by omega)]
      have h1 := ih (k / 10) (by omega) (by omega)
      cases hn : TL.numL (k / 10) with
      | nil => exact absurd hn (TL.numL_ne _)
      | cons a r => rw [hn] at h1; exact h1
theorem num_fig (k : Nat) : figL (TL.numL k) = true := by
  unfold figL
  by_cases h : k = 0
  · subst h
    rw [TL.numL_lt (by decide)]
    rfl
  · rw [decide_eq_true (num_head k h), Bool.or_true]
theorem num_sgs {m : Int} (h0 : 0 ≤ m) : sgs (Str.ofString (toString m)) = TL.numL m.toNat := by
  obtain ⟨k, rfl⟩ := Int.eq_ofNat_of_zero_le h0
  exact TL.tl_num k
theorem num_isFg {m : Int} (h0 : 0 ≤ m) (h : m < 10 ^ 12) : isFg (Str.ofString (toString m)) = true ∧ figV (Str.ofString (toString m)) = m := by
  have e := num_sgs h0
  have hl : (TL.numL m.toNat).length ≤ 12 := TL.numL_len (by decide) (by omega)
  have hp : 0 < (TL.numL m.toNat).length := List.length_pos_iff.mpr (TL.numL_ne _)
  constructor
  · unfold isFg
    rw [madeOf_of (by rw [sgs_len, e]; exact hp) (by rw [sgs_len, e]; exact hl) (fun c hc => by
      rw [e] at hc
      exact digs_mem.mpr (TL.numL_digits _ c hc)), e, num_fig]
    rfl
  · unfold figV
    rw [e, TL.numL_val]
    omega
theorem colon_sgs : sgs (Str.ofString ":") = [58] := by decide +kernel
theorem word_sgs {n : Str} {m : Int} (h0 : 0 ≤ m) : sgs (wordE (some (n, m))) = sgs n ++ [58] ++ TL.numL m.toNat := by
  show sgs (n ++ Str.ofString ":" ++ Str.ofString (toString m)) = _
  rw [sgs_app, sgs_app, colon_sgs, num_sgs h0]
theorem nm_free {n : Str} (h : isNm n = true) {c : Nat} (hc : c < 97) : c ∉ sgs n := fun hm => by
  have := ltrs_mem.mp ((madeOf_pos (Bool.and_eq_true_iff.mp h).1).2.2 c hm)
  omega
theorem word_free {e : Ev} (h : goodE e) : 32 ∉ sgs (wordE e) := by
  cases e with
  | none => exact (by decide +kernel : 32 ∉ sgs (Str.ofString "/"))
  | some q =>
    obtain ⟨n, m⟩ := q
    obtain ⟨h1, h2, _⟩ := h
    rw [word_sgs h2]
    intro hm
    rcases List.mem_append.mp hm with hm | hm
    · rcases List.mem_append.mp hm with hm | hm
      · exact nm_free h1 (by decide) hm
      · exact absurd (List.mem_singleton.mp hm) (by decide)
    · exact TL.numL_free (.inl (by decide)) hm
theorem ev_back {e : Ev} (h : goodE e) : evS (wordE e) = some e := by
  cases e with
  | none => exact if_pos rfl
  | some q =>
    obtain ⟨n, m⟩ := q
    obtain ⟨h1, h2, h3⟩ := h
    obtain ⟨f1, f2⟩ := num_isFg h2 (Int.lt_trans h3 (by decide))
    have hne : ¬ wordE (some (n, m)) = "/" := fun e => by
      have e2 := congrArg sgs e
      rw [word_sgs h2] at e2
      have hm : 58 ∈ sgs (Str.ofString "/") := by
        rw [← e2]
        exact List.mem_append.mpr (.inl (List.mem_append.mpr (.inr (List.mem_singleton.mpr rfl))))
      exact absurd hm (by decide +kernel)
    have hp : Txt.partition (wordE (some (n, m))) ":" = (n, Str.ofString ":", Str.ofString (toString m)) := TL.partition_app (s := 58) (S := []) colon_sgs (nm_free h1 (by decide))
    have g := evS_open hne (by rw [hp]; exact h1) (by rw [hp]; exact (by decide +kernel : decide (Str.ofString ":" = Str.ofString "") = false)) (by rw [hp]; exact f1)
    rw [g, hp, f2]
theorem word_pos {e : Ev} (h : goodE e) : 1 ≤ (wordE e).length := by
  cases e with
  | none => exact (by decide +kernel : 1 ≤ (Str.ofString "/").length)
  | some q =>
    obtain ⟨n, m⟩ := q
    rw [sgs_len, word_sgs h.2.1, List.length_append, List.length_append, List.length_singleton]
    omega
theorem words_back {es : List Ev} (h : ∀ e ∈ es, goodE e) : wordsS (textE es) = es.map wordE := by
  unfold textE
  cases es with
  | nil => exact if_pos (by decide +kernel)
  | cons a r =>
    have hne : (a :: r).map wordE ≠ [] := fun e => by cases e
    have hl := join_len " " _ hne
    rw [sp1, Nat.mul_one] at hl
    have h0 : ¬ Txt.join " " ((a :: r).map wordE) = "" := fun e => by
      rw [e] at hl
      have h1 := word_pos (h a List.mem_cons_self)
      have e0 : (Str.ofString "").length = 0 := by decide +kernel
      rw [e0] at hl
      have hs : (((a :: r).map wordE).map (·.length)).sum = (wordE a).length + ((r.map wordE).map (·.length)).sum := rfl
      rw [hs, List.length_map, List.length_cons] at hl
      omega
    unfold wordsS
    rw [if_neg h0]
    refine TL.split_join (s := 32) (S := []) (by decide +kernel) (by decide +kernel) hne fun p hp => ?_
    obtain ⟨e, he, rfl⟩ := List.mem_map.mp hp
    exact word_free (h e he)
theorem read_back {es : List Ev} (h : ∀ e ∈ es, goodE e) : (wordsS (textE es)).findIdx? badW = none ∧ (wordsS (textE es)).filterMap evS = es := by
  rw [words_back h]
  constructor
  · refine findIdx_no fun x hx => ?_
    obtain ⟨e, he, rfl⟩ := List.mem_map.mp hx
    unfold badW
    rw [ev_back (h e he)]
  · rw [List.filterMap_map]
    induction es with
    | nil => rfl
    | cons a r ih =>
      rw [List.filterMap_cons_some (show (evS ∘ wordE) a = some a from ev_back (h a List.mem_cons_self)), ih fun e he => h e (List.mem_cons_of_mem a he)]
theorem goodE.show {e : Ev} (h : goodE e) : showE e := by
  cases e with
  | none => trivial
  | some q => exact ⟨h.1, h.2.1, Int.lt_trans h.2.2 (by decide)⟩
theorem word18 {e : Ev} (h : goodE e) : (wordE e).length ≤ 18 := by
  cases e with
  | none => exact (by decide +kernel : (Str.ofString "/").length ≤ 18)
  | some q =>
    obtain ⟨n, m⟩ := q
    obtain ⟨h1, h2, h3⟩ := h
    have e1 := nm_len h1
    have e2 : (TL.numL m.toNat).length ≤ 9 := TL.numL_len (by decide) (by omega)
    rw [sgs_len, word_sgs h2, List.length_append, List.length_append, List.length_singleton, ← sgs_len]
    omega
theorem word_sml {e : Ev} (h : goodE e) : sml (wordE e) := by
  cases e with
  | none => exact sml_of (by decide +kernel)
  | some q =>
    obtain ⟨n, m⟩ := q
    obtain ⟨h1, h2, _⟩ := h
    intro c hc
    rw [word_sgs h2] at hc
    rcases List.mem_append.mp hc with hc | hc
    · rcases List.mem_append.mp hc with hc | hc
      · exact nm_sml h1 c hc
      · rw [List.mem_singleton.mp hc]; decide
    · have := TL.numL_digits _ c hc
      omega
theorem text_ok {es : List Ev} (h : ∀ e ∈ es, goodE e) (hl : es.length ≤ 20) : (textE es).length ≤ 380 ∧ sml (textE es) := by
  constructor
  · refine Nat.le_trans join_le ?_
    have := sum_le (g := fun e : Ev => (wordE e).length) (b := 18) fun e he => word18 (h e he)
    rw [List.map_map, List.length_map]
    show (es.map fun e => (wordE e).length).sum + es.length ≤ 380
    omega
  · refine sml_join fun x hx => ?_
    obtain ⟨e, he, rfl⟩ := List.mem_map.mp hx
    exact word_sml (h e he)
/-! what is shown -/
theorem repr_events {es : List Ev} (h : ∀ e ∈ es, showE e) (hl : es.length ≤ 1001) : reprOk (.lst (es.map evD)) = true ∧ reprOk (.tup [.str "events", .lst (es.map evD)]) = true := by
  have f : fine (.lst (es.map evD)) = true := fines_map fun e he => fine_ev (h e he)
  have d := deps_map (f := evD) (l := es) (b := 1) fun e _ => dep_ev e
  have w := wgts_map (f := evD) (l := es) (b := 100) fun e he => wgt_ev (h e he)
  constructor
  · refine reprOk_of f ?_ ?_
    · rw [dep_lst]; omega
    · rw [wgt_lst]; omega
  · refine reprOk_of ?_ ?_ ?_
    · show (fine (.str "events") && (fine (.lst (es.map evD)) && true)) = true
      rw [f, show fine (.str "events") = true by decide +kernel]; rfl
    · show max 0 (max (deps (es.map evD) + 1) 0) + 1 ≤ 64
      omega
    · show wgt (.str "events") + 1 + (wgts (es.map evD) + 1 + 0) ≤ 2 ^ 20
      have e : wgt (.str "events") = 6 := by decide +kernel
      omega
theorem repr_due {z : Str} (hz : TxtOk z) : ∃ ds, dueD z = .tup ds ∧ reprOk (.tup ds) = true := by
  unfold dueD
  have hw := words_le z hz
  cases hi : (wordsS z).findIdx? badW with
  | some i =>
    obtain ⟨hl, _, _⟩ := List.findIdx?_eq_some_iff_getElem.mp hi
    refine ⟨_, rfl, ?_⟩
    have e1 : 0 ≤ (i : Int) := by omega
    have e2 : (i : Int) < 10 ^ 12 := by omega
    refine reprOk_of ?_ (show 0 + 1 ≤ 64 by decide) ?_
    · show (fine (.str "at") && (fine (.int (i : Int)) && true)) = true
      rw [fine_nat e1 e2, show fine (.str "at") = true by decide +kernel]; rfl
    · show wgt (.str "at") + 1 + (wgt (.int (i : Int)) + 1 + 0) ≤ 2 ^ 20
      have e := wgt_nat e1 e2
      have e3 : wgt (.str "at") = 2 := by decide +kernel
      omega
  | none =>
    refine ⟨_, rfl, (repr_events (fun e he => ?_) ?_).2⟩
    · obtain ⟨y, _, hy⟩ := List.mem_filterMap.mp he
      exact evS_show hy
    · exact Nat.le_trans (List.length_filterMap_le _ _) hw
theorem ne_self {α : Type} [DecidableEq α] {a b : α} (h : a = b) : ¬ (!decide (a = b)) = true := by
  rw [decide_eq_true h]; decide
section
variable {P : Program} {w : World} {K : PySem.W.Frag} {mg : Str → Option Value} {base : Heap}
/-- what events_of hands back, as data -/
theorem frz_events {es : List Ev} {O : Own} {p : Addr} {k : Slot → Own → Prop} (hp : O p = none) (h : k (.dat (.lst (es.map evD))) O) :
    ∃ (p' : Addr) (ds : List Dat), (Slot.own p = .own p') ∧ (up O p (.lst (es.map fun e => .dat (evD e)))) p' = some (.lst (ds.map .dat)) ∧ k (.dat (.lst ds)) (dn (up O p (.lst (es.map fun e => .dat (evD e)))) p') :=
  ⟨p, es.map evD, rfl, by rw [up_at, List.map_map]; rfl, by rw [dn_up hp]; exact h⟩
theorem fn_law (T : TopOf K mg) (Z : Facts K) {f : Addr} {fd : FuncData} (F : L2.Fun K "law" "law" s_law f fd) : Fn P w K mg base true 6 f fd ["_law_script"] LawS := by
  have sc := sc_law
  obtain ⟨C, B, XN, nf⟩ := Z.x_NoTree
  refine fn_mk F sc_law (fun ss O R h => by obtain ⟨_, rfl, _⟩ := h; rfl) fun cdv A outer s H E ss O R hr hpo h => ?_
  obtain ⟨ns, rfl, hns, h⟩ := h
  -- 0:_law_script 1:_law_k 2:_law_box_here 3:_law_names_here 4:_law_turn 5:_law_row_here 6:_law_text_here 7:_law_found 8:_law_more
  refine sw_cons ?_
  refine s1_for hpo ?_
  refine iw_range1 (T.no Z.n_range) ?_
  refine aw_cons ?_
  refine ew_callB (T.no Z.n_max) bt_max ?_
  refine aw_cons ?_
  refine ew_int ?_
  refine aw_cons ?_
  refine ew_callB (T.no Z.n_min) bt_min ?_
  refine aw_cons ?_
  refine ew_int ?_
  refine aw_cons ?_
  refine ew_callB (T.no Z.n_len) bt_len ?_
  refine aw_cons ?_
  refine ew_var 0 ?_
  refine aw_nil ?_
  walk_at "cb len"
  refine aw_nil ?_
  walk_at "cb min"
  refine aw_nil ?_
  walk_at "cb max"
  refine aw_nil ?_
  refine ⟨_, rfl, by constructor <;> (repeat' split) <;> omega, ?_⟩
  refine ⟨fun i ρ' O' => ∃ s1 s2 s3 s4 s5 s6 s7 s8 : Slot, ρ' = [.dat (.fro (ns.map .int)), s1, s2, s3, s4, s5, s6, s7, s8], ?_, ?_, ?_⟩
  · exact ⟨_, _, _, _, _, _, _, _, rfl⟩
  · intro i d ρ2 O2 hj hd
    obtain ⟨s1, s2, s3, s4, s5, s6, s7, s8, rfl⟩ := hj
    obtain ⟨hi, rfl⟩ := rangeD_at hd
    have hi : i < 6 := by
      rw [List.length_map] at hi
      revert hi
      (repeat' split) <;> omega
    refine gw_name 1 ?_ sc.nd
    refine sw_cons ?_
    refine s1_set 2 ?_ sc.nd
    refine ew_call (c_law_box T Z) hr ?_
    refine aw_cons ?_
    refine ew_var 0 ?_
    refine aw_cons ?_
    refine ew_var 1 ?_
    refine aw_cons ?_
    refine ew_int ?_
    refine aw_nil ?_
    refine ⟨ns, _, _, rfl, by omega, by omega, by decide, by decide, fun p b hp hb => ?_⟩
    refine sw_cons ?_
    refine s1_set 3 ?_ sc.nd
    refine ew_call (c_law_names T Z) hr ?_
    refine aw_cons ?_
    refine ew_var 2 ?_
    refine aw_cons ?_
    refine ew_bin ?_
    refine ew_int ?_
    refine ew_call (c_law_take T Z) hr ?_
    refine aw_cons ?_
    refine ew_var 2 ?_
    refine aw_cons ?_
    refine ew_int ?_
    refine aw_nil ?_
    refine ⟨p, _, b, rfl, up_at, hb, by decide, by decide, fun many b1 hm0 hm1 hb1 => ?_⟩
    walk_at "op add"
    refine aw_nil ?_
    refine ⟨p, b1, _, rfl, up_at, hb1, by omega, by omega, fun b2 ws hb2 hw0 hwl hws => ?_⟩
    rw [up_up, up_up]
    refine sw_one ?_
    refine s1_for hpo ?_
    refine iw_range1 (T.no Z.n_range) ?_
    refine aw_cons ?_
    refine ew_int ?_
    refine aw_nil ?_
    refine ⟨_, rfl, by decide, ?_⟩
    refine ⟨fun j ρ' O' => ∃ (b : Cell) (s1 s4 s5 s6 s7 s8 : Slot), ρ' = [.dat (.fro (ns.map .int)), s1, .own p, .dat (.lst (ws.map .str)), s4, s5, s6, s7, s8] ∧ O' p = some b ∧ isBox b, ?_, ?_, ?_⟩
    · exact ⟨b2, _, _, _, _, _, _, rfl, up_at, hb2⟩
    · intro j d ρ2 O2 hj hd
      obtain ⟨b3, s1, s4, s5, s6, s7, s8, rfl, hO2, hb3⟩ := hj
      obtain ⟨hj, rfl⟩ := rangeD_at hd
      refine gw_name 4 ?_ sc.nd
      refine sw_cons ?_
      refine s1_set 5 ?_ sc.nd
      refine ew_frz ?_
      refine ew_call (c_law_row T Z) hr ?_
      refine aw_cons ?_
      refine ew_var 2 ?_
      refine aw_cons ?_
      refine ew_var 3 ?_
      refine aw_nil ?_
      refine ⟨p, b3, ws, rfl, hO2, hb3, hw0, by omega, hws, fun q b4 es hq hb4 hel heg => ?_⟩
      refine ⟨q, es.map evD, rfl, up_at, ?_⟩
      have npq : p ≠ q := own_ne hO2 hq
      have hO3 : dn (up (up O2 p b4) q (.lst ((es.map evD).map .dat))) q p = some b4 := by rw [dn_ne npq, up_ne npq, up_at]
      generalize dn (up (up O2 p b4) q (.lst ((es.map evD).map .dat))) q = O3 at hO3
      have hsm : ∀ e ∈ es, smallE e := fun e he => (heg e he).small
      have hsh : ∀ e ∈ es, showE e := fun e he => (heg e he).show
      obtain ⟨htl, hts⟩ := text_ok heg hel
      obtain ⟨rb1, rb2⟩ := read_back heg
      have hrp := (repr_events hsh (by omega)).1
      refine sw_cons ?_
      refine s1_set 6 ?_ sc.nd
      refine ew_call (c_law_text T Z) hr ?_
      refine aw_cons ?_
      refine ew_var 5 ?_
      refine aw_nil ?_
      refine ⟨es, rfl, by omega, hsm, ?_⟩
      refine sw_cons ?_
      refine s1_if ?_
      refine tw_w ?_
      refine tww_or ?_
      refine tw_cmp ?_
      refine ew_call (c_words_of T Z) hr ?_
      refine aw_cons ?_
      refine ew_var 5 ?_
      refine aw_nil ?_
      refine ⟨es, _, rfl, .inl rfl, by omega, hsm, ?_⟩
      refine ew_var 6 ?_
      walk_at "cmp NotEq"
      refine ⟨_, rfl, fun ht => absurd ht (ne_self rfl), fun ht => ?_⟩
      refine tww_or ?_
      refine tw_cmp ?_
      refine ew_call (c_words_of T Z) hr ?_
      refine aw_cons ?_
      refine ew_callTy (T.no Z.n_tuple) bt_tuple ?_
      refine aw_cons ?_
      refine ew_var 5 ?_
      refine aw_nil ?_
      walk_at "cb tuple"
      refine aw_nil ?_
      refine ⟨es, _, rfl, .inr rfl, by omega, hsm, ?_⟩
      refine ew_var 6 ?_
      walk_at "cmp NotEq"
      refine ⟨_, rfl, fun ht => absurd ht (ne_self rfl), fun ht => ?_⟩
      refine tww_or1 ?_
      refine tw_cmp ?_
      refine ew_callB (T.no Z.n_repr) bt_repr ?_
      refine aw_cons ?_
      refine ew_frz ?_
      refine ew_call (c_events_of T Z XN nf) hr ?_
      refine aw_cons ?_
      refine ew_var 6 ?_
      refine aw_nil ?_
      refine ⟨textE es, rfl, Nat.le_trans htl (by decide), fun i hi => absurd (rb1.symm.trans hi) (fun q => by cases q), fun _ r hr0 => ?_⟩
      rw [rb2]
      refine ⟨r, es.map evD, rfl, by rw [up_at, List.map_map]; rfl, ?_⟩
      rw [dn_up hr0]
      refine aw_nil ?_
      refine cb_reprL (hr.mono (by decide) (fun e => e)) hrp ?_
      refine ew_callB (T.no Z.n_repr) bt_repr ?_
      refine aw_cons ?_
      refine ew_var 5 ?_
      refine aw_nil ?_
      refine cb_reprL (hr.mono (by decide) (fun e => e)) hrp ?_
      walk_at "cmp NotEq"
      refine ⟨_, rfl, fun ht => absurd ht (ne_self rfl), fun ht => ?_⟩
      refine sw_nil ?_
      refine sw_cons ?_
      refine s1_set 7 ?_ sc.nd
      refine ew_call (c_events_of T Z XN nf) hr ?_
      refine aw_cons ?_
      refine ew_var 6 ?_
      refine aw_nil ?_
      refine ⟨textE es, rfl, Nat.le_trans htl (by decide), fun i hi => absurd (rb1.symm.trans hi) (fun q => by cases q), fun _ r hr0 => ?_⟩
      rw [rb2]
      have npr : p ≠ r := own_ne hO3 hr0
      refine sw_cons ?_
      refine s1_expr ?_
      refine ew_append ?_
      refine ew_var 7 ?_
      refine ⟨?_, ?_⟩
      · walk_at "ty"
      refine ew_tup ?_
      refine aw_cons ?_
      refine ew_str ?_
      refine aw_nil ?_
      refine ⟨[_], rfl, by walk_at "few", ?_⟩
      refine mb_append up_at (by rw [List.length_map]; exact Nat.lt_of_le_of_lt hel (by decide)) ?_
      rw [up_up]
      have hO4 : ∀ c, (up O3 r c) p = some b4 := fun c => by rw [up_ne npr]; exact hO3
      generalize hgc : (Cell.lst (List.map (fun e => Slot.dat (evD e)) es ++ [Slot.dat (Dat.tup [Dat.str "close"])])) = cc
      replace hO4 := hO4 cc
      generalize up O3 r cc = O4 at hO4
      refine sw_cons ?_
      refine s1_if ?_
      refine tw_cmp ?_
      refine ew_callB (T.no Z.n_repr) bt_repr ?_
      refine aw_cons ?_
      refine ew_frz ?_
      refine ew_call (c_events_of T Z XN nf) hr ?_
      refine aw_cons ?_
      refine ew_var 6 ?_
      refine aw_nil ?_
      refine ⟨textE es, rfl, Nat.le_trans htl (by decide), fun i hi => absurd (rb1.symm.trans hi) (fun q => by cases q), fun _ r2 hr2 => ?_⟩
      rw [rb2]
      refine ⟨r2, es.map evD, rfl, by rw [up_at, List.map_map]; rfl, ?_⟩
      rw [dn_up hr2]
      refine aw_nil ?_
      refine cb_reprL (hr.mono (by decide) (fun e => e)) hrp ?_
      refine ew_callB (T.no Z.n_repr) bt_repr ?_
      refine aw_cons ?_
      refine ew_var 5 ?_
      refine aw_nil ?_
      refine cb_reprL (hr.mono (by decide) (fun e => e)) hrp ?_
      walk_at "cmp NotEq"
      refine ⟨_, rfl, fun ht => absurd ht (ne_self rfl), fun ht => ?_⟩
      refine sw_nil ?_
      refine sw_one ?_
      refine s1_for hpo ?_
      refine iw_range1 (T.no Z.n_range) ?_
      refine aw_cons ?_
      refine ew_int ?_
      refine aw_nil ?_
      refine ⟨_, rfl, by decide, ?_⟩
      refine ⟨fun i ρ' O' => ∃ (b : Cell) (z : Str) (s1 s4 s5 s7 s8 : Slot), ρ' = [.dat (.fro (ns.map .int)), s1, .own p, .dat (.lst (ws.map .str)), s4, s5, .dat (.str z), s7, s8] ∧ O' p = some b ∧ isBox b ∧ z.length ≤ 380 + 20 * i ∧ sml z, ?_, ?_, ?_⟩
      · exact ⟨b4, _, _, _, _, _, _, rfl, hO4, hb4, by omega, hts⟩
      · intro i d ρ2 O2 hj hd
        obtain ⟨b5, z, s1, s4, s5, s7, s8, rfl, hO5, hb5, hzl, hzs⟩ := hj
        obtain ⟨hi, rfl⟩ := rangeD_at hd
        have hi : i < 4 := hi
        refine gw_name 8 ?_ sc.nd
        refine sw_cons ?_
        refine s1_set 6 ?_ sc.nd
        refine ew_call (c_law_spoilt T Z) hr ?_
        refine aw_cons ?_
        refine ew_var 2 ?_
        refine aw_cons ?_
        refine ew_var 6 ?_
        refine aw_nil ?_
        refine ⟨p, b5, z, rfl, hO5, hb5, by omega, hzs, fun b6 z' hb6 hzl' hzs' => ?_⟩
        have hz' : TxtOk z' := ⟨by omega, hzs'⟩
        refine sw_cons ?_
        refine s1_if ?_
        refine tw_val ?_
        refine ew_call (c_law_is_great T Z) hr ?_
        refine aw_cons ?_
        refine ew_var 6 ?_
        refine aw_nil ?_
        refine ⟨z', rfl, hz', fun t => ?_⟩
        refine ⟨_, rfl, fun ht => ?_, fun ht => ?_⟩
        · refine sw_one ?_
          refine s1_break ?_
          exact ⟨b6, _, _, _, _, _, _, rfl, up_at, hb6⟩
        · refine sw_nil ?_
          refine sw_one ?_
          refine s1_if ?_
          refine tw_cmp ?_
          obtain ⟨ds, hds, hrd⟩ := repr_due hz'
          refine ew_callB (T.no Z.n_repr) bt_repr ?_
          refine aw_cons ?_
          refine ew_call (c_law_heard T Z) hr ?_
          refine aw_cons ?_
          refine ew_var 6 ?_
          refine aw_nil ?_
          refine ⟨z', rfl, hz', ?_⟩
          rw [hds]
          refine aw_nil ?_
          refine cb_reprT (hr.mono (by decide) (fun e => e)) hrd ?_
          refine ew_callB (T.no Z.n_repr) bt_repr ?_
          refine aw_cons ?_
          refine ew_call (c_law_due T Z) hr ?_
          refine aw_cons ?_
          refine ew_var 6 ?_
          refine aw_nil ?_
          refine ⟨z', rfl, hz', ?_⟩
          rw [hds]
          refine aw_nil ?_
          refine cb_reprT (hr.mono (by decide) (fun e => e)) hrd ?_
          walk_at "cmp NotEq"
          refine ⟨_, rfl, fun ht => absurd ht (ne_self rfl), fun ht => ?_⟩
          refine sw_nil ?_
          exact ⟨b6, z', _, _, _, _, _, rfl, up_at, hb6, by omega, hzs'⟩
      · intro ρ2 O2 hj
        obtain ⟨b5, z, s1, s4, s5, s7, s8, rfl, hO5, hb5, hzl, hzs⟩ := hj
        exact ⟨b5, _, _, _, _, _, _, rfl, hO5, hb5⟩
    · intro ρ2 O2 hj
      obtain ⟨b3, s1, s4, s5, s6, s7, s8, rfl, hO2, hb3⟩ := hj
      exact ⟨_, _, _, _, _, _, _, _, rfl⟩
  · intro ρ2 O2 hj
    obtain ⟨s1, s2, s3, s4, s5, s6, s7, s8, rfl⟩ := hj
    refine sw_one ?_
    refine s1_ret ?_
    refine ew_and ?_
    refine ew_cmp ?_
    refine ew_call (c_words_of T Z) hr ?_
    refine aw_cons ?_
    refine ew_lstD ?_
    refine aw_nil ?_
    refine ⟨[], rfl, by decide, ?_⟩
    refine aw_nil ?_
    refine ⟨[], _, rfl, .inl rfl, by decide, fun e he => (nomatch he), ?_⟩
    refine ew_str ?_
    walk_at "cmp Eq"
    refine ⟨_, rfl, fun hc => ?_, fun hc => ?_⟩
    · refine ew_one ?_
      refine ew_cmp ?_
      refine ew_frz ?_
      refine ew_call (c_events_of T Z XN nf) hr ?_
      refine aw_cons ?_
      refine ew_str ?_
      refine aw_nil ?_
      have w0 : wordsS "" = [] := by unfold wordsS; exact if_pos rfl
      refine ⟨"", rfl, by decide +kernel, fun i hi => absurd ((show (wordsS "").findIdx? badW = none by rw [w0]; rfl).symm.trans hi) (fun q => by cases q), fun _ r hr0 => ?_⟩
      rw [w0]
      refine ⟨r, [], rfl, by rw [up_at]; rfl, ?_⟩
      rw [dn_up hr0]
      refine ew_lstD ?_
      refine aw_nil ?_
      refine ⟨[], rfl, by decide, ?_⟩
      refine ob_eq (hr.r.mono (by decide)) rfl rfl rfl rfl ?_
      exact h _
    · exact absurd (show decide (textE [] = "") = true by decide +kernel) (by rw [hc]; decide)
end
end Lw
open PySem PySem.W PyProof.Rows
set_option maxHeartbeats 0 in
theorem PySem.Challenge.cw_keptnomore_k02_words_of_events_holds : PySem.Challenge.rw_keptnomore_k02_words_of_events.Holds := by
  w_on; o_law; k_head; (case hw => w_witness2)
  k_fill
  refine Kn.law_walk (l := PySem.Challenge.rw_keptnomore_k02_words_of_events) (n := 6) (x := "_law_script") (st := Lw.s_law) (Z := Lw.Facts) rfl rfl ⟨rfl, by decide, by decide⟩ rfl (fun w h Y => PySem.W.kIn_of Y) ?Z ?D ?B ?F
  case Z =>
    intro w
    constructor
    · k_is
    · k_is
    · k_is
    · k_is
    · k_is
    · k_is
    · k_is
    · k_is
    · k_is
    · k_is
    · k_is
    · k_is
    · k_is
    · refine' Kn.def_in ?q1_0 ?q1_1 ?q1_2 ?q1_3
      (case q1_0 => k_is)
      (case q1_1 => k_is)
      (case q1_2 => k_is)
      (case q1_3 => k_is)
    · refine' Kn.def_in ?q2_0 ?q2_1 ?q2_2 ?q2_3
      (case q2_0 => k_is)
      (case q2_1 => k_is)
      (case q2_2 => k_is)
      (case q2_3 => k_is)
    · refine' Kn.def_in ?q3_0 ?q3_1 ?q3_2 ?q3_3
      (case q3_0 => k_is)
      (case q3_1 => k_is)
      (case q3_2 => k_is)
      (case q3_3 => k_is)
    · refine' Kn.def_in ?q4_0 ?q4_1 ?q4_2 ?q4_3
      (case q4_0 => k_is)
      (case q4_1 => k_is)
      (case q4_2 => k_is)
      (case q4_3 => k_is)
    · refine' Kn.def_in ?q5_0 ?q5_1 ?q5_2 ?q5_3
      (case q5_0 => k_is)
      (case q5_1 => k_is)
      (case q5_2 => k_is)
      (case q5_3 => k_is)
    · refine' Kn.def_in ?q6_0 ?q6_1 ?q6_2 ?q6_3
      (case q6_0 => k_is)
      (case q6_1 => k_is)
      (case q6_2 => k_is)
      (case q6_3 => k_is)
    · refine' Kn.def_in ?q7_0 ?q7_1 ?q7_2 ?q7_3
      (case q7_0 => k_is)
      (case q7_1 => k_is)
      (case q7_2 => k_is)
      (case q7_3 => k_is)
    · refine' Kn.def_in ?q8_0 ?q8_1 ?q8_2 ?q8_3
      (case q8_0 => k_is)
      (case q8_1 => k_is)
      (case q8_2 => k_is)
      (case q8_3 => k_is)
    · refine' Kn.def_in ?q9_0 ?q9_1 ?q9_2 ?q9_3
      (case q9_0 => k_is)
      (case q9_1 => k_is)
      (case q9_2 => k_is)
      (case q9_3 => k_is)
    · refine' Kn.def_in ?q10_0 ?q10_1 ?q10_2 ?q10_3
      (case q10_0 => k_is)
      (case q10_1 => k_is)
      (case q10_2 => k_is)
      (case q10_3 => k_is)
    · refine' Kn.def_in ?q11_0 ?q11_1 ?q11_2 ?q11_3
      (case q11_0 => k_is)
      (case q11_1 => k_is)
      (case q11_2 => k_is)
      (case q11_3 => k_is)
    · refine' Kn.def_in ?q12_0 ?q12_1 ?q12_2 ?q12_3
      (case q12_0 => k_is)
      (case q12_1 => k_is)
      (case q12_2 => k_is)
      (case q12_3 => k_is)
    · refine' Kn.def_in ?q13_0 ?q13_1 ?q13_2 ?q13_3
      (case q13_0 => k_is)
      (case q13_1 => k_is)
      (case q13_2 => k_is)
      (case q13_3 => k_is)
    · refine' Kn.def_in ?q14_0 ?q14_1 ?q14_2 ?q14_3
      (case q14_0 => k_is)
      (case q14_1 => k_is)
      (case q14_2 => k_is)
      (case q14_3 => k_is)
    · refine' Kn.def_in ?q15_0 ?q15_1 ?q15_2 ?q15_3
      (case q15_0 => k_is)
      (case q15_1 => k_is)
      (case q15_2 => k_is)
      (case q15_3 => k_is)
    · refine' Kn.def_in ?q16_0 ?q16_1 ?q16_2 ?q16_3
      (case q16_0 => k_is)
      (case q16_1 => k_is)
      (case q16_2 => k_is)
      (case q16_3 => k_is)
    · refine' Kn.def_in ?q17_0 ?q17_1 ?q17_2 ?q17_3
      (case q17_0 => k_is)
      (case q17_1 => k_is)
      (case q17_2 => k_is)
      (case q17_3 => k_is)
    · refine' Kn.def_in ?q18_0 ?q18_1 ?q18_2 ?q18_3
      (case q18_0 => k_is)
      (case q18_1 => k_is)
      (case q18_2 => k_is)
      (case q18_3 => k_is)
    · refine' Kn.def_in ?q19_0 ?q19_1 ?q19_2 ?q19_3
      (case q19_0 => k_is)
      (case q19_1 => k_is)
      (case q19_2 => k_is)
      (case q19_3 => k_is)
    · refine' Kn.def_in ?q20_0 ?q20_1 ?q20_2 ?q20_3
      (case q20_0 => k_is)
      (case q20_1 => k_is)
      (case q20_2 => k_is)
      (case q20_3 => k_is)
    · refine' Kn.def_in ?q21_0 ?q21_1 ?q21_2 ?q21_3
      (case q21_0 => k_is)
      (case q21_1 => k_is)
      (case q21_2 => k_is)
      (case q21_3 => k_is)
    · refine' Kn.def_in ?q22_0 ?q22_1 ?q22_2 ?q22_3
      (case q22_0 => k_is)
      (case q22_1 => k_is)
      (case q22_2 => k_is)
      (case q22_3 => k_is)
    · refine' Kn.text_in ?q23_0 ?q23_1
      (case q23_0 => k_is)
      (case q23_1 => decide +kernel)
    · refine' Kn.text_in ?q24_0 ?q24_1
      (case q24_0 => k_is)
      (case q24_1 => decide +kernel)
    · refine' Kn.texts_in ?q25_0 ?q25_1 ?q25_2 ?q25_3
      (case q25_0 => k_is)
      (case q25_1 => k_is)
      (case q25_2 => decide +kernel)
      (case q25_3 => decide +kernel)
    · refine' ⟨_, _, ⟨Kn.exc_at ?q26_0 ?q26_1 ?q26_2 ?q26_3 ?q26_4 ?q26_5 ?q26_6 ?q26_7 ?q26_8 ?q26_9 ?q26_10 ?q26_11, ⟨?q26_12, ?q26_13, ?q26_14, ?q26_15⟩, ⟨?q26_16, ?q26_17, ?q26_18, ?q26_19, ?q26_20, ?q26_21, ?q26_22, ?q26_23⟩, ?q26_24, ?q26_25, ?q26_26, ?q26_27, ?q26_28, ⟨?q26_29, ?q26_30⟩, ?q26_31⟩, ?q26_32⟩
      (case q26_0 => k_is)
      (case q26_1 => k_is)
      (case q26_2 => decide +kernel)
      (case q26_3 => k_is)
      (case q26_4 => k_is)
      (case q26_5 => k_is)
      (case q26_6 => k_is)
      (case q26_7 => k_is)
      (case q26_8 => k_is)
      (case q26_9 => k_is)
      (case q26_10 => k_is)
      (case q26_11 => k_is)
      (case q26_12 => k_is)
      (case q26_13 => k_is)
      (case q26_14 => k_is)
      (case q26_15 => k_is)
      (case q26_16 => k_is)
      (case q26_17 => k_is)
      (case q26_18 => k_is)
      (case q26_19 => k_is)
      (case q26_20 => k_is)
      (case q26_21 => first | k_is | kernel_rfl)
      (case q26_22 => first | k_is | kernel_rfl)
      (case q26_23 => k_is)
      (case q26_24 => k_is)
      (case q26_25 => k_is)
      (case q26_26 => k_is)
      (case q26_27 => k_is)
      (case q26_28 => k_is)
      (case q26_29 => k_is)
      (case q26_30 => k_is)
      (case q26_31 => k_is)
      (case q26_32 => k_is)
  case D =>
    intro w
    refine' Kn.def_in ?d1 ?d2 ?d3 ?d4
    (case d1 => k_is); (case d2 => k_is); (case d3 => k_is); (case d4 => k_is)
  case B => exact fun _ _ _ _ _ _ us hl => match us, hl with | [_], _ => rfl
  case F => exact fun w mg f fd Z T F base hb => Lw.fn_law T Z F
