import PyProof.Rows.All
import HandS.ForMost
import HandS.ForExc
import HandS.IsInst
import HandS.Flow
import HandS.ExcInit
import HandS.TryMany
import HandS.ExcField
import HandS.ExcIs
import HandS.ClsMeth
import HandS.Defaults
import HandS.FStr
import HandS.RaiseMore
import HandS.StrMore
import HandS.Deep
import HandS.TupAny
import HandS.Codes
import HandS.Wide
import HandS.Ends
import HandS.CallLocal
import HandS.SlotsOwn
import HandS.Slots
import KE.KExcIs
import KE.KCallOwn
import PySem.Challenge.RW_keptnomore_k16_rules_read_and_shown
set_option Elab.async false
set_option linter.all false
set_option maxRecDepth 100000
set_option maxHeartbeats 4000000
/-! KnA: data, slots, owned cells, the symbolic store and the judgements over it. -/
namespace Kn
open PySem PySem.Spec PyProof.Rows
open L2 hiding St
abbrev SV := L2.St
/-! ### data that never changes -/
inductive Dat where
  | non | bl (b : Bool) | int (i : Int) | str (x : Str)
  | lst (xs : List Dat) | tup (xs : List Dat)
  | ins (C : Addr) (fs : List (Str × Dat))
  | cls (C : Addr) | ty (n : String)
  | exc (a dd : Addr) (fs : List (Str × Dat))
  | fro (xs : List Dat)
  | slo (C : Addr) (ds : List Dat)
  | tre (C : Addr) (d1 : List (Str × Dat)) (g : Str) (es : List Dat) (d2 : List (Str × Dat))
theorem sql_at {K : PySem.W.Frag} {G : Hp} {a : Addr} {xs : List V} (h : G a = some (.lst xs)) : SqL K G a xs := .inl (.inl h)
/-- what a name or a place holds: nothing known, data, or a cell that its holder may still change -/
inductive Slot where
  | unk | dat (d : Dat) | own (p : Addr)
/-- a cell that may still change -/
inductive Cell where
  | lst (xs : List Slot)
  | ins (C dx : Addr) (fs : List (Str × Slot))
  | dK (kvs : List (Key × Slot))
  | exo (C : Addr) (d : Option Addr)
  | exd (fs : List (Str × Slot))
  | slt (C dx : Addr) (fs : List (Option Slot))
  | obj (o : HO)
  | tpl (xs : List Slot)
abbrev Own := Addr → Option Cell
def up (O : Own) (p : Addr) (c : Cell) : Own := fun b => if b = p then some c else O b
def dn (O : Own) (p : Addr) : Own := fun b => if b = p then none else O b
theorem up_at {O : Own} {p : Addr} {c : Cell} : up O p c p = some c := if_pos rfl
theorem up_ne {O : Own} {p q : Addr} {c : Cell} (h : q ≠ p) : up O p c q = O q := if_neg h
theorem dn_at {O : Own} {p : Addr} : dn O p p = none := if_pos rfl
theorem dn_ne {O : Own} {p q : Addr} (h : q ≠ p) : dn O p q = O q := if_neg h
theorem dn_up {O : Own} {p : Addr} {c : Cell} (h : O p = none) : dn (up O p c) p = O := by
  funext b
  by_cases e : b = p
  · subst e; rw [dn_at, h]
  · rw [dn_ne e, up_ne e]
theorem up_up {O : Own} {p : Addr} {c d : Cell} : up (up O p c) p d = up O p d := by
  funext b
  by_cases e : b = p
  · subst e; rw [up_at, up_at]
  · rw [up_ne e, up_ne e, up_ne e]
theorem up_self {O : Own} {p : Addr} {c : Cell} (h : O p = some c) : up O p c = O := by
  funext b
  by_cases e : b = p
  · subst e; rw [up_at, h]
  · rw [up_ne e]
theorem own_ne {O : Own} {p q : Addr} {c : Cell} (hp : O p = some c) (hq : O q = none) : p ≠ q := by
  intro e; rw [e, hq] at hp; cases hp
/-- the heap without the cells -/
def hid (O : Own) (H : Hp) : Hp := fun b => match O b with | some _ => none | none => H b
theorem hid_none {O : Own} {H : Hp} {b : Addr} (h : O b = none) : hid O H b = H b := by
  show (match O b with | some _ => none | none => H b) = _
  rw [h]
theorem hid_some {O : Own} {H : Hp} {b : Addr} {c : Cell} (h : O b = some c) : hid O H b = none := by
  show (match O b with | some _ => none | none => H b) = _
  rw [h]
theorem of_hid {O : Own} {H : Hp} {b : Addr} {o : HO} (h : hid O H b = some o) : O b = none ∧ H b = some o := by
  cases e : O b with
  | none => exact ⟨rfl, (hid_none (H := H) e).symm.trans h⟩
  | some c => rw [hid_some e] at h; cases h
section
variable (K : PySem.W.Frag) (G : Hp)
mutual
inductive Rp : V → Dat → Prop
  | non : Rp .non .non
  | bl (b : Bool) : Rp (.bl b) (.bl b)
  | int (i : Int) : Rp (.int i) (.int i)
  | str (x : Str) : Rp (.str x) (.str x)
  | lst {a : Addr} {xs : List V} {ds : List Dat} : G a = some (.lst xs) → RpA xs ds → Rp (.ref a) (.lst ds)
  | fro {a : Addr} {xs : List V} {ds : List Dat} : SqL K G a xs → RpA xs ds → Rp (.ref a) (.fro ds)
  | tup {a : Addr} {xs : List V} {ds : List Dat} : SqT K G a xs → RpA xs ds → Rp (.ref a) (.tup ds)
  | ins {a C dx : Addr} {fs : List (Str × V)} {ds : List (Str × Dat)} : G a = some (.ins C dx fs) → RpF fs ds → Rp (.ref a) (.ins C ds)
  | cls (C : Addr) : Rp (.ref C) (.cls C)
  | ty (n : String) : Rp (.ty n) (.ty n)
  | exc {a dd : Addr} {fs : List (Str × V)} {ds : List (Str × Dat)} : G dd = some (.xd fs) → RpF fs ds → Rp (.ref a) (.exc a dd ds)
  | slo {a C dx : Addr} {vs : List V} {ds : List Dat} : G a = some (SlX.SlO a C dx (vs.map some)) → G dx = some (.xd []) → dx ≠ a → RpA vs ds → Rp (.ref a) (.slo C ds)
  | tre {a C dx n : Addr} {f1 f2 : List (Str × V)} {us : List V} {d1 d2 : List (Str × Dat)} {g : Str} {es : List Dat} : G a = some (.ins C dx (f1 ++ (g, .ref n) :: f2)) → G n = some (.tup (.ref a :: us)) → RpF f1 d1 → RpF f2 d2 → RpA us es → Rp (.ref a) (.tre C d1 g es d2)
inductive RpA : List V → List Dat → Prop
  | nil : RpA [] []
  | cons {v : V} {vs : List V} {d : Dat} {ds : List Dat} : Rp v d → RpA vs ds → RpA (v :: vs) (d :: ds)
inductive RpF : List (Str × V) → List (Str × Dat) → Prop
  | nil : RpF [] []
  | cons {f : Str} {v : V} {fs : List (Str × V)} {d : Dat} {ds : List (Str × Dat)} : Rp v d → RpF fs ds → RpF ((f, v) :: fs) ((f, d) :: ds)
end
def SlOk (v : V) : Slot → Prop
  | .unk => True
  | .dat d => Rp K G v d
  | .own p => v = .ref p
def FlOk (a : Str × V) (b : Str × Slot) : Prop := a.1 = b.1 ∧ SlOk K G a.2 b.2
def OpOk : Option V → Option Slot → Prop
  | some v, some s => SlOk K G v s
  | none, none => True
  | _, _ => False
def KyOk (a : Key × V) (b : Key × Slot) : Prop := a.1 = b.1 ∧ SlOk K G a.2 b.2
def ClOk (p : Addr) (o : HO) : Cell → Prop
  | .lst ss => ∃ vs, o = .lst vs ∧ Paired (SlOk K G) vs ss
  | .ins C dx ss => ∃ fs, o = .ins C dx fs ∧ Paired (FlOk K G) fs ss
  | .dK ss => ∃ kvs, o = .dK kvs ∧ Paired (KyOk K G) kvs ss
  | .exo C d => o = L2.exo p C d
  | .exd ss => ∃ fs, o = L2.exd p fs ∧ Paired (FlOk K G) fs ss
  | .slt C dx ss => G dx = some (.xd []) ∧ dx ≠ p ∧ ∃ vs, o = SlX.SlO p C dx vs ∧ Paired (OpOk K G) vs ss
  | .obj u => o = u
  | .tpl ss => ∃ vs, o = .tup vs ∧ Paired (SlOk K G) vs ss
end
theorem sql_mono {K : PySem.W.Frag} {G G' : Hp} {a : Addr} {xs : List V} (e : Same G G') : SqL K G a xs → SqL K G' a xs
  | .inl (.inl h) => .inl (.inl (e a _ h))
  | .inl (.inr ⟨o, h⟩) => .inl (.inr ⟨o, e a _ h⟩)
  | .inr h => .inr h
theorem sqt_mono {K : PySem.W.Frag} {G G' : Hp} {a : Addr} {xs : List V} (e : Same G G') : SqT K G a xs → SqT K G' a xs
  | .inl (.inl h) => .inl (.inl (e a _ h))
  | .inl (.inr ⟨o, h⟩) => .inl (.inr ⟨o, e a _ h⟩)
  | .inr h => .inr h
section
variable {K : PySem.W.Frag} {G G' : Hp}
mutual
theorem Rp.mono (e : Same G G') {v : V} : ∀ {d : Dat}, Rp K G v d → Rp K G' v d
  | .non, h => by cases h; exact .non
  | .bl b, h => by cases h; exact .bl b
  | .int i, h => by cases h; exact .int i
  | .str x, h => by cases h; exact .str x
  | .lst ds, h => by
    cases h with
    | lst h1 h2 => exact .lst (e _ _ h1) (RpA.mono e h2)
  | .tup ds, h => by
    cases h with
    | tup h1 h2 => exact .tup (sqt_mono e h1) (RpA.mono e h2)
  | .ins C fs, h => by
    cases h with
    | ins h1 h2 => exact .ins (e _ _ h1) (RpF.mono e h2)
  | .cls C, h => by cases h; exact .cls C
  | .ty n, h => by cases h; exact .ty n
  | .exc a dd fs, h => by
    cases h with
    | exc h1 h2 => exact .exc (e _ _ h1) (RpF.mono e h2)
  | .fro ds, h => by
    cases h with
    | fro h1 h2 => exact .fro (sql_mono e h1) (RpA.mono e h2)
  | .slo C ds, h => by
    cases h with
    | slo h1 h2 h3 h4 => exact .slo (e _ _ h1) (e _ _ h2) h3 (RpA.mono e h4)
  | .tre C d1 g es d2, h => by
    cases h with
    | tre h1 h2 h3 h4 h5 => exact .tre (e _ _ h1) (e _ _ h2) (RpF.mono e h3) (RpF.mono e h4) (RpA.mono e h5)
theorem RpA.mono (e : Same G G') : ∀ {vs : List V} {ds : List Dat}, RpA K G vs ds → RpA K G' vs ds
  | _, [], h => by cases h; exact .nil
  | _, d :: ds, h => by
    cases h with
    | cons h1 h2 => exact .cons (Rp.mono e h1) (RpA.mono e h2)
theorem RpF.mono (e : Same G G') : ∀ {vs : List (Str × V)} {ds : List (Str × Dat)}, RpF K G vs ds → RpF K G' vs ds
  | _, [], h => by cases h; exact .nil
  | _, (f, d) :: ds, h => by
    cases h with
    | cons h1 h2 => exact .cons (Rp.mono e h1) (RpF.mono e h2)
end
theorem SlOk.mono (e : Same G G') {v : V} {s : Slot} (h : SlOk K G v s) : SlOk K G' v s := by
  cases s with
  | unk => trivial
  | dat d => exact Rp.mono e h
  | own p => exact h
theorem pmap {α β : Type} {F F' : α → β → Prop} (e : ∀ a b, F a b → F' a b) : ∀ {xs : List α} {ys : List β}, Paired F xs ys → Paired F' xs ys
  | _, _, .nil => .nil
  | _, _, .cons h t => .cons (e _ _ h) (pmap e t)
theorem OpOk.mono (e : Same G G') {v : Option V} {s : Option Slot} (h : OpOk K G v s) : OpOk K G' v s := by
  cases v with
  | none => cases s with
    | none => trivial
    | some s => exact h.elim
  | some v => cases s with
    | none => exact h.elim
    | some s => exact SlOk.mono e (v := v) h
theorem ClOk.mono (e : Same G G') {p : Addr} {o : HO} {c : Cell} (h : ClOk K G p o c) : ClOk K G' p o c := by
  cases c with
  | lst ss =>
    obtain ⟨vs, h1, h2⟩ := h
    exact ⟨vs, h1, pmap (fun _ _ q => SlOk.mono e q) h2⟩
  | ins C dx ss =>
    obtain ⟨vs, h1, h2⟩ := h
    exact ⟨vs, h1, pmap (fun _ _ q => ⟨q.1, SlOk.mono e q.2⟩) h2⟩
  | dK ss =>
    obtain ⟨vs, h1, h2⟩ := h
    exact ⟨vs, h1, pmap (fun _ _ q => ⟨q.1, SlOk.mono e q.2⟩) h2⟩
  | exo C d => exact h
  | obj u => exact h
  | tpl ss =>
    obtain ⟨vs, h1, h2⟩ := h
    exact ⟨vs, h1, pmap (fun _ _ q => SlOk.mono e q) h2⟩
  | exd ss =>
    obtain ⟨vs, h1, h2⟩ := h
    exact ⟨vs, h1, pmap (fun _ _ q => ⟨q.1, SlOk.mono e q.2⟩) h2⟩
  | slt C dx ss =>
    obtain ⟨h1, h2, vs, h3, h4⟩ := h
    exact ⟨e _ _ h1, h2, vs, h3, pmap (fun _ _ q => OpOk.mono e q) h4⟩
theorem RpA.length {vs : List V} {ds : List Dat} : RpA K G vs ds → vs.length = ds.length
  | .nil => rfl
  | .cons _ t => by rw [List.length_cons, List.length_cons, RpA.length t]
theorem RpA.get : ∀ {vs : List V} {ds : List Dat} {i : Nat} {d : Dat}, RpA K G vs ds → ds[i]? = some d → ∃ v, vs[i]? = some v ∧ Rp K G v d
  | _, _, _, _, .nil, e => by cases e
  | _, _, 0, _, .cons r _, e => by cases e; exact ⟨_, rfl, r⟩
  | _, _, i + 1, d, .cons _ t, e => RpA.get (i := i) t e
theorem RpA.snoc {v : V} {d : Dat} (r : Rp K G v d) : ∀ {vs : List V} {ds : List Dat}, RpA K G vs ds → RpA K G (vs ++ [v]) (ds ++ [d])
  | _, _, .nil => .cons r .nil
  | _, _, .cons h t => .cons h (RpA.snoc r t)
theorem RpA.append : ∀ {vs ws : List V} {ds es : List Dat}, RpA K G vs ds → RpA K G ws es → RpA K G (vs ++ ws) (ds ++ es)
  | _, _, _, _, .nil, h => h
  | _, _, _, _, .cons h t, q => .cons h (RpA.append t q)
theorem RpA.paired : ∀ {vs : List V} {ds : List Dat}, RpA K G vs ds → Paired (SlOk K G) vs (ds.map .dat)
  | _, _, .nil => .nil
  | _, _, .cons h t => .cons h (RpA.paired t)
theorem RpA.of_paired : ∀ {vs : List V} {ds : List Dat}, Paired (SlOk K G) vs (ds.map .dat) → RpA K G vs ds
  | _, [], h => by cases h; exact .nil
  | _, d :: ds, h => by
    cases h with
    | cons h t => exact .cons h (RpA.of_paired t)
theorem RpF.of_paired : ∀ {vs : List (Str × V)} {ds : List (Str × Dat)}, Paired (FlOk K G) vs (ds.map fun p => (p.1, .dat p.2)) → RpF K G vs ds
  | _, [], h => by cases h; exact .nil
  | _, (f, d) :: ds, h => by
    cases h with
    | cons h t =>
      rename_i a _
      obtain ⟨f', v⟩ := a
      obtain ⟨e, r⟩ := h
      cases e
      exact .cons r (RpF.of_paired t)
theorem RpF.lookup {f : Str} {d : Dat} : ∀ {vs : List (Str × V)} {ds : List (Str × Dat)}, RpF K G vs ds → ds.lookup f = some d → ∃ v, vs.lookup f = some v ∧ Rp K G v d
  | _, _, .nil, e => by cases e
  | _, _, .cons (f := g) h t, e => by
    rw [List.lookup_cons] at e ⊢
    split at e
    · rename_i q
      cases e
      exact ⟨_, rfl, h⟩
    · exact RpF.lookup t e
theorem paired_len {α β : Type} {F : α → β → Prop} : ∀ {xs : List α} {ys : List β}, Paired F xs ys → xs.length = ys.length
  | _, _, .nil => rfl
  | _, _, .cons _ t => by rw [List.length_cons, List.length_cons, paired_len t]
theorem paired_get {α β : Type} {F : α → β → Prop} : ∀ {xs : List α} {ys : List β} {i : Nat} {y : β}, Paired F xs ys → ys[i]? = some y → ∃ x, xs[i]? = some x ∧ F x y
  | _, _, _, _, .nil, e => by cases e
  | _, _, 0, _, .cons r _, e => by cases e; exact ⟨_, rfl, r⟩
  | _, _, i + 1, d, .cons _ t, e => paired_get (i := i) t e
theorem paired_set {α β : Type} {F : α → β → Prop} {x : α} {y : β} (r : F x y) : ∀ {xs : List α} {ys : List β} (i : Nat), Paired F xs ys → Paired F (xs.set i x) (ys.set i y)
  | _, _, _, .nil => .nil
  | _, _, 0, .cons _ t => .cons r t
  | _, _, i + 1, .cons h t => .cons h (paired_set r i t)
theorem paired_app {α β : Type} {F : α → β → Prop} : ∀ {xs xs' : List α} {ys ys' : List β}, Paired F xs ys → Paired F xs' ys' → Paired F (xs ++ xs') (ys ++ ys')
  | _, _, _, _, .nil, h => h
  | _, _, _, _, .cons h t, q => .cons h (paired_app t q)
end
/-! ### the symbolic store -/
structure OwnOk (K : PySem.W.Frag) (O : Own) (H : Hp) : Prop where
  cell : ∀ p c, O p = some c → ∃ o, H p = some o ∧ ClOk K (hid O H) p o c
def EnvOk (K : PySem.W.Frag) (G : Hp) (x : Option V) : Slot → Prop
  | .unk => True
  | .dat d => ∃ v, x = some v ∧ Rp K G v d
  | .own p => x = some (.ref p)
structure StOk (K : PySem.W.Frag) (H0 : Hp) (O : Own) (σ : SV) (ρ : List Slot) (H : Hp) : Prop where
  own : OwnOk K O H
  base : Same H0 (hid O H)
  env : Paired (EnvOk K (hid O H)) σ ρ
theorem EnvOk.mono {K : PySem.W.Frag} {G G' : Hp} (e : Same G G') {x : Option V} {s : Slot} (h : EnvOk K G x s) : EnvOk K G' x s := by
  cases s with
  | unk => trivial
  | dat d =>
    obtain ⟨v, q, r⟩ := h
    exact ⟨v, q, Rp.mono e r⟩
  | own p => exact h
section
variable {K : PySem.W.Frag} {H0 H1 H H' : Hp} {O O' : Own} {σ : SV} {ρ : List Slot}
theorem StOk.rebase (h : StOk K H0 O σ ρ H) (e : Same H1 H0) : StOk K H1 O σ ρ H := ⟨h.own, e.trans h.base, h.env⟩
/-- the greatest base -/
theorem StOk.top (h : StOk K H0 O σ ρ H) : StOk K (hid O H) O σ ρ H := ⟨h.own, Same.refl _, h.env⟩
theorem hid_same (e : Same H H') : Same (hid O H) (hid O H') := fun b o h => by
  obtain ⟨h1, h2⟩ := of_hid h
  rw [hid_none h1]
  exact e b o h2
/-- all that was tracked stays -/
theorem StOk.grow (h : StOk K H0 O σ ρ H) (e : Same H H') : StOk K H0 O σ ρ H' := by
  have g : Same (hid O H) (hid O H') := hid_same e
  refine ⟨⟨fun p c hp => ?_⟩, h.base.trans g, pmap (fun _ _ q => EnvOk.mono g q) h.env⟩
  obtain ⟨o, h1, h2⟩ := h.own.cell p c hp
  exact ⟨o, e p o h1, ClOk.mono g h2⟩
theorem StOk.len (h : StOk K H0 O σ ρ H) : σ.length = ρ.length := paired_len h.env
theorem StOk.set {i : Nat} {v : V} {s : Slot} (h : StOk K H0 O σ ρ H) (r : SlOk K (hid O H) v s) : StOk K H0 O (σ.set i (some v)) (ρ.set i s) H := by
  refine ⟨h.own, h.base, paired_set ?_ i h.env⟩
  cases s with
  | unk => trivial
  | dat d => exact ⟨v, rfl, r⟩
  | own p => exact congrArg some r
theorem own_free (h : OwnOk K O H) {p : Addr} (hp : H p = none) : O p = none := by
  cases e : O p with
  | none => rfl
  | some c =>
    obtain ⟨o, h1, _⟩ := h.cell p c e
    rw [hp] at h1; cases h1
/-- a new object, a cell from now on -/
theorem StOk.alloc {p : Addr} {o : HO} {c : Cell} (h : StOk K H0 O σ ρ H) (hp : H p = none) (r : ClOk K (hid O H) p o c) : StOk K H0 (up O p c) σ ρ (upd H p o) := by
  have hO : O p = none := own_free h.own hp
  have g : Same (hid O H) (hid (up O p c) (upd H p o)) := fun b u q => by
    obtain ⟨h1, h2⟩ := of_hid q
    have nb : b ≠ p := ne_of_none h2 hp
    rw [hid_none (by rw [up_ne nb]; exact h1), upd_ne nb]
    exact h2
  refine ⟨⟨fun q d hq => ?_⟩, h.base.trans g, pmap (fun _ _ z => EnvOk.mono g z) h.env⟩
  by_cases e : q = p
  · subst e
    rw [up_at] at hq; cases hq
    exact ⟨o, upd_same, ClOk.mono g r⟩
  · rw [up_ne e] at hq
    obtain ⟨u, h1, h2⟩ := h.own.cell q d hq
    exact ⟨u, by rw [upd_ne e]; exact h1, ClOk.mono g h2⟩
theorem same_new {p : Addr} {o : HO} (h : H p = none) : Same H (upd H p o) := fun b u e => by
  rw [upd_ne (ne_of_none e h)]
  exact e
/-- a cell is written -/
theorem StOk.write {p : Addr} {o : HO} {c c0 : Cell} (h : StOk K H0 O σ ρ H) (hp : O p = some c0) (r : ClOk K (hid O H) p o c) : StOk K H0 (up O p c) σ ρ (upd H p o) := by
  have g : Same (hid O H) (hid (up O p c) (upd H p o)) := fun b u q => by
    obtain ⟨h1, h2⟩ := of_hid q
    have nb : b ≠ p := fun z => by rw [z, hp] at h1; cases h1
    rw [hid_none (by rw [up_ne nb]; exact h1), upd_ne nb]
    exact h2
  refine ⟨⟨fun q d hq => ?_⟩, h.base.trans g, pmap (fun _ _ z => EnvOk.mono g z) h.env⟩
  by_cases e : q = p
  · subst e
    rw [up_at] at hq; cases hq
    exact ⟨o, upd_same, ClOk.mono g r⟩
  · rw [up_ne e] at hq
    obtain ⟨u, h1, h2⟩ := h.own.cell q d hq
    exact ⟨u, by rw [upd_ne e]; exact h1, ClOk.mono g h2⟩
theorem hid_write {p : Addr} {o : HO} {c c0 : Cell} (hp : O p = some c0) : Same (hid O H) (hid (up O p c) (upd H p o)) := fun b u q => by
  obtain ⟨h1, h2⟩ := of_hid q
  have nb : b ≠ p := fun z => by rw [z, hp] at h1; cases h1
  rw [hid_none (by rw [up_ne nb]; exact h1), upd_ne nb]
  exact h2
/-- a cell becomes data -/
theorem hid_dn {p : Addr} : Same (hid O H) (hid (dn O p) H) := fun b o h => by
  obtain ⟨h1, h2⟩ := of_hid h
  by_cases e : b = p
  · subst e
    rw [hid_none dn_at]; exact h2
  · rw [hid_none (by rw [dn_ne e]; exact h1)]; exact h2
theorem OwnOk.freeze {p : Addr} (h : OwnOk K O H) : OwnOk K (dn O p) H := ⟨fun q c hq => by
  by_cases e : q = p
  · subst e; rw [dn_at] at hq; cases hq
  · rw [dn_ne e] at hq
    obtain ⟨o, h1, h2⟩ := h.cell q c hq
    exact ⟨o, h1, ClOk.mono hid_dn h2⟩⟩
theorem StOk.freeze {p : Addr} (h : StOk K H0 O σ ρ H) : StOk K H0 (dn O p) σ ρ H :=
  ⟨h.own.freeze, h.base.trans hid_dn, pmap (fun _ _ q => EnvOk.mono hid_dn q) h.env⟩
/-- the list cell as data -/
theorem OwnOk.lst {p : Addr} {ds : List Dat} (h : OwnOk K O H) (hp : O p = some (.lst (ds.map .dat))) : Rp K (hid (dn O p) H) (.ref p) (.lst ds) := by
  obtain ⟨o, h1, xs, rfl, h2⟩ := h.cell p _ hp
  exact .lst (by rw [hid_none dn_at]; exact h1) (RpA.of_paired (pmap (fun _ _ q => SlOk.mono hid_dn q) h2))
theorem OwnOk.ins {p C dx : Addr} {ds : List (Str × Dat)} (h : OwnOk K O H) (hp : O p = some (.ins C dx (ds.map fun q => (q.1, .dat q.2)))) : Rp K (hid (dn O p) H) (.ref p) (.ins C ds) := by
  obtain ⟨o, h1, fs, rfl, h2⟩ := h.cell p _ hp
  exact .ins (by rw [hid_none dn_at]; exact h1) (RpF.of_paired (pmap (fun _ _ q => ⟨q.1, SlOk.mono hid_dn q.2⟩) h2))
end
/-! ### exceptions -/
inductive Exn where
  | own (C : Addr) (fs : List (Str × Dat))
  | ty (n : String)
abbrev ExK := Exn → List Slot → Own → Prop
def noX : ExK := fun _ _ _ => False
def ExOk (K : PySem.W.Frag) (O : Own) (H : Hp) (cls : Value) (d : Option Addr) : Exn → Prop
  | .own C fs => cls = .ref C ∧ ∃ (dx : Addr) (fv : List (Str × V)), d = some dx ∧ O dx = none ∧ H dx = some (.xd fv) ∧ RpF K (hid O H) fv fs
  | .ty n => cls = .type n
def Wsem (K : PySem.W.Frag) (H0 : Hp) (x : ExK) : WX := fun cls d σ H => ∃ e ρ O, x e ρ O ∧ StOk K H0 O σ ρ H ∧ ExOk K O H cls d e
theorem takes_base {X : Cx} {K : PySem.W.Frag} {H0 H1 : Hp} {x : ExK} (t : Takes X (Wsem K H0 x)) (e : Same H0 H1) : Takes X (Wsem K H1 x) :=
  t.imp fun _ _ _ _ ⟨a, ρ, O, h1, h2, h3⟩ => ⟨a, ρ, O, h1, h2.rebase e, h3⟩
theorem takes_no {X : Cx} {K : PySem.W.Frag} {H0 : Hp} : Takes X (Wsem K H0 noX) := takes0.imp fun _ _ _ _ ⟨_, _, _, h, _⟩ => h
theorem takes_x {X : Cx} {K : PySem.W.Frag} {H0 : Hp} {x y : ExK} (t : Takes X (Wsem K H0 x)) (h : ∀ e ρ O, y e ρ O → x e ρ O) : Takes X (Wsem K H0 y) :=
  t.imp fun _ _ _ _ ⟨a, ρ, O, h1, h2, h3⟩ => ⟨a, ρ, O, h _ _ _ h1, h2, h3⟩
/-! ### the strongest readings -/
/-- a wall: what is behind it is not reduced -/
structure Bx (p : Prop) : Prop where
  r : p
section
variable (X : Cx)
def We (e : Expr) : TE := fun σ H Q => Bx (∀ (pins : List (Addr × Obj)) (s : Shared), Inv X pins σ H s → wpAny (model X.prog X.w) X.A (eval e X.env) (EP X pins σ Q) X.xe s)
def Wt (e : Expr) : TT := fun σ H Q => Bx (∀ (pins : List (Addr × Obj)) (s : Shared), Inv X pins σ H s → wpAny (model X.prog X.w) X.A (isTrue e X.env (eval e X.env)) (TP X pins σ Q) X.xe s)
def Wa (es : List Expr) : TA := fun σ H Q => Bx (∀ (pos : Pos) (pins : List (Addr × Obj)) (s : Shared), Inv X pins σ H s → wpAny (model X.prog X.w) X.A (spliced (backTo pos (starEach es X.env))) (AP X pins σ Q) X.xe s)
def Ws (st : Stmt) : TS := fun D σ H => Bx (∀ (pins : List (Addr × Obj)) (s : Shared), Inv X pins σ H s → wpAny (model X.prog X.w) X.A (exec st X.env) (SP X pins D) X.xe s)
def Wss (st : List Stmt) : TS := fun D σ H => Bx (∀ (pins : List (Addr × Obj)) (s : Shared), Inv X pins σ H s → wpAny (model X.prog X.w) X.A (execs st X.env) (SP X pins D) X.xe s)
end
section
variable {X : Cx}
theorem pe_w {e : Expr} : PE X e (We X e) := ⟨fun pins s σ H Q I h => h.r pins s I⟩
theorem pt_w {e : Expr} : PT X e (Wt X e) := ⟨fun pins s σ H Q I h => h.r pins s I⟩
theorem pa_w {es : List Expr} : PA X es (Wa X es) := ⟨fun pos pins s σ H Q I h => h.r pos pins s I⟩
theorem ps_w {st : Stmt} : PS X st (Ws X st) := ⟨fun pins s σ H D I h => h.r pins s I⟩
theorem pss_w {st : List Stmt} : PSs X st (Wss X st) := ⟨fun pins s σ H D I h => h.r pins s I⟩
theorem we_of {e : Expr} {t : TE} (h : PE X e t) {σ : SV} {H : Hp} {Q : VK} (q : t σ H Q) : We X e σ H Q := ⟨fun pins s I => h.run pins s σ H Q I q⟩
theorem wt_of {e : Expr} {t : TT} (h : PT X e t) {σ : SV} {H : Hp} {Q : Bool → Hp → Prop} (q : t σ H Q) : Wt X e σ H Q := ⟨fun pins s I => h.run pins s σ H Q I q⟩
theorem wa_of {es : List Expr} {t : TA} (h : PA X es t) {σ : SV} {H : Hp} {Q : List V → Hp → Prop} (q : t σ H Q) : Wa X es σ H Q := ⟨fun pos pins s I => h.run pos pins s σ H Q I q⟩
theorem ws_of {st : Stmt} {t : TS} (h : PS X st t) {σ : SV} {H : Hp} {D : Ends} (q : t D σ H) : Ws X st D σ H := ⟨fun pins s I => h.run pins s σ H D I q⟩
theorem wss_of {st : List Stmt} {t : TS} (h : PSs X st t) {σ : SV} {H : Hp} {D : Ends} (q : t D σ H) : Wss X st D σ H := ⟨fun pins s I => h.run pins s σ H D I q⟩
end
/-! ### the judgements: e is evaluated in the store O, the names hold ρ; an exception is handed to x; k is what follows -/
section
variable (X : Cx)
def EW (O : Own) (ρ : List Slot) (e : Expr) (x : ExK) (k : Slot → Own → Prop) : Prop :=
  ∀ H0 σ H, StOk X.K H0 O σ ρ H → Takes X (Wsem X.K H0 x) → ∀ Q : VK, (∀ v H' s O', k s O' → StOk X.K H0 O' σ ρ H' → SlOk X.K (hid O' H') v s → Q v H') → We X e σ H Q
def AW (O : Own) (ρ : List Slot) (es : List Expr) (x : ExK) (k : List Slot → Own → Prop) : Prop :=
  ∀ H0 σ H, StOk X.K H0 O σ ρ H → Takes X (Wsem X.K H0 x) → ∀ Q : List V → Hp → Prop, (∀ vs H' ss O', k ss O' → StOk X.K H0 O' σ ρ H' → Paired (SlOk X.K (hid O' H')) vs ss → Q vs H') → Wa X es σ H Q
def TW (O : Own) (ρ : List Slot) (e : Expr) (x : ExK) (k : Bool → Own → Prop) : Prop :=
  ∀ H0 σ H, StOk X.K H0 O σ ρ H → Takes X (Wsem X.K H0 x) → ∀ Q : Bool → Hp → Prop, (∀ b H' O', k b O' → StOk X.K H0 O' σ ρ H' → Q b H') → Wt X e σ H Q
structure SD where
  nx : List Slot → Own → Prop
  rt : Slot → Own → Prop
  bk : List Slot → Own → Prop := fun _ _ => False
  ct : List Slot → Own → Prop := fun _ _ => False
structure EndsOk (K : PySem.W.Frag) (H0 : Hp) (D : SD) (E : Ends) : Prop where
  nx : ∀ σ ρ O H, D.nx ρ O → StOk K H0 O σ ρ H → E.nx σ H
  rt : ∀ v s O H, D.rt s O → OwnOk K O H → Same H0 (hid O H) → SlOk K (hid O H) v s → E.rt v H
  bk : ∀ σ ρ O H, D.bk ρ O → StOk K H0 O σ ρ H → E.bk σ H
  ct : ∀ σ ρ O H, D.ct ρ O → StOk K H0 O σ ρ H → E.ct σ H
def S1 (O : Own) (ρ : List Slot) (st : Stmt) (x : ExK) (D : SD) : Prop :=
  ∀ H0 σ H, StOk X.K H0 O σ ρ H → Takes X (Wsem X.K H0 x) → ∀ E, EndsOk X.K H0 D E → Ws X st E σ H
def SW (O : Own) (ρ : List Slot) (st : List Stmt) (x : ExK) (D : SD) : Prop :=
  ∀ H0 σ H, StOk X.K H0 O σ ρ H → Takes X (Wsem X.K H0 x) → ∀ E, EndsOk X.K H0 D E → Wss X st E σ H
end
theorem EndsOk.base {K : PySem.W.Frag} {H0 H1 : Hp} {D : SD} {E : Ends} (h : EndsOk K H0 D E) (e : Same H0 H1) : EndsOk K H1 D E :=
  ⟨fun σ ρ O H q s => h.nx σ ρ O H q (s.rebase e), fun v s O H q o b r => h.rt v s O H q o (e.trans b) r, fun σ ρ O H q s => h.bk σ ρ O H q (s.rebase e), fun σ ρ O H q s => h.ct σ ρ O H q (s.rebase e)⟩
end Kn
/-! KnB: the structural rules. -/
namespace Kn
open PySem PySem.Spec PyProof.Rows
open L2 hiding St
def Slot.known : Slot → Bool
  | .unk => false
  | _ => true
section
variable {es : List Expr} {env : Env} {p : Pos}
theorem star_const {c : Const} {j} : starEach ((.Constant c j p) :: es) env = (false, eval (.Constant c j p) env) :: starEach es env := rfl
theorem star_name {n : Str} : starEach ((.Name n p) :: es) env = (false, eval (.Name n p) env) :: starEach es env := rfl
theorem star_call {f : Expr} {as} {kw} : starEach ((.Call f as kw p) :: es) env = (false, eval (.Call f as kw p) env) :: starEach es env := rfl
theorem star_attr {o : Expr} {n} : starEach ((.Attribute o n p) :: es) env = (false, eval (.Attribute o n p) env) :: starEach es env := rfl
theorem star_sub {o i : Expr} : starEach ((.Subscript o i p) :: es) env = (false, eval (.Subscript o i p) env) :: starEach es env := rfl
theorem star_bin {a : Expr} {o} {b : Expr} : starEach ((.BinOp a o b p) :: es) env = (false, eval (.BinOp a o b p) env) :: starEach es env := rfl
theorem star_un {o} {b : Expr} : starEach ((.UnaryOp o b p) :: es) env = (false, eval (.UnaryOp o b p) env) :: starEach es env := rfl
theorem star_cmp {a : Expr} {os} {bs} : starEach ((.Compare a os bs p) :: es) env = (false, eval (.Compare a os bs p) env) :: starEach es env := rfl
theorem star_bool {o} {bs} : starEach ((.BoolOp o bs p) :: es) env = (false, eval (.BoolOp o bs p) env) :: starEach es env := rfl
theorem star_if {a b c : Expr} : starEach ((.IfExp a b c p) :: es) env = (false, eval (.IfExp a b c p) env) :: starEach es env := rfl
theorem star_list {xs} : starEach ((.List xs p) :: es) env = (false, eval (.List xs p) env) :: starEach es env := rfl
theorem star_tup {xs} {j} : starEach ((.Tuple xs j p) :: es) env = (false, eval (.Tuple xs j p) env) :: starEach es env := rfl
theorem star_comp {e : Expr} {gs} {sc} : starEach ((.ListComp e gs sc p) :: es) env = (false, eval (.ListComp e gs sc p) env) :: starEach es env := rfl
theorem star_join {xs} : starEach ((.JoinedStr xs p) :: es) env = (false, eval (.JoinedStr xs p) env) :: starEach es env := rfl
end
section
variable {X : Cx} {O : Own} {ρ : List Slot} {x : ExK} {k k' : Slot → Own → Prop} {kl kl' : List Slot → Own → Prop} {kt kt' : Bool → Own → Prop} {e a b c : Expr} {es : List Expr} {pos : Pos} {D : SD}
theorem EW.mono (h : EW X O ρ e x k) (m : ∀ s O', k s O' → k' s O') : EW X O ρ e x k' := fun H0 σ H st tk Q q =>
  h H0 σ H st tk Q fun v H' s O' ks s' r => q v H' s O' (m _ _ ks) s' r
theorem TW.mono (h : TW X O ρ e x kt) (m : ∀ s O', kt s O' → kt' s O') : TW X O ρ e x kt' := fun H0 σ H st tk Q q =>
  h H0 σ H st tk Q fun v H' O' ks s' => q v H' O' (m _ _ ks) s'
theorem AW.mono (h : AW X O ρ es x kl) (m : ∀ s O', kl s O' → kl' s O') : AW X O ρ es x kl' := fun H0 σ H st tk Q q =>
  h H0 σ H st tk Q fun v H' s O' ks s' r => q v H' s O' (m _ _ ks) s' r
theorem EW.exc {y : ExK} (h : EW X O ρ e y k) (m : ∀ e ρ O, y e ρ O → x e ρ O) : EW X O ρ e x k := fun H0 σ H st tk Q q => h H0 σ H st (takes_x tk m) Q q
theorem known_env {K : PySem.W.Frag} {G : Hp} {s : Slot} (h : s.known = true) {o : Option V} (e : EnvOk K G o s) : ∃ v, o = some v ∧ SlOk K G v s := by
  cases s with
  | unk => cases h
  | dat d => exact e
  | own p => exact ⟨_, e, rfl⟩
/-! ### names and constants -/
theorem ew_var (i : Nat) {nm : Str} {s : Slot} (h : k s O) (hρ : ρ[i]? = some s := by rfl) (hk : s.known = true := by rfl) (hN : X.N[i]? = some nm := by rfl)
    (hv : Vis X.env.scope nm := by first | exact Or.inl rfl | exact Or.inr (Or.inl rfl) | exact Or.inr (Or.inr rfl)) (hd : (nm == ("__debug__" : Str)) = false := by decide)
    (hcd : (nm == ("__classdict__" : Str)) = false := by decide) : EW X O ρ (.Name nm pos) x k := fun H0 σ H st tk Q q => by
  obtain ⟨o, h1, h2⟩ := paired_get st.env hρ
  obtain ⟨v, h3, h4⟩ := known_env hk h2
  exact we_of (pe_var (i := i) hN hv hd hcd) ⟨v, by rw [h1, h3], q v H s O h st h4⟩
theorem ew_int {i : Int} {j} (h : k (.dat (.int i)) O) : EW X O ρ (.Constant (.int i) j pos) x k := fun H0 σ H st tk Q q => we_of pe_int (q _ H _ O h st (.int i))
theorem ew_bl {i : Bool} {j} (h : k (.dat (.bl i)) O) : EW X O ρ (.Constant (.bool i) j pos) x k := fun H0 σ H st tk Q q => we_of pe_bl (q _ H _ O h st (.bl i))
theorem ew_non {j} (h : k (.dat .non) O) : EW X O ρ (.Constant .none j pos) x k := fun H0 σ H st tk Q q => we_of pe_non (q _ H _ O h st .non)
theorem ew_str {z : Str} {j} (h : k (.dat (.str z)) O) : EW X O ρ (.Constant (.str z) j pos) x k := fun H0 σ H st tk Q q => we_of pe_str (q _ H _ O h st (.str z))
/-- a module's name that holds data -/
def GlobD (K : PySem.W.Frag) (mg : Str → Option Value) (nm : Str) (d : Dat) : Prop := ∃ v u, mg nm = some u ∧ RelV v u ∧ ∀ G, Rp K G v d
theorem ew_glob {nm : Str} {d : Dat} (g : GlobD X.K X.mg nm d) (h : k (.dat d) O) (hg : Gl X nm := by rfl) (hd : (nm == ("__debug__" : Str)) = false := by decide) : EW X O ρ (.Name nm pos) x k := fun H0 σ H st tk Q q => by
  obtain ⟨v, u, hm, r, hr⟩ := g
  exact we_of (pe_glob hg hm r hd) (q v H _ O h st (hr _))
/-! ### arguments, displays -/
theorem aw_nil (h : kl [] O) : AW X O ρ [] x kl := fun H0 σ H st tk Q q => wa_of pa_nil (q [] H [] O h st .nil)
theorem aw_cons (h : EW X O ρ a x fun s O1 => AW X O1 ρ es x fun ss O2 => kl (s :: ss) O2) (hs : starEach (a :: es) X.env = (false, eval a X.env) :: starEach es X.env := by first | exact star_const | exact star_name | exact star_call | exact star_attr | exact star_sub | exact star_bin | exact star_un | exact star_cmp | exact star_bool | exact star_if | exact star_list | exact star_tup | exact star_comp | exact star_join | rfl) : AW X O ρ (a :: es) x kl := fun H0 σ H st tk Q q =>
  wa_of (pa_cons pe_w pa_w hs) (h H0 σ H st tk _ fun v H1 s O1 h1 st1 r1 =>
    h1 (hid O1 H1) σ H1 st1.top (takes_base tk st1.base) _ fun vs H2 ss O2 h2 st2 r2 => q (v :: vs) H2 (s :: ss) O2 h2 (st2.rebase st1.base) (.cons (SlOk.mono st2.base r1) r2))
/-! ### operators by what they are given -/
def R1D (K : PySem.W.Frag) (r : V → Hp → VK → Prop) (s1 : Slot) (O : Own) (k : Slot → Own → Prop) : Prop :=
  ∀ H0 σ ρ H v1, StOk K H0 O σ ρ H → SlOk K (hid O H) v1 s1 → ∀ Q : VK, (∀ v H' s O', k s O' → StOk K H0 O' σ ρ H' → SlOk K (hid O' H') v s → Q v H') → r v1 H Q
def R2D (K : PySem.W.Frag) (r : R2) (s1 s2 : Slot) (O : Own) (k : Slot → Own → Prop) : Prop :=
  ∀ H0 σ ρ H v1 v2, StOk K H0 O σ ρ H → SlOk K (hid O H) v1 s1 → SlOk K (hid O H) v2 s2 → ∀ Q : VK, (∀ v H' s O', k s O' → StOk K H0 O' σ ρ H' → SlOk K (hid O' H') v s → Q v H') → r v1 v2 H Q
def RlD (K : PySem.W.Frag) (r : List V → Hp → VK → Prop) (ss : List Slot) (O : Own) (k : Slot → Own → Prop) : Prop :=
  ∀ H0 σ ρ H vs, StOk K H0 O σ ρ H → Paired (SlOk K (hid O H)) vs ss → ∀ Q : VK, (∀ v H' s O', k s O' → StOk K H0 O' σ ρ H' → SlOk K (hid O' H') v s → Q v H') → r vs H Q
def OpB (X : Cx) (f : Value → Value → Sem Value) (s1 s2 : Slot) (O : Own) (k : Slot → Own → Prop) : Prop := ∃ r, OpR X f r ∧ R2D X.K r s1 s2 O k
def OpU (X : Cx) (f : Value → Sem Value) (s1 : Slot) (O : Own) (k : Slot → Own → Prop) : Prop := ∃ r, UnR X f r ∧ R1D X.K r s1 O k
def IxB (X : Cx) (s1 s2 : Slot) (O : Own) (k : Slot → Own → Prop) : Prop := ∃ r, IxR X r ∧ R2D X.K r s1 s2 O k
def CaB (X : Cx) (f : Value) (ss : List Slot) (O : Own) (k : Slot → Own → Prop) : Prop := ∃ r, CallR X f r ∧ RlD X.K r ss O k
theorem two {P : Slot → Slot → Own → Prop} (h : EW X O ρ a x fun s1 O1 => EW X O1 ρ b x fun s2 O2 => P s1 s2 O2) {H0 : Hp} {σ : SV} {H : Hp} (st : StOk X.K H0 O σ ρ H) (tk : Takes X (Wsem X.K H0 x))
    {Q : V → V → Hp → Prop} (q : ∀ v1 v2 s1 s2 O2 H2, P s1 s2 O2 → StOk X.K H0 O2 σ ρ H2 → SlOk X.K (hid O2 H2) v1 s1 → SlOk X.K (hid O2 H2) v2 s2 → Q v1 v2 H2) :
    We X a σ H fun v1 H1 => We X b σ H1 fun v2 H2 => Q v1 v2 H2 :=
  h H0 σ H st tk _ fun v1 H1 s1 O1 h1 st1 r1 => h1 (hid O1 H1) σ H1 st1.top (takes_base tk st1.base) _ fun v2 H2 s2 O2 h2 st2 r2 =>
    q v1 v2 s1 s2 O2 H2 h2 (st2.rebase st1.base) (SlOk.mono st2.base r1) r2
theorem ew_bin {op : Operator} (h : EW X O ρ a x fun s1 O1 => EW X O1 ρ b x fun s2 O2 => OpB X (binaryOp op) s1 s2 O2 k) : EW X O ρ (.BinOp a op b pos) x k := fun H0 σ H st tk Q q => by
  refine ⟨fun pins s I => ?_⟩
  refine wpAny_BinOp (bin pe_w pe_w I (two h st tk (Q := fun v1 v2 H2 => ∃ r, OpR X (binaryOp op) r ∧ r v1 v2 H2 Q) fun v1 v2 s1 s2 O2 H2 hp st2 r1 r2 => ?_) fun v u s2 z y H2 I2 rx ry hq => ?_)
  · obtain ⟨r, ho, hr⟩ := hp
    exact ⟨r, ho, hr H0 σ ρ H2 v1 v2 st2 r1 r2 Q q⟩
  · obtain ⟨r, ho, hr⟩ := hq
    exact ho pins s2 σ H2 z y v u Q I2 rx ry hr
theorem ew_cmp {op : CmpOp} (h : EW X O ρ a x fun s1 O1 => EW X O1 ρ b x fun s2 O2 => OpB X (compareOp op) s1 s2 O2 k) (hm : behindInMarks op b = false := by first | exact nomark _ | rfl) : EW X O ρ (.Compare a [op] [b] pos) x k := fun H0 σ H st tk Q q => by
  have main : OpR X (compareOp op) (fun v1 v2 H2 Q => ∃ r, OpR X (compareOp op) r ∧ r v1 v2 H2 Q) := fun pins s σ H x y v u Q I rx ry ⟨r, ho, hr⟩ => ho pins s σ H x y v u Q I rx ry hr
  refine we_of (pe_cmpR main pe_w pe_w hm) (two h st tk (Q := fun v1 v2 H2 => ∃ r, OpR X (compareOp op) r ∧ r v1 v2 H2 Q) fun v1 v2 s1 s2 O2 H2 hp st2 r1 r2 => ?_)
  obtain ⟨r, ho, hr⟩ := hp
  exact ⟨r, ho, hr H0 σ ρ H2 v1 v2 st2 r1 r2 Q q⟩
theorem ew_un {op : UnaryOp} (h : EW X O ρ a x fun s1 O1 => OpU X (unaryOp op) s1 O1 k) : EW X O ρ (.UnaryOp op a pos) x k := fun H0 σ H st tk Q q => by
  have main : UnR X (unaryOp op) (fun v1 H2 Q => ∃ r, UnR X (unaryOp op) r ∧ r v1 H2 Q) := fun pins s σ H y v Q I rx ⟨r, ho, hr⟩ => ho pins s σ H y v Q I rx hr
  refine we_of (pe_un main pe_w) (h H0 σ H st tk _ fun v H1 s O1 hp st1 r1 => ?_)
  obtain ⟨r, ho, hr⟩ := hp
  exact ⟨r, ho, hr H0 σ ρ H1 v st1 r1 Q q⟩
theorem ew_ix (h : EW X O ρ a x fun s1 O1 => EW X O1 ρ b x fun s2 O2 => IxB X s1 s2 O2 k) (hs : PlainIx b := by intro _ _; rfl) : EW X O ρ (.Subscript a b pos) x k := fun H0 σ H st tk Q q => by
  have main : IxR X (fun v1 v2 H2 Q => ∃ r, IxR X r ∧ r v1 v2 H2 Q) := fun value slice pins s σ H z y v u Q I rx ry ⟨r, ho, hr⟩ hs => ho value slice pins s σ H z y v u Q I rx ry hr hs
  refine we_of (pe_ix main pe_w pe_w hs) (two h st tk (Q := fun v1 v2 H2 => ∃ r, IxR X r ∧ r v1 v2 H2 Q) fun v1 v2 s1 s2 O2 H2 hp st2 r1 r2 => ?_)
  obtain ⟨r, ho, hr⟩ := hp
  exact ⟨r, ho, hr H0 σ ρ H2 v1 v2 st2 r1 r2 Q q⟩
/-- a built-in function, a built-in class, called -/
theorem ew_callB {nm : Str} {id : String} {p : Pos} (hm : X.mg nm = none) (hv : bootBuiltins nm = some (.builtin id)) (h : AW X O ρ (e :: es) x fun ss O1 => CaB X (.builtin id) ss O1 k) (hg : Gl X nm := by rfl)
    (hn : nm ≠ "__name__" := by decide) (hd : (nm == ("__debug__" : Str)) = false := by decide) (hs : starEach (e :: es) X.env = (false, eval e X.env) :: starEach es X.env := by rfl) (hpl : (backTo pos (starEach es X.env)).any (·.1) = false := by rfl) :
    EW X O ρ (.Call (.Name nm p) (e :: es) [] pos) x k := fun H0 σ H st tk Q q => by
  have main : CallR X (.builtin id) (fun vs H2 Q => ∃ r, CallR X (.builtin id) r ∧ r vs H2 Q) := fun pins s σ H xs us Q I rx ⟨r, ho, hr⟩ => ho pins s σ H xs us Q I rx hr
  refine we_of (pe_callB main hg hm hv pa_w (hn := hn) (hdb := hd) (he := hs) (hpl := hpl)) (h H0 σ H st tk _ fun vs H1 ss O1 hp st1 r1 => ?_)
  obtain ⟨r, ho, hr⟩ := hp
  exact ⟨r, ho, hr H0 σ ρ H1 vs st1 r1 Q q⟩
theorem ew_callTy {nm : Str} {id : String} {p : Pos} (hm : X.mg nm = none) (hv : bootBuiltins nm = some (.type id)) (h : AW X O ρ (e :: es) x fun ss O1 => CaB X (.type id) ss O1 k) (hg : Gl X nm := by rfl)
    (hn : nm ≠ "__name__" := by decide) (hd : (nm == ("__debug__" : Str)) = false := by decide) (hs : starEach (e :: es) X.env = (false, eval e X.env) :: starEach es X.env := by rfl) (hpl : (backTo pos (starEach es X.env)).any (·.1) = false := by rfl) :
    EW X O ρ (.Call (.Name nm p) (e :: es) [] pos) x k := fun H0 σ H st tk Q q => by
  have main : CallR X (.type id) (fun vs H2 Q => ∃ r, CallR X (.type id) r ∧ r vs H2 Q) := fun pins s σ H xs us Q I rx ⟨r, ho, hr⟩ => ho pins s σ H xs us Q I rx hr
  refine we_of (pe_callTy main hg hm hv pa_w (hn := hn) (hdb := hd) (he := hs) (hpl := hpl)) (h H0 σ H st tk _ fun vs H1 ss O1 hp st1 r1 => ?_)
  obtain ⟨r, ho, hr⟩ := hp
  exact ⟨r, ho, hr H0 σ ρ H1 vs st1 r1 Q q⟩
/-! ### tests -/
theorem tw_val (h : EW X O ρ e x fun s O1 => ∃ t, s = .dat (.bl t) ∧ kt t O1) (he : ∀ whole, isTrue e X.env whole = (do let v ← whole; standAt e.pos; holding [v] (truthy v)) := by intro _; rfl) : TW X O ρ e x kt := fun H0 σ H st tk Q q =>
  wt_of (pt_val pe_w he) (h H0 σ H st tk _ fun v H1 s O1 ⟨t, e1, h1⟩ st1 r1 => by
    subst e1
    cases r1
    exact ⟨t, rfl, q t H1 O1 h1 st1⟩)
theorem tw_cmp {op : CmpOp} (h : EW X O ρ a x fun s1 O1 => EW X O1 ρ b x fun s2 O2 => OpB X (compareOp op) s1 s2 O2 fun s O3 => ∃ t, s = .dat (.bl t) ∧ kt t O3) (hm : behindInMarks op b = false := by first | exact nomark _ | rfl) : TW X O ρ (.Compare a [op] [b] pos) x kt := fun H0 σ H st tk Q q => by
  have main : OpR X (compareOp op) (fun v1 v2 H2 Q => ∃ r, OpR X (compareOp op) r ∧ r v1 v2 H2 Q) := fun pins s σ H x y v u Q I rx ry ⟨r, ho, hr⟩ => ho pins s σ H x y v u Q I rx ry hr
  refine wt_of (pt_cmpR main pe_w pe_w hm) (two h st tk (Q := fun v1 v2 H2 => ∃ r, OpR X (compareOp op) r ∧ r v1 v2 H2 fun z H3 => ∃ k, z = .bl k ∧ Q k H3) fun v1 v2 s1 s2 O2 H2 hp st2 r1 r2 => ?_)
  obtain ⟨r, ho, hr⟩ := hp
  exact ⟨r, ho, hr H0 σ ρ H2 v1 v2 st2 r1 r2 _ fun z H3 s O3 ⟨t, e1, h1⟩ st3 r3 => by
    subst e1
    cases r3
    exact ⟨t, rfl, q t H3 O3 h1 st3⟩⟩
theorem tw_not (h : TW X O ρ a x fun t O1 => kt (!t) O1) : TW X O ρ (.UnaryOp .Not a pos) x kt := fun H0 σ H st tk Q q =>
  wt_of (pt_not pt_w) (h H0 σ H st tk _ fun t H1 O1 h1 st1 => q (!t) H1 O1 h1 st1)
/-- truth of what is no bool -/
def TrD (s : Slot) (O : Own) (kt : Bool → Own → Prop) : Prop := match s with
  | .dat .non => kt false O
  | .dat (.bl t) => kt t O
  | .dat (.int i) => kt (i != 0) O
  | .dat (.str z) => z.length ≤ sizeLine ∧ kt (z.length != 0) O
  | .dat (.lst ds) => kt (!ds.isEmpty) O
  | .dat (.tup ds) => kt (!ds.isEmpty) O
  | .own p => match O p with
    | some (.lst ss) => kt (!ss.isEmpty) O
    | some (.dK ss) => kt (!ss.isEmpty) O
    | _ => False
  | _ => False
theorem isEmpty_rp {K : PySem.W.Frag} {G : Hp} {vs : List V} {ds : List Dat} (h : RpA K G vs ds) : vs.isEmpty = ds.isEmpty := by cases h <;> rfl
theorem isEmpty_pd {α β : Type} {F : α → β → Prop} {vs : List α} {ds : List β} (h : Paired F vs ds) : vs.isEmpty = ds.isEmpty := by cases h <;> rfl
theorem tw_truth (h : EW X O ρ e x fun s O1 => TrD s O1 kt) (he : ∀ whole, isTrue e X.env whole = (do let v ← whole; standAt e.pos; holding [v] (truthy v)) := by intro _; rfl) : TW X O ρ e x kt := fun H0 σ H st tk Q q => by
  refine wt_of (pt_truth pe_w he) (h H0 σ H st tk _ fun v H1 s O1 h1 st1 r1 => ?_)
  cases s with
  | unk => exact h1.elim
  | dat d =>
    cases d with
    | non => cases r1; exact ⟨false, rfl, q _ H1 O1 h1 st1⟩
    | bl t => cases r1; exact ⟨t, rfl, q _ H1 O1 h1 st1⟩
    | int i => cases r1; exact ⟨_, rfl, q _ H1 O1 h1 st1⟩
    | str z =>
      cases r1
      refine ⟨_, ⟨h1.1, rfl⟩, q _ H1 O1 ?_ st1⟩
      have e1 : ((z.length : Int) != 0) = (z.length != 0) := by
        cases hz : z.length with
        | zero => rfl
        | succ n => rfl
      rw [e1]
      exact h1.2
    | lst ds =>
      cases r1 with
      | lst h2 h3 => exact ⟨_, .inl ⟨_, sql_at ((of_hid h2).2), rfl⟩, q _ H1 O1 (by rw [isEmpty_rp h3]; exact h1) st1⟩
    | tup ds =>
      cases r1 with
      | tup h2 h3 => exact ⟨_, .inr (.inl ⟨_, sqt_mono (fun b o hb => (of_hid hb).2) h2, rfl⟩), q _ H1 O1 (by rw [isEmpty_rp h3]; exact h1) st1⟩
    | ins C fs => exact h1.elim
    | cls C => exact h1.elim
    | ty n => exact h1.elim
    | exc a dd fs => exact h1.elim
    | fro ds => exact h1.elim
    | slo C ds => exact h1.elim
    | tre C d1 g es d2 => exact h1.elim
  | own p =>
    have r1 : v = .ref p := r1
    subst r1
    have h1 : match O1 p with
      | some (.lst ss) => kt (!ss.isEmpty) O1
      | some (.dK ss) => kt (!ss.isEmpty) O1
      | _ => False := h1
    cases hc : O1 p with
    | none => rw [hc] at h1; exact h1.elim
    | some cl =>
      rw [hc] at h1
      obtain ⟨o, h2, h3⟩ := st1.own.cell p cl hc
      cases cl with
      | lst ss =>
        obtain ⟨vs, rfl, h3⟩ := h3
        exact ⟨_, .inl ⟨_, .inl (.inl h2), rfl⟩, q _ H1 O1 (by rw [isEmpty_pd h3]; exact h1) st1⟩
      | ins C dx fs => exact h1.elim
      | exo C d => exact h1.elim
      | exd ss => exact h1.elim
      | slt C dx ss => exact h1.elim
      | obj u => exact h1.elim
      | tpl ss => exact h1.elim
      | dK ss =>
        obtain ⟨vs, rfl, h3⟩ := h3
        exact ⟨_, .inr (.inr ⟨_, h2, rfl⟩), q _ H1 O1 (by rw [isEmpty_pd h3]; exact h1) st1⟩
/-- and, or as tests, whatever their whole is -/
def TWw (X : Cx) (O : Own) (ρ : List Slot) (e : Expr) (x : ExK) (kt : Bool → Own → Prop) : Prop :=
  ∀ H0 σ H, StOk X.K H0 O σ ρ H → Takes X (Wsem X.K H0 x) → ∀ Q : Bool → Hp → Prop, (∀ b H' O', kt b O' → StOk X.K H0 O' σ ρ H' → Q b H') → Bx (∀ (whole : Sem Value) (pins : List (Addr × Obj)) (s : Shared), Inv X pins σ H s →
    wpAny (model X.prog X.w) X.A (isTrue e X.env whole) (TP X pins σ Q) X.xe s)
theorem tw_w (h : TWw X O ρ e x kt) : TW X O ρ e x kt := fun H0 σ H st tk Q q => ⟨fun pins s I => (h H0 σ H st tk Q q).r _ pins s I⟩
def Wp (X : Cx) (e : Expr) : TT := fun σ H Q => Bx (∀ (whole : Sem Value) (pins : List (Addr × Obj)) (s : Shared), Inv X pins σ H s → wpAny (model X.prog X.w) X.A (isTrue e X.env whole) (TP X pins σ Q) X.xe s)
theorem pw_w : PW X e (Wp X e) := ⟨fun wh pins s σ H Q I h => h.r wh pins s I⟩
theorem wp_of {t : TT} (h : PW X e t) {σ : SV} {H : Hp} {Q : Bool → Hp → Prop} (q : t σ H Q) : Wp X e σ H Q := ⟨fun wh pins s I => h.run wh pins s σ H Q I q⟩
theorem tww_and1 (h : TW X O ρ a x kt) : TWw X O ρ (.BoolOp .And [a] pos) x kt := fun H0 σ H st tk Q q => wp_of (pw_and1 pt_w) (h H0 σ H st tk Q q)
theorem tww_or1 (h : TW X O ρ a x kt) : TWw X O ρ (.BoolOp .Or [a] pos) x kt := fun H0 σ H st tk Q q => wp_of (pw_or1 pt_w) (h H0 σ H st tk Q q)
theorem tww_and (h : TW X O ρ a x fun t O1 => (t = true → TWw X O1 ρ (.BoolOp .And (b :: es) pos) x kt) ∧ (t = false → kt false O1)) : TWw X O ρ (.BoolOp .And (a :: b :: es) pos) x kt := fun H0 σ H st tk Q q =>
  wp_of (pw_and pt_w pw_w) (h H0 σ H st tk _ fun t H1 O1 h1 st1 => by
    cases t with
    | true => exact (h1.1 rfl) H0 σ H1 st1 tk Q q
    | false => exact q false H1 O1 (h1.2 rfl) st1)
theorem tww_or (h : TW X O ρ a x fun t O1 => (t = true → kt true O1) ∧ (t = false → TWw X O1 ρ (.BoolOp .Or (b :: es) pos) x kt)) : TWw X O ρ (.BoolOp .Or (a :: b :: es) pos) x kt := fun H0 σ H st tk Q q =>
  wp_of (pw_or pt_w pw_w) (h H0 σ H st tk _ fun t H1 O1 h1 st1 => by
    cases t with
    | true => exact q true H1 O1 (h1.1 rfl) st1
    | false => exact (h1.2 rfl) H0 σ H1 st1 tk Q q)
/-! and, or, not as values of bools -/
theorem ew_one {op : BoolOp} (h : EW X O ρ a x k) : EW X O ρ (.BoolOp op [a] pos) x k := fun H0 σ H st tk Q q => we_of (pe_one pe_w) (h H0 σ H st tk Q q)
theorem ew_and (h : EW X O ρ a x fun s O1 => ∃ t, s = .dat (.bl t) ∧ (t = true → EW X O1 ρ (.BoolOp .And (b :: es) pos) x k) ∧ (t = false → k (.dat (.bl false)) O1)) : EW X O ρ (.BoolOp .And (a :: b :: es) pos) x k := fun H0 σ H st tk Q q =>
  we_of (pe_and pe_w pe_w) (h H0 σ H st tk _ fun v H1 s O1 ⟨t, e1, h1, h2⟩ st1 r1 => by
    subst e1
    cases r1
    refine ⟨t, rfl, ?_⟩
    cases t with
    | true => exact iteT ((h1 rfl) H0 σ H1 st1 tk Q q)
    | false => exact iteF (q _ H1 _ O1 (h2 rfl) st1 (.bl false)))
theorem ew_or (h : EW X O ρ a x fun s O1 => ∃ t, s = .dat (.bl t) ∧ (t = true → k (.dat (.bl true)) O1) ∧ (t = false → EW X O1 ρ (.BoolOp .Or (b :: es) pos) x k)) : EW X O ρ (.BoolOp .Or (a :: b :: es) pos) x k := fun H0 σ H st tk Q q =>
  we_of (pe_or pe_w pe_w) (h H0 σ H st tk _ fun v H1 s O1 ⟨t, e1, h1, h2⟩ st1 r1 => by
    subst e1
    cases r1
    refine ⟨t, rfl, ?_⟩
    cases t with
    | true => exact iteT (q _ H1 _ O1 (h1 rfl) st1 (.bl true))
    | false => exact iteF ((h2 rfl) H0 σ H1 st1 tk Q q))
theorem ew_notv (h : EW X O ρ a x fun s O1 => ∃ t, s = .dat (.bl t) ∧ k (.dat (.bl (!t))) O1) : EW X O ρ (.UnaryOp .Not a pos) x k := fun H0 σ H st tk Q q =>
  we_of (pe_not pe_w) (h H0 σ H st tk _ fun v H1 s O1 ⟨t, e1, h1⟩ st1 r1 => by
    subst e1
    cases r1
    exact ⟨t, rfl, q _ H1 _ O1 h1 st1 (.bl _)⟩)
theorem ew_if (h : TW X O ρ c x fun t O1 => (t = true → EW X O1 ρ a x k) ∧ (t = false → EW X O1 ρ b x k)) : EW X O ρ (.IfExp c a b pos) x k := fun H0 σ H st tk Q q =>
  we_of (pe_ifExp pt_w pe_w pe_w) (h H0 σ H st tk _ fun t H1 O1 h1 st1 => by
    cases t with
    | true => exact iteT ((h1.1 rfl) H0 σ H1 st1 tk Q q)
    | false => exact iteF ((h1.2 rfl) H0 σ H1 st1 tk Q q))
/-! ### statements -/
variable {st0 : Stmt} {sts body orelse : List Stmt}
theorem sw_nil (h : D.nx ρ O) : SW X O ρ [] x D := fun H0 σ H st tk E ok => wss_of pss_nil (ok.nx σ ρ O H h st)
theorem sw_cons (h : S1 X O ρ st0 x { D with nx := fun ρ' O' => SW X O' ρ' sts x D }) : SW X O ρ (st0 :: sts) x D := fun H0 σ H st tk E ok =>
  wss_of (pss_cons ps_w pss_w) (h H0 σ H st tk _ ⟨fun σ' ρ' O' H' q s => q H0 σ' H' s tk E ok, ok.rt, ok.bk, ok.ct⟩)
theorem sw_one (h : S1 X O ρ st0 x D) : SW X O ρ [st0] x D := fun H0 σ H st tk E ok => wss_of (pss_one ps_w) (h H0 σ H st tk E ok)
theorem s1_pass (h : D.nx ρ O) : S1 X O ρ (.Pass pos) x D := fun H0 σ H st tk E ok => ws_of ps_pass (ok.nx σ ρ O H h st)
theorem s1_break (h : D.bk ρ O) : S1 X O ρ (.Break pos) x D := fun H0 σ H st tk E ok => ws_of ps_break (ok.bk σ ρ O H h st)
theorem s1_continue (h : D.ct ρ O) : S1 X O ρ (.Continue pos) x D := fun H0 σ H st tk E ok => ws_of ps_continue (ok.ct σ ρ O H h st)
theorem s1_expr (h : EW X O ρ e x fun _ O' => D.nx ρ O') (hs : swapsWith e none pos.line X.env = pure false := by rfl) : S1 X O ρ (.Expr e pos) x D := fun H0 σ H st tk E ok => ws_of (ps_expr pe_w hs) (h H0 σ H st tk _ fun v H' s O' q st' r => ok.nx σ ρ O' H' q st')
theorem s1_ret (h : EW X O ρ e x D.rt) : S1 X O ρ (.Return (some e) pos) x D := fun H0 σ H st tk E ok => ws_of (ps_ret pe_w) (h H0 σ H st tk _ fun v H' s O' q st' r => ok.rt v s O' H' q st'.own st'.base r)
theorem s1_retN (h : D.rt (.dat .non) O) : S1 X O ρ (.Return none pos) x D := fun H0 σ H st tk E ok => ws_of ps_retN (ok.rt .non _ O H h st.own st.base .non)
theorem s1_if (h : TW X O ρ c x fun t O1 => (t = true → SW X O1 ρ body x D) ∧ (t = false → SW X O1 ρ orelse x D)) : S1 X O ρ (.If c body orelse pos) x D := fun H0 σ H st tk E ok =>
  ws_of (ps_if pt_w pss_w pss_w) (h H0 σ H st tk _ fun t H1 O1 h1 st1 => by
    cases t with
    | true => exact iteT ((h1.1 rfl) H0 σ H1 st1 tk E ok)
    | false => exact iteF ((h1.2 rfl) H0 σ H1 st1 tk E ok))
theorem s1_set (i : Nat) {nm : Str} {p : Pos} (h : EW X O ρ e x fun s O' => D.nx (ρ.set i s) O') (hN : X.N.Nodup) (hi : X.N[i]? = some nm := by rfl) (hx : Loc X.env.scope nm := by first | exact .inl rfl | exact .inr rfl)
    (hs : swapsWith e (some (.Name nm p)) pos.line X.env = pure false := by rfl) (hf : X.fn nm = true ∨ X.env.scope.names.lookup nm = some .local := by first | exact .inl rfl | exact .inr rfl | assumption) :
    S1 X O ρ (.Assign [.Name nm p] e pos) x D := fun H0 σ H st tk E ok =>
  ws_of (ps_set hN hi hx pe_w hs hf) (h H0 σ H st tk _ fun v H' s O' q st' r => ok.nx _ _ O' H' q (st'.set r))
/-! targets -/
def Wg (X : Cx) (tg : Expr) : TG := fun v σ H Q => Bx (∀ (pins : List (Addr × Obj)) (s : Shared) (u : Value), Inv X pins σ H s → RelV v u → wpAny (model X.prog X.w) X.A (assign tg X.env u) (fun _ s' => ∃ σ' H', Inv X pins σ' H' s' ∧ Q σ' H') X.xe s)
theorem pg_w {tg : Expr} : PG X tg (Wg X tg) := ⟨fun pins s σ H v u Q I r h => h.r pins s u I r⟩
theorem wg_of {tg : Expr} {t : TG} (h : PG X tg t) {v : V} {σ : SV} {H : Hp} {Q : SV → Hp → Prop} (q : t v σ H Q) : Wg X tg v σ H Q := ⟨fun pins s u I r => h.run pins s σ H v u Q I r q⟩
def GW (X : Cx) (O : Own) (ρ : List Slot) (tg : Expr) (s : Slot) (x : ExK) (k : List Slot → Own → Prop) : Prop :=
  ∀ H0 σ H v, StOk X.K H0 O σ ρ H → SlOk X.K (hid O H) v s → Takes X (Wsem X.K H0 x) → ∀ Q : SV → Hp → Prop, (∀ σ' H' ρ' O', k ρ' O' → StOk X.K H0 O' σ' ρ' H' → Q σ' H') → Wg X tg v σ H Q
theorem gw_name (i : Nat) {nm : Str} {s : Slot} (h : kl (ρ.set i s) O) (hN : X.N.Nodup) (hi : X.N[i]? = some nm := by rfl) (hx : Loc X.env.scope nm := by first | exact .inl rfl | exact .inr rfl)
    (hf : X.fn nm = true ∨ X.env.scope.names.lookup nm = some .local := by first | exact .inl rfl | exact .inr rfl | assumption) : GW X O ρ (.Name nm pos) s x kl := fun H0 σ H v st r tk Q q =>
  wg_of (pg_name hN hi hx hf) (q _ H _ O h (st.set r))
/-- several targets -/
def GsW (X : Cx) (O : Own) (ρ : List Slot) (tgs : List Expr) (ss : List Slot) (x : ExK) (k : List Slot → Own → Prop) : Prop :=
  ∀ H0 σ H vs, StOk X.K H0 O σ ρ H → Paired (SlOk X.K (hid O H)) vs ss → Takes X (Wsem X.K H0 x) → ∀ Q : SV → Hp → Prop, (∀ σ' H' ρ' O', k ρ' O' → StOk X.K H0 O' σ' ρ' H' → Q σ' H') →
    Bx (∀ (pins : List (Addr × Obj)) (s : Shared) (us : List Value), Inv X pins σ H s → Vals vs us → wpAny (model X.prog X.w) X.A (assignInOrder ((assignEach tgs X.env).map (·.2)) us) (fun _ s' => ∃ σ' H', Inv X pins σ' H' s' ∧ Q σ' H') X.xe s)
def Wgs (X : Cx) (tgs : List Expr) : TGs := fun vs σ H Q => Bx (∀ (pins : List (Addr × Obj)) (s : Shared) (us : List Value), Inv X pins σ H s → Vals vs us → wpAny (model X.prog X.w) X.A (assignInOrder ((assignEach tgs X.env).map (·.2)) us) (fun _ s' => ∃ σ' H', Inv X pins σ' H' s' ∧ Q σ' H') X.xe s)
theorem pgs_w {tgs : List Expr} : PGs X tgs (Wgs X tgs) := ⟨fun pins s σ H vs us Q I r h => h.r pins s us I r⟩
theorem gsw_nil (h : kl ρ O) : GsW X O ρ [] [] x kl := fun H0 σ H vs st r tk Q q => ⟨fun pins s us I rv => by
  cases r
  exact pgs_nil.run pins s σ H [] us Q I rv ⟨rfl, q σ H ρ O h st⟩⟩
theorem gsw_cons {tg : Expr} {tgs : List Expr} {s : Slot} {ss : List Slot} (h : GW X O ρ tg s x fun ρ1 O1 => GsW X O1 ρ1 tgs ss x kl) (hs : (assignEach (tg :: tgs) X.env).map (·.2) = assign tg X.env :: (assignEach tgs X.env).map (·.2) := by rfl) : GsW X O ρ (tg :: tgs) (s :: ss) x kl := fun H0 σ H vs st r tk Q q => ⟨fun pins sh us I rv => by
  cases r with
  | cons r1 r2 =>
    refine (pgs_cons pg_w pgs_w hs).run pins sh σ H _ us Q I rv ⟨_, _, rfl, h (hid O H) σ H _ st.top r1 (takes_base tk st.base) _ fun σ1 H1 ρ1 O1 h1 st1 => ?_⟩
    exact h1 H0 σ1 H1 _ (st1.rebase st.base) (pmap (fun _ _ z => SlOk.mono st1.base z) r2) tk Q q⟩
theorem gw_tup {tgs : List Expr} {kk : Nat} {ds : List Dat} (h : GsW X O ρ tgs (ds.map .dat) x kl) (hc : X.calm = true := by rfl) (hn : (assignEach tgs X.env).length = ds.length := by rfl) (hst : (assignEach tgs X.env).findIdx? (·.1) = none := by rfl) :
    GW X O ρ (.Tuple tgs kk pos) (.dat (.tup ds)) x kl := fun H0 σ H v st r tk Q q => by
  cases r with
  | tup h1 h2 =>
    refine wg_of (pg_tup hc pgs_w hn hst) ⟨_, _, rfl, sqt_mono (fun b o hb => (of_hid hb).2) h1, RpA.length h2, ?_⟩
    exact h H0 σ H _ st h2.paired tk Q q
theorem s1_asg {tg : Expr} (h : EW X O ρ e x fun s O' => GW X O' ρ tg s x D.nx) (hs : swapsWithSole [tg] e pos.line X.env = pure false := by rfl) (hw : swappedStores [tg] e X.env = pure none := by rfl)
    (h1 : (assignEach [tg] X.env).map (·.2) = [assign tg X.env] := by rfl) : S1 X O ρ (.Assign [tg] e pos) x D := fun H0 σ H st tk E ok =>
  ws_of (ps_asg pe_w pg_w hs hw h1) (h H0 σ H st tk _ fun v H' s O' q st' r => q H0 σ H' v st' r tk _ fun σ' H'' ρ' O'' q2 st2 => ok.nx σ' ρ' O'' H'' q2 st2)
/-- a, b = c, d with plain local names -/
theorem s1_par (i j : Nat) {nx ny : Str} {px py pt : Pos} {kt1 k2 pt2} (h : AW X O ρ [a, b] x fun ss O' => ∃ s1 s2, ss = [s1, s2] ∧ D.nx ((ρ.set i s1).set j s2) O') (hN : X.N.Nodup) (hc : X.calm = true := by rfl) (hi : X.N[i]? = some nx := by rfl) (hj : X.N[j]? = some ny := by rfl) (hij : i ≠ j := by decide)
    (hx : X.env.scope.names.lookup nx = some .local := by rfl) (hy : X.env.scope.names.lookup ny = some .local := by rfl)
    (hw : swappedStores [.Tuple [.Name nx px, .Name ny py] kt1 pt] (.Tuple [a, b] k2 pt2) X.env = pure (some [nx, ny]) := by rfl)
    (hs : swapsWithSole [.Tuple [.Name nx px, .Name ny py] kt1 pt] (.Tuple [a, b] k2 pt2) pos.line X.env = pure false := by rfl) :
    S1 X O ρ (.Assign [.Tuple [.Name nx px, .Name ny py] kt1 pt] (.Tuple [a, b] k2 pt2) pos) x D := fun H0 σ H st tk E ok =>
  ws_of (ps_par hc hN hi hj hij hx hy pa_w hw hs) (h H0 σ H st tk _ fun vs H' ss O' ⟨s1, s2, e1, q⟩ st' r => by
    subst e1
    cases r with
    | cons r1 r =>
      cases r with
      | cons r2 r =>
        cases r
        exact ⟨_, _, rfl, ok.nx _ _ O' H' q ((st'.set r1).set r2)⟩)
end
end Kn
/-! KnC: what is walked, loops, comprehensions, displays. -/
namespace Kn
open PySem PySem.Spec PyProof.Rows
open L2 hiding St
/-! ### what is walked: a row of data, fixed ahead -/
def ItD (K : PySem.W.Frag) (G : Hp) (J : It) (ds : List Dat) : Prop := ∀ O H, OwnOk K O H → Same G (hid O H) → ∀ i,
  (∀ d, ds[i]? = some d → J.go i H ∧ ∀ v H', J.yld i H v H' → Same H H' ∧ Rp K (hid O H') v d) ∧ (ds[i]? = none → J.stop i H)
def Wi (X : Cx) (tg iter : Expr) : TI := fun σ H R => Bx (∀ (pins : List (Addr × Obj)) (s : Shared), Inv X pins σ H s →
  wpAny (model X.prog X.w) X.A (eval iter X.env) (fun v s1 => wpAny (model X.prog X.w) X.A (pyIter v) (PIE X pins σ tg R) X.xe s1) X.xe s)
def IW (X : Cx) (O : Own) (ρ : List Slot) (tg iter : Expr) (x : ExK) (k : List Dat → Own → Prop) : Prop :=
  ∀ H0 σ H, StOk X.K H0 O σ ρ H → Takes X (Wsem X.K H0 x) → ∀ R : It → Hp → Prop, (∀ J H' ds O', k ds O' → StOk X.K H0 O' σ ρ H' → ItD X.K (hid O' H') J ds → R J H') → Wi X tg iter σ H R
theorem hid_le {O : Own} {H : Hp} : Same (hid O H) H := fun b o h => (of_hid h).2
theorem itd_list {K : PySem.W.Frag} {G : Hp} {a : Addr} {xs : List V} {ds : List Dat} (h : SqL K G a xs) (r : RpA K G xs ds) : ItD K G (Itl K a) ds := fun O H ok sm i => by
  have hS : SqL K H a xs := sql_mono (sm.trans hid_le) h
  refine ⟨fun d hd => ?_, fun hn => ⟨xs, hS, by rw [r.length]; exact List.getElem?_eq_none_iff.mp hn⟩⟩
  obtain ⟨v, h1, h2⟩ := r.get hd
  refine ⟨⟨xs, v, hS, h1⟩, fun v' H' hy => ?_⟩
  obtain ⟨rfl, hv⟩ := hy
  refine ⟨Same.refl _, ?_⟩
  have e : v = v' := Option.some.inj (h1.symm.trans (hv xs hS))
  rw [← e]
  exact Rp.mono sm h2
theorem itd_tup {K : PySem.W.Frag} {G : Hp} {a : Addr} {xs : List V} {ds : List Dat} (h : SqT K G a xs) (r : RpA K G xs ds) : ItD K G (Itt K a) ds := fun O H ok sm i => by
  have hS : SqT K H a xs := sqt_mono (sm.trans hid_le) h
  refine ⟨fun d hd => ?_, fun hn => ⟨xs, hS, by rw [r.length]; exact List.getElem?_eq_none_iff.mp hn⟩⟩
  obtain ⟨v, h1, h2⟩ := r.get hd
  refine ⟨⟨xs, v, hS, h1⟩, fun v' H' hy => ?_⟩
  obtain ⟨rfl, hv⟩ := hy
  refine ⟨Same.refl _, ?_⟩
  have e : v = v' := Option.some.inj (h1.symm.trans (hv xs hS))
  rw [← e]
  exact Rp.mono sm h2
def rangeD (lo : Int) (n : Nat) : List Dat := (List.range n).map fun (i : Nat) => Dat.int (lo + (i : Int))
theorem rangeD_len (lo : Int) (n : Nat) : (rangeD lo n).length = n := by unfold rangeD; rw [List.length_map, List.length_range]
theorem rangeD_at {lo : Int} {n i : Nat} {d : Dat} (h : (rangeD lo n)[i]? = some d) : i < n ∧ d = .int (lo + (i : Int)) := by
  have hl : i < (rangeD lo n).length := (List.getElem?_eq_some_iff.mp h).1
  rw [rangeD_len] at hl
  refine ⟨hl, ?_⟩
  unfold rangeD at h
  rw [List.getElem?_map, List.getElem?_range hl] at h
  exact (Option.some.inj h).symm
theorem itd_range {K : PySem.W.Frag} {G : Hp} {lo : Int} {n : Nat} : ItD K G (Itr lo n) (rangeD lo n) := fun O H ok sm i => by
  refine ⟨fun d hd => ?_, fun hn => ?_⟩
  · obtain ⟨h1, rfl⟩ := rangeD_at hd
    refine ⟨h1, fun v H' hy => ?_⟩
    obtain ⟨rfl, rfl⟩ := hy
    exact ⟨Same.refl _, .int _⟩
  · have h1 := List.getElem?_eq_none_iff.mp hn
    rw [rangeD_len] at h1
    exact h1
def signsD (z : Str) : List Dat := z.cps.toList.map fun c => .str ⟨#[c]⟩
theorem itd_str {K : PySem.W.Frag} {G : Hp} {z : Str} : ItD K G (Its z) (signsD z) := fun O H ok sm i => by
  refine ⟨fun d hd => ?_, fun hn => ?_⟩
  · unfold signsD at hd
    rw [List.getElem?_map] at hd
    cases hc : z.cps.toList[i]? with
    | none => rw [hc] at hd; cases hd
    | some c =>
      rw [hc] at hd
      cases hd
      have hi : i < z.cps.toList.length := (List.getElem?_eq_some_iff.mp hc).1
      refine ⟨by rw [Array.length_toList] at hi; exact hi, fun v H' hy => ?_⟩
      obtain ⟨rfl, c', hc', rfl⟩ := hy
      have e : c = c' := by
        rw [Array.getElem?_toList] at hc
        exact Option.some.inj (hc.symm.trans hc')
      rw [e]
      exact ⟨Same.refl _, .str _⟩
  · have h1 := List.getElem?_eq_none_iff.mp hn
    unfold signsD at h1
    rw [List.length_map, Array.length_toList] at h1
    exact h1
def enumD (ds : List Dat) : List Dat := ds.mapIdx fun i d => .tup [.int (i : Int), d]
theorem itd_enum {K : PySem.W.Frag} {G : Hp} {a : Addr} {xs : List V} {ds : List Dat} (h : SqL K G a xs) (r : RpA K G xs ds) : ItD K G (Ite K a) (enumD ds) := fun O H ok sm i => by
  have hS : SqL K H a xs := sql_mono (sm.trans hid_le) h
  refine ⟨fun d hd => ?_, fun hn => ⟨xs, hS, ?_⟩⟩
  · unfold enumD at hd
    rw [List.getElem?_mapIdx] at hd
    cases hc : ds[i]? with
    | none => rw [hc] at hd; cases hd
    | some d0 =>
      rw [hc] at hd
      cases hd
      obtain ⟨v, h1, h2⟩ := r.get hc
      refine ⟨⟨xs, v, hS, h1⟩, fun v' H' hy => ?_⟩
      obtain ⟨T, x, rfl, nT, rfl, hv⟩ := hy
      have e : v = x := Option.some.inj (h1.symm.trans (hv xs hS))
      rw [← e]
      refine ⟨same_new nT, .tup (.inl (.inl ?_)) (.cons (.int _) (.cons (Rp.mono (sm.trans (hid_same (same_new nT))) h2) .nil))⟩
      rw [hid_none (own_free ok nT), upd_same]
  · have h1 := List.getElem?_eq_none_iff.mp hn
    unfold enumD at h1
    rw [List.length_mapIdx] at h1
    rw [r.length]; exact h1
def zipD (ds es : List Dat) : List Dat := List.zipWith (fun d e => .tup [d, e]) ds es
theorem itd_zip {K : PySem.W.Frag} {G : Hp} {a b : Addr} {xs ys : List V} {ds es : List Dat} (h : SqL K G a xs) (r : RpA K G xs ds) (h' : SqL K G b ys) (r' : RpA K G ys es) : ItD K G (Itz K a b) (zipD ds es) := fun O H ok sm i => by
  have hS : SqL K H a xs := sql_mono (sm.trans hid_le) h
  have hT : SqL K H b ys := sql_mono (sm.trans hid_le) h'
  refine ⟨fun d hd => ?_, fun hn => ⟨xs, ys, hS, hT, ?_⟩⟩
  · unfold zipD at hd
    rw [List.getElem?_zipWith] at hd
    cases hc : ds[i]? with
    | none => rw [hc] at hd; cases hd
    | some d0 =>
      cases hc' : es[i]? with
      | none => rw [hc, hc'] at hd; cases hd
      | some e0 =>
        rw [hc, hc'] at hd
        cases hd
        obtain ⟨v, h1, h2⟩ := r.get hc
        obtain ⟨u, h3, h4⟩ := r'.get hc'
        refine ⟨⟨xs, ys, v, u, hS, hT, h1, h3⟩, fun v' H' hy => ?_⟩
        obtain ⟨T, z1, z2, rfl, nT, rfl, hv, hu⟩ := hy
        have e : v = z1 := Option.some.inj (h1.symm.trans (hv xs hS))
        have e' : u = z2 := Option.some.inj (h3.symm.trans (hu ys hT))
        rw [← e, ← e']
        refine ⟨same_new nT, .tup (.inl (.inl ?_)) (.cons (Rp.mono (sm.trans (hid_same (same_new nT))) h2) (.cons (Rp.mono (sm.trans (hid_same (same_new nT))) h4) .nil))⟩
        rw [hid_none (own_free ok nT), upd_same]
  · have h1 := List.getElem?_eq_none_iff.mp hn
    unfold zipD at h1
    rw [List.length_zipWith] at h1
    rw [r.length, r'.length]; omega
theorem itd_rev {K : PySem.W.Frag} {G : Hp} {a : Addr} {xs : List V} {ds : List Dat} (h : SqL K G a xs) (r : RpA K G xs ds) : ItD K G (Itv K a xs.length) ds.reverse := fun O H ok sm i => by
  have hS : SqL K H a xs := sql_mono (sm.trans hid_le) h
  have hl := r.length
  refine ⟨fun d hd => ?_, fun hn => ?_⟩
  · have hi : i < ds.reverse.length := (List.getElem?_eq_some_iff.mp hd).1
    rw [List.length_reverse] at hi
    rw [List.getElem?_reverse hi, ← hl] at hd
    obtain ⟨v, h1, h2⟩ := r.get hd
    refine ⟨⟨by omega, xs, v, hS, h1⟩, fun v' H' hy => ?_⟩
    obtain ⟨rfl, hv⟩ := hy
    refine ⟨Same.refl _, ?_⟩
    have e : v = v' := Option.some.inj (h1.symm.trans (hv xs hS))
    rw [← e]
    exact Rp.mono sm h2
  · have h1 := List.getElem?_eq_none_iff.mp hn
    rw [List.length_reverse] at h1
    show xs.length ≤ i
    omega
section
variable {X : Cx} {O : Own} {ρ : List Slot} {x : ExK} {k k' : Slot → Own → Prop} {kl kl' : List Slot → Own → Prop} {kd : List Dat → Own → Prop} {kt kt' : Bool → Own → Prop} {e a b c tg iter : Expr} {es : List Expr} {pos p : Pos} {D : SD}
theorem pi_w : PI X tg iter (Wi X tg iter) := ⟨fun pins s σ H R I h => h.r pins s I⟩
theorem wi_of {t : TI} (h : PI X tg iter t) {σ : SV} {H : Hp} {R : It → Hp → Prop} (q : t σ H R) : Wi X tg iter σ H R := ⟨fun pins s I => h.run pins s σ H R I q⟩
theorem iw_list (h : EW X O ρ e x fun s O' => ∃ ds, s = .dat (.lst ds) ∧ kd ds O') : IW X O ρ tg e x kd := fun H0 σ H st tk R q =>
  wi_of (pi_list pe_w) (h H0 σ H st tk _ fun v H' s O' ⟨ds, e1, h1⟩ st' r => by
    subst e1
    cases r with
    | lst h2 h3 => exact ⟨_, rfl, ⟨_, sql_at (hid_le _ _ h2)⟩, q _ H' ds O' h1 st' (itd_list (sql_at h2) h3)⟩)
theorem iw_fro (h : EW X O ρ e x fun s O' => ∃ ds, s = .dat (.fro ds) ∧ kd ds O') : IW X O ρ tg e x kd := fun H0 σ H st tk R q =>
  wi_of (pi_list pe_w) (h H0 σ H st tk _ fun v H' s O' ⟨ds, e1, h1⟩ st' r => by
    subst e1
    cases r with
    | fro h2 h3 => exact ⟨_, rfl, ⟨_, sql_mono hid_le h2⟩, q _ H' ds O' h1 st' (itd_list h2 h3)⟩)
theorem iw_tup (h : EW X O ρ e x fun s O' => ∃ ds, s = .dat (.tup ds) ∧ kd ds O') : IW X O ρ tg e x kd := fun H0 σ H st tk R q =>
  wi_of (pi_tup pe_w) (h H0 σ H st tk _ fun v H' s O' ⟨ds, e1, h1⟩ st' r => by
    subst e1
    cases r with
    | tup h2 h3 => exact ⟨_, rfl, ⟨_, sqt_mono hid_le h2⟩, q _ H' ds O' h1 st' (itd_tup h2 h3)⟩)
theorem iw_str (h : EW X O ρ e x fun s O' => ∃ z, s = .dat (.str z) ∧ kd (signsD z) O') : IW X O ρ tg e x kd := fun H0 σ H st tk R q =>
  wi_of (pi_str pe_w) (h H0 σ H st tk _ fun v H' s O' ⟨z, e1, h1⟩ st' r => by
    subst e1
    cases r
    exact ⟨z, rfl, q _ H' _ O' h1 st' itd_str⟩)
theorem iw_range1 (hm : X.mg "range" = none) (h : AW X O ρ [a] x fun ss O' => ∃ n : Int, ss = [.dat (.int n)] ∧ (-(2 ^ 62) ≤ n ∧ n < 2 ^ 62) ∧ kd (rangeD 0 n.toNat) O') (hg : Gl X "range" := by rfl) (hs : starEach [a] X.env = [(false, eval a X.env)] := by rfl) :
    IW X O ρ tg (.Call (.Name "range" p) [a] [] pos) x kd := fun H0 σ H st tk R q =>
  wi_of (pi_range1 hg hm pa_w hs) (h H0 σ H st tk _ fun vs H' ss O' ⟨n, e1, h1, h2⟩ st' r => by
    subst e1
    cases r with
    | cons r1 r2 =>
      cases r1
      cases r2
      exact ⟨n, rfl, h1.1, h1.2, q _ H' _ O' h2 st' itd_range⟩)
theorem iw_range2 (hm : X.mg "range" = none) (h : AW X O ρ [a, b] x fun ss O' => ∃ m n : Int, ss = [.dat (.int m), .dat (.int n)] ∧ (-(2 ^ 62) ≤ m ∧ m < 2 ^ 62 ∧ -(2 ^ 62) ≤ n ∧ n < 2 ^ 62) ∧ kd (rangeD m (n - m).toNat) O') (hg : Gl X "range" := by rfl)
    (hs : starEach [a, b] X.env = [(false, eval a X.env), (false, eval b X.env)] := by rfl) (hs2 : starEach [b] X.env = [(false, eval b X.env)] := by rfl) :
    IW X O ρ tg (.Call (.Name "range" p) [a, b] [] pos) x kd := fun H0 σ H st tk R q =>
  wi_of (pi_range2 hg hm pa_w hs hs2) (h H0 σ H st tk _ fun vs H' ss O' ⟨m, n, e1, h1, h2⟩ st' r => by
    subst e1
    cases r with
    | cons r1 r2 =>
      cases r1
      cases r2 with
      | cons r2 r3 =>
        cases r2
        cases r3
        exact ⟨m, n, rfl, h1, q _ H' _ O' h2 st' itd_range⟩)
theorem iw_enum {elts : List Expr} {kk : Nat} {tpos : Pos} (hm : X.mg "enumerate" = none) (h : AW X O ρ [e] x fun ss O' => ∃ ds, ss = [.dat (.lst ds)] ∧ kd (enumD ds) O') (hg : Gl X "enumerate" := by rfl) (hs : starEach [e] X.env = [(false, eval e X.env)] := by rfl) :
    IW X O ρ (.Tuple elts kk tpos) (.Call (.Name "enumerate" p) [e] [] pos) x kd := fun H0 σ H st tk R q =>
  wi_of (pi_enum hg hm pa_w hs) (h H0 σ H st tk _ fun vs H' ss O' ⟨ds, e1, h1⟩ st' r => by
    subst e1
    cases r with
    | cons r1 r2 =>
      cases r2
      cases r1 with
      | lst h2 h3 => exact ⟨_, _, rfl, sql_at (hid_le _ _ h2), q _ H' _ O' h1 st' (itd_enum (sql_at h2) h3)⟩)
theorem iw_zip {elts : List Expr} {kk : Nat} {tpos : Pos} (hm : X.mg "zip" = none) (h : AW X O ρ [a, b] x fun ss O' => ∃ ds es, ss = [.dat (.lst ds), .dat (.lst es)] ∧ kd (zipD ds es) O') (hg : Gl X "zip" := by rfl)
    (hs : starEach [a, b] X.env = (false, eval a X.env) :: starEach [b] X.env := by rfl) (hpl : (backTo pos (starEach [b] X.env)).any (·.1) = false := by rfl) :
    IW X O ρ (.Tuple elts kk tpos) (.Call (.Name "zip" p) [a, b] [] pos) x kd := fun H0 σ H st tk R q =>
  wi_of (pi_zip hg hm pa_w hs hpl) (h H0 σ H st tk _ fun vs H' ss O' ⟨ds, es, e1, h1⟩ st' r => by
    subst e1
    cases r with
    | cons r1 r2 =>
      cases r2 with
      | cons r2 r3 =>
        cases r3
        cases r1 with
        | lst h2 h3 =>
          cases r2 with
          | lst h4 h5 => exact ⟨_, _, _, _, rfl, sql_at (hid_le _ _ h2), sql_at (hid_le _ _ h4), q _ H' _ O' h1 st' (itd_zip (sql_at h2) h3 (sql_at h4) h5)⟩)
theorem iw_rev (hm : X.mg "reversed" = none) (h : AW X O ρ [e] x fun ss O' => ∃ ds, ss = [.dat (.lst ds)] ∧ kd ds.reverse O') (hg : Gl X "reversed" := by rfl) (hs : starEach [e] X.env = [(false, eval e X.env)] := by rfl) :
    IW X O ρ tg (.Call (.Name "reversed" p) [e] [] pos) x kd := fun H0 σ H st tk R q =>
  wi_of (pi_reversed hg hm pa_w hs) (h H0 σ H st tk _ fun vs H' ss O' ⟨ds, e1, h1⟩ st' r => by
    subst e1
    cases r with
    | cons r1 r2 =>
      cases r2
      cases r1 with
      | lst h2 h3 => exact ⟨_, _, rfl, sql_at (hid_le _ _ h2), q _ H' _ O' h1 st' (itd_rev (sql_at h2) h3)⟩)
/-! ### for, while -/
theorem s1_for {body : List Stmt} (hpo : PassesOwn (model X.prog X.w) X.A X.env X.xe)
    (h : IW X O ρ tg iter x fun ds O1 => ∃ J : Nat → List Slot → Own → Prop, J 0 ρ O1 ∧
      (∀ i d ρ' O', J i ρ' O' → ds[i]? = some d → GW X O' ρ' tg (.dat d) x fun ρ2 O2 => SW X O2 ρ2 body x { nx := J (i + 1), rt := D.rt, bk := D.nx, ct := J (i + 1) }) ∧
      ∀ ρ' O', J ds.length ρ' O' → D.nx ρ' O')
    (hc : X.calm = true := by rfl) (hs : ∀ x, foldedSetIterable iter X.env x = pure x := by intro _; rfl) : S1 X O ρ (.For tg iter body [] pos) x D := fun H0 σ H st tk E ok => by
  refine ws_of (ps_for hpo hc pi_w pg_w pss_w hs) (h H0 σ H st tk _ fun J0 H1 ds O1 ⟨J, j0, js, je⟩ st1 it => ?_)
  have tkB := takes_base tk st1.base
  have okB := ok.base st1.base
  refine ⟨fun i m σ' H' => i + m = ds.length ∧ ∃ ρ' O', J i ρ' O' ∧ StOk X.K (hid O1 H1) O' σ' ρ' H', ⟨ds.length, by omega, ρ, O1, j0, st1.top⟩, fun i m σ' H' hW => ?_⟩
  obtain ⟨em, ρ', O', hj, st'⟩ := hW
  obtain ⟨i1, i2⟩ := it O' H' st'.own st'.base i
  cases hd : ds[i]? with
  | none =>
    have hi : ds.length ≤ i := List.getElem?_eq_none_iff.mp hd
    have ei : i = ds.length := by omega
    subst ei
    exact .inl ⟨i2 hd, okB.nx σ' ρ' O' H' (je ρ' O' hj) st'⟩
  | some d =>
    have hi : i < ds.length := (List.getElem?_eq_some_iff.mp hd).1
    obtain ⟨g1, g2⟩ := i1 d hd
    refine .inr ⟨g1, fun σ'' H'' => ∃ ρ'' O'', J (i + 1) ρ'' O'' ∧ StOk X.K (hid O1 H1) O'' σ'' ρ'' H'', fun σ'' H'' hN => ⟨m - 1, by omega, by omega, hN⟩, fun v H2 hy => ?_⟩
    obtain ⟨s1, r1⟩ := g2 v H2 hy
    refine js i d ρ' O' hj hd (hid O1 H1) σ' H2 v (st'.grow s1) r1 tkB _ fun σ3 H3 ρ3 O3 h3 st3 => ?_
    exact h3 (hid O1 H1) σ3 H3 st3 tkB _ ⟨fun σ4 ρ4 O4 H4 q s => ⟨ρ4, O4, q, s⟩, okB.rt, okB.nx, fun σ4 ρ4 O4 H4 q s => ⟨ρ4, O4, q, s⟩⟩
theorem s1_while {body : List Stmt} (hpo : PassesOwn (model X.prog X.w) X.A X.env X.xe) (J : Nat → List Slot → Own → Prop) (h0 : ∃ m, J m ρ O)
    (h : ∀ m ρ' O', J m ρ' O' → TW X O' ρ' c x fun t O2 => (t = true → SW X O2 ρ' body x { nx := fun ρ2 O3 => ∃ m', m' < m ∧ J m' ρ2 O3, rt := D.rt, bk := D.nx, ct := fun ρ2 O3 => ∃ m', m' < m ∧ J m' ρ2 O3 }) ∧ (t = false → D.nx ρ' O2)) :
    S1 X O ρ (.While c body [] pos) x D := fun H0 σ H st tk E ok => by
  refine ws_of (ps_while hpo pt_w pss_w) ⟨fun m σ' H' => ∃ ρ' O', J m ρ' O' ∧ StOk X.K H0 O' σ' ρ' H', ?_, fun m σ' H' hW => ?_⟩
  · obtain ⟨m, hm⟩ := h0
    exact ⟨m, ρ, O, hm, st⟩
  · obtain ⟨ρ', O', hj, st'⟩ := hW
    refine h m ρ' O' hj H0 σ' H' st' tk _ fun t H1 O1 h1 st1 => ?_
    cases t with
    | false => exact iteF (ok.nx σ' ρ' O1 H1 (h1.2 rfl) st1)
    | true =>
      refine iteT ⟨fun σ'' H'' => ∃ m', m' < m ∧ ∃ ρ'' O'', J m' ρ'' O'' ∧ StOk X.K H0 O'' σ'' ρ'' H'', fun σ'' H'' hN => hN, ?_⟩
      exact (h1.1 rfl) H0 σ' H1 st1 tk _ ⟨fun σ4 ρ4 O4 H4 ⟨m', l, q⟩ s => ⟨m', l, ρ4, O4, q, s⟩, ok.rt, ok.nx, fun σ4 ρ4 O4 H4 ⟨m', l, q⟩ s => ⟨m', l, ρ4, O4, q, s⟩⟩
/-! ### displays -/
theorem ew_lst (h : AW X O ρ es x fun ss O' => ss.length ≤ sizeLine ∧ ∀ p, O' p = none → k (.own p) (up O' p (.lst ss))) : EW X O ρ (.List es pos) x k := fun H0 σ H st tk Q q =>
  we_of (pe_lst pa_w) (h H0 σ H st tk _ fun vs H' ss O' ⟨h1, h2⟩ st' r => ⟨by rw [paired_len r]; exact h1, fun p hp =>
    q _ _ _ _ (h2 p (own_free st'.own hp)) (st'.alloc hp ⟨vs, rfl, r⟩) rfl⟩)
/-- the cell is given away at once -/
theorem ew_frz (h : EW X O ρ e x fun s O' => ∃ p ds, s = .own p ∧ O' p = some (.lst (ds.map .dat)) ∧ k (.dat (.lst ds)) (dn O' p)) : EW X O ρ e x k := fun H0 σ H st tk Q q =>
  h H0 σ H st tk Q fun v H' s O' ⟨p, ds, e1, h1, h2⟩ st' r => by
    subst e1
    obtain rfl : v = .ref p := r
    exact q _ H' _ _ h2 st'.freeze (st'.own.lst h1)
theorem ew_lstD (h : AW X O ρ es x fun ss O' => ∃ ds, ss = ds.map .dat ∧ ds.length ≤ sizeLine ∧ k (.dat (.lst ds)) O') : EW X O ρ (.List es pos) x k :=
  ew_frz (ew_lst (h.mono fun ss O' ⟨ds, e1, h1, h2⟩ => by
    subst e1
    exact ⟨by rw [List.length_map]; exact h1, fun p hp => ⟨p, ds, rfl, up_at, by rw [dn_up hp]; exact h2⟩⟩))
theorem ew_tup {x1} (h : AW X O ρ es x fun ss O' => ∃ ds, ss = ds.map .dat ∧ ds.length ≤ sizeLine ∧ k (.dat (.tup ds)) O') : EW X O ρ (.Tuple es x1 pos) x k := fun H0 σ H st tk Q q =>
  we_of (pe_tup pa_w) (h H0 σ H st tk _ fun vs H' ss O' ⟨ds, e1, h1, h2⟩ st' r => by
    subst e1
    have r' := RpA.of_paired r
    refine ⟨by rw [r'.length]; exact h1, fun p hp => q _ _ _ _ h2 (st'.grow (same_new hp)) ?_⟩
    have hO := own_free st'.own hp
    exact Rp.tup (.inl (.inl (by rw [hid_none hO, upd_same]))) (RpA.mono (hid_same (same_new hp)) r'))
/-! ### comprehensions -/
def Blk (X : Cx) (scope : Scope) (Y : Cx) : Prop := ∃ (s : Shared) (H : Hp) (C : Addr) (cl : List (Str × Addr)) (fp : List Addr), Y = X.blk s H scope (compEnvC scope cl C X.env) fp
def TsW (Y : Cx) (O : Own) (ρ : List Slot) (ifs : List Expr) (x : ExK) (kt : Bool → Own → Prop) : Prop :=
  ∀ H0 σ H, StOk Y.K H0 O σ ρ H → Takes Y (Wsem Y.K H0 x) → ∀ Q : Bool → Hp → Prop, (∀ b H' O', kt b O' → StOk Y.K H0 O' σ ρ H' → Q b H') → Bx (∀ (pins : List (Addr × Obj)) (s : Shared), Inv Y pins σ H s →
    wpAny (model Y.prog Y.w) Y.A (forIn ifs true fun c r => if r = true then do let ok ← isTrue c Y.env (eval c Y.env); pure (ForInStep.yield ok) else pure (ForInStep.yield r)) (TP Y pins σ Q) Y.xe s)
theorem tsw_nil (h : kt true O) : TsW X O ρ [] x kt := fun H0 σ H st tk Q q => ⟨fun pins s I => pts_nil.run pins s σ H Q I (q true H O h st)⟩
theorem tsw_one (h : TW X O ρ c x kt) : TsW X O ρ [c] x kt := fun H0 σ H st tk Q q => ⟨fun pins s I => (pts_one pt_w).run pins s σ H Q I (h H0 σ H st tk Q q)⟩
def wipeS (ρ : List Slot) : List Nat → List Slot
  | [] => ρ
  | v :: vs => (wipeS ρ vs).set v .unk
theorem env_none {K : PySem.W.Frag} {G : Hp} {o : Option V} : EnvOk K G o .unk := trivial
theorem wipe_env {K : PySem.W.Frag} {G : Hp} {σ : SV} {ρ : List Slot} (h : Paired (EnvOk K G) σ ρ) : ∀ vs, Paired (EnvOk K G) (wipe σ vs) (wipeS ρ vs)
  | [] => h
  | v :: vs => paired_set (x := none) env_none v (wipe_env h vs)
theorem StOk.wipe {K : PySem.W.Frag} {H0 H : Hp} {σ : SV} (h : StOk K H0 O σ ρ H) (vs : List Nat) : StOk K H0 O (wipe σ vs) (wipeS ρ vs) H := ⟨h.own, h.base, wipe_env h.env vs⟩
theorem wipe_at {σ : SV} : ∀ {vs : List Nat} {i : Nat}, i ∈ vs → ∀ v, wipe (σ.set i v) vs = wipe σ vs
  | j :: vs, i, h, v => by
    show (wipe (σ.set i v) vs).set j none = (wipe σ vs).set j none
    by_cases e : i ∈ vs
    · rw [wipe_at e v]
    · have ej : i = j := by
        rcases List.mem_cons.mp h with q | q
        · exact q
        · exact absurd q e
      subst ej
      have : ∀ (vs : List Nat) (σ : SV), i ∉ vs → wipe (σ.set i v) vs = (wipe σ vs).set i v := by
        intro vs
        induction vs with
        | nil => intro σ _; rfl
        | cons z zs ih =>
          intro σ hz
          show (wipe (σ.set i v) zs).set z none = ((wipe σ zs).set z none).set i v
          rw [ih σ fun q => hz (List.mem_cons_of_mem _ q)]
          exact List.set_comm _ _ fun q => hz (by rw [q]; exact List.mem_cons_self)
      rw [this vs σ e, List.set_set]
theorem wipe_wipe {σ : SV} : ∀ {vs ws : List Nat}, (∀ i ∈ ws, i ∈ vs) → wipe (wipe σ ws) vs = wipe σ vs
  | vs, [], _ => rfl
  | vs, w :: ws, h => by
    show wipe ((wipe σ ws).set w none) vs = _
    rw [wipe_at (h w List.mem_cons_self), wipe_wipe fun i hi => h i (List.mem_cons_of_mem _ hi)]
/-- what a comprehension's target is -/
inductive Tgt (X : Cx) (scope : Scope) (vs : List Nat) : Expr → (Dat → List Slot → List Slot → Prop) → Prop
  | name {nm : Str} {p : Pos} {i : Nat} (hi : i ∈ vs) (hg : ∀ Y, Blk X scope Y → PG Y (.Name nm p) (gName i)) : Tgt X scope vs (.Name nm p) (fun d ρ ρ' => ρ' = ρ.set i (.dat d))
  | two {n1 n2 : Str} {p1 p2 p : Pos} {kk i j : Nat} (hi : i ∈ vs) (hj : j ∈ vs) (hg : ∀ Y, Blk X scope Y → PG Y (.Tuple [.Name n1 p1, .Name n2 p2] kk p) (gTup X.K 2 (gCons (gName i) (gCons (gName j) gNil)))) :
    Tgt X scope vs (.Tuple [.Name n1 p1, .Name n2 p2] kk p) (fun d ρ ρ' => ∃ d1 d2, d = .tup [d1, d2] ∧ ρ' = (ρ.set i (.dat d1)).set j (.dat d2))
  | three {n1 n2 n3 : Str} {p1 p2 p3 p : Pos} {kk i j l : Nat} (hi : i ∈ vs) (hj : j ∈ vs) (hl : l ∈ vs) (hg : ∀ Y, Blk X scope Y → PG Y (.Tuple [.Name n1 p1, .Name n2 p2, .Name n3 p3] kk p) (gTup X.K 3 (gCons (gName i) (gCons (gName j) (gCons (gName l) gNil))))) :
    Tgt X scope vs (.Tuple [.Name n1 p1, .Name n2 p2, .Name n3 p3] kk p) (fun d ρ ρ' => ∃ d1 d2 d3, d = .tup [d1, d2, d3] ∧ ρ' = ((ρ.set i (.dat d1)).set j (.dat d2)).set l (.dat d3))
theorem tgt_run {scope : Scope} {vs : List Nat} {T : Dat → List Slot → List Slot → Prop} (h : Tgt X scope vs tg T) :
    ∃ g : TG, (∀ Y, Blk X scope Y → PG Y tg g) ∧ ∀ {H0 H : Hp} {O : Own} {σ : SV} {ρ ρ' : List Slot} {v : V} {d : Dat} {Q : SV → Hp → Prop}, StOk X.K H0 O (wipe σ vs) ρ H → Rp X.K (hid O H) v d → T d ρ ρ' →
      (∀ σ', StOk X.K H0 O σ' ρ' H → wipe σ' vs = wipe σ vs → Q σ' H) → g v (wipe σ vs) H Q := by
  cases h with
  | name hi hg =>
    refine ⟨_, hg, fun {H0 H O σ ρ ρ' v d Q} st r t q => ?_⟩
    subst t
    exact q _ (st.set r) (by rw [wipe_at hi, wipe_wipe fun _ z => z])
  | two hi hj hg =>
    refine ⟨_, hg, fun {H0 H O σ ρ ρ' v d Q} st r t q => ?_⟩
    obtain ⟨d1, d2, rfl, rfl⟩ := t
    cases r with
    | tup h1 h2 =>
      cases h2 with
      | cons r1 h2 =>
        cases h2 with
        | cons r2 h2 =>
          cases h2
          refine ⟨_, _, rfl, sqt_mono hid_le h1, rfl, _, _, rfl, _, _, rfl, rfl, q _ ((st.set (s := .dat d1) r1).set (s := .dat d2) r2) ?_⟩
          rw [wipe_at hj, wipe_at hi, wipe_wipe fun _ z => z]
  | three hi hj hl hg =>
    refine ⟨_, hg, fun {H0 H O σ ρ ρ' v d Q} st r t q => ?_⟩
    obtain ⟨d1, d2, d3, rfl, rfl⟩ := t
    cases r with
    | tup h1 h2 =>
      cases h2 with
      | cons r1 h2 =>
        cases h2 with
        | cons r2 h2 =>
          cases h2 with
          | cons r3 h2 =>
            cases h2
            refine ⟨_, _, rfl, sqt_mono hid_le h1, rfl, _, _, rfl, _, _, rfl, _, _, rfl, rfl, q _ (((st.set (s := .dat d1) r1).set (s := .dat d2) r2).set (s := .dat d3) r3) ?_⟩
            rw [wipe_at hl, wipe_at hj, wipe_at hi, wipe_wipe fun _ z => z]
theorem tlc_of {elt : Expr} {ifs : List Expr} {scope : Scope} {vs : List Nat} {T : Dat → List Slot → List Slot → Prop} {g : TG}
    (hg : ∀ {H0 H : Hp} {O : Own} {σ : SV} {ρ ρ' : List Slot} {v : V} {d : Dat} {Q : SV → Hp → Prop}, StOk X.K H0 O (wipe σ vs) ρ H → Rp X.K (hid O H) v d → T d ρ ρ' → (∀ σ', StOk X.K H0 O σ' ρ' H → wipe σ' vs = wipe σ vs → Q σ' H) → g v (wipe σ vs) H Q)
    (h : IW X O ρ tg iter x fun ds O1 => ds.length ≤ sizeLine ∧ ∃ J : Nat → List Slot → Own → Prop, J 0 [] O1 ∧
      (∀ i d acc O', J i acc O' → ds[i]? = some d → ∃ ρ', T d (wipeS ρ vs) ρ' ∧ ∀ Dd, O' Dd = none → ∀ Y, Blk X scope Y → TsW Y (up O' Dd (.lst acc)) ρ' ifs noX fun t O2 =>
        (t = true → ∀ Z, Blk X scope Z → EW Z O2 ρ' elt noX fun s O3 => ∃ O4, O3 = up O4 Dd (.lst acc) ∧ O4 Dd = none ∧ J (i + 1) (acc ++ [s]) O4) ∧ (t = false → ∃ O4, O2 = up O4 Dd (.lst acc) ∧ O4 Dd = none ∧ J (i + 1) acc O4)) ∧
      ∀ acc O', J ds.length acc O' → ∀ p, O' p = none → k (.own p) (up O' p (.lst acc))) {H0 : Hp} {σ : SV} {H : Hp} {Q : VK} (st : StOk X.K H0 O σ ρ H) (tk : Takes X (Wsem X.K H0 x))
    (q : ∀ v H' s O', k s O' → StOk X.K H0 O' σ ρ H' → SlOk X.K (hid O' H') v s → Q v H') :
    tLc (Wi X tg iter) g (fun σ H Q => ∀ Y, Blk X scope Y → ∀ (pins : List (Addr × Obj)) (s : Shared), Inv Y pins σ H s →
      wpAny (model Y.prog Y.w) Y.A (forIn ifs true fun c r => if r = true then do let ok ← isTrue c Y.env (eval c Y.env); pure (ForInStep.yield ok) else pure (ForInStep.yield r)) (TP Y pins σ Q) Y.xe s)
      (fun σ H Q => ∀ Y, Blk X scope Y → We Y elt σ H Q) vs σ H Q := by
  refine h H0 σ H st tk _ fun J0 H1 ds O1 ⟨hz, J, j0, js, je⟩ st1 it => ?_
  intro Dd hD
  have hOD : O1 Dd = none := own_free st1.own hD
  have gS : Same (hid O1 H1) (hid (up O1 Dd (.lst [])) (upd H1 Dd (.lst []))) := fun b o hb => by
    obtain ⟨z1, z2⟩ := of_hid hb
    have nb := ne_of_none z2 hD
    rw [hid_none (by rw [up_ne nb]; exact z1), upd_ne nb]
    exact z2
  -- the store with the new list as a cell, over the greatest base
  refine ⟨fun i m H' => i + m = ds.length ∧ ∃ acc O', J i acc O' ∧ O' Dd = none ∧ acc.length ≤ i ∧ StOk X.K (hid O1 H1) (up O' Dd (.lst acc)) σ ρ H',
    ⟨ds.length, by omega, [], O1, j0, hOD, Nat.le_refl _, ⟨?_, gS, pmap (fun _ _ z => EnvOk.mono gS z) st1.env⟩⟩, fun i m H' hW => ?_⟩
  · exact (st1.alloc (o := .lst []) (c := .lst []) hD ⟨[], rfl, .nil⟩).own
  · obtain ⟨em, acc, O', hj, nD, hacc, st'⟩ := hW
    obtain ⟨i1, i2⟩ := it _ H' st'.own st'.base i
    cases hd : ds[i]? with
    | none =>
      have hi : ds.length ≤ i := List.getElem?_eq_none_iff.mp hd
      have ei : i = ds.length := by omega
      subst ei
      exact .inl ⟨i2 hd, q _ H' _ _ (je acc O' hj Dd nD) (st'.rebase st1.base) rfl⟩
    | some d =>
      have hi : i < ds.length := (List.getElem?_eq_some_iff.mp hd).1
      obtain ⟨g1, g2⟩ := i1 d hd
      obtain ⟨ρ', ht, hb⟩ := js i d acc O' hj hd
      have hb := hb Dd nD
      refine .inr ⟨g1, fun H'' => ∃ acc2 O2, J (i + 1) acc2 O2 ∧ O2 Dd = none ∧ acc2.length ≤ i + 1 ∧ StOk X.K (hid O1 H1) (up O2 Dd (.lst acc2)) σ ρ H'', fun H'' hN => ⟨m - 1, by omega, by omega, hN⟩, fun v H2 hy => ?_⟩
      obtain ⟨s1, r1⟩ := g2 v H2 hy
      have st2 := st'.grow s1
      refine hg (σ := σ) (st2.wipe vs) r1 ht fun σ' st3 hw => ⟨hw, fun Y hY pins s I => ?_⟩
      obtain ⟨sY, HY, CY, clY, fpY, eY⟩ := id hY
      have eK : Y.K = X.K := by rw [eY]
      have st3Y : StOk Y.K (hid O1 H1) (up O' Dd (.lst acc)) σ' ρ' H2 := by rw [eK]; exact st3
      refine (hb Y hY (hid O1 H1) σ' H2 st3Y takes_no _ fun t H3 O3 h3 st4 => ?_).r pins s I
      -- the way back to the outer names
      have env2 : Paired (EnvOk X.K (hid (up O' Dd (.lst acc)) H2)) σ ρ := st2.env
      cases t with
      | false =>
        obtain ⟨O4, e4, n4, j4⟩ := h3.2 rfl
        subst e4
        refine iteF ⟨acc, O4, j4, n4, by omega, ?_⟩
        rw [eK] at st4
        exact ⟨st4.own, st4.base, pmap (fun _ _ z => EnvOk.mono st4.base z) st1.env⟩
      | true =>
        refine iteT fun Z hZ => ?_
        obtain ⟨sZ, HZ, CZ, clZ, fpZ, eZ⟩ := id hZ
        have eKZ : Z.K = X.K := by rw [eZ]
        have eYZ : Z.K = Y.K := by rw [eZ, eY]
        refine (h3.1 rfl) Z hZ (hid O1 H1) σ' H3 (by rw [eYZ]; exact st4) takes_no _ fun u H5 s5 O5 h5 st5 r5 => ?_
        obtain ⟨O4, e4, n4, j4⟩ := h5
        subst e4
        rw [eKZ] at st5 r5
        obtain ⟨o5, c1, xs5, rfl, c2⟩ := st5.own.cell Dd _ up_at
        have lx : xs5.length = acc.length := paired_len c2
        have gw : Same (hid (up O4 Dd (.lst acc)) H5) (hid (up O4 Dd (.lst (acc ++ [s5]))) (upd H5 Dd (.lst (xs5 ++ [u])))) := by
          have := hid_write (H := H5) (o := .lst (xs5 ++ [u])) (c := .lst (acc ++ [s5])) (O := up O4 Dd (.lst acc)) up_at
          rw [up_up] at this
          exact this
        have st6 := st5.write (o := .lst (xs5 ++ [u])) (c := .lst (acc ++ [s5])) up_at ⟨_, rfl, paired_app c2 (.cons r5 .nil)⟩
        rw [up_up] at st6
        refine ⟨xs5, c1, by omega, acc ++ [s5], O4, j4, n4, by rw [List.length_append]; exact Nat.add_le_add_right hacc 1, ⟨st6.own, st6.base, pmap (fun _ _ z => EnvOk.mono st6.base z) st1.env⟩⟩
theorem ew_lc (own : List (Str × Nat)) {elt : Expr} {ifs : List Expr} {scope : Scope} {T : Dat → List Slot → List Slot → Prop} (hN : X.N.Nodup) (tg_ok : Tgt X scope (own.map (·.2)) tg T) (ok : BlkOk X.N X.env.scope scope own)
    (h : IW X O ρ tg iter x fun ds O1 => ds.length ≤ sizeLine ∧ ∃ J : Nat → List Slot → Own → Prop, J 0 [] O1 ∧
      (∀ i d acc O', J i acc O' → ds[i]? = some d → ∃ ρ', T d (wipeS ρ (own.map (·.2))) ρ' ∧ ∀ Dd, O' Dd = none → ∀ Y, Blk X scope Y → TsW Y (up O' Dd (.lst acc)) ρ' ifs noX fun t O2 =>
        (t = true → ∀ Z, Blk X scope Z → EW Z O2 ρ' elt noX fun s O3 => ∃ O4, O3 = up O4 Dd (.lst acc) ∧ O4 Dd = none ∧ J (i + 1) (acc ++ [s]) O4) ∧ (t = false → ∃ O4, O2 = up O4 Dd (.lst acc) ∧ O4 Dd = none ∧ J (i + 1) acc O4)) ∧
      ∀ acc O', J ds.length acc O' → ∀ p, O' p = none → k (.own p) (up O' p (.lst acc))) (hc : X.calm = true := by rfl) (hs : ∀ x, foldedSetIterable iter X.env x = pure x := by intro _; rfl) :
    EW X O ρ (.ListComp elt [⟨tg, iter, ifs, 0⟩] scope pos) x k := fun H0 σ H st tk Q q => by
  obtain ⟨g, g1, g2⟩ := tgt_run tg_ok
  exact we_of (pe_lc hc hN pi_w ok (fun s H C cl fp => g1 _ ⟨s, H, C, cl, fp, rfl⟩) (fun s H C cl fp => ⟨fun pins sh σ H5 Q I hq => hq _ ⟨s, H, C, cl, fp, rfl⟩ pins sh I⟩) (fun s H C cl fp => ⟨fun pins sh σ H5 Q I hq => (hq _ ⟨s, H, C, cl, fp, rfl⟩).r pins sh I⟩) hs)
    (tlc_of g2 h st tk q)
/-- y = [..] with y a local -/
theorem s1_setLc (own : List (Str × Nat)) (i : Nat) {nm : Str} {py spos : Pos} {elt : Expr} {ifs : List Expr} {scope : Scope} {T : Dat → List Slot → List Slot → Prop} (hN : X.N.Nodup) (tg_ok : Tgt X scope (own.map (·.2)) tg T) (ok : BlkOk X.N X.env.scope scope own)
    (h : IW X O ρ tg iter x fun ds O1 => ds.length ≤ sizeLine ∧ ∃ J : Nat → List Slot → Own → Prop, J 0 [] O1 ∧
      (∀ i d acc O', J i acc O' → ds[i]? = some d → ∃ ρ', T d (wipeS ρ (own.map (·.2))) ρ' ∧ ∀ Dd, O' Dd = none → ∀ Y, Blk X scope Y → TsW Y (up O' Dd (.lst acc)) ρ' ifs noX fun t O2 =>
        (t = true → ∀ Z, Blk X scope Z → EW Z O2 ρ' elt noX fun s O3 => ∃ O4, O3 = up O4 Dd (.lst acc) ∧ O4 Dd = none ∧ J (i + 1) (acc ++ [s]) O4) ∧ (t = false → ∃ O4, O2 = up O4 Dd (.lst acc) ∧ O4 Dd = none ∧ J (i + 1) acc O4)) ∧
      ∀ acc O', J ds.length acc O' → ∀ p, O' p = none → D.nx (ρ.set i (.own p)) (up O' p (.lst acc))) (hc : X.calm = true := by rfl)
    (hy : X.N[i]? = some nm := by rfl) (hyl : X.env.scope.names.lookup nm = some .local := by rfl)
    (hsw : swapsWith (.ListComp elt [⟨tg, iter, ifs, 0⟩] scope pos) (some (.Name nm py)) spos.line X.env = pure true := by exact sw_true rfl rfl rfl (by decide +kernel)) (hs : ∀ x, foldedSetIterable iter X.env x = pure x := by intro _; rfl) :
    S1 X O ρ (.Assign [.Name nm py] (.ListComp elt [⟨tg, iter, ifs, 0⟩] scope pos) spos) x D := fun H0 σ H st tk E okE => by
  obtain ⟨g, g1, g2⟩ := tgt_run tg_ok
  exact ws_of (ps_setLc hc hN hy hyl hsw pi_w ok (fun s H C cl fp => g1 _ ⟨s, H, C, cl, fp, rfl⟩) (fun s H C cl fp => ⟨fun pins sh σ H5 Q I hq => hq _ ⟨s, H, C, cl, fp, rfl⟩ pins sh I⟩) (fun s H C cl fp => ⟨fun pins sh σ H5 Q I hq => (hq _ ⟨s, H, C, cl, fp, rfl⟩).r pins sh I⟩) hs)
    (tlc_of (k := fun s O' => D.nx (ρ.set i s) O') g2 h st tk fun v H' s O' hq st' r => okE.nx _ _ O' H' hq (st'.set r))
end
end Kn
/-! KnD: contracts of defs, their calls, what is raised and caught. -/
namespace Kn
open PySem PySem.Spec PyProof.Rows
open L2 hiding St
inductive Out where
  | ret (s : Slot)
  | exc (e : Exn)
/-- a contract: the arguments, the cells, and what is wanted of each way out -/
abbrev SpecT := List Slot → Own → (Out → Own → Prop) → Prop
structure RoomB (g : Bool) (k : Nat) (A : Around) : Prop where
  r : Room k A
  g : g = true → A.guards = some []
theorem RoomB.mono {g g' : Bool} {j k : Nat} {A : Around} (h : RoomB g k A) (hk : j ≤ k) (hg : g' = true → g = true) : RoomB g' j A := ⟨h.r.mono hk, fun e => h.g (hg e)⟩
def RetOk (K : PySem.W.Frag) (O : Own) (H : Hp) (R : Out → Own → Prop) (Q : VK) : Prop :=
  ∀ v H' s O', R (.ret s) O' → OwnOk K O' H' → Same (hid O H) (hid O' H') → SlOk K (hid O' H') v s → Q v H'
def ErrOk (K : PySem.W.Frag) (O : Own) (H : Hp) (R : Out → Own → Prop) (E : XK) : Prop :=
  ∀ cls d e H' O', R (.exc e) O' → OwnOk K O' H' → Same (hid O H) (hid O' H') → ExOk K O' H' cls d e → E cls d H'
def spS (K : PySem.W.Frag) (S : SpecT) : Sp := fun vs H Q E => ∃ O ss R, OwnOk K O H ∧ Paired (SlOk K (hid O H)) vs ss ∧ S ss O R ∧ RetOk K O H R Q ∧ ErrOk K O H R E
structure Fn (P : Program) (w : World) (K : PySem.W.Frag) (mg : Str → Option Value) (base : Heap) (g : Bool) (k : Nat) (f : Addr) (fd : FuncData) (ps : List Str) (S : SpecT) : Prop where
  len : ∀ ss O R, S ss O R → ss.length = ps.length
  run : ∀ (A : Around) (outer : List Env) (s : Shared) (H : Hp) (args : Args) (us : List Value) (vs : List V) (Q : VK) (E : XK), RoomB g k A → Env0 P w K mg base A outer s H → BindsTo s fd args (ps.zip us) → Vals vs us → spS K S vs H Q E →
    codeAny (model P w) A (.call (.ref f) args) (CR (L2.CX P w) outer P w H s Q E) s
section
variable {P : Program} {w : World} {K : PySem.W.Frag} {mg : Str → Option Value} {base : Heap} {g : Bool} {k : Nat} {f : Addr} {fd : FuncData} {ps : List Str} {S : SpecT}
theorem spS_len (len : ∀ ss O R, S ss O R → ss.length = ps.length) : ∀ vs H Q E, spS K S vs H Q E → vs.length = ps.length := fun vs H Q E ⟨O, ss, R, _, pr, hS, _⟩ => (paired_len pr).trans (len _ _ _ hS)
theorem Fn.ok (F : Fn P w K mg base false k f fd ps S) : FnOk P w K mg base (L2.CX P w) k f fd ps (spS K S) :=
  ⟨spS_len F.len, fun A outer s H args us vs Q E hr e0 hb r hs => F.run A outer s H args us vs Q E ⟨hr, fun e => nomatch e⟩ e0 hb r hs⟩
def startS (N : List Str) (ss : List Slot) : List Slot := ss ++ List.replicate (N.length - ss.length) .unk
theorem paired_rep {α β : Type} {F : α → β → Prop} {a : α} {b : β} (h : F a b) : ∀ n, Paired F (List.replicate n a) (List.replicate n b)
  | 0 => .nil
  | n + 1 => .cons h (paired_rep h n)
theorem env_of {G : Hp} : ∀ {vs : List V} {ss : List Slot}, Paired (SlOk K G) vs ss → Paired (EnvOk K G) (vs.map some) ss
  | _, _, .nil => .nil
  | _, s :: _, .cons h t => .cons (by
      cases s with
      | unk => trivial
      | dat d => exact ⟨_, rfl, h⟩
      | own p => exact congrArg some h) (env_of t)
theorem start_env {G : Hp} {N : List Str} {vs : List V} {ss : List Slot} (h : Paired (SlOk K G) vs ss) : Paired (EnvOk K G) (L2.start N vs) (startS N ss) := by
  unfold L2.start startS
  rw [paired_len h]
  exact paired_app (env_of h) (paired_rep trivial _)
theorem roomB_deeper {A : Around} (r : RoomB g (k + 1) A) (env : Env) : RoomB g k (A.deeper env) := ⟨r.r.deeper env, fun e => r.g e⟩
/-- a def as it stands behind the top, whatever its defaults -/
def FunX (K : PySem.W.Frag) (x qual : Str) (st : Stmt) (f : Addr) (fd : FuncData) : Prop := ∃ (oc : Value) (od : Option Addr) (dV kV doc pm : Value) (an : Option Addr) (cdv ct : Value) (osl : Array (Option Value)),
  fd = PySem.W.fnOf x qual (defArgs st) (defBody st) (defScope st) dV kV doc pm an cdv ct ∧ K.lookup f = some ⟨oc, od, .func fd, osl⟩ ∧ PySem.W.codeIn K cdv qual = true
theorem funX_of {x qual : Str} {st : Stmt} (F : L2.Fun K x qual st f fd) : FunX K x qual st f fd := by
  obtain ⟨oc, od, kV, doc, pm, an, cdv, ct, osl, h⟩ := F.ex
  exact ⟨oc, od, .none, kV, doc, pm, an, cdv, ct, osl, h⟩
theorem funX_ofD {x qual : Str} {st : Stmt} {dvs : List V} (F : L2.FunD K x qual (defArgs st) (defBody st) (defScope st) dvs [] f fd) : FunX K x qual st f fd := by
  obtain ⟨oc, od, dV, kV, doc, pm, an, cdv, ct, osl, h1, h2, h3, _⟩ := F.ex
  exact ⟨oc, od, dV, kV, doc, pm, an, cdv, ct, osl, h1, h2, h3⟩
/-- a def keeps its contract -/
theorem fn_mkX {x qual : Str} {st : Stmt} {N : List Str} (F : FunX K x qual st f fd) (Sc : FnScope N ps (defScope st)) (len : ∀ ss O R, S ss O R → ss.length = ps.length)
    (body : ∀ (cdv : Value) (A : Around) (outer : List Env) (s : Shared) (H : Hp) (E : XK) (ss : List Slot) (O : Own) (R : Out → Own → Prop), RoomB g k (cxOf (L2.CX P w) P w K mg base N qual (defScope st) f cdv A outer s H E).A →
      PassesOwn (model P w) (cxOf (L2.CX P w) P w K mg base N qual (defScope st) f cdv A outer s H E).A (cxOf (L2.CX P w) P w K mg base N qual (defScope st) f cdv A outer s H E).env (cxOf (L2.CX P w) P w K mg base N qual (defScope st) f cdv A outer s H E).xe → S ss O R →
      SW (cxOf (L2.CX P w) P w K mg base N qual (defScope st) f cdv A outer s H E) O (startS N ss) (defBody st) (fun e _ O' => R (.exc e) O') { nx := fun _ O' => R (.ret (.dat .non)) O', rt := fun z O' => R (.ret z) O' }) :
    Fn P w K mg base g (k + 1) f fd ps S := by
  obtain ⟨oc, od, dV, kV, doc, pm, an, cdv, ct, osl, rfl, lk, hcd⟩ := F
  refine ⟨len, fun A outer s H args us vs Q E hr e0 hb r hsp => ?_⟩
  obtain ⟨O, ss, R, own, pr, hS, hret, herr⟩ := hsp
  have hl : vs.length = ps.length := (paired_len pr).trans (len _ _ _ hS)
  have KX : K.In s.heap := e0.mod.kin.keeps fun b o e => (e0.bs b o e).1
  have lim : s.heap.NoLimit := e0.mod.nolimit.keeps fun b o e => (e0.bs b o e).1
  have hkind : ∀ y ∈ ps.zip us, (defScope st).names.lookup y.1 = some .local ∨ ((defScope st).names.lookup y.1 = some .cell ∧ ((cellsFrom (s.heap.objs.size + 1) (defScope st).names []).lookup y.1).isSome = true) := fun y hy => by
    rcases Sc.par y.1 (List.of_mem_zip (show (y.1, y.2) ∈ ps.zip us from hy)).1 with q | q
    · exact .inl q
    · exact .inr ⟨q, PySem.W.cellsFrom_some _ _ _ (.inl q)⟩
  refine codeAny_call_function hr.r.depth (KX _ _ lk) rfl Sc.co Sc.gen rfl (PySem.W.codeRec_of KX hcd) (hb _ _ _ _ ?_)
  refine wpAny_newFunctionEnv_cells Sc.kind hkind fun env he s1 hin => ?_
  subst he
  refine ⟨lim.keeps hin.toInCall.keep, codeAny_func ?_⟩
  have I := inv_start (CX := L2.CX P w) (E := E) Sc hr.r.hd e0 hl r hin
  have hrD : RoomB g k (cxOf (L2.CX P w) P w K mg base N qual (defScope st) f cdv A outer s H E).A := roomB_deeper hr _
  have hpo : PassesOwn (model P w) (cxOf (L2.CX P w) P w K mg base N qual (defScope st) f cdv A outer s H E).A (cxOf (L2.CX P w) P w K mg base N qual (defScope st) f cdv A outer s H E).env (cxOf (L2.CX P w) P w K mg base N qual (defScope st) f cdv A outer s H E).xe :=
    passes_of (X := cxOf (L2.CX P w) P w K mg base N qual (defScope st) f cdv A outer s H E) rfl
  have hst : StOk K (hid O H) O (L2.start N vs) (startS N ss) H := ⟨own, Same.refl _, start_env pr⟩
  have tk : Takes (cxOf (L2.CX P w) P w K mg base N qual (defScope st) f cdv A outer s H E) (Wsem K (hid O H) fun e _ O' => R (.exc e) O') :=
    (takes_of (X := cxOf (L2.CX P w) P w K mg base N qual (defScope st) f cdv A outer s H E) rfl rfl rfl rfl).imp fun cls d σ' H' ⟨e, ρ', O', h1, h2, h3⟩ => herr cls d e H' O' h1 h2.own h2.base h3
  have main := (body cdv A outer s H E ss O R hrD hpo hS (hid O H) (L2.start N vs) H hst tk { nx := fun _ H' => Q .non H', rt := Q }
    ⟨fun σ' ρ' O' H' h1 h2 => hret .non H' _ O' h1 h2.own h2.base .non, fun v z O' H' h1 h2 h3 h4 => hret v H' z O' h1 h2 h3 h4, fun _ _ _ _ h _ => h.elim, fun _ _ _ _ h _ => h.elim⟩).r [] s1 I
  refine wpAny_mono main (fun fl s' hs => ?_) fun e s' hs => hs
  have fin : ∀ {σ' : SV} {H' : Hp} {v : V} {u : Value}, L2.Inv (cxOf (L2.CX P w) P w K mg base N qual (defScope st) f cdv A outer s H E) [] σ' H' s' → RelV v u → Q v H' → CE outer P w H s Q u s' :=
    fun {σ' H' v u} J rv q => ⟨v, H', J.os, J.bare, J.base, J.hok, rv, q⟩
  cases fl with
  | ret u =>
    obtain ⟨v, σ', H', J, rv, q⟩ := hs
    exact fin J rv q
  | next =>
    obtain ⟨σ', H', J, q⟩ := hs
    exact fin (v := V.non) (u := Value.none) J rfl q
  | brk =>
    obtain ⟨_, _, _, q⟩ := hs
    exact False.elim q
  | cont =>
    obtain ⟨_, _, _, q⟩ := hs
    exact False.elim q
theorem fn_mk {x qual : Str} {st : Stmt} {N : List Str} (F : L2.Fun K x qual st f fd) (Sc : FnScope N ps (defScope st)) (len : ∀ ss O R, S ss O R → ss.length = ps.length)
    (body : ∀ (cdv : Value) (A : Around) (outer : List Env) (s : Shared) (H : Hp) (E : XK) (ss : List Slot) (O : Own) (R : Out → Own → Prop), RoomB g k (cxOf (L2.CX P w) P w K mg base N qual (defScope st) f cdv A outer s H E).A →
      PassesOwn (model P w) (cxOf (L2.CX P w) P w K mg base N qual (defScope st) f cdv A outer s H E).A (cxOf (L2.CX P w) P w K mg base N qual (defScope st) f cdv A outer s H E).env (cxOf (L2.CX P w) P w K mg base N qual (defScope st) f cdv A outer s H E).xe → S ss O R →
      SW (cxOf (L2.CX P w) P w K mg base N qual (defScope st) f cdv A outer s H E) O (startS N ss) (defBody st) (fun e _ O' => R (.exc e) O') { nx := fun _ O' => R (.ret (.dat .non)) O', rt := fun z O' => R (.ret z) O' }) :
    Fn P w K mg base g (k + 1) f fd ps S := fn_mkX (funX_of F) Sc len body
end
/-! ### calls -/
/-- a module's def by its name, with its contract and the defaults that fill up -/
def Cal (P : Program) (w : World) (K : PySem.W.Frag) (mg : Str → Option Value) (base : Heap) (g : Bool) (k : Nat) (nm : Str) (S : SpecT) (df : List Dat) : Prop :=
  ∃ (f : Addr) (fd : FuncData) (ps : List Str) (ds : List Value) (dvs : List V), mg nm = some (.ref f) ∧ PySem.W.keepIn K (.ref f) = true ∧ Fn P w K mg base g k f fd ps S ∧ Binds K fd ps ds ∧ Vals dvs ds ∧ ∀ G, RpA K G dvs df
section
variable {X : Cx} {O : Own} {ρ : List Slot} {x : ExK} {k k' : Slot → Own → Prop} {kl kl' : List Slot → Own → Prop} {e a b c : Expr} {es : List Expr} {pos p : Pos} {D : SD} {g g' : Bool} {j n : Nat} {S : SpecT} {df : List Dat}
theorem StOk.next {K : PySem.W.Frag} {H0 H H' : Hp} {O O' : Own} {σ : SV} {ρ : List Slot} (h : StOk K H0 O σ ρ H) (o : OwnOk K O' H') (s : Same (hid O H) (hid O' H')) : StOk K H0 O' σ ρ H' :=
  ⟨o, h.base.trans s, pmap (fun _ _ z => EnvOk.mono s z) h.env⟩
/-- what follows a call -/
@[reducible] def kOut (x : ExK) (ρ : List Slot) (k : Slot → Own → Prop) : Out → Own → Prop
  | .ret s, O => k s O
  | .exc e, O => x e ρ O
theorem run_call {f : Addr} {fd : FuncData} {ps : List Str} {ds : List Value} {dvs vs : List V} {us : List Value} {ss : List Slot} {pins : List (Addr × Obj)} {s : Shared} {σ : SV} {H0 H : Hp} {Q : VK}
    (F : Fn X.prog X.w X.K X.mg X.base g n f fd ps S) (hr : RoomB g n X.A) (hb : Binds X.K fd ps ds) (hd : Vals dvs ds) (hdf : ∀ G, RpA X.K G dvs df) (I : Inv X pins σ H s) (st : StOk X.K H0 O σ ρ H) (tk : Takes X (Wsem X.K H0 x)) (rv : Vals vs us)
    (pr : Paired (SlOk X.K (hid O H)) vs ss) (hS : S (ss ++ df.map .dat) O (kOut x ρ k)) (q : ∀ v H' s O', k s O' → StOk X.K H0 O' σ ρ H' → SlOk X.K (hid O' H') v s → Q v H') :
    wpAny (model X.prog X.w) X.A (call (.ref f) us) (EP X pins σ Q) X.xe s := by
  have r2 : Vals (vs ++ dvs) (us ++ ds) := rv.append hd
  have sp : spS X.K S (vs ++ dvs) H Q (fun cls d H' => Wsem X.K H0 x cls d σ H') := ⟨O, ss ++ df.map .dat, kOut x ρ k, st.own, paired_app pr (hdf _).paired, hS,
    fun v H' s' O' h1 h2 h3 h4 => q v H' s' O' h1 (st.next h2 h3) h4, fun cls d e H' O' h1 h2 h3 h4 => ⟨e, ρ, O', h1, st.next h2 h3, h4⟩⟩
  have hl : (us ++ ds).length = ps.length := by rw [← r2.length]; exact spS_len F.len _ _ _ _ sp
  refine wpAny_call (codeAny_mono (F.run X.A X.stack s H ⟨us, []⟩ (us ++ ds) (vs ++ dvs) Q _ hr I.env0 (hb s us I.kIn hl) r2 sp) fun r s' hq => ?_)
  cases r with
  | error e => exact tk e s' (XE.of_call I (fun _ _ _ h => h) hq)
  | ok fl =>
    cases fl with
    | ret u => exact I.after hq
    | next => exact False.elim hq
    | brk => exact False.elim hq
    | cont => exact False.elim hq
theorem ew_call {nm : Str} (cl : Cal X.prog X.w X.K X.mg X.base g n nm S df) (hr : RoomB g' j X.A) (h : AW X O ρ (e :: es) x fun ss O1 => S (ss ++ df.map .dat) O1 (kOut x ρ k)) (hj : n ≤ j := by decide) (hgg : g = true → g' = true := by first | exact fun _ => rfl | exact fun h => h | exact fun h => nomatch h)
    (hg : Gl X nm := by rfl) (hdb : (nm == ("__debug__" : Str)) = false := by decide) (he : starEach (e :: es) X.env = (false, eval e X.env) :: starEach es X.env := by rfl) (hpl : (backTo pos (starEach es X.env)).any (·.1) = false := by rfl) :
    EW X O ρ (.Call (.Name nm p) (e :: es) [] pos) x k := fun H0 σ H st tk Q q => ⟨fun pins s I => by
  obtain ⟨f, fd, ps, ds, dvs, hm, hk, F, hb, hd, hdf⟩ := cl
  refine wpAny_Call_Name_kw (ld_glob I hg hm ?_ hdb)
  refine PySem.W.callWith_K (h₀ := X.base) I.ok.mod.kin hk (thn ((pa_w (es := e :: es)).run pos pins s σ H (fun vs H1 => ∃ ss O1, StOk X.K H0 O1 σ ρ H1 ∧ Paired (SlOk X.K (hid O1 H1)) vs ss ∧ S (ss ++ df.map .dat) O1 (kOut x ρ k)) I (h H0 σ H st tk _ fun vs H1 ss O1 h1 st1 r1 => ⟨ss, O1, st1, r1, h1⟩)) fun us s1 hq => ?_) he hpl
  obtain ⟨vs, H1, I1, rv, ss, O1, st1, pr, hS⟩ := hq
  exact ⟨I1.kIn, run_call F (hr.mono hj hgg) hb hd hdf I1 st1 tk rv pr hS q⟩⟩
theorem ew_call0 {nm : Str} (cl : Cal X.prog X.w X.K X.mg X.base g n nm S df) (hr : RoomB g' j X.A) (h : S (df.map .dat) O (kOut x ρ k)) (hj : n ≤ j := by decide) (hgg : g = true → g' = true := by first | exact fun _ => rfl | exact fun h => h | exact fun h => nomatch h)
    (hg : Gl X nm := by rfl) (hdb : (nm == ("__debug__" : Str)) = false := by decide) : EW X O ρ (.Call (.Name nm p) [] [] pos) x k := fun H0 σ H st tk Q q => ⟨fun pins s I => by
  obtain ⟨f, fd, ps, ds, dvs, hm, hk, F, hb, hd, hdf⟩ := cl
  refine wpAny_Call_Name_kw (ld_glob I hg hm ?_ hdb)
  exact PySem.W.callWith_K0 I.kIn hk (run_call (us := []) (vs := []) (ss := []) F (hr.mono hj hgg) hb hd hdf I st tk .nil .nil h q)⟩
/-! ### exceptions of one's own that are made by their __init__ -/
/-- what the written part says of such a class, its own __init__ with a contract -/
structure ExCls (P : Program) (w : World) (K : PySem.W.Frag) (mg : Str → Option Value) (base : Heap) (n : Nat) (nm : Str) (C : Addr) (S : SpecT) : Prop where
  oex : OexC K C
  mgC : mg nm = some (.ref C)
  ini : ∃ (f : Addr) (fd : FuncData) (ps : List Str), PySem.W.findIn K (.ref C) "__init__" = some (some (.ref f)) ∧ PySem.W.typeIn K (.ref f) = some (.type "function") ∧ Fn P w K mg base false n f fd ps S ∧ Binds K fd ps []
/-- __init__ of such a class: the new exception at a -/
def MkEx (C : Addr) (S : SpecT) (x : ExK) (ρ : List Slot) : List Slot → Own → Prop := fun ss O1 => ss.length ≤ 1000 ∧ ∀ a, O1 a = none → S (.own a :: ss) (up O1 a (.exo C none)) fun o O2 =>
  ∃ s, o = .ret s ∧ s = .dat .non ∧ ∃ (d : Addr) (fs : List (Str × Dat)), O2 a = some (.exo C (some d)) ∧ O2 d = some (.exd (fs.map fun q => (q.1, .dat q.2))) ∧ O1 d = none ∧ x (.own C fs) ρ (dn (dn O2 a) d)
theorem exo_ext {p C : Addr} {d : Option Addr} : ∃ φ, L2.exo p C d = .ext φ := ⟨_, rfl⟩
theorem s1_raise {nm : Str} {C : Addr} {pos2 : Pos} (cl : ExCls X.prog X.w X.K X.mg X.base n nm C S) (hr : RoomB g' j X.A) (h : AW X O ρ (e :: es) x (MkEx C S x ρ)) (hj : n + 1 ≤ j := by decide) (hc : X.calm = true := by rfl)
    (hg : Gl X nm := by rfl) (hdb : (nm == ("__debug__" : Str)) = false := by decide) (he : starEach (e :: es) X.env = (false, eval e X.env) :: starEach es X.env := by rfl) (hpl : (backTo pos (starEach es X.env)).any (·.1) = false := by rfl) :
    S1 X O ρ (.Raise (some (.Call (.Name nm p) (e :: es) [] pos)) none pos2) x D := fun H0 σ H st tk E ok => by
  obtain ⟨f, fd, ps, iC, tI, F, hb⟩ := cl.ini
  have pm := pmk_oex (X := X) (p := p) (pos := pos) (CX := L2.CX X.prog X.w) (sp := spS X.K S) (dvs := []) (ds := []) cl.oex iC tI F.ok (hr.r.mono hj) hb .nil passL hg cl.mgC (pa_w (es := e :: es)) hdb he hpl
  refine ws_of (ps_raise hc tk pm) ?_
  refine h H0 σ H st tk _ fun vs H1 ss O1 hm st1 pr => ?_
  obtain ⟨hl, hm⟩ := hm
  refine ⟨by rw [paired_len pr]; exact hl, fun a ha => ?_⟩
  have hO : O1 a = none := own_free st1.own ha
  have st2 := st1.alloc (o := L2.exo a C none) (c := .exo C none) ha rfl
  rw [List.append_nil]
  refine ⟨up O1 a (.exo C none), .own a :: ss, _, st2.own, .cons rfl (pmap (fun _ _ z => SlOk.mono (by
    intro b o hb
    obtain ⟨z1, z2⟩ := of_hid hb
    have nb := ne_of_none z2 ha
    rw [hid_none (by rw [up_ne nb]; exact z1), upd_ne nb]
    exact z2) z) pr), hm a hO, fun v H2 s O2 hR own2 sm2 r2 => ?_, fun cls d ee H2 O2 hR => ?_⟩
  · obtain ⟨s', e1, e2, d, fs, ca, cd, nd, hx⟩ := hR
    cases e1
    subst e2
    cases r2
    obtain ⟨oa, ha1, ha2⟩ := own2.cell a _ ca
    obtain ⟨od, hd1, fv, hd2, hd3⟩ := own2.cell d _ cd
    subst ha2 hd2
    have nda : d ≠ a := fun z => by rw [z, ca] at cd; cases cd
    have sm1 : Same (hid O1 H1) (hid (up O1 a (.exo C none)) (upd H1 a (L2.exo a C none))) := fun b o hb => by
      obtain ⟨z1, z2⟩ := of_hid hb
      have nb := ne_of_none z2 ha
      rw [hid_none (by rw [up_ne nb]; exact z1), upd_ne nb]
      exact z2
    have hd0 : H1 d = none := by
      cases hz : H1 d with
      | none => rfl
      | some o =>
        have z1 : hid O1 H1 d = some o := by rw [hid_none nd]; exact hz
        have z2 := sm2 d o (sm1 d o z1)
        rw [hid_some cd] at z2; cases z2
    have gS : Same (hid O2 H2) (hid (dn (dn O2 a) d) (upd (del H2 a) d (.xd fv))) := fun b o hb => by
      obtain ⟨z1, z2⟩ := of_hid hb
      have nba : b ≠ a := fun z => by rw [z, ca] at z1; cases z1
      have nbd : b ≠ d := fun z => by rw [z, cd] at z1; cases z1
      rw [hid_none (by rw [dn_ne nbd, dn_ne nba]; exact z1), upd_ne nbd, del_ne nba]
      exact z2
    have own3 : OwnOk X.K (dn (dn O2 a) d) (upd (del H2 a) d (.xd fv)) := ⟨fun q c hq => by
      have nqd : q ≠ d := fun z => by rw [z, dn_at] at hq; cases hq
      rw [dn_ne nqd] at hq
      have nqa : q ≠ a := fun z => by rw [z, dn_at] at hq; cases hq
      rw [dn_ne nqa] at hq
      obtain ⟨o, z1, z2⟩ := own2.cell q c hq
      exact ⟨o, by rw [upd_ne nqd, del_ne nqa]; exact z1, ClOk.mono gS z2⟩⟩
    refine ⟨rfl, d, fv, ha1, hd1, hd0, _, ρ, _, hx, st1.next own3 ((sm1.trans sm2).trans gS), rfl, d, fv, rfl, dn_at, upd_same, RpF.of_paired (pmap (fun _ _ z => ⟨z.1, SlOk.mono gS z.2⟩) hd3)⟩
  · obtain ⟨s', e1, _⟩ := hR
    cases e1
end
end Kn
/-! KnE: the making of exceptions from within, try, what is asked of a caught one. -/
namespace Kn
open PySem PySem.Spec PyProof.Rows
open L2 hiding St
/-! ### isinstance(e, C) of an exception that has its own dict -/
section
open PySem.W PySem.Calls
variable {prog : Program} {w : World} {A : Around} {E : Value → Shared → Prop} {s : Shared} {K : Frag} {x D : Addr} {ox : Obj} {od : Option Obj}
theorem class_of_exc {Q : Option Value → Shared → Prop} (T : ExcC K D) (X : K.In s.heap) (I : InstAt s.heap x ox D od) (h : Q (some (.ref D)) { s with toks := s.toks + 1 }) : wpAny (model prog w) A (getAttr? (.ref x) "__class__") Q E s :=
  kx_classE X I T.hg T.hk T.hs (findObj_dataE (let ⟨_, e, _⟩ := any_some T.hd; e ▸ rfl) T.ha T.hn T.ht) T.hm h
/-- an exception's class lies in K, as a class -/
theorem exc_cls (T : ExcC K D) : ∃ o, K.lookup D = some o ∧ (∃ cd, o.data = .cls cd) := by
  obtain ⟨cd, e, _⟩ := any_some T.hd
  unfold clsIn at e
  split at e
  · rename_i k
    exact ⟨_, k, _, rfl⟩
  · cases e
theorem kit_exc (T : ExcC K D) : KitX K (.ref x) (.ref D) (fun h => ∃ od, InstAt h x ox D od) where
  ty := fun _ _ _ ⟨_, I⟩ => I.type
  it := fun _ _ X _ A Q E s keep q => by
    obtain ⟨o, k, _, isCls⟩ := exc_cls T
    unfold isType loadHead
    refine wpAny_bind (wpAny_loadPart (keep _ _ (X _ _ k)) ?_)
    rw [isCls]
    exact wpAny_pure q
  ne := fun h tp dd its n sl X tup => by
    obtain ⟨o, k, _, isCls⟩ := exc_cls T
    rw [beq_eq_false_iff_ne]
    intro same
    rw [← Value.ref.inj same, X _ _ k] at tup
    rw [Option.some.inj tup] at isCls
    cases isCls
  ca := fun X ⟨_, I⟩ kk => class_of_exc T X I kk
end
section
variable {X : Cx} {O : Own} {ρ : List Slot} {x : ExK} {k k' : Slot → Own → Prop} {kl kl' : List Slot → Own → Prop} {e a b c o : Expr} {es : List Expr} {pos p p1 p2 p' : Pos} {D : SD} {g g' : Bool} {j n : Nat} {S : SpecT} {df : List Dat}
/-! ### within an __init__ -/
/-- Base.__init__(self, ..): Base a class of one's own (over ValueError) that has no __init__ -/
structure BaseIni (K : PySem.W.Frag) (mg : Str → Option Value) (nm : Str) : Prop where
  ex : ∃ (C : Addr) (mc : Value), mg nm = some (.ref C) ∧ ClX.CRead K C mc ∧ PySem.W.findCls K (.ref C) mc "__init__" = some (.val (.builtin "ValueError.__init__"))
theorem pe_kinit {nm : Str} {ta : TA} {pl : Sem Bool} (T : BaseIni X.K X.mg nm) (hg : Gl X nm) (ha : PA X (e :: es) ta)
    (hc : eval (.Call (.Attribute (.Name nm p1) "__init__" p2) (e :: es) [] pos) X.env = (do
      let ov ← eval (.Name nm p1) X.env
      standAt p2.atName
      let (f, first) ← holding [ov] (getMethod ov "__init__" pl)
      callWith pos f first (backTo pos (starEach (e :: es) X.env)) (backToKw pos (keywordEach [] X.env))) := by rfl)
    (he : starEach (e :: es) X.env = (false, eval e X.env) :: starEach es X.env := by rfl) (hpl : (backTo pos (starEach es X.env)).any (·.1) = false := by rfl) (hdb : (nm == ("__debug__" : Str)) = false := by decide) :
    PE X (.Call (.Attribute (.Name nm p1) "__init__" p2) (e :: es) [] pos) (tVeI X.K ta) := by
  obtain ⟨C0, mc, hm, hr, hf⟩ := T.ex
  constructor
  intro pins s σ H Q I want
  refine PySem.W.methodCall_KW (ld_glob I hg hm ?_ hdb) hc
  refine PySem.W.method_cls I.kIn hr.ga (PySem.W.cls_value I.kIn hr.rd hf (by decide +kernel) ?_)
  show wpAny _ _ (callWith pos _ _ _ _) _ _ _
  refine PyProof.Rows.callWith_method1 (thn (ha.run pos pins _ σ H _ (I.tok _) want) ?_) he hpl
  rintro us t ⟨vs, H1, I1, r1, a, C, ws, rfl, size, T, at_, q⟩
  cases r1 with
  | @cons _ u _ us' same rest =>
    cases (show u = Value.ref a from same)
    exact oinit_ok T I1 at_ (by rw [← Paired.length rest, sizeLine_eq]; omega) fun t J => ⟨.non, H1, J, rfl, q⟩
theorem ew_kinit {nm : Str} {pl : Sem Bool} (T : BaseIni X.K X.mg nm) (h : AW X O ρ (e :: es) x fun ss O1 => ∃ (a C : Addr) (ws : List Slot), ss = .own a :: ws ∧ ws.length ≤ 1000 ∧ OexC X.K C ∧ O1 a = some (.exo C none) ∧ k (.dat .non) O1) (hg : Gl X nm := by rfl)
    (hc : eval (.Call (.Attribute (.Name nm p1) "__init__" p2) (e :: es) [] pos) X.env = (do
      let ov ← eval (.Name nm p1) X.env
      standAt p2.atName
      let (f, first) ← holding [ov] (getMethod ov "__init__" pl)
      callWith pos f first (backTo pos (starEach (e :: es) X.env)) (backToKw pos (keywordEach [] X.env))) := by rfl)
    (he : starEach (e :: es) X.env = (false, eval e X.env) :: starEach es X.env := by rfl) (hpl : (backTo pos (starEach es X.env)).any (·.1) = false := by rfl) (hdb : (nm == ("__debug__" : Str)) = false := by decide) :
    EW X O ρ (.Call (.Attribute (.Name nm p1) "__init__" p2) (e :: es) [] pos) x k := fun H0 σ H st tk Q q =>
  we_of (pe_kinit (pl := pl) T hg pa_w hc he hpl hdb) (h H0 σ H st tk _ fun vs H1 ss O1 ⟨a, C, ws, e1, h1, h2, h3, h4⟩ st1 pr => by
    subst e1
    cases pr with
    | cons r1 r2 =>
      rename_i v vs'
      obtain rfl : v = .ref a := r1
      obtain ⟨oa, z1, z2⟩ := st1.own.cell a _ h3
      subst z2
      exact ⟨a, C, vs', rfl, by rw [paired_len r2]; exact h1, h2, z1, q _ H1 _ O1 h4 st1 .non⟩)
/-- self.f = e, self an exception that is being made -/
theorem s1_ost {f : Str} (h : EW X O ρ e x fun s1 O1 => EW X O1 ρ o x fun s2 O2 => ∃ a C, s2 = .own a ∧ OexC X.K C ∧ PySem.W.findIn X.K (.ref C) f = some none ∧
      ((O2 a = some (.exo C none) ∧ ∀ dx, O2 dx = none → D.nx ρ (up (up O2 dx (.exd [(f, s1)])) a (.exo C (some dx)))) ∨
        ∃ dx fs, O2 a = some (.exo C (some dx)) ∧ O2 dx = some (.exd fs) ∧ fs.length ≤ 900 ∧ D.nx ρ (up O2 dx (.exd ((f, s1) :: fs)))))
    (hs : swapsWith e (some (.Attribute o f p')) pos.line X.env = pure false := by rfl) : S1 X O ρ (.Assign [.Attribute o f p'] e pos) x D := fun H0 σ H st tk E ok => by
  refine ws_of (ps_ost pe_w pe_w hs) (two h st tk (Q := fun y v2 H2 => ∃ a C : Addr, v2 = .ref a ∧ OexC X.K C ∧ PySem.W.findIn X.K (.ref C) f = some none ∧ ((H2 a = some (exo a C none) ∧ ∀ dx, H2 dx = none → dx ≠ a → E.nx σ (upd (upd H2 dx (exd dx [(f, y)])) a (exo a C (some dx)))) ∨
    ∃ (dx : Addr) (fs : List (Str × V)), H2 a = some (exo a C (some dx)) ∧ H2 dx = some (exd dx fs) ∧ fs.length ≤ 900 ∧ E.nx σ (upd H2 dx (exd dx ((f, y) :: fs))))) fun y v2 s1 s2 O2 H2 hp st2 r1 r2 => ?_)
  obtain ⟨a, C, e1, h1, h2, h3⟩ := hp
  subst e1
  obtain rfl : v2 = .ref a := r2
  refine ⟨a, C, rfl, h1, h2, ?_⟩
  rcases h3 with ⟨ca, hn⟩ | ⟨dx, fs, ca, cd, hl, hn⟩
  · obtain ⟨oa, z1, z2⟩ := st2.own.cell a _ ca
    subst z2
    refine .inl ⟨z1, fun dx hd nda => ?_⟩
    have hO := own_free st2.own hd
    have st3 := st2.alloc (o := exd dx [(f, y)]) (c := .exd [(f, s1)]) hd ⟨_, rfl, .cons ⟨rfl, r1⟩ .nil⟩
    have st4 := st3.write (p := a) (o := exo a C (some dx)) (c := .exo C (some dx)) (by rw [up_ne nda.symm]; exact ca) rfl
    exact ok.nx σ ρ _ _ (hn dx hO) st4
  · obtain ⟨oa, z1, z2⟩ := st2.own.cell a _ ca
    subst z2
    obtain ⟨od, z3, fv, z4, z5⟩ := st2.own.cell dx _ cd
    subst z4
    refine .inr ⟨dx, fv, z1, z3, by rw [paired_len z5]; exact hl, ?_⟩
    exact ok.nx σ ρ _ _ hn (st2.write (o := exd dx ((f, y) :: fv)) (c := .exd ((f, s1) :: fs)) cd ⟨_, rfl, .cons ⟨rfl, r1⟩ z5⟩)
/-! ### try -/
def ExMt (K : PySem.W.Frag) (e : Exn) (c : Value) (b : Bool) : Prop := match e with
  | .own C _ => PySem.W.exmOne K (.ref C) c = some b
  | .ty n => PySem.W.exmOne K (.type n) c = some b
theorem exMt_of {K : PySem.W.Frag} {O : Own} {H : Hp} {cls : Value} {d : Option Addr} {e : Exn} {c : Value} {b : Bool} (h : ExMt K e c b) (q : ExOk K O H cls d e) : PySem.W.exmOne K cls c = some b := by
  cases e with
  | own C fs => rw [q.1]; exact h
  | ty n =>
    have q : cls = .type n := q
    rw [q]; exact h
/-- the suite of a clause, for each way in which the exception may lie; i: the place of its name -/
def Suite (X : Cx) (i : Option Nat) (suite : List Stmt) (D : SD) (e : Exn) (ρ : List Slot) (O : Own) : Prop := match e with
  | .own C fs => ∀ (a dd : Addr) (oe : Obj) (pn : List (Addr × Obj)), Zc (.ref C) (some dd) oe → (∃ vs, oe.data = .fields vs) → O a = none →
      SW (X.suite a ((a, oe) :: pn)) O (match i with | some j => ρ.set j (.dat (.exc a dd fs)) | none => ρ) suite noX D
  | .ty n => ∀ (a : Addr) (d : Option Addr) (oe : Obj) (pn : List (Addr × Obj)), Zc (.type n) d oe → (∃ vs, oe.data = .fields vs) → O a = none →
      SW (X.suite a ((a, oe) :: pn)) O (match i with | some j => ρ.set j (.own a) | none => ρ) suite noX D
theorem StOk.unset {K : PySem.W.Frag} {H0 H : Hp} {σ : SV} (h : StOk K H0 O σ ρ H) (i : Nat) : StOk K H0 O (σ.set i none) (ρ.set i .unk) H := ⟨h.own, h.base, paired_set (x := none) env_none i h.env⟩
theorem suite_of {i : Option Nat} {suite : List Stmt} {ex : Exn} {H0 H : Hp} {σ : SV} {cls : Value} {d : Option Addr} {E : Ends} {a : Addr} {oe : Obj} {pn : List (Addr × Obj)} (h : Suite X i suite D ex ρ O) (st : StOk X.K H0 O σ ρ H) (hx : ExOk X.K O H cls d ex) (ha : H a = none)
    (hz : Zc cls d oe) (hf : ∃ vs, oe.data = .fields vs) (ok : EndsOk X.K H0 D E) : Wss (X.suite a ((a, oe) :: pn)) suite E (match i with | some j => σ.set j (some (.ref a)) | none => σ) H := by
  have hO := own_free st.own ha
  cases ex with
  | own C fs =>
    obtain ⟨e1, dd, fv, e2, n1, h1, h2⟩ := hx
    subst e1 e2
    have rr : SlOk X.K (hid O H) (.ref a) (.dat (.exc a dd fs)) := Rp.exc (by rw [hid_none n1]; exact h1) h2
    cases i with
    | none => exact h a dd oe pn hz hf hO H0 σ H st takes_no E ok
    | some j => exact h a dd oe pn hz hf hO H0 _ H (st.set (i := j) rr) takes_no E ok
  | ty nn =>
    have e1 : cls = .type nn := hx
    subst e1
    cases i with
    | none => exact h a d oe pn hz hf hO H0 σ H st takes_no E ok
    | some j => exact h a d oe pn hz hf hO H0 _ H (st.set (i := j) (v := .ref a) (s := .own a) rfl) takes_no E ok
/-- except C as n -/
theorem s1_try_as {nm nn : Str} {cc : Value} {body suite : List Stmt} {b₀ : Stmt} {np pos' : Pos} (i : Nat) (hN : X.N.Nodup) (hcn : Names X nm cc)
    (h : ∀ (pn : List (Addr × Obj)) (xe : Value → Shared → Prop), PassesOwn (model X.prog X.w) X.A X.env xe → SW (X.tr pn xe) O ρ body
      (fun e ρ' O' => ∃ t, ExMt X.K e cc t ∧ (t = true → Suite X (some i) (b₀ :: suite) { nx := fun ρ2 O2 => D.nx (ρ2.set i .unk) O2, rt := D.rt, bk := fun ρ2 O2 => D.bk (ρ2.set i .unk) O2, ct := fun ρ2 O2 => D.ct (ρ2.set i .unk) O2 } e ρ' O') ∧ (t = false → x e ρ' O')) D)
    (hs : X.stack = X.env :: X.outer := by rfl) (hf : X.env.frame = some X.env.locals := by rfl) (hi : X.N[i]? = some nn := by rfl) (hln : X.env.kindOf nn = some .local := by rfl) :
    S1 X O ρ (.Try body [.ExceptHandler (some (.Name nm np)) (some nn) (b₀ :: suite) pos'] [] [] pos) x D := fun H0 σ H st tk E ok => by
  refine ws_of (ps_try_as (X := X) (tb := fun W D σ H => ∀ pn xe, Takes (X.tr pn xe) W → PassesOwn (model X.prog X.w) X.A X.env xe → Wss (X.tr pn xe) body D σ H)
    (ts := fun a cls d D σ H => ∀ oe pn, Zc cls d oe → (∃ vs, oe.data = .fields vs) → Wss (X.suite a ((a, oe) :: pn)) (b₀ :: suite) D σ H) hs hf hN hi hln hcn tk
    (fun W pn xe tkW hpo => ⟨fun pins s σ H D I q => (q pn xe tkW hpo).r pins s I⟩) (fun a oe cls d pn hz hf => ⟨fun pins s σ H D I q => (q oe pn hz hf).r pins s I⟩)) ?_
  intro pn xe tkW hpo
  refine h pn xe hpo H0 σ H st (tkW.imp fun cls d σ' H' hw => ?_) E ok
  obtain ⟨ex, ρ', O', ⟨t, hm, hy, hn⟩, st', hx⟩ := hw
  refine ⟨t, exMt_of hm hx, fun ht a ha oe pn' hz hf' => ?_, fun ht => ⟨ex, ρ', O', hn ht, st', hx⟩⟩
  exact suite_of (i := some i) (hy ht) st' hx ha hz hf' ⟨fun σ2 ρ2 O2 H2 q s => ok.nx _ _ O2 H2 q (s.unset i), ok.rt, fun σ2 ρ2 O2 H2 q s => ok.bk _ _ O2 H2 q (s.unset i), fun σ2 ρ2 O2 H2 q s => ok.ct _ _ O2 H2 q (s.unset i)⟩
/-- except C -/
theorem s1_try_only {nm : Str} {cc : Value} {body suite : List Stmt} {b₀ : Stmt} {np pos' : Pos} (hcn : Names X nm cc)
    (h : ∀ (pn : List (Addr × Obj)) (xe : Value → Shared → Prop), PassesOwn (model X.prog X.w) X.A X.env xe → SW (X.tr pn xe) O ρ body
      (fun e ρ' O' => ∃ t, ExMt X.K e cc t ∧ (t = true → Suite X none (b₀ :: suite) D e ρ' O') ∧ (t = false → x e ρ' O')) D)
    (hs : X.stack = X.env :: X.outer := by rfl) (hf : X.env.frame = some X.env.locals := by rfl) :
    S1 X O ρ (.Try body [.ExceptHandler (some (.Name nm np)) none (b₀ :: suite) pos'] [] [] pos) x D := fun H0 σ H st tk E ok => by
  refine ws_of (ps_try_only (X := X) (tb := fun W D σ H => ∀ pn xe, Takes (X.tr pn xe) W → PassesOwn (model X.prog X.w) X.A X.env xe → Wss (X.tr pn xe) body D σ H)
    (ts := fun a cls d D σ H => ∀ oe pn, Zc cls d oe → (∃ vs, oe.data = .fields vs) → Wss (X.suite a ((a, oe) :: pn)) (b₀ :: suite) D σ H) hs hf hcn tk
    (fun W pn xe tkW hpo => ⟨fun pins s σ H D I q => (q pn xe tkW hpo).r pins s I⟩) (fun a oe cls d pn hz hf => ⟨fun pins s σ H D I q => (q oe pn hz hf).r pins s I⟩)) ?_
  intro pn xe tkW hpo
  refine h pn xe hpo H0 σ H st (tkW.imp fun cls d σ' H' hw => ?_) E ok
  obtain ⟨ex, ρ', O', ⟨t, hm, hy, hn⟩, st', hx⟩ := hw
  refine ⟨t, exMt_of hm hx, fun ht a ha oe pn' hz hf' => ?_, fun ht => ⟨ex, ρ', O', hn ht, st', hx⟩⟩
  exact suite_of (i := none) (hy ht) st' hx ha hz hf' ok
/-! ### in a suite: e.f and isinstance(e, C) of the caught e -/
theorem ew_exf {f : Str} {aa dd C : Addr} {oe : Obj} {pn : List (Addr × Obj)} (T : XfC X.K C) (hno : PySem.W.findIn X.K (.ref C) f = some none) (hz : Zc (.ref C) (some dd) oe) (hf : ∃ vs, oe.data = .fields vs)
    (h : EW (X.suite aa ((aa, oe) :: pn)) O ρ e x fun s O1 => ∃ fs d, s = .dat (.exc aa dd fs) ∧ fs.lookup f = some d ∧ k (.dat d) O1) (hb : attributeBase e f X.env (eval e X.env) = eval e X.env := by rfl) :
    EW (X.suite aa ((aa, oe) :: pn)) O ρ (.Attribute e f pos) x k := fun H0 σ H st tk Q q =>
  we_of (pe_xf T hno hz hf pe_w hb) (h H0 σ H st tk _ fun v H1 s O1 ⟨fs, d, e1, h1, h2⟩ st1 r1 => by
    subst e1
    cases r1 with
    | exc h3 h4 =>
      obtain ⟨v, h5, h6⟩ := h4.lookup h1
      exact ⟨rfl, rfl, dd, _, v, rfl, hid_le _ _ h3, h5, q v H1 _ O1 h2 st1 h6⟩)
theorem cb_isE {aa dd C C' : Addr} {oe : Obj} {pn : List (Addr × Obj)} {fs : List (Str × Dat)} {t : Bool} (T : ExcC X.K C) (hz : Zc (.ref C) (some dd) oe) (hf : ∃ vs, oe.data = .fields vs) (hk : PySem.W.kitOne X.K (.ref C) (.ref C') = some t) (h : k (.dat (.bl t)) O) :
    CaB (X.suite aa ((aa, oe) :: pn)) (.builtin "isinstance") [.dat (.exc aa dd fs), .dat (.cls C')] O k := by
  refine ⟨fun xs H Q => xs = [.ref aa, .ref C'] ∧ (∃ fv, H dd = some (.xd fv)) ∧ Q (.bl t) H, ?_, ?_⟩
  · intro pins s σ H xs us Q I r hq
    obtain ⟨rfl, ⟨fv, hdd⟩, q⟩ := hq
    cases r with
    | cons rx rr =>
      cases rr with
      | cons rt rr =>
        cases rr
        cases rx
        cases rt
        obtain ⟨hget, _⟩ := I.pin (aa, oe) (List.mem_append.mpr (.inl List.mem_cons_self))
        obtain ⟨vs, hv⟩ := hf
        have hx : ObjOk X.prog X.w H s.heap dd (.xd fv) := I.hok dd _ hdd
        obtain ⟨mA, hns, _⟩ := hx
        obtain ⟨od, ho, _⟩ := lookIn_ns hns
        have J : PySem.W.InstAt s.heap aa oe C (some od) := ⟨hget, hz.1, by unfold PySem.W.notCls; rw [hv] <;> rfl, by rw [hz.2]; exact ho⟩
        exact PySem.W.kia_one (kit_exc T) I.kIn ⟨_, J⟩ hk (fun z => nomatch z) fun tk => ⟨.bl t, H, I.kept (t' := tk) fun _ _ z => z, rfl, q⟩
  · intro H0 σ ρ H vs st pr Q q
    cases pr with
    | cons r1 pr =>
      cases pr with
      | cons r2 pr =>
        cases pr
        cases r1 with
        | exc h3 h4 =>
          cases r2
          exact ⟨rfl, ⟨_, hid_le _ _ h3⟩, q _ H _ O h st (.bl t)⟩
end
end Kn
/-! KnF: operators, built-in functions and methods by what they are given. -/
namespace Kn
open PySem PySem.Spec PyProof.Rows
open L2 hiding St
/-! ### data as the library's data -/
mutual
def toPy : Dat → PyData
  | .non => .none
  | .bl b => .bool b
  | .int i => .int i
  | .str x => .str x
  | .lst xs => .list (toPys xs)
  | .fro xs => .list (toPys xs)
  | .tup xs => .tuple (toPys xs)
  | _ => .none
def toPys : List Dat → List PyData
  | [] => []
  | d :: ds => toPy d :: toPys ds
end
mutual
def plain : Dat → Bool
  | .non => true
  | .bl _ => true
  | .int _ => true
  | .str _ => true
  | .lst xs => plains xs
  | .fro xs => plains xs
  | .tup xs => plains xs
  | _ => false
def plains : List Dat → Bool
  | [] => true
  | d :: ds => plain d && plains ds
end
section
variable {K : PySem.W.Frag} {G H : Hp} {O : Own}
mutual
theorem Rp.dp {v : V} : ∀ {d : Dat}, plain d = true → Rp K G v d → Dp K G v (toPy d)
  | .non, _, h => by cases h; exact .non
  | .bl b, _, h => by cases h; exact .bl b
  | .int i, _, h => by cases h; exact .int i
  | .str x, _, h => by cases h; exact .str x
  | .lst ds, p, h => by
    cases h with
    | lst h1 h2 => exact .lst (sql_at h1) (RpA.dp p h2)
  | .fro ds, p, h => by
    cases h with
    | fro h1 h2 => exact .lst h1 (RpA.dp p h2)
  | .tup ds, p, h => by
    cases h with
    | tup h1 h2 => exact .tup h1 (RpA.dp p h2)
theorem RpA.dp : ∀ {vs : List V} {ds : List Dat}, plains ds = true → RpA K G vs ds → DpAll K G vs (toPys ds)
  | _, [], _, h => by cases h; exact .nil
  | _, d :: ds, p, h => by
    cases h with
    | cons h1 h2 =>
      obtain ⟨p1, p2⟩ := Bool.and_eq_true_iff.mp p
      exact .cons (Rp.dp p1 h1) (RpA.dp p2 h2)
end
theorem Rp.tk {v : V} {d : Dat} (h : Rp K (hid O H) v d) : Rp K H v d := Rp.mono hid_le h
end
section
variable {X : Cx} {O : Own} {ρ : List Slot} {x : ExK} {k k' : Slot → Own → Prop} {kl kl' : List Slot → Own → Prop} {e a b c o : Expr} {es : List Expr} {pos p apos : Pos} {D : SD}
/-! ### ints -/
theorem ob_add {i j : Int} (h : k (.dat (.int (i + j))) O) : OpB X (binaryOp .Add) (.dat (.int i)) (.dat (.int j)) O k := ⟨_, op_add, fun H0 σ ρ H v1 v2 st r1 r2 Q q => by
  cases r1; cases r2; exact ⟨i, j, rfl, rfl, q _ H _ O h st (.int _)⟩⟩
theorem ob_sub {i j : Int} (h : k (.dat (.int (i - j))) O) : OpB X (binaryOp .Sub) (.dat (.int i)) (.dat (.int j)) O k := ⟨_, op_sub, fun H0 σ ρ H v1 v2 st r1 r2 Q q => by
  cases r1; cases r2; exact ⟨i, j, rfl, rfl, q _ H _ O h st (.int _)⟩⟩
theorem ob_mul {i j : Int} (hb : (-(2 ^ 64) < i ∧ i < 2 ^ 64) ∨ (-(2 ^ 64) < j ∧ j < 2 ^ 64)) (h : k (.dat (.int (i * j))) O) : OpB X (binaryOp .Mult) (.dat (.int i)) (.dat (.int j)) O k := ⟨_, op_mul, fun H0 σ ρ H v1 v2 st r1 r2 Q q => by
  cases r1; cases r2; exact ⟨i, j, rfl, rfl, hb, q _ H _ O h st (.int _)⟩⟩
theorem ob_mod {i j : Int} (hb : 0 < j) (h : k (.dat (.int (i % j))) O) : OpB X (binaryOp .Mod) (.dat (.int i)) (.dat (.int j)) O k := ⟨_, op_mod, fun H0 σ ρ H v1 v2 st r1 r2 Q q => by
  cases r1; cases r2; exact ⟨i, j, rfl, rfl, hb, q _ H _ O h st (.int _)⟩⟩
theorem ob_fdiv {i j : Int} (hb : 0 < j ∧ j < 1073741824) (h : k (.dat (.int (i / j))) O) : OpB X (binaryOp .FloorDiv) (.dat (.int i)) (.dat (.int j)) O k := ⟨_, op_fdiv, fun H0 σ ρ H v1 v2 st r1 r2 Q q => by
  cases r1; cases r2; exact ⟨i, j, rfl, rfl, hb, q _ H _ O h st (.int _)⟩⟩
theorem ob_pow {i j : Int} (hb : 0 ≤ j ∧ j ≤ 1000000 ∧ i.natAbs < 2 ^ 64) (h : k (.dat (.int (i ^ j.toNat))) O) : OpB X (binaryOp .Pow) (.dat (.int i)) (.dat (.int j)) O k := ⟨_, op_pow, fun H0 σ ρ H v1 v2 st r1 r2 Q q => by
  cases r1; cases r2; exact ⟨i, j, rfl, rfl, hb, q _ H _ O h st (.int _)⟩⟩
theorem ob_lt {i j : Int} (h : k (.dat (.bl (decide (i < j)))) O) : OpB X (compareOp .Lt) (.dat (.int i)) (.dat (.int j)) O k := ⟨_, op_lt, fun H0 σ ρ H v1 v2 st r1 r2 Q q => by
  cases r1; cases r2; exact ⟨i, j, rfl, rfl, q _ H _ O h st (.bl _)⟩⟩
theorem ob_le {i j : Int} (h : k (.dat (.bl (decide (i ≤ j)))) O) : OpB X (compareOp .LtE) (.dat (.int i)) (.dat (.int j)) O k := ⟨_, op_le, fun H0 σ ρ H v1 v2 st r1 r2 Q q => by
  cases r1; cases r2; exact ⟨i, j, rfl, rfl, q _ H _ O h st (.bl _)⟩⟩
theorem ob_gt {i j : Int} (h : k (.dat (.bl (decide (j < i)))) O) : OpB X (compareOp .Gt) (.dat (.int i)) (.dat (.int j)) O k := ⟨_, op_gt, fun H0 σ ρ H v1 v2 st r1 r2 Q q => by
  cases r1; cases r2; exact ⟨i, j, rfl, rfl, q _ H _ O h st (.bl _)⟩⟩
theorem ob_ge {i j : Int} (h : k (.dat (.bl (decide (j ≤ i)))) O) : OpB X (compareOp .GtE) (.dat (.int i)) (.dat (.int j)) O k := ⟨_, op_ge, fun H0 σ ρ H v1 v2 st r1 r2 Q q => by
  cases r1; cases r2; exact ⟨i, j, rfl, rfl, q _ H _ O h st (.bl _)⟩⟩
theorem ou_neg {i : Int} (h : k (.dat (.int (-i))) O) : OpU X (unaryOp .USub) (.dat (.int i)) O k := ⟨_, un_neg, fun H0 σ ρ H v1 st r1 Q q => by
  cases r1; exact ⟨i, rfl, q _ H _ O h st (.int _)⟩⟩
/-! ### ==, !=, in on data -/
def eqD (a b : Dat) : Bool := PyData.eqv (toPy a) (toPy b)
theorem ob_eq {d1 d2 : Dat} (hr : Room 0 X.A) (p1 : plain d1 = true) (p2 : plain d2 = true) (s1 : SeqAt.shaped (toPy d1) = true) (s2 : SeqAt.shaped (toPy d2) = true) (h : k (.dat (.bl (eqD d1 d2))) O) : OpB X (compareOp .Eq) (.dat d1) (.dat d2) O k :=
  ⟨_, op_eqD hr.units, fun H0 σ ρ H v1 v2 st r1 r2 Q q => ⟨_, _, Rp.dp p1 (Rp.tk r1), Rp.dp p2 (Rp.tk r2), s1, s2, q _ H _ O h st (.bl _)⟩⟩
theorem ob_ne {d1 d2 : Dat} (hr : Room 0 X.A) (p1 : plain d1 = true) (p2 : plain d2 = true) (s1 : SeqAt.shaped (toPy d1) = true) (s2 : SeqAt.shaped (toPy d2) = true) (h : k (.dat (.bl (!eqD d1 d2))) O) : OpB X (compareOp .NotEq) (.dat d1) (.dat d2) O k :=
  ⟨_, op_neD hr.units, fun H0 σ ρ H v1 v2 st r1 r2 Q q => ⟨_, _, Rp.dp p1 (Rp.tk r1), Rp.dp p2 (Rp.tk r2), s1, s2, q _ H _ O h st (.bl _)⟩⟩
theorem ob_eqI {i j : Int} (h : k (.dat (.bl (decide (i = j)))) O) : OpB X (compareOp .Eq) (.dat (.int i)) (.dat (.int j)) O k := ⟨_, op_eq, fun H0 σ ρ H v1 v2 st r1 r2 Q q => by
  cases r1; cases r2
  refine ⟨rfl, q _ H _ O h st ?_⟩
  rw [show decide (V.int i = V.int j) = decide (i = j) by by_cases e : i = j <;> simp [e]]
  exact .bl _⟩
theorem ob_neI {i j : Int} (h : k (.dat (.bl (!decide (i = j)))) O) : OpB X (compareOp .NotEq) (.dat (.int i)) (.dat (.int j)) O k := ⟨_, op_ne, fun H0 σ ρ H v1 v2 st r1 r2 Q q => by
  cases r1; cases r2
  refine ⟨rfl, q _ H _ O h st ?_⟩
  rw [show decide (V.int i = V.int j) = decide (i = j) by by_cases e : i = j <;> simp [e]]
  exact .bl _⟩
theorem ob_eqS {y z : Str} (h : k (.dat (.bl (decide (y = z)))) O) : OpB X (compareOp .Eq) (.dat (.str y)) (.dat (.str z)) O k := ⟨_, op_eq, fun H0 σ ρ H v1 v2 st r1 r2 Q q => by
  cases r1; cases r2
  refine ⟨rfl, q _ H _ O h st ?_⟩
  rw [show decide (V.str y = V.str z) = decide (y = z) by by_cases e : y = z <;> simp [e]]
  exact .bl _⟩
theorem ob_neS {y z : Str} (h : k (.dat (.bl (!decide (y = z)))) O) : OpB X (compareOp .NotEq) (.dat (.str y)) (.dat (.str z)) O k := ⟨_, op_ne, fun H0 σ ρ H v1 v2 st r1 r2 Q q => by
  cases r1; cases r2
  refine ⟨rfl, q _ H _ O h st ?_⟩
  rw [show decide (V.str y = V.str z) = decide (y = z) by by_cases e : y = z <;> simp [e]]
  exact .bl _⟩
theorem ob_eqB {y z : Bool} (h : k (.dat (.bl (decide (y = z)))) O) : OpB X (compareOp .Eq) (.dat (.bl y)) (.dat (.bl z)) O k := ⟨_, op_eq, fun H0 σ ρ H v1 v2 st r1 r2 Q q => by
  cases r1; cases r2
  refine ⟨rfl, q _ H _ O h st ?_⟩
  rw [show decide (V.bl y = V.bl z) = decide (y = z) by cases y <;> cases z <;> rfl]
  exact .bl _⟩
theorem decide_non {v : V} {d : Dat} {K : PySem.W.Frag} {G : Hp} (r : Rp K G v d) : decide (v = .non) = (match d with | .non => true | _ => false) := by
  cases r <;> rfl
def isNon : Dat → Bool
  | .non => true
  | _ => false
theorem ob_isN {d : Dat} (h : k (.dat (.bl (isNon d))) O) : OpB X (compareOp .Is) (.dat d) (.dat .non) O k := ⟨_, op_isN, fun H0 σ ρ H v1 v2 st r1 r2 Q q => by
  cases r2
  refine ⟨rfl, q _ H _ O h st ?_⟩
  have e : decide (v1 = .non) = isNon d := by cases r1 <;> rfl
  rw [e]; exact .bl _⟩
theorem ob_isNotN {d : Dat} (h : k (.dat (.bl (!isNon d))) O) : OpB X (compareOp .IsNot) (.dat d) (.dat .non) O k := ⟨_, op_notN, fun H0 σ ρ H v1 v2 st r1 r2 Q q => by
  cases r2
  refine ⟨rfl, q _ H _ O h st ?_⟩
  have e : decide (v1 = .non) = isNon d := by cases r1 <;> rfl
  rw [e]; exact .bl _⟩
/-- a text among texts -/
theorem eqV_str (y z : Str) : eqV (.str y) (.str z) = (y == z) := rfl
theorem inV_strs {z : Str} : ∀ {ws : List Str}, inV (.str z) (ws.map V.str) = ws.any (· == z)
  | [] => rfl
  | y :: ws => by
    show (eqV (.str y) (.str z) || inV (.str z) (ws.map V.str)) = _
    rw [inV_strs, eqV_str]; rfl
theorem rpa_strs {K : PySem.W.Frag} {G : Hp} : ∀ {vs : List V} {ws : List Str}, RpA K G vs (ws.map .str) → vs = ws.map V.str
  | _, [], h => by cases h; rfl
  | _, w :: ws, h => by
    cases h with
    | cons h1 h2 =>
      cases h1
      rw [rpa_strs h2]; rfl
theorem all_flat (ws : List Str) : (ws.map V.str).all flatV = true := by
  induction ws with
  | nil => rfl
  | cons w ws ih =>
    rw [List.map_cons, List.all_cons, ih]; rfl
theorem ob_inT {z : Str} {ws : List Str} (h : k (.dat (.bl (ws.any (· == z)))) O) : OpB X (compareOp .In) (.dat (.str z)) (.dat (.tup (ws.map .str))) O k := ⟨_, op_in_seq, fun H0 σ ρ H v1 v2 st r1 r2 Q q => by
  cases r1
  cases r2 with
  | tup h1 h2 =>
    have e := rpa_strs h2
    subst e
    refine ⟨_, _, rfl, .inr (sqt_mono hid_le h1), rfl, all_flat ws, q _ H _ O h st ?_⟩
    rw [inV_strs]; exact .bl _⟩
theorem ob_niT {z : Str} {ws : List Str} (h : k (.dat (.bl (!ws.any (· == z)))) O) : OpB X (compareOp .NotIn) (.dat (.str z)) (.dat (.tup (ws.map .str))) O k := ⟨_, op_notIn_seq, fun H0 σ ρ H v1 v2 st r1 r2 Q q => by
  cases r1
  cases r2 with
  | tup h1 h2 =>
    have e := rpa_strs h2
    subst e
    refine ⟨_, _, rfl, .inr (sqt_mono hid_le h1), rfl, all_flat ws, q _ H _ O h st ?_⟩
    rw [inV_strs]; exact .bl _⟩
theorem ob_inL {z : Str} {ws : List Str} (h : k (.dat (.bl (ws.any (· == z)))) O) : OpB X (compareOp .In) (.dat (.str z)) (.dat (.lst (ws.map .str))) O k := ⟨_, op_in_seq, fun H0 σ ρ H v1 v2 st r1 r2 Q q => by
  cases r1
  cases r2 with
  | lst h1 h2 =>
    have e := rpa_strs h2
    subst e
    refine ⟨_, _, rfl, .inl (sql_at (hid_le _ _ h1)), rfl, all_flat ws, q _ H _ O h st ?_⟩
    rw [inV_strs]; exact .bl _⟩
theorem ob_niL {z : Str} {ws : List Str} (h : k (.dat (.bl (!ws.any (· == z)))) O) : OpB X (compareOp .NotIn) (.dat (.str z)) (.dat (.lst (ws.map .str))) O k := ⟨_, op_notIn_seq, fun H0 σ ρ H v1 v2 st r1 r2 Q q => by
  cases r1
  cases r2 with
  | lst h1 h2 =>
    have e := rpa_strs h2
    subst e
    refine ⟨_, _, rfl, .inl (sql_at (hid_le _ _ h1)), rfl, all_flat ws, q _ H _ O h st ?_⟩
    rw [inV_strs]; exact .bl _⟩
/-- one sign in a text -/
theorem ob_inS {c : Nat} {z : Str} (h : k (.dat (.bl (decide (c ∈ z.cps.toList)))) O) : OpB X (compareOp .In) (.dat (.str ⟨#[c]⟩)) (.dat (.str z)) O k := ⟨_, op_in_sign, fun H0 σ ρ H v1 v2 st r1 r2 Q q => by
  cases r1; cases r2; exact ⟨c, z, rfl, rfl, q _ H _ O h st (.bl _)⟩⟩
theorem ob_niS {c : Nat} {z : Str} (h : k (.dat (.bl (!decide (c ∈ z.cps.toList)))) O) : OpB X (compareOp .NotIn) (.dat (.str ⟨#[c]⟩)) (.dat (.str z)) O k := ⟨_, op_notIn_sign, fun H0 σ ρ H v1 v2 st r1 r2 Q q => by
  cases r1; cases r2; exact ⟨c, z, rfl, rfl, q _ H _ O h st (.bl _)⟩⟩
/-! ### texts, lists, tuples joined -/
theorem ob_cat {y z : Str} (hl : y.length + z.length ≤ sizeLine) (h : k (.dat (.str (y ++ z))) O) : OpB X (binaryOp .Add) (.dat (.str y)) (.dat (.str z)) O k := ⟨_, op_add_str, fun H0 σ ρ H v1 v2 st r1 r2 Q q => by
  cases r1; cases r2; exact ⟨y, z, rfl, rfl, hl, q _ H _ O h st (.str _)⟩⟩
theorem ob_catL {ds es : List Dat} (hl : ds.length + es.length ≤ sizeLine) (h : k (.dat (.lst (ds ++ es))) O) : OpB X (binaryOp .Add) (.dat (.lst ds)) (.dat (.lst es)) O k := ⟨_, op_cat, fun H0 σ ρ H v1 v2 st r1 r2 Q q => by
  cases r1 with
  | lst h1 h2 =>
    cases r2 with
    | lst h3 h4 =>
      refine ⟨_, _, _, _, rfl, rfl, hid_le _ _ h1, hid_le _ _ h3, by rw [h2.length, h4.length]; exact hl, fun p hp => q _ _ _ O h (st.grow (same_new hp)) ?_⟩
      exact .lst (by rw [hid_none (own_free st.own hp), upd_same]) (RpA.mono (hid_same (same_new hp)) (h2.append h4))⟩
/-- .. the new list a cell -/
theorem ob_catC {ds es : List Dat} (hl : ds.length + es.length ≤ sizeLine) (h : ∀ p, O p = none → k (.own p) (up O p (.lst ((ds ++ es).map .dat)))) : OpB X (binaryOp .Add) (.dat (.lst ds)) (.dat (.lst es)) O k := ⟨_, op_cat, fun H0 σ ρ H v1 v2 st r1 r2 Q q => by
  cases r1 with
  | lst h1 h2 =>
    cases r2 with
    | lst h3 h4 => exact ⟨_, _, _, _, rfl, rfl, hid_le _ _ h1, hid_le _ _ h3, by rw [h2.length, h4.length]; exact hl, fun p hp => q _ _ _ _ (h p (own_free st.own hp)) (st.alloc hp ⟨_, rfl, (h2.append h4).paired⟩) rfl⟩⟩
theorem ob_catT {ds es : List Dat} (hl : ds.length + es.length ≤ sizeLine) (h : k (.dat (.tup (ds ++ es))) O) : OpB X (binaryOp .Add) (.dat (.tup ds)) (.dat (.tup es)) O k := ⟨_, op_catA, fun H0 σ ρ H v1 v2 st r1 r2 Q q => by
  cases r1 with
  | tup h1 h2 =>
    cases r2 with
    | tup h3 h4 =>
      refine ⟨_, _, _, _, rfl, rfl, sqt_mono hid_le h1, sqt_mono hid_le h3, by rw [h2.length, h4.length]; exact hl, fun e1 => ?_, fun e1 e2 => ?_, fun e1 e2 p hp => ?_⟩
      · subst e1
        cases h2
        exact q _ H _ O h st (.tup h3 h4)
      · subst e2
        cases h4
        rw [List.append_nil] at h
        exact q _ H _ O h st (.tup h1 h2)
      · refine q _ _ _ O h (st.grow (same_new hp)) ?_
        exact .tup (.inl (.inl (by rw [hid_none (own_free st.own hp), upd_same]))) (RpA.mono (hid_same (same_new hp)) (h2.append h4))⟩
theorem replicate_rp {K : PySem.W.Frag} {G : Hp} {vs : List V} {ds : List Dat} (h : RpA K G vs ds) : ∀ n, RpA K G (List.replicate n vs).flatten (List.replicate n ds).flatten
  | 0 => .nil
  | n + 1 => by
    rw [List.replicate_succ, List.replicate_succ, List.flatten_cons, List.flatten_cons]
    exact h.append (replicate_rp h n)
theorem ob_rep {ds : List Dat} {n : Int} (hn : -(2 ^ 63) ≤ n ∧ n < 2 ^ 63) (hl : ds.length * n.toNat ≤ sizeLine) (h : k (.dat (.lst (List.replicate n.toNat ds).flatten)) O) : OpB X (binaryOp .Mult) (.dat (.lst ds)) (.dat (.int n)) O k := ⟨_, op_rep, fun H0 σ ρ H v1 v2 st r1 r2 Q q => by
  cases r2
  cases r1 with
  | lst h1 h2 =>
    refine ⟨_, n, _, rfl, rfl, hid_le _ _ h1, hn.1, hn.2, by rw [h2.length]; exact hl, fun p hp => q _ _ _ O h (st.grow (same_new hp)) ?_⟩
    exact .lst (by rw [hid_none (own_free st.own hp), upd_same]) (RpA.mono (hid_same (same_new hp)) (replicate_rp h2 _))⟩
/-- a text n times -/
def timesS (z : Str) (n : Int) : Str := if n < 1 then Str.empty else if (n == 1 || z.length == 0) = true then z else ⟨(List.replicate n.toNat z.cps).foldl (· ++ ·) #[]⟩
theorem op_timesS : OpR X (binaryOp .Mult) (fun v1 v2 H Q => ∃ z n, v1 = .str z ∧ v2 = .int n ∧ n < 1000 ∧ -1000 < n ∧ z.length ≤ 1000 ∧ Q (.str (timesS z n)) H) := by
  intro pins s σ H y z v u Q I rx ry h
  obtain ⟨zz, n, rfl, rfl, h1, h2, h3, q⟩ := h
  obtain ⟨t, rfl⟩ := rx
  obtain ⟨t', rfl⟩ := ry
  have hlen : zz.length * n.toNat ≤ 1000 * 1000 := Nat.mul_le_mul h3 (by omega)
  have hT : Builtin.Str.tooLong (zz.length * n.toNat) = false := by
    unfold Builtin.Str.tooLong
    rw [sizeLine_eq]
    exact decide_eq_false (by omega)
  refine PySem.P.mul_str (by rw [decide_eq_false (by omega), decide_eq_false (by omega)]; rfl) (fun g1 g2 => ?_) (fun g1 g2 => ?_) ?_
  · have e1 : (2 ^ 63 - 1 : Int) / n ≥ (2 ^ 63 - 1) / 1000 := by
      have hn : 0 < n := by omega
      have := Int.ediv_nonneg (show (0 : Int) ≤ 2 ^ 63 - 1 by decide) (show (0 : Int) ≤ n by omega)
      refine (Int.le_ediv_iff_mul_le hn).mpr ?_
      have h5 : ((2 ^ 63 - 1 : Int) / 1000) * n ≤ ((2 ^ 63 - 1 : Int) / 1000) * 1000 := Int.mul_le_mul_of_nonneg_left (by omega) (by decide)
      have h6 : ((2 ^ 63 - 1 : Int) / 1000) * 1000 ≤ 2 ^ 63 - 1 := by decide
      omega
    have e2 : (1000 : Int) ≤ (2 ^ 63 - 1) / 1000 := by decide
    omega
  · exact hT
  · by_cases g1 : n < 1
    · rw [if_pos g1]
      have e : timesS zz n = Str.empty := if_pos g1
      rw [e] at q
      exact ⟨by decide, .str Str.empty, H, I.tok _, ⟨_, rfl⟩, q⟩
    · rw [if_neg g1]
      by_cases g2 : (n == 1 || zz.length == 0) = true
      · rw [if_pos g2]
        have e : timesS zz n = zz := by unfold timesS; rw [if_neg g1, if_pos g2]
        rw [e] at q
        exact ⟨.str zz, H, I, ⟨_, rfl⟩, q⟩
      · rw [if_neg g2]
        have e : timesS zz n = ⟨(List.replicate n.toNat zz.cps).foldl (· ++ ·) #[]⟩ := by unfold timesS; rw [if_neg g1, if_neg g2]
        rw [e] at q
        exact ⟨fits_reps hT, .str _, H, I.tok _, ⟨_, rfl⟩, q⟩
theorem ob_times {z : Str} {n : Int} (hn : n < 1000 ∧ -1000 < n) (hz : z.length ≤ 1000) (h : k (.dat (.str (timesS z n))) O) : OpB X (binaryOp .Mult) (.dat (.str z)) (.dat (.int n)) O k := ⟨_, op_timesS, fun H0 σ ρ H v1 v2 st r1 r2 Q q => by
  cases r1; cases r2; exact ⟨z, n, rfl, rfl, hn.1, hn.2, hz, q _ H _ O h st (.str _)⟩⟩
/-! ### subscripts -/
theorem atI_rp {K : PySem.W.Frag} {G : Hp} {vs : List V} {ds : List Dat} {i : Int} {d : Dat} (h : RpA K G vs ds) (e : atI ds i = some d) : ∃ v, atI vs i = some v ∧ Rp K G v d := by
  unfold atI at e ⊢
  rw [h.length]
  cases hj : ixN ds.length i with
  | none => rw [hj] at e; cases e
  | some j =>
    rw [hj] at e
    exact h.get e
theorem atI_pd {F : V → Slot → Prop} {vs : List V} {ss : List Slot} {i : Int} {s : Slot} (h : Paired F vs ss) (e : atI ss i = some s) : ∃ v, atI vs i = some v ∧ F v s := by
  unfold atI at e ⊢
  rw [paired_len h]
  cases hj : ixN ss.length i with
  | none => rw [hj] at e; cases e
  | some j =>
    rw [hj] at e
    exact paired_get h e
theorem ix_lst {ds : List Dat} {i : Int} {d : Dat} (e : atI ds i = some d) (h : k (.dat d) O) : IxB X (.dat (.lst ds)) (.dat (.int i)) O k := ⟨_, ix_list, fun H0 σ ρ H v1 v2 st r1 r2 Q q => by
  cases r2
  cases r1 with
  | lst h1 h2 =>
    obtain ⟨v, h3, h4⟩ := atI_rp h2 e
    exact ⟨_, _, i, v, rfl, rfl, sql_at (hid_le _ _ h1), h3, q _ H _ O h st h4⟩⟩
theorem ix_fro {ds : List Dat} {i : Int} {d : Dat} (e : atI ds i = some d) (h : k (.dat d) O) : IxB X (.dat (.fro ds)) (.dat (.int i)) O k := ⟨_, ix_list, fun H0 σ ρ H v1 v2 st r1 r2 Q q => by
  cases r2
  cases r1 with
  | fro h1 h2 =>
    obtain ⟨v, h3, h4⟩ := atI_rp h2 e
    exact ⟨_, _, i, v, rfl, rfl, sql_mono hid_le h1, h3, q _ H _ O h st h4⟩⟩
theorem ix_tpl {ds : List Dat} {i : Int} {d : Dat} (e : atI ds i = some d) (h : k (.dat d) O) : IxB X (.dat (.tup ds)) (.dat (.int i)) O k := ⟨_, ix_tup, fun H0 σ ρ H v1 v2 st r1 r2 Q q => by
  cases r2
  cases r1 with
  | tup h1 h2 =>
    obtain ⟨v, h3, h4⟩ := atI_rp h2 e
    exact ⟨_, _, i, v, rfl, rfl, sqt_mono hid_le h1, h3, q _ H _ O h st h4⟩⟩
theorem ix_sgn {z : Str} {i : Int} {c : Nat} (hz : z.length ≤ sizeLine) (e : atI z.cps.toList i = some c) (h : k (.dat (.str ⟨#[c]⟩)) O) : IxB X (.dat (.str z)) (.dat (.int i)) O k := ⟨_, ix_str, fun H0 σ ρ H v1 v2 st r1 r2 Q q => by
  cases r1; cases r2; exact ⟨z, i, c, rfl, rfl, hz, e, q _ H _ O h st (.str _)⟩⟩
theorem ix_own {p : Addr} {ss : List Slot} {i : Int} {s : Slot} (hp : O p = some (.lst ss)) (e : atI ss i = some s) (h : k s O) : IxB X (.own p) (.dat (.int i)) O k := ⟨_, ix_list, fun H0 σ ρ H v1 v2 st r1 r2 Q q => by
  cases r2
  obtain rfl : v1 = .ref p := r1
  obtain ⟨o, h1, vs, rfl, h2⟩ := st.own.cell p _ hp
  obtain ⟨v, h3, h4⟩ := atI_pd h2 e
  exact ⟨p, vs, i, v, rfl, rfl, sql_at h1, h3, q _ H _ O h st h4⟩⟩
/-! slices -/
def OW (X : Cx) (O : Own) (ρ : List Slot) (e : Option Expr) (x : ExK) (k : Option Int → Own → Prop) : Prop :=
  ∀ H0 σ H, StOk X.K H0 O σ ρ H → Takes X (Wsem X.K H0 x) → ∀ Q : Option Int → Hp → Prop, (∀ o H' O', k o O' → StOk X.K H0 O' σ ρ H' → Q o H') → Bx (∀ (pins : List (Addr × Obj)) (s : Shared), Inv X pins σ H s →
    wpAny (model X.prog X.w) X.A (evalPart e X.env) (fun u s' => ∃ o H', Inv X pins σ H' s' ∧ IsPart u o ∧ Q o H') X.xe s)
def Wo (X : Cx) (e : Option Expr) : TO := fun σ H Q => Bx (∀ (pins : List (Addr × Obj)) (s : Shared), Inv X pins σ H s → wpAny (model X.prog X.w) X.A (evalPart e X.env) (fun u s' => ∃ o H', Inv X pins σ H' s' ∧ IsPart u o ∧ Q o H') X.xe s)
theorem po_w {e : Option Expr} : PO X e (Wo X e) := ⟨fun pins s σ H Q I h => h.r pins s I⟩
variable {ko : Option Int → Own → Prop}
theorem ow_none (h : ko none O) : OW X O ρ none x ko := fun H0 σ H st tk Q q => ⟨fun pins s I => po_none.run pins s σ H Q I (q none H O h st)⟩
theorem ow_some (h : EW X O ρ e x fun s O' => ∃ i, s = .dat (.int i) ∧ ko (some i) O') : OW X O ρ (some e) x ko := fun H0 σ H st tk Q q => ⟨fun pins s I =>
  (po_some pe_w).run pins s σ H Q I (h H0 σ H st tk _ fun v H1 s O1 ⟨i, e1, h1⟩ st1 r1 => by
    subst e1
    cases r1
    exact ⟨i, rfl, q _ H1 O1 h1 st1⟩)⟩
def SlB (X : Cx) (s : Slot) (lo hi : Option Int) (O : Own) (k : Slot → Own → Prop) : Prop := ∃ r, SlR X r ∧ ∀ H0 σ ρ H v, StOk X.K H0 O σ ρ H → SlOk X.K (hid O H) v s → ∀ Q : VK, (∀ v H' s O', k s O' → StOk X.K H0 O' σ ρ H' → SlOk X.K (hid O' H') v s → Q v H') → r v lo hi H Q
theorem ew_slice {lo hi : Option Expr} {p2 : Pos} (h : EW X O ρ e x fun s O1 => OW X O1 ρ lo x fun l O2 => OW X O2 ρ hi x fun u O3 => SlB X s l u O3 k) : EW X O ρ (.Subscript e (.Slice lo hi none p2) pos) x k := fun H0 σ H st tk Q q => by
  have main : SlR X (fun v lo hi H Q => ∃ r, SlR X r ∧ r v lo hi H Q) := fun pins s σ H x v vl vu lo hi sl Q I rx hs hl hu ⟨r, ho, hr⟩ => ho pins s σ H x v vl vu lo hi sl Q I rx hs hl hu hr
  refine we_of (pe_slice main pe_w po_w po_w) (h H0 σ H st tk _ fun v H1 s O1 h1 st1 r1 => ?_)
  refine h1 (hid O1 H1) σ H1 st1.top (takes_base tk st1.base) _ fun l H2 O2 h2 st2 => ?_
  have b2 := st1.base.trans st2.base
  refine h2 (hid O2 H2) σ H2 st2.top (takes_base tk b2) _ fun u H3 O3 h3 st3 => ?_
  obtain ⟨r, ho, hr⟩ := h3
  exact ⟨r, ho, hr H0 σ ρ H3 v (st3.rebase b2) (SlOk.mono (st2.base.trans st3.base) r1) Q q⟩
def cutD {α : Type} (xs : List α) (lo hi : Option Int) : List α := (xs.drop (HT.sIx xs.length 0 lo)).take (HT.sIx xs.length xs.length hi - HT.sIx xs.length 0 lo)
theorem RpA.drop {K : PySem.W.Frag} {G : Hp} : ∀ {vs : List V} {ds : List Dat} (n : Nat), RpA K G vs ds → RpA K G (vs.drop n) (ds.drop n)
  | _, _, 0, h => h
  | _, _, n + 1, .nil => .nil
  | _, _, n + 1, .cons _ t => RpA.drop n t
theorem RpA.take {K : PySem.W.Frag} {G : Hp} : ∀ {vs : List V} {ds : List Dat} (n : Nat), RpA K G vs ds → RpA K G (vs.take n) (ds.take n)
  | _, _, 0, _ => .nil
  | _, _, n + 1, .nil => .nil
  | _, _, n + 1, .cons h t => .cons h (RpA.take n t)
theorem cut_rp {K : PySem.W.Frag} {G : Hp} {vs : List V} {ds : List Dat} (h : RpA K G vs ds) (lo hi : Option Int) : RpA K G (cutV vs lo hi) (cutD ds lo hi) := by
  unfold cutV cutD
  rw [h.length]
  exact (h.drop _).take _
theorem sb_lst {ds : List Dat} {lo hi : Option Int} (h : k (.dat (.lst (cutD ds lo hi))) O) : SlB X (.dat (.lst ds)) lo hi O k := ⟨_, sl_list, fun H0 σ ρ H v st r Q q => by
  cases r with
  | lst h1 h2 =>
    refine ⟨_, _, rfl, sql_at (hid_le _ _ h1), fun p hp => q _ _ _ O h (st.grow (same_new hp)) ?_⟩
    exact .lst (by rw [hid_none (own_free st.own hp), upd_same]) (RpA.mono (hid_same (same_new hp)) (cut_rp h2 lo hi))⟩
/-- .. a cell -/
theorem sb_lstC {ds : List Dat} {lo hi : Option Int} (h : ∀ p, O p = none → k (.own p) (up O p (.lst ((cutD ds lo hi).map .dat)))) : SlB X (.dat (.lst ds)) lo hi O k := ⟨_, sl_list, fun H0 σ ρ H v st r Q q => by
  cases r with
  | lst h1 h2 => exact ⟨_, _, rfl, sql_at (hid_le _ _ h1), fun p hp => q _ _ _ _ (h p (own_free st.own hp)) (st.alloc hp ⟨_, rfl, (cut_rp h2 lo hi).paired⟩) rfl⟩⟩
theorem sb_str {z : Str} {lo hi : Option Int} (hz : z.length ≤ sizeLine) (h : k (.dat (.str (cutS z lo hi))) O) : SlB X (.dat (.str z)) lo hi O k := ⟨_, sl_str, fun H0 σ ρ H v st r Q q => by
  cases r; exact ⟨z, rfl, hz, q _ H _ O h st (.str _)⟩⟩
theorem sb_tup {ds : List Dat} {lo hi : Option Int} (h : k (.dat (.tup (cutD ds lo hi))) O) : SlB X (.dat (.tup ds)) lo hi O k := ⟨_, sl_tupA, fun H0 σ ρ H v st r Q q => by
  cases r with
  | tup h1 h2 =>
    refine ⟨_, _, rfl, sqt_mono hid_le h1, fun hw => ?_, fun _ p hp => q _ _ _ O h (st.grow (same_new hp)) ?_⟩
    · rw [h2.length] at hw
      have e : cutD ds lo hi = ds := by
        unfold cutD
        rw [hw.1, hw.2, Nat.sub_zero, List.drop_zero, List.take_length]
      rw [e] at h
      exact q _ H _ O h st (.tup h1 h2)
    · exact .tup (.inl (.inl (by rw [hid_none (own_free st.own hp), upd_same]))) (RpA.mono (hid_same (same_new hp)) (cut_rp h2 lo hi))⟩
/-! ### built-in functions -/
theorem cb_abs {i : Int} (h : k (.dat (.int (if i < 0 then -i else i))) O) : CaB X (.builtin "abs") [.dat (.int i)] O k := ⟨_, call_abs, fun H0 σ ρ H vs st pr Q q => by
  cases pr with
  | cons r1 pr => cases pr; cases r1; exact ⟨i, rfl, q _ H _ O h st (.int _)⟩⟩
theorem cb_max {i j : Int} (hc : X.calm = true) (h : k (.dat (.int (if j > i then j else i))) O) : CaB X (.builtin "max") [.dat (.int i), .dat (.int j)] O k := ⟨_, call_max2 hc, fun H0 σ ρ H vs st pr Q q => by
  cases pr with
  | cons r1 pr =>
    cases pr with
    | cons r2 pr => cases pr; cases r1; cases r2; exact ⟨i, j, rfl, q _ H _ O h st (.int _)⟩⟩
theorem cb_min {i j : Int} (hc : X.calm = true) (h : k (.dat (.int (if j < i then j else i))) O) : CaB X (.builtin "min") [.dat (.int i), .dat (.int j)] O k := ⟨_, call_min2 hc, fun H0 σ ρ H vs st pr Q q => by
  cases pr with
  | cons r1 pr =>
    cases pr with
    | cons r2 pr => cases pr; cases r1; cases r2; exact ⟨i, j, rfl, q _ H _ O h st (.int _)⟩⟩
theorem cb_intB {t : Bool} (h : k (.dat (.int (if t then 1 else 0))) O) : CaB X (.type "int") [.dat (.bl t)] O k := ⟨_, call_int1, fun H0 σ ρ H vs st pr Q q => by
  cases pr with
  | cons r1 pr => cases pr; cases r1; exact .inr ⟨t, rfl, q _ H _ O h st (.int _)⟩⟩
theorem cb_intS {z : Str} {n : Int} (e : PySem.intText? z = some n) (hl : z.length ≤ 640) (h : k (.dat (.int n)) O) : CaB X (.type "int") [.dat (.str z)] O k := ⟨_, call_int_str, fun H0 σ ρ H vs st pr Q q => by
  cases pr with
  | cons r1 pr => cases pr; cases r1; exact ⟨z, n, rfl, e, hl, q _ H _ O h st (.int _)⟩⟩
theorem cb_strI {n : Int} (hl : n.natAbs.log2 < 1920) (h : k (.dat (.str (toString n))) O) : CaB X (.type "str") [.dat (.int n)] O k := ⟨_, call_str_int, fun H0 σ ρ H vs st pr Q q => by
  cases pr with
  | cons r1 pr => cases pr; cases r1; exact ⟨n, rfl, hl, q _ H _ O h st (.str _)⟩⟩
theorem cb_strS {z : Str} (h : k (.dat (.str z)) O) : CaB X (.type "str") [.dat (.str z)] O k := ⟨_, SkE.call_str_str, fun H0 σ ρ H vs st pr Q q => by
  cases pr with
  | cons r1 pr => cases pr; cases r1; exact ⟨z, rfl, q _ H _ O h st (.str _)⟩⟩
theorem cb_lenS {z : Str} (hl : z.length ≤ sizeLine) (h : k (.dat (.int (z.length : Int))) O) : CaB X (.builtin "len") [.dat (.str z)] O k := ⟨_, call_len_str, fun H0 σ ρ H vs st pr Q q => by
  cases pr with
  | cons r1 pr => cases pr; cases r1; exact ⟨z, rfl, hl, q _ H _ O h st (.int _)⟩⟩
theorem cb_lenL {ds : List Dat} (h : k (.dat (.int (ds.length : Int))) O) : CaB X (.builtin "len") [.dat (.lst ds)] O k := ⟨_, call_len_seq, fun H0 σ ρ H vs st pr Q q => by
  cases pr with
  | cons r1 pr =>
    cases pr
    cases r1 with
    | lst h1 h2 =>
      refine ⟨_, _, rfl, .inl (sql_at (hid_le _ _ h1)), q _ H _ O h st ?_⟩
      rw [h2.length]; exact .int _⟩
theorem cb_lenF {ds : List Dat} (h : k (.dat (.int (ds.length : Int))) O) : CaB X (.builtin "len") [.dat (.fro ds)] O k := ⟨_, call_len_seq, fun H0 σ ρ H vs st pr Q q => by
  cases pr with
  | cons r1 pr =>
    cases pr
    cases r1 with
    | fro h1 h2 =>
      refine ⟨_, _, rfl, .inl (sql_mono hid_le h1), q _ H _ O h st ?_⟩
      rw [h2.length]; exact .int _⟩
theorem cb_lenT {ds : List Dat} (h : k (.dat (.int (ds.length : Int))) O) : CaB X (.builtin "len") [.dat (.tup ds)] O k := ⟨_, call_len_seq, fun H0 σ ρ H vs st pr Q q => by
  cases pr with
  | cons r1 pr =>
    cases pr
    cases r1 with
    | tup h1 h2 =>
      refine ⟨_, _, rfl, .inr (sqt_mono hid_le h1), q _ H _ O h st ?_⟩
      rw [h2.length]; exact .int _⟩
theorem cb_lenO {p : Addr} {ss : List Slot} (hp : O p = some (.lst ss)) (h : k (.dat (.int (ss.length : Int))) O) : CaB X (.builtin "len") [.own p] O k := ⟨_, call_len_seq, fun H0 σ ρ H vs st pr Q q => by
  cases pr with
  | cons r1 pr =>
    cases pr
    rename_i v
    obtain rfl : v = .ref p := r1
    obtain ⟨o, h1, xs, rfl, h2⟩ := st.own.cell p _ hp
    refine ⟨_, _, rfl, .inl (sql_at h1), q _ H _ O h st ?_⟩
    rw [paired_len h2]; exact .int _⟩
theorem rpa_bools {K : PySem.W.Frag} {G : Hp} : ∀ {vs : List V} {ws : List Bool}, RpA K G vs (ws.map .bl) → vs = ws.map V.bl
  | _, [], h => by cases h; rfl
  | _, w :: ws, h => by
    cases h with
    | cons h1 h2 =>
      cases h1
      rw [rpa_bools h2]; rfl
theorem cb_all {ts : List Bool} (hc : X.calm = true) (h : k (.dat (.bl (ts.all id))) O) : CaB X (.builtin "all") [.dat (.lst (ts.map .bl))] O k := ⟨_, cr_all hc, fun H0 σ ρ H vs st pr Q q => by
  cases pr with
  | cons r1 pr =>
    cases pr
    cases r1 with
    | lst h1 h2 =>
      have e := rpa_bools h2
      subst e
      exact ⟨_, ts, rfl, sql_at (hid_le _ _ h1), q _ H _ O h st (.bl _)⟩⟩
theorem cb_any {ts : List Bool} (hc : X.calm = true) (h : k (.dat (.bl (ts.any id))) O) : CaB X (.builtin "any") [.dat (.lst (ts.map .bl))] O k := ⟨_, cr_any hc, fun H0 σ ρ H vs st pr Q q => by
  cases pr with
  | cons r1 pr =>
    cases pr
    cases r1 with
    | lst h1 h2 =>
      have e := rpa_bools h2
      subst e
      exact ⟨_, ts, rfl, sql_at (hid_le _ _ h1), q _ H _ O h st (.bl _)⟩⟩
/-- list(xs), a new cell -/
theorem cb_listL {ds : List Dat} (h : ∀ p, O p = none → k (.own p) (up O p (.lst (ds.map .dat)))) : CaB X (.type "list") [.dat (.lst ds)] O k := ⟨_, call_list_of, fun H0 σ ρ H vs st pr Q q => by
  cases pr with
  | cons r1 pr =>
    cases pr
    cases r1 with
    | lst h1 h2 => exact ⟨_, _, rfl, .inl (sql_at (hid_le _ _ h1)), fun p hp => q _ _ _ _ (h p (own_free st.own hp)) (st.alloc hp ⟨_, rfl, h2.paired⟩) rfl⟩⟩
theorem cb_listT {ds : List Dat} (h : ∀ p, O p = none → k (.own p) (up O p (.lst (ds.map .dat)))) : CaB X (.type "list") [.dat (.tup ds)] O k := ⟨_, call_list_of, fun H0 σ ρ H vs st pr Q q => by
  cases pr with
  | cons r1 pr =>
    cases pr
    cases r1 with
    | tup h1 h2 => exact ⟨_, _, rfl, .inr (sqt_mono hid_le h1), fun p hp => q _ _ _ _ (h p (own_free st.own hp)) (st.alloc hp ⟨_, rfl, h2.paired⟩) rfl⟩⟩
theorem cb_tupL {ds : List Dat} (h : k (.dat (.tup ds)) O) : CaB X (.type "tuple") [.dat (.lst ds)] O k := ⟨_, call_tuple_of, fun H0 σ ρ H vs st pr Q q => by
  cases pr with
  | cons r1 pr =>
    cases pr
    cases r1 with
    | lst h1 h2 =>
      refine ⟨_, _, rfl, .inl ⟨sql_at (hid_le _ _ h1), fun p hp => q _ _ _ O h (st.grow (same_new hp)) ?_⟩⟩
      exact .tup (.inl (.inl (by rw [hid_none (own_free st.own hp), upd_same]))) (RpA.mono (hid_same (same_new hp)) h2)⟩
theorem cb_tupT {ds : List Dat} (h : k (.dat (.tup ds)) O) : CaB X (.type "tuple") [.dat (.tup ds)] O k := ⟨_, call_tuple_of, fun H0 σ ρ H vs st pr Q q => by
  cases pr with
  | cons r1 pr =>
    cases pr
    cases r1 with
    | tup h1 h2 => exact ⟨_, _, rfl, .inr ⟨sqt_mono hid_le h1, q _ H _ O h st (.tup h1 h2)⟩⟩⟩
/-- repr of data -/
def reprOk (d : Dat) : Bool := plain d && (toPy d).layable0 && (toPy d).showable && !(toPy d).hasDict && (toPy d).intsShort 13
def reprD (d : Dat) : Str := (toPy d).shown
theorem call_reprD (hr : RoomB true 0 X.A) : CallR X (.builtin "repr") (fun xs H Q => ∃ (a : Addr) (d : PyData), xs = [.ref a] ∧ Dp X.K H (.ref a) d ∧ d.layable0 = true ∧ d.showable = true ∧ d.hasDict = false ∧ d.intsShort 13 = true ∧ Q (.str d.shown) H) := by
  intro pins s σ H xs us Q I r hq
  obtain ⟨a, d, rfl, hd, h1, h2, h3, h4, q⟩ := hq
  cases r with
  | cons rx rr =>
    cases rr
    cases rx
    obtain ⟨as, rd⟩ := Dp.reads I d _ _ hd (show RelV (.ref a) (.ref a) from rfl)
    have hz : d.shown.length ≤ sizeLine := Nat.le_trans (shown_le13 h1 h4) (by rw [sizeLine_eq]; decide)
    have h5 : (PyData.canLay0 d && decide (PyData.depth d ≤ 64) && decide (PyData.weight d ≤ 2 ^ 20)) = true := h1
    simp only [Bool.and_eq_true, decide_eq_true_eq] at h5
    refine repr_of_reads' rd h2 (PyData.noDict_hsm h3) (hr.g rfl) (by have := hr.r.un; omega) (fun _ _ z => z) (fun h' u tk hk => ?_) hz
    exact ⟨.str d.shown, H, I.kept hk, ⟨_, rfl⟩, q⟩
theorem reprOk_and {d : Dat} (h : reprOk d = true) : plain d = true ∧ (toPy d).layable0 = true ∧ (toPy d).showable = true ∧ (toPy d).hasDict = false ∧ (toPy d).intsShort 13 = true := by
  unfold reprOk at h
  simp only [Bool.and_eq_true, Bool.not_eq_true'] at h
  exact ⟨h.1.1.1.1, h.1.1.1.2, h.1.1.2, h.1.2, h.2⟩
theorem cb_reprL (hr : RoomB true 0 X.A) {ds : List Dat} (e : reprOk (.lst ds) = true) (h : k (.dat (.str (reprD (.lst ds)))) O) : CaB X (.builtin "repr") [.dat (.lst ds)] O k := ⟨_, call_reprD hr, fun H0 σ ρ H vs st pr Q q => by
  obtain ⟨e1, e2, e3, e4, e5⟩ := reprOk_and e
  cases pr with
  | cons r1 pr =>
    cases pr
    have r1 : Rp X.K (hid O H) _ (.lst ds) := r1
    have r2 := Rp.dp e1 (Rp.tk r1)
    cases r1
    exact ⟨_, _, rfl, r2, e2, e3, e4, e5, q _ H _ O h st (.str _)⟩⟩
theorem cb_reprT (hr : RoomB true 0 X.A) {ds : List Dat} (e : reprOk (.tup ds) = true) (h : k (.dat (.str (reprD (.tup ds)))) O) : CaB X (.builtin "repr") [.dat (.tup ds)] O k := ⟨_, call_reprD hr, fun H0 σ ρ H vs st pr Q q => by
  obtain ⟨e1, e2, e3, e4, e5⟩ := reprOk_and e
  cases pr with
  | cons r1 pr =>
    cases pr
    have r1 : Rp X.K (hid O H) _ (.tup ds) := r1
    have r2 := Rp.dp e1 (Rp.tk r1)
    cases r1
    exact ⟨_, _, rfl, r2, e2, e3, e4, e5, q _ H _ O h st (.str _)⟩⟩
end
end Kn
/-! KnG: methods of built-in types, f-strings, evaluation without changes, comprehensions of such. -/
namespace Kn
open PySem PySem.Spec PyProof.Rows
open L2 hiding St
section
variable {X : Cx} {O : Own} {ρ : List Slot} {x : ExK} {k k' : Slot → Own → Prop} {kl kl' : List Slot → Own → Prop} {e a b c o : Expr} {es : List Expr} {pos p apos cpos : Pos} {D : SD}
/-! ### methods -/
def TyS (T : String) (O : Own) : Slot → Prop
  | .own p => T = "list" ∧ ∃ ss, O p = some (.lst ss)
  | .dat (.lst _) => T = "list"
  | .dat (.str _) => T = "str"
  | _ => False
theorem tyV_of {T : String} {s : Slot} {H0 H : Hp} {σ : SV} {v : V} (h : TyS T O s) (st : StOk X.K H0 O σ ρ H) (r : SlOk X.K (hid O H) v s) : tyV X.K T v H := by
  cases s with
  | unk => exact h.elim
  | own p =>
    obtain ⟨e1, ss, h2⟩ := h
    obtain rfl : v = .ref p := r
    obtain ⟨o, h3, vs, rfl, _⟩ := st.own.cell p _ h2
    exact .inl ⟨e1, _, sql_at h3⟩
  | dat d =>
    cases d with
    | lst ds =>
      cases r with
      | lst h1 h2 => exact .inl ⟨h, _, sql_at (hid_le _ _ h1)⟩
    | str z => cases r; exact h
    | _ => exact h.elim
def MtB (X : Cx) (id : String) (s : Slot) (ss : List Slot) (O : Own) (k : Slot → Own → Prop) : Prop := ∃ r, MtR X id r ∧ ∀ H0 σ ρ H v vs, StOk X.K H0 O σ ρ H → SlOk X.K (hid O H) v s → Paired (SlOk X.K (hid O H)) vs ss →
  ∀ Q : VK, (∀ v H' s O', k s O' → StOk X.K H0 O' σ ρ H' → SlOk X.K (hid O' H') v s → Q v H') → r v vs H Q
theorem ew_bm {T id : String} {name : Str} (pa : PlainAttrs T) (slot : PySem.Slot T name id) (hty : typeOf (.builtin id) = pure (.type "method_descriptor"))
    (h : EW X O ρ o x fun s O1 => TyS T O1 s ∧ AW X O1 ρ (e :: es) x fun ss O2 => MtB X id s ss O2 k) (hbase : attributeBase o name X.env (eval o X.env) = eval o X.env := by rfl)
    (hfew : ((backTo cpos (starEach (e :: es) X.env)).all (fun x => !x.1) && (backToKw cpos (keywordEach [] X.env)).all (fun x => x.1.isSome)
      && decide ((e :: es).length + ([] : List Keyword).length + (if ([] : List Keyword).isEmpty then 0 else 1) < 30)) = true := by rfl)
    (hline : (apos.endLine == cpos.line) = true := by rfl) (hs : starEach (e :: es) X.env = (false, eval e X.env) :: starEach es X.env := by rfl) (hplain : (backTo cpos (starEach es X.env)).any (·.1) = false := by rfl) :
    EW X O ρ (.Call (.Attribute o name apos) (e :: es) [] cpos) x k := fun H0 σ H st tk Q q => by
  have main : MtR X id (fun v vs H Q => ∃ r, MtR X id r ∧ r v vs H Q) := fun pins s σ H x xs v us Q I rx rv ⟨r, ho, hr⟩ => ho pins s σ H x xs v us Q I rx rv hr
  refine we_of (pe_bm pa slot hty main pe_w pa_w hbase hfew hline hs hplain) (h H0 σ H st tk _ fun v H1 s O1 ⟨t1, h1⟩ st1 r1 => ?_)
  refine ⟨tyV_of t1 st1 r1, h1 (hid O1 H1) σ H1 st1.top (takes_base tk st1.base) _ fun vs H2 ss O2 ⟨r, ho, hr⟩ st2 pr => ⟨r, ho, ?_⟩⟩
  exact hr H0 σ ρ H2 v vs (st2.rebase st1.base) (SlOk.mono st2.base r1) pr Q q
theorem ew_bm0 {T id : String} {name : Str} (pa : PlainAttrs T) (slot : PySem.Slot T name id) (hty : typeOf (.builtin id) = pure (.type "method_descriptor"))
    (h : EW X O ρ o x fun s O1 => TyS T O1 s ∧ MtB X id s [] O1 k) (hbase : attributeBase o name X.env (eval o X.env) = eval o X.env := by rfl)
    (hline : (apos.endLine == cpos.line) = true := by rfl) : EW X O ρ (.Call (.Attribute o name apos) [] [] cpos) x k := fun H0 σ H st tk Q q => by
  have main : MtR X id (fun v vs H Q => ∃ r, MtR X id r ∧ r v vs H Q) := fun pins s σ H x xs v us Q I rx rv ⟨r, ho, hr⟩ => ho pins s σ H x xs v us Q I rx rv hr
  refine we_of (pe_bm0 pa slot hty main pe_w hbase hline) (h H0 σ H st tk _ fun v H1 s O1 ⟨t1, r, ho, hr⟩ st1 r1 => ?_)
  exact ⟨tyV_of t1 st1 r1, r, ho, hr H0 σ ρ H1 v [] st1 r1 .nil Q q⟩
theorem mb_append {p : Addr} {ss : List Slot} {s : Slot} (hp : O p = some (.lst ss)) (hl : ss.length < sizeLine) (h : k (.dat .non) (up O p (.lst (ss ++ [s])))) : MtB X "list.append" (.own p) [s] O k := ⟨_, mt_append, fun H0 σ ρ H v vs st r pr Q q => by
  obtain rfl : v = .ref p := r
  cases pr with
  | cons r1 pr =>
    cases pr
    obtain ⟨o, h1, xs, rfl, h2⟩ := st.own.cell p _ hp
    exact ⟨p, xs, _, rfl, rfl, h1, by rw [paired_len h2]; exact hl, q _ _ _ _ h (st.write hp ⟨_, rfl, paired_app h2 (.cons r1 .nil)⟩) .non⟩⟩
theorem mb_extendL {p : Addr} {ss : List Slot} {ds : List Dat} (hp : O p = some (.lst ss)) (hl : ss.length + ds.length ≤ sizeLine) (h : k (.dat .non) (up O p (.lst (ss ++ ds.map .dat)))) : MtB X "list.extend" (.own p) [.dat (.lst ds)] O k := ⟨_, mt_extend, fun H0 σ ρ H v vs st r pr Q q => by
  obtain rfl : v = .ref p := r
  cases pr with
  | cons r1 pr =>
    cases pr
    obtain ⟨o, h1, xs, rfl, h2⟩ := st.own.cell p _ hp
    cases r1 with
    | lst h3 h4 => exact ⟨p, _, xs, _, rfl, rfl, h1, hid_le _ _ h3, by rw [paired_len h2, h4.length]; exact hl, q _ _ _ _ h (st.write hp ⟨_, rfl, paired_app h2 h4.paired⟩) .non⟩⟩
theorem paired_dropLast {α β : Type} {F : α → β → Prop} : ∀ {xs : List α} {ys : List β}, Paired F xs ys → Paired F xs.dropLast ys.dropLast
  | _, _, .nil => .nil
  | _, _, .cons h .nil => .nil
  | _, _, .cons h (.cons h2 t) => .cons h (paired_dropLast (.cons h2 t))
theorem paired_erase {α β : Type} {F : α → β → Prop} : ∀ {xs : List α} {ys : List β} (i : Nat), Paired F xs ys → Paired F (xs.eraseIdx i) (ys.eraseIdx i)
  | _, _, _, .nil => .nil
  | _, _, 0, .cons _ t => t
  | _, _, i + 1, .cons h t => .cons h (paired_erase i t)
theorem mb_pop {p : Addr} {ss : List Slot} {s : Slot} (hp : O p = some (.lst (ss ++ [s]))) (h : k s (up O p (.lst ss))) : MtB X "list.pop" (.own p) [] O k := ⟨_, mt_pop, fun H0 σ ρ H v vs st r pr Q q => by
  obtain rfl : v = .ref p := r
  cases pr
  obtain ⟨o, h1, xs, rfl, h2⟩ := st.own.cell p _ hp
  have hl := paired_len h2
  rw [List.length_append, List.length_singleton] at hl
  obtain ⟨y, h3, h4⟩ := paired_get (i := ss.length) h2 (by rw [List.getElem?_append_right (Nat.le_refl _), Nat.sub_self]; rfl)
  refine ⟨p, xs, y, rfl, rfl, h1, by rw [show xs.length - 1 = ss.length by omega]; exact h3, ?_⟩
  have h5 := paired_dropLast h2
  rw [List.dropLast_concat] at h5
  exact q _ _ _ _ h (st.write hp ⟨_, rfl, h5⟩) (SlOk.mono (hid_write hp) h4)⟩
theorem mb_popAt {p : Addr} {ss : List Slot} {s : Slot} {i : Int} {j : Nat} (hp : O p = some (.lst ss)) (hi : -(2 ^ 63) ≤ i ∧ i < 2 ^ 63) (hj : seqIndex? i ss.length = some j) (hs : ss[j]? = some s) (h : k s (up O p (.lst (ss.eraseIdx j)))) :
    MtB X "list.pop" (.own p) [.dat (.int i)] O k := ⟨_, mt_popAt, fun H0 σ ρ H v vs st r pr Q q => by
  obtain rfl : v = .ref p := r
  cases pr with
  | cons r1 pr =>
    cases pr
    cases r1
    obtain ⟨o, h1, xs, rfl, h2⟩ := st.own.cell p _ hp
    obtain ⟨y, h3, h4⟩ := paired_get h2 hs
    exact ⟨p, xs, i, j, y, rfl, rfl, h1, hi.1, hi.2, by rw [paired_len h2]; exact hj, h3, q _ _ _ _ h (st.write hp ⟨_, rfl, paired_erase j h2⟩) (SlOk.mono (hid_write hp) h4)⟩⟩
/-- xs.index(d), the first place of it -/
theorem toPys_get : ∀ {ds : List Dat} {j : Nat}, (toPys ds)[j]? = (ds[j]?).map toPy
  | [], j => rfl
  | d :: ds, 0 => rfl
  | d :: ds, j + 1 => toPys_get (ds := ds) (j := j)
theorem mb_index {ds : List Dat} {d z : Dat} {j : Nat} (hr : Room 0 X.A) (p1 : plain (.lst ds) = true) (p2 : plain d = true) (s1 : SeqAt.shaped (toPy (.lst ds)) = true) (s2 : SeqAt.shaped (toPy d) = true) (hj : ds[j]? = some z) (he : eqD z d = true)
    (hb : ∀ (m : Nat) (y : Dat), m < j → ds[m]? = some y → eqD y d = false) (h : k (.dat (.int (j : Int))) O) : MtB X "list.index" (.dat (.lst ds)) [.dat d] O k := ⟨_, mt_indexD (by have := hr.un; omega), fun H0 σ ρ H v vs st r pr Q q => by
  have r' : Rp X.K (hid O H) v (.lst ds) := r
  have r2 := Rp.dp p1 (Rp.tk r')
  cases r'
  cases pr with
  | cons r1 pr =>
    cases pr
    have r1 : Rp X.K (hid O H) _ d := r1
    refine ⟨_, _, toPy d, toPys ds, j, toPy z, rfl, rfl, r2, Rp.dp p2 (Rp.tk r1), s1, s2, ?_, he, fun m z' hm hz => ?_, q _ H _ O h st (.int _)⟩
    · rw [toPys_get, hj]; rfl
    · rw [toPys_get] at hz
      cases hy : ds[m]? with
      | none => rw [hy] at hz; cases hz
      | some y =>
        rw [hy] at hz
        cases hz
        exact hb m y hm hy⟩
theorem ob_inD {ds : List Dat} {d : Dat} (hr : Room 0 X.A) (p1 : plain (.lst ds) = true) (p2 : plain d = true) (s1 : SeqAt.shaped (toPy (.lst ds)) = true) (s2 : SeqAt.shaped (toPy d) = true) (h : k (.dat (.bl ((toPys ds).any fun z => PyData.eqv z (toPy d)))) O) :
    OpB X (compareOp .In) (.dat d) (.dat (.lst ds)) O k := ⟨_, op_inD (by have := hr.un; omega), fun H0 σ ρ H v1 v2 st r1 r2 Q q => ⟨toPy d, toPys ds, Rp.dp p2 (Rp.tk r1), Rp.dp p1 (Rp.tk r2), s2, s1, q _ H _ O h st (.bl _)⟩⟩
theorem strs_rp {K : PySem.W.Frag} {G : Hp} : ∀ ys : List Str, RpA K G (ys.map V.str) (ys.map .str)
  | [] => .nil
  | y :: ys => .cons (.str y) (strs_rp ys)
/-- a text's method with one argument -/
def M1B (X : Cx) (id : String) (z : Str) (s : Slot) (O : Own) (k : Slot → Own → Prop) : Prop := ∃ r, MtR X id r ∧ ∀ H0 σ ρ H v, StOk X.K H0 O σ ρ H → SlOk X.K (hid O H) v s →
  ∀ Q : VK, (∀ v H' s O', k s O' → StOk X.K H0 O' σ ρ H' → SlOk X.K (hid O' H') v s → Q v H') → r (.str z) [v] H Q
theorem ew_m1 {id : String} {name : Str} (slot : PySem.Slot "str" name id) (ty : typeOf (.builtin id) = pure (.type "method_descriptor")) (h : EW X O ρ o x fun s O1 => ∃ z, s = .dat (.str z) ∧ EW X O1 ρ e x fun s2 O2 => M1B X id z s2 O2 k)
    (hs : starEach [e] X.env = [(false, eval e X.env)] := by rfl) (hbase : attributeBase o name X.env (eval o X.env) = eval o X.env := by rfl) (hline : (apos.endLine == cpos.line) = true := by rfl) :
    EW X O ρ (.Call (.Attribute o name apos) [e] [] cpos) x k := fun H0 σ H st tk Q q => by
  have main : MtR X id (fun v vs H Q => ∃ r, MtR X id r ∧ r v vs H Q) := fun pins s σ H x xs v us Q I rx rv ⟨r, ho, hr⟩ => ho pins s σ H x xs v us Q I rx rv hr
  refine we_of (pe_m1 slot ty main pe_w pe_w hs hbase hline) (h H0 σ H st tk _ fun v H1 s O1 ⟨z, e1, h1⟩ st1 r1 => ?_)
  subst e1
  cases r1
  refine ⟨⟨z, rfl⟩, h1 (hid O1 H1) σ H1 st1.top (takes_base tk st1.base) _ fun v2 H2 s2 O2 ⟨r, ho, hr⟩ st2 r2 => ⟨r, ho, ?_⟩⟩
  exact hr H0 σ ρ H2 v2 (st2.rebase st1.base) r2 Q q
theorem m1_split {z y : Str} (hy : (y.length == 0) = false) (hz : z.length + 2 ≤ sizeLine) (h : k (.dat (.lst ((Txt.split z y).map .str))) O) : M1B X "str.split" z (.dat (.str y)) O k := ⟨_, mt_split, fun H0 σ ρ H v st r Q q => by
  cases r
  refine ⟨z, y, rfl, rfl, hy, hz, fun p hp => q _ _ _ O h (st.grow (same_new hp)) ?_⟩
  exact .lst (by rw [hid_none (own_free st.own hp), upd_same]) (strs_rp _)⟩
/-- .. a cell -/
theorem m1_splitC {z y : Str} (hy : (y.length == 0) = false) (hz : z.length + 2 ≤ sizeLine) (h : ∀ p, O p = none → k (.own p) (up O p (.lst ((Txt.split z y).map fun w => .dat (.str w))))) : M1B X "str.split" z (.dat (.str y)) O k := ⟨_, mt_split, fun H0 σ ρ H v st r Q q => by
  cases r
  refine ⟨z, y, rfl, rfl, hy, hz, fun p hp => q _ _ _ _ (h p (own_free st.own hp)) (st.alloc hp ⟨_, rfl, ?_⟩) rfl⟩
  have := (strs_rp (K := X.K) (G := hid O H) (Txt.split z y)).paired
  rw [List.map_map] at this
  exact this⟩
theorem m1_partition {z y : Str} (hy : (y.length == 0) = false) (hz : z.length ≤ sizeLine) (h : k (.dat (.tup [.str (Txt.partition z y).1, .str (Txt.partition z y).2.1, .str (Txt.partition z y).2.2])) O) : M1B X "str.partition" z (.dat (.str y)) O k := ⟨_, mt_partition, fun H0 σ ρ H v st r Q q => by
  cases r
  refine ⟨z, y, rfl, rfl, hy, hz, fun p hp => q _ _ _ O h (st.grow (same_new hp)) ?_⟩
  exact .tup (.inl (.inl (by rw [hid_none (own_free st.own hp), upd_same]))) (.cons (.str _) (.cons (.str _) (.cons (.str _) .nil)))⟩
theorem m1_join {z : Str} {ys : List Str} (hl : (ys.map (·.length)).sum + ys.length * z.length ≤ 16777216) (h : k (.dat (.str (Txt.join z ys))) O) : M1B X "str.join" z (.dat (.lst (ys.map .str))) O k := ⟨_, mt_join, fun H0 σ ρ H v st r Q q => by
  cases r with
  | lst h1 h2 =>
    have e := rpa_strs h2
    subst e
    exact ⟨z, _, ys, rfl, rfl, .inl (sql_at (hid_le _ _ h1)), hl, q _ H _ O h st (.str _)⟩⟩
theorem m1_joinT {z : Str} {ys : List Str} (hl : (ys.map (·.length)).sum + ys.length * z.length ≤ 16777216) (h : k (.dat (.str (Txt.join z ys))) O) : M1B X "str.join" z (.dat (.tup (ys.map .str))) O k := ⟨_, mt_join, fun H0 σ ρ H v st r Q q => by
  cases r with
  | tup h1 h2 =>
    have e := rpa_strs h2
    subst e
    exact ⟨z, _, ys, rfl, rfl, .inr (sqt_mono hid_le h1), hl, q _ H _ O h st (.str _)⟩⟩
theorem m1_find {z y : Str} (h : k (.dat (.int (Txt.find z y))) O) : M1B X "str.find" z (.dat (.str y)) O k := ⟨_, mt_find, fun H0 σ ρ H v st r Q q => by
  cases r; exact ⟨z, y, rfl, rfl, q _ H _ O h st (.int _)⟩⟩
/-! f-strings -/
theorem ew_fmt (h : EW X O ρ e x fun s O1 => (∃ z, s = .dat (.str z) ∧ z.length ≤ sizeLine ∧ k (.dat (.str z)) O1) ∨ ∃ i : Int, s = .dat (.int i) ∧ i.natAbs.log2 < 1920 ∧ k (.dat (.str (toString i))) O1) : EW X O ρ (.FormattedValue e (-1) none pos) x k := fun H0 σ H st tk Q q =>
  we_of (pe_fmt pe_w) (h H0 σ H st tk _ fun v H1 s O1 h1 st1 r1 => by
    rcases h1 with ⟨z, e1, h2, h3⟩ | ⟨i, e1, h2, h3⟩
    · subst e1
      cases r1
      exact .inl ⟨z, rfl, h2, q _ H1 _ O1 h3 st1 (.str _)⟩
    · subst e1
      cases r1
      exact .inr ⟨i, rfl, h2, q _ H1 _ O1 h3 st1 (.str _)⟩)
/-- the parts of an f-string, from the left; acc: what they come to so far -/
def JW (X : Cx) (ρ : List Slot) (x : ExK) (k : Str → Own → Prop) : List Expr → Str → Own → Prop
  | [], acc, O => k acc O
  | e :: es, acc, O => EW X O ρ e x fun s O1 => ∃ z, s = .dat (.str z) ∧ (acc ++ z).length ≤ sizeLine ∧ JW X ρ x k es (acc ++ z) O1
theorem pj_w : ∀ es : List Expr, PJ X es (es.map (We X))
  | [] => .nil
  | e :: es => .cons pe_w (pj_w es)
theorem tjs_of {ks : Str → Own → Prop} {H0 : Hp} {σ : SV} {Q : Str → Hp → Prop} (tk : Takes X (Wsem X.K H0 x)) (q : ∀ z H' O', ks z O' → StOk X.K H0 O' σ ρ H' → Q z H') :
    ∀ (es : List Expr) (acc : Str) (O : Own) (H : Hp), JW X ρ x ks es acc O → StOk X.K H0 O σ ρ H → tJs (es.map (We X)) acc σ H Q
  | [], acc, O, H, h, st => q acc H O h st
  | e :: es, acc, O, H, h, st => by
    have h : EW X O ρ e x fun s O1 => ∃ z, s = .dat (.str z) ∧ (acc ++ z).length ≤ sizeLine ∧ JW X ρ x ks es (acc ++ z) O1 := h
    refine h H0 σ H st tk _ fun v H1 s O1 ⟨z, e1, h1, h2⟩ st1 r1 => ?_
    subst e1
    cases r1
    exact ⟨z, rfl, h1, tjs_of tk q es (acc ++ z) O1 H1 h2 st1⟩
theorem ew_joined {v1 v2 : Expr} {rest : List Expr} (h : JW X ρ x (fun z O' => k (.dat (.str z)) O') (v1 :: v2 :: rest) Str.empty O) : EW X O ρ (.JoinedStr (v1 :: v2 :: rest) pos) x k := fun H0 σ H st tk Q q =>
  we_of (pe_joined (pj_w (v1 :: v2 :: rest))) (tjs_of tk (fun z H' O' hk st' => q (.str z) H' (.dat (.str z)) O' hk st' (Rp.str z)) _ _ O H h st)
theorem ew_joined1 (h : EW X O ρ e x k) : EW X O ρ (.JoinedStr [e] pos) x k := fun H0 σ H st tk Q q => we_of (pe_joined1 pe_w) (h H0 σ H st tk Q q)
/-! ### what is evaluated and changes nothing -/
def EV (X : Cx) (O : Own) (ρ : List Slot) (e : Expr) (x : ExK) (d : Dat) : Prop := EW X O ρ e x fun s O' => s = .dat d ∧ O' = O
def TV (X : Cx) (O : Own) (ρ : List Slot) (e : Expr) (x : ExK) (t : Bool) : Prop := TW X O ρ e x fun u O' => u = t ∧ O' = O
theorem ew_ev {d : Dat} (h : EV X O ρ e x d) (hk : k (.dat d) O) : EW X O ρ e x k := h.mono fun s O' ⟨e1, e2⟩ => by subst e1 e2; exact hk
theorem tw_tv {t : Bool} {kt : Bool → Own → Prop} (h : TV X O ρ e x t) (hk : kt t O) : TW X O ρ e x kt := h.mono fun s O' ⟨e1, e2⟩ => by subst e1 e2; exact hk
theorem ev_is {d d' : Dat} (h : EV X O ρ e x d) (e1 : d = d') : EV X O ρ e x d' := e1 ▸ h
theorem ev_if {t : Bool} {d1 d2 : Dat} (h : TV X O ρ c x t) (h1 : t = true → EV X O ρ a x d1) (h2 : t = false → EV X O ρ b x d2) : EV X O ρ (.IfExp c a b pos) x (bif t then d1 else d2) :=
  ew_if (h.mono fun u O' ⟨e1, e2⟩ => by
    subst e1 e2
    exact ⟨fun ht => (h1 ht).mono fun s O'' ⟨e3, e4⟩ => by subst e3 e4 ht; exact ⟨rfl, rfl⟩, fun ht => (h2 ht).mono fun s O'' ⟨e3, e4⟩ => by subst e3 e4 ht; exact ⟨rfl, rfl⟩⟩)
theorem ev_and {t u : Bool} (h : EV X O ρ a x (.bl t)) (h1 : t = true → EV X O ρ (.BoolOp .And (b :: es) pos) x (.bl u)) : EV X O ρ (.BoolOp .And (a :: b :: es) pos) x (.bl (t && u)) :=
  ew_and (h.mono fun s O' ⟨e1, e2⟩ => by
    subst e1 e2
    refine ⟨t, rfl, fun ht => ?_, fun ht => ?_⟩
    · subst ht; exact h1 rfl
    · subst ht; exact ⟨rfl, rfl⟩)
theorem ev_or {t u : Bool} (h : EV X O ρ a x (.bl t)) (h1 : t = false → EV X O ρ (.BoolOp .Or (b :: es) pos) x (.bl u)) : EV X O ρ (.BoolOp .Or (a :: b :: es) pos) x (.bl (t || u)) :=
  ew_or (h.mono fun s O' ⟨e1, e2⟩ => by
    subst e1 e2
    refine ⟨t, rfl, fun ht => ?_, fun ht => ?_⟩
    · subst ht; exact ⟨rfl, rfl⟩
    · subst ht; exact h1 rfl)
def TVw (X : Cx) (O : Own) (ρ : List Slot) (e : Expr) (x : ExK) (t : Bool) : Prop := TWw X O ρ e x fun u O' => u = t ∧ O' = O
theorem tv_w {t : Bool} (h : TVw X O ρ e x t) : TV X O ρ e x t := tw_w h
theorem tvw_and1 {t : Bool} (h : TV X O ρ a x t) : TVw X O ρ (.BoolOp .And [a] pos) x t := tww_and1 h
theorem tvw_or1 {t : Bool} (h : TV X O ρ a x t) : TVw X O ρ (.BoolOp .Or [a] pos) x t := tww_or1 h
theorem tvw_and {t u : Bool} (h : TV X O ρ a x t) (h1 : t = true → TVw X O ρ (.BoolOp .And (b :: es) pos) x u) : TVw X O ρ (.BoolOp .And (a :: b :: es) pos) x (t && u) :=
  tww_and (h.mono fun s O' ⟨e1, e2⟩ => by
    subst e1 e2
    refine ⟨fun ht => ?_, fun ht => ?_⟩
    · subst ht; exact h1 rfl
    · subst ht; exact ⟨rfl, rfl⟩)
theorem tvw_or {t u : Bool} (h : TV X O ρ a x t) (h1 : t = false → TVw X O ρ (.BoolOp .Or (b :: es) pos) x u) : TVw X O ρ (.BoolOp .Or (a :: b :: es) pos) x (t || u) :=
  tww_or (h.mono fun s O' ⟨e1, e2⟩ => by
    subst e1 e2
    refine ⟨fun ht => ?_, fun ht => ?_⟩
    · subst ht; exact ⟨rfl, rfl⟩
    · subst ht; exact h1 rfl)
theorem tv_not {t : Bool} (h : TV X O ρ a x t) : TV X O ρ (.UnaryOp .Not a pos) x (!t) := tw_not (h.mono fun s O' ⟨e1, e2⟩ => by subst e1 e2; exact ⟨rfl, rfl⟩)
/-! ### comprehensions whose parts change nothing -/
/-- [elt for tg in iter if ..] over data that ι tells of l: f the element, g whether it is taken -/
theorem ew_map {α : Type} (l : List α) (ι f : α → Dat) (g : α → Bool) (own : List (Str × Nat)) {elt tg iter : Expr} {ifs : List Expr} {scope : Scope} {T : Dat → List Slot → List Slot → Prop} (hN : X.N.Nodup) (tg_ok : Tgt X scope (own.map (·.2)) tg T) (ok : BlkOk X.N X.env.scope scope own)
    (hi : IW X O ρ tg iter x fun ds' O1 => ds' = l.map ι ∧ O1 = O) (hz : l.length ≤ sizeLine)
    (hb : ∀ d, d ∈ l → ∃ ρ', T (ι d) (wipeS ρ (own.map (·.2))) ρ' ∧ ∀ O' Y, Blk X scope Y → TsW Y O' ρ' ifs noX (fun t O2 => t = g d ∧ O2 = O') ∧ (g d = true → EV Y O' ρ' elt noX (f d)))
    (h : k (.dat (.lst ((l.filter g).map f))) O) (hc : X.calm = true := by rfl) (hs : ∀ x, foldedSetIterable iter X.env x = pure x := by intro _; rfl) : EW X O ρ (.ListComp elt [⟨tg, iter, ifs, 0⟩] scope pos) x k := by
  refine ew_frz (ew_lc own hN tg_ok ok (fun H0 σ H st tk R q => hi H0 σ H st tk R fun J H' ds' O1 ⟨e1, e2⟩ st' it => q J H' ds' O1 ?_ st' it) hc hs)
  subst e1 e2
  refine ⟨by rw [List.length_map]; exact hz, fun i acc O' => O' = O1 ∧ acc = (((l.take i).filter g).map f).map .dat, ⟨rfl, rfl⟩, fun i d0 acc O' hj hd0 => ?_, fun acc O' hj p hp => ?_⟩
  · obtain ⟨rfl, rfl⟩ := hj
    rw [List.getElem?_map] at hd0
    obtain ⟨d, hd, rfl⟩ := Option.map_eq_some_iff.mp hd0
    obtain ⟨ρ', ht, hb⟩ := hb d (List.mem_of_getElem? hd)
    refine ⟨ρ', ht, fun Dd nD Y hY => ?_⟩
    have htake : l.take (i + 1) = l.take i ++ [d] := by rw [List.take_add_one, hd]; rfl
    obtain ⟨h1, _⟩ := hb (up O' Dd (.lst ((((l.take i).filter g).map f).map .dat))) Y hY
    refine fun H0 σ H st tk Q q => h1 H0 σ H st tk Q fun t H' O2 ⟨e1, e2⟩ st2 => q t H' O2 ⟨fun ht => fun Z hZ => ?_, fun ht => ?_⟩ st2
    · subst e2
      have hg : g d = true := e1 ▸ ht
      refine ((hb (up O' Dd (.lst ((((l.take i).filter g).map f).map .dat))) Z hZ).2 hg).mono fun s O3 ⟨e3, e4⟩ => ?_
      subst e3 e4
      refine ⟨O', rfl, nD, rfl, ?_⟩
      rw [htake, List.filter_append, List.filter_cons_of_pos hg]
      simp
    · subst e2
      have hg : g d = false := e1 ▸ ht
      refine ⟨O', rfl, nD, rfl, ?_⟩
      rw [htake, List.filter_append, List.filter_cons_of_neg (by rw [hg]; exact Bool.false_ne_true)]
      simp
  · obtain ⟨rfl, rfl⟩ := hj
    refine ⟨p, (l.filter g).map f, rfl, by rw [List.length_map, List.take_length]; exact up_at, ?_⟩
    rw [dn_up hp]
    exact h
theorem filter_yes {α : Type} (l : List α) : l.filter (fun _ => true) = l := List.filter_eq_self.mpr fun _ _ => rfl
theorem ew_map1 {α : Type} (l : List α) (ι f : α → Dat) (own : List (Str × Nat)) {elt tg iter : Expr} {scope : Scope} {T : Dat → List Slot → List Slot → Prop} (hN : X.N.Nodup) (tg_ok : Tgt X scope (own.map (·.2)) tg T) (ok : BlkOk X.N X.env.scope scope own)
    (hi : IW X O ρ tg iter x fun ds' O1 => ds' = l.map ι ∧ O1 = O) (hz : l.length ≤ sizeLine)
    (hb : ∀ d, d ∈ l → ∃ ρ', T (ι d) (wipeS ρ (own.map (·.2))) ρ' ∧ ∀ O' Y, Blk X scope Y → EV Y O' ρ' elt noX (f d))
    (h : k (.dat (.lst (l.map f))) O) (hc : X.calm = true := by rfl) (hs : ∀ x, foldedSetIterable iter X.env x = pure x := by intro _; rfl) : EW X O ρ (.ListComp elt [⟨tg, iter, [], 0⟩] scope pos) x k :=
  ew_map l ι f (fun _ => true) own hN tg_ok ok hi hz (fun d hd => by
    obtain ⟨ρ', h1, h2⟩ := hb d hd
    exact ⟨ρ', h1, fun O' Y hY => ⟨tsw_nil ⟨rfl, rfl⟩, fun _ => h2 O' Y hY⟩⟩) (by rw [filter_yes]; exact h) hc hs
end
/-! ### methods by their names -/
section
variable {X : Cx} {O : Own} {ρ : List Slot} {x : ExK} {k : Slot → Own → Prop} {e a o : Expr} {es : List Expr} {apos cpos pos : Pos}
theorem ew_split (h : EW X O ρ o x fun s O1 => ∃ z, s = .dat (.str z) ∧ EW X O1 ρ e x fun s2 O2 => M1B X "str.split" z s2 O2 k) (hs : starEach [e] X.env = [(false, eval e X.env)] := by rfl) (hbase : attributeBase o "split" X.env (eval o X.env) = eval o X.env := by rfl) (hline : (apos.endLine == cpos.line) = true := by rfl) :
    EW X O ρ (.Call (.Attribute o "split" apos) [e] [] cpos) x k := ew_m1 PySem.F.slot_str_split PySem.F.type_str_split h hs hbase hline
theorem ew_join (h : EW X O ρ o x fun s O1 => ∃ z, s = .dat (.str z) ∧ EW X O1 ρ e x fun s2 O2 => M1B X "str.join" z s2 O2 k) (hs : starEach [e] X.env = [(false, eval e X.env)] := by rfl) (hbase : attributeBase o "join" X.env (eval o X.env) = eval o X.env := by rfl) (hline : (apos.endLine == cpos.line) = true := by rfl) :
    EW X O ρ (.Call (.Attribute o "join" apos) [e] [] cpos) x k := ew_m1 PySem.F.slot_str_join PySem.F.type_str_join h hs hbase hline
theorem ew_partition (h : EW X O ρ o x fun s O1 => ∃ z, s = .dat (.str z) ∧ EW X O1 ρ e x fun s2 O2 => M1B X "str.partition" z s2 O2 k) (hs : starEach [e] X.env = [(false, eval e X.env)] := by rfl) (hbase : attributeBase o "partition" X.env (eval o X.env) = eval o X.env := by rfl) (hline : (apos.endLine == cpos.line) = true := by rfl) :
    EW X O ρ (.Call (.Attribute o "partition" apos) [e] [] cpos) x k := ew_m1 PySem.F.slot_str_partition PySem.F.type_str_partition h hs hbase hline
theorem ew_find (h : EW X O ρ o x fun s O1 => ∃ z, s = .dat (.str z) ∧ EW X O1 ρ e x fun s2 O2 => M1B X "str.find" z s2 O2 k) (hs : starEach [e] X.env = [(false, eval e X.env)] := by rfl) (hbase : attributeBase o "find" X.env (eval o X.env) = eval o X.env := by rfl) (hline : (apos.endLine == cpos.line) = true := by rfl) :
    EW X O ρ (.Call (.Attribute o "find" apos) [e] [] cpos) x k := ew_m1 PySem.F.slot_str_find PySem.F.type_str_find h hs hbase hline
theorem few1 {env : Env} {cpos : Pos} {e : Expr} (hs : starEach [e] env = [(false, eval e env)]) : ((backTo cpos (starEach [e] env)).all (fun x => !x.1) && (backToKw cpos (keywordEach [] env)).all (fun x => x.1.isSome)
      && decide (([e] : List Expr).length + ([] : List Keyword).length + (if ([] : List Keyword).isEmpty then 0 else 1) < 30)) = true := by
  rw [hs]; rfl
theorem ew_lm {id : String} {name : Str} (slot : PySem.Slot "list" name id) (hty : typeOf (.builtin id) = pure (.type "method_descriptor"))
    (h : EW X O ρ o x fun s O1 => TyS "list" O1 s ∧ EW X O1 ρ e x fun s2 O2 => MtB X id s [s2] O2 k) (hs : starEach [e] X.env = [(false, eval e X.env)] := by rfl) (hbase : attributeBase o name X.env (eval o X.env) = eval o X.env := by rfl)
    (hline : (apos.endLine == cpos.line) = true := by rfl) : EW X O ρ (.Call (.Attribute o name apos) [e] [] cpos) x k :=
  ew_bm PySem.F.plainAttrs_list slot hty (h.mono fun s O1 ⟨h1, h2⟩ => ⟨h1, aw_cons (h2.mono fun s2 O2 h3 => aw_nil h3) hs⟩) hbase (few1 hs) hline hs rfl
theorem ew_append (h : EW X O ρ o x fun s O1 => TyS "list" O1 s ∧ EW X O1 ρ e x fun s2 O2 => MtB X "list.append" s [s2] O2 k) (hs : starEach [e] X.env = [(false, eval e X.env)] := by rfl) (hbase : attributeBase o "append" X.env (eval o X.env) = eval o X.env := by rfl)
    (hline : (apos.endLine == cpos.line) = true := by rfl) : EW X O ρ (.Call (.Attribute o "append" apos) [e] [] cpos) x k := ew_lm PySem.F.slot_list_append PySem.F.type_list_append h hs hbase hline
theorem ew_extend (h : EW X O ρ o x fun s O1 => TyS "list" O1 s ∧ EW X O1 ρ e x fun s2 O2 => MtB X "list.extend" s [s2] O2 k) (hs : starEach [e] X.env = [(false, eval e X.env)] := by rfl) (hbase : attributeBase o "extend" X.env (eval o X.env) = eval o X.env := by rfl)
    (hline : (apos.endLine == cpos.line) = true := by rfl) : EW X O ρ (.Call (.Attribute o "extend" apos) [e] [] cpos) x k := ew_lm PySem.F.slot_list_extend PySem.F.type_list_extend h hs hbase hline
theorem ew_index (h : EW X O ρ o x fun s O1 => TyS "list" O1 s ∧ EW X O1 ρ e x fun s2 O2 => MtB X "list.index" s [s2] O2 k) (hs : starEach [e] X.env = [(false, eval e X.env)] := by rfl) (hbase : attributeBase o "index" X.env (eval o X.env) = eval o X.env := by rfl)
    (hline : (apos.endLine == cpos.line) = true := by rfl) : EW X O ρ (.Call (.Attribute o "index" apos) [e] [] cpos) x k := ew_lm PySem.F.slot_list_index PySem.F.type_list_index h hs hbase hline
theorem ew_popAt (h : EW X O ρ o x fun s O1 => TyS "list" O1 s ∧ EW X O1 ρ e x fun s2 O2 => MtB X "list.pop" s [s2] O2 k) (hs : starEach [e] X.env = [(false, eval e X.env)] := by rfl) (hbase : attributeBase o "pop" X.env (eval o X.env) = eval o X.env := by rfl)
    (hline : (apos.endLine == cpos.line) = true := by rfl) : EW X O ρ (.Call (.Attribute o "pop" apos) [e] [] cpos) x k := ew_lm PySem.F.slot_list_pop PySem.F.type_list_pop h hs hbase hline
theorem ew_pop (h : EW X O ρ o x fun s O1 => TyS "list" O1 s ∧ MtB X "list.pop" s [] O1 k) (hbase : attributeBase o "pop" X.env (eval o X.env) = eval o X.env := by rfl)
    (hline : (apos.endLine == cpos.line) = true := by rfl) : EW X O ρ (.Call (.Attribute o "pop" apos) [] [] cpos) x k := ew_bm0 PySem.F.plainAttrs_list PySem.F.slot_list_pop PySem.F.type_list_pop h hbase hline
/-! a < b < c -/
theorem ew_chain {op op' : CmpOp} {b c : Expr} (h : EW X O ρ a x fun s1 O1 => EW X O1 ρ b x fun s2 O2 => OpB X (compareOp op) s1 s2 O2 fun s O3 => O3 = O2 ∧ ∃ t, s = .dat (.bl t) ∧ (t = true → EW X O3 ρ c x fun s3 O4 => OpB X (compareOp op') s2 s3 O4 k) ∧ (t = false → k (.dat (.bl false)) O3)) (hm : lastMarks [op, op'] [b, c] = false := by rfl) :
    EW X O ρ (.Compare a [op, op'] [b, c] pos) x k := fun H0 σ H st tk Q q => by
  have m1 : OpR X (compareOp op) (fun v1 v2 H2 Q => ∃ r, OpR X (compareOp op) r ∧ r v1 v2 H2 Q) := fun pins s σ H x y v u Q I rx ry ⟨r, ho, hr⟩ => ho pins s σ H x y v u Q I rx ry hr
  have m2 : OpR X (compareOp op') (fun v1 v2 H2 Q => ∃ r, OpR X (compareOp op') r ∧ r v1 v2 H2 Q) := fun pins s σ H x y v u Q I rx ry ⟨r, ho, hr⟩ => ho pins s σ H x y v u Q I rx ry hr
  refine we_of (pe_chain m1 m2 pe_w pe_w pe_w (hm := hm)) ?_
  refine h H0 σ H st tk _ fun v1 H1 s1 O1 h1 st1 r1 => h1 (hid O1 H1) σ H1 st1.top (takes_base tk st1.base) _ fun v2 H2 s2 O2 ⟨r, ho, hr⟩ st2 r2 => ⟨r, ho, ?_⟩
  have b2 := st1.base.trans st2.base
  refine hr (hid O2 H2) σ ρ H2 v1 v2 st2.top (SlOk.mono st2.base r1) r2 _ fun z H3 s O3 ⟨e3, t, e1, h3, h4⟩ st3 r3 => ?_
  subst e1 e3
  cases r3
  refine ⟨t, rfl, ?_⟩
  have st3' := st3.rebase b2
  cases t with
  | true =>
    refine iteT ((h3 rfl) (hid O3 H3) σ H3 st3.top (takes_base tk (b2.trans st3.base)) _ fun w' H4 s3 O4 ⟨r', ho', hr'⟩ st4 r4 => ⟨r', ho', ?_⟩)
    exact hr' H0 σ ρ H4 v2 w' (st4.rebase (b2.trans st3.base)) (SlOk.mono (st3.base.trans st4.base) r2) r4 Q q
  | false => exact iteF (q _ H3 _ O3 (h4 rfl) st3' (.bl false))
end
section
variable {X : Cx} {O : Own} {ρ : List Slot} {x : ExK} {kl : List Slot → Own → Prop} {o i : Expr} {pos : Pos} {s : Slot}
/-- o[i] = v, o a cell -/
theorem gw_set (h : EW X O ρ o x fun s1 O1 => EW X O1 ρ i x fun s2 O2 => ∃ p ss n j, s1 = .own p ∧ s2 = .dat (.int n) ∧ O2 p = some (.lst ss) ∧ ixN ss.length n = some j ∧ kl ρ (up O2 p (.lst (ss.set j s))))
    (ha : ∀ v, assign (.Subscript o i pos) X.env v = (do { let ov ← holding [v] (eval o X.env); let iv ← holding [v, ov] (eval i X.env); standAt pos; holding [v, ov, iv] (setItem ov iv v); release [v, ov, iv] [] }) := by intro _; rfl) : GW X O ρ (.Subscript o i pos) s x kl := fun H0 σ H v st r tk Q q => by
  refine wg_of (pg_sub pe_w pe_w set_list ha) (two h st.top (takes_base tk st.base) (Q := fun v1 v2 H2 => rSetL v1 v2 v H2 fun H3 => Q σ H3) fun v1 v2 s1 s2 O2 H2 hp st2 r1 r2 => ?_)
  obtain ⟨p, ss, n, j, e1, e2, h1, h2, h3⟩ := hp
  subst e1 e2
  obtain rfl : v1 = .ref p := r1
  cases r2
  obtain ⟨oo, h4, vs, rfl, h5⟩ := st2.own.cell p _ h1
  refine ⟨p, vs, n, j, rfl, rfl, h4, by rw [paired_len h5]; exact h2, q σ _ ρ _ h3 ((st2.rebase st.base).write h1 ⟨_, rfl, paired_set (SlOk.mono st2.base r) j h5⟩)⟩
end
end Kn
/-! KnH: isinstance of data, built-in classes as values. -/
namespace Kn
open PySem PySem.Spec PyProof.Rows
open L2 hiding St
section
variable {X : Cx} {O : Own} {ρ : List Slot} {x : ExK} {k : Slot → Own → Prop} {e a o : Expr} {es : List Expr} {apos cpos pos : Pos}
theorem ew_bltn {nm : Str} {n : String} (hm : X.mg nm = none) (hv : bootBuiltins nm = some (.type n)) (h : k (.dat (.ty n)) O) (hg : Gl X nm := by rfl) (hn : nm ≠ "__name__" := by decide) (hd : (nm == ("__debug__" : Str)) = false := by decide) : EW X O ρ (.Name nm pos) x k := fun H0 σ H st tk Q q =>
  we_of (pe_bltn (v := .ty n) hg hm hv rfl hn hd) (q _ H _ O h st (.ty n))
/-- a class of one's own as a value -/
theorem ew_cls {nm : Str} {C : Addr} (hm : X.mg nm = some (.ref C)) (h : k (.dat (.cls C)) O) (hg : Gl X nm := by rfl) (hd : (nm == ("__debug__" : Str)) = false := by decide) : EW X O ρ (.Name nm pos) x k := fun H0 σ H st tk Q q =>
  we_of (pe_glob (v := .ref C) hg hm rfl hd) (q _ H _ O h st (.cls C))
def tyName : Dat → String
  | .non => "NoneType"
  | .bl _ => "bool"
  | .int _ => "int"
  | .str _ => "str"
  | .lst _ => "list"
  | .fro _ => "list"
  | .tup _ => "tuple"
  | _ => ""
theorem tyX_of {K : PySem.W.Frag} {O : Own} {H : Hp} {v : V} {d : Dat} (p : tyName d ≠ "") (r : Rp K (hid O H) v d) : TyX K H v (.type (tyName d)) := by
  cases r with
  | non => exact .base .non
  | bl b => exact .base (.bl b)
  | int i => exact .base (.int i)
  | str z => exact .base (.str z)
  | lst h1 h2 => exact .base (.lst (hid_le _ _ h1))
  | fro h1 h2 =>
    rcases h1 with (h1 | ⟨ob, h1⟩) | ⟨ob, its, n, h1, h3, _⟩
    · exact .base (.lst (hid_le _ _ h1))
    · exact .base (.frz (hid_le _ _ h1))
    · exact .kList h1 h3
  | tup h1 h2 =>
    rcases h1 with (h1 | ⟨ob, h1⟩) | ⟨ob, its, n, h1, h3, _⟩
    · exact .base (.tup (hid_le _ _ h1))
    · exact .fTuple (hid_le _ _ h1)
    · exact .kTuple h1 h3
  | ins h1 h2 => exact absurd rfl p
  | cls C => exact absurd rfl p
  | ty n => exact absurd rfl p
  | exc h1 h2 => exact absurd rfl p
  | slo h1 h2 h3 h4 => exact absurd rfl p
  | tre h1 h2 h3 h4 h5 => exact absurd rfl p
theorem cb_isTy {d : Dat} {n : String} {t : Bool} (hk : kitB (tyName d) n = some t) (h : k (.dat (.bl t)) O) (hp : tyName d ≠ "" := by first | decide | assumption) : CaB X (.builtin "isinstance") [.dat d, .dat (.ty n)] O k := ⟨_, call_isi, fun H0 σ ρ H vs st pr Q q => by
  cases pr with
  | cons r1 pr =>
    cases pr with
    | cons r2 pr =>
      cases pr
      cases r2
      exact ⟨_, _, _, _, t, rfl, .ty n, tyX_of hp r1, kit_ty hk, q _ H _ O h st (.bl t)⟩⟩
def isStrD : Dat → Bool | .str _ => true | _ => false
def isLstD : Dat → Bool | .lst _ => true | .fro _ => true | _ => false
def isTupD : Dat → Bool | .tup _ => true | _ => false
def isIntD : Dat → Bool | .int _ => true | .bl _ => true | _ => false
def isBlD : Dat → Bool | .bl _ => true | _ => false
theorem kit_str {d : Dat} (hp : tyName d ≠ "") : kitB (tyName d) "str" = some (isStrD d) := by
  cases d <;> first | exact absurd rfl hp | exact (show kitB "NoneType" "str" = some false by decide +kernel) | exact (show kitB "bool" "str" = some false by decide +kernel) | exact (show kitB "int" "str" = some false by decide +kernel) | exact (show kitB "str" "str" = some true by decide +kernel) | exact (show kitB "list" "str" = some false by decide +kernel) | exact (show kitB "tuple" "str" = some false by decide +kernel)
theorem kit_lst {d : Dat} (hp : tyName d ≠ "") : kitB (tyName d) "list" = some (isLstD d) := by
  cases d <;> first | exact absurd rfl hp | exact (show kitB "NoneType" "list" = some false by decide +kernel) | exact (show kitB "bool" "list" = some false by decide +kernel) | exact (show kitB "int" "list" = some false by decide +kernel) | exact (show kitB "str" "list" = some false by decide +kernel) | exact (show kitB "list" "list" = some true by decide +kernel) | exact (show kitB "tuple" "list" = some false by decide +kernel)
theorem kit_tup {d : Dat} (hp : tyName d ≠ "") : kitB (tyName d) "tuple" = some (isTupD d) := by
  cases d <;> first | exact absurd rfl hp | exact (show kitB "NoneType" "tuple" = some false by decide +kernel) | exact (show kitB "bool" "tuple" = some false by decide +kernel) | exact (show kitB "int" "tuple" = some false by decide +kernel) | exact (show kitB "str" "tuple" = some false by decide +kernel) | exact (show kitB "list" "tuple" = some false by decide +kernel) | exact (show kitB "tuple" "tuple" = some true by decide +kernel)
theorem kit_int {d : Dat} (hp : tyName d ≠ "") : kitB (tyName d) "int" = some (isIntD d) := by
  cases d <;> first | exact absurd rfl hp | exact (show kitB "NoneType" "int" = some false by decide +kernel) | exact (show kitB "bool" "int" = some true by decide +kernel) | exact (show kitB "int" "int" = some true by decide +kernel) | exact (show kitB "str" "int" = some false by decide +kernel) | exact (show kitB "list" "int" = some false by decide +kernel) | exact (show kitB "tuple" "int" = some false by decide +kernel)
theorem kit_bool {d : Dat} (hp : tyName d ≠ "") : kitB (tyName d) "bool" = some (isBlD d) := by
  cases d <;> first | exact absurd rfl hp | exact (show kitB "NoneType" "bool" = some false by decide +kernel) | exact (show kitB "bool" "bool" = some true by decide +kernel) | exact (show kitB "int" "bool" = some false by decide +kernel) | exact (show kitB "str" "bool" = some false by decide +kernel) | exact (show kitB "list" "bool" = some false by decide +kernel) | exact (show kitB "tuple" "bool" = some false by decide +kernel)
end
end Kn
/-! KnW: the program's words: what names, figures are; plain. -/
namespace Kn
open PySem PySem.Spec PyProof.Rows
open L2 hiding St
/-! built-ins by their names -/
theorem bt_abs : bootBuiltins "abs" = some (.builtin "abs") := by decide +kernel
theorem bt_max : bootBuiltins "max" = some (.builtin "max") := by decide +kernel
theorem bt_min : bootBuiltins "min" = some (.builtin "min") := by decide +kernel
theorem bt_len : bootBuiltins "len" = some (.builtin "len") := by decide +kernel
theorem bt_all : bootBuiltins "all" = some (.builtin "all") := by decide +kernel
theorem bt_any : bootBuiltins "any" = some (.builtin "any") := by decide +kernel
theorem bt_repr : bootBuiltins "repr" = some (.builtin "repr") := by decide +kernel
theorem bt_isinstance : bootBuiltins "isinstance" = some (.builtin "isinstance") := by decide +kernel
theorem bt_sorted : bootBuiltins "sorted" = some (.builtin "sorted") := by decide +kernel
theorem bt_sum : bootBuiltins "sum" = some (.builtin "sum") := by decide +kernel
theorem bt_hash : bootBuiltins "hash" = some (.builtin "hash") := by decide +kernel
theorem bt_int : bootBuiltins "int" = some (.type "int") := by decide +kernel
theorem bt_str : bootBuiltins "str" = some (.type "str") := by decide +kernel
theorem bt_list : bootBuiltins "list" = some (.type "list") := by decide +kernel
theorem bt_tuple : bootBuiltins "tuple" = some (.type "tuple") := by decide +kernel
theorem bt_set : bootBuiltins "set" = some (.type "set") := by decide +kernel
theorem bt_bool : bootBuiltins "bool" = some (.type "bool") := by decide +kernel
theorem bt_dict : bootBuiltins "dict" = some (.type "dict") := by decide +kernel
def sgs (z : Str) : List Nat := z.cps.toList
theorem sgs_len (z : Str) : z.length = (sgs z).length := TL.len_tl z
theorem sgs_ext {y z : Str} (h : sgs y = sgs z) : y = z := TL.ext_tl h
theorem sgs_app (y z : Str) : sgs (y ++ z) = sgs y ++ sgs z := TL.tl_append y z
theorem len_app (y z : Str) : (y ++ z).length = y.length + z.length := by rw [sgs_len, sgs_app, List.length_append, ← sgs_len, ← sgs_len]
/-- value made of letters, at most m of them -/
def madeOf (z L : Str) (m : Nat) : Bool := decide (0 < z.length) && (decide (z.length ≤ m) && (sgs z).all fun c => decide (c ∈ sgs L))
def madeD (d : Dat) (L : Str) (m : Nat) : Bool := match d with
  | .str z => madeOf z L m
  | _ => false
def ltrs : Str := "abcdefghijklmnopqrstuvwxyz"
def digs : Str := "0123456789"
def takenW : List Str := ["any", "other", "where"]
def isNm (z : Str) : Bool := madeOf z ltrs 8 && !(takenW.any (· == z))
def isNmD (d : Dat) : Bool := match d with
  | .str z => isNm z
  | _ => false
/-- a figure -/
def figL (l : List Nat) : Bool := decide (l = [48]) || decide (l.head? ≠ some 48)
def isFg (z : Str) : Bool := madeOf z digs 12 && figL (sgs z)
def isFgD (d : Dat) : Bool := match d with
  | .str z => isFg z
  | _ => false
theorem madeOf_pos {z L : Str} {m : Nat} (h : madeOf z L m = true) : 0 < z.length ∧ z.length ≤ m ∧ ∀ c ∈ sgs z, c ∈ sgs L := by
  unfold madeOf at h
  simp only [Bool.and_eq_true, decide_eq_true_eq, List.all_eq_true] at h
  exact ⟨h.1, h.2.1, h.2.2⟩
theorem madeOf_of {z L : Str} {m : Nat} (h1 : 0 < z.length) (h2 : z.length ≤ m) (h3 : ∀ c ∈ sgs z, c ∈ sgs L) : madeOf z L m = true := by
  unfold madeOf
  simp only [Bool.and_eq_true, decide_eq_true_eq, List.all_eq_true]
  exact ⟨h1, h2, h3⟩
def wordsS (z : Str) : List Str := if z = "" then [] else Txt.split z " "
/-- the digits' value -/
def figV (z : Str) : Int := ((NumText.digitsVal (sgs z) : Nat) : Int)
theorem digs_mem {c : Nat} : c ∈ sgs digs ↔ 48 ≤ c ∧ c ≤ 57 := by
  have e : sgs digs = [48, 49, 50, 51, 52, 53, 54, 55, 56, 57] := by decide +kernel
  rw [e]
  simp only [List.mem_cons, List.not_mem_nil, or_false]
  omega
theorem ltrs_mem {c : Nat} : c ∈ sgs ltrs ↔ 97 ≤ c ∧ c ≤ 122 := by
  have e : sgs ltrs = [97, 98, 99, 100, 101, 102, 103, 104, 105, 106, 107, 108, 109, 110, 111, 112, 113, 114, 115, 116, 117, 118, 119, 120, 121, 122] := by decide +kernel
  rw [e]
  simp only [List.mem_cons, List.not_mem_nil, or_false]
  omega
theorem fig_int {z : Str} (h : isFg z = true) : PySem.intText? z = some (figV z) ∧ z.length ≤ 12 := by
  obtain ⟨h1, h2, h3⟩ := madeOf_pos (Bool.and_eq_true_iff.mp h).1
  refine ⟨PySem.intText_digits (fun c hc => digs_mem.mp (h3 c hc)) (fun e => ?_) (by omega), h2⟩
  rw [sgs_len] at h1
  rw [show sgs z = [] from e] at h1
  exact absurd h1 (Nat.lt_irrefl 0)
theorem fig_zero {z : Str} (h : z = "0") : figL (sgs z) = true := by
  subst h
  decide +kernel
theorem one_str {c : Nat} {s : String} {n : Nat} (e : sgs (Str.ofString s) = [n]) : decide ((⟨#[c]⟩ : Str) = Str.ofString s) = decide (c = n) := by
  by_cases h : c = n
  · have e1 : (⟨#[c]⟩ : Str) = Str.ofString s := sgs_ext (by rw [e, h]; rfl)
    rw [decide_eq_true e1, decide_eq_true h]
  · have e1 : ¬ (⟨#[c]⟩ : Str) = Str.ofString s := fun q => by
      have q2 := congrArg sgs q
      rw [e] at q2
      have q3 : [c] = [n] := q2
      exact h (List.cons.inj q3).1
    rw [decide_eq_false e1, decide_eq_false h]
theorem fig_first {z : Str} (hm : madeOf z digs 12 = true) (h : ¬ z = "0") : ∃ c, atI z.cps.toList 0 = some c ∧ figL (sgs z) = !decide ((⟨#[c]⟩ : Str) = "0") := by
  obtain ⟨h1, _, _⟩ := madeOf_pos hm
  cases hz : sgs z with
  | nil =>
    rw [sgs_len, hz] at h1
    exact absurd h1 (Nat.lt_irrefl 0)
  | cons c r =>
    refine ⟨c, ?_, ?_⟩
    · rw [show z.cps.toList = c :: r from hz]
      exact atI_nat (j := 0) rfl
    · rw [one_str (n := 48) (by decide +kernel)]
      have e : ¬ (c :: r) = [48] := fun q => h (sgs_ext (by rw [hz, q]; decide +kernel))
      show (decide ((c :: r) = [48]) || decide (some c ≠ some 48)) = _
      rw [decide_eq_false e, Bool.false_or]
      by_cases hc : c = 48
      · rw [hc]; rfl
      · rw [decide_eq_false hc]
        exact decide_eq_true fun q => hc (Option.some.inj q)
section
variable {X : Cx} {O : Own} {k : Slot → Own → Prop}
theorem cb_allF {α : Type} {l : List α} {g : α → Bool} (hc : X.calm = true) (h : k (.dat (.bl (l.all g))) O) : CaB X (.builtin "all") [.dat (.lst (l.map fun a => Dat.bl (g a)))] O k := by
  have e : (l.map fun a => Dat.bl (g a)) = (l.map g).map .bl := by rw [List.map_map]; rfl
  rw [e]
  refine cb_all hc ?_
  rw [List.all_map]
  exact h
theorem cb_anyF {α : Type} {l : List α} {g : α → Bool} (hc : X.calm = true) (h : k (.dat (.bl (l.any g))) O) : CaB X (.builtin "any") [.dat (.lst (l.map fun a => Dat.bl (g a)))] O k := by
  have e : (l.map fun a => Dat.bl (g a)) = (l.map g).map .bl := by rw [List.map_map]; rfl
  rw [e]
  refine cb_any hc ?_
  rw [List.any_map]
  exact h
end
/-! ### texts split and joined -/
theorem join_len (y : Str) : ∀ ws : List Str, ws ≠ [] → (Txt.join y ws).length + y.length = (ws.map (·.length)).sum + ws.length * y.length := by
  intro ws
  rw [TL.join_eq]
  induction ws with
  | nil => intro h; exact absurd rfl h
  | cons a r ih =>
    intro _
    cases r with
    | nil =>
      show a.length + y.length = (a.length + 0) + 1 * y.length
      omega
    | cons b r =>
      have e := ih (List.cons_ne_nil b r)
      show (a ++ y ++ Str.join y (b :: r)).length + y.length = (a.length + ((b :: r).map (·.length)).sum) + ((b :: r).length + 1) * y.length
      rw [len_app, len_app, Nat.succ_mul]
      omega
theorem split_ne (z y : Str) : Txt.split z y ≠ [] := by
  unfold Txt.split
  split
  · exact List.cons_ne_nil _ _
  · split
    · exact List.cons_ne_nil _ _
    · intro e
      have h := congrArg List.length e
      rw [PySem.length_partsBetween] at h
      exact absurd h (Nat.succ_ne_zero _)
theorem join_split (z y : Str) (hy : (y.length == 0) = false) : Txt.join y (Txt.split z y) = z := by
  unfold Txt.split
  split
  · rfl
  · split
    · rfl
    · exact PySem.StrLaws.glued_between_self _ _ _
theorem split_sum (z y : Str) (hy : (y.length == 0) = false) : z.length + y.length = ((Txt.split z y).map (·.length)).sum + (Txt.split z y).length * y.length := by
  have h := join_len y (Txt.split z y) (split_ne z y)
  rw [join_split z y hy] at h
  exact h
theorem mem_sum {l : List Str} {w : Str} (h : w ∈ l) : w.length ≤ (l.map (·.length)).sum := by
  induction l with
  | nil => cases h
  | cons a r ih =>
    show w.length ≤ a.length + (r.map (·.length)).sum
    rcases List.mem_cons.mp h with e | e
    · rw [e]; omega
    · have := ih e
      omega
theorem sp1 : (Str.ofString " ").length = 1 := by decide +kernel
/-- what a text's words come to -/
theorem words_sum (z : Str) : z.length + 1 = ((Txt.split z " ").map (·.length)).sum + (Txt.split z " ").length := by
  have h := split_sum z " " (by decide +kernel)
  rw [sp1, Nat.mul_one] at h
  exact h
theorem word_len {z w : Str} (h : w ∈ Txt.split z " ") : w.length ≤ z.length := by
  have h1 := words_sum z
  have h2 := mem_sum h
  have h3 : 0 < (Txt.split z " ").length := List.length_pos_iff.mpr (split_ne z " ")
  omega
theorem findIdx_at {α : Type} {p : α → Bool} : ∀ {l : List α} {i : Nat} {y : α}, l[i]? = some y → p y = true → (∀ x ∈ l.take i, p x = false) → l.findIdx? p = some i
  | [], i, y, h, _, _ => by cases h
  | a :: l, 0, y, h, hp, _ => by
    cases h
    rw [List.findIdx?_cons, hp]; rfl
  | a :: l, i + 1, y, h, hp, hb => by
    have ha := hb a (by rw [List.take_succ_cons]; exact List.mem_cons_self)
    have e := findIdx_at (l := l) (i := i) (y := y) h hp fun x hx => hb x (by rw [List.take_succ_cons]; exact List.mem_cons_of_mem _ hx)
    rw [List.findIdx?_cons, ha, e]; rfl
theorem findIdx_no {α : Type} {p : α → Bool} {l : List α} (hb : ∀ x ∈ l, p x = false) : l.findIdx? p = none := List.findIdx?_eq_none_iff.mpr hb
/-! ### events -/
abbrev Ev := Option (Str × Int)
def evD : Ev → Dat
  | none => .tup [.str "close"]
  | some (n, m) => .tup [.str "open", .str n, .int m]
def evR : Option Ev → Dat
  | none => .non
  | some e => evD e
def evS (z : Str) : Option Ev := if z = "/" then some none else if isNm (Txt.partition z ":").1 && (!decide ((Txt.partition z ":").2.1 = "") && isFg (Txt.partition z ":").2.2) then some (some ((Txt.partition z ":").1, figV (Txt.partition z ":").2.2)) else none
def wordE : Ev → Str
  | none => "/"
  | some (n, m) => n ++ ":" ++ (toString m : String)
def textE (es : List Ev) : Str := Txt.join " " (es.map wordE)
/-- marks and names that stay small -/
def smallE : Ev → Prop
  | none => True
  | some (n, m) => n.length ≤ 100 ∧ 0 ≤ m ∧ m < 10 ^ 100
/-- what may be asked for its kind -/
def okD (d : Dat) : Prop := tyName d ≠ "" ∧ ∀ z, d = .str z → z.length ≤ 100000
theorem okD_str {z : Str} (h : z.length ≤ 100000) : okD (.str z) := ⟨(show "str" ≠ "" by decide), fun y e => by cases e; exact h⟩
def SplitS : SpecT := fun ss O R => ∃ z : Str, ss = [.dat (.str z)] ∧ z.length ≤ 100000 ∧ R (.ret (.dat (.lst ((wordsS z).map .str)))) O
def MadeS : SpecT := fun ss O R => ∃ (d : Dat) (L : Str) (m : Nat), ss = [.dat d, .dat (.str L), .dat (.int (m : Int))] ∧ okD d ∧ R (.ret (.dat (.bl (madeD d L m)))) O
def NameS : SpecT := fun ss O R => ∃ d : Dat, ss = [.dat d] ∧ okD d ∧ R (.ret (.dat (.bl (isNmD d)))) O
def FigS : SpecT := fun ss O R => ∃ d : Dat, ss = [.dat d] ∧ okD d ∧ R (.ret (.dat (.bl (isFgD d)))) O
/-- own_copy of what is no list and no tuple -/
def Own0S : SpecT := fun ss O R => ∃ d : Dat, ss = [.dat d] ∧ tyName d ≠ "" ∧ isLstD d = false ∧ isTupD d = false ∧ R (.ret (.dat d)) O
end Kn
/-! KnI: what the written part holds, by names; the law's own end. -/
namespace Kn
open PySem PySem.Spec PyProof.Rows
open L2 hiding St
/-! ### cells that nobody needs any more -/
def Sub (O' O : Own) : Prop := ∀ p c, O' p = some c → O p = some c
theorem Sub.refl {O : Own} : Sub O O := fun _ _ h => h
theorem Sub.trans {O1 O2 O3 : Own} (h : Sub O1 O2) (h' : Sub O2 O3) : Sub O1 O3 := fun p c e => h' p c (h p c e)
theorem Sub.up {O : Own} {p : Addr} {c : Cell} (h : O p = none) : Sub O (up O p c) := fun q d e => by
  rw [up_ne (own_ne e h)]; exact e
theorem Sub.upw {O' O : Own} {p : Addr} {c : Cell} (h : Sub O' O) (n : O' p = none) : Sub O' (Kn.up O p c) := fun q d e => by
  rw [up_ne (own_ne e n)]; exact h q d e
theorem Sub.ups {O' O : Own} {p : Addr} {c : Cell} (h : Sub O' O) : Sub (Kn.up O' p c) (Kn.up O p c) := fun q d e => by
  by_cases z : q = p
  · subst z
    rw [up_at] at e ⊢
    exact e
  · rw [up_ne z] at e ⊢
    exact h q d e
theorem Sub.none {O' O : Own} {p : Addr} (h : Sub O' O) (n : O p = none) : O' p = none := by
  cases e : O' p with
  | none => rfl
  | some c => rw [h p c e] at n; cases n
theorem hid_sub {O' O : Own} {H : Hp} (h : Sub O' O) : Same (hid O H) (hid O' H) := fun b o e => by
  obtain ⟨h1, h2⟩ := of_hid e
  rw [hid_none (h.none h1)]
  exact h2
section
variable {K : PySem.W.Frag} {H0 H : Hp} {O O' : Own} {σ : SV} {ρ : List Slot}
theorem OwnOk.sub (h : OwnOk K O H) (s : Sub O' O) : OwnOk K O' H := ⟨fun p c e => by
  obtain ⟨o, h1, h2⟩ := h.cell p c (s p c e)
  exact ⟨o, h1, ClOk.mono (hid_sub s) h2⟩⟩
theorem StOk.sub (h : StOk K H0 O σ ρ H) (s : Sub O' O) : StOk K H0 O' σ ρ H := ⟨h.own.sub s, h.base.trans (hid_sub s), pmap (fun _ _ q => EnvOk.mono (hid_sub s) q) h.env⟩
theorem ExOk.sub {cls : Value} {d : Option Addr} {e : Exn} (h : ExOk K O H cls d e) (s : Sub O' O) : ExOk K O' H cls d e := by
  cases e with
  | own C fs =>
    obtain ⟨h1, dx, fv, h2, h3, h4, h5⟩ := h
    exact ⟨h1, dx, fv, h2, s.none h3, h4, RpF.mono (hid_sub s) h5⟩
  | ty n => exact h
end
/-- .. forgotten at the way out -/
def drX (x : ExK) : ExK := fun e ρ O => ∃ O', Sub O' O ∧ x e ρ O'
def drR (r : Slot → Own → Prop) : Slot → Own → Prop := fun z O => ∃ O', Sub O' O ∧ r z O'
def drN (r : List Slot → Own → Prop) : List Slot → Own → Prop := fun z O => ∃ O', Sub O' O ∧ r z O'
section
variable {X : Cx} {O : Own} {ρ : List Slot} {x : ExK} {D : SD} {sts : List Stmt} {e : Expr} {k : Slot → Own → Prop}
theorem takes_dr {H0 : Hp} (t : Takes X (Wsem X.K H0 x)) : Takes X (Wsem X.K H0 (drX x)) := t.imp fun _ _ _ _ ⟨e, ρ, O, ⟨O', s, h1⟩, h2, h3⟩ => ⟨e, ρ, O', h1, h2.sub s, h3.sub s⟩
theorem sw_drop (h : SW X O ρ sts (drX x) { nx := drN D.nx, rt := drR D.rt, bk := drN D.bk, ct := drN D.ct }) : SW X O ρ sts x D := fun H0 σ H st tk E ok =>
  h H0 σ H st (takes_dr tk) E ⟨fun σ ρ O H ⟨O', s, q⟩ z => ok.nx σ ρ O' H q (z.sub s), fun v z O H ⟨O', s, q⟩ o b r => ok.rt v z O' H q (o.sub s) (b.trans (hid_sub s)) (SlOk.mono (hid_sub s) r), fun σ ρ O H ⟨O', s, q⟩ z => ok.bk σ ρ O' H q (z.sub s), fun σ ρ O H ⟨O', s, q⟩ z => ok.ct σ ρ O' H q (z.sub s)⟩
theorem ew_drop (h : EW X O ρ e (drX x) (drR k)) : EW X O ρ e x k := fun H0 σ H st tk Q q =>
  h H0 σ H st (takes_dr tk) Q fun v H' s O1 ⟨O2, z, h2⟩ st1 r1 => q v H' s O2 h2 (st1.sub z) (SlOk.mono (hid_sub z) r1)
end
/-! ### exceptions with one field -/
def Ini1 (okI : Dat → Prop) (C : Addr) (f : Str) : SpecT := fun ss O R => ∃ (a : Addr) (d : Dat), ss = [.own a, .dat d] ∧ okI d ∧ O a = some (.exo C none) ∧ ∀ dx, O dx = none → R (.ret (.dat .non)) (up (up O dx (.exd [(f, .dat d)])) a (.exo C (some dx)))
theorem raised1 {okI : Dat → Prop} {C : Addr} {f : Str} {d : Dat} {x : ExK} {ρ : List Slot} {O : Own} (hd : okI d) (h : x (.own C [(f, d)]) ρ O) : MkEx C (Ini1 okI C f) x ρ [.dat d] O := by
  refine ⟨(show 1 ≤ 1000 by decide), fun a ha => ⟨a, d, rfl, hd, up_at, fun dx nd => ⟨_, rfl, rfl, dx, [(f, d)], up_at, ?_, ?_, ?_⟩⟩⟩
  · have na : dx ≠ a := fun e => by rw [e, up_at] at nd; cases nd
    rw [up_ne na, up_at]
    rfl
  · have na : dx ≠ a := fun e => by rw [e, up_at] at nd; cases nd
    rw [up_ne na] at nd
    exact nd
  · have na : dx ≠ a := fun e => by rw [e, up_at] at nd; cases nd
    have nd' := nd
    rw [up_ne na] at nd'
    have e : dn (dn (up (up (up O a (.exo C none)) dx (.exd [(f, .dat d)])) a (.exo C (some dx))) a) dx = O := by
      funext b
      by_cases e1 : b = dx
      · subst e1; rw [dn_at, nd']
      · rw [dn_ne e1]
        by_cases e2 : b = a
        · subst e2; rw [dn_at, ha]
        · rw [dn_ne e2, up_ne e2, up_ne e1, up_ne e2]
    rw [e]
    exact h
/-- mg is what the written part says of the module's names -/
def TopOf (K : PySem.W.Frag) (mg : Str → Option Value) : Prop := ∃ h : Heap, K.In h ∧ h.Ns mainGlobals mg
theorem TopOf.no {K : PySem.W.Frag} {mg : Str → Option Value} {nm : Str} (T : TopOf K mg) (e : PySem.W.nsIn K mainGlobals nm = some none) : mg nm = none := by
  obtain ⟨h, h1, h2⟩ := T
  exact PySem.W.mg_none_of h1 h2 e
theorem TopOf.is {K : PySem.W.Frag} {mg : Str → Option Value} {nm : Str} {v : Value} (T : TopOf K mg) (e : PySem.W.nsIn K mainGlobals nm = some (some v)) : mg nm = some v := by
  obtain ⟨h, h1, h2⟩ := T
  exact PySem.W.mg_of h1 h2 e
/-- a def without defaults under its name -/
structure DefIn (K : PySem.W.Frag) (nm : Str) (st : Stmt) : Prop where
  ex : ∃ (f : Addr) (fd : FuncData), PySem.W.nsIn K mainGlobals nm = some (some (.ref f)) ∧ L2.Fun K nm nm st f fd
theorem def_in {K : PySem.W.Frag} {nm : Str} {st : Stmt} {f : Addr} {oc : Value} {od an : Option Addr} {osl : Array (Option Value)} {kV doc pm cdv ct : Value} (a : PySem.W.nsIn K mainGlobals nm = some (some (.ref f)))
    (l : K.lookup f = some ⟨oc, od, .func (PySem.W.fnOf nm nm (defArgs st) (defBody st) (defScope st) .none kV doc pm an cdv ct), osl⟩) (c : PySem.W.codeIn K cdv nm = true) (k : PySem.W.keepIn K (.ref f) = true) : DefIn K nm st :=
  ⟨f, _, a, fun_mk l c k⟩
/-- how the arguments of a def of n parameters bind -/
def BindsAs (nm : Str) (st : Stmt) (ps : List Str) : Prop := ∀ (kV doc pm : Value) (an : Option Addr) (cdv ct : Value) (us : List Value), us.length = ps.length →
  bindArgs (PySem.W.fnOf nm nm (defArgs st) (defBody st) (defScope st) .none kV doc pm an cdv ct) ⟨us, []⟩ = pure (ps.zip us)
/-- a text, a tuple of texts under a module's name -/
def TextIn (K : PySem.W.Frag) (nm z : Str) : Prop := ∃ t, PySem.W.nsIn K mainGlobals nm = some (some (.str z t))
theorem text_in {K : PySem.W.Frag} {nm y z : Str} {t : Tok} (a : PySem.W.nsIn K mainGlobals nm = some (some (.str y t))) (e : y = z) : TextIn K nm z := ⟨t, by rw [← e]; exact a⟩
theorem TextIn.glob {K : PySem.W.Frag} {mg : Str → Option Value} {nm z : Str} (h : TextIn K nm z) (T : TopOf K mg) : GlobD K mg nm (.str z) := by
  obtain ⟨t, a⟩ := h
  exact ⟨.str z, .str z t, T.is a, ⟨t, rfl⟩, fun G => .str z⟩
def strsOf : List Value → Option (List Str)
  | [] => some []
  | .str z _ :: r => (strsOf r).map (z :: ·)
  | _ :: _ => none
theorem vals_strsOf : ∀ {us : List Value} {zs : List Str}, strsOf us = some zs → Vals (zs.map V.str) us
  | [], zs, h => by cases h; exact .nil
  | u :: us, zs, h => by
    cases u with
    | str z t =>
      cases q : strsOf us with
      | none =>
        unfold strsOf at h
        rw [q] at h; cases h
      | some ys =>
        unfold strsOf at h
        rw [q] at h; cases h
        exact .cons ⟨t, rfl⟩ (vals_strsOf q)
    | _ => cases h
def TextsIn (K : PySem.W.Frag) (nm : Str) (zs : List Str) : Prop := ∃ (a : Addr) (od : Option Addr) (its : Array Value) (n : Nat) (sl : Array (Option Value)), PySem.W.nsIn K mainGlobals nm = some (some (.ref a)) ∧ K.lookup a = some ⟨.type "tuple", od, .seq its n, sl⟩ ∧ its.size ≤ sizeLine ∧ strsOf its.toList = some zs
theorem texts_in {K : PySem.W.Frag} {nm : Str} {zs : List Str} {a : Addr} {od : Option Addr} {its : Array Value} {n : Nat} {sl : Array (Option Value)} (h : PySem.W.nsIn K mainGlobals nm = some (some (.ref a))) (l : K.lookup a = some ⟨.type "tuple", od, .seq its n, sl⟩) (z : its.size ≤ sizeLine) (e : strsOf its.toList = some zs) : TextsIn K nm zs :=
  ⟨a, od, its, n, sl, h, l, z, e⟩
theorem TextsIn.glob {K : PySem.W.Frag} {mg : Str → Option Value} {nm : Str} {zs : List Str} (h : TextsIn K nm zs) (T : TopOf K mg) : GlobD K mg nm (.tup (zs.map .str)) := by
  obtain ⟨a, od, its, n, sl, h1, h2, h3, h4⟩ := h
  exact ⟨.ref a, .ref a, T.is h1, rfl, fun G => .tup (xs := zs.map V.str) (.inr ⟨_, its, n, h2, rfl, rfl, h3, vals_strsOf h4⟩) (strs_rp zs)⟩
/-- an exception class of one's own with an __init__ of its own -/
structure ExcAt (K : PySem.W.Frag) (nm qual : Str) (st : Stmt) (C : Addr) : Prop where
  at_ : PySem.W.nsIn K mainGlobals nm = some (some (.ref C))
  oex : OexC K C
  ini : ∃ f fd, PySem.W.findIn K (.ref C) "__init__" = some (some (.ref f)) ∧ PySem.W.typeIn K (.ref f) = some (.type "function") ∧ L2.Fun K "__init__" qual st f fd
theorem exc_at {K : PySem.W.Frag} {nm qual cn cq : Str} {st : Stmt} {C f N : Addr} {bs bm sub : List Value} {sn : List Str} {ab : Bool} {col : Option Bool} {dd od an : Option Addr} {k0 k1 k2 k3 k5 : Option Value} {oc kV doc pm cdv ct : Value} {osl : Array (Option Value)}
    (h1 : PySem.W.nsIn K mainGlobals nm = some (some (.ref C))) (h2 : K.lookup C = some (excClassObj cn cq C N bs bm true sn sub ab col dd k0 k1 k2 k3 k5 "ValueError.__new__")) (h3 : PySem.HandSPX.refsVE bm = true)
    (h4 : PySem.W.findIn K (.ref C) "__setattr__" = some (some (.builtin "object.__setattr__"))) (h5 : PySem.W.subIn K (.ref C) (.type "BaseException") = some true) (h6 : PySem.W.typeIn K (.ref C) = some (.type "type")) (h7 : PySem.W.keepIn K (.ref C) = true)
    (h8 : PySem.W.findIn K (.ref C) "__init__" = some (some (.ref f))) (h9 : PySem.W.typeIn K (.ref f) = some (.type "function"))
    (l : K.lookup f = some ⟨oc, od, .func (PySem.W.fnOf "__init__" qual (defArgs st) (defBody st) (defScope st) .none kV doc pm an cdv ct), osl⟩) (c : PySem.W.codeIn K cdv qual = true) (k : PySem.W.keepIn K (.ref f) = true) : ExcAt K nm qual st C :=
  ⟨h1, ⟨⟨cn, cq, N, bs, bm, sn, sub, ab, col, dd, k0, k1, k2, k3, k5, h2, h3⟩, h4, h5, h6, h7⟩, f, _, h8, h9, fun_mk l c k⟩
/-- .. with all that is asked of it where it is caught; B: the class that it is derived from -/
structure ExcIn (K : PySem.W.Frag) (nm qual bn : Str) (st : Stmt) (C B : Addr) : Prop where
  a : ExcAt K nm qual st C
  xf : XfC K C
  ec : ExcC K C
  own : PySem.W.subIn K (.ref C) (.ref C) = some true
  bat : PySem.W.nsIn K mainGlobals bn = some (some (.ref B))
  sup : PySem.W.subIn K (.ref C) (.ref B) = some true
  bty : PySem.W.typeIn K (.ref B) = some (.type "type")
  bcl : PySem.W.isClsIn K B = true
  brd : ClX.CRead K B (.type "type")
  bin : PySem.W.findCls K (.ref B) (.type "type") "__init__" = some (.val (.builtin "ValueError.__init__"))
section
variable {K : PySem.W.Frag} {nm qual bn : Str} {st : Stmt} {C B : Addr} {mg : Str → Option Value}
theorem ExcIn.exm (h : ExcIn K nm qual bn st C B) : PySem.W.exmOne K (.ref C) (.ref C) = some true := PySem.W.exm_ref h.xf.exC h.xf.hdC h.a.oex.tyC h.own
theorem kit_sub {C B : Addr} (bcl : PySem.W.isClsIn K B = true) (bty : PySem.W.typeIn K (.ref B) = some (.type "type")) (sup : PySem.W.subIn K (.ref C) (.ref B) = some true) : PySem.W.kitOne K (.ref C) (.ref B) = some true := by
  unfold PySem.W.kitOne
  split
  · rfl
  · have e1 : ((PySem.W.clsIn K B).isSome && PySem.W.typeIn K (.ref B) == some (.type "type")) = true := by
      rw [bty]
      rw [show (PySem.W.clsIn K B).isSome = true from bcl]
      rfl
    show (if ((PySem.W.clsIn K B).isSome && PySem.W.typeIn K (.ref B) == some (.type "type")) = true then _ else _) = _
    rw [if_pos e1]
    exact sup
theorem ExcIn.kit (h : ExcIn K nm qual bn st C B) : PySem.W.kitOne K (.ref C) (.ref B) = some true := kit_sub h.bcl h.bty h.sup
theorem ExcIn.ini (h : ExcIn K nm qual bn st C B) (T : TopOf K mg) : BaseIni K mg bn := ⟨B, .type "type", T.is h.bat, h.brd, h.bin⟩
end
section
variable {P : Program} {w : World} {K : PySem.W.Frag} {mg : Str → Option Value} {base : Heap} {g : Bool} {k : Nat} {ps : List Str} {S : SpecT}
theorem cal_of {nm : Str} {st : Stmt} (T : TopOf K mg) (D : DefIn K nm st) (b : BindsAs nm st ps) (h : ∀ f fd, L2.Fun K nm nm st f fd → Fn P w K mg base g k f fd ps S) : Cal P w K mg base g k nm S [] := by
  obtain ⟨f, fd, a, F⟩ := D.ex
  exact ⟨f, fd, ps, [], [], T.is a, F.kp, h f fd F, F.binds b, .nil, fun _ => .nil⟩
/-- how the arguments of an __init__ bind -/
def IniAs (qual : Str) (st : Stmt) (ps : List Str) : Prop := ∀ (kV doc pm : Value) (an : Option Addr) (cdv ct : Value) (us : List Value), us.length = ps.length →
  bindArgs (PySem.W.fnOf "__init__" qual (defArgs st) (defBody st) (defScope st) .none kV doc pm an cdv ct) ⟨us, []⟩ = pure (ps.zip us)
theorem xc_of {nm qual bn : Str} {st : Stmt} {C B : Addr} (T : TopOf K mg) (D : ExcIn K nm qual bn st C B) (b : IniAs qual st ps) (h : ∀ f fd, L2.Fun K "__init__" qual st f fd → Fn P w K mg base false k f fd ps S) : ExCls P w K mg base k nm C S := by
  obtain ⟨f, fd, h1, h2, F⟩ := D.a.ini
  exact ⟨D.a.oex, T.is D.a.at_, f, fd, ps, h1, h2, h f fd F, F.binds b⟩
end
/-! ### the law's end -/
/-- what a law has to do: given the script it says True -/
def LawS : SpecT := fun ss O R => ∃ ns : List Int, ss = [.dat (.fro (ns.map .int))] ∧ ns.length ≤ 63 ∧ ∀ O', R (.ret (.dat (.bl true))) O'
theorem ints_rp {K : PySem.W.Frag} {G : Hp} : ∀ ns : List Int, RpA K G (ns.map V.int) (ns.map Dat.int)
  | [] => .nil
  | n :: ns => .cons (.int n) (ints_rp ns)
def noO : Own := fun _ => none
theorem hid_no {H : Hp} : hid noO H = H := by
  funext b
  exact hid_none rfl
theorem room_caller {n : Nat} (h : Room n callerA) (hg : callerA.guards = some []) : RoomB true n callerA := ⟨h, fun _ => hg⟩
theorem fn_at {P : Program} {w : World} {K : PySem.W.Frag} {mg : Str → Option Value} {base : Heap} {n : Nat} {fa a : Addr} {fd : FuncData} {x : Str} {ns : List Int} {s : Shared} {H : Hp}
    (F : Fn P w K mg base true n fa fd [x] LawS) (hr : RoomB true n callerA) (e0 : Env0 P w K mg base callerA [] s H) (hb : BindsTo s fd ⟨[.ref a], []⟩ [(x, .ref a)]) (hS : SqL K H a (ns.map V.int)) (hl : ns.length ≤ 63) :
    codeAny (model P w) callerA (.call (.ref fa) ⟨[.ref a], []⟩) (CR (L2.CX P w) [] P w H s (fun v _ => v = .bl true) fun _ _ _ => False) s := by
  refine F.run callerA [] s H ⟨[.ref a], []⟩ [.ref a] [.ref a] _ _ hr e0 hb (.cons rfl .nil) ?_
  refine ⟨noO, [.dat (.fro (ns.map .int))], fun o _ => o = .ret (.dat (.bl true)), ⟨fun p c hp => by cases hp⟩, .cons ?_ .nil, ⟨ns, rfl, hl, fun _ => rfl⟩, fun v H' z O' e1 _ _ r => ?_, fun cls d e H' O' e1 => ?_⟩
  · refine Rp.fro (xs := ns.map V.int) ?_ (ints_rp ns)
    rw [hid_no]; exact hS
  · cases e1
    cases r
    rfl
  · cases e1
/-- the law's def, called with the script -/
theorem run_law {P : Program} {w : World} {K : PySem.W.Frag} {mg mb : Str → Option Value} {n : Nat} {fa a : Addr} {fd : FuncData} {x : Str} {sh : Shared} {vs : List Value} {ns : List Int}
    (kin : K.In sh.heap) (glob : sh.heap.Ns mainGlobals mg) (blt : sh.heap.Ns builtinsNs mb) (bltE : ∀ y : Str, y ≠ "__name__" → mb y = bootBuiltins y) (lim : sh.heap.NoLimit) (gen : sh.gens = #[])
    (hobj : sh.heap.get? a = some { cls := .type "list", data := .seq vs.toArray }) (hint : IntsAre vs ns) (hlen : ns.length ≤ 63) (hr : RoomB true n callerA)
    (F : ∀ base : Heap, K.In base → base.Ns mainGlobals mg → Fn P w K mg base true n fa fd [x] LawS) (hbind : ∀ (s : Shared) (u : Value), BindsTo s fd ⟨[u], []⟩ [(x, u)]) :
    codeAny (model P w) callerA (.call (.ref fa) ⟨[.ref a], []⟩) (fun r s' => r = .ok (.ret (.bool true)) ∧ OldK sh.heap s'.heap ∧ s'.os = sh.os ∧ AllBare s'.gens) sh := by
  have vals := vals_ints hint
  have lenV := hint.length
  have small : ns.length ≤ sizeLine := Nat.le_trans hlen (by decide)
  -- H tells of the script alone, or of nothing
  suffices main : ∀ H : Hp, Only H → SqL K H a (ns.map V.int) → HOk P w H sh.heap → (∀ b, H b ≠ none → b = a) → (H a ≠ none → K.lookup a = none) →
      codeAny (model P w) callerA (.call (.ref fa) ⟨[.ref a], []⟩) (fun r s' => r = .ok (.ret (.bool true)) ∧ OldK sh.heap s'.heap ∧ s'.os = sh.os ∧ AllBare s'.gens) sh by
    by_cases hk : ∃ o, K.lookup a = some o
    · obtain ⟨o, hk⟩ := hk
      have eo := (kin a o hk).symm.trans hobj
      cases eo
      have frz : SqL K (fun _ => none) a (ns.map V.int) := .inr ⟨_, vs.toArray, _, hk, rfl, rfl, rfl, by rw [List.size_toArray, lenV]; exact small, by simpa using vals⟩
      exact main (fun _ => none) (fun _ => .inl rfl) frz (fun b u z => by
        have z' : (none : Option HO) = some u := z
        cases z') (fun b z => absurd rfl z) fun z => absurd rfl z
    · have hk : K.lookup a = none := by
        cases q : K.lookup a with
        | none => rfl
        | some o => exact absurd ⟨o, q⟩ hk
      let O1 : HO := .frz { cls := .type "list", data := .seq vs.toArray } (.lst (ns.map V.int))
      have at1 : ∀ b u, (if b = a then some O1 else none) = some u → b = a ∧ O1 = u := fun b u z => by
        by_cases q : b = a
        · rw [if_pos q] at z
          exact ⟨q, Option.some.inj z⟩
        · rw [if_neg q] at z
          cases z
      refine main (fun b => if b = a then some O1 else none) (fun b => ?_) (.inl (.inr ⟨_, if_pos rfl⟩)) (fun b u z => ?_) (fun b z => ?_) fun _ => hk
      · by_cases q : b = a
        · exact .inr ⟨_, _, if_pos q⟩
        · exact .inl (if_neg q)
      · obtain ⟨rfl, rfl⟩ := at1 b u z
        exact ⟨hobj, by rw [List.length_map]; exact small, vs, _, vals, hobj⟩
      · cases q : (if b = a then some O1 else none) with
        | none => exact absurd q z
        | some u => exact (at1 b u q).1
  intro H only hS hok isA notK
  -- the base: the heap without the script
  have at_base : ∀ {b : Addr} {o : Obj}, sh.heap.get? b = some o → H b = none → (hidT sh.heap H).get? b = some o := fun e z => hidT_get e z
  have dict_free : ∀ {b : Addr} {o : Obj} {es : Array DictEntry} {ep : Nat}, sh.heap.get? b = some o → o.data = .dict es ep → H b = none := fun {b o es ep} e d => by
    cases q : H b with
    | none => rfl
    | some u =>
      obtain rfl := isA b (by rw [q]; exact fun z => by cases z)
      have eo := e.symm.trans hobj
      cases eo
      have d : Data.seq vs.toArray _ = Data.dict es ep := d
      cases d
  have nsB : ∀ {b : Addr} {m : Str → Option Value}, sh.heap.Ns b m → (hidT sh.heap H).Ns b m := fun {b m} z => by
    obtain ⟨o, es, ep, e, d, r⟩ := z
    exact ⟨o, es, ep, at_base e (dict_free e d), d, r⟩
  have kinB : K.In (hidT sh.heap H) := fun b o e => at_base (kin b o e) (by
    cases q : H b with
    | none => rfl
    | some u =>
      obtain rfl := isA b (by rw [q]; exact fun z => by cases z)
      rw [notK (by rw [q]; exact fun z => by cases z)] at e
      cases e)
  have limB : (hidT sh.heap H).NoLimit := by
    obtain ⟨mc, h1, h2⟩ := lim
    exact ⟨mc, nsB h1, h2⟩
  have e0 : Env0 P w K mg (hidT sh.heap H) callerA [] sh H :=
    { frames := rfl, mod := ⟨kinB, nsB glob, ⟨mb, nsB blt, bltE⟩, limB⟩, bs := fun b o e => of_hidT e, bsz := Nat.le_of_eq (hidT_size _ _), funs := trivial, frf := fun b hb => absurd (show b ∈ ([] : List Addr) from hb) List.not_mem_nil, hok := hok, bare := .of_eq gen }
  refine codeAny_mono (fn_at (F _ kinB (nsB glob)) hr e0 (hbind sh (.ref a)) hS hlen) fun r s' h => ?_
  cases r with
  | error e =>
    have h : L2.CX P w [] H sh (fun _ _ _ => False) e s' := h
    obtain ⟨_, _, _, _, _, _, _, _, _, _, h⟩ := h
    exact False.elim h.2.2
  | ok fl =>
    cases fl with
    | next => exact False.elim h
    | brk => exact False.elim h
    | cont => exact False.elim h
    | ret u =>
      obtain ⟨v, H', os, bare, un, hok', rv, q⟩ := h
      have q : v = .bl true := q
      subst q
      obtain rfl : u = Value.bool true := rv
      refine ⟨rfl, OldK.of_keep fun b o e => ?_, os, bare⟩
      cases q : H b with
      | none => exact un.keep b o e q (fun z => absurd (show b ∈ ([] : List Addr) from z) List.not_mem_nil) (by simp)
      | some u =>
        rcases only b with z | ⟨ob, xs, z⟩
        · rw [q] at z; cases z
        · obtain ⟨e1, _⟩ := hok b _ z
          obtain ⟨e2, _⟩ := hok' b _ (un.frzs b ob _ z)
          cases e.symm.trans e1
          exact e2
/-- what is left of a law -/
theorem law_walk {l : PySem.W.OpenLaw} {n : Nat} {q : Program} {loose : List Str} {XP : (Str → Option Value) → Heap → Prop} {YP : World → Heap → Prop} {d : DefRec} {K : Params → PySem.W.Frag} {x : Str} {st : Stmt} {Z : PySem.W.Frag → Prop}
    (hn : l.most = some 63) (hdf : d.params.defaults = []) (hr : Room n callerA) (hg : callerA.guards = some [])
    (hY : ∀ (w : World) (h : Heap), YP w h → (K w.params).In h) (hz : ∀ w : World, Z (K w.params)) (hD : ∀ w : World, DefIn (K w.params) d.name st) (hb : BindsAs d.name st [x])
    (F : ∀ (w : World) (mg : Str → Option Value) (f : Addr) (fd : FuncData), Z (K w.params) → TopOf (K w.params) mg → L2.Fun (K w.params) d.name d.name st f fd → ∀ base : Heap, (K w.params).In base → Fn l.prog w (K w.params) mg base true n f fd [x] LawS) :
    PySem.W.WalkO q loose XP YP l.row.toRowW d [] (fun f vs => PySem.call f vs) := by
  refine Att.attach_call hn hdf fun w s0 s1 mg mb fa o pm cd doc a vs ns G Y ho hd hcd hmg hobj hints hlen hgen => ?_
  have kin := hY w _ Y
  have T : TopOf (K w.params) mg := ⟨_, kin, G.T.g⟩
  obtain ⟨f, fd, ha, hF⟩ := (hD w).ex
  have e := hmg.symm.trans (T.is ha)
  cases e
  obtain ⟨oc, od, kV, doc', pm', an, cdv, ct, osl, rfl, _, _⟩ := id hF.ex
  exact run_law kin G.T.g G.T.b G.T.builtins G.T.nolimit hgen hobj hints hlen ⟨hr, fun _ => hg⟩ (fun base kb nb => F w mg fa _ (hz w) T hF base kb) fun s u => .of_eq (hb _ _ _ _ _ _ [u] rfl)
end Kn
/-! KnJ: a name's list given away; y = [..]; draws. -/
namespace Kn
open PySem PySem.Spec PyProof.Rows
open L2 hiding St
section
variable {X : Cx} {O : Own} {ρ : List Slot} {x : ExK} {D : SD} {sts : List Stmt}
theorem StOk.give {K : PySem.W.Frag} {H0 H : Hp} {σ : SV} {i : Nat} {p : Addr} {ds : List Dat} (h : StOk K H0 O σ ρ H) (hi : ρ[i]? = some (.own p)) (hp : O p = some (.lst (ds.map .dat))) : StOk K H0 (dn O p) σ (ρ.set i (.dat (.lst ds))) H := by
  have f := h.freeze (p := p)
  refine ⟨f.own, f.base, ?_⟩
  obtain ⟨v, h1, h2⟩ := paired_get f.env hi
  have r : Rp K (hid (dn O p) H) (.ref p) (.lst ds) := h.own.lst hp
  have z := paired_set (x := v) (y := Slot.dat (.lst ds)) (F := EnvOk K (hid (dn O p) H)) ⟨.ref p, h2, r⟩ i f.env
  have e : σ.set i v = σ := by
    obtain ⟨hl, e⟩ := List.getElem?_eq_some_iff.mp h1
    rw [← e, List.set_getElem_self]
  rw [e] at z
  exact z
/-- the list that a name holds is data from now on -/
theorem sw_frz (i : Nat) {p : Addr} {ds : List Dat} (hp : O p = some (.lst (ds.map .dat))) (h : SW X (dn O p) (ρ.set i (.dat (.lst ds))) sts x D) (hi : ρ[i]? = some (.own p) := by rfl) : SW X O ρ sts x D := fun H0 σ H st tk E ok => h H0 σ H (st.give hi hp) tk E ok
/-- y = [elt for tg in iter if ..] whose parts change nothing -/
theorem s1_setMap {α : Type} (l : List α) (ι f : α → Dat) (g : α → Bool) (own : List (Str × Nat)) (i : Nat) {nm : Str} {py spos pos : Pos} {elt tg iter : Expr} {ifs : List Expr} {scope : Scope} {T : Dat → List Slot → List Slot → Prop} (hN : X.N.Nodup) (tg_ok : Tgt X scope (own.map (·.2)) tg T) (ok : BlkOk X.N X.env.scope scope own)
    (hi : IW X O ρ tg iter x fun ds' O1 => ds' = l.map ι ∧ O1 = O) (hz : l.length ≤ sizeLine)
    (hb : ∀ d, d ∈ l → ∃ ρ', T (ι d) (wipeS ρ (own.map (·.2))) ρ' ∧ ∀ O' Y, Blk X scope Y → TsW Y O' ρ' ifs noX (fun t O2 => t = g d ∧ O2 = O') ∧ (g d = true → EV Y O' ρ' elt noX (f d)))
    (h : ∀ p, O p = none → D.nx (ρ.set i (.own p)) (up O p (.lst (((l.filter g).map f).map .dat)))) (hc : X.calm = true := by rfl)
    (hy : X.N[i]? = some nm := by rfl) (hyl : X.env.scope.names.lookup nm = some .local := by rfl)
    (hsw : swapsWith (.ListComp elt [⟨tg, iter, ifs, 0⟩] scope pos) (some (.Name nm py)) spos.line X.env = pure true := by exact sw_true rfl rfl rfl (by decide +kernel)) (hs : ∀ x, foldedSetIterable iter X.env x = pure x := by intro _; rfl) :
    S1 X O ρ (.Assign [.Name nm py] (.ListComp elt [⟨tg, iter, ifs, 0⟩] scope pos) spos) x D := by
  refine s1_setLc own i hN tg_ok ok (fun H0 σ H st tk R q => hi H0 σ H st tk R fun J H' ds' O1 ⟨e1, e2⟩ st' it => q J H' ds' O1 ?_ st' it) hc hy hyl hsw hs
  subst e1 e2
  refine ⟨by rw [List.length_map]; exact hz, fun i acc O' => O' = O1 ∧ acc = (((l.take i).filter g).map f).map .dat, ⟨rfl, rfl⟩, fun i d0 acc O' hj hd0 => ?_, fun acc O' hj p hp => ?_⟩
  · obtain ⟨rfl, rfl⟩ := hj
    rw [List.getElem?_map] at hd0
    obtain ⟨d, hd, rfl⟩ := Option.map_eq_some_iff.mp hd0
    obtain ⟨ρ', ht, hb⟩ := hb d (List.mem_of_getElem? hd)
    refine ⟨ρ', ht, fun Dd nD Y hY => ?_⟩
    have htake : l.take (i + 1) = l.take i ++ [d] := by rw [List.take_add_one, hd]; rfl
    obtain ⟨h1, _⟩ := hb (up O' Dd (.lst ((((l.take i).filter g).map f).map .dat))) Y hY
    refine fun H0 σ H st tk Q q => h1 H0 σ H st tk Q fun t H' O2 ⟨e1, e2⟩ st2 => q t H' O2 ⟨fun ht => fun Z hZ => ?_, fun ht => ?_⟩ st2
    · subst e2
      have hg : g d = true := e1 ▸ ht
      refine ((hb (up O' Dd (.lst ((((l.take i).filter g).map f).map .dat))) Z hZ).2 hg).mono fun s O3 ⟨e3, e4⟩ => ?_
      subst e3 e4
      refine ⟨O', rfl, nD, rfl, ?_⟩
      rw [htake, List.filter_append, List.filter_cons_of_pos hg]
      simp
    · subst e2
      have hg : g d = false := e1 ▸ ht
      refine ⟨O', rfl, nD, rfl, ?_⟩
      rw [htake, List.filter_append, List.filter_cons_of_neg (by rw [hg]; exact Bool.false_ne_true)]
      simp
  · obtain ⟨rfl, rfl⟩ := hj
    rw [List.length_map, List.take_length]
    exact h p hp
theorem s1_setMap1 {α : Type} (l : List α) (ι f : α → Dat) (own : List (Str × Nat)) (i : Nat) {nm : Str} {py spos pos : Pos} {elt tg iter : Expr} {scope : Scope} {T : Dat → List Slot → List Slot → Prop} (hN : X.N.Nodup) (tg_ok : Tgt X scope (own.map (·.2)) tg T) (ok : BlkOk X.N X.env.scope scope own)
    (hi : IW X O ρ tg iter x fun ds' O1 => ds' = l.map ι ∧ O1 = O) (hz : l.length ≤ sizeLine)
    (hb : ∀ d, d ∈ l → ∃ ρ', T (ι d) (wipeS ρ (own.map (·.2))) ρ' ∧ ∀ O' Y, Blk X scope Y → EV Y O' ρ' elt noX (f d))
    (h : ∀ p, O p = none → D.nx (ρ.set i (.own p)) (up O p (.lst ((l.map f).map .dat)))) (hc : X.calm = true := by rfl)
    (hy : X.N[i]? = some nm := by rfl) (hyl : X.env.scope.names.lookup nm = some .local := by rfl)
    (hsw : swapsWith (.ListComp elt [⟨tg, iter, [], 0⟩] scope pos) (some (.Name nm py)) spos.line X.env = pure true := by exact sw_true rfl rfl rfl (by decide +kernel)) (hs : ∀ x, foldedSetIterable iter X.env x = pure x := by intro _; rfl) :
    S1 X O ρ (.Assign [.Name nm py] (.ListComp elt [⟨tg, iter, [], 0⟩] scope pos) spos) x D :=
  s1_setMap l ι f (fun _ => true) own i hN tg_ok ok hi hz (fun d hd => by
    obtain ⟨ρ', h1, h2⟩ := hb d hd
    exact ⟨ρ', h1, fun O' Y hY => ⟨tsw_nil ⟨rfl, rfl⟩, fun _ => h2 O' Y hY⟩⟩) (by rw [filter_yes]; exact h) hc hy hyl hsw hs
end
section
variable {X : Cx} {O : Own} {ρ : List Slot} {x : ExK} {a b c : Expr} {pos : Pos} {kt : Bool → Own → Prop}
/-- a < b < c as a test -/
theorem tw_chain {op op' : CmpOp} (h : EW X O ρ a x fun s1 O1 => EW X O1 ρ b x fun s2 O2 => OpB X (compareOp op) s1 s2 O2 fun s O3 => O3 = O2 ∧ ∃ t, s = .dat (.bl t) ∧ (t = true → EW X O3 ρ c x fun s3 O4 => OpB X (compareOp op') s2 s3 O4 fun s O5 => ∃ t, s = .dat (.bl t) ∧ kt t O5) ∧ (t = false → kt false O3)) (hm : lastMarks [op, op'] [b, c] = false := by rfl) :
    TW X O ρ (.Compare a [op, op'] [b, c] pos) x kt := fun H0 σ H st tk Q q => by
  have m1 : OpR X (compareOp op) (fun v1 v2 H2 Q => ∃ r, OpR X (compareOp op) r ∧ r v1 v2 H2 Q) := fun pins s σ H x y v u Q I rx ry ⟨r, ho, hr⟩ => ho pins s σ H x y v u Q I rx ry hr
  have m2 : OpR X (compareOp op') (fun v1 v2 H2 Q => ∃ r, OpR X (compareOp op') r ∧ r v1 v2 H2 Q) := fun pins s σ H x y v u Q I rx ry ⟨r, ho, hr⟩ => ho pins s σ H x y v u Q I rx ry hr
  refine wt_of (pt_chain m1 m2 pe_w pe_w pe_w (hm := hm)) ?_
  refine h H0 σ H st tk _ fun v1 H1 s1 O1 h1 st1 r1 => h1 (hid O1 H1) σ H1 st1.top (takes_base tk st1.base) _ fun v2 H2 s2 O2 ⟨r, ho, hr⟩ st2 r2 => ⟨r, ho, ?_⟩
  have b2 := st1.base.trans st2.base
  refine hr (hid O2 H2) σ ρ H2 v1 v2 st2.top (SlOk.mono st2.base r1) r2 _ fun z H3 s O3 ⟨e3, t, e1, h3, h4⟩ st3 r3 => ?_
  subst e1 e3
  cases r3
  refine ⟨t, rfl, ?_⟩
  have st3' := st3.rebase b2
  cases t with
  | true =>
    refine iteT ((h3 rfl) (hid O3 H3) σ H3 st3.top (takes_base tk (b2.trans st3.base)) _ fun w' H4 s3 O4 ⟨r', ho', hr'⟩ st4 r4 => ⟨r', ho', ?_⟩)
    exact hr' H0 σ ρ H4 v2 w' (st4.rebase (b2.trans st3.base)) (SlOk.mono (st3.base.trans st4.base) r2) r4 _ fun z5 H5 s5 O5 ⟨t5, e5, h5⟩ st5 r5 => by
      subst e5
      cases r5
      exact ⟨t5, rfl, q t5 H5 O5 h5 st5⟩
  | false => exact iteF ⟨false, rfl, q false H3 O3 (h4 rfl) st3'⟩
/-- the one or the other as a test -/
theorem tw_if {pos : Pos} (h : TW X O ρ c x fun t O1 => (t = true → TW X O1 ρ a x kt) ∧ (t = false → TW X O1 ρ b x kt)) : TW X O ρ (.IfExp c a b pos) x kt := fun H0 σ H st tk Q q => ⟨fun pins s I => by
  show wpAny _ _ (PySem.isTrue c X.env (eval c X.env) >>= fun t => if t = true then PySem.isTrue a X.env (eval a X.env) else PySem.isTrue b X.env (eval b X.env)) _ _ _
  refine wpAny_bind (wpAny_mono ((h H0 σ H st tk (fun t H1 => (t = true → Wt X a σ H1 Q) ∧ (t = false → Wt X b σ H1 Q)) (fun t H1 O1 h1 st1 => ⟨fun ht => (h1.1 ht) H0 σ H1 st1 tk Q q, fun ht => (h1.2 ht) H0 σ H1 st1 tk Q q⟩)).r pins s I) (fun t s1 hq => ?_) fun _ _ z => z)
  obtain ⟨H1, I1, q1, q2⟩ := hq
  cases t with
  | true =>
    rw [if_pos rfl]
    exact (q1 rfl).r pins s1 I1
  | false =>
    rw [if_neg Bool.false_ne_true]
    exact (q2 rfl).r pins s1 I1⟩
end
theorem seq_at {d : Int} {n : Nat} (h0 : 0 ≤ d) (h : d < (n : Int)) : seqIndex? d n = some d.toNat := by
  have e : (if d < 0 then d + (n : Int) else d) = d := if_neg (by omega)
  have e2 : (decide (0 ≤ d) && decide (d < (n : Int))) = true := by rw [decide_eq_true h0, decide_eq_true h]; rfl
  show (if (decide (0 ≤ (if d < 0 then d + (n : Int) else d)) && decide ((if d < 0 then d + (n : Int) else d) < (n : Int))) = true then some (if d < 0 then d + (n : Int) else d).toNat else none) = _
  rw [e, if_pos e2]
theorem up_swap {O : Own} {p q : Addr} {c d : Cell} (h : p ≠ q) : up (up O p c) q d = up (up O q d) p c := by
  funext b
  by_cases e1 : b = q
  · subst e1
    rw [up_at, up_ne h.symm, up_at]
  · rw [up_ne e1]
    by_cases e2 : b = p
    · subst e2; rw [up_at, up_at]
    · rw [up_ne e2, up_ne e2, up_ne e1]
theorem rot_perm {α : Type} : ∀ {ls : List α} {j : Nat} {a : α}, ls[j]? = some a → (a :: ls.eraseIdx j).Perm ls
  | [], j, a, h => by cases h
  | b :: ls, 0, a, h => by cases h; exact .refl _
  | b :: ls, j + 1, a, h => (List.Perm.swap b a _).trans ((rot_perm (ls := ls) (j := j) h).cons b)
theorem erase_map {α β : Type} (f : α → β) : ∀ (l : List α) (i : Nat), (l.map f).eraseIdx i = (l.eraseIdx i).map f
  | [], _ => rfl
  | _ :: _, 0 => rfl
  | a :: l, i + 1 => congrArg (f a :: ·) (erase_map f l i)
theorem cut_take {α : Type} {l : List α} {m : Int} (h : 0 ≤ m) : cutD l none (some m) = l.take m.toNat := by
  obtain ⟨n, rfl⟩ := Int.eq_ofNat_of_zero_le h
  unfold cutD
  rw [HT.sIx_none, show HT.sIx l.length l.length (some (n : Int)) = min n l.length from HT.sIx_nat _ _ n, List.drop_zero, Nat.sub_zero, Int.toNat_natCast]
  rw [← List.take_eq_take_min]
theorem cut_drop {α : Type} {l : List α} {m : Int} (h : 0 ≤ m) : cutD l (some m) none = l.drop m.toNat := by
  obtain ⟨n, rfl⟩ := Int.eq_ofNat_of_zero_le h
  unfold cutD
  rw [HT.sIx_none, show HT.sIx l.length 0 (some (n : Int)) = min n l.length from HT.sIx_nat _ _ n, Int.toNat_natCast]
  rw [List.take_of_length_le (by rw [List.length_drop]; omega)]
  by_cases q : n ≤ l.length
  · rw [Nat.min_eq_left q]
  · rw [Nat.min_eq_right (by omega), List.drop_of_length_le (Nat.le_refl _), List.drop_of_length_le (by omega)]
end Kn
/-! KnR: data that may be shown and compared; texts of small signs; find. -/
namespace Kn
open PySem PySem.Spec PyProof.Rows
open L2 hiding St
def smlB (z : Str) : Bool := z.cps.all (· < 0x110000)
mutual
def fine : Dat → Bool
  | .non => true
  | .bl _ => true
  | .int i => decide ((PyData.shown (.int i)).length ≤ 13) && decide (i.natAbs.log2 < 1920)
  | .str x => smlB x
  | .lst xs => fines xs
  | .fro xs => fines xs
  | .tup xs => fines xs
  | _ => false
def fines : List Dat → Bool
  | [] => true
  | d :: ds => fine d && fines ds
end
mutual
theorem fine_all : ∀ d : Dat, fine d = true → plain d = true ∧ (toPy d).canLay0 = true ∧ (toPy d).showable = true ∧ (toPy d).hasDict = false ∧ (toPy d).intsShort 13 = true
  | .non, _ => ⟨rfl, rfl, rfl, rfl, rfl⟩
  | .bl _, _ => ⟨rfl, rfl, rfl, rfl, rfl⟩
  | .int i, h => by
    have h : (decide ((PyData.shown (.int i)).length ≤ 13) && decide (i.natAbs.log2 < 1920)) = true := h
    obtain ⟨h1, h2⟩ := Bool.and_eq_true_iff.mp h
    exact ⟨rfl, rfl, h2, rfl, h1⟩
  | .str x, h => ⟨rfl, h, rfl, rfl, rfl⟩
  | .lst xs, h => by
    obtain ⟨h1, h2, h3, h4, h5⟩ := fines_all xs h
    exact ⟨h1, h2, h3, h4, h5⟩
  | .fro xs, h => by
    obtain ⟨h1, h2, h3, h4, h5⟩ := fines_all xs h
    exact ⟨h1, h2, h3, h4, h5⟩
  | .tup xs, h => by
    obtain ⟨h1, h2, h3, h4, h5⟩ := fines_all xs h
    exact ⟨h1, h2, h3, h4, h5⟩
theorem fines_all : ∀ ds : List Dat, fines ds = true → plains ds = true ∧ PyData.canLayAll0 (toPys ds) = true ∧ PyData.showableAll (toPys ds) = true ∧ PyData.hasDictAll (toPys ds) = false ∧ PyData.intsShortAll 13 (toPys ds) = true
  | [], _ => ⟨rfl, rfl, rfl, rfl, rfl⟩
  | d :: ds, h => by
    have h : (fine d && fines ds) = true := h
    obtain ⟨h1, h2⟩ := Bool.and_eq_true_iff.mp h
    obtain ⟨a1, a2, a3, a4, a5⟩ := fine_all d h1
    obtain ⟨b1, b2, b3, b4, b5⟩ := fines_all ds h2
    refine ⟨?_, ?_, ?_, ?_, ?_⟩
    · show (plain d && plains ds) = true
      rw [a1, b1]; rfl
    · show (PyData.canLay0 (toPy d) && PyData.canLayAll0 (toPys ds)) = true
      rw [a2, b2]; rfl
    · show (PyData.showable (toPy d) && PyData.showableAll (toPys ds)) = true
      rw [a3, b3]; rfl
    · show (PyData.hasDict (toPy d) || PyData.hasDictAll (toPys ds)) = false
      rw [a4, b4]; rfl
    · show (PyData.intsShort 13 (toPy d) && PyData.intsShortAll 13 (toPys ds)) = true
      rw [a5, b5]; rfl
end
def dep (d : Dat) : Nat := (toPy d).depth
def wgt (d : Dat) : Nat := (toPy d).weight
theorem shape_of {d : Dat} (h : fine d = true) (hd : dep d ≤ 64) : SeqAt.shaped (toPy d) = true := by
  unfold SeqAt.shaped
  rw [(fine_all d h).2.1]
  exact decide_eq_true hd
theorem reprOk_of {d : Dat} (h : fine d = true) (hd : dep d ≤ 64) (hw : wgt d ≤ 2 ^ 20) : reprOk d = true := by
  obtain ⟨h1, h2, h3, h4, h5⟩ := fine_all d h
  have h6 : (toPy d).layable0 = true := by
    unfold PyData.layable0
    rw [h2, decide_eq_true (show (toPy d).depth ≤ 64 from hd), decide_eq_true (show (toPy d).weight ≤ 2 ^ 20 from hw)]; rfl
  unfold reprOk
  rw [h1, h6, h3, h4, h5]; rfl
def deps : List Dat → Nat := fun ds => PyData.depthAll (toPys ds)
def wgts : List Dat → Nat := fun ds => PyData.weightAll (toPys ds)
section
variable {α : Type} {f : α → Dat} {l : List α} {b : Nat}
theorem fines_map : ∀ {l : List α}, (∀ a ∈ l, fine (f a) = true) → fines (l.map f) = true
  | [], _ => rfl
  | a :: l, h => by
    show (fine (f a) && fines (l.map f)) = true
    rw [h a List.mem_cons_self, fines_map fun c hc => h c (List.mem_cons_of_mem a hc)]; rfl
theorem deps_map : ∀ {l : List α}, (∀ a ∈ l, dep (f a) ≤ b) → deps (l.map f) ≤ b
  | [], _ => Nat.zero_le _
  | a :: l, h => Nat.max_le.mpr ⟨h a List.mem_cons_self, deps_map fun c hc => h c (List.mem_cons_of_mem a hc)⟩
theorem wgts_map : ∀ {l : List α}, (∀ a ∈ l, wgt (f a) ≤ b) → wgts (l.map f) ≤ l.length * (b + 1)
  | [], _ => Nat.zero_le _
  | a :: l, h => by
    have h1 := h a List.mem_cons_self
    have h2 := wgts_map (l := l) fun c hc => h c (List.mem_cons_of_mem a hc)
    show wgt (f a) + 1 + wgts (l.map f) ≤ (l.length + 1) * (b + 1)
    rw [Nat.succ_mul]
    omega
end
theorem dep_lst {ds : List Dat} : dep (.lst ds) = deps ds + 1 := rfl
theorem dep_tup {ds : List Dat} : dep (.tup ds) = deps ds + 1 := rfl
theorem wgt_lst {ds : List Dat} : wgt (.lst ds) = wgts ds := rfl
theorem wgt_tup {ds : List Dat} : wgt (.tup ds) = wgts ds := rfl
theorem eqD_nil (ds : List Dat) : eqD (.lst ds) (.lst []) = ds.isEmpty := by
  cases ds <;> rfl
/-! numbers that are small enough to be shown -/
theorem fine_nat {m : Int} (h0 : 0 ≤ m) (h : m < 10 ^ 12) : fine (.int m) = true := by
  have h1 : (PyData.shown (.int m)).length ≤ 13 := by
    have := PyProof.Rows.toString_length_le (v := m) (k := 12) h0 (by decide) h
    exact Nat.le_trans this (by decide)
  have h2 : m.natAbs.log2 < 1920 := by
    by_cases hz : m.natAbs = 0
    · rw [hz]; decide
    · rw [Nat.log2_lt hz]
      have e : m.natAbs < 10 ^ 12 := by omega
      exact Nat.lt_of_lt_of_le e (by decide +kernel)
  show (decide _ && decide _) = true
  rw [decide_eq_true h1, decide_eq_true h2]; rfl
theorem wgt_nat {m : Int} (h0 : 0 ≤ m) (h : m < 10 ^ 12) : wgt (.int m) ≤ 41 := by
  show (if m == 0 then 0 else m.natAbs.log2 + 1) ≤ 41
  split
  · exact Nat.zero_le _
  · rename_i hm
    have hz : m.natAbs ≠ 0 := fun e => hm (by rw [show m = 0 by omega]; rfl)
    have h2 : m.natAbs.log2 < 40 := by
      rw [Nat.log2_lt hz]
      have e : m.natAbs < 10 ^ 12 := by omega
      exact Nat.lt_of_lt_of_le e (by decide +kernel)
    omega
/-! ### small signs -/
def sml (z : Str) : Prop := ∀ c ∈ sgs z, c < 0x110000
theorem sml_b {z : Str} (h : sml z) : smlB z = true := by
  unfold smlB
  rw [Array.all_eq_true_iff_forall_mem]
  exact fun c hc => decide_eq_true (h c (Array.mem_toList_iff.mpr hc))
theorem sml_app {y z : Str} (h : sml y) (h' : sml z) : sml (y ++ z) := fun c hc => by
  rw [sgs_app] at hc
  exact (List.mem_append.mp hc).elim (h c) (h' c)
theorem sgs_cut (z : Str) (lo hi : Option Int) : sgs (cutS z lo hi) = cutD (sgs z) lo hi := by
  show (z.cps.toList.drop (HT.sIx z.length 0 lo)).take (HT.sIx z.length z.length hi - HT.sIx z.length 0 lo) = _
  unfold cutD
  rw [← sgs_len]
  rfl
theorem cut_mem {α : Type} {l : List α} {lo hi : Option Int} {c : α} (h : c ∈ cutD l lo hi) : c ∈ l := List.mem_of_mem_drop (List.mem_of_mem_take h)
theorem cut_len {α : Type} {l : List α} {lo hi : Option Int} : (cutD l lo hi).length ≤ l.length := by
  unfold cutD
  rw [List.length_take, List.length_drop]
  omega
theorem sml_cut {z : Str} {lo hi : Option Int} (h : sml z) : sml (cutS z lo hi) := fun c hc => by
  rw [sgs_cut] at hc
  exact h c (cut_mem hc)
theorem cutS_len {z : Str} {lo hi : Option Int} : (cutS z lo hi).length ≤ z.length := by
  rw [sgs_len, sgs_cut, sgs_len]
  exact cut_len
theorem mem_joined {y : Str} {c : Nat} : ∀ {ws : List Str}, c ∈ sgs (Txt.join y ws) ↔ (∃ z ∈ ws, c ∈ sgs z) ∨ (2 ≤ ws.length ∧ c ∈ sgs y) := by
  intro ws
  rw [TL.join_eq]
  induction ws with
  | nil =>
    constructor
    · intro h; cases h
    · rintro (⟨z, hz, _⟩ | ⟨h, _⟩)
      · cases hz
      · exact absurd h (by decide)
  | cons a r ih =>
    cases r with
    | nil =>
      constructor
      · intro h; exact .inl ⟨a, List.mem_cons_self, h⟩
      · rintro (⟨z, hz, h⟩ | ⟨h, _⟩)
        · rw [List.mem_singleton.mp hz] at h; exact h
        · exact absurd h (show ¬ 2 ≤ 1 by decide)
    | cons b r =>
      have e : sgs (Str.join y (a :: b :: r)) = sgs a ++ sgs y ++ sgs (Str.join y (b :: r)) := by
        show sgs (a ++ y ++ Str.join y (b :: r)) = _
        rw [sgs_app, sgs_app]
      rw [e]
      constructor
      · intro h
        rcases List.mem_append.mp h with h | h
        · rcases List.mem_append.mp h with h | h
          · exact .inl ⟨a, List.mem_cons_self, h⟩
          · exact .inr ⟨by rw [List.length_cons, List.length_cons]; omega, h⟩
        · rcases ih.mp h with ⟨z, hz, h⟩ | ⟨_, h⟩
          · exact .inl ⟨z, List.mem_cons_of_mem _ hz, h⟩
          · exact .inr ⟨by rw [List.length_cons, List.length_cons]; omega, h⟩
      · rintro (⟨z, hz, h⟩ | ⟨_, h⟩)
        · rcases List.mem_cons.mp hz with rfl | hz
          · exact List.mem_append.mpr (.inl (List.mem_append.mpr (.inl h)))
          · exact List.mem_append.mpr (.inr (ih.mpr (.inl ⟨z, hz, h⟩)))
        · exact List.mem_append.mpr (.inl (List.mem_append.mpr (.inr h)))
theorem sml_word {z x : Str} (h : sml z) (hw : x ∈ Txt.split z " ") : sml x := fun c hc => by
  refine h c ?_
  rw [← join_split z " " (by decide +kernel)]
  exact mem_joined.mpr (.inl ⟨x, hw, hc⟩)
theorem sml_join {ws : List Str} (h : ∀ x ∈ ws, sml x) : sml (Txt.join " " ws) := fun c hc => by
  rcases mem_joined.mp hc with ⟨x, hx, h1⟩ | ⟨_, h1⟩
  · exact h x hx c h1
  · have e : sgs (Str.ofString " ") = [32] := by decide +kernel
    rw [e] at h1
    rw [List.mem_singleton.mp h1]
    decide
/-- joined by blanks: at most this long -/
theorem join_le {ws : List Str} : (Txt.join " " ws).length ≤ (ws.map (·.length)).sum + ws.length := by
  cases ws with
  | nil => exact Nat.zero_le _
  | cons a r =>
    have h := join_len " " (a :: r) (List.cons_ne_nil _ _)
    rw [sp1, Nat.mul_one] at h
    omega
/-! ### find and partition alike -/
theorem find_whole (x y : Str) : (Txt.find x y = -1 ∧ ∀ i, ¬ StrLaws.At x y x.length i) ∨ ∃ i : Nat, Txt.find x y = (i : Int) ∧ StrLaws.At x y x.length i ∧ ∀ k, k < i → ¬ StrLaws.At x y x.length k := by
  unfold Txt.find
  rcases StrLaws.occ_head x y 1 (Nat.le_refl 1) with ⟨h0, hn⟩ | ⟨i, r, h0, hi, hn⟩
  · rw [h0]; exact .inl ⟨rfl, hn⟩
  · rw [h0]; exact .inr ⟨i, rfl, hi, hn⟩
/-- a text cut at its first y, both ways -/
theorem cut_at (x y : Str) : (Txt.find x y = -1 ∧ Txt.partition x y = (x, Str.empty, Str.empty)) ∨ ∃ i : Nat, Txt.find x y = (i : Int) ∧ Txt.partition x y = (cutS x none (some (i : Int)), y, cutS x (some ((i : Int) + (y.length : Int))) none) := by
  rcases find_whole x y with ⟨e, hn⟩ | ⟨i, e, hi, hn⟩
  · rcases PyProof.Rows.partition_whole x y with ⟨e2, _⟩ | ⟨j, _, hj, _⟩
    · exact .inl ⟨e, e2⟩
    · exact absurd hj (hn j)
  · rcases PyProof.Rows.partition_whole x y with ⟨_, hn2⟩ | ⟨j, e2, hj, hn2⟩
    · exact absurd hi (hn2 i)
    · have hij : i = j := by
        rcases Nat.lt_trichotomy i j with h | h | h
        · exact absurd hi (hn2 i h)
        · exact h
        · exact absurd hj (hn j h)
      subst hij
      refine .inr ⟨i, e, ?_⟩
      have hb : i + y.length ≤ x.length := hi.1
      rw [e2]
      have e3 : Builtin.Str.strSub x 0 i = cutS x none (some (i : Int)) := TL.ext_tl (by
        rw [TL.tl_strSub]
        show _ = sgs (cutS x none (some (i : Int)))
        rw [sgs_cut, cut_take (by omega), Int.toNat_natCast, List.drop_zero, Nat.sub_zero]
        rfl)
      have e4 : Builtin.Str.strSub x (i + y.length) x.length = cutS x (some ((i : Int) + (y.length : Int))) none := TL.ext_tl (by
        rw [TL.tl_strSub_end]
        show _ = sgs (cutS x (some ((i : Int) + (y.length : Int))) none)
        rw [sgs_cut, cut_drop (by omega), show ((i : Int) + (y.length : Int)).toNat = i + y.length by omega]
        rfl)
      rw [e3, e4]
end Kn
/-! KnO: own classes: fields, methods, classmethods, instances made; str(x), x == y by own defs. -/
namespace Kn
open PySem PySem.Spec PyProof.Rows
open L2 hiding St
section
variable {X : Cx} {O : Own} {ρ : List Slot} {x : ExK} {k k' : Slot → Own → Prop} {kl kl' : List Slot → Own → Prop} {e a b c o : Expr} {es : List Expr} {pos p apos pos2 : Pos} {D : SD} {g g' : Bool} {j n : Nat} {S : SpecT} {df : List Dat} {m f : Str}
/-! fields -/
def FldB (K : PySem.W.Frag) (f : Str) (s : Slot) (O : Own) (k : Slot → Own → Prop) : Prop := match s with
  | .own p => ∃ C dx fs s', O p = some (.ins C dx fs) ∧ Cls K C ∧ NoAttr K C f ∧ fs.lookup f = some s' ∧ k s' O
  | .dat (.ins C fs) => ∃ d, Cls K C ∧ NoAttr K C f ∧ fs.lookup f = some d ∧ k (.dat d) O
  | .dat (.tre C d1 g es d2) => ∃ d, Cls K C ∧ NoAttr K C f ∧ f ≠ g ∧ (d1 ++ d2).lookup f = some d ∧ k (.dat d) O
  | _ => False
theorem lookup_skip {α : Type} {f g : Str} {x : α} (ne : f ≠ g) : ∀ {f1 f2 : List (Str × α)}, (f1 ++ (g, x) :: f2).lookup f = (f1 ++ f2).lookup f
  | [], f2 => by
    rw [List.nil_append, List.nil_append, List.lookup_cons]
    have e : (f == g) = false := by simpa using ne
    rw [e]
  | (y, z) :: f1, f2 => by
    rw [List.cons_append, List.cons_append, List.lookup_cons, List.lookup_cons, lookup_skip ne]
theorem rpf_app {K : PySem.W.Frag} {G : Hp} {f2 : List (Str × V)} {d2 : List (Str × Dat)} (h2 : RpF K G f2 d2) : ∀ {f1 : List (Str × V)} {d1 : List (Str × Dat)}, RpF K G f1 d1 → RpF K G (f1 ++ f2) (d1 ++ d2)
  | _, _, .nil => h2
  | _, _, .cons h t => .cons h (rpf_app h2 t)
theorem pairedF_lookup {K : PySem.W.Frag} {G : Hp} {f : Str} {s : Slot} : ∀ {fv : List (Str × V)} {fs : List (Str × Slot)}, Paired (FlOk K G) fv fs → fs.lookup f = some s → ∃ v, fv.lookup f = some v ∧ SlOk K G v s
  | _, _, .nil, h => by cases h
  | (y, v) :: fv, (z, t) :: fs, .cons r q, h => by
    obtain ⟨e, r⟩ := r
    cases e
    rw [List.lookup_cons] at h ⊢
    split at h
    · cases h; rename_i e1; exact ⟨v, rfl, r⟩
    · exact pairedF_lookup q h
theorem pairedF_none {K : PySem.W.Frag} {G : Hp} {f : Str} : ∀ {fv : List (Str × V)} {fs : List (Str × Slot)}, Paired (FlOk K G) fv fs → fs.lookup f = none → fv.lookup f = none
  | _, _, .nil, h => rfl
  | (y, v) :: fv, (z, t) :: fs, .cons r q, h => by
    obtain ⟨e, r⟩ := r
    cases e
    rw [List.lookup_cons] at h ⊢
    split at h
    · cases h
    · exact pairedF_none q h
theorem rpf_none {K : PySem.W.Frag} {G : Hp} {f : Str} : ∀ {fv : List (Str × V)} {fs : List (Str × Dat)}, RpF K G fv fs → fs.lookup f = none → fv.lookup f = none
  | _, _, .nil, h => rfl
  | _, _, .cons r q, h => by
    rw [List.lookup_cons] at h ⊢
    split at h
    · cases h
    · exact rpf_none q h
theorem ew_fld (h : EW X O ρ o x fun s O1 => FldB X.K f s O1 k) (hb : attributeBase o f X.env (eval o X.env) = eval o X.env := by rfl) : EW X O ρ (.Attribute o f pos) x k := fun H0 σ H st tk Q q => by
  refine we_of (pe_fld pe_w hb) (h H0 σ H st tk _ fun v H1 s O1 hk st1 r1 => ?_)
  cases s with
  | unk => exact hk.elim
  | own p =>
    obtain ⟨C, dx, fs, s', hp, c, na, hl, hk⟩ := hk
    obtain ⟨ob, h1, fv, rfl, h2⟩ := st1.own.cell p _ hp
    obtain ⟨w, hw, rw⟩ := pairedF_lookup h2 hl
    exact ⟨p, C, dx, fv, w, r1, h1, c, na, hw, q w H1 s' O1 hk st1 rw⟩
  | dat d =>
    cases d with
    | ins C fs =>
      obtain ⟨d', c, na, hl, hk⟩ := hk
      cases r1 with
      | ins h1 h2 =>
        obtain ⟨w, hw, rw⟩ := h2.lookup hl
        exact ⟨_, C, _, _, w, rfl, hid_le _ _ h1, c, na, hw, q w H1 _ O1 hk st1 rw⟩
    | tre C d1 g es d2 =>
      obtain ⟨d', c, na, ne, hl, hk⟩ := hk
      cases r1 with
      | tre h1 h2 h3 h4 h5 =>
        obtain ⟨w, hw, rw⟩ := (rpf_app h4 h3).lookup hl
        exact ⟨_, C, _, _, w, rfl, hid_le _ _ h1, c, na, by rw [lookup_skip ne]; exact hw, q w H1 _ O1 hk st1 rw⟩
    | _ => exact hk.elim
/-- one field set anew -/
def putS (f : Str) (s : Slot) : List (Str × Slot) → List (Str × Slot)
  | [] => [(f, s)]
  | (g, t) :: r => if g = f then (g, s) :: r else (g, t) :: putS f s r
theorem pairedF_put {K : PySem.W.Frag} {G : Hp} {f : Str} {v : V} {s : Slot} (h : SlOk K G v s) : ∀ {fv : List (Str × V)} {fs : List (Str × Slot)}, Paired (FlOk K G) fv fs → Paired (FlOk K G) (putF f v fv) (putS f s fs)
  | _, _, .nil => .cons ⟨rfl, h⟩ .nil
  | (y, w) :: fv, (z, t) :: fs, .cons r q => by
    obtain ⟨e, r⟩ := r
    cases e
    unfold putF putS
    by_cases hz : y = f
    · rw [if_pos hz, if_pos hz]; exact .cons ⟨rfl, h⟩ q
    · rw [if_neg hz, if_neg hz]; exact .cons ⟨rfl, r⟩ (pairedF_put h q)
theorem st_slot {K : PySem.W.Frag} {H1 H2 : Hp} {O1 O2 : Own} {σ : SV} {ρ : List Slot} {v : V} {s : Slot} (r : SlOk K (hid O1 H1) v s) (st : StOk K (hid O1 H1) O2 σ ρ H2) : SlOk K (hid O2 H2) v s := SlOk.mono st.base r
/-- o.f = e -/
theorem s1_fld (h : EW X O ρ e x fun s O1 => EW X O1 ρ o x fun t O2 => ∃ (p : Addr) (C dx : Addr) (fs : List (Str × Slot)), t = .own p ∧ O2 p = some (.ins C dx fs) ∧ Cls X.K C ∧ NoAttr X.K C f ∧ fs.length < 1000 ∧ D.nx ρ (up O2 p (.ins C dx (putS f s fs))))
    (hs : swapsWith e (some (.Attribute o f pos2)) pos.line X.env = pure false := by rfl) : S1 X O ρ (.Assign [.Attribute o f pos2] e pos) x D := fun H0 σ H st tk E ok => by
  refine ws_of (ps_fld pe_w pe_w hs) (h H0 σ H st tk _ fun v H1 s O1 hk st1 r1 => ?_)
  refine hk _ σ H1 st1.top (takes_base tk st1.base) _ fun w H2 t O2 hq st2 r2 => ?_
  obtain ⟨p, C, dx, fs, rfl, hp, c, na, hl, hn⟩ := hq
  cases r2
  obtain ⟨ob, h1, fv, rfl, h2⟩ := st2.own.cell p _ hp
  refine ⟨p, C, dx, fv, rfl, h1, c, na, by rw [paired_len h2]; exact hl, ?_⟩
  exact ok.nx σ ρ _ _ hn ((st2.rebase st1.base).write hp ⟨_, rfl, pairedF_put (st_slot r1 st2) h2⟩)
/-! methods -/
/-- m is a def of the class at C, with its contract -/
def MCal (P : Program) (w : World) (K : PySem.W.Frag) (mg : Str → Option Value) (base : Heap) (g : Bool) (k : Nat) (C : Addr) (m : Str) (S : SpecT) (df : List Dat) : Prop :=
  ∃ (f : Addr) (fd : FuncData) (ps : List Str) (ds : List Value) (dvs : List V), Meth K C m f ∧ Fn P w K mg base g k f fd ps S ∧ Binds K fd ps ds ∧ Vals dvs ds ∧ ∀ G, RpA K G dvs df
def InsAt (O : Own) (C : Addr) (m : Str) : Slot → Prop
  | .own p => ∃ dx fs, O p = some (.ins C dx fs) ∧ fs.lookup m = none
  | .dat (.ins C' fs) => C' = C ∧ fs.lookup m = none
  | .dat (.tre C' d1 g es d2) => C' = C ∧ m ≠ g ∧ (d1 ++ d2).lookup m = none
  | _ => False
theorem ins_at {K : PySem.W.Frag} {H0 H : Hp} {O : Own} {σ : SV} {ρ : List Slot} {C : Addr} {m : Str} {s : Slot} {v : V} (h : InsAt O C m s) (st : StOk K H0 O σ ρ H) (r : SlOk K (hid O H) v s) :
    ∃ a dx fs, v = .ref a ∧ H a = some (.ins C dx fs) ∧ fs.lookup m = none := by
  cases s with
  | unk => exact h.elim
  | own p =>
    obtain ⟨dx, fs, hp, hl⟩ := h
    obtain ⟨ob, h1, fv, rfl, h2⟩ := st.own.cell p _ hp
    exact ⟨p, dx, fv, r, h1, pairedF_none h2 hl⟩
  | dat d =>
    cases d with
    | ins C' fs =>
      obtain ⟨rfl, hl⟩ := h
      cases r with
      | ins h1 h2 => exact ⟨_, _, _, rfl, hid_le _ _ h1, rpf_none h2 hl⟩
    | tre C' d1 g es d2 =>
      obtain ⟨rfl, ne, hl⟩ := h
      cases r with
      | tre h1 h2 h3 h4 h5 => exact ⟨_, _, _, rfl, hid_le _ _ h1, by rw [lookup_skip ne]; exact rpf_none (rpf_app h4 h3) hl⟩
    | _ => exact h.elim
theorem ew_meth {C : Addr} {pl : Sem Bool} (mc : MCal X.prog X.w X.K X.mg X.base g n C m S df) (c : Cls X.K C) (hr : RoomB g' j X.A)
    (h : EW X O ρ o x fun s O1 => InsAt O1 C m s ∧ AW X O1 ρ (e :: es) x fun ss O2 => S (s :: (ss ++ df.map .dat)) O2 (kOut x ρ k)) (hj : n ≤ j := by decide) (hgg : g = true → g' = true := by first | exact fun _ => rfl | exact fun h => h | exact fun h => nomatch h)
    (hst : starEach (e :: es) X.env = (false, eval e X.env) :: starEach es X.env := by rfl) (hpl : (backTo pos (starEach es X.env)).any (·.1) = false := by rfl)
    (ht : eval (.Call (.Attribute o m apos) (e :: es) [] pos) X.env = (do
      let ov ← eval o X.env
      standAt apos.atName
      let (f, first) ← holding [ov] (getMethod ov m pl)
      callWith pos f first (backTo pos (starEach (e :: es) X.env)) (backToKw pos (keywordEach [] X.env))) := by rfl) :
    EW X O ρ (.Call (.Attribute o m apos) (e :: es) [] pos) x k := fun H0 σ H st tk Q q => ⟨fun pins s I => by
  obtain ⟨f, fd, ps, ds, dvs, hm, F, hb, hd, hdf⟩ := mc
  refine PySem.W.methodCall_KW (pl := pl) (thn ((pe_w (e := o)).run pins s σ H (fun v H1 => ∃ s1 O1, (InsAt O1 C m s1 ∧ AW X O1 ρ (e :: es) x fun ss O2 => S (s1 :: (ss ++ df.map .dat)) O2 (kOut x ρ k)) ∧ StOk X.K H0 O1 σ ρ H1 ∧ SlOk X.K (hid O1 H1) v s1) I (h H0 σ H st tk _ fun v H1 s1 O1 hk st1 r1 => ⟨s1, O1, hk, st1, r1⟩)) fun u s1 hq => ?_) ht
  obtain ⟨v, H1, I1, rx, t, O1, ⟨hi, ha⟩, st1, r1⟩ := hq
  obtain ⟨a, dx, fs, rfl, hHa, hl⟩ := ins_at hi st1 r1
  cases rx
  refine getmeth_ok I1 hHa c hm hl ?_
  refine PySem.W.callWith_K (first := [.ref a]) (h₀ := X.base) I1.ok.mod.kin hm.kp (thn ((pa_w (es := e :: es)).run pos pins s1 σ H1 (fun vs H2 => ∃ ss O2, StOk X.K (hid O1 H1) O2 σ ρ H2 ∧ Paired (SlOk X.K (hid O2 H2)) vs ss ∧ S (t :: (ss ++ df.map .dat)) O2 (kOut x ρ k)) I1 (ha _ σ H1 st1.top (takes_base tk st1.base) _ fun vs H2 ss O2 h2 st2 r2 => ⟨ss, O2, st2, r2, h2⟩)) fun us s2 hq => ?_) hst hpl
  obtain ⟨vs, H2, I2, rv, ss, O2, st2, pr, hS⟩ := hq
  exact ⟨I2.kIn, run_call (us := .ref a :: us) (vs := .ref a :: vs) (ss := t :: ss) F (hr.mono hj hgg) hb hd hdf I2 (st2.rebase st1.base) tk (.cons rfl rv) (.cons (st_slot r1 st2) pr) hS q⟩⟩
theorem ew_meth0 {C : Addr} {pl : Sem Bool} (mc : MCal X.prog X.w X.K X.mg X.base g n C m S df) (c : Cls X.K C) (hr : RoomB g' j X.A)
    (h : EW X O ρ o x fun s O1 => InsAt O1 C m s ∧ S (s :: df.map .dat) O1 (kOut x ρ k)) (hj : n ≤ j := by decide) (hgg : g = true → g' = true := by first | exact fun _ => rfl | exact fun h => h | exact fun h => nomatch h)
    (ht : eval (.Call (.Attribute o m apos) [] [] pos) X.env = (do
      let ov ← eval o X.env
      standAt apos.atName
      let (f, first) ← holding [ov] (getMethod ov m pl)
      callWith pos f first (backTo pos (starEach [] X.env)) (backToKw pos (keywordEach [] X.env))) := by rfl) :
    EW X O ρ (.Call (.Attribute o m apos) [] [] pos) x k := fun H0 σ H st tk Q q => ⟨fun pins s I => by
  obtain ⟨f, fd, ps, ds, dvs, hm, F, hb, hd, hdf⟩ := mc
  refine PySem.W.methodCall_KW (pl := pl) (thn ((pe_w (e := o)).run pins s σ H (fun v H1 => ∃ s1 O1, (InsAt O1 C m s1 ∧ S (s1 :: df.map .dat) O1 (kOut x ρ k)) ∧ StOk X.K H0 O1 σ ρ H1 ∧ SlOk X.K (hid O1 H1) v s1) I (h H0 σ H st tk _ fun v H1 s1 O1 hk st1 r1 => ⟨s1, O1, hk, st1, r1⟩)) fun u s1 hq => ?_) ht
  obtain ⟨v, H1, I1, rx, t, O1, ⟨hi, hS⟩, st1, r1⟩ := hq
  obtain ⟨a, dx, fs, rfl, hHa, hl⟩ := ins_at hi st1 r1
  cases rx
  refine getmeth_ok I1 hHa c hm hl ?_
  exact PySem.W.callWith_K0 (first := [.ref a]) I1.kIn hm.kp (run_call (us := [.ref a]) (vs := [.ref a]) (ss := [t]) F (hr.mono hj hgg) hb hd hdf I1 st1 tk (.cons rfl .nil) (.cons r1 .nil) hS q)⟩
/-! making -/
@[reducible] def kMake (x : ExK) (ρ : List Slot) (k : Slot → Own → Prop) (a : Addr) : Out → Own → Prop
  | .ret s, O => s = .dat .non ∧ k (.own a) O
  | .exc e, O => x e ρ O
/-- the class at C has the __init__ with the contract -/
def MkC (P : Program) (w : World) (K : PySem.W.Frag) (mg : Str → Option Value) (base : Heap) (k : Nat) (C : Addr) (S : SpecT) (df : List Dat) : Prop :=
  ∃ (f : Addr) (fd : FuncData) (ps : List Str) (ds : List Value) (dvs : List V), Mk K C f ∧ Fn P w K mg base false k f fd ps S ∧ Binds K fd ps ds ∧ Vals dvs ds ∧ ∀ G, RpA K G dvs df
def MakeS (C : Addr) (S : SpecT) (df : List Dat) (x : ExK) (ρ : List Slot) (k : Slot → Own → Prop) (ss : List Slot) (O : Own) : Prop :=
  ∀ a dx, O a = none → O dx = none → dx ≠ a → S (.own a :: (ss ++ df.map .dat)) (up O a (.ins C dx [])) (kMake x ρ k a)
theorem run_makeS {C : Addr} {vs : List V} {us : List Value} {ss : List Slot} {pins : List (Addr × Obj)} {s : Shared} {σ : SV} {H0 H : Hp} {Q : VK} (M : MkC X.prog X.w X.K X.mg X.base n C S df) (hr : RoomB g (n + 1) X.A)
    (I : Inv X pins σ H s) (st : StOk X.K H0 O σ ρ H) (tk : Takes X (Wsem X.K H0 x)) (rv : Vals vs us) (pr : Paired (SlOk X.K (hid O H)) vs ss) (h : MakeS C S df x ρ k ss O) (q : ∀ v H' s O', k s O' → StOk X.K H0 O' σ ρ H' → SlOk X.K (hid O' H') v s → Q v H') :
    wpAny (model X.prog X.w) X.A (call (.ref C) us) (EP X pins σ Q) X.xe s := by
  obtain ⟨f, fd, ps, ds, dvs, M, F, hb, hd, hdf⟩ := M
  have fx : H (s.heap.objs.size + 1) = none := I.hok.fresh (Nat.le_succ _)
  have fd0 : H s.heap.objs.size = none := I.hok.fresh (Nat.le_refl _)
  have nxd : s.heap.objs.size ≠ s.heap.objs.size + 1 := Nat.ne_of_lt (Nat.lt_succ_self _)
  have hq := h (s.heap.objs.size + 1) s.heap.objs.size (own_free st.own fx) (own_free st.own fd0) nxd
  have sm : Same H (upd H s.heap.objs.size (.own (s.heap.objs.size + 1))) := same_new fd0
  have st1 := st.grow sm
  have fx1 : (upd H s.heap.objs.size (.own (s.heap.objs.size + 1))) (s.heap.objs.size + 1) = none := by rw [upd_ne nxd.symm]; exact fx
  have st2 := st1.alloc (o := .ins C s.heap.objs.size []) (c := .ins C s.heap.objs.size []) fx1 ⟨[], rfl, .nil⟩
  have I2 := Inv.made (C := C) I
  have gm : Same (hid O H) (hid (up O (s.heap.objs.size + 1) (.ins C s.heap.objs.size [])) (upd (upd H s.heap.objs.size (.own (s.heap.objs.size + 1))) (s.heap.objs.size + 1) (.ins C s.heap.objs.size []))) := fun b u hb => by
    obtain ⟨z1, z2⟩ := of_hid hb
    have nb := ne_of_none z2 fx
    have nd := ne_of_none z2 fd0
    rw [hid_none (by rw [up_ne nb]; exact z1), upd_ne nb, upd_ne nd]
    exact z2
  have r2 : Vals (V.ref (s.heap.objs.size + 1) :: (vs ++ dvs)) (Value.ref (s.heap.objs.size + 1) :: (us ++ ds)) := .cons rfl (rv.append hd)
  have sp : spS X.K S (V.ref (s.heap.objs.size + 1) :: (vs ++ dvs)) (upd (upd H s.heap.objs.size (.own (s.heap.objs.size + 1))) (s.heap.objs.size + 1) (.ins C s.heap.objs.size [])) (fun v H2 => v = .non ∧ Q (.ref (s.heap.objs.size + 1)) H2) (fun cls d H' => Wsem X.K H0 x cls d σ H') :=
    ⟨_, .own (s.heap.objs.size + 1) :: (ss ++ df.map .dat), kMake x ρ k _, st2.own, .cons rfl (paired_app (pmap (fun _ _ z => SlOk.mono gm z) pr) (hdf _).paired), hq,
      fun v H' s' O' h1 h2 h3 h4 => by
        obtain ⟨rfl, h5⟩ := h1
        cases h4
        exact ⟨rfl, q _ H' _ O' h5 (st2.next h2 h3) rfl⟩, fun cls d e H' O' h1 h2 h3 h4 => ⟨e, ρ, O', h1, st2.next h2 h3, h4⟩⟩
  have hl : (Value.ref (s.heap.objs.size + 1) :: us ++ ds).length = ps.length := by
    have e := r2.length
    rw [spS_len F.len _ _ _ _ sp] at e
    exact e.symm
  refine wpAny_call (make_map (f := f) I.kIn M.makes M.init (beq_iff_eq.mp M.fn) (codeAny_mono (F.ok.run _ X.stack _ _ ⟨Value.ref (s.heap.objs.size + 1) :: us, []⟩ (Value.ref (s.heap.objs.size + 1) :: (us ++ ds)) _ _ _ (hr.r.make C us [])
    (I2.env0.make C us []) (hb _ (Value.ref (s.heap.objs.size + 1) :: us) I2.kIn hl) r2 sp) fun r s' hq' => ?_))
  cases r with
  | error e => exact tk e s' (XE.of_call I2 (fun _ _ _ h => h) hq')
  | ok fl =>
    cases fl with
    | ret u =>
      obtain ⟨v, H', I3, rv, ev, q3⟩ := I2.after hq'
      subst ev
      exact ⟨rv, ⟨V.ref (s.heap.objs.size + 1), H', I3, rfl, q3⟩⟩
    | next => exact False.elim hq'
    | brk => exact False.elim hq'
    | cont => exact False.elim hq'
theorem MkC.kp {P : Program} {w : World} {K : PySem.W.Frag} {mg : Str → Option Value} {base : Heap} {C : Addr} (M : MkC P w K mg base n C S df) : PySem.W.keepIn K (.ref C) = true := by
  obtain ⟨f, fd, ps, ds, dvs, M, _⟩ := M
  exact M.kp
/-- C(e, ..), C a name of the module -/
theorem ew_make {C : Addr} {nm : Str} (M : MkC X.prog X.w X.K X.mg X.base n C S df) (hm : X.mg nm = some (.ref C)) (hr : RoomB g j X.A) (h : AW X O ρ (e :: es) x (MakeS C S df x ρ k)) (hj : n + 1 ≤ j := by decide)
    (hg : Gl X nm := by rfl) (hdb : (nm == ("__debug__" : Str)) = false := by decide) (he : starEach (e :: es) X.env = (false, eval e X.env) :: starEach es X.env := by rfl) (hpl : (backTo pos (starEach es X.env)).any (·.1) = false := by rfl) :
    EW X O ρ (.Call (.Name nm p) (e :: es) [] pos) x k := fun H0 σ H st tk Q q => ⟨fun pins s I => by
  refine wpAny_Call_Name_kw (ld_glob I hg hm ?_ hdb)
  refine PySem.W.callWith_K (h₀ := X.base) I.ok.mod.kin M.kp (thn ((pa_w (es := e :: es)).run pos pins s σ H (fun vs H1 => ∃ ss O1, StOk X.K H0 O1 σ ρ H1 ∧ Paired (SlOk X.K (hid O1 H1)) vs ss ∧ MakeS C S df x ρ k ss O1) I (h H0 σ H st tk _ fun vs H1 ss O1 h1 st1 r1 => ⟨ss, O1, st1, r1, h1⟩)) fun us s1 hq => ?_) he hpl
  obtain ⟨vs, H1, I1, rv, ss, O1, st1, pr, hS⟩ := hq
  exact ⟨I1.kIn, run_makeS M (hr.mono hj (fun e => e)) I1 st1 tk rv pr hS q⟩⟩
theorem ew_make0 {C : Addr} {nm : Str} (M : MkC X.prog X.w X.K X.mg X.base n C S df) (hm : X.mg nm = some (.ref C)) (hr : RoomB g j X.A) (h : MakeS C S df x ρ k [] O) (hj : n + 1 ≤ j := by decide)
    (hg : Gl X nm := by rfl) (hdb : (nm == ("__debug__" : Str)) = false := by decide) :
    EW X O ρ (.Call (.Name nm p) [] [] pos) x k := fun H0 σ H st tk Q q => ⟨fun pins s I => by
  refine wpAny_Call_Name_kw (ld_glob I hg hm ?_ hdb)
  exact PySem.W.callWith_K0 I.kIn M.kp (run_makeS (us := []) (vs := []) (ss := []) M (hr.mono hj (fun e => e)) I st tk .nil .nil h q)⟩
/-- cls(e, ..), the i-th slot the class at C -/
theorem ew_makeL (i : Nat) {C : Addr} {nm : Str} (M : MkC X.prog X.w X.K X.mg X.base n C S df) (hr : RoomB g j X.A) (h : AW X O ρ (e :: es) x (MakeS C S df x ρ k)) (hj : n + 1 ≤ j := by decide)
    (hρ : ρ[i]? = some (.dat (.cls C)) := by rfl) (hN : X.N[i]? = some nm := by rfl) (hv : Vis X.env.scope nm := by first | exact Or.inl rfl | exact Or.inr (Or.inl rfl) | exact Or.inr (Or.inr rfl))
    (hdb : (nm == ("__debug__" : Str)) = false := by decide) (hcd : (nm == ("__classdict__" : Str)) = false := by decide) (he : starEach (e :: es) X.env = (false, eval e X.env) :: starEach es X.env := by rfl) (hpl : (backTo pos (starEach es X.env)).any (·.1) = false := by rfl) :
    EW X O ρ (.Call (.Name nm p) (e :: es) [] pos) x k := fun H0 σ H st tk Q q => ⟨fun pins s I => by
  obtain ⟨o0, ho, hs⟩ := paired_get st.env hρ
  obtain ⟨v, rfl, rv⟩ := hs
  cases rv
  refine wpAny_Call_Name_kw (thn ((pe_var (pos := p) hN hv hdb hcd).run pins s σ H (fun v H1 => v = .ref C ∧ H1 = H) I ⟨.ref C, ho, rfl, rfl⟩) fun u s1 ⟨v, H1, I1, r1, q1⟩ => ?_)
  obtain ⟨rfl, rfl⟩ := q1
  cases r1
  refine PySem.W.callWith_K (h₀ := X.base) I1.ok.mod.kin M.kp (thn ((pa_w (es := e :: es)).run pos pins s1 σ H1 (fun vs H1 => ∃ ss O1, StOk X.K H0 O1 σ ρ H1 ∧ Paired (SlOk X.K (hid O1 H1)) vs ss ∧ MakeS C S df x ρ k ss O1) I1 (h H0 σ H1 st tk _ fun vs H1 ss O1 h1 st1 r1 => ⟨ss, O1, st1, r1, h1⟩)) fun us s2 hq => ?_) he hpl
  obtain ⟨vs, H2, I2, rv, ss, O1, st1, pr, hS⟩ := hq
  exact ⟨I2.kIn, run_makeS M (hr.mono hj (fun e => e)) I2 st1 tk rv pr hS q⟩⟩
end
end Kn
/-! KnP: x == y, x != y, str(x) by own defs; classmethods; isinstance of own classes. -/
namespace KnX
open PySem PySem.Spec PyProof.Rows
section
variable {prog : Program} {w : World} {A : Around} {E : Value → Shared → Prop} {s : Shared} {K : PySem.W.Frag} {x C f : Addr} {ox : Obj} {od : Option Obj} {b tb : Value}
theorem ne_entry {Q : Fin → Shared → Prop} (hu : A.units < cLine) (X : K.In s.heap) (I : PySem.W.InstAt s.heap x ox C od) (hs : PySem.W.findIn K (.ref C) "__eq__" = some (some (.ref f))) (hf : PySem.W.isFn K (.ref f) = true)
    (h : wpAny (model prog w) A (call (.ref f) [.ref x, b]) (fun v s' => ∃ t, v = .bool t ∧ Q (.done (.ret (.bool (!t)))) s') E s) : wpAny (model prog w) A (Builtin.«object.__ne__» ⟨[.ref x, b], []⟩) Q E s := by
  unfold Builtin.«object.__ne__»
  refine wpAny_bind (m := slotArgs "__ne__" 1 _) (wpAny_pure ?_)
  refine wpAny_bind (wpAny_cRoomFor hu ?_)
  refine wpAny_bind (m := callSpecialIfBound? (.ref x) "__eq__" [b]) (PySem.W.ifBound_K X I hs hf (wpAny_mono h (fun v s' hv => ?_) fun _ _ e => e))
  obtain ⟨t, rfl, hq⟩ := hv
  exact wpAny_bind (wpAny_truthy_bool (wpAny_pure hq))
theorem call_ne {Q : Value → Shared → Prop} (hu : A.units + 1 < cLine) (X : K.In s.heap) (I : PySem.W.InstAt s.heap x ox C od) (hm : PySem.W.mroIn K C (.type "object") = some true) (hs : PySem.W.findIn K (.ref C) "__eq__" = some (some (.ref f))) (hf : PySem.W.isFn K (.ref f) = true)
    (h : wpAny (model prog w) A.in1 (call (.ref f) [.ref x, b]) (fun v s' => ∃ t, v = .bool t ∧ Q (.bool (!t)) s') E s) : wpAny (model prog w) A (call (.builtin "object.__ne__") [.ref x, b]) Q E s :=
  wpAny_call (codeAny_call_builtin F.cmp_object.ne.plain F.cmpEntry_ne (PySem.W.check_slot F.cmpKind_ne F.cmpSplit_ne (I.type.andThen (PySem.W.looks_mroIn X hm)) (F.cmpArgs_ne _ _) (ne_entry hu X I hs hf h)))
theorem ifBound_ne {M : Model} {args : List Value} {Q : Option Value → Shared → Prop} (X : K.In s.heap) (I : PySem.W.InstAt s.heap x ox C od) (hs : PySem.W.findIn K (.ref C) "__ne__" = some (some (.builtin "object.__ne__")))
    (h : wpAny M A (call (.builtin "object.__ne__") (.ref x :: args)) (fun v => Q (some v)) E s) : wpAny M A (callSpecialIfBound? (.ref x) "__ne__" args) Q E s := by
  simp only [callSpecialIfBound?, bindSpecialIfBound?]
  refine wpAny_holding (wpAny_bind (wpAny_bind (wpAny_bind (I.type.here ((PySem.W.looks_findIn X hs).here ?_)))))
  refine wpAny_bind (wpAny_askSetting (wpAny_ite ?_))
  have fin : wpAny M A (call (.builtin "object.__ne__") ([.ref x] ++ args) >>= fun v => pure (some v)) Q E s := wpAny_bind (wpAny_mono h (fun v s' h' => wpAny_pure h') fun _ _ h' => h')
  split
  · exact wpAny_bind (wpAny_of_eq (F.cmp_object.ne.bind _) (wpAny_pure (by exact fin)))
  · exact wpAny_tryCatch (wpAny_bind (wpAny_of_eq (F.cmp_object.ne.bind _) (wpAny_pure (by exact fin))))
theorem ne_own {Q : Value → Shared → Prop} (hu : A.units + 1 < cLine) (X : K.In s.heap) (I : PySem.W.InstAt s.heap x ox C od) (hb : PySem.W.Looks (model prog w) s.heap (typeOf b) tb) (hn : PySem.W.notFirst K C tb = true)
    (hne : PySem.W.findIn K (.ref C) "__ne__" = some (some (.builtin "object.__ne__"))) (hm : PySem.W.mroIn K C (.type "object") = some true) (hs : PySem.W.findIn K (.ref C) "__eq__" = some (some (.ref f))) (hf : PySem.W.isFn K (.ref f) = true)
    (h : wpAny (model prog w) A.in1 (call (.ref f) [.ref x, b]) (fun v s' => ∃ t, v = .bool t ∧ Q (.bool (!t)) s') E s) : wpAny (model prog w) A (richCompare .NotEq (.ref x) b) Q E s := by
  have one : wpAny (model prog w) A (tryCompare (.ref x) "__ne__" b) (fun r s' => ∃ v, r = some v ∧ Q v s') E s := by
    unfold tryCompare
    refine wpAny_bind (ifBound_ne X I hne (call_ne hu X I hm hs hf (wpAny_mono h (fun v s' hv => ?_) fun _ _ e => e)))
    obtain ⟨t, rfl, hq⟩ := hv
    exact ⟨t, rfl, wpAny_pure ⟨_, rfl, hq⟩⟩
  unfold richCompare
  simp only [oneThing_ref]
  apply wpAny_holding
  apply wpAny_bind
  refine wpAny_cRoomFor (by omega) ?_
  refine wpAny_bind (I.type.here (wpAny_bind (hb.here ?_)))
  have go : ∀ {g : Option Value → Sem Value}, (∀ v, g (some v) = pure v) → wpAny (model prog w) A (tryCompare (.ref x) "__ne__" b >>= g) Q E s := fun is => by
    refine wpAny_bind (wpAny_mono one ?_ fun _ _ => id)
    rintro _ _ ⟨v, rfl, q⟩
    rw [is]
    exact wpAny_pure q
  by_cases other : (Value.ref C != tb) = true
  · have no : PySem.W.subIn K tb (.ref C) = some false := by
      have either : (tb == .ref C) = true ∨ (PySem.W.subIn K tb (.ref C) == some false) = true := by simpa [PySem.W.notFirst] using hn
      refine either.elim (fun same => ?_) eq_of_beq
      simp [eq_of_beq same] at other
    rw [if_pos other]
    refine wpAny_bind ((PySem.W.looks_subIn X no).here (wpAny_ite_false (by rfl) ?_))
    exact go fun _ => rfl
  · rw [if_neg other]
    first
      | exact wpAny_bind (wpAny_pure (wpAny_ite_false (by rfl) (go fun _ => rfl)))
      | exact wpAny_ite_false (by rfl) (go fun _ => rfl)
      | exact go fun _ => rfl
/-! str(x) -/
theorem str_own {Q : Value → Shared → Prop} (hu : A.units + 8 < cLine) (X : K.In s.heap) (I : PySem.W.InstAt s.heap x ox C od) (hs : PySem.W.findIn K (.ref C) "__str__" = some (some (.ref f))) (hf : PySem.W.isFn K (.ref f) = true)
    (h : wpAny (model prog w) A.in1.in1 (call (.ref f) [.ref x]) (fun r s₁ => ∃ z t, r = Value.str z t ∧ Q r s₁) E s) : wpAny (model prog w) A (call (.type "str") [.ref x]) Q E s :=
  PySem.W.kso_call (by show A.units + 2 < cLine; omega) X I hs hf (wpAny_mono h (fun _ _ ⟨_, _, e, q⟩ => by subst e; exact q) fun _ _ => id)
end
end KnX
/-! KnQ: the rules for own ==, !=, str; classmethods; isinstance of own classes. -/
namespace Kn
open PySem PySem.Spec PyProof.Rows
open L2 hiding St
section
variable {X : Cx} {O : Own} {ρ : List Slot} {x : ExK} {k k' : Slot → Own → Prop} {kl kl' : List Slot → Own → Prop} {e a b c o : Expr} {es : List Expr} {pos p apos pos2 : Pos} {D : SD} {g g' : Bool} {j n : Nat} {S : SpecT} {df : List Dat} {m f : Str} {s1 s2 s : Slot}
/-- the class of what a slot holds -/
def tySl (O : Own) (t : Value) : Slot → Prop
  | .dat .non => t = .type "NoneType"
  | .dat (.bl _) => t = .type "bool"
  | .dat (.int _) => t = .type "int"
  | .dat (.str _) => t = .type "str"
  | .dat (.lst _) => t = .type "list"
  | .dat (.tup _) => t = .type "tuple"
  | .dat (.ins C _) => t = .ref C
  | .dat (.tre C _ _ _ _) => t = .ref C
  | .own p => (∃ C dx fs, O p = some (.ins C dx fs) ∧ t = .ref C) ∨ (∃ ss, O p = some (.lst ss) ∧ t = .type "list")
  | _ => False
theorem insAt_of {pins : List (Addr × Obj)} {σ : SV} {H : Hp} {sh : Shared} {a C dx : Addr} {fs : List (Str × V)} (I : Inv X pins σ H sh) (h : H a = some (.ins C dx fs)) : ∃ ox od, PySem.W.InstAt sh.heap a ox C od := by
  obtain ⟨mA, J, _⟩ := ins_get I.hok h
  obtain ⟨od, J, _⟩ := J.look
  exact ⟨_, _, J⟩
theorem looks_ty {t : Value} {H0 H : Hp} {σ σ2 : SV} {ρ' : List Slot} {v : V} {u : Value} {pins : List (Addr × Obj)} {sh : Shared} (h : tySl O t s) (st : StOk X.K H0 O σ2 ρ' H) (r : SlOk X.K (hid O H) v s) (I : Inv X pins σ H sh) (ru : RelV v u) :
    PySem.W.Looks (model X.prog X.w) sh.heap (typeOf u) t := by
  have lstAt : ∀ {a : Addr} {xs : List V}, H a = some (.lst xs) → PySem.W.Looks (model X.prog X.w) sh.heap (typeOf (.ref a)) (.type "list") := fun {a xs} h1 => by
    obtain ⟨z, its, n, r, e⟩ : xs.length ≤ sizeLine ∧ ∃ (its : List Value) (n : Nat), Vals xs its ∧ sh.heap.get? a = some { cls := .type "list", data := .seq its.toArray n } := I.hok a _ h1
    exact (PySem.W.Looks.ld e).andThen .now
  cases s with
  | unk => exact h.elim
  | own q =>
    cases r
    cases ru
    rcases h with ⟨C, dx, fs, h1, rfl⟩ | ⟨ss, h1, rfl⟩
    · obtain ⟨ob, h2, fv, rfl, _⟩ := st.own.cell q _ h1
      obtain ⟨ox, od, J⟩ := insAt_of I h2
      exact J.type
    · obtain ⟨ob, h2, fv, rfl, _⟩ := st.own.cell q _ h1
      exact lstAt h2
  | dat d =>
    cases d with
    | non => cases r; cases ru; obtain rfl := h; exact .of_pure rfl
    | bl b => cases r; cases ru; obtain rfl := h; exact .of_pure rfl
    | int i => cases r; obtain ⟨_, rfl⟩ := ru; obtain rfl := h; exact .of_pure rfl
    | str z => cases r; obtain ⟨_, rfl⟩ := ru; obtain rfl := h; exact .of_pure rfl
    | lst ds =>
      obtain rfl := h
      cases r with
      | lst h1 h2 =>
        cases ru
        exact lstAt (hid_le _ _ h1)
    | tup ds =>
      obtain rfl := h
      cases r with
      | tup h1 h2 =>
        cases ru
        obtain ⟨its, _, ⟨ob, e1, e2, _⟩, _⟩ := I.tuple (sqt_mono hid_le h1)
        exact e2 ▸ (PySem.W.Looks.ld e1).andThen .now
    | ins C fs =>
      obtain rfl := h
      cases r with
      | ins h1 h2 =>
        cases ru
        obtain ⟨ox, od, J⟩ := insAt_of I (hid_le _ _ h1)
        exact J.type
    | tre C d1 g es d2 =>
      obtain rfl := h
      cases r with
      | tre h1 h2 h3 h4 h5 =>
        cases ru
        obtain ⟨ox, od, J⟩ := insAt_of I (hid_le _ _ h1)
        exact J.type
    | _ => exact h.elim
/-- the own __eq__ of the class at C -/
structure EqC (P : Program) (w : World) (K : PySem.W.Frag) (mg : Str → Option Value) (base : Heap) (n : Nat) (C : Addr) (S : SpecT) : Prop where
  ex : ∃ (f : Addr) (fd : FuncData) (ps : List Str), PySem.W.findIn K (.ref C) "__eq__" = some (some (.ref f)) ∧ PySem.W.isFn K (.ref f) = true ∧ Fn P w K mg base false n f fd ps S ∧ Binds K fd ps []
  ne : PySem.W.findIn K (.ref C) "__ne__" = some (some (.builtin "object.__ne__"))
  ob : PySem.W.mroIn K C (.type "object") = some true
@[reducible] def kVal (k : Slot → Own → Prop) : Out → Own → Prop
  | .ret s, O => k s O
  | .exc _, _ => False
/-- run, at some place above the caller -/
theorem run_in {f : Addr} {fd : FuncData} {ps : List Str} {vs : List V} {us : List Value} {ss : List Slot} {pins : List (Addr × Obj)} {sh : Shared} {σ σ2 : SV} {ρ' : List Slot} {H0 H : Hp} {Q : VK} {A : Around}
    (F : Fn X.prog X.w X.K X.mg X.base false n f fd ps S) (hr : Room n A) (e0 : Env0 X.prog X.w X.K X.mg X.base A X.stack sh H) (hb : Binds X.K fd ps []) (I : Inv X pins σ H sh) (st : StOk X.K H0 O σ2 ρ' H) (rv : Vals vs us)
    (pr : Paired (SlOk X.K (hid O H)) vs ss) (hS : S ss O (kVal k)) (q : ∀ v H' s O', k s O' → StOk X.K H0 O' σ2 ρ' H' → SlOk X.K (hid O' H') v s → Q v H') :
    wpAny (model X.prog X.w) A (call (.ref f) us) (EP X pins σ Q) X.xe sh := by
  have sp : spS X.K S vs H Q (fun _ _ _ => False) := ⟨O, ss, kVal k, st.own, pr, hS,
    fun v H' s' O' h1 h2 h3 h4 => q v H' s' O' h1 (st.next h2 h3) h4, fun cls d e H' O' h1 h2 h3 h4 => h1⟩
  have hl : (us ++ []).length = ps.length := by rw [List.append_nil, ← rv.length]; exact spS_len F.len _ _ _ _ sp
  have hb' := hb sh us I.kIn hl
  rw [List.append_nil] at hb'
  refine wpAny_call (codeAny_mono (F.ok.run A X.stack sh H ⟨us, []⟩ us vs Q _ hr e0 hb' rv sp) fun r s' hq => ?_)
  cases r with
  | error e => exact passL pins σ H sh e s' I hq
  | ok fl =>
    cases fl with
    | ret u => exact I.after hq
    | next => exact False.elim hq
    | brk => exact False.elim hq
    | cont => exact False.elim hq
theorem ins_sl {K : PySem.W.Frag} {H0 H : Hp} {σ : SV} {ρ' : List Slot} {C : Addr} {v : V} (h : tySl O (.ref C) s) (st : StOk K H0 O σ ρ' H) (r : SlOk K (hid O H) v s) : ∃ a dx fs, v = .ref a ∧ H a = some (.ins C dx fs) := by
  cases s with
  | unk => exact h.elim
  | own q =>
    rcases h with ⟨C', dx, fs, h1, e⟩ | ⟨ss, h1, e⟩
    · cases e
      obtain ⟨ob, h2, fv, rfl, _⟩ := st.own.cell q _ h1
      exact ⟨q, dx, fv, r, h2⟩
    · cases e
  | dat d =>
    cases d with
    | ins C' fs =>
      have h : Value.ref C = .ref C' := h
      cases h
      cases r with
      | ins h1 h2 => exact ⟨_, _, _, rfl, hid_le _ _ h1⟩
    | tre C' d1 g es d2 =>
      have h : Value.ref C = .ref C' := h
      cases h
      cases r with
      | tre h1 h2 h3 h4 h5 => exact ⟨_, _, _, rfl, hid_le _ _ h1⟩
    | non => exact absurd h (fun e => by cases e)
    | bl _ => exact absurd h (fun e => by cases e)
    | int _ => exact absurd h (fun e => by cases e)
    | str _ => exact absurd h (fun e => by cases e)
    | lst _ => exact absurd h (fun e => by cases e)
    | tup _ => exact absurd h (fun e => by cases e)
    | _ => exact h.elim
theorem ob_ownEq {C : Addr} {tb : Value} (E : EqC X.prog X.w X.K X.mg X.base n C S) (hr : Room n X.A) (h1 : tySl O (.ref C) s1) (h2 : tySl O tb s2) (hn : PySem.W.notFirst X.K C tb = true) (h : S [s1, s2] O (kVal k)) :
    OpB X (compareOp .Eq) s1 s2 O k := by
  obtain ⟨f, fd, ps, hs, hf, F, hb⟩ := E.ex
  refine ⟨fun x y H Q => ∃ (H0 : Hp) (σ2 : SV) (ρ' : List Slot), StOk X.K H0 O σ2 ρ' H ∧ SlOk X.K (hid O H) x s1 ∧ SlOk X.K (hid O H) y s2 ∧ ∀ v H' s O', k s O' → StOk X.K H0 O' σ2 ρ' H' → SlOk X.K (hid O' H') v s → Q v H', ?_, fun H0 σ ρ' H v1 v2 st r1 r2 Q q => ⟨H0, σ, ρ', st, r1, r2, q⟩⟩
  intro pins sh σ H v1 v2 u1 u2 Q I ru1 ru2 hq
  obtain ⟨H0, σ2, ρ', st, r1, r2, q⟩ := hq
  obtain ⟨a, dx, fs, rfl, ha⟩ := ins_sl h1 st r1
  have L := looks_ty h2 st r2 I ru2
  cases ru1
  obtain ⟨ox, od, J⟩ := insAt_of I ha
  obtain ⟨m, hF⟩ := I.fr
  refine PySem.W.cmp_K (op := .Eq) (tb := tb) hr.units0 hF I.ok.mod.kin J L hn hs hf ?_
  refine wpAny_mono (run_in (k := k) F hr I.env0 hb I st (vs := [.ref a, v2]) (.cons rfl (.cons ru2 .nil)) (.cons r1 (.cons r2 .nil)) h q) (fun w s' z => ?_) fun _ _ x => x
  obtain ⟨z', H', I', rz, qz⟩ := z
  exact SlX.cmpback rz ⟨z', H', I', rz, qz⟩
theorem ob_ownNe {C : Addr} {tb : Value} (E : EqC X.prog X.w X.K X.mg X.base n C S) (hr : Room (n + 1) X.A) (h1 : tySl O (.ref C) s1) (h2 : tySl O tb s2) (hn : PySem.W.notFirst X.K C tb = true) (h : S [s1, s2] O (kVal fun s O' => ∃ t, s = .dat (.bl t) ∧ k (.dat (.bl (!t))) O')) :
    OpB X (compareOp .NotEq) s1 s2 O k := by
  obtain ⟨f, fd, ps, hs, hf, F, hb⟩ := E.ex
  refine ⟨fun x y H Q => ∃ (H0 : Hp) (σ2 : SV) (ρ' : List Slot), StOk X.K H0 O σ2 ρ' H ∧ SlOk X.K (hid O H) x s1 ∧ SlOk X.K (hid O H) y s2 ∧ ∀ v H' s O', k s O' → StOk X.K H0 O' σ2 ρ' H' → SlOk X.K (hid O' H') v s → Q v H', ?_, fun H0 σ ρ' H v1 v2 st r1 r2 Q q => ⟨H0, σ, ρ', st, r1, r2, q⟩⟩
  intro pins sh σ H v1 v2 u1 u2 Q I ru1 ru2 hq
  obtain ⟨H0, σ2, ρ', st, r1, r2, q⟩ := hq
  obtain ⟨a, dx, fs, rfl, ha⟩ := ins_sl h1 st r1
  have L := looks_ty h2 st r2 I ru2
  cases ru1
  obtain ⟨ox, od, J⟩ := insAt_of I ha
  refine KnX.ne_own (by have := hr.units; omega) I.kIn J L hn E.ne E.ob hs hf ?_
  refine wpAny_mono (run_in (Q := fun v H' => ∃ t, v = .bl t ∧ Q (.bl (!t)) H') F hr.in1 I.env0.in1 hb I st (vs := [.ref a, v2]) (.cons rfl (.cons ru2 .nil)) (.cons r1 (.cons r2 .nil)) h (fun v H' s O' hk st' r' => ?_)) (fun w s' z => ?_) fun _ _ x => x
  · obtain ⟨t, rfl, hk⟩ := hk
    cases r'
    exact ⟨t, rfl, q _ H' _ O' hk st' (.bl _)⟩
  · obtain ⟨z', H', I', rz, t, rfl, qz⟩ := z
    cases rz
    exact ⟨t, rfl, .bl (!t), H', I', rfl, qz⟩
/-- str(x) by an own __str__ -/
theorem cb_strOwn {C : Addr} {g0 : Addr} {fd : FuncData} {ps : List Str} (hs : PySem.W.findIn X.K (.ref C) "__str__" = some (some (.ref g0))) (hf : PySem.W.isFn X.K (.ref g0) = true) (F : Fn X.prog X.w X.K X.mg X.base false n g0 fd ps S) (hb : Binds X.K fd ps []) (hr : Room (n + 2) X.A)
    (h1 : tySl O (.ref C) s1) (h : S [s1] O (kVal fun s O' => ∃ z, s = .dat (.str z) ∧ k (.dat (.str z)) O')) : CaB X (.type "str") [s1] O k := by
  refine ⟨fun xs H Q => ∃ (x : V) (H0 : Hp) (σ2 : SV) (ρ' : List Slot), xs = [x] ∧ StOk X.K H0 O σ2 ρ' H ∧ SlOk X.K (hid O H) x s1 ∧ ∀ v H' s O', k s O' → StOk X.K H0 O' σ2 ρ' H' → SlOk X.K (hid O' H') v s → Q v H', ?_, fun H0 σ ρ' H vs st pr Q q => ?_⟩
  · intro pins sh σ H xs us Q I r hq
    obtain ⟨x, H0, σ2, ρ', rfl, st, r1, q⟩ := hq
    obtain ⟨a, dx, fs, rfl, ha⟩ := ins_sl h1 st r1
    obtain ⟨u, rfl, ru⟩ := r.one
    cases ru
    obtain ⟨ox, od, J⟩ := insAt_of I ha
    have hr2 : Room n X.A.in1.in1 := (show Room (n + 1) X.A.in1 from Room.in1 hr).in1
    refine KnX.str_own (by have := hr.units; omega) I.kIn J hs hf ?_
    refine wpAny_mono (run_in (Q := fun v H' => ∃ z, v = .str z ∧ Q (.str z) H') F hr2 I.env0.in1.in1 hb I st (vs := [.ref a]) (.cons rfl .nil) (.cons r1 .nil) h (fun v H' s O' hk st' r' => ?_)) (fun w s' z => ?_) fun _ _ x => x
    · obtain ⟨z, rfl, hk⟩ := hk
      cases r'
      exact ⟨z, rfl, q _ H' _ O' hk st' (.str _)⟩
    · obtain ⟨z', H', I', rz, t, rfl, qz⟩ := z
      obtain ⟨tk, rfl⟩ := rz
      exact ⟨t, tk, rfl, .str t, H', I', ⟨tk, rfl⟩, qz⟩
  · cases pr with
    | cons r1 pr =>
      cases pr
      exact ⟨_, H0, σ, ρ', rfl, st, r1, q⟩
/-- isinstance(x, C) -/
def isSl (K : PySem.W.Frag) (O : Own) (t : Value) (s : Slot) : Prop := (∃ d, s = .dat d ∧ tyName d ≠ "" ∧ t = .type (tyName d)) ∨ (∃ C, C8.InsC K C ∧ tySl O (.ref C) s ∧ t = .ref C)
theorem tyX_sl {t : Value} {H0 H : Hp} {σ : SV} {ρ' : List Slot} {v : V} (hs : isSl X.K O t s) (st : StOk X.K H0 O σ ρ' H) (r1 : SlOk X.K (hid O H) v s) : TyX X.K H v t := by
  rcases hs with ⟨d, rfl, hp, rfl⟩ | ⟨C', ic, ht, rfl⟩
  · exact tyX_of hp r1
  · obtain ⟨a, dx, fs, rfl, ha⟩ := ins_sl ht st r1
    exact .base (.ins ha ic.cl ic.ha ic.hn ic.htk ic.hm)
theorem cb_isC {C : Addr} {t : Value} {b : Bool} (hk : PySem.W.kitOne X.K t (.ref C) = some b) (hs : isSl X.K O t s) (h : k (.dat (.bl b)) O) : CaB X (.builtin "isinstance") [s, .dat (.cls C)] O k := ⟨_, call_isi, fun H0 σ ρ H vs st pr Q q => by
  cases pr with
  | cons r1 pr =>
    cases pr with
    | cons r2 pr =>
      cases pr
      cases r2
      exact ⟨_, _, _, _, b, rfl, .own C, tyX_sl hs st r1, hk, q _ H _ O h st (.bl b)⟩⟩
/-! classmethods -/
def CMCal (P : Program) (w : World) (K : PySem.W.Frag) (mg : Str → Option Value) (base : Heap) (g : Bool) (k : Nat) (C : Addr) (m : Str) (S : SpecT) (df : List Dat) : Prop :=
  ∃ (mc : Value) (p f : Addr) (fd : FuncData) (ps : List Str) (ds : List Value) (dvs : List V), ClX.CRead K C mc ∧ ClX.CMet K C mc m p f ∧ Fn P w K mg base g k f fd ps S ∧ Binds K fd ps ds ∧ Vals dvs ds ∧ ∀ G, RpA K G dvs df
theorem run_callC {f : Addr} {fd : FuncData} {ps : List Str} {ds : List Value} {dvs vs : List V} {us : List Value} {ss : List Slot} {pins : List (Addr × Obj)} {s : Shared} {σ : SV} {H0 H : Hp} {Q : VK}
    (F : Fn X.prog X.w X.K X.mg X.base g n f fd ps S) (hr : RoomB g n X.A) (hb : Binds X.K fd ps ds) (hd : Vals dvs ds) (hdf : ∀ G, RpA X.K G dvs df) (I : Inv X pins σ H s) (st : StOk X.K H0 O σ ρ H) (tk : Takes X (Wsem X.K H0 x)) (rv : Vals vs us)
    (pr : Paired (SlOk X.K (hid O H)) vs ss) (hS : S (ss ++ df.map .dat) O (kOut x ρ k)) (q : ∀ v H' s O', k s O' → StOk X.K H0 O' σ ρ H' → SlOk X.K (hid O' H') v s → Q v H') :
    codeAny (model X.prog X.w) X.A (.call (.ref f) ⟨us, []⟩) (fun r s' => match r with | .ok (.ret v) => EP X pins σ Q v s' | .ok _ => False | .error e => X.xe e s') s := by
  have r2 : Vals (vs ++ dvs) (us ++ ds) := rv.append hd
  have sp : spS X.K S (vs ++ dvs) H Q (fun cls d H' => Wsem X.K H0 x cls d σ H') := ⟨O, ss ++ df.map .dat, kOut x ρ k, st.own, paired_app pr (hdf _).paired, hS,
    fun v H' s' O' h1 h2 h3 h4 => q v H' s' O' h1 (st.next h2 h3) h4, fun cls d e H' O' h1 h2 h3 h4 => ⟨e, ρ, O', h1, st.next h2 h3, h4⟩⟩
  have hl : (us ++ ds).length = ps.length := by rw [← r2.length]; exact spS_len F.len _ _ _ _ sp
  refine codeAny_mono (F.run X.A X.stack s H ⟨us, []⟩ (us ++ ds) (vs ++ dvs) Q _ hr I.env0 (hb s us I.kIn hl) r2 sp) fun r s' hq => ?_
  cases r with
  | error e => exact tk e s' (XE.of_call I (fun _ _ _ h => h) hq)
  | ok fl =>
    cases fl with
    | ret u => exact I.after hq
    | next => exact False.elim hq
    | brk => exact False.elim hq
    | cont => exact False.elim hq
theorem ew_cmeth {C : Addr} {pl : Sem Bool} (cm : CMCal X.prog X.w X.K X.mg X.base g n C m S df) (hr : RoomB g' j X.A)
    (h : EW X O ρ o x fun s O1 => s = .dat (.cls C) ∧ AW X O1 ρ (e :: es) x fun ss O2 => S (.dat (.cls C) :: (ss ++ df.map .dat)) O2 (kOut x ρ k)) (hj : n ≤ j := by decide) (hgg : g = true → g' = true := by first | exact fun _ => rfl | exact fun h => h | exact fun h => nomatch h)
    (hst : starEach (e :: es) X.env = (false, eval e X.env) :: starEach es X.env := by rfl) (hpl : (backTo pos (starEach es X.env)).any (·.1) = false := by rfl)
    (ht : eval (.Call (.Attribute o m apos) (e :: es) [] pos) X.env = (do
      let ov ← eval o X.env
      standAt apos.atName
      let (f, first) ← holding [ov] (getMethod ov m pl)
      callWith pos f first (backTo pos (starEach (e :: es) X.env)) (backToKw pos (keywordEach [] X.env))) := by rfl) :
    EW X O ρ (.Call (.Attribute o m apos) (e :: es) [] pos) x k := fun H0 σ H st tk Q q => ⟨fun pins s I => by
  obtain ⟨mc, p, f, fd, ps, ds, dvs, cr, cme, F, hb, hd, hdf⟩ := cm
  refine PySem.W.methodCall_KW (pl := pl) (thn ((pe_w (e := o)).run pins s σ H (fun v H1 => ∃ s1 O1, (s1 = Slot.dat (.cls C) ∧ AW X O1 ρ (e :: es) x fun ss O2 => S (.dat (.cls C) :: (ss ++ df.map .dat)) O2 (kOut x ρ k)) ∧ StOk X.K H0 O1 σ ρ H1 ∧ SlOk X.K (hid O1 H1) v s1) I (h H0 σ H st tk _ fun v H1 s1 O1 hk st1 r1 => ⟨s1, O1, hk, st1, r1⟩)) fun u s1 hq => ?_) ht
  obtain ⟨v, H1, I1, rx, t, O1, ⟨rfl, ha⟩, st1, r1⟩ := hq
  cases r1
  cases rx
  refine ClX.getmethcm_ok I1 cr cme fun s2 I2 => ?_
  refine ClX.callwith_cm I2 (ClX.base_none I1 (Nat.le_refl _)) cme.fi (thn ((pa_w (es := e :: es)).run pos _ s2 σ H1 (fun vs H2 => ∃ ss O2, StOk X.K H0 O2 σ ρ H2 ∧ Paired (SlOk X.K (hid O2 H2)) vs ss ∧ S (.dat (.cls C) :: (ss ++ df.map .dat)) O2 (kOut x ρ k)) I2 (ha H0 σ H1 st1 tk _ fun vs H2 ss O2 h2 st2 r2 => ⟨ss, O2, st2, r2, h2⟩)) fun us s3 hq => ?_) hst hpl
  obtain ⟨vs, H2, I3, rv, ss, O2, st2, pr, hS⟩ := hq
  refine ⟨⟨ClX.pin_at I3, I3.kIn⟩, ?_⟩
  have z := wpAny_call (PySem.W.method_call (ClX.pin_at I3) (run_callC (us := .ref C :: us) (vs := .ref C :: vs) (ss := .dat (.cls C) :: ss) F (hr.mono hj hgg) hb hd hdf I3 st2 tk (.cons rfl rv) (.cons (.cls C) pr) hS q))
  exact thn z fun _ _ y => ClX.unpinE y⟩
end
end Kn
/-! KnT: try with several except clauses, with names or without. -/
namespace Kn
open PySem PySem.Spec PyProof.Rows
open L2 hiding St
/-- a clause: its class, the place of its name, its suite's reading -/
structure Cls1 where
  c : Value
  i : Option Nat
  ts : Addr → Value → Option Addr → TS
def unI (D : Ends) : Option Nat → Ends
  | none => D
  | some j => ⟨fun σ H => D.nx (σ.set j none) H, D.rt, fun σ H => D.bk (σ.set j none) H, fun σ H => D.ct (σ.set j none) H⟩
def inI (σ : SV) (a : Addr) : Option Nat → SV
  | none => σ
  | some j => σ.set j (some (.ref a))
def wAny (K : PySem.W.Frag) (Wo : WX) (D : Ends) : List Cls1 → WX
  | [] => Wo
  | z :: r => fun cls d σ H => ∃ b, PySem.W.exmOne K cls z.c = some b ∧ (b = true → ∀ a, H a = none → z.ts a cls d (unI D z.i) (inI σ a z.i) H) ∧ (b = false → wAny K Wo D r cls d σ H)
def nmOf (X : Cx) (nn : Option Str) (i : Option Nat) : Prop := match nn, i with
  | none, none => True
  | some n, some j => X.N[j]? = some n ∧ X.env.kindOf n = some .local
  | _, _ => False
inductive HdAny (X : Cx) : List ExceptHandler → List Cls1 → Prop
  | nil : HdAny X [] []
  | cons {x : Str} {c : Value} {i : Option Nat} {nn : Option Str} {ts : Addr → Value → Option Addr → TS} {b₀ : Stmt} {suite : List Stmt} {np pos' : Pos} {hds : List ExceptHandler} {l : List Cls1} (hc : Names X x c) (hn : nmOf X nn i)
      (hsu : ∀ (a : Addr) (oe : Obj) (cls : Value) (d : Option Addr) (pn : List (Addr × Obj)), Zc cls d oe → (∃ vs, oe.data = .fields vs) → PSs (X.suite a ((a, oe) :: pn)) (b₀ :: suite) (ts a cls d)) (r : HdAny X hds l) :
      HdAny X (.ExceptHandler (some (.Name x np)) nn (b₀ :: suite) pos' :: hds) (⟨c, i, ts⟩ :: l)
/-- an exception at a that has come down to our frame; s0: the state in which it was let out -/
structure Down (X : Cx) (pins : List (Addr × Obj)) (σ : SV) (H : Hp) (cls : Value) (d : Option Addr) (a : Addr) (B : Heap) (s0 s : Shared) : Prop where
  inv : Inv X pins σ H s0
  ground : ∀ b o, s0.heap.get? b = some o → b ∉ frs X.stack → B.get? b = some o
  fly : HandSPX.FlyingZ B X.stack a (Zc cls d) s.heap
  up : s0.heap.UpToSlots s.heap
  free : H a = none
  os : s.os = s0.os
  bare : AllBare s.gens
section
variable {X : Cx} {pins : List (Addr × Obj)} {σ : SV} {H : Hp} {cls : Value} {d : Option Addr} {a : Addr} {B : Heap} {s0 s : Shared} {oe : Obj}
theorem Down.now (w : Down X pins σ H cls d a B s0 s) : Inv X pins σ H s := w.inv.landed w.ground w.fly.1 w.up w.os w.bare
theorem Down.move (w : Down X pins σ H cls d a B s0 s) {h : Heap} (f : HandSPX.FlyingZ B X.stack a (Zc cls d) h) (u : s.heap.UpToSlots h) : Down X pins σ H cls d a B s0 { s with heap := h } :=
  { w with fly := f, up := w.up.trans u }
/-- the frame's note is taken away -/
theorem Down.quiet (w : Down X pins σ H cls d a B s0 s) {M : Model} {A : Around} {E : Value → Shared → Prop} {Q : Unit → Shared → Prop} (k : ∀ t, Down X pins σ H cls d a B s0 t → Q () t) : wpAny M A (setFlight (.ref a) none) Q E s :=
  HandSPX.lands_againZ w.fly fun _ f u => k _ (w.move f u)
theorem Down.obj (w : Down X pins σ H cls d a B s0 s) : ∃ oe, s.heap.get? a = some oe ∧ Zc cls d oe ∧ ∃ vs, oe.data = .fields vs :=
  let ⟨oe, vs, h1, h2, h3⟩ := w.fly.there
  ⟨oe, h1, h2, vs, h3⟩
/-- no frame lies where it lies -/
theorem Down.noFrame (w : Down X pins σ H cls d a B s0 s) {b : Addr} (hb : b ∈ frs X.stack) : a ≠ b := by
  rintro rfl
  obtain ⟨oe, h1, _, vs, h3⟩ := w.obj
  obtain ⟨_, o, h4, h5⟩ := w.fly.2.2.1.mem hb
  rw [h1] at h4
  cases h4
  exact h5 vs h3
theorem Down.enter (w : Down X pins σ H cls d a B s0 s) (hs : X.stack = X.env :: X.outer) (hf : X.env.frame = some X.env.locals) (h : s.heap.get? a = some oe) (hd : ∃ vs, oe.data = .fields vs) : Inv (X.suite a ((a, oe) :: (X.pn ++ pins))) [] σ H s := by
  obtain ⟨vs, hd⟩ := hd
  have top : X.env.locals ∈ frs X.stack := by
    rw [hs]
    exact List.mem_filterMap.mpr ⟨X.env, .head _, hf⟩
  refine w.now.suite h hd w.free (w.noFrame top) fun hm => ?_
  have sub : a ∈ frs X.stack := by
    obtain ⟨e, h1, h2⟩ := List.mem_filterMap.mp hm
    rw [hs]
    exact List.mem_filterMap.mpr ⟨e, .tail _ h1, h2⟩
  exact w.noFrame sub rfl
/-- no clause is left: it goes on, out of our frame -/
theorem Down.goesOn (w : Down X pins σ H cls d a B s0 s) (hf : X.env.frame = some X.env.locals) {Wo : WX} (tk : Takes X Wo) (hw : Wo cls d σ H) {Q : Flow → Shared → Prop} : wpAny (model X.prog X.w) X.A (handleBy (.ref a) X.env []) Q X.xe s := by
  refine wpAny_handleBy_nil ?_
  have out : wpAny (model X.prog X.w) X.A (setFlight (.ref a) X.env.frame) (fun _ t => wpAny (model X.prog X.w) X.A (throw (.ref a) : Sem Flow) Q X.xe t) X.xe s := by
    rw [hf]
    exact HandSPX.setFlight_upZ w.fly fun h held u => wpAny_throw (tk _ _ ⟨a, B, s0, pins, σ, H, cls, d, rfl, w.inv, w.ground, w.up.trans u, .inr (.inr held), w.free, w.os, w.bare, hw⟩)
  obtain ⟨_, _, _, oe, vs, T, _, _, h1, _, h2, h3, _⟩ := w.fly
  have noted : ¬ (Value.ref T == Value.none) = true := by simp
  show wpAny _ _ (passOn _ _ _) _ _ _
  unfold PySem.passOn
  refine wpAny_bind (wpAny_field h1 h2 h3 ?_)
  rw [if_neg noted]
  first
    | exact wpAny_bind (wpAny_pure (wpAny_bind out))
    | exact wpAny_bind out
theorem suite_out {q : Addr × Obj} {E : Ends} {f : Flow} {t : Shared} (ok : X.Ok) (sp : SP (X.suite a (q :: (X.pn ++ pins))) [] E f t) : SP X pins E f t := by
  cases f with
  | next => exact sp.imp fun _ => Exists.imp fun _ => And.imp_left fun I => I.unsuite ok
  | brk => exact sp.imp fun _ => Exists.imp fun _ => And.imp_left fun I => I.unsuite ok
  | cont => exact sp.imp fun _ => Exists.imp fun _ => And.imp_left fun I => I.unsuite ok
  | ret u => exact sp.imp fun _ => Exists.imp fun _ => Exists.imp fun _ => And.imp_left fun I => I.unsuite ok
/-- the clause's name goes -/
theorem name_gone {D : Ends} {f : Flow} {t : Shared} {j : Nat} {n : Str} {pos : Pos} {M : Model} {A : Around} {E : Value → Shared → Prop} (hN : X.N.Nodup) (hi : X.N[j]? = some n) (hl : X.env.kindOf n = some .local) (sp : SP X pins (unI D (some j)) f t) :
    wpAny M A (do bindName X.env n .none; unbindBehindTheSuite X.env n pos) (fun _ t' => SP X pins D f t') E t := by
  cases f with
  | next => obtain ⟨σ', H', I, h⟩ := sp; exact gone_ok I hN hi hl fun _ J => ⟨_, _, J, h⟩
  | brk => obtain ⟨σ', H', I, h⟩ := sp; exact gone_ok I hN hi hl fun _ J => ⟨_, _, J, h⟩
  | cont => obtain ⟨σ', H', I, h⟩ := sp; exact gone_ok I hN hi hl fun _ J => ⟨_, _, J, h⟩
  | ret u => obtain ⟨v, σ', H', I, r, h⟩ := sp; exact gone_ok I hN hi hl fun _ J => ⟨v, _, _, J, r, h⟩
/-- a clause's class, while the exception is handled -/
theorem Down.asks (w : Down X pins σ H cls d a B s0 s) (hs : X.stack = X.env :: X.outer) (hf : X.env.frame = some X.env.locals) {nm : Str} {c : Value} {np : Pos} (is : Names X nm c) {Q E : Value → Shared → Prop} (k : Q c s) :
    wpAny (model X.prog X.w) (X.A.mark (some (.ref a))) (eval (.Name nm np) X.env) Q E s := by
  obtain ⟨oe, h1, _, h3⟩ := w.obj
  have I := w.enter hs hf h1 h3
  rcases is with ⟨glob, nodbg, known | ⟨known, boot, notNone⟩⟩
  · exact ld_glob (X := X.suite a _) I glob known k nodbg
  · exact ld_blt (X := X.suite a _) I glob known boot k notNone nodbg
/-- the clauses one after the other -/
theorem Down.handled (w : Down X pins σ H cls d a B s0 s) (hs : X.stack = X.env :: X.outer) (hf : X.env.frame = some X.env.locals) (hN : X.N.Nodup) {Wo : WX} (tk : Takes X Wo) {D : Ends} {ks : List ExceptHandler} {l : List Cls1} (hk : HdAny X ks l) :
    wAny X.K Wo D l cls d σ H → wpAny (model X.prog X.w) X.A (handleBy (.ref a) X.env ks) (SP X pins D) X.xe s := by
  induction hk with
  | nil => exact fun hw => w.goesOn hf tk hw
  | @cons nm c i nn ts b₀ suite np pos' more l' is place runs _ ih =>
    rintro ⟨b, meets, yes, no⟩
    refine wpAny_handleBy_cons (codeAny_handlers_test (w.asks hs hf is ?_)) (fun q => nomatch q)
    obtain ⟨oe, here, z, _⟩ := w.obj
    have kind : PySem.W.Looks (model X.prog X.w) s.heap (typeOf (.ref a)) cls := fun _ _ _ _ k q => wpAny_typeOf_ref (k _ _ here) (z.1.symm ▸ q)
    refine (PySem.W.exm_one w.now.kIn kind meets).here ?_
    match b, yes, no with
    | false, _, no => exact ih (no rfl)
    | true, yes, _ =>
      match nn, i, place with
      | none, none, _ =>
        refine codeAny_handlers_suite (w.quiet fun t w' => ?_)
        obtain ⟨oe', here', z', fl'⟩ := w'.obj
        exact wpAny_mono ((runs a oe' cls d (X.pn ++ pins) z' fl').run [] _ _ H _ (w'.enter hs hf here' fl') (yes rfl a w.free)) (fun f t' sp => suite_out w.inv.ok sp) fun _ _ => False.elim
      | some n, some j, ⟨at_, loc⟩ =>
        refine codeAny_handlers_suite_as (w.quiet fun t w' => ?_)
        obtain ⟨oe', here', z', fl'⟩ := w'.obj
        refine store_ok (X := X.suite a _) (v := .ref a) (w'.enter hs hf here' fl') hN at_ (.inl loc) rfl (fun t2 I2 => ?_) (.inr loc)
        exact wpAny_mono ((runs a oe' cls d (X.pn ++ pins) z' fl').run [] t2 _ H _ I2 (yes rfl a w.free)) (fun f t' sp => name_gone hN at_ loc (suite_out w.inv.ok sp)) fun _ _ => False.elim
end
/-- try, with any clauses that name classes -/
theorem ps_try_any {X : Cx} {body : List Stmt} {h1 : ExceptHandler} {hds : List ExceptHandler} {l : List Cls1} {pos : Pos} {tb : WX → TS} {Wo : WX} (hs : X.stack = X.env :: X.outer) (hf : X.env.frame = some X.env.locals) (hN : X.N.Nodup) (tk : Takes X Wo)
    (within : ∀ (W : WX) (pn : List (Addr × Obj)) (xe : Value → Shared → Prop), Takes (X.tr pn xe) W → PassesOwn (model X.prog X.w) X.A X.env xe → PSs (X.tr pn xe) body (tb W)) (clauses : HdAny X (h1 :: hds) l) :
    PS X (.Try body (h1 :: hds) [] [] pos) (fun D σ H => tb (wAny X.K Wo D l) D σ H) := by
  constructor
  intro pins s σ H D I h
  have frames : X.A.frames = some (X.env :: X.outer) := hs ▸ I.ok.frames
  refine wpAny_Try_except (wpAny_mono ((within _ (X.pn ++ pins) _ (fun u t raised => ?_) PassesOwn.looking).run [] s σ H D (I.toTry _) h) (fun f t left => ?_) fun _ _ => id)
  · obtain ⟨a, B, t0, _, σ', H', cls, d, rfl, J, ground, up, sky, free, os, bare, want⟩ := raised
    have J := J.ofTry (pins := pins) I.ok
    refine Sky.land Zc.steady frames hf (hs ▸ sky) fun h2 fly up2 => ?_
    have w : Down X pins σ' H' cls d a B t0 { t with heap := h2 } := ⟨J, ground, hs ▸ fly, up.trans up2, free, os, bare⟩
    exact w.handled hs hf hN tk clauses want
  · cases f with
    | next => exact wpAny_execs_nil (left.imp fun _ => Exists.imp fun _ => And.imp_left fun J => J.ofTry I.ok)
    | brk => exact left.imp fun _ => Exists.imp fun _ => And.imp_left fun J => J.ofTry I.ok
    | cont => exact left.imp fun _ => Exists.imp fun _ => And.imp_left fun J => J.ofTry I.ok
    | ret u => exact left.imp fun _ => Exists.imp fun _ => Exists.imp fun _ => And.imp_left fun J => J.ofTry I.ok
/-- the clauses, in the words of the layer -/
structure Hd where
  c : Value
  i : Option Nat
  b : Stmt
  su : List Stmt
def unD (D : SD) : Option Nat → SD
  | none => D
  | some j => { nx := fun ρ2 O2 => D.nx (ρ2.set j .unk) O2, rt := D.rt, bk := fun ρ2 O2 => D.bk (ρ2.set j .unk) O2, ct := fun ρ2 O2 => D.ct (ρ2.set j .unk) O2 }
def Caught (X : Cx) (D : SD) (x : ExK) : List Hd → ExK
  | [] => x
  | z :: r => fun e ρ O => ∃ t, ExMt X.K e z.c t ∧ (t = true → Suite X z.i (z.b :: z.su) (unD D z.i) e ρ O) ∧ (t = false → Caught X D x r e ρ O)
inductive HdsAre (X : Cx) : List ExceptHandler → List Hd → Prop
  | nil : HdsAre X [] []
  | cons {x : Str} {c : Value} {i : Option Nat} {nn : Option Str} {b₀ : Stmt} {suite : List Stmt} {np pos' : Pos} {hds : List ExceptHandler} {l : List Hd} (hc : Names X x c) (hn : nmOf X nn i) (r : HdsAre X hds l) :
      HdsAre X (.ExceptHandler (some (.Name x np)) nn (b₀ :: suite) pos' :: hds) (⟨c, i, b₀, suite⟩ :: l)
section
variable {X : Cx} {O : Own} {ρ : List Slot} {x : ExK} {D : SD} {pos : Pos} {body : List Stmt}
def tsOf (X : Cx) (z : Hd) : Addr → Value → Option Addr → TS := fun a cls d D σ H => ∀ oe pn, Zc cls d oe → (∃ vs, oe.data = .fields vs) → Wss (X.suite a ((a, oe) :: pn)) (z.b :: z.su) D σ H
theorem hds_any : ∀ {hds : List ExceptHandler} {l : List Hd}, HdsAre X hds l → HdAny X hds (l.map fun z => ⟨z.c, z.i, tsOf X z⟩)
  | _, _, .nil => .nil
  | _, _, .cons hc hn r => .cons hc hn (fun a oe cls d pn hz hf => ⟨fun pins s σ H D I q => (q oe pn hz hf).r pins s I⟩) (hds_any r)
theorem rpa_cls {K : PySem.W.Frag} {G : Hp} : ∀ {vs : List V} {Cs : List Addr}, RpA K G vs (Cs.map .cls) → vs = Cs.map V.ref
  | _, [], h => by cases h; rfl
  | _, C :: Cs, h => by
    cases h with
    | cons h1 h2 =>
      cases h1
      rw [rpa_cls h2]; rfl
theorem vals_ref : ∀ {Cs : List Addr} {us : List Value}, Vals (Cs.map V.ref) us → us = Cs.map Value.ref
  | [], _, h => by cases h; rfl
  | C :: Cs, _, h => by
    cases h with
    | cons h1 h2 =>
      cases h1
      rw [vals_ref h2]; rfl
/-- in a suite: isinstance(e, (C, ..)) of the caught e -/
theorem cb_isET {k : Slot → Own → Prop} {aa dd C : Addr} {Cs : List Addr} {oe : Obj} {pn : List (Addr × Obj)} {fs : List (Str × Dat)} {t : Bool} (T : ExcC X.K C) (hz : Zc (.ref C) (some dd) oe) (hf : ∃ vs, oe.data = .fields vs) (hk : PySem.W.kitAny X.K (.ref C) (Cs.map .ref) = some t) (h : k (.dat (.bl t)) O) :
    CaB (X.suite aa ((aa, oe) :: pn)) (.builtin "isinstance") [.dat (.exc aa dd fs), .dat (.tup (Cs.map .cls))] O k := by
  refine ⟨fun xs H Q => ∃ tp, xs = [.ref aa, .ref tp] ∧ (∃ fv, H dd = some (.xd fv)) ∧ SqT X.K H tp (Cs.map V.ref) ∧ Q (.bl t) H, ?_, ?_⟩
  · intro pins s σ H xs us Q I r hq
    obtain ⟨tp, rfl, ⟨fv, hdd⟩, htp, q⟩ := hq
    cases r with
    | cons rx rr =>
      cases rr with
      | cons rt rr =>
        cases rr
        cases rx
        cases rt
        obtain ⟨hget, _⟩ := I.pin (aa, oe) (List.mem_append.mpr (.inl List.mem_cons_self))
        obtain ⟨vs, hv⟩ := hf
        have hx : ObjOk X.prog X.w H s.heap dd (.xd fv) := I.hok dd _ hdd
        obtain ⟨mA, hns, _⟩ := hx
        obtain ⟨od, ho, _⟩ := lookIn_ns hns
        have J : PySem.W.InstAt s.heap aa oe C (some od) := ⟨hget, hz.1, by unfold PySem.W.notCls; rw [hv] <;> rfl, by rw [hz.2]; exact ho⟩
        obtain ⟨its, rv, ⟨o, e1, e2, n, e3⟩, _⟩ := I.tuple htp
        have ev := vals_ref rv
        subst ev
        obtain ⟨oc, od2, dt, sl⟩ := o
        simp only at e2 e3
        subst e2 e3
        exact PySem.W.kia_tup (kit_exc T) I.kIn ⟨_, J⟩ e1 hk (fun z => nomatch z) fun tk => ⟨.bl t, H, I.kept (t' := tk) fun _ _ z => z, rfl, q⟩
  · intro H0 σ ρ H vs st pr Q q
    cases pr with
    | cons r1 pr =>
      cases pr with
      | cons r2 pr =>
        cases pr
        cases r1 with
        | exc h3 h4 =>
          cases r2 with
          | tup h5 h6 =>
            rw [rpa_cls h6] at h5
            exact ⟨_, rfl, ⟨_, hid_le _ _ h3⟩, sqt_mono hid_le h5, q _ H _ O h st (.bl t)⟩
theorem s1_try {h1 : ExceptHandler} {hds : List ExceptHandler} (l : List Hd) (hN : X.N.Nodup) (hh : HdsAre X (h1 :: hds) l)
    (h : ∀ (pn : List (Addr × Obj)) (xe : Value → Shared → Prop), PassesOwn (model X.prog X.w) X.A X.env xe → SW (X.tr pn xe) O ρ body (Caught X D x l) D)
    (hs : X.stack = X.env :: X.outer := by rfl) (hf : X.env.frame = some X.env.locals := by rfl) :
    S1 X O ρ (.Try body (h1 :: hds) [] [] pos) x D := fun H0 σ H st tk E ok => by
  refine ws_of (ps_try_any (X := X) (tb := fun W D σ H => ∀ pn xe, Takes (X.tr pn xe) W → PassesOwn (model X.prog X.w) X.A X.env xe → Wss (X.tr pn xe) body D σ H)
    hs hf hN tk (fun W pn xe tkW hpo => ⟨fun pins s σ H D I q => (q pn xe tkW hpo).r pins s I⟩) (hds_any hh)) ?_
  intro pn xe tkW hpo
  refine h pn xe hpo H0 σ H st (tkW.imp fun cls d σ' H' hw => ?_) E ok
  obtain ⟨ex, ρ', O', hc, st', hx⟩ := hw
  clear hh h tkW
  induction l with
  | nil => exact ⟨ex, ρ', O', hc, st', hx⟩
  | cons z r ih =>
    obtain ⟨t, hm, hy, hn⟩ := hc
    refine ⟨t, exMt_of hm hx, fun ht a ha oe pn' hz hf' => ?_, fun ht => ih (hn ht)⟩
    obtain ⟨c, i, b0, su⟩ := z
    cases i with
    | none => exact suite_of (i := none) (hy ht) st' hx ha hz hf' ok
    | some j => exact suite_of (i := some j) (hy ht) st' hx ha hz hf' ⟨fun σ2 ρ2 O2 H2 q s => ok.nx _ _ O2 H2 q (s.unset j), ok.rt, fun σ2 ρ2 O2 H2 q s => ok.bk _ _ O2 H2 q (s.unset j), fun σ2 ρ2 O2 H2 q s => ok.ct _ _ O2 H2 q (s.unset j)⟩
end
end Kn
/-! KnU: what the written part holds of own classes. -/
namespace Kn
open PySem PySem.Spec PyProof.Rows
open L2 hiding St
/-- an own class by its name -/
structure ClsIn (K : PySem.W.Frag) (nm : Str) (C : Addr) : Prop where
  at_ : PySem.W.nsIn K mainGlobals nm = some (some (.ref C))
  ins : C8.InsC K C
  mks : PySem.W.makesIn K C = true
  kp : PySem.W.keepIn K (.ref C) = true
  rd : ClX.CRead K C (.type "type")
  ne : PySem.W.findIn K (.ref C) "__ne__" = some (some (.builtin "object.__ne__"))
theorem kit_self {K : PySem.W.Frag} {C : Addr} : PySem.W.kitOne K (.ref C) (.ref C) = some true := by
  unfold PySem.W.kitOne
  exact if_pos (by simp)
theorem sub_in {K : PySem.W.Frag} {m n : Str} {C C2 : Addr} {b : Bool} (h1 : PySem.W.nsIn K mainGlobals m = some (some (.ref C))) (h2 : PySem.W.nsIn K mainGlobals n = some (some (.ref C2))) (h3 : PySem.W.subIn K (.ref C) (.ref C2) = some b) :
    ∃ C C2, PySem.W.nsIn K mainGlobals m = some (some (.ref C)) ∧ PySem.W.nsIn K mainGlobals n = some (some (.ref C2)) ∧ PySem.W.subIn K (.ref C) (.ref C2) = some b := ⟨C, C2, h1, h2, h3⟩
theorem subT_in {K : PySem.W.Frag} {m : Str} {t : String} {C : Addr} {b : Bool} (h1 : PySem.W.nsIn K mainGlobals m = some (some (.ref C))) (h3 : PySem.W.subIn K (.ref C) (.type t) = some b) :
    ∃ C, PySem.W.nsIn K mainGlobals m = some (some (.ref C)) ∧ PySem.W.subIn K (.ref C) (.type t) = some b := ⟨C, h1, h3⟩
theorem cls_in {K : PySem.W.Frag} {m : Str} {C : Addr} (h1 : PySem.W.nsIn K mainGlobals m = some (some (.ref C))) (h2 : PySem.W.isClsIn K C = true) (h3 : PySem.W.typeIn K (.ref C) = some (.type "type")) :
    ∃ C, PySem.W.nsIn K mainGlobals m = some (some (.ref C)) ∧ PySem.W.isClsIn K C = true ∧ PySem.W.typeIn K (.ref C) = some (.type "type") := ⟨C, h1, h2, h3⟩
/-- what kitOne and exmOne ask of a class -/
theorem kit_of_sub {K : PySem.W.Frag} {t : Value} {B : Addr} {b : Bool} (ne : t ≠ .ref B) (bcl : PySem.W.isClsIn K B = true) (bty : PySem.W.typeIn K (.ref B) = some (.type "type")) (sup : PySem.W.subIn K t (.ref B) = some b) : PySem.W.kitOne K t (.ref B) = some b := by
  unfold PySem.W.kitOne
  rw [if_neg (by simpa using ne)]
  have e1 : ((PySem.W.clsIn K B).isSome && PySem.W.typeIn K (.ref B) == some (.type "type")) = true := by
    rw [bty]
    rw [show (PySem.W.clsIn K B).isSome = true from bcl]
    rfl
  show (if ((PySem.W.clsIn K B).isSome && PySem.W.typeIn K (.ref B) == some (.type "type")) = true then _ else _) = _
  rw [if_pos e1]
  exact sup
theorem kit_of_subT {K : PySem.W.Frag} {C : Addr} {n : String} {b : Bool} (hm : PySem.W.kitMeta n = true) (sup : PySem.W.subIn K (.ref C) (.type n) = some b) : PySem.W.kitOne K (.ref C) (.type n) = some b := by
  unfold PySem.W.kitOne
  rw [if_neg (by simp)]
  show (if PySem.W.kitMeta n = true then _ else _) = _
  rw [if_pos hm]
  exact sup
/-- an int under a module's name -/
def IntIn (K : PySem.W.Frag) (nm : Str) (i : Int) : Prop := ∃ t, PySem.W.nsIn K mainGlobals nm = some (some (.int i t))
theorem int_in {K : PySem.W.Frag} {nm : Str} {i : Int} {t : Tok} (a : PySem.W.nsIn K mainGlobals nm = some (some (.int i t))) : IntIn K nm i := ⟨t, a⟩
theorem IntIn.glob {K : PySem.W.Frag} {mg : Str → Option Value} {nm : Str} {i : Int} (h : IntIn K nm i) (T : TopOf K mg) : GlobD K mg nm (.int i) := by
  obtain ⟨t, a⟩ := h
  exact ⟨.int i, .int i t, T.is a, ⟨t, rfl⟩, fun G => .int i⟩
/-- a def of it -/
structure MethIn (K : PySem.W.Frag) (C : Addr) (m qual : Str) (st : Stmt) : Prop where
  ex : ∃ (f : Addr) (fd : FuncData), Meth K C m f ∧ L2.Fun K m qual st f fd
/-- a def of it with one default -/
structure MethInD (K : PySem.W.Frag) (C : Addr) (m qual : Str) (st : Stmt) (n : Nat) : Prop where
  ex : ∃ (f : Addr) (fd : FuncData) (dvs : List V), dvs.length = n ∧ dvs ≠ [] ∧ Meth K C m f ∧ L2.FunD K m qual (defArgs st) (defBody st) (defScope st) dvs [] f fd
/-- a classmethod of it -/
structure CMethIn (K : PySem.W.Frag) (C : Addr) (m qual : Str) (st : Stmt) : Prop where
  ex : ∃ (p f : Addr) (fd : FuncData), ClX.CMet K C (.type "type") m p f ∧ L2.Fun K m qual st f fd
section
variable {K : PySem.W.Frag} {C : Addr} {m qual : Str} {st : Stmt}
theorem meth_in {f : Addr} {oc : Value} {od an : Option Addr} {osl : Array (Option Value)} {kV doc pm cdv ct : Value} (h1 : PySem.W.findIn K (.ref C) m = some (some (.ref f))) (h2 : PySem.W.isFn K (.ref f) = true)
    (l : K.lookup f = some ⟨oc, od, .func (PySem.W.fnOf m qual (defArgs st) (defBody st) (defScope st) .none kV doc pm an cdv ct), osl⟩) (c : PySem.W.codeIn K cdv qual = true) (k : PySem.W.keepIn K (.ref f) = true) : MethIn K C m qual st :=
  ⟨f, _, ⟨h1, h2, k⟩, fun_mk l c k⟩
theorem cmeth_in {p f : Addr} {rest : List Value} {oc : Value} {od an : Option Addr} {osl : Array (Option Value)} {kV doc pm cdv ct : Value} (h1 : PySem.W.findCls K (.ref C) (.type "type") m = some (.get (.builtin "classmethod.__get__") (.ref p) .none (.ref C))) (h2 : PySem.W.recIn K p "classmethod" = some (.ref f :: rest)) (h3 : PySem.W.fnIn K f = true)
    (l : K.lookup f = some ⟨oc, od, .func (PySem.W.fnOf m qual (defArgs st) (defBody st) (defScope st) .none kV doc pm an cdv ct), osl⟩) (c : PySem.W.codeIn K cdv qual = true) (k : PySem.W.keepIn K (.ref f) = true) : CMethIn K C m qual st :=
  ⟨p, f, _, ⟨h1, ⟨_, h2⟩, h3⟩, fun_mk l c k⟩
/-- one default that is an object of the text -/
theorem methD_in {f T d : Addr} {o : Obj} {n : Nat} {oc : Value} {od an : Option Addr} {osl : Array (Option Value)} {kV doc pm cdv ct : Value} (h1 : PySem.W.findIn K (.ref C) m = some (some (.ref f))) (h2 : PySem.W.isFn K (.ref f) = true)
    (l : K.lookup f = some ⟨oc, od, .func (PySem.W.fnOf m qual (defArgs st) (defBody st) (defScope st) (.ref T) kV doc pm an cdv ct), osl⟩) (c : PySem.W.codeIn K cdv qual = true) (k : PySem.W.keepIn K (.ref f) = true)
    (lT : K.lookup T = some o) (hT : o.data = .seq #[.ref d] n) : MethInD K C m qual st 1 :=
  ⟨f, _, [.ref d], rfl, (fun e => nomatch e), ⟨h1, h2, k⟩, ⟨⟨oc, od, _, kV, doc, pm, an, cdv, ct, osl, rfl, l, c, .inr ⟨(fun e => nomatch e), T, o, [.ref d], n, rfl, lT, hT, .cons rfl .nil⟩, .inl rfl⟩, k⟩⟩
/-- how the arguments of a method bind -/
def MBindsAs (m qual : Str) (st : Stmt) (ps : List Str) : Prop := ∀ (kV doc pm : Value) (an : Option Addr) (cdv ct : Value) (us : List Value), us.length = ps.length →
  bindArgs (PySem.W.fnOf m qual (defArgs st) (defBody st) (defScope st) .none kV doc pm an cdv ct) ⟨us, []⟩ = pure (ps.zip us)
/-- .. with defaults that are not wanted -/
def MBindsD (m qual : Str) (st : Stmt) (ps : List Str) (n : Nat) : Prop := ∀ (T : Addr) (kV doc pm : Value) (an : Option Addr) (cdv ct : Value) (us its : List Value), us.length = ps.length → its.length = n →
  ∃ k, bindArgs (PySem.W.fnOf m qual (defArgs st) (defBody st) (defScope st) (.ref T) kV doc pm an cdv ct) ⟨us, []⟩ = seqItems? (.ref T) >>= k ∧ k (some its.toArray) = pure (ps.zip us)
theorem mbinds {ps : List Str} {f : Addr} {fd : FuncData} (F : L2.Fun K m qual st f fd) (h : MBindsAs m qual st ps) : Binds K fd ps [] := by
  obtain ⟨oc, od, kV, doc, pm, an, cdv, ct, osl, rfl, _, _⟩ := F.ex
  exact Binds.all fun us hl => h _ _ _ _ _ _ us hl
theorem mbindsD {ps : List Str} {f : Addr} {fd : FuncData} {dvs : List V} (F : L2.FunD K m qual (defArgs st) (defBody st) (defScope st) dvs [] f fd) (hd : dvs ≠ []) (h : MBindsD m qual st ps dvs.length) : Binds K fd ps [] := by
  obtain ⟨ds, hv, hb⟩ := F.binds1 (ps := ps) ps.length dvs.length hd (by omega) fun T kV doc pm an cdv ct us its h1 h2 => by
    obtain ⟨k, e1, e2⟩ := h T kV doc pm an cdv ct us its h1 h2
    exact ⟨k, e1, by rw [← h2, List.drop_length, List.append_nil]; exact e2⟩
  rw [List.drop_length] at hv
  cases hv
  exact hb
section
variable {P : Program} {w : World} {mg : Str → Option Value} {base : Heap} {g : Bool} {k : Nat} {ps : List Str} {S : SpecT} {nm : Str}
theorem mcal_of (D : MethIn K C m qual st) (b : MBindsAs m qual st ps) (h : ∀ f fd, L2.Fun K m qual st f fd → Fn P w K mg base g k f fd ps S) : MCal P w K mg base g k C m S [] := by
  obtain ⟨f, fd, hm, F⟩ := D.ex
  exact ⟨f, fd, ps, [], [], hm, h f fd F, mbinds F b, .nil, fun _ => .nil⟩
theorem cmcal_of (I : ClsIn K nm C) (D : CMethIn K C m qual st) (b : MBindsAs m qual st ps) (h : ∀ f fd, L2.Fun K m qual st f fd → Fn P w K mg base g k f fd ps S) : CMCal P w K mg base g k C m S [] := by
  obtain ⟨p, f, fd, hm, F⟩ := D.ex
  exact ⟨_, p, f, fd, ps, [], [], I.rd, hm, h f fd F, mbinds F b, .nil, fun _ => .nil⟩
theorem mkc_of (I : ClsIn K nm C) (D : MethIn K C "__init__" qual st) (b : MBindsAs "__init__" qual st ps) (h : ∀ f fd, L2.Fun K "__init__" qual st f fd → Fn P w K mg base false k f fd ps S) : MkC P w K mg base k C S [] := by
  obtain ⟨f, fd, hm, F⟩ := D.ex
  exact ⟨f, fd, ps, [], [], ⟨I.mks, hm.at_, hm.fn, I.kp⟩, h f fd F, mbinds F b, .nil, fun _ => .nil⟩
theorem mkc_ofD {n : Nat} (I : ClsIn K nm C) (D : MethInD K C "__init__" qual st n) (b : MBindsD "__init__" qual st ps n) (h : ∀ f fd, FunX K "__init__" qual st f fd → Fn P w K mg base false k f fd ps S) : MkC P w K mg base k C S [] := by
  obtain ⟨f, fd, dvs, hl, hd, hm, F⟩ := D.ex
  subst hl
  exact ⟨f, fd, ps, [], [], ⟨I.mks, hm.at_, hm.fn, I.kp⟩, h f fd (funX_ofD F), mbindsD F hd b, .nil, fun _ => .nil⟩
theorem eqc_of (I : ClsIn K nm C) (D : MethIn K C "__eq__" qual st) (b : MBindsAs "__eq__" qual st ps) (h : ∀ f fd, L2.Fun K "__eq__" qual st f fd → Fn P w K mg base false k f fd ps S) : EqC P w K mg base k C S := by
  obtain ⟨f, fd, hm, F⟩ := D.ex
  exact ⟨⟨f, fd, ps, hm.at_, hm.fn, h f fd F, mbinds F b⟩, I.ne, I.ins.hm⟩
end
end
end Kn
/-! KnV: comparisons of lists that may still change; a caught exception's built-in class. -/
namespace Kn
open PySem PySem.Spec PyProof.Rows
open L2 hiding St
section
variable {X : Cx} {O : Own} {ρ : List Slot} {x : ExK} {k : Slot → Own → Prop}
/-- what a slot shows as data -/
inductive asD (O : Own) : Slot → Dat → Prop
  | dat (d : Dat) : asD O (.dat d) d
  | own {p : Addr} {ds : List Dat} (h : O p = some (.lst (ds.map .dat))) : asD O (.own p) (.lst ds)
theorem asD_rp {K : PySem.W.Frag} {H0 H : Hp} {σ : SV} {ρ' : List Slot} {s : Slot} {d : Dat} {v : V} (a : asD O s d) (st : StOk K H0 O σ ρ' H) (r : SlOk K (hid O H) v s) : Rp K H v d := by
  cases a with
  | dat d => exact Rp.tk r
  | own h =>
    cases r
    exact Rp.tk (st.own.lst h)
theorem ob_eqA {s1 s2 : Slot} {d1 d2 : Dat} (hr : Room 0 X.A) (a1 : asD O s1 d1) (a2 : asD O s2 d2) (p1 : plain d1 = true) (p2 : plain d2 = true) (h1 : SeqAt.shaped (toPy d1) = true) (h2 : SeqAt.shaped (toPy d2) = true) (h : k (.dat (.bl (eqD d1 d2))) O) : OpB X (compareOp .Eq) s1 s2 O k :=
  ⟨_, op_eqD hr.units, fun H0 σ ρ H v1 v2 st r1 r2 Q q => ⟨_, _, Rp.dp p1 (asD_rp a1 st r1), Rp.dp p2 (asD_rp a2 st r2), h1, h2, q _ H _ O h st (.bl _)⟩⟩
theorem ob_neA {s1 s2 : Slot} {d1 d2 : Dat} (hr : Room 0 X.A) (a1 : asD O s1 d1) (a2 : asD O s2 d2) (p1 : plain d1 = true) (p2 : plain d2 = true) (h1 : SeqAt.shaped (toPy d1) = true) (h2 : SeqAt.shaped (toPy d2) = true) (h : k (.dat (.bl (!eqD d1 d2))) O) : OpB X (compareOp .NotEq) s1 s2 O k :=
  ⟨_, op_neD hr.units, fun H0 σ ρ H v1 v2 st r1 r2 Q q => ⟨_, _, Rp.dp p1 (asD_rp a1 st r1), Rp.dp p2 (asD_rp a2 st r2), h1, h2, q _ H _ O h st (.bl _)⟩⟩
/-- in a suite: isinstance(e, C), C a built-in class -/
theorem cb_isEB {aa dd C : Addr} {n : String} {oe : Obj} {pn : List (Addr × Obj)} {fs : List (Str × Dat)} {t : Bool} (T : ExcC X.K C) (hz : Zc (.ref C) (some dd) oe) (hf : ∃ vs, oe.data = .fields vs) (hk : PySem.W.kitOne X.K (.ref C) (.type n) = some t) (h : k (.dat (.bl t)) O) :
    CaB (X.suite aa ((aa, oe) :: pn)) (.builtin "isinstance") [.dat (.exc aa dd fs), .dat (.ty n)] O k := by
  refine ⟨fun xs H Q => xs = [.ref aa, .ty n] ∧ (∃ fv, H dd = some (.xd fv)) ∧ Q (.bl t) H, ?_, ?_⟩
  · intro pins s σ H xs us Q I r hq
    obtain ⟨rfl, ⟨fv, hdd⟩, q⟩ := hq
    cases r with
    | cons rx rr =>
      cases rr with
      | cons rt rr =>
        cases rr
        cases rx
        cases rt
        obtain ⟨hget, _⟩ := I.pin (aa, oe) (List.mem_append.mpr (.inl List.mem_cons_self))
        obtain ⟨vs, hv⟩ := hf
        have hx : ObjOk X.prog X.w H s.heap dd (.xd fv) := I.hok dd _ hdd
        obtain ⟨mA, hns, _⟩ := hx
        obtain ⟨od, ho, _⟩ := lookIn_ns hns
        have J : PySem.W.InstAt s.heap aa oe C (some od) := ⟨hget, hz.1, by unfold PySem.W.notCls; rw [hv] <;> rfl, by rw [hz.2]; exact ho⟩
        exact PySem.W.kia_one (kit_exc T) I.kIn ⟨_, J⟩ hk (fun z => nomatch z) fun tk => ⟨.bl t, H, I.kept (t' := tk) fun _ _ z => z, rfl, q⟩
  · intro H0 σ ρ H vs st pr Q q
    cases pr with
    | cons r1 pr =>
      cases pr with
      | cons r2 pr =>
        cases pr
        cases r1 with
        | exc h3 h4 =>
          cases r2
          exact ⟨rfl, ⟨_, hid_le _ _ h3⟩, q _ H _ O h st (.bl t)⟩
end
end Kn
/-! KnY: a comprehension's block, out of which an exception may fly. -/
namespace KnX
open PySem PySem.Spec PyProof.Rows L2
/-! ### the walk through a comprehension: the block is known by its Env till its end -/
/-- what the block's code has to reach; an exception finds the very Env -/
def Gone (M : Model) (A : Around) (E : Value → Shared → Prop) (use : Option (Value → Sem Unit)) (Q : Value → Shared → Prop) (acc : Value) (ce : Env) : Result → Shared → Prop
  | .ok f, t => compPost M A E use Q acc ce.locals (.ok f) t
  | .error u, t => ∃ m, t.heap.Ns ce.locals m ∧ ∀ h, Heap.SameBut ce.locals t.heap h → wpAny M A (PySem.passOn "comprehension.variables-let-go" u ce : Sem Value) (fun _ _ => False) E { t with heap := h }
theorem kind_kept {scope : Scope} {env : Env} (hn : ∀ x ∈ scope.names, x.2 = .local → scope.names.lookup x.1 = some .local) {ce : Env} (he : ce.scope = relabel scope env) {x : Str × NameKind} (hx : x ∈ scope.names) (hl : x.2 = .local) : ce.kindOf x.1 = some .local := by
  show ce.scope.names.lookup x.1 = _
  rw [he]
  exact lookup_relabel_local (hn x hx hl)
section
variable {M : Model} {A : Around} {E : Value → Shared → Prop} {s : Shared} {env : Env}
theorem then_ {α β : Type} {m : Sem α} {f : α → Sem β} {P : α → Shared → Prop} {Q : β → Shared → Prop} {s : Shared} (h : wpAny M A m P E s) (k : ∀ a t, P a t → wpAny M A (f a) Q E t) : wpAny M A (m >>= f) Q E s :=
  wpAny_bind (wpAny_mono h k fun _ _ => id)
theorem comp_walk {e : Expr} {scope : Scope} {pos : Pos} {newAcc first : Sem Value} {g : Comprehension} {gs : List Comprehension} {cl : List (Str × Addr)} {use : Option (Value → Sem Unit)} {Q : Value → Shared → Prop} {P1 : Value → Shared → Prop} {P4 : Value → Value → Env → Shared → Prop}
    (c1 : clausesOf e = g :: gs) (c2 : ∀ x, foldedSetIterable g.iter env x = pure x) (c3 : closureFor scope env = pure cl) (c4 : scope.kind = .function) (c5 : ∀ x ∈ scope.names, x.2 = .local → scope.names.lookup x.1 = some .local)
    (h1 : wpAny M A first P1 E s) (h2 : ∀ x t, P1 x t → wpAny M A (pyIter x) (fun it t => wpAny M A newAcc (fun acc t => wpAny M A (newFunctionEnv scope env.globals cl [] env.qual none .none (some env)) (P4 it acc) E t) E t) E t)
    (h3 : ∀ it acc ce t, P4 it acc ce t → codeAny M A (.compStart e 0 it acc { ce with scope := relabel scope env }) (Gone M A E use Q acc { ce with scope := relabel scope env }) t) :
    wpAny M A (comprehension e scope env pos newAcc false first use) Q E s := by
  unfold comprehension
  rw [c1, c3]
  refine then_ h1 fun x t q1 => ?_
  apply wpAny_bind
  apply wpAny_standAt
  apply wpAny_bind
  refine wpAny_of_eq (c2 x) ?_
  refine then_ (wpAny_holding (h2 x t q1)) fun it t q2 => ?_
  refine wpAny_standIf ?_
  refine then_ q2 fun acc t q3 => ?_
  apply wpAny_bind
  refine wpAny_pure ?_
  refine then_ q3 fun ce t q4 => ?_
  have body := h3 it acc ce t q4
  revert body
  generalize hb : ({ ce with scope := relabel scope env } : Env) = be
  intro body
  have hsc : be.scope = relabel scope env := by rw [← hb]
  have fn : be.scope.kind = .function := by rw [hsc]; exact c4
  have okAll : ∀ l : List (Str × NameKind), (∀ x ∈ l, x ∈ scope.names) → ∀ x ∈ l, x.2 = .local → be.kindOf x.1 = some .local := fun l hl x hx hk => kind_kept c5 hsc (hl x hx) hk
  have inV : ∀ x ∈ (scope.names.filter fun x => (x.2 == .local || x.2 == .cell) && x.1 != (".0" : Str)).reverse, x ∈ scope.names := fun x hx => (List.mem_filter.mp (List.mem_reverse.mp hx)).1
  have inW : ∀ x ∈ (scope.names.filter fun x => (x.2 == .local || x.2 == .cell) && x.1 != (".0" : Str)).reverse.drop 1 ++ (scope.names.filter fun x => (x.2 == .local || x.2 == .cell) && x.1 != (".0" : Str)).reverse.take 1, x ∈ scope.names := fun x hx => by
    refine inV x ?_
    rcases List.mem_append.mp hx with z | z
    · exact List.mem_of_mem_drop z
    · exact List.mem_of_mem_take z
  dsimp only
  subst hb
  apply wpAny_holding
  apply wpAny_bind
  apply wpAny_attempt
  apply wpAny_holding
  refine wpAny_run (codeAny_mono body fun r t left => ?_)
  rcases r with u | f
  · obtain ⟨m, ns, out⟩ := left
    apply wpAny_bind
    apply wpAny_holding
    refine wpAny_comp_letGo fn _ t m (okAll _ inV) ns fun h _ _ same => ?_
    exact wpAny_mono (out h same) (fun _ _ z => z.elim) fun _ _ => id
  · rcases use with _ | u
    · obtain ⟨m, ns, out⟩ := left
      apply wpAny_bind
      apply wpAny_holding
      exact wpAny_comp_letGo fn _ t m (okAll _ inV) ns fun h _ _ same => wpAny_pure (out h same)
    · apply wpAny_bind
      apply wpAny_rule
      refine then_ (wpAny_holding left) fun _ t ⟨m, ns, out⟩ => ?_
      apply wpAny_bind
      exact wpAny_comp_letGo fn _ t m (okAll _ inW) ns fun h _ _ same => wpAny_pure (out h same)
end
/-! ### what leaves a block -/
/-- an exception that a call within X let out -/
def Flies (X : Cx) (W : XK) (u : Value) (t : Shared) : Prop :=
  ∃ (a : Addr) (B : Heap) (s0 : Shared) (pins : List (Addr × Obj)) (σ : L2.St) (H : Hp) (cls : Value) (d : Option Addr), u = .ref a ∧ Kn.Down X pins σ H cls d a B s0 t ∧ W cls d H
/-- a traced exception's note -/
theorem traced_note {h B B' : Heap} {a : Addr} {Z Z' : Obj → Prop} {x y : Value} (p : HandSPX.TracedZ h B a Z x) (q : HandSPX.TracedZ h B' a Z' y) : x = y := by
  obtain ⟨o1, f1, T1, p1, t1, a1, _, a2, a3, _, _, a4, a5, a6⟩ := p
  obtain ⟨o2, f2, T2, p2, t2, b1, _, b2, b3, _, _, b4, b5, b6⟩ := q
  obtain rfl : o1 = o2 := Option.some.inj (a1.symm.trans b1)
  obtain rfl : f1 = f2 := by rw [a2] at b2; cases b2; rfl
  obtain rfl : T1 = T2 := by rw [a3] at b3; cases b3; rfl
  obtain rfl := Option.some.inj (a4.symm.trans b4)
  rw [a5] at b5
  cases b5
  exact Option.some.inj (a6.symm.trans b6)
/-- of all that may be in the air, a call lets out what flies -/
theorem Flies.of_call {X : Cx} {pins : List (Addr × Obj)} {σ : L2.St} {H : Hp} {s s' : Shared} {E W : XK} (I : Inv X pins σ H s) (hW : ∀ cls d H', E cls d H' → W cls d H') {u : Value} (c : L2.CX X.prog X.w X.stack H s E u s') : Flies X W u s' := by
  have x : XE X (fun cls d _ H' => W cls d H') u s' := XE.of_call I hW c
  obtain ⟨a, B, s0, pins', σ', H', cls, d, same, J, ground, up, sky, free, os, bare, want⟩ := x
  obtain ⟨a', _, _, _, _, same', fly, _⟩ := c
  obtain rfl : a = a' := Value.ref.inj (same.symm.trans same')
  have noted := fly.2.2.2
  refine ⟨a, B, s0, pins', σ', H', cls, d, same, ⟨J, ground, ?_, up, free, os, bare⟩, want⟩
  rcases sky with ⟨_, _, _, oe, vs, here, _, data, bare1⟩ | flying | held
  · obtain ⟨oe', vs', T, _, _, here', _, data', traced, _⟩ := noted
    obtain rfl : oe = oe' := Option.some.inj (here.symm.trans here')
    rw [data] at data'
    cases data'
    rw [bare1] at traced
    cases traced
  · exact flying
  · have z := traced_note noted held.2.2.2
    cases z
/-- the context of a block whose exceptions come to xe -/
abbrev blkE (X : Cx) (s : Shared) (H : Hp) (scope : Scope) (ce : Env) (fp : List Addr) (xe : Value → Shared → Prop) : Cx := { X.blk s H scope ce fp with xe := xe }
/-- the context of a block out of which W may fly -/
abbrev blkX (X : Cx) (W : XK) (s : Shared) (H : Hp) (scope : Scope) (ce : Env) (fp : List Addr) : Cx := blkE X s H scope ce fp (Flies (X.blk s H scope ce fp) W)
section
variable {X : Cx} {xe xe' : Value → Shared → Prop} {s0 s : Shared} {H H0 : Hp} {scope : Scope} {ce : Env} {fp : List Addr} {pins : List (Addr × Obj)} {σ : L2.St}
theorem ok_blkE (I : (blkE X s H scope ce fp xe).Ok) : (blkE X s H scope ce fp xe').Ok :=
  ⟨I.mod, I.kind, I.glob, I.blt, I.above, I.inj, I.has, I.cab, I.hd, I.frames, I.stk, I.exf, I.bs, I.bsz, I.noex, I.exfs, I.funs, I.frf⟩
theorem inv_blkE (I : Inv (blkE X s0 H0 scope ce fp xe) pins σ H s) : Inv (blkE X s0 H0 scope ce fp xe') pins σ H s :=
  ⟨ok_blkE I.ok, I.os, I.bare, I.base, I.loc, I.cell, I.free, I.freeC, I.pin, I.hok, I.len⟩
theorem of_blkX {W : XK} (I : Inv (blkX X W s0 H0 scope ce fp) pins σ H s) : Inv (X.blk s0 H0 scope ce fp) pins σ H s := inv_blkE (xe' := fun _ _ => False) I
end
theorem note_same {e : Value} {env env' : Env} (h : env.frame = env'.frame) : noteFrame e env = noteFrame e env' := by
  unfold noteFrame PySem.frameOf
  rw [h]
theorem pass_same {α : Type} {t : String} {e : Value} {env env' : Env} (h : env.frame = env'.frame) : (PySem.passOn t e env : Sem α) = PySem.passOn t e env' := by
  unfold PySem.passOn
  rw [h]
/-! ### the block's frame is let go while the exception is held -/
/-- a heap without what lies at C -/
theorem without (h : Heap) (C : Addr) : ∃ G : Heap, (∀ b o, G.get? b = some o ↔ b ≠ C ∧ h.get? b = some o) ∧ G.get? C = none := by
  obtain ⟨G, on, off⟩ := restrict h fun b => decide (b ≠ C)
  have gone : G.get? C = none := off C (by simp)
  refine ⟨G, fun b o => ?_, gone⟩
  by_cases z : b = C
  · rw [z, gone]
    exact Iff.intro (fun q => by cases q) fun q => absurd rfl q.1
  · rw [on b (by simp [z])]
    exact ⟨fun q => ⟨z, q⟩, And.right⟩
/-- frames that are not at C stand without it -/
theorem frames_stay {h h' B B' : Heap} {C : Addr} (k : ∀ b, b ≠ C → h'.get? b = h.get? b) (kb : ∀ b, B.get? b = none → B'.get? b = none) (l : List Env) : C ∉ frs l → h.FunFrames B l → h'.FunFrames B' l := by
  induction l with
  | nil => exact fun _ _ => trivial
  | cons env rest ih =>
    intro hC
    rintro ⟨kind, ⟨L, o, at_, new, obj, dat⟩, more⟩
    have split : frs (env :: rest) = L :: frs rest := by
      show (env :: rest).filterMap (·.frame) = _
      rw [List.filterMap_cons, at_]; rfl
    rw [split, List.mem_cons, not_or] at hC
    exact ⟨kind, ⟨L, o, at_, kb L new, (k L (Ne.symm hC.1)).trans obj, dat⟩, ih hC.2 more⟩
/-- what flies out of the block is in the air of the def -/
theorem flies_out {X : Cx} {W : XK} {Wo : WX} {pins : List (Addr × Obj)} {s3 s' : Shared} {σ : L2.St} {H3 : Hp} {scope : Scope} {ce : Env} {fp : List Addr} {u : Value}
    (hs : X.stack = X.env :: X.outer) (hf : X.env.frame = some X.env.locals) (I3 : Inv X pins σ H3 s3) (fo : ∀ H', H' ce.locals = none → FpOk X pins H' ce.locals) (ff : ∀ b ∈ fp, (b ∈ X.ex ∨ X.s_0.heap.objs.size ≤ b) ∧ b ≠ X.env.locals ∧ (∀ x c, X.env.cells.lookup x = some c → c ≠ b) ∧ ∀ p ∈ X.pn ++ pins, p.1 ≠ b)
    (hce : ce.frame = X.env.frame) (tk : Takes X Wo) (hW : ∀ cls d H', W cls d H' → Wo cls d σ H') (x : Flies (X.blk s3 H3 scope ce fp) W u s') {E₁ : Value → Shared → Prop} :
    wpAny (model X.prog X.w) X.A (noteFrame u ce) (fun _ s'' => ∃ m, s''.heap.Ns ce.locals m ∧ ∀ h', Heap.SameBut ce.locals s''.heap h' →
      wpAny (model X.prog X.w) X.A (PySem.passOn "comprehension.variables-let-go" u ce : Sem Value) (fun _ _ => False) X.xe { s'' with heap := h' }) E₁ s' := by
  obtain ⟨a, B, s0, pins', σ', H', cls, d, rfl, w, want⟩ := x
  have ground : ∀ b o, s0.heap.get? b = some o → b ∉ frs X.stack → B.get? b = some o := w.ground
  have fly : HandSPX.FlyingZ B (X.env :: X.outer) a (Zc cls d) s'.heap := hs ▸ w.fly
  have noC : H' ce.locals = none := w.inv.free
  have F := fo H' noC
  have notFrame : ce.locals ∉ frs (X.env :: X.outer) := fun z => by
    obtain ⟨env, z1, z2⟩ := List.mem_filterMap.mp z
    rcases List.mem_cons.mp z1 with q | q
    · subst q
      rw [hf] at z2
      exact F.2.1 (Option.some.inj z2).symm
    · exact F.2.2.1 (List.mem_filterMap.mpr ⟨env, q, z2⟩)
  have outerInv : Inv X pins σ H' s0 := I3.call' (ch := fp) w.inv.os w.inv.base w.inv.hok w.inv.bare ff
  obtain ⟨m, ns, _⟩ := w.inv.loc
  obtain ⟨oC, es, ep, atC, dC⟩ := id (show s0.heap.Ns ce.locals m from ns)
  have bC : B.get? ce.locals = some oC := ground _ _ atC (hs ▸ notFrame)
  rw [note_same hce]
  refine HandSPX.looks_onZ (s := s') Zc.steady (by rw [I3.ok.frames, hs]) hf fly fun h1 held up1 => ?_
  obtain ⟨stays, newA, frames, traced⟩ := held
  refine ⟨m, ⟨oC, es, ep, stays _ _ bC, dC⟩, fun h' sb => ?_⟩
  rw [pass_same hce]
  obtain ⟨B', b1, bgone⟩ := without B ce.locals
  obtain ⟨G, g1, _⟩ := without s0.heap ce.locals
  have bnone : ∀ b, B.get? b = none → B'.get? b = none := fun b e => by
    rcases q : B'.get? b with _ | o
    · rfl
    · rw [((b1 b o).mp q).2] at e; cases e
  have stays' : B'.StaysIn h' := fun b o e => (sb.2 b ((b1 b o).mp e).1).trans (stays b o ((b1 b o).mp e).2)
  have frames' : h'.FunFrames B' (X.env :: X.outer) := frames_stay sb.2 bnone _ notFrame frames
  have neC : ∀ {b}, B.get? b = none → b ≠ ce.locals := fun e z => by rw [z, bC] at e; cases e
  obtain ⟨oe, vs, T, oT, ts, here, zc, dat, at1, newT, neT, hereT, datT, at3⟩ := traced
  have here' := (sb.2 a (neC newA)).trans here
  have traced' : HandSPX.TracedZ h' B' a (Zc cls d) (rawInt X.env.locals) := ⟨oe, vs, T, oT, ts, here', zc, dat, at1, bnone T newT, neT, (sb.2 T (neC newT)).trans hereT, datT, at3⟩
  have up' : G.UpToSlots h' := fun b o e nd => by
    obtain ⟨z, q⟩ := (g1 b o).mp e
    obtain ⟨sl1, q1⟩ := w.up b o q nd
    obtain ⟨sl2, q2⟩ := up1 b _ q1 nd
    exact ⟨sl2, (sb.2 b z).trans q2⟩
  have innerInv : Inv X pins σ H' { s0 with heap := G } := outerInv.turned (t' := s0.toks) (fun b o z e => (g1 b o).mpr ⟨z, e⟩) F.1 F.2.1 F.2.2.2.1 F.2.2.2.2.1 F.2.2.2.2.2
  have air : wpAny (model X.prog X.w) X.A (setFlight (.ref a) X.env.frame) (fun _ t => wpAny (model X.prog X.w) X.A (throw (.ref a) : Sem Value) (fun _ _ => False) X.xe t) X.xe { s' with heap := h' } := by
    rw [hf]
    refine HandSPX.setFlight_anyZ (s := { s' with heap := h' }) stays' frames' traced' fun h4 k1 k2 k3 k4 => wpAny_throw (tk _ _ ?_)
    refine ⟨a, B', { s0 with heap := G }, pins, σ, H', cls, d, rfl, innerInv, fun b o e nf => ?_, fun b o e nd => ?_, .inr (.inr (by rw [hs]; exact ⟨k1, bnone a newA, k2, k3⟩)), w.free, w.os, w.bare, hW _ _ _ want⟩
    · obtain ⟨z, q⟩ := (g1 b o).mp e
      exact (b1 b o).mpr ⟨z, ground b o q nf⟩
    · obtain ⟨sl, q⟩ := up' b o e nd
      exact (k4 b _ q nd).imp fun _ => id
  unfold PySem.passOn
  have isT : ¬ (Value.ref T == Value.none) = true := by simp
  refine wpAny_bind (wpAny_field (s := { s' with heap := h' }) here' dat at1 ?_)
  rw [if_neg isT]
  first
    | exact wpAny_bind (wpAny_pure (wpAny_bind air))
    | exact wpAny_bind air
end KnX
/-! KnZ: comprehensions with any container, whose parts may raise. -/
namespace KnX
open PySem PySem.Spec PyProof.Rows L2
/-! ### containers -/
/-- an empty one at D; what it wants so that y may go into the one at D -/
structure Bag where
  new : Addr → HO
  put : Addr → V → Hp → (Hp → Prop) → Prop
/-- what a comprehension into b wants -/
def tBag (b : Bag) (wi : TI) (g : TG) (tt : TT) (te : TE) (vs : List Nat) : TE := fun σ H0 Q => wi σ H0 fun J H1 => ∀ D, H1 D = none → ∃ W : Nat → Nat → Hp → Prop,
  (∃ m, W 0 m (upd H1 D (b.new D))) ∧ ∀ i m H, W i m H → (J.stop i H ∧ Q (.ref D) H) ∨ (J.go i H ∧ ∃ N : Hp → Prop, (∀ G, N G → ∃ k, k < m ∧ W (i + 1) k G) ∧
    ∀ x G, J.yld i H x G → g x (wipe σ vs) G fun τ G2 => wipe τ vs = wipe σ vs ∧ tt τ G2 fun ok G3 => if ok = true then te τ G3 fun y G4 => b.put D y G4 N else N G3)
/-- one turn of a comprehension's loop -/
def OneTurn (X : Cx) (tg elt : Expr) (ifs : List Expr) (it : Value) (ce : Env) (add : Value → Sem Value) (R : Result → Shared → Prop) (N : Shared → Prop) : Shared → Prop :=
  let M := model X.prog X.w
  let bad : Value → Shared → Prop := notedBy M X.A ce fun u t => R (.error u) t
  let store := fun (v : Value) (k : Shared → Prop) => wpAny M X.A (letOwnedTupleGo tg it v) (fun _ t => wpAny M X.A (assign tg ce v) (fun _ => k) bad t) bad
  let test := fun (k : Bool → Shared → Prop) => wpAny M X.A (forIn ifs true fun c r => if r = true then do let ok ← isTrue c ce (eval c ce); pure (ForInStep.yield ok) else pure (ForInStep.yield r)) k bad
  wpAny M X.A (pyNext it) (fun r t => match r with
    | none => R (.ok .next) t
    | some v => store v (test fun ok t => if ok = true then wpAny M X.A (eval elt ce) (fun x => wpAny M X.A (add x) (fun _ => N) bad) bad t else N t) t) bad
/-- the form of a comprehension: how its container is made, filled, and how its loop runs -/
structure Form (X : Cx) (e tg elt : Expr) (iter : Expr) (ifs : List Expr) (b : Bag) (mk : Sem Value) (add : Value → Value → Sem Value) : Prop where
  clauses : clausesOf e = [⟨tg, iter, ifs, 0⟩]
  made : ∃ o : Obj, (∀ (H : Hp) (h : Heap), ObjOk X.prog X.w (upd H h.objs.size (b.new h.objs.size)) (h.push o) h.objs.size (b.new h.objs.size)) ∧
    ∀ (E : Value → Shared → Prop) (Q : Value → Shared → Prop) (t : Shared), Q (.ref t.heap.objs.size) { t with heap := t.heap.push o } → wpAny (model X.prog X.w) X.A mk Q E t
  filled : ∀ (Y : Cx), Y.prog = X.prog → Y.w = X.w → ∀ (pins : List (Addr × Obj)) (σ : L2.St) (H : Hp) (t : Shared) (D : Addr) (y : V) (v : Value) (N : Hp → Prop) (E : Value → Shared → Prop), Inv Y pins σ H t → RelV y v → b.put D y H N →
    wpAny (model X.prog X.w) Y.A (add (.ref D) v) (fun _ t' => ∃ H', Inv Y pins σ H' t' ∧ N H') E t
  loops : ∀ (it acc : Value) (ce : Env) (R : Result → Shared → Prop) (I : Nat → Shared → Prop), (∀ n t, I n t → OneTurn X tg elt ifs it ce (add acc) R (fun t' => ∃ m, m < n ∧ I m t') t) → ∀ n t, I n t → codeAny (model X.prog X.w) X.A (.compLoop e 0 it acc ce) R t
  starts : ∀ (it acc : Value) (ce : Env) (R : Result → Shared → Prop) (t : Shared), codeAny (model X.prog X.w) X.A (.compLoop e 0 it acc ce) R t →
    wpAny (model X.prog X.w) X.A (pyIter it) (fun it' t' => codeAny (model X.prog X.w) X.A (.compLoop e 0 it' acc ce) R t') (notedBy (model X.prog X.w) X.A ce fun u t' => R (.error u) t') t → codeAny (model X.prog X.w) X.A (.compStart e 0 it acc ce) R t
/-! ### between two turns; k tokens are out -/
/-- e is read where k tokens are out -/
def PEk (X : Cx) (k : Nat) (e : Expr) (te : TE) : Prop := ∀ (pins : List (Addr × Obj)) (t : Shared) (σ : L2.St) (H : Hp) (Q : VK), k ≤ t.toks → Inv X pins σ H t → te σ H Q → wpAny (model X.prog X.w) X.A (eval e X.env) (EP X pins σ Q) X.xe t
theorem PEk.of {X : Cx} {k : Nat} {e : Expr} {te : TE} (h : PE X e te) : PEk X k e te := fun pins t σ H Q _ I q => h.run pins t σ H Q I q
structure Mid (Y : Cx) (k : Nat) (fp : List Addr) (tn : Nat → Heap → Prop) (σ : L2.St) (i : Nat) (H : Hp) (t : Shared) : Prop where
  inv : Inv Y [] σ H t
  toks : k ≤ t.toks
  at_ : tn i t.heap
  free : ∀ b ∈ fp, H b = none
section
variable {X : Cx} {s0 : Shared} {H0 : Hp} {scope : Scope} {ce : Env} {fp : List Addr} {tn : Nat → Heap → Prop} {σ : L2.St} {i : Nat} {H : Hp} {t : Shared} {tg elt iter : Expr} {ifs : List Expr} {J : It} {it : Addr} {k : Nat}
/-- the iterator's objects may turn within the block -/
theorem foot {pins : List (Addr × Obj)} {xe : Value → Shared → Prop} (I : Inv (blkE X s0 H0 scope ce fp xe) [] σ H t) (f : ∀ b ∈ fp, H b = none) : ∀ b ∈ fp, FpOk (blkE X s0 H0 scope ce fp xe) [] H b := fun b hb => by
  obtain ⟨notL, notC⟩ := I.ok.exf b hb
  refine ⟨f b hb, notL, I.ok.exfs b hb, .inl hb, fun x c => notC x c, fun p hp => ?_⟩
  cases hp
/-- a turn's body is done: the next may come -/
theorem Mid.next {xe : Value → Shared → Prop} {vs : List Nat} {τ : L2.St} {h7 : Heap} (T : Turn X.prog X.w X.K tg J fp it tn) (at_ : tn (i + 1) h7) (hw : wipe τ vs = wipe σ vs) (tk : k ≤ t.toks) (I : Inv (blkE X s0 H0 scope ce fp xe) ([] ++ pinsAt fp h7) τ H t) :
    Mid (blkE X s0 H0 scope ce fp (fun _ _ => False)) k fp tn (wipe σ vs) (i + 1) H t := by
  have stays : ∀ b ∈ fp, ∀ o, h7.get? b = some o → t.heap.get? b = some o ∧ H b = none := fun b hb o e => by
    have q := I.pin (b, o) (List.mem_append.mpr (.inr (List.mem_append.mpr (.inr (mem_pinsAt hb e)))))
    exact ⟨q.1, q.2.1⟩
  refine ⟨inv_blkE (I.unpinned (pins := [])) |>.weak ?_ fun j v e => ?_, tk, T.keep _ _ _ at_ fun b hb o e => (stays b hb o e).1, fun b hb => ?_⟩
  · rw [← hw, wipe_length]
  · rw [← hw] at e
    exact (wipe_some e).1
  · obtain ⟨o, e, _⟩ := T.obj _ _ at_ b hb
    exact (stays b hb o e).2
theorem carry {α : Type} {m : Sem α} {P Q : α → Shared → Prop} {M : Model} {A : Around} {E E' : Value → Shared → Prop} {s : Shared} (h0 : k ≤ s.toks) (h : wpAny M A m P E s) (hk : ∀ a t, k ≤ t.toks → P a t → Q a t) (he : ∀ u t, E u t → E' u t) : wpAny M A m Q E' s :=
  wpAny_mono (wpAny_toks_of h0 h) (fun a t z => hk a t z.1 z.2) fun u t z => he u t z.2
theorem sure {α : Type} {m : Sem α} {P Q : α → Shared → Prop} {M : Model} {A : Around} {E : Value → Shared → Prop} {s : Shared} (h0 : k ≤ s.toks) (h : wpAny M A m P (fun _ _ => False) s) (hk : ∀ a t, k ≤ t.toks → P a t → Q a t) : wpAny M A m Q E s := carry h0 h hk fun _ _ => False.elim
/-- the turn: the iterator stops, or an item goes through the body -/
theorem Mid.turn {xe : Value → Shared → Prop} {vs : List Nat} {e : Expr} {b : Bag} {mk : Sem Value} {add : Value → Value → Sem Value} {g : TG} {tt : TT} {te : TE} {D : Addr} {QQ : Prop} {R : Result → Shared → Prop} {N : Shared → Prop} (F : Form X e tg elt iter ifs b mk add) (T : Turn X.prog X.w X.K tg J fp it tn) (hc : X.calm = true)
    (pg : PG (blkE X s0 H0 scope ce fp xe) tg g) (pt : PTs (blkE X s0 H0 scope ce fp xe) ifs tt) (pe : PEk (blkE X s0 H0 scope ce fp xe) k elt te) (m : Mid (blkE X s0 H0 scope ce fp (fun _ _ => False)) k fp tn (wipe σ vs) i H t)
    (go : (J.stop i H ∧ QQ) ∨ (J.go i H ∧ ∃ N' : Hp → Prop, (∀ H' t', N' H' → Mid (blkE X s0 H0 scope ce fp (fun _ _ => False)) k fp tn (wipe σ vs) (i + 1) H' t' → N t') ∧ ∀ x G, J.yld i H x G → g x (wipe σ vs) G fun τ G2 => wipe τ vs = wipe σ vs ∧ tt τ G2 fun ok G3 => if ok = true then te τ G3 fun y G4 => b.put D y G4 N' else N' G3))
    (out : QQ → ∀ t', Inv (blkE X s0 H0 scope ce fp (fun _ _ => False)) [] (wipe σ vs) H t' → R (.ok .next) t') (air : ∀ u t', xe u t' → notedBy (model X.prog X.w) X.A ce (fun u t => R (.error u) t) u t') : OneTurn X tg elt ifs (.ref it) ce (add (.ref D)) R N t := by
  have ft := foot (pins := []) m.inv m.free
  rcases go with ⟨stop, q⟩ | ⟨go, N', more, step⟩
  · refine sure m.toks (T.done (blkE X s0 H0 scope ce fp _) rfl rfl rfl hc i [] t _ H (fun _ _ => False) m.inv ft m.at_ stop) fun r t' _ ⟨hr, I⟩ => ?_
    subst hr
    exact out q t' I
  · refine sure m.toks (T.item (blkE X s0 H0 scope ce fp _) rfl rfl rfl hc i [] t _ H (fun _ _ => False) m.inv ft m.at_ go) fun r t1 k1 ⟨u, hr, h1⟩ => ?_
    subst hr
    refine sure k1 h1 fun _ t2 k2 ⟨x, G, I2, rx, y2, at2, n2⟩ => ?_
    have pinned : Inv (blkE X s0 H0 scope ce fp xe) ([] ++ pinsAt fp t2.heap) _ G t2 := inv_blkE (I2.pinned (foot (pins := []) I2 n2) (T.obj _ _ at2))
    refine carry k2 (pg.run _ t2 _ G x u _ pinned rx (step x G y2)) (fun _ t3 k3 ⟨τ, G3, I3, same, q3⟩ => ?_) air
    refine carry k3 (pt.run _ t3 τ G3 _ I3 q3) (fun ok t4 k4 ⟨G4, I4, q4⟩ => ?_) air
    cases ok with
    | false => exact more G4 t4 q4 (Mid.next T at2 same k4 I4)
    | true =>
      refine carry k4 (pe _ t4 τ G4 _ k4 I4 q4) (fun z t5 k5 ⟨y, G5, I5, ry, q5⟩ => ?_) air
      exact carry k5 (F.filled (blkE X s0 H0 scope ce fp xe) rfl rfl _ τ G5 t5 D y z N' _ I5 ry q5) (fun _ t6 k6 ⟨G6, I6, q6⟩ => more G6 t6 q6 (Mid.next T at2 same k6 I6)) fun _ _ z => z
end
/-! ### the whole -/
section
variable {X : Cx}
theorem comp_core (k : Nat) {xf : Shared → Hp → Env → List Addr → Value → Shared → Prop} {pins : List (Addr × Obj)} {s : Shared} {σ : L2.St} {H : Hp} {Q : VK} {e elt tg iter : Expr} {ifs : List Expr} {b : Bag} {mk : Sem Value} {add : Value → Value → Sem Value} {scope : Scope} {own : List (Str × Nat)} {pos' : Pos} {wi : TI} {g : TG} {tt : TT} {te : TE} {use : Option (Value → Sem Unit)} {Qf : Value → Shared → Prop}
    (F : Form X e tg elt iter ifs b mk add) (hc : X.calm = true) (hN : X.N.Nodup) (tk : k ≤ s.toks) (I : Inv X pins σ H s) (pi : PI X tg iter wi) (ok : BlkOk X.N X.env.scope scope own) (plain : ∀ x, foldedSetIterable iter X.env x = pure x)
    (parts : ∀ (s : Shared) (H : Hp) (C : Addr) (cl : List (Str × Addr)) (fp : List Addr), PG (blkE X s H scope (compEnvC scope cl C X.env) fp (xf s H (compEnvC scope cl C X.env) fp)) tg g ∧
      PTs (blkE X s H scope (compEnvC scope cl C X.env) fp (xf s H (compEnvC scope cl C X.env) fp)) ifs tt ∧ PEk (blkE X s H scope (compEnvC scope cl C X.env) fp (xf s H (compEnvC scope cl C X.env) fp)) k elt te)
    (want : tBag b wi g tt te (own.map (·.2)) σ H Q)
    (out : ∀ D C s' m H', Inv X pins σ H' s' → Q (.ref D) H' → s'.heap.Ns C m → FpOk X pins H' C → compPost (model X.prog X.w) X.A X.xe use Qf (.ref D) C (.ok .next) s')
    (air : ∀ (t : Shared) (G : Hp) (ce : Env) (fp : List Addr) (D : Addr), Inv X pins σ G t → (∀ G', G' ce.locals = none → FpOk X pins G' ce.locals) → (∀ b ∈ fp, (b ∈ X.ex ∨ X.s_0.heap.objs.size ≤ b) ∧ b ≠ X.env.locals ∧ (∀ x c, X.env.cells.lookup x = some c → c ≠ b) ∧ ∀ p ∈ X.pn ++ pins, p.1 ≠ b) →
      ce.frame = X.env.frame → ∀ u t', xf t G ce fp u t' → notedBy (model X.prog X.w) X.A ce (fun u t => Gone (model X.prog X.w) X.A X.xe use Qf (.ref D) ce (.error u) t) u t') :
    wpAny (model X.prog X.w) X.A (comprehension e scope X.env pos' mk false (eval iter X.env) use) Qf X.xe s := by
  have free : ∀ y ∈ scope.names, y.2 = .free → ∃ c, X.env.cells.lookup y.1 = some c := fun y hy k => I.ok.has _ (ok.free y hy k)
  obtain ⟨o0, new_ok, mk_ok⟩ := F.made
  refine comp_walk (P1 := fun v t => k ≤ t.toks ∧ wpAny (model X.prog X.w) X.A (pyIter v) (PIE X pins σ tg _) X.xe t) (P4 := fun it acc ce t => ∃ (a D : Addr) (fp : List Addr) (tn : Nat → Heap → Prop) (J : It) (G : Hp) (t0 : Shared),
      it = .ref a ∧ acc = .ref D ∧ k ≤ t0.toks ∧ Inv X pins σ G t0 ∧ Turn X.prog X.w X.K tg J fp a tn ∧ tn 0 t0.heap ∧ (∀ b ∈ fp, FpOk X pins G b ∧ b < t0.heap.objs.size) ∧
      { ce with scope := relabel scope X.env } = compEnvC scope (cellsFrom (t0.heap.objs.size + 1) scope.names (cloFrom X.env.cells scope.names [])) t0.heap.objs.size X.env ∧ t = { t0 with heap := pushCells (t0.heap.push { cls := .type "dict", data := .dict #[] }) scope.names } ∧
      ∃ W : Nat → Nat → Hp → Prop, (∃ m, W 0 m G) ∧ ∀ i m H, W i m H → (J.stop i H ∧ Q (.ref D) H) ∨ (J.go i H ∧ ∃ N : Hp → Prop, (∀ G, N G → ∃ k, k < m ∧ W (i + 1) k G) ∧
        ∀ x G, J.yld i H x G → g x (wipe σ (own.map (·.2))) G fun τ G2 => wipe τ (own.map (·.2)) = wipe σ (own.map (·.2)) ∧ tt τ G2 fun ok G3 => if ok = true then te τ G3 fun y G4 => b.put D y G4 N else N G3))
    F.clauses plain (closure_ok free) ok.kind (fun y hy k => by rw [ok.uniq y hy, k]) (carry tk (pi.run pins s σ H _ I want) (fun _ _ => And.intro) fun _ _ => id) (fun x t hx => carry hx.1 hx.2 (fun itv t1 tk1 h1 => ?_) fun _ _ => id) ?_
  · obtain ⟨a, fp, tn, J, G, e1, I1, T, at1, f1, q1⟩ := h1
    refine mk_ok _ _ t1 ?_
    have freeD : G t1.heap.objs.size = none := I1.hok.fresh (Nat.le_refl _)
    refine newEnv_comp ?_
    refine ⟨a, t1.heap.objs.size, fp, tn, J, upd G t1.heap.objs.size (b.new t1.heap.objs.size), { t1 with heap := t1.heap.push o0 }, e1, rfl, tk1, ?_, T, ?_, fun c hc' => ?_, rfl, rfl, q1 _ freeD⟩
    · exact I1.laid (t' := t1.toks) (fun b o e => Heap.get?_push_of_some _ e) (Nat.le_refl _) (new_ok G t1.heap)
    · exact T.keep _ _ _ at1 fun b _ o e => Heap.get?_push_of_some _ e
    · obtain ⟨o, here, _⟩ := T.obj _ _ at1 c hc'
      have lt := Heap.lt_size here
      obtain ⟨z, rest⟩ := f1 c hc'
      refine ⟨⟨?_, rest⟩, ?_⟩
      · rw [upd_ne (Nat.ne_of_lt lt)]; exact z
      · show c < (t1.heap.push o0).objs.size
        rw [Heap.size_push]; exact Nat.lt_succ_of_lt lt
  · rintro it acc ce t ⟨a, D, fp, tn, J, G, t0, rfl, rfl, tk0, I0, T, at0, f0, hce, rfl, W, ⟨m0, w0⟩, turn⟩
    have start := block_start I0 ok hN f0
    obtain ⟨pg, pt, pe⟩ := parts t0 G t0.heap.objs.size (cellsFrom (t0.heap.objs.size + 1) scope.names (cloFrom X.env.cells scope.names [])) fp
    rw [hce]
    have at_ : (compEnvC scope (cellsFrom (t0.heap.objs.size + 1) scope.names (cloFrom X.env.cells scope.names [])) t0.heap.objs.size X.env).locals = t0.heap.objs.size := rfl
    have fr : (compEnvC scope (cellsFrom (t0.heap.objs.size + 1) scope.names (cloFrom X.env.cells scope.names [])) t0.heap.objs.size X.env).frame = X.env.frame := rfl
    generalize compEnvC scope (cellsFrom (t0.heap.objs.size + 1) scope.names (cloFrom X.env.cells scope.names [])) t0.heap.objs.size X.env = be at start pg pt pe at_ fr ⊢
    have at1 : tn 0 (pushCells (t0.heap.push { cls := .type "dict", data := .dict #[] }) scope.names) := T.keep _ _ _ at0 fun b _ o e => pushCells_keeps _ _ _ _ (Heap.get?_push_of_some _ e)
    have side : ∀ b ∈ fp, (b ∈ X.ex ∨ X.s_0.heap.objs.size ≤ b) ∧ b ≠ X.env.locals ∧ (∀ x c, X.env.cells.lookup x = some c → c ≠ b) ∧ ∀ p ∈ X.pn ++ pins, p.1 ≠ b := fun b hb =>
      let ⟨⟨_, p1, _, p3, p4, p5⟩, _⟩ := f0 b hb
      ⟨p3, p1, p4, p5⟩
    have mine : ∀ G', G' be.locals = none → FpOk X pins G' be.locals := fun G' z => by
      rw [at_] at z ⊢
      exact I0.fpOk (Nat.le_refl _) z
    have loop : codeAny (model X.prog X.w) X.A (.compLoop e 0 (.ref a) (.ref D) be) (Gone (model X.prog X.w) X.A X.xe use Qf (.ref D) be) { t0 with heap := pushCells (t0.heap.push { cls := .type "dict", data := .dict #[] }) scope.names } := by
      refine F.loops _ _ _ _ (fun n t => ∃ i H', Mid (blkE X t0 G scope be fp (fun _ _ => False)) k fp tn (wipe σ (own.map (·.2))) i H' t ∧ W i n H') ?_ m0 _ ⟨0, G, ⟨start, tk0, at1, fun b hb => (f0 b hb).1.1⟩, w0⟩
      rintro n t ⟨i, G1, mid, w1⟩
      refine mid.turn F T hc pg pt pe (QQ := Q (.ref D) G1) ?_ (fun q t' I' => ?_) (air t0 G be fp D I0 mine side fr)
      · refine (turn i n G1 w1).imp id fun ⟨go, N, less, step⟩ => ⟨go, N, fun H' t' nx m' => ?_, step⟩
        obtain ⟨k, lt, w'⟩ := less H' nx
        exact ⟨k, lt, i + 1, H', m', w'⟩
      · obtain ⟨m, ns, _⟩ := I'.loc
        exact out D be.locals t' m G1 (I0.call' (ch := fp) I'.os I'.base I'.hok I'.bare side) q ns (mine G1 I'.free)
    exact F.starts _ _ _ _ _ loop (T.self X.A 0 _ _ _ at1 loop)
/-! ### lists -/
def lstBag : Bag := ⟨fun _ => .lst [], fun D y H N => ∃ acc, H D = some (.lst acc) ∧ acc.length < sizeLine ∧ N (upd H D (.lst (acc ++ [y])))⟩
theorem lst_form {elt tg iter : Expr} {ifs : List Expr} {scope : Scope} {pos : Pos} : Form X (.ListComp elt [⟨tg, iter, ifs, 0⟩] scope pos) tg elt iter ifs lstBag (newList []) (fun acc x => call (.builtin "list.append") [acc, x]) where
  clauses := rfl
  made := ⟨{ cls := .type "list", data := .seq ([] : List Value).toArray }, fun H h => ⟨Nat.zero_le _, [], 0, .nil, Heap.get?_push_size _ rfl⟩, fun E Q t q => wpAny_newObj_type q (by show 0 ≤ sizeLine; decide)⟩
  filled := fun Y hp hw pins σ H t D y v N E I r ⟨acc, at_, lt, n⟩ => by
    rw [← hp, ← hw]
    exact app_ok (X := Y) I at_ lt r fun t' I' => ⟨_, I', n⟩
  loops := fun it acc ce R I turn n t h => compLoop_any I turn n h
  starts := fun it acc ce R t => codeAny_compStart_list
theorem lc_coreX {W : XK} {Wo : WX} {pins : List (Addr × Obj)} {s : Shared} {σ : L2.St} {H : Hp} {Q : VK} {elt tg iter : Expr} {ifs : List Expr} {scope : Scope} {own : List (Str × Nat)} {pos pos' : Pos} {wi : TI} {g : TG} {tt : TT} {te : TE} {use : Option (Value → Sem Unit)} {Qf : Value → Shared → Prop}
    (hst : X.stack = X.env :: X.outer) (hfr : X.env.frame = some X.env.locals) (tk : Takes X Wo) (hW : ∀ cls d H', W cls d H' → Wo cls d σ H') (hc : X.calm = true) (hN : X.N.Nodup) (I : Inv X pins σ H s) (pi : PI X tg iter wi) (ok : BlkOk X.N X.env.scope scope own)
    (hg : ∀ (s : Shared) (H : Hp) (C : Addr) (cl : List (Str × Addr)) (fp : List Addr), PG (blkX X W s H scope (compEnvC scope cl C X.env) fp) tg g) (ht : ∀ (s : Shared) (H : Hp) (C : Addr) (cl : List (Str × Addr)) (fp : List Addr), PTs (blkX X W s H scope (compEnvC scope cl C X.env) fp) ifs tt)
    (he : ∀ (s : Shared) (H : Hp) (C : Addr) (cl : List (Str × Addr)) (fp : List Addr), PE (blkX X W s H scope (compEnvC scope cl C X.env) fp) elt te) (plain : ∀ x, foldedSetIterable iter X.env x = pure x) (want : tLc wi g tt te (own.map (·.2)) σ H Q)
    (out : ∀ D C s' m H', Inv X pins σ H' s' → Q (.ref D) H' → s'.heap.Ns C m → FpOk X pins H' C → compPost (model X.prog X.w) X.A X.xe use Qf (.ref D) C (.ok .next) s') :
    wpAny (model X.prog X.w) X.A (comprehension (.ListComp elt [⟨tg, iter, ifs, 0⟩] scope pos) scope X.env pos' (newList []) false (eval iter X.env) use) Qf X.xe s :=
  comp_core 0 (xf := fun s H ce fp => Flies (X.blk s H scope ce fp) W) lst_form hc hN (Nat.zero_le _) I pi ok plain (fun s H C cl fp => ⟨hg s H C cl fp, ht s H C cl fp, .of (he s H C cl fp)⟩) want out
    fun t G ce fp D I0 mine side fr u t' fl => flies_out hst hfr I0 mine side fr tk hW fl
/-- parts that raise nothing, k tokens out -/
theorem comp_calm (k : Nat) {pins : List (Addr × Obj)} {s : Shared} {σ : L2.St} {H : Hp} {Q : VK} {e elt tg iter : Expr} {ifs : List Expr} {b : Bag} {mk : Sem Value} {add : Value → Value → Sem Value} {scope : Scope} {own : List (Str × Nat)} {pos' : Pos} {wi : TI} {g : TG} {tt : TT} {te : TE} {use : Option (Value → Sem Unit)} {Qf : Value → Shared → Prop}
    (F : Form X e tg elt iter ifs b mk add) (hc : X.calm = true) (hN : X.N.Nodup) (tk : k ≤ s.toks) (I : Inv X pins σ H s) (pi : PI X tg iter wi) (ok : BlkOk X.N X.env.scope scope own) (plain : ∀ x, foldedSetIterable iter X.env x = pure x)
    (hg : ∀ (s : Shared) (H : Hp) (C : Addr) (cl : List (Str × Addr)) (fp : List Addr), PG (X.blk s H scope (compEnvC scope cl C X.env) fp) tg g) (ht : ∀ (s : Shared) (H : Hp) (C : Addr) (cl : List (Str × Addr)) (fp : List Addr), PTs (X.blk s H scope (compEnvC scope cl C X.env) fp) ifs tt)
    (he : ∀ (s : Shared) (H : Hp) (C : Addr) (cl : List (Str × Addr)) (fp : List Addr), PEk (X.blk s H scope (compEnvC scope cl C X.env) fp) k elt te) (want : tBag b wi g tt te (own.map (·.2)) σ H Q)
    (out : ∀ D C s' m H', Inv X pins σ H' s' → Q (.ref D) H' → s'.heap.Ns C m → FpOk X pins H' C → compPost (model X.prog X.w) X.A X.xe use Qf (.ref D) C (.ok .next) s') :
    wpAny (model X.prog X.w) X.A (comprehension e scope X.env pos' mk false (eval iter X.env) use) Qf X.xe s :=
  comp_core k (xf := fun _ _ _ _ _ _ => False) F hc hN tk I pi ok plain (fun s H C cl fp => ⟨hg s H C cl fp, ht s H C cl fp, he s H C cl fp⟩) want out fun _ _ _ _ _ _ _ _ _ _ _ no => no.elim
/-- the container as a value -/
theorem out_value {pins : List (Addr × Obj)} {σ : L2.St} {Q : VK} (D C : Addr) (t : Shared) (m : Str → Option Value) (H : Hp) (I : Inv X pins σ H t) (q : Q (.ref D) H) (ns : t.heap.Ns C m) (f : FpOk X pins H C) : compPost (model X.prog X.w) X.A X.xe none (EP X pins σ Q) (.ref D) C (.ok .next) t :=
  ⟨m, ns, fun _ sb => ⟨.ref D, H, I.turned (t' := t.toks) (fun b o hb e => (sb.2 b hb).trans e) f.1 f.2.1 f.2.2.2.1 f.2.2.2.2.1 f.2.2.2.2.2, rfl, q⟩⟩
/-- the container into a local name -/
theorem out_name {pins : List (Addr × Obj)} {σ : L2.St} {E : Ends} {i : Nat} {y : Str} {py : Pos} (hN : X.N.Nodup) (hy : X.N[i]? = some y) (hyl : X.env.scope.names.lookup y = some .local) (D C : Addr) (t : Shared) (m : Str → Option Value) (H : Hp) (I : Inv X pins σ H t) (q : E.nx (σ.set i (some (.ref D))) H) (ns : t.heap.Ns C m) (f : FpOk X pins H C) :
    compPost (model X.prog X.w) X.A X.xe (some (assign (.Name y py) X.env)) (fun _ t' => SP X pins E .next t') (.ref D) C (.ok .next) t := by
  have stored : wpAny (model X.prog X.w) X.A (storeName X.env y (.ref D)) (fun _ t' => ∃ m, t'.heap.Ns C m ∧ ∀ h, Heap.SameBut C t'.heap h → SP X pins E .next { t' with heap := h }) X.xe t := by
    refine store_ok2 (v := V.ref D) I hN hy (.inl hyl) rfl (fun t2 I2 ⟨a, same, which⟩ => ?_) (.inr hyl)
    have other : C ≠ a := by
      rintro rfl
      exact which.elim f.2.1 fun z => f.2.2.2.2.1 y _ z rfl
    exact ⟨m, ns.sameBut same other, fun _ sb => ⟨_, H, I2.turned (t' := t2.toks) (fun b o hb e => (sb.2 b hb).trans e) f.1 f.2.1 f.2.2.2.1 f.2.2.2.2.1 f.2.2.2.2.2, q⟩⟩
  exact wpAny_assign_Name stored
/-- name = [..]: from the comprehension that is stored -/
theorem set_from_comp {e : Expr} {scope : Scope} {pos : Pos} {elt : Expr} {g : Comprehension} {y : Str} {py spos : Pos} {pins : List (Addr × Obj)} {E : Ends} {s : Shared} (he : e = .ListComp elt [g] scope pos) (hsw : swapsWith e (some (.Name y py)) spos.line X.env = pure true)
    (h : wpAny (model X.prog X.w) X.A (comprehension e scope X.env (firstIterPos [g] pos) (newList []) (firstAsync [g]) (firstIter [g] X.env) (some (assign (.Name y py) X.env))) (fun _ t => SP X pins E .next t) X.xe s) : wpAny (model X.prog X.w) X.A (exec (.Assign [.Name y py] e spos) X.env) (SP X pins E) X.xe s := by
  subst he
  rw [exec_Assign_Name_used _ _ _ _ hsw]
  apply wpAny_bind
  apply wpAny_standAt
  apply wpAny_bind
  exact wpAny_bind (wpAny_mono h (fun _ _ q => wpAny_pure (wpAny_pure q)) fun _ _ => id)
end
end KnX
/-! KnAA: [f(..) for tg in iter if ..] where f may raise. -/
namespace Kn
open PySem PySem.Spec PyProof.Rows
open L2 hiding St
def BlkX (X : Cx) (W : XK) (scope : Scope) (Y : Cx) : Prop := ∃ (s : Shared) (H : Hp) (C : Addr) (cl : List (Str × Addr)) (fp : List Addr), Y = KnX.blkX X W s H scope (compEnvC scope cl C X.env) fp
/-- what calls let out may leave Z -/
def FlZ (Z : Cx) (W : XK) : Prop := ∀ (pins : List (Addr × Obj)) (σ : SV) (H : Hp) (s : Shared) (E : XK) (u : Value) (s' : Shared), Inv Z pins σ H s → (∀ cls d H', E cls d H' → W cls d H') → L2.CX Z.prog Z.w Z.stack H s E u s' → Z.xe u s'
theorem flz {X Y : Cx} {W : XK} {scope : Scope} (h : BlkX X W scope Y) : FlZ Y W := fun pins σ H s E u s' I hW c => by
  obtain ⟨s0, H0, C, cl, fp, rfl⟩ := h
  exact KnX.Flies.of_call (KnX.of_blkX I) hW c
/-- e in a block, what is raised in a call is handed to y -/
def EWF (Z : Cx) (O : Own) (ρ : List Slot) (e : Expr) (y : Exn → Own → Prop) (k : Slot → Own → Prop) : Prop :=
  ∀ H0 σ H, StOk Z.K H0 O σ ρ H → ∀ W : XK, FlZ Z W → (∀ e O' H' cls d, y e O' → OwnOk Z.K O' H' → Same H0 (hid O' H') → ExOk Z.K O' H' cls d e → W cls d H') → ∀ Q : VK, (∀ v H' s O', k s O' → StOk Z.K H0 O' σ ρ H' → SlOk Z.K (hid O' H') v s → Q v H') → We Z e σ H Q
@[reducible] def kOutF (y : Exn → Own → Prop) (k : Slot → Own → Prop) : Out → Own → Prop
  | .ret s, O => k s O
  | .exc e, O => y e O
section
variable {X : Cx} {O : Own} {ρ : List Slot} {x : ExK} {y : Exn → Own → Prop} {k : Slot → Own → Prop} {e a : Expr} {es : List Expr} {pos p : Pos} {D : SD} {g g' : Bool} {j n : Nat} {S : SpecT} {df : List Dat} {tg iter : Expr}
theorem ewf_pure (h : EW X O ρ e noX k) : EWF X O ρ e y k := fun H0 σ H st W fl hW Q q => h H0 σ H st takes_no Q q
theorem ewf_call {nm : Str} (cl : Cal X.prog X.w X.K X.mg X.base g n nm S df) (hr : RoomB g' j X.A) (h : AW X O ρ (e :: es) noX fun ss O1 => S (ss ++ df.map .dat) O1 (kOutF y k)) (hj : n ≤ j := by decide) (hgg : g = true → g' = true := by first | exact fun _ => rfl | exact fun h => h | exact fun h => nomatch h)
    (hg : Gl X nm := by rfl) (hdb : (nm == ("__debug__" : Str)) = false := by decide) (he : starEach (e :: es) X.env = (false, eval e X.env) :: starEach es X.env := by rfl) (hpl : (backTo pos (starEach es X.env)).any (·.1) = false := by rfl) :
    EWF X O ρ (.Call (.Name nm p) (e :: es) [] pos) y k := fun H0 σ H st W fz hW Q q => ⟨fun pins s I => by
  obtain ⟨f, fd, ps, ds, dvs, hm, hk, F, hb, hd, hdf⟩ := cl
  refine wpAny_Call_Name_kw (ld_glob I hg hm ?_ hdb)
  refine PySem.W.callWith_K (h₀ := X.base) I.ok.mod.kin hk (thn ((pa_w (es := e :: es)).run pos pins s σ H (fun vs H1 => ∃ ss O1, StOk X.K H0 O1 σ ρ H1 ∧ Paired (SlOk X.K (hid O1 H1)) vs ss ∧ S (ss ++ df.map .dat) O1 (kOutF y k)) I (h H0 σ H st takes_no _ fun vs H1 ss O1 h1 st1 r1 => ⟨ss, O1, st1, r1, h1⟩)) fun us s1 hq => ?_) he hpl
  obtain ⟨vs, H1, I1, rv, ss, O1, st1, pr, hS⟩ := hq
  refine ⟨I1.kIn, ?_⟩
  have r2 : Vals (vs ++ dvs) (us ++ ds) := rv.append hd
  have sp : spS X.K S (vs ++ dvs) H1 Q W := ⟨O1, ss ++ df.map .dat, kOutF y k, st1.own, paired_app pr (hdf _).paired, hS,
    fun v H' s' O' h1 h2 h3 h4 => q v H' s' O' h1 (st1.next h2 h3) h4, fun cls d e H' O' h1 h2 h3 h4 => hW e O' H' cls d h1 h2 (st1.base.trans h3) h4⟩
  have hl : (us ++ ds).length = ps.length := by rw [← r2.length]; exact spS_len F.len _ _ _ _ sp
  refine wpAny_call (codeAny_mono (F.run X.A X.stack s1 H1 ⟨us, []⟩ (us ++ ds) (vs ++ dvs) Q _ (hr.mono hj hgg) I1.env0 (hb s1 us I1.kIn hl) r2 sp) fun r s' hq => ?_)
  cases r with
  | error e => exact fz pins σ H1 s1 W e s' I1 (fun _ _ _ h => h) hq
  | ok fl =>
    cases fl with
    | ret u => exact I1.after hq
    | next => exact False.elim hq
    | brk => exact False.elim hq
    | cont => exact False.elim hq⟩
/-- a comprehension's target, in such a block -/
inductive TgtX (X : Cx) (scope : Scope) (vs : List Nat) : Expr → (Dat → List Slot → List Slot → Prop) → Prop
  | name {nm : Str} {p : Pos} {i : Nat} (hi : i ∈ vs) (hg : ∀ W Y, BlkX X W scope Y → PG Y (.Name nm p) (gName i)) : TgtX X scope vs (.Name nm p) (fun d ρ ρ' => ρ' = ρ.set i (.dat d))
  | two {n1 n2 : Str} {p1 p2 p : Pos} {kk i j : Nat} (hi : i ∈ vs) (hj : j ∈ vs) (hg : ∀ W Y, BlkX X W scope Y → PG Y (.Tuple [.Name n1 p1, .Name n2 p2] kk p) (gTup X.K 2 (gCons (gName i) (gCons (gName j) gNil)))) :
    TgtX X scope vs (.Tuple [.Name n1 p1, .Name n2 p2] kk p) (fun d ρ ρ' => ∃ d1 d2, d = .tup [d1, d2] ∧ ρ' = (ρ.set i (.dat d1)).set j (.dat d2))
theorem tgtX_run {scope : Scope} {vs : List Nat} {T : Dat → List Slot → List Slot → Prop} (h : TgtX X scope vs tg T) :
    ∃ g : TG, (∀ W Y, BlkX X W scope Y → PG Y tg g) ∧ ∀ {H0 H : Hp} {O : Own} {σ : SV} {ρ ρ' : List Slot} {v : V} {d : Dat} {Q : SV → Hp → Prop}, StOk X.K H0 O (wipe σ vs) ρ H → Rp X.K (hid O H) v d → T d ρ ρ' →
      (∀ σ', StOk X.K H0 O σ' ρ' H → wipe σ' vs = wipe σ vs → Q σ' H) → g v (wipe σ vs) H Q := by
  cases h with
  | name hi hg =>
    refine ⟨_, hg, fun {H0 H O σ ρ ρ' v d Q} st r t q => ?_⟩
    subst t
    exact q _ (st.set r) (by rw [wipe_at hi, wipe_wipe fun _ z => z])
  | two hi hj hg =>
    refine ⟨_, hg, fun {H0 H O σ ρ ρ' v d Q} st r t q => ?_⟩
    obtain ⟨d1, d2, rfl, rfl⟩ := t
    cases r with
    | tup h1 h2 =>
      cases h2 with
      | cons r1 h2 =>
        cases h2 with
        | cons r2 h2 =>
          cases h2
          refine ⟨_, _, rfl, sqt_mono hid_le h1, rfl, _, _, rfl, _, _, rfl, rfl, q _ ((st.set (s := .dat d1) r1).set (s := .dat d2) r2) ?_⟩
          rw [wipe_at hj, wipe_at hi, wipe_wipe fun _ z => z]
/-- what the comprehension asks -/
def LcX (X : Cx) (ρ : List Slot) (x : ExK) (k : Slot → Own → Prop) (scope : Scope) (T : Dat → List Slot → List Slot → Prop) (vs : List Nat) (ifs : List Expr) (elt : Expr) : List Dat → Own → Prop := fun ds O1 => ds.length ≤ sizeLine ∧ ∃ J : Nat → List Slot → Own → Prop, J 0 [] O1 ∧
  (∀ i d acc O', J i acc O' → ds[i]? = some d → ∃ ρ', T d (wipeS ρ vs) ρ' ∧ ∀ Dd, O' Dd = none → ∀ W Y, BlkX X W scope Y → TsW Y (up O' Dd (.lst acc)) ρ' ifs noX fun t O2 =>
    (t = true → ∀ Z, BlkX X W scope Z → EWF Z O2 ρ' elt (fun e O3 => ∃ O4, Sub O4 O3 ∧ x e ρ O4) fun s O3 => ∃ O4, O3 = up O4 Dd (.lst acc) ∧ O4 Dd = none ∧ J (i + 1) (acc ++ [s]) O4) ∧ (t = false → ∃ O4, O2 = up O4 Dd (.lst acc) ∧ O4 Dd = none ∧ J (i + 1) acc O4)) ∧
  ∀ acc O', J ds.length acc O' → ∀ p, O' p = none → k (.own p) (up O' p (.lst acc))
def WX0 (K : PySem.W.Frag) (H0 : Hp) (x : ExK) (σ : SV) (ρ : List Slot) : XK := fun cls d H' => ∃ e O', x e ρ O' ∧ StOk K H0 O' σ ρ H' ∧ ExOk K O' H' cls d e
theorem tlc_ofX {elt : Expr} {ifs : List Expr} {scope : Scope} {vs : List Nat} {T : Dat → List Slot → List Slot → Prop} {g : TG}
    (hg : ∀ {H0 H : Hp} {O : Own} {σ : SV} {ρ ρ' : List Slot} {v : V} {d : Dat} {Q : SV → Hp → Prop}, StOk X.K H0 O (wipe σ vs) ρ H → Rp X.K (hid O H) v d → T d ρ ρ' → (∀ σ', StOk X.K H0 O σ' ρ' H → wipe σ' vs = wipe σ vs → Q σ' H) → g v (wipe σ vs) H Q)
    (h : IW X O ρ tg iter x (LcX X ρ x k scope T vs ifs elt)) {H0 : Hp} {σ : SV} {H : Hp} {Q : VK} (st : StOk X.K H0 O σ ρ H) (tk : Takes X (Wsem X.K H0 x))
    (q : ∀ v H' s O', k s O' → StOk X.K H0 O' σ ρ H' → SlOk X.K (hid O' H') v s → Q v H') :
    tLc (Wi X tg iter) g (fun σ1 H Q => ∀ Y, BlkX X (WX0 X.K H0 x σ ρ) scope Y → ∀ (pins : List (Addr × Obj)) (s : Shared), Inv Y pins σ1 H s →
      wpAny (model Y.prog Y.w) Y.A (forIn ifs true fun c r => if r = true then do let ok ← isTrue c Y.env (eval c Y.env); pure (ForInStep.yield ok) else pure (ForInStep.yield r)) (TP Y pins σ1 Q) Y.xe s)
      (fun σ1 H Q => ∀ Y, BlkX X (WX0 X.K H0 x σ ρ) scope Y → We Y elt σ1 H Q) vs σ H Q := by
  refine h H0 σ H st tk _ fun J0 H1 ds O1 ⟨hz, J, j0, js, je⟩ st1 it => ?_
  intro Dd hD
  have hOD : O1 Dd = none := own_free st1.own hD
  have gS : Same (hid O1 H1) (hid (up O1 Dd (.lst [])) (upd H1 Dd (.lst []))) := fun b o hb => by
    obtain ⟨z1, z2⟩ := of_hid hb
    have nb := ne_of_none z2 hD
    rw [hid_none (by rw [up_ne nb]; exact z1), upd_ne nb]
    exact z2
  refine ⟨fun i m H' => i + m = ds.length ∧ ∃ acc O', J i acc O' ∧ O' Dd = none ∧ acc.length ≤ i ∧ StOk X.K (hid O1 H1) (up O' Dd (.lst acc)) σ ρ H',
    ⟨ds.length, by omega, [], O1, j0, hOD, Nat.le_refl _, ⟨(st1.alloc (o := .lst []) (c := .lst []) hD ⟨[], rfl, .nil⟩).own, gS, pmap (fun _ _ z => EnvOk.mono gS z) st1.env⟩⟩, fun i m H' hW => ?_⟩
  obtain ⟨em, acc, O', hj, nD, hacc, st'⟩ := hW
  obtain ⟨i1, i2⟩ := it _ H' st'.own st'.base i
  cases hd : ds[i]? with
  | none =>
    have hi : ds.length ≤ i := List.getElem?_eq_none_iff.mp hd
    have ei : i = ds.length := by omega
    subst ei
    exact .inl ⟨i2 hd, q _ H' _ _ (je acc O' hj Dd nD) (st'.rebase st1.base) rfl⟩
  | some d =>
    have hi : i < ds.length := (List.getElem?_eq_some_iff.mp hd).1
    obtain ⟨g1, g2⟩ := i1 d hd
    obtain ⟨ρ', ht, hb⟩ := js i d acc O' hj hd
    have hb := hb Dd nD (WX0 X.K H0 x σ ρ)
    refine .inr ⟨g1, fun H'' => ∃ acc2 O2, J (i + 1) acc2 O2 ∧ O2 Dd = none ∧ acc2.length ≤ i + 1 ∧ StOk X.K (hid O1 H1) (up O2 Dd (.lst acc2)) σ ρ H'', fun H'' hN => ⟨m - 1, by omega, by omega, hN⟩, fun v H2 hy => ?_⟩
    obtain ⟨s1, r1⟩ := g2 v H2 hy
    have st2 := st'.grow s1
    refine hg (σ := σ) (st2.wipe vs) r1 ht fun σ' st3 hw => ⟨hw, fun Y hY pins s I => ?_⟩
    obtain ⟨sY, HY, CY, clY, fpY, eY⟩ := id hY
    have eK : Y.K = X.K := by rw [eY]
    have st3Y : StOk Y.K (hid O1 H1) (up O' Dd (.lst acc)) σ' ρ' H2 := by rw [eK]; exact st3
    refine (hb Y hY (hid O1 H1) σ' H2 st3Y takes_no _ fun t H3 O3 h3 st4 => ?_).r pins s I
    cases t with
    | false =>
      obtain ⟨O4, e4, n4, j4⟩ := h3.2 rfl
      subst e4
      refine iteF ⟨acc, O4, j4, n4, by omega, ?_⟩
      rw [eK] at st4
      exact ⟨st4.own, st4.base, pmap (fun _ _ z => EnvOk.mono st4.base z) st1.env⟩
    | true =>
      refine iteT fun Z hZ => ?_
      obtain ⟨sZ, HZ, CZ, clZ, fpZ, eZ⟩ := id hZ
      have eKZ : Z.K = X.K := by rw [eZ]
      have eYZ : Z.K = Y.K := by rw [eZ, eY]
      refine (h3.1 rfl) Z hZ (hid O1 H1) σ' H3 (by rw [eYZ]; exact st4) _ (flz hZ) (fun ex O5 H5 cls dd hy5 ow5 sm5 ex5 => ?_) _ fun u H5 s5 O5 h5 st5 r5 => ?_
      · obtain ⟨O6, sb, hx⟩ := hy5
        rw [eKZ] at ow5 ex5
        exact ⟨ex, O6, hx, ⟨ow5.sub sb, st1.base.trans (sm5.trans (hid_sub sb)), pmap (fun _ _ z => EnvOk.mono (sm5.trans (hid_sub sb)) z) st1.env⟩, ex5.sub sb⟩
      · obtain ⟨O4, e4, n4, j4⟩ := h5
        subst e4
        rw [eKZ] at st5 r5
        obtain ⟨o5, c1, xs5, rfl, c2⟩ := st5.own.cell Dd _ up_at
        have lx : xs5.length = acc.length := paired_len c2
        have st6 := st5.write (o := .lst (xs5 ++ [u])) (c := .lst (acc ++ [s5])) up_at ⟨_, rfl, paired_app c2 (.cons r5 .nil)⟩
        rw [up_up] at st6
        refine ⟨xs5, c1, by omega, acc ++ [s5], O4, j4, n4, by rw [List.length_append]; exact Nat.add_le_add_right hacc 1, ⟨st6.own, st6.base, pmap (fun _ _ z => EnvOk.mono st6.base z) st1.env⟩⟩
/-- y = [..] with y a local, the parts may raise -/
theorem s1_setLcX (own : List (Str × Nat)) (i : Nat) {nm : Str} {py spos : Pos} {elt : Expr} {ifs : List Expr} {scope : Scope} {T : Dat → List Slot → List Slot → Prop} (hN : X.N.Nodup) (tg_ok : TgtX X scope (own.map (·.2)) tg T) (ok : BlkOk X.N X.env.scope scope own)
    (h : IW X O ρ tg iter x (LcX X ρ x (fun s O' => D.nx (ρ.set i s) O') scope T (own.map (·.2)) ifs elt)) (hc : X.calm = true := by rfl) (hst : X.stack = X.env :: X.outer := by rfl) (hfr : X.env.frame = some X.env.locals := by rfl)
    (hy : X.N[i]? = some nm := by rfl) (hyl : X.env.scope.names.lookup nm = some .local := by rfl)
    (hsw : swapsWith (.ListComp elt [⟨tg, iter, ifs, 0⟩] scope pos) (some (.Name nm py)) spos.line X.env = pure true := by exact sw_true rfl rfl rfl (by decide +kernel)) (hs : ∀ x, foldedSetIterable iter X.env x = pure x := by intro _; rfl) :
    S1 X O ρ (.Assign [.Name nm py] (.ListComp elt [⟨tg, iter, ifs, 0⟩] scope pos) spos) x D := fun H0 σ H st tk E okE => ⟨fun pins s I => by
  obtain ⟨g, g1, g2⟩ := tgtX_run tg_ok
  have t := tlc_ofX (Q := fun v H1 => E.nx (σ.set i (some v)) H1) g2 h st tk fun v H' s O' hq st' r => okE.nx _ _ O' H' hq (st'.set r)
  exact KnX.set_from_comp rfl hsw (KnX.lc_coreX (W := WX0 X.K H0 x σ ρ) hst hfr tk (fun cls d H' ⟨e, O', h1, h2, h3⟩ => ⟨e, ρ, O', h1, h2, h3⟩) hc hN I pi_w ok
    (fun s H C cl fp => g1 _ _ ⟨s, H, C, cl, fp, rfl⟩) (fun s H C cl fp => ⟨fun pins sh σ H5 Q I hq => hq _ ⟨s, H, C, cl, fp, rfl⟩ pins sh I⟩) (fun s H C cl fp => ⟨fun pins sh σ H5 Q I hq => (hq _ ⟨s, H, C, cl, fp, rfl⟩).r pins sh I⟩) hs t
    (KnX.out_name hN hy hyl))⟩
end
end Kn
/-! KnAB: an instance handed on as data; == of data; texts joined. -/
namespace Kn
open PySem PySem.Spec PyProof.Rows
open L2 hiding St
section
variable {X : Cx} {O : Own} {ρ : List Slot} {x : ExK} {k : Slot → Own → Prop} {e : Expr}
theorem ew_frzI (h : EW X O ρ e x fun s O' => ∃ p C dx ds, s = .own p ∧ O' p = some (.ins C dx (ds.map fun q => (q.1, .dat q.2))) ∧ k (.dat (.ins C ds)) (dn O' p)) : EW X O ρ e x k := fun H0 σ H st tk Q q =>
  h H0 σ H st tk Q fun v H' s O' ⟨p, C, dx, ds, e1, h1, h2⟩ st' r => by
    subst e1
    obtain rfl : v = .ref p := r
    exact q _ H' _ _ h2 st'.freeze (st'.own.ins h1)
end
/-- the class at C is what the module calls nm -/
def clsAt (K : PySem.W.Frag) (nm : Str) (C : Addr) : Prop := PySem.W.nsIn K mainGlobals nm = some (some (.ref C))
theorem at_inj {K : PySem.W.Frag} {nm : Str} {C C' : Addr} (h : clsAt K nm C) (h' : clsAt K nm C') : C = C' := by
  have e := h.symm.trans h'
  cases e
  rfl
theorem bt_ValueError : bootBuiltins "ValueError" = some (.type "ValueError") := by decide +kernel
theorem bt_KeyError : bootBuiltins "KeyError" = some (.type "KeyError") := by decide +kernel
theorem eqD_str (y z : Str) : eqD (.str y) (.str z) = decide (y = z) := by
  show PyData.eqv (.str y) (.str z) = _
  unfold PyData.eqv
  by_cases h : y = z
  · subst h; simp
  · simp [h]
theorem eqA_cons (a b : Dat) (as bs : List Dat) : PyData.eqvAll (toPys (a :: as)) (toPys (b :: bs)) = (eqD a b && PyData.eqvAll (toPys as) (toPys bs)) := by
  show PyData.eqvAll (toPy a :: toPys as) (toPy b :: toPys bs) = _
  rw [PyData.eqvAll]
  rfl
theorem eqA_nil : PyData.eqvAll (toPys []) (toPys []) = true := by
  show PyData.eqvAll [] [] = true
  rw [PyData.eqvAll]
theorem eqA_cn (a : Dat) (as : List Dat) : PyData.eqvAll (toPys (a :: as)) (toPys []) = false := by
  show PyData.eqvAll (toPy a :: toPys as) [] = false
  rw [PyData.eqvAll]
  all_goals first | rfl | (intros; simp_all)
theorem eqA_nc (a : Dat) (as : List Dat) : PyData.eqvAll (toPys []) (toPys (a :: as)) = false := by
  show PyData.eqvAll [] (toPy a :: toPys as) = false
  rw [PyData.eqvAll]
  all_goals first | rfl | (intros; simp_all)
theorem eqD_tup (as bs : List Dat) : eqD (.tup as) (.tup bs) = PyData.eqvAll (toPys as) (toPys bs) := by
  show PyData.eqv (.tuple (toPys as)) (.tuple (toPys bs)) = _
  rw [PyData.eqv]
theorem eqD_lst (as bs : List Dat) : eqD (.lst as) (.lst bs) = PyData.eqvAll (toPys as) (toPys bs) := by
  show PyData.eqv (.list (toPys as)) (.list (toPys bs)) = _
  rw [PyData.eqv]
/-- where f tells unlike things apart -/
theorem eqA_map {α : Type} [DecidableEq α] (f : α → Dat) (hf : ∀ a b, eqD (f a) (f b) = decide (a = b)) : ∀ as bs : List α, PyData.eqvAll (toPys (as.map f)) (toPys (bs.map f)) = decide (as = bs)
  | [], [] => eqA_nil
  | a :: as, [] => by rw [List.map_cons, List.map_nil, eqA_cn, decide_eq_false (by intro h; cases h)]
  | [], b :: bs => by rw [List.map_cons, List.map_nil, eqA_nc, decide_eq_false (by intro h; cases h)]
  | a :: as, b :: bs => by
    rw [List.map_cons, List.map_cons, eqA_cons, hf, eqA_map f hf as bs]
    by_cases h1 : a = b
    · subst h1
      by_cases h2 : as = bs
      · subst h2; simp
      · rw [decide_eq_true rfl, decide_eq_false h2, decide_eq_false (by intro h; cases h; exact h2 rfl)]; rfl
    · have n : ¬ (a :: as = b :: bs) := fun h => h1 (List.cons.inj h).1
      rw [decide_eq_false h1, decide_eq_false n]; rfl
theorem join_two (y a b : Str) : Txt.join y [a, b] = a ++ y ++ b := by
  refine sgs_ext ?_
  rw [sgs_app, sgs_app]
  show TL.tl (Txt.join y [a, b]) = TL.tl a ++ TL.tl y ++ TL.tl b
  rw [TL.join_eq, TL.tl_join]
  simp [TL.joinL, List.append_assoc]
end Kn
/-! KnAC: a, b = c, d by a tuple. -/
namespace Kn
open PySem PySem.Spec PyProof.Rows
open L2 hiding St
section
variable {X : Cx} {O : Own} {ρ : List Slot} {x : ExK} {a b : Expr} {pos : Pos} {D : SD}
/-- a, b = c, d where a name is held in a cell -/
theorem s1_parT (i j : Nat) {nx ny : Str} {px py pt : Pos} {kt1 k2 pt2} (h : AW X O ρ [a, b] x fun ss O' => ∃ s1 s2, ss = [s1, s2] ∧ D.nx ((ρ.set i s1).set j s2) O') (hN : X.N.Nodup) (hc : X.calm = true := by rfl) (hi : X.N[i]? = some nx := by rfl) (hj : X.N[j]? = some ny := by rfl)
    (hx : Loc X.env.scope nx := by first | exact .inl rfl | exact .inr rfl) (hfx : X.fn nx = true ∨ X.env.scope.names.lookup nx = some .local := by first | exact .inl rfl | exact .inr rfl)
    (hy : Loc X.env.scope ny := by first | exact .inl rfl | exact .inr rfl) (hfy : X.fn ny = true ∨ X.env.scope.names.lookup ny = some .local := by first | exact .inl rfl | exact .inr rfl)
    (hn : (assignEach [.Name nx px, .Name ny py] X.env).length = 2 := by rfl) (hst : (assignEach [.Name nx px, .Name ny py] X.env).findIdx? (·.1) = none := by rfl)
    (ha1 : (assignEach [.Name nx px, .Name ny py] X.env).map (·.2) = assign (.Name nx px) X.env :: (assignEach [.Name ny py] X.env).map (·.2) := by rfl) (ha2 : (assignEach [.Name ny py] X.env).map (·.2) = assign (.Name ny py) X.env :: (assignEach [] X.env).map (·.2) := by rfl)
    (hw : swappedStores [.Tuple [.Name nx px, .Name ny py] kt1 pt] (.Tuple [a, b] k2 pt2) X.env = pure none := by rfl)
    (hs : swapsWithSole [.Tuple [.Name nx px, .Name ny py] kt1 pt] (.Tuple [a, b] k2 pt2) pos.line X.env = pure false := by rfl)
    (h1 : (assignEach [.Tuple [.Name nx px, .Name ny py] kt1 pt] X.env).map (·.2) = [assign (.Tuple [.Name nx px, .Name ny py] kt1 pt) X.env] := by rfl) :
    S1 X O ρ (.Assign [.Tuple [.Name nx px, .Name ny py] kt1 pt] (.Tuple [a, b] k2 pt2) pos) x D := fun H0 σ H st tk E ok =>
  ws_of (ps_asg (pe_tup pa_w) (pg_tup hc (pgs_cons (pg_name hN hi hx hfx) (pgs_cons (pg_name hN hj hy hfy) pgs_nil ha2) ha1) hn hst) hs hw h1) (h H0 σ H st tk _ fun vs H' ss O' ⟨s1, s2, e1, q⟩ st' r => by
    subst e1
    cases r with
    | cons r1 r =>
      cases r with
      | cons r2 r =>
        cases r
        refine ⟨show 2 ≤ sizeLine by decide, fun t ht => ?_⟩
        have sm : ∀ xs, Same H' (upd H' t (.tup xs)) := fun xs => same_new ht
        exact ⟨t, _, rfl, .inl (.inl upd_same), rfl, _, _, rfl, _, _, rfl, rfl, ok.nx _ _ _ _ q (((st'.grow (sm _)).set (SlOk.mono (hid_same (sm _)) r1)).set (SlOk.mono (hid_same (sm _)) r2))⟩)
end
end Kn
namespace Lw
open PySem PySem.Spec PyProof.Rows
open L2 hiding St
open Kn
def topS (i : Nat) : Stmt := PySem.Challenge.pw_keptnomore_k16_rules_read_and_shown.main.body.getD i (.Pass ⟨0, 0, 0, 0⟩)
abbrev s_wall : Stmt := topS 0
abbrev N_wall : List Str := ["k"]
theorem sc_wall : FnScope ["k"] ["k"] (defScope s_wall) := ⟨rfl, rfl, rfl, by decide +kernel, rfl, by decide +kernel, by decide +kernel⟩
abbrev s_rows_of : Stmt := topS 3
abbrev N_rows_of : List Str := ["text"]
theorem sc_rows_of : FnScope ["text"] ["text"] (defScope s_rows_of) := ⟨rfl, rfl, rfl, by decide +kernel, rfl, by decide +kernel, by decide +kernel⟩
abbrev s_split_words : Stmt := topS 4
abbrev N_split_words : List Str := ["row"]
theorem sc_split_words : FnScope ["row"] ["row"] (defScope s_split_words) := ⟨rfl, rfl, rfl, by decide +kernel, rfl, by decide +kernel, by decide +kernel⟩
abbrev s_is_made_of : Stmt := topS 5
abbrev N_is_made_of : List Str := ["value", "letters", "most", "sign"]
theorem sc_is_made_of : FnScope ["value", "letters", "most", "sign"] ["value", "letters", "most"] (defScope s_is_made_of) := ⟨rfl, rfl, rfl, by decide +kernel, rfl, by decide +kernel, by decide +kernel⟩
abbrev s_is_kind_name : Stmt := topS 6
abbrev N_is_kind_name : List Str := ["value"]
theorem sc_is_kind_name : FnScope ["value"] ["value"] (defScope s_is_kind_name) := ⟨rfl, rfl, rfl, by decide +kernel, rfl, by decide +kernel, by decide +kernel⟩
abbrev s_own_copy : Stmt := topS 7
abbrev N_own_copy : List Str := ["value", "one"]
theorem sc_own_copy : FnScope ["value", "one"] ["value"] (defScope s_own_copy) := ⟨rfl, rfl, rfl, by decide +kernel, rfl, by decide +kernel, by decide +kernel⟩
abbrev s_NoKinds_init : Stmt := inClass (topS 10) 0
abbrev N_NoKinds_init : List Str := ["self", "row"]
theorem sc_NoKinds_init : FnScope ["self", "row"] ["self", "row"] (defScope s_NoKinds_init) := ⟨rfl, rfl, rfl, by decide +kernel, rfl, by decide +kernel, by decide +kernel⟩
abbrev s_NoRules_init : Stmt := inClass (topS 11) 0
abbrev N_NoRules_init : List Str := ["self", "row"]
theorem sc_NoRules_init : FnScope ["self", "row"] ["self", "row"] (defScope s_NoRules_init) := ⟨rfl, rfl, rfl, by decide +kernel, rfl, by decide +kernel, by decide +kernel⟩
abbrev s_TooMany_init : Stmt := inClass (topS 12) 0
abbrev N_TooMany_init : List Str := ["self", "word"]
theorem sc_TooMany_init : FnScope ["self", "word"] ["self", "word"] (defScope s_TooMany_init) := ⟨rfl, rfl, rfl, by decide +kernel, rfl, by decide +kernel, by decide +kernel⟩
abbrev s_line_of : Stmt := topS 15
abbrev N_line_of : List Str := ["row", "at", "words"]
theorem sc_line_of : FnScope ["row", "at", "words"] ["row", "at"] (defScope s_line_of) := ⟨rfl, rfl, rfl, by decide +kernel, rfl, by decide +kernel, by decide +kernel⟩
abbrev s_Rules_init : Stmt := inClass (topS 16) 0
abbrev N_Rules_init : List Str := ["self", "lines"]
theorem sc_Rules_init : FnScope ["self", "lines"] ["self", "lines"] (defScope s_Rules_init) := ⟨rfl, rfl, rfl, by decide +kernel, rfl, by decide +kernel, by decide +kernel⟩
abbrev s_Rules_read : Stmt := inClass (topS 16) 1
abbrev N_Rules_read : List Str := ["cls", "text", "lines", "at", "row"]
theorem sc_Rules_read : FnScope ["cls", "text", "lines", "at", "row"] ["cls", "text"] (defScope s_Rules_read) := ⟨rfl, rfl, rfl, by decide +kernel, rfl, by decide +kernel, by decide +kernel⟩
abbrev s_Rules_str : Stmt := inClass (topS 16) 2
abbrev N_Rules_str : List Str := ["self", "word", "kind"]
theorem sc_Rules_str : FnScope ["self", "word", "kind"] ["self"] (defScope s_Rules_str) := ⟨rfl, rfl, rfl, by decide +kernel, rfl, by decide +kernel, by decide +kernel⟩
abbrev s_Rules_eq : Stmt := inClass (topS 16) 3
abbrev N_Rules_eq : List Str := ["self", "other"]
theorem sc_Rules_eq : FnScope ["self", "other"] ["self", "other"] (defScope s_Rules_eq) := ⟨rfl, rfl, rfl, by decide +kernel, rfl, by decide +kernel, by decide +kernel⟩
abbrev s_Rules_need_kinds : Stmt := inClass (topS 16) 4
abbrev N_Rules_need_kinds : List Str := ["self", "kinds"]
theorem sc_Rules_need_kinds : FnScope ["self", "kinds"] ["self", "kinds"] (defScope s_Rules_need_kinds) := ⟨rfl, rfl, rfl, by decide +kernel, rfl, by decide +kernel, by decide +kernel⟩
abbrev s_Rules_lets : Stmt := inClass (topS 16) 5
abbrev N_Rules_lets : List Str := ["self", "kinds", "tree"]
theorem sc_Rules_lets : FnScope ["self", "kinds", "tree"] ["self", "kinds", "tree"] (defScope s_Rules_lets) := ⟨rfl, rfl, rfl, by decide +kernel, rfl, by decide +kernel, by decide +kernel⟩
abbrev s_law_box : Stmt := topS 18
abbrev N_law_box : List Str := ["_law_script", "_law_k", "_law_own", "_law_cell", "_law_seed"]
theorem sc_law_box : FnScope ["_law_script", "_law_k", "_law_own", "_law_cell", "_law_seed"] ["_law_script", "_law_k", "_law_own"] (defScope s_law_box) := ⟨rfl, rfl, rfl, by decide +kernel, rfl, by decide +kernel, by decide +kernel⟩
abbrev s_law_take : Stmt := topS 19
abbrev N_law_take : List Str := ["_law_box_here", "_law_many", "_law_digit", "_law_raw"]
theorem sc_law_take : FnScope ["_law_box_here", "_law_many", "_law_digit", "_law_raw"] ["_law_box_here", "_law_many"] (defScope s_law_take) := ⟨rfl, rfl, rfl, by decide +kernel, rfl, by decide +kernel, by decide +kernel⟩
abbrev s_law_mixed : Stmt := topS 20
abbrev N_law_mixed : List Str := ["_law_box_here", "_law_items", "_law_left", "_law_found"]
theorem sc_law_mixed : FnScope ["_law_box_here", "_law_items", "_law_left", "_law_found"] ["_law_box_here", "_law_items"] (defScope s_law_mixed) := ⟨rfl, rfl, rfl, by decide +kernel, rfl, by decide +kernel, by decide +kernel⟩
abbrev s_law_pick : Stmt := topS 21
abbrev N_law_pick : List Str := ["_law_box_here", "_law_items"]
theorem sc_law_pick : FnScope ["_law_box_here", "_law_items"] ["_law_box_here", "_law_items"] (defScope s_law_pick) := ⟨rfl, rfl, rfl, by decide +kernel, rfl, by decide +kernel, by decide +kernel⟩
abbrev s_law_caps : Stmt := topS 22
abbrev N_law_caps : List Str := ["_law_box_here", "_law_many", "_law_letters", "_law_first", "_law_stem", "_law_k"]
theorem sc_law_caps : FnScope ["_law_box_here", "_law_many", "_law_letters", "_law_first", "_law_stem", "_law_k"] ["_law_box_here", "_law_many"] (defScope s_law_caps) := ⟨rfl, rfl, rfl, by decide +kernel, rfl, by decide +kernel, by decide +kernel⟩
abbrev s_law_is_kind : Stmt := topS 23
abbrev N_law_is_kind : List Str := ["_law_word", "_law_sign"]
theorem sc_law_is_kind : FnScope ["_law_word", "_law_sign"] ["_law_word"] (defScope s_law_is_kind) := ⟨rfl, rfl, rfl, by decide +kernel, rfl, by decide +kernel, by decide +kernel⟩
abbrev s_law_due : Stmt := topS 24
abbrev N_law_due : List Str := ["_law_text", "_law_rows", "_law_at", "_law_row", "_law_words"]
theorem sc_law_due : FnScope ["_law_text", "_law_rows", "_law_at", "_law_row", "_law_words"] ["_law_text"] (defScope s_law_due) := ⟨rfl, rfl, rfl, by decide +kernel, rfl, by decide +kernel, by decide +kernel⟩
abbrev s_law_read : Stmt := topS 25
abbrev N_law_read : List Str := ["_law_text", "_law_found", "e"]
theorem sc_law_read : FnScope ["_law_text", "_law_found", "e"] ["_law_text"] (defScope s_law_read) := ⟨rfl, rfl, rfl, by decide +kernel, rfl, by decide +kernel, by decide +kernel⟩
abbrev s_law_spoilt : Stmt := topS 26
abbrev N_law_spoilt : List Str := ["_law_box_here", "_law_text", "_law_caps_here", "_law_form", "_law_rows", "_law_at", "_law_spot", "_law_some"]
theorem sc_law_spoilt : FnScope ["_law_box_here", "_law_text", "_law_caps_here", "_law_form", "_law_rows", "_law_at", "_law_spot", "_law_some"] ["_law_box_here", "_law_text", "_law_caps_here"] (defScope s_law_spoilt) := ⟨rfl, rfl, rfl, by decide +kernel, rfl, by decide +kernel, by decide +kernel⟩
abbrev s_law : Stmt := topS 27
abbrev N_law : List Str := ["_law_script", "_law_k", "_law_box_here", "_law_caps_here", "_law_made", "_law_turn", "_law_rows", "_law_row", "_law_text", "_law_more", "_law_some", "_law_one", "_law_its", "_law_other", "_law_odd"]
theorem sc_law : FnScope ["_law_script", "_law_k", "_law_box_here", "_law_caps_here", "_law_made", "_law_turn", "_law_rows", "_law_row", "_law_text", "_law_more", "_law_some", "_law_one", "_law_its", "_law_other", "_law_odd"] ["_law_script"] (defScope s_law) := ⟨rfl, rfl, rfl, by decide +kernel, rfl, by decide +kernel, by decide +kernel⟩
def k_KIND_LETTERS : Str := "ABCDEFGHIJKLMNOPQRSTUVWXYZ"
structure Facts (K : PySem.W.Frag) : Prop where
  n_isinstance : PySem.W.nsIn K mainGlobals "isinstance" = some none
  n_str : PySem.W.nsIn K mainGlobals "str" = some none
  n_all : PySem.W.nsIn K mainGlobals "all" = some none
  n_len : PySem.W.nsIn K mainGlobals "len" = some none
  n_list : PySem.W.nsIn K mainGlobals "list" = some none
  n_tuple : PySem.W.nsIn K mainGlobals "tuple" = some none
  n_classmethod : PySem.W.nsIn K mainGlobals "classmethod" = some none
  n_enumerate : PySem.W.nsIn K mainGlobals "enumerate" = some none
  n_abs : PySem.W.nsIn K mainGlobals "abs" = some none
  n_int : PySem.W.nsIn K mainGlobals "int" = some none
  n_range : PySem.W.nsIn K mainGlobals "range" = some none
  n_ValueError : PySem.W.nsIn K mainGlobals "ValueError" = some none
  n_max : PySem.W.nsIn K mainGlobals "max" = some none
  n_min : PySem.W.nsIn K mainGlobals "min" = some none
  n_repr : PySem.W.nsIn K mainGlobals "repr" = some none
  d_wall : DefIn K "_wall" s_wall
  d_rows_of : DefIn K "rows_of" s_rows_of
  d_split_words : DefIn K "split_words" s_split_words
  d_is_made_of : DefIn K "is_made_of" s_is_made_of
  d_is_kind_name : DefIn K "is_kind_name" s_is_kind_name
  d_own_copy : DefIn K "own_copy" s_own_copy
  d_line_of : DefIn K "line_of" s_line_of
  d_law_box : DefIn K "_law_box" s_law_box
  d_law_take : DefIn K "_law_take" s_law_take
  d_law_mixed : DefIn K "_law_mixed" s_law_mixed
  d_law_pick : DefIn K "_law_pick" s_law_pick
  d_law_caps : DefIn K "_law_caps" s_law_caps
  d_law_is_kind : DefIn K "_law_is_kind" s_law_is_kind
  d_law_due : DefIn K "_law_due" s_law_due
  d_law_read : DefIn K "_law_read" s_law_read
  d_law_spoilt : DefIn K "_law_spoilt" s_law_spoilt
  d_law : DefIn K "law" s_law
  g_KIND_LETTERS : TextIn K "KIND_LETTERS" k_KIND_LETTERS
  g_MOST_ROWS : IntIn K "MOST_ROWS" 3
  x_NoKinds : ∃ C B, ExcIn K "NoKinds" "NoKinds.__init__" "KeptError" s_NoKinds_init C B ∧ PySem.W.findIn K (.ref C) "row" = some none
  x_NoRules : ∃ C B, ExcIn K "NoRules" "NoRules.__init__" "KeptError" s_NoRules_init C B ∧ PySem.W.findIn K (.ref C) "row" = some none
  x_TooMany : ∃ C B, ExcIn K "TooMany" "TooMany.__init__" "KeptError" s_TooMany_init C B ∧ PySem.W.findIn K (.ref C) "word" = some none
  c_Rules : ∃ C, ClsIn K "Rules" C ∧ MethInD K C "__init__" "Rules.__init__" s_Rules_init 1 ∧ CMethIn K C "read" "Rules.read" s_Rules_read ∧ MethIn K C "__str__" "Rules.__str__" s_Rules_str ∧ MethIn K C "__eq__" "Rules.__eq__" s_Rules_eq ∧ PySem.W.findIn K (.ref C) "lines" = some none
  e_TooMany_NoRules : ∃ C C2, PySem.W.nsIn K mainGlobals "TooMany" = some (some (.ref C)) ∧ PySem.W.nsIn K mainGlobals "NoRules" = some (some (.ref C2)) ∧ PySem.W.subIn K (.ref C) (.ref C2) = some false
  e_NoRules_NoKinds : ∃ C C2, PySem.W.nsIn K mainGlobals "NoRules" = some (some (.ref C)) ∧ PySem.W.nsIn K mainGlobals "NoKinds" = some (some (.ref C2)) ∧ PySem.W.subIn K (.ref C) (.ref C2) = some false
  e_NoRules_TooMany : ∃ C C2, PySem.W.nsIn K mainGlobals "NoRules" = some (some (.ref C)) ∧ PySem.W.nsIn K mainGlobals "TooMany" = some (some (.ref C2)) ∧ PySem.W.subIn K (.ref C) (.ref C2) = some false
  e_TooMany_ValueError : ∃ C, PySem.W.nsIn K mainGlobals "TooMany" = some (some (.ref C)) ∧ PySem.W.subIn K (.ref C) (.type "ValueError") = some true
  e_cls_Rules : ∃ C, PySem.W.nsIn K mainGlobals "Rules" = some (some (.ref C)) ∧ PySem.W.isClsIn K C = true ∧ PySem.W.typeIn K (.ref C) = some (.type "type")
  e_cls_NoKinds : ∃ C, PySem.W.nsIn K mainGlobals "NoKinds" = some (some (.ref C)) ∧ PySem.W.isClsIn K C = true ∧ PySem.W.typeIn K (.ref C) = some (.type "type")
  e_cls_TooMany : ∃ C, PySem.W.nsIn K mainGlobals "TooMany" = some (some (.ref C)) ∧ PySem.W.isClsIn K C = true ∧ PySem.W.typeIn K (.ref C) = some (.type "type")
local macro_rules | `(tactic| walk_at "side") => `(tactic| first | rfl | decide | assumption | omega | (constructor <;> first | decide | omega) | (refine ⟨?_, ?_, ?_⟩ <;> first | decide | omega))
local macro_rules | `(tactic| walk_at "cell") => `(tactic| first | exact up_at | assumption | (rw [up_ne (by assumption)]; first | exact up_at | assumption) | (rw [up_ne (Ne.symm (by assumption))]; first | exact up_at | assumption))
local macro_rules | `(tactic| walk_at "ty") => `(tactic| first | exact rfl | exact ⟨rfl, _, by walk_at "cell"⟩)
local macro_rules | `(tactic| walk_at "ix") => `(tactic| first | refine ix_own (by walk_at "cell") (by rfl) ?_ | refine ix_lst (by rfl) ?_ | refine ix_tpl (by rfl) ?_ | refine ix_fro (by rfl) ?_)
local macro_rules | `(tactic| walk_at "op add") => `(tactic| first | refine ob_add ?_ | refine ob_cat (by walk_at "side") ?_ | refine ob_catL (by walk_at "side") ?_ | refine ob_catT (by walk_at "side") ?_)
local macro_rules | `(tactic| walk_at "op sub") => `(tactic| refine ob_sub ?_)
local macro_rules | `(tactic| walk_at "op mul") => `(tactic| first | refine ob_mul (.inr (by decide)) ?_ | refine ob_mul (.inl (by decide)) ?_ | refine ob_mul (.inl (by constructor <;> omega)) ?_ | refine ob_mul (.inr (by constructor <;> omega)) ?_ | refine ob_rep (by walk_at "side") (by walk_at "side") ?_ | refine ob_times (by walk_at "side") (by walk_at "side") ?_)
local macro_rules | `(tactic| walk_at "op mod") => `(tactic| refine ob_mod (by first | decide | omega) ?_)
local macro_rules | `(tactic| walk_at "op fdiv") => `(tactic| refine ob_fdiv (by first | decide | omega) ?_)
local macro_rules | `(tactic| walk_at "op pow") => `(tactic| refine ob_pow (by first | decide | (refine ⟨by decide, by decide, by omega⟩)) ?_)
local macro_rules | `(tactic| walk_at "cmp Gt") => `(tactic| refine ob_gt ?_)
local macro_rules | `(tactic| walk_at "cmp Lt") => `(tactic| refine ob_lt ?_)
local macro_rules | `(tactic| walk_at "cmp GtE") => `(tactic| refine ob_ge ?_)
local macro_rules | `(tactic| walk_at "cmp LtE") => `(tactic| refine ob_le ?_)
local macro_rules | `(tactic| walk_at "cmp Eq") => `(tactic| first | refine ob_eqI ?_ | refine ob_eqS ?_ | refine ob_eqB ?_)
local macro_rules | `(tactic| walk_at "cmp NotEq") => `(tactic| first | refine ob_neI ?_ | refine ob_neS ?_)
local macro_rules | `(tactic| walk_at "cmp Is") => `(tactic| refine ob_isN ?_)
local macro_rules | `(tactic| walk_at "cmp IsNot") => `(tactic| refine ob_isNotN ?_)
local macro_rules | `(tactic| walk_at "cmp In") => `(tactic| first | refine ob_inS ?_ | refine ob_inT ?_ | refine ob_inL ?_)
local macro_rules | `(tactic| walk_at "cmp NotIn") => `(tactic| first | refine ob_niS ?_ | refine ob_niT ?_ | refine ob_niL ?_)
local macro_rules | `(tactic| walk_at "cb len") => `(tactic| first | refine cb_lenL ?_ | refine cb_lenT ?_ | refine cb_lenF ?_ | refine cb_lenO (by walk_at "cell") ?_ | refine cb_lenS (by walk_at "side") ?_)
local macro_rules | `(tactic| walk_at "cb abs") => `(tactic| refine cb_abs ?_)
local macro_rules | `(tactic| walk_at "cb int") => `(tactic| refine cb_intB ?_)
local macro_rules | `(tactic| walk_at "cb max") => `(tactic| refine cb_max rfl ?_)
local macro_rules | `(tactic| walk_at "cb min") => `(tactic| refine cb_min rfl ?_)
local macro_rules | `(tactic| walk_at "cb str") => `(tactic| first | refine cb_strS ?_ | refine cb_strI (by walk_at "side") ?_)
local macro_rules | `(tactic| walk_at "cb tuple") => `(tactic| first | refine cb_tupL ?_ | refine cb_tupT ?_)
local macro_rules | `(tactic| walk_at "cb list") => `(tactic| first | refine cb_listL fun p hp => ?_ | refine cb_listT fun p hp => ?_)
local macro_rules | `(tactic| walk_at "m1 split") => `(tactic| refine m1_split (by first | rfl | decide) (by walk_at "side") ?_)
local macro_rules | `(tactic| walk_at "m1 partition") => `(tactic| refine m1_partition (by first | rfl | decide) (by walk_at "side") ?_)
local macro_rules | `(tactic| walk_at "m1 find") => `(tactic| refine m1_find ?_)
local macro_rules | `(tactic| walk_at "mb append") => `(tactic| refine mb_append (by walk_at "cell") (by walk_at "side") ?_)
local macro_rules | `(tactic| walk_at "b1") => `(tactic| exact fun _ _ _ _ _ _ us hl => match us, hl with | [_], _ => rfl)
local macro_rules | `(tactic| walk_at "b2") => `(tactic| exact fun _ _ _ _ _ _ us hl => match us, hl with | [_, _], _ => rfl)
local macro_rules | `(tactic| walk_at "b3") => `(tactic| exact fun _ _ _ _ _ _ us hl => match us, hl with | [_, _, _], _ => rfl)
local macro_rules | `(tactic| walk_at "b4") => `(tactic| exact fun _ _ _ _ _ _ us hl => match us, hl with | [_, _, _, _], _ => rfl)
local macro_rules | `(tactic| walk_at "blk") => `(tactic| first | exact ⟨rfl, by decide +kernel, by decide +kernel, by decide +kernel, by decide +kernel⟩ | (constructor <;> first | rfl | decide +kernel))
local macro_rules | `(tactic| walk_at "few") => `(tactic| first | decide | exact Nat.le_of_ble_eq_true rfl)
local macro_rules | `(tactic| walk_at "own") => `(tactic| (funext z_; simp only [Kn.up, Kn.dn]; (repeat' split) <;> first | rfl | (subst_vars; first | rfl | contradiction) | simp_all))
section
variable {P : Program} {w : World} {K : PySem.W.Frag} {mg : Str → Option Value} {base : Heap}
theorem fn_split_words (T : TopOf K mg) (Z : Facts K) {f : Addr} {fd : FuncData} (F : L2.Fun K "split_words" "split_words" s_split_words f fd) : Fn P w K mg base false 1 f fd ["row"] SplitS := by
  have sc := sc_split_words
  refine fn_mk F sc_split_words (fun ss O R h => by obtain ⟨z, rfl, _⟩ := h; rfl) fun cdv A outer s H E ss O R hr hpo h => ?_
  obtain ⟨z, rfl, hz, h⟩ := h
  refine sw_one ?_
  refine s1_ret ?_
  refine ew_if ?_
  refine tw_cmp ?_
  refine ew_var 0 ?_
  refine ew_str ?_
  walk_at "cmp NotEq"
  refine ⟨_, rfl, fun ht => ?_, fun ht => ?_⟩
  · refine ew_split ?_
    refine ew_var 0 ?_
    refine ⟨_, rfl, ?_⟩
    refine ew_str ?_
    refine m1_split (by decide +kernel) (Nat.le_trans (Nat.add_le_add_right hz 2) (by decide)) ?_
    have e : wordsS z = Txt.split z " " := if_neg (by simpa using ht)
    rw [← e]
    exact h
  · refine ew_lstD ?_
    refine aw_nil ?_
    refine ⟨[], rfl, by decide, ?_⟩
    have e : wordsS z = [] := if_pos (by simpa using ht)
    rw [e] at h
    exact h
theorem c_split_words (T : TopOf K mg) (Z : Facts K) : Cal P w K mg base false 1 "split_words" SplitS [] := cal_of T Z.d_split_words (by walk_at "b1") fun f fd F => fn_split_words T Z F
theorem fn_is_made_of (T : TopOf K mg) (Z : Facts K) {f : Addr} {fd : FuncData} (F : L2.Fun K "is_made_of" "is_made_of" s_is_made_of f fd) : Fn P w K mg base false 1 f fd ["value", "letters", "most"] MadeS := by
  have sc := sc_is_made_of
  refine fn_mk F sc_is_made_of (fun ss O R h => by obtain ⟨z, _, _, rfl, _⟩ := h; rfl) fun cdv A outer s H E ss O R hr hpo h => ?_
  obtain ⟨d, L, m, rfl, hd, h⟩ := h
  refine sw_one ?_
  refine s1_ret ?_
  refine ew_and ?_
  refine ew_callB (T.no Z.n_isinstance) bt_isinstance ?_
  refine aw_cons ?_
  refine ew_var 0 ?_
  refine aw_cons ?_
  refine ew_bltn (T.no Z.n_str) bt_str ?_
  refine aw_nil ?_
  refine cb_isTy (kit_str hd.1) ?_ hd.1
  refine ⟨_, rfl, fun hc => ?_, fun hc => ?_⟩
  · cases d with
    | str z =>
      have hz := hd.2 z rfl
      have hzl : z.length ≤ sizeLine := Nat.le_trans hz (by decide)
      refine ew_and ?_
      refine ew_chain ?_
      refine ew_int ?_
      refine ew_callB (T.no Z.n_len) bt_len ?_
      refine aw_cons ?_
      refine ew_var 0 ?_
      refine aw_nil ?_
      refine cb_lenS hzl ?_
      walk_at "cmp Lt"
      refine ⟨rfl, _, rfl, fun hc => ?_, fun hc => ?_⟩
      · refine ew_var 2 ?_
        walk_at "cmp LtE"
        refine ⟨_, rfl, fun hc2 => ?_, fun hc2 => ?_⟩
        · refine ew_one ?_
          refine ew_callB (T.no Z.n_all) bt_all ?_
          refine aw_cons ?_
          refine ew_map1 (sgs z) (fun c => .str ⟨#[c]⟩) (fun c => .bl (decide (c ∈ sgs L))) [("sign", 3)] sc.nd (.name (i := 3) (by decide) fun Y ⟨_, _, _, _, _, e⟩ => by subst e; exact pg_name (i := 3) sc.nd rfl (.inl rfl) (.inr rfl)) (blkOk_by (N := N_is_made_of) (sc := defScope s_is_made_of) (by decide +kernel)) (iw_str (ew_var 0 ⟨z, rfl, rfl, rfl⟩)) (by rw [← sgs_len]; exact hzl) (fun c hcm => ⟨_, rfl, fun O' Y hY => ?_⟩) ?_
          · obtain ⟨_, _, _, _, _, rfl⟩ := hY
            refine ew_cmp ?_
            refine ew_var 3 ?_
            refine ew_var 1 ?_
            walk_at "cmp In"
            exact ⟨rfl, rfl⟩
          · refine aw_nil ?_
            refine cb_allF rfl ?_
            have e : madeD (.str z) L m = (sgs z).all fun c => decide (c ∈ sgs L) := by
              have h1 : decide (0 < z.length) = true := by simpa using hc
              have h2 : decide (z.length ≤ m) = true := by simpa using hc2
              show (decide (0 < z.length) && (decide (z.length ≤ m) && _)) = _
              rw [h1, h2]; rfl
            rw [e] at h
            exact h
        · have e : madeD (.str z) L m = false := by
            have h2 : decide (z.length ≤ m) = false := by simpa using hc2
            show (decide (0 < z.length) && (decide (z.length ≤ m) && _)) = _
            rw [h2, Bool.false_and, Bool.and_false]
          rw [e] at h
          exact h
      · refine ⟨_, rfl, fun hc => ?_, fun hc2 => ?_⟩
        · exact absurd hc (by decide)
        · have e : madeD (.str z) L m = false := by
            have h2 : decide (0 < z.length) = false := by simpa using hc
            show (decide (0 < z.length) && (decide (z.length ≤ m) && _)) = _
            rw [h2, Bool.false_and]
          rw [e] at h
          exact h
    | _ => cases hc
  · cases d with
    | str z => cases hc
    | _ => exact h
theorem c_is_made_of (T : TopOf K mg) (Z : Facts K) : Cal P w K mg base false 1 "is_made_of" MadeS [] := cal_of T Z.d_is_made_of (by walk_at "b3") fun f fd F => fn_is_made_of T Z F
theorem fn_own_copy0 (T : TopOf K mg) (Z : Facts K) {f : Addr} {fd : FuncData} (F : L2.Fun K "own_copy" "own_copy" s_own_copy f fd) : Fn P w K mg base false 1 f fd ["value"] Own0S := by
  have sc := sc_own_copy
  refine fn_mk F sc_own_copy (fun ss O R h => by obtain ⟨z, rfl, _⟩ := h; rfl) fun cdv A outer s H E ss O R hr hpo h => ?_
  obtain ⟨d, rfl, hd, hl, hnt, h⟩ := h
  refine sw_cons ?_
  refine s1_if ?_
  refine tw_val ?_
  refine ew_callB (T.no Z.n_isinstance) bt_isinstance ?_
  refine aw_cons ?_
  refine ew_var 0 ?_
  refine aw_cons ?_
  refine ew_bltn (T.no Z.n_list) bt_list ?_
  refine aw_nil ?_
  refine cb_isTy (kit_lst hd) ?_ hd
  rw [hl]
  refine ⟨_, rfl, fun ht => ?_, fun ht => ?_⟩
  · cases ht
  · refine sw_nil ?_
    refine sw_one ?_
    refine s1_ret ?_
    refine ew_if ?_
    refine tw_val ?_
    refine ew_callB (T.no Z.n_isinstance) bt_isinstance ?_
    refine aw_cons ?_
    refine ew_var 0 ?_
    refine aw_cons ?_
    refine ew_bltn (T.no Z.n_tuple) bt_tuple ?_
    refine aw_nil ?_
    refine cb_isTy (kit_tup hd) ?_ hd
    rw [hnt]
    refine ⟨_, rfl, fun ht => ?_, fun ht => ?_⟩
    · cases ht
    · refine ew_var 0 ?_
      exact h
theorem c_own_copy0 (T : TopOf K mg) (Z : Facts K) : Cal P w K mg base false 1 "own_copy" Own0S [] := cal_of T Z.d_own_copy (by walk_at "b1") fun f fd F => fn_own_copy0 T Z F
/-- a scalar -/
def flatD (d : Dat) : Prop := tyName d ≠ "" ∧ isLstD d = false ∧ isTupD d = false
theorem fn_NoRules (T : TopOf K mg) (Z : Facts K) {C B : Addr} (X : ExcIn K "NoRules" "NoRules.__init__" "KeptError" s_NoRules_init C B) (nf : PySem.W.findIn K (.ref C) "row" = some none) {f : Addr} {fd : FuncData} (F : L2.Fun K "__init__" "NoRules.__init__" s_NoRules_init f fd) : Fn P w K mg base false 2 f fd ["self", "row"] (Ini1 flatD C "row") := by
  have sc := sc_NoRules_init
  refine fn_mk F sc_NoRules_init (fun ss O R h => by obtain ⟨a, d, rfl, _⟩ := h; rfl) fun cdv A outer s H E ss O R hr hpo h => ?_
  obtain ⟨a, d, rfl, hd, ha, h⟩ := h
  refine sw_cons ?_
  refine s1_expr ?_
  refine ew_kinit (X.ini T) ?_
  refine aw_cons ?_
  refine ew_var 0 ?_
  refine aw_cons ?_
  refine ew_str ?_
  refine aw_nil ?_
  refine ⟨a, C, _, rfl, by decide, X.a.oex, ha, ?_⟩
  refine sw_one ?_
  refine s1_ost ?_
  refine ew_call (c_own_copy0 T Z) hr ?_
  refine aw_cons ?_
  refine ew_var 1 ?_
  refine aw_nil ?_
  refine ⟨d, rfl, hd.1, hd.2.1, hd.2.2, ?_⟩
  refine ew_var 0 ?_
  exact ⟨a, C, rfl, X.a.oex, nf, .inl ⟨ha, fun dx nd => h dx nd⟩⟩
theorem xc_NoRules (T : TopOf K mg) (Z : Facts K) : ∃ C B, ExcIn K "NoRules" "NoRules.__init__" "KeptError" s_NoRules_init C B ∧ PySem.W.findIn K (.ref C) "row" = some none ∧ ExCls P w K mg base 2 "NoRules" C (Ini1 flatD C "row") := by
  obtain ⟨C, B, X, nf⟩ := Z.x_NoRules
  exact ⟨C, B, X, nf, xc_of T X (by walk_at "b2") fun f fd F => fn_NoRules T Z X nf F⟩
theorem fn_TooMany (T : TopOf K mg) (Z : Facts K) {C B : Addr} (X : ExcIn K "TooMany" "TooMany.__init__" "KeptError" s_TooMany_init C B) (nf : PySem.W.findIn K (.ref C) "word" = some none) {f : Addr} {fd : FuncData} (F : L2.Fun K "__init__" "TooMany.__init__" s_TooMany_init f fd) : Fn P w K mg base false 2 f fd ["self", "word"] (Ini1 flatD C "word") := by
  have sc := sc_TooMany_init
  refine fn_mk F sc_TooMany_init (fun ss O R h => by obtain ⟨a, d, rfl, _⟩ := h; rfl) fun cdv A outer s H E ss O R hr hpo h => ?_
  obtain ⟨a, d, rfl, hd, ha, h⟩ := h
  refine sw_cons ?_
  refine s1_expr ?_
  refine ew_kinit (X.ini T) ?_
  refine aw_cons ?_
  refine ew_var 0 ?_
  refine aw_cons ?_
  refine ew_str ?_
  refine aw_nil ?_
  refine ⟨a, C, _, rfl, by decide, X.a.oex, ha, ?_⟩
  refine sw_one ?_
  refine s1_ost ?_
  refine ew_call (c_own_copy0 T Z) hr ?_
  refine aw_cons ?_
  refine ew_var 1 ?_
  refine aw_nil ?_
  refine ⟨d, rfl, hd.1, hd.2.1, hd.2.2, ?_⟩
  refine ew_var 0 ?_
  exact ⟨a, C, rfl, X.a.oex, nf, .inl ⟨ha, fun dx nd => h dx nd⟩⟩
theorem xc_TooMany (T : TopOf K mg) (Z : Facts K) : ∃ C B, ExcIn K "TooMany" "TooMany.__init__" "KeptError" s_TooMany_init C B ∧ PySem.W.findIn K (.ref C) "word" = some none ∧ ExCls P w K mg base 2 "TooMany" C (Ini1 flatD C "word") := by
  obtain ⟨C, B, X, nf⟩ := Z.x_TooMany
  exact ⟨C, B, X, nf, xc_of T X (by walk_at "b2") fun f fd F => fn_TooMany T Z X nf F⟩
end
/-- the source of draws -/
def boxC (c s n : Int) : Cell := .lst [.dat (.int c), .dat (.int s), .dat (.int n)]
def isBox (b : Cell) : Prop := ∃ c s n, b = boxC c s n ∧ 0 ≤ c ∧ 1 ≤ s ∧ s ≤ 2147483629 ∧ 0 ≤ n
def Take : SpecT := fun ss O R => ∃ (p : Addr) (m : Int) (b : Cell), ss = [.own p, .dat (.int m)] ∧ O p = some b ∧ isBox b ∧ 1 ≤ m ∧ m < 1073741824 ∧ ∀ (d : Int) (b' : Cell), 0 ≤ d → d < m → isBox b' → R (.ret (.dat (.int d))) (up O p b')
def BoxS : SpecT := fun ss O R => ∃ (ns : List Int) (k o : Int), ss = [.dat (.fro (ns.map .int)), .dat (.int k), .dat (.int o)] ∧ 0 ≤ k ∧ k ≤ 1000 ∧ 0 ≤ o ∧ o ≤ 1000 ∧ ∀ p b, O p = none → isBox b → R (.ret (.own p)) (up O p b)
section
variable {P : Program} {w : World} {K : PySem.W.Frag} {mg : Str → Option Value} {base : Heap}
theorem fn_law_take {f : Addr} {fd : FuncData} (F : L2.Fun K "_law_take" "_law_take" s_law_take f fd) : Fn P w K mg base false 1 f fd ["_law_box_here", "_law_many"] Take := by
  have sc := sc_law_take
  refine fn_mk F sc_law_take (fun ss O R h => by obtain ⟨p, m, b, rfl, _⟩ := h; rfl) fun cdv A outer s H E ss O R hr hpo h => ?_
  obtain ⟨p, m, b, rfl, hp, hb, hm1, hm2, h⟩ := h
  obtain ⟨c, s0, n, rfl, hc, hs1, hs2, hn⟩ := hb
  have hp : O p = some (.lst [.dat (.int c), .dat (.int s0), .dat (.int n)]) := hp
  -- 0:_law_box_here 1:_law_many 2:_law_digit 3:_law_raw 4:_law_wide
  refine sw_cons ?_
  refine s1_if ?_
  refine tw_cmp ?_
  refine ew_ix ?_
  refine ew_var 0 ?_
  refine ew_int ?_
  walk_at "ix"
  refine ew_int ?_
  walk_at "cmp Gt"
  refine ⟨_, rfl, fun ht => ?_, fun ht => ?_⟩
  · refine sw_cons ?_
    refine s1_set 2 ?_ sc.nd
    refine ew_bin ?_
    refine ew_ix ?_
    refine ew_var 0 ?_
    refine ew_int ?_
    walk_at "ix"
    refine ew_var 1 ?_
    walk_at "op mod"
    refine sw_cons ?_
    refine s1_asg ?_
    refine ew_bin ?_
    refine ew_ix ?_
    refine ew_var 0 ?_
    refine ew_int ?_
    walk_at "ix"
    refine ew_var 1 ?_
    walk_at "op fdiv"
    refine gw_set ?_
    refine ew_var 0 ?_
    refine ew_int ?_
    refine ⟨_, _, _, _, rfl, rfl, by walk_at "cell", rfl, ?_⟩
    refine sw_one ?_
    refine s1_ret ?_
    refine ew_var 2 ?_
    show R (.ret _) (up O p _)
    exact h _ _ (Int.emod_nonneg _ (by omega)) (Int.emod_lt_of_pos _ (by omega)) ⟨c / m, s0, n, rfl, Int.ediv_nonneg hc (by omega), hs1, hs2, hn⟩
  · refine sw_nil ?_
    refine sw_cons ?_
    refine s1_asg ?_
    refine ew_bin ?_
    refine ew_ix ?_
    refine ew_var 0 ?_
    refine ew_int ?_
    walk_at "ix"
    refine ew_int ?_
    walk_at "op add"
    refine gw_set ?_
    refine ew_var 0 ?_
    refine ew_int ?_
    refine ⟨_, _, _, _, rfl, rfl, by walk_at "cell", rfl, ?_⟩
    refine sw_cons ?_
    refine s1_set 3 ?_ sc.nd
    refine ew_bin ?_
    refine ew_bin ?_
    refine ew_bin ?_
    refine ew_ix ?_
    refine ew_var 0 ?_
    refine ew_int ?_
    walk_at "ix"
    refine ew_bin ?_
    refine ew_int ?_
    refine ew_ix ?_
    refine ew_var 0 ?_
    refine ew_int ?_
    walk_at "ix"
    walk_at "op mul"
    walk_at "op add"
    refine ew_int ?_
    walk_at "op mul"
    refine ew_int ?_
    walk_at "op mod"
    refine sw_cons ?_
    refine s1_asg ?_
    refine ew_bin ?_
    refine ew_bin ?_
    refine ew_bin ?_
    refine ew_bin ?_
    refine ew_var 3 ?_
    refine ew_int ?_
    walk_at "op mul"
    refine ew_int ?_
    walk_at "op add"
    refine ew_int ?_
    walk_at "op mod"
    refine ew_int ?_
    walk_at "op add"
    refine gw_set ?_
    refine ew_var 0 ?_
    refine ew_int ?_
    refine ⟨_, _, _, _, rfl, rfl, by walk_at "cell", rfl, ?_⟩
    refine sw_one ?_
    refine s1_ret ?_
    refine ew_bin ?_
    refine ew_bin ?_
    refine ew_bin ?_
    refine ew_bin ?_
    refine ew_var 3 ?_
    refine ew_int ?_
    walk_at "op mul"
    refine ew_ix ?_
    refine ew_var 0 ?_
    refine ew_int ?_
    walk_at "ix"
    walk_at "op add"
    refine ew_int ?_
    walk_at "op fdiv"
    refine ew_var 1 ?_
    walk_at "op mod"
    show R (.ret _) (up (up O p _) p _)
    rw [up_up]
    refine h _ _ (Int.emod_nonneg _ (by omega)) (Int.emod_lt_of_pos _ (by omega)) ⟨c, _, n + 1, rfl, hc, ?_, ?_, by omega⟩ <;> omega
theorem c_law_take (T : TopOf K mg) (Z : Facts K) : Cal P w K mg base false 1 "_law_take" Take [] := cal_of T Z.d_law_take (by walk_at "b2") fun f fd F => fn_law_take F
theorem box_last {c k o : Int} (hc : 0 ≤ c) (hk : 0 ≤ k) (ho : 0 ≤ o) : isBox (boxC c ((c % 2147483629 * 48271 + 40692 * (k + 11 * o)) % 2147483629 + 1) 0) := ⟨c, _, 0, rfl, hc, by omega, by omega, by omega⟩
theorem box_zero {c k o : Int} (hk : 0 ≤ k) (ho : 0 ≤ o) : isBox (boxC 0 ((c % 2147483629 * 48271 + 40692 * (k + 11 * o)) % 2147483629 + 1) 0) := ⟨0, _, 0, rfl, by omega, by omega, by omega, by omega⟩
theorem at_int {ns : List Int} {k : Int} (h0 : 0 ≤ k) (h : k < (ns.length : Int)) : ∃ n, atI (ns.map Dat.int) k = some (.int n) := by
  obtain ⟨j, rfl⟩ := Int.eq_ofNat_of_zero_le h0
  have hj : j < ns.length := by omega
  exact ⟨ns[j], atI_nat (by rw [List.getElem?_map, List.getElem?_eq_getElem hj]; rfl)⟩
theorem fn_law_box (T : TopOf K mg) (Z : Facts K) {f : Addr} {fd : FuncData} (F : L2.Fun K "_law_box" "_law_box" s_law_box f fd) : Fn P w K mg base false 1 f fd ["_law_script", "_law_k", "_law_own"] BoxS := by
  have sc := sc_law_box
  refine fn_mk F sc_law_box (fun ss O R h => by obtain ⟨_, _, _, rfl, _⟩ := h; rfl) fun cdv A outer s H E ss O R hr hpo h => ?_
  obtain ⟨ns, k, o, rfl, hk, hk2, ho, ho2, h⟩ := h
  -- 0:_law_script 1:_law_k 2:_law_own 3:_law_cell 4:_law_seed
  have tail : ∀ (x : ExK) (c : Int) (ρ : List Slot) (s4 : Slot), 0 ≤ c → (∀ e ρ' O', x e ρ' O' ↔ x e ρ' O') → SW (cxOf (L2.CX P w) P w K mg base N_law_box "_law_box" (defScope s_law_box) f cdv A outer s H E) O [.dat (.fro (ns.map .int)), .dat (.int k), .dat (.int o), .dat (.int c), s4] ((defBody s_law_box).drop 2) x { nx := fun _ O' => R (.ret (.dat .non)) O', rt := fun z O' => R (.ret z) O' } := by
    intro x c ρ s4 hc _
    refine sw_cons ?_
    refine s1_set 4 ?_ sc.nd
    refine ew_bin ?_
    refine ew_bin ?_
    refine ew_bin ?_
    refine ew_bin ?_
    refine ew_bin ?_
    refine ew_var 3 ?_
    refine ew_int ?_
    walk_at "op mod"
    refine ew_int ?_
    walk_at "op mul"
    refine ew_bin ?_
    refine ew_int ?_
    refine ew_bin ?_
    refine ew_var 1 ?_
    refine ew_bin ?_
    refine ew_int ?_
    refine ew_var 2 ?_
    walk_at "op mul"
    walk_at "op add"
    walk_at "op mul"
    walk_at "op add"
    refine ew_int ?_
    walk_at "op mod"
    refine ew_int ?_
    walk_at "op add"
    refine sw_one ?_
    refine s1_ret ?_
    refine ew_lst ?_
    refine aw_cons ?_
    refine ew_ix ?_
    refine ew_lstD ?_
    refine aw_cons ?_
    refine ew_int ?_
    refine aw_cons ?_
    refine ew_var 3 ?_
    refine aw_nil ?_
    refine ⟨[_, _], rfl, by walk_at "few", ?_⟩
    refine ew_callTy (T.no Z.n_int) bt_int ?_
    refine aw_cons ?_
    refine ew_cmp ?_
    refine ew_var 3 ?_
    refine ew_bin ?_
    refine ew_int ?_
    refine ew_int ?_
    walk_at "op pow"
    walk_at "cmp GtE"
    refine aw_nil ?_
    walk_at "cb int"
    by_cases hb : (10 : Int) ^ (18 : Int).toNat ≤ c
    · rw [decide_eq_true hb]
      refine ix_lst (i := 1) (atI_nat (j := 1) rfl) ?_
      refine aw_cons ?_
      refine ew_var 4 ?_
      refine aw_cons ?_
      refine ew_int ?_
      refine aw_nil ?_
      refine ⟨by walk_at "few", fun p hp => ?_⟩
      exact h p _ hp (box_last hc hk ho)
    · rw [decide_eq_false hb]
      refine ix_lst (i := 0) (atI_nat (j := 0) rfl) ?_
      refine aw_cons ?_
      refine ew_var 4 ?_
      refine aw_cons ?_
      refine ew_int ?_
      refine aw_nil ?_
      refine ⟨by walk_at "few", fun p hp => ?_⟩
      exact h p _ hp (box_zero hk ho)
  refine sw_cons ?_
  refine s1_set 3 ?_ sc.nd
  refine ew_bin ?_
  refine ew_bin ?_
  refine ew_bin ?_
  refine ew_int ?_
  refine ew_var 1 ?_
  walk_at "op mul"
  refine ew_bin ?_
  refine ew_int ?_
  refine ew_var 2 ?_
  walk_at "op mul"
  walk_at "op add"
  refine ew_int ?_
  walk_at "op add"
  refine sw_cons ?_
  refine s1_if ?_
  refine tw_cmp ?_
  refine ew_var 1 ?_
  refine ew_callB (T.no Z.n_len) bt_len ?_
  refine aw_cons ?_
  refine ew_var 0 ?_
  refine aw_nil ?_
  walk_at "cb len"
  rw [List.length_map]
  walk_at "cmp Lt"
  refine ⟨_, rfl, fun ht => ?_, fun ht => ?_⟩
  · obtain ⟨n, hn⟩ := at_int hk (of_decide_eq_true ht)
    refine sw_one ?_
    refine s1_set 3 ?_ sc.nd
    refine ew_callB (T.no Z.n_abs) bt_abs ?_
    refine aw_cons ?_
    refine ew_ix ?_
    refine ew_var 0 ?_
    refine ew_var 1 ?_
    refine ix_fro hn ?_
    refine aw_nil ?_
    walk_at "cb abs"
    refine tail _ _ [] _ ?_ (fun _ _ _ => Iff.rfl)
    split <;> omega
  · refine sw_one ?_
    refine s1_if ?_
    refine tw_cmp ?_
    refine ew_callB (T.no Z.n_len) bt_len ?_
    refine aw_cons ?_
    refine ew_var 0 ?_
    refine aw_nil ?_
    walk_at "cb len"
    rw [List.length_map]
    refine ew_int ?_
    walk_at "cmp Gt"
    refine ⟨_, rfl, fun ht2 => ?_, fun ht2 => ?_⟩
    · have hl : 0 < (ns.length : Int) := of_decide_eq_true ht2
      obtain ⟨n, hn⟩ := at_int (ns := ns) (Int.emod_nonneg k (by omega)) (Int.emod_lt_of_pos k hl)
      refine sw_one ?_
      refine s1_set 3 ?_ sc.nd
      refine ew_bin ?_
      refine ew_var 3 ?_
      refine ew_bin ?_
      refine ew_bin ?_
      refine ew_callB (T.no Z.n_abs) bt_abs ?_
      refine aw_cons ?_
      refine ew_ix ?_
      refine ew_var 0 ?_
      refine ew_bin ?_
      refine ew_var 1 ?_
      refine ew_callB (T.no Z.n_len) bt_len ?_
      refine aw_cons ?_
      refine ew_var 0 ?_
      refine aw_nil ?_
      walk_at "cb len"
      rw [List.length_map]
      refine ob_mod hl ?_
      refine ix_fro hn ?_
      refine aw_nil ?_
      walk_at "cb abs"
      refine ew_int ?_
      walk_at "op mod"
      refine ew_int ?_
      walk_at "op mul"
      walk_at "op add"
      refine tail _ _ [] _ ?_ (fun _ _ _ => Iff.rfl)
      have := Int.emod_nonneg (if n < 0 then -n else n) (show (2147483629 : Int) ≠ 0 by decide)
      omega
    · refine sw_nil ?_
      refine tail _ _ [] _ ?_ (fun _ _ _ => Iff.rfl)
      omega
theorem c_law_box (T : TopOf K mg) (Z : Facts K) : Cal P w K mg base false 1 "_law_box" BoxS [] := cal_of T Z.d_law_box (by walk_at "b3") fun f fd F => fn_law_box T Z F
end
/-! rows of rules -/
def capsL : Str := k_KIND_LETTERS
def KindS : SpecT := fun ss O R => ∃ z : Str, ss = [.dat (.str z)] ∧ z.length ≤ 100000 ∧ R (.ret (.dat (.bl (madeOf z capsL 4)))) O
def nl : Str := "\n"
def rowsS (z : Str) : List Str := if z = "" then [] else Txt.split z nl
def RowsS : SpecT := fun ss O R => ∃ z : Str, ss = [.dat (.str z)] ∧ z.length ≤ 100000 ∧ R (.ret (.dat (.lst ((rowsS z).map .str)))) O
abbrev Ln := Str × Str
def lineD (q : Ln) : Dat := .tup [.str q.1, .str q.2]
def twoW : List Str := ["all", "root"]
def lnOf : List Str → Option Ln
  | [a, b] => if (twoW.any (· == a) && madeOf b capsL 4) = true then some (a, b) else none
  | _ => none
def okRow (y : Str) : Option Ln := lnOf (wordsS y)
def badRow (y : Str) : Bool := (okRow y).isNone
def badAt (z : Str) : Option Nat := (rowsS z).findIdx? badRow
def linesS (z : Str) : List Ln := (rowsS z).filterMap okRow
def showN (q : Ln) : Str := q.1 ++ " " ++ q.2
def showL (ls : List Ln) : Str := Txt.join nl (ls.map showN)
def insR (C : Addr) (ls : List Ln) : Dat := .ins C [("lines", .tup (ls.map lineD))]
def LineS (K : PySem.W.Frag) : SpecT := fun ss O R => ∃ (y : Str) (i : Int), ss = [.dat (.str y), .dat (.int i)] ∧ y.length ≤ 100000 ∧ (∀ q, okRow y = some q → R (.ret (.dat (lineD q))) O) ∧ (okRow y = none → ∀ C, clsAt K "NoRules" C → R (.exc (.own C [("row", .int i)])) O)
def RInitS (K : PySem.W.Frag) : SpecT := fun ss O R => ∃ (a C dx : Addr) (ls : List Dat), ss = [.own a, .dat (.lst ls)] ∧ clsAt K "Rules" C ∧ O a = some (.ins C dx []) ∧ R (.ret (.dat .non)) (up O a (.ins C dx [("lines", .dat (.tup ls))]))
def RReadS (K : PySem.W.Frag) : SpecT := fun ss O R => ∃ (C : Addr) (z : Str), ss = [.dat (.cls C), .dat (.str z)] ∧ clsAt K "Rules" C ∧ z.length ≤ 100000 ∧
  (∀ i, badAt z = some i → ∀ C', clsAt K "NoRules" C' → R (.exc (.own C' [("row", .int (i : Int))])) O) ∧
  (badAt z = none → 3 < (rowsS z).length → ∀ C', clsAt K "TooMany" C' → R (.exc (.own C' [("word", .str "rows")])) O) ∧
  (badAt z = none → (rowsS z).length ≤ 3 → R (.ret (.dat (insR C (linesS z)))) O)
def smallL (ls : List Ln) : Prop := ls.length ≤ 1000 ∧ ∀ q ∈ ls, q.1.length ≤ 4 ∧ q.2.length ≤ 4 ∧ sml q.1 ∧ sml q.2
def StrS (K : PySem.W.Frag) : SpecT := fun ss O R => ∃ (C : Addr) (ls : List Ln), ss = [.dat (insR C ls)] ∧ clsAt K "Rules" C ∧ smallL ls ∧ R (.ret (.dat (.str (showL ls)))) O
def EqS (K : PySem.W.Frag) : SpecT := fun ss O R => ∃ (C : Addr) (ls : List Ln) (d : Dat), ss = [.dat (insR C ls), .dat d] ∧ clsAt K "Rules" C ∧ smallL ls ∧
  ((∃ ls', d = insR C ls' ∧ smallL ls' ∧ R (.ret (.dat (.bl (decide (ls = ls'))))) O) ∨ (tyName d ≠ "" ∧ PySem.W.kitOne K (.type (tyName d)) (.ref C) = some false ∧ R (.ret (.dat (.bl false))) O))
theorem lnOf_len {ws : List Str} (h : ws.length ≠ 2) : lnOf ws = none := by
  unfold lnOf
  split
  · exact absurd rfl h
  · rfl
theorem two_of {ws : List Str} (h : ws.length = 2) : ∃ a b, ws = [a, b] := by
  match ws, h with
  | [a, b], _ => exact ⟨a, b, rfl⟩
theorem lnOf_two {a b : Str} : lnOf [a, b] = if (twoW.any (· == a) && madeOf b capsL 4) = true then some (a, b) else none := rfl
theorem eq_line (q q' : Ln) : eqD (lineD q) (lineD q') = decide (q = q') := by
  obtain ⟨a, b⟩ := q
  obtain ⟨a', b'⟩ := q'
  show eqD (.tup [.str a, .str b]) (.tup [.str a', .str b']) = _
  rw [eqD_tup, eqA_cons, eqA_cons, eqA_nil, eqD_str, eqD_str, Bool.and_true]
  by_cases h1 : a = a'
  · subst h1
    by_cases h2 : b = b'
    · subst h2; simp
    · rw [decide_eq_true rfl, decide_eq_false h2, Bool.true_and, decide_eq_false (fun h => h2 (Prod.mk.inj h).2)]
  · rw [decide_eq_false h1, Bool.false_and, decide_eq_false (fun h => h1 (Prod.mk.inj h).1)]
theorem fine_line {q : Ln} (h1 : sml q.1) (h2 : sml q.2) : fine (lineD q) = true := by
  show (smlB q.1 && (smlB q.2 && true)) = true
  rw [sml_b h1, sml_b h2]; rfl
theorem fine_lines {ls : List Ln} (h : smallL ls) : fine (.tup (ls.map lineD)) = true := fines_map fun q hq => fine_line (h.2 q hq).2.2.1 (h.2 q hq).2.2.2
theorem dep_line (q : Ln) : dep (lineD q) ≤ 1 := Nat.le_refl 1
theorem dep_lines {ls : List Ln} : dep (.tup (ls.map lineD)) ≤ 64 := by
  have := deps_map (f := lineD) (l := ls) (b := 1) fun q _ => dep_line q
  rw [dep_tup]; omega
theorem shaped_nil : SeqAt.shaped (toPy (.lst [])) = true := by decide +kernel
theorem rows_len {z y : Str} (h : y ∈ rowsS z) : y.length ≤ z.length := by
  unfold rowsS at h
  split at h
  · cases h
  · have e := split_sum z nl (by decide +kernel)
    have h1 : nl.length = 1 := by decide +kernel
    have h2 := mem_sum h
    have h3 : 0 < (Txt.split z nl).length := List.length_pos_iff.mpr (split_ne z nl)
    rw [h1] at e
    omega
theorem rows_count (z : Str) : (rowsS z).length ≤ z.length + 1 := by
  unfold rowsS
  split
  · exact Nat.zero_le _
  · have e := split_sum z nl (by decide +kernel)
    have h1 : nl.length = 1 := by decide +kernel
    rw [h1] at e
    omega
theorem at_of {z : Str} {i : Nat} {d : Dat} (h : (enumD ((rowsS z).map Dat.str))[i]? = some d) : ∃ y, (rowsS z)[i]? = some y ∧ d = .tup [.int (i : Int), .str y] := by
  unfold enumD at h
  rw [List.getElem?_mapIdx] at h
  cases hy : ((rowsS z).map Dat.str)[i]? with
  | none => rw [hy] at h; cases h
  | some d' =>
    rw [hy] at h
    cases h
    rw [List.getElem?_map] at hy
    cases hy2 : (rowsS z)[i]? with
    | none => rw [hy2] at hy; cases hy
    | some y =>
      rw [hy2] at hy
      cases hy
      exact ⟨y, rfl, rfl⟩
theorem wordsS_len {z w : Str} (h : w ∈ wordsS z) : w.length ≤ z.length := by
  unfold wordsS at h
  split at h
  · cases h
  · exact word_len h
theorem wordsS_count (z : Str) : (wordsS z).length ≤ z.length + 1 := by
  unfold wordsS
  split
  · exact Nat.zero_le _
  · have := words_sum z
    omega
theorem flatD_int {i : Int} : flatD (.int i) := ⟨(show "int" ≠ "" by decide), rfl, rfl⟩
theorem sum_le {α : Type} {g : α → Nat} {b : Nat} : ∀ {l : List α}, (∀ a ∈ l, g a ≤ b) → (l.map g).sum ≤ l.length * b
  | [], _ => Nat.zero_le _
  | a :: l, h => by
    have h1 := h a List.mem_cons_self
    have h2 := sum_le fun c hc => h c (List.mem_cons_of_mem a hc)
    rw [List.map_cons, List.sum_cons, List.length_cons, Nat.succ_mul]
    omega
theorem empty_app {z : Str} : Str.empty ++ z = z := sgs_ext (by rw [sgs_app]; rfl)
theorem fine_strs {ls : List Str} (h : ∀ y ∈ ls, sml y) : fine (.lst (ls.map .str)) = true := fines_map fun y hy => sml_b (h y hy)
theorem dep_strs {ls : List Str} : dep (.lst (ls.map .str)) ≤ 64 := by
  have := deps_map (f := Dat.str) (l := ls) (b := 0) fun y _ => Nat.le_refl 0
  rw [dep_lst]; omega
def MixS : SpecT := fun ss O R => ∃ (l : List Str) (p : Addr) (b : Cell), ss = [.own p, .dat (.lst (l.map .str))] ∧ O p = some b ∧ isBox b ∧ l.length ≤ 1000 ∧ (∀ y ∈ l, sml y) ∧
  ∀ (q : Addr) (b' : Cell) (l' : List Str), O q = none → isBox b' → l'.Perm l → R (.ret (.own q)) (up (up O p b') q (.lst ((l'.map .str).map .dat)))
def PickS : SpecT := fun ss O R => ∃ (p : Addr) (b : Cell) (ds : List Dat), ss = [.own p, .dat (.lst ds)] ∧ O p = some b ∧ isBox b ∧ 0 < ds.length ∧ ds.length ≤ 1000 ∧
  ∀ (d : Dat) (b' : Cell), d ∈ ds → isBox b' → R (.ret (.dat d)) (up O p b')
def okW (y : Str) : Prop := y.length ≤ 4 ∧ sml y
def CapsS : SpecT := fun ss O R => ∃ (p : Addr) (b : Cell) (m : Int), ss = [.own p, .dat (.int m)] ∧ O p = some b ∧ isBox b ∧ 2 ≤ m ∧ m ≤ 6 ∧
  ∀ (b' : Cell) (ws : List Str), isBox b' → ws.length = m.toNat → (∀ y ∈ ws, okW y) → R (.ret (.dat (.lst (ws.map .str)))) (up O p b')
def TxtOk (z : Str) : Prop := z.length ≤ 1000 ∧ sml z
def LKindS : SpecT := fun ss O R => ∃ z : Str, ss = [.dat (.str z)] ∧ TxtOk z ∧ R (.ret (.dat (.bl (madeOf z capsL 4)))) O
def dueR (z : Str) : Dat := match badAt z with
  | some i => .tup [.str "row", .int (i : Int)]
  | none => if 3 < (rowsS z).length then .tup [.str "many", .str "rows"] else .tup [.str "text", .str z]
def DueS : SpecT := fun ss O R => ∃ z : Str, ss = [.dat (.str z)] ∧ TxtOk z ∧ R (.ret (.dat (dueR z))) O
def sixW : List Str := ["K", "KK", "KKK", "KKKK", "Q", "QK"]
def stemW : List Str := ["", "", "ZQZ", "A"]
theorem six_ok : (sixW.all fun y => decide (y.length ≤ 4) && smlB y) = true := by decide +kernel
theorem stem_ok : (stemW.all fun y => decide (y.length ≤ 3) && smlB y) = true := by decide +kernel
theorem sml_of {z : Str} (h : smlB z = true) : sml z := fun c hc => by
  unfold smlB at h
  rw [Array.all_eq_true_iff_forall_mem] at h
  exact of_decide_eq_true (h c (Array.mem_toList_iff.mp hc))
theorem six_at {y : Str} (h : y ∈ sixW) : okW y := by
  have := List.all_eq_true.mp six_ok y h
  simp only [Bool.and_eq_true, decide_eq_true_eq] at this
  exact ⟨this.1, sml_of this.2⟩
theorem stem_at {y : Str} (h : y ∈ stemW) : y.length ≤ 3 ∧ sml y := by
  have := List.all_eq_true.mp stem_ok y h
  simp only [Bool.and_eq_true, decide_eq_true_eq] at this
  exact ⟨this.1, sml_of this.2⟩
theorem cap_at : ∀ j : Fin 26, ∃ c, (sgs capsL)[j.val]? = some c ∧ c < 0x110000 := by decide +kernel
theorem sml_one {c : Nat} (h : c < 0x110000) : sml ⟨#[c]⟩ := fun x hx => by rw [List.mem_singleton.mp (show x ∈ [c] from hx)]; exact h
theorem cut_map {α β : Type} {f : α → β} {l : List α} {lo hi : Option Int} : Kn.cutD (l.map f) lo hi = (Kn.cutD l lo hi).map f := by
  unfold Kn.cutD
  rw [List.length_map, ← List.map_drop, ← List.map_take]
def sgn (c : Nat) : Dat := .str ⟨#[c]⟩
theorem fine_sgn {z : Str} (h : sml z) {g : Nat → Bool} : fine (.lst (((sgs z).filter g).map sgn)) = true := fines_map fun c hc => by
  have h1 := h c (List.mem_filter.mp hc).1
  show smlB ⟨#[c]⟩ = true
  exact sml_b fun x hx => by rw [List.mem_singleton.mp (show x ∈ [c] from hx)]; exact h1
theorem dep_sgn {l : List Nat} : dep (.lst (l.map sgn)) ≤ 64 := by
  have := deps_map (f := sgn) (l := l) (b := 0) fun c _ => Nat.le_refl 0
  rw [dep_lst]; omega
theorem none_bad {z L : Str} : (((sgs z).filter fun c => !decide (c ∈ sgs L)).map sgn).isEmpty = (sgs z).all fun c => decide (c ∈ sgs L) := by
  rw [List.isEmpty_map]
  induction sgs z with
  | nil => rfl
  | cons a r ih =>
    rw [List.filter_cons, List.all_cons]
    by_cases h : a ∈ sgs L
    · rw [decide_eq_true h]; exact ih
    · rw [decide_eq_false h]; rfl
section
variable {P : Program} {w : World} {K : PySem.W.Frag} {mg : Str → Option Value} {base : Heap}
theorem fn_rows_of (T : TopOf K mg) (Z : Facts K) {f : Addr} {fd : FuncData} (F : L2.Fun K "rows_of" "rows_of" s_rows_of f fd) : Fn P w K mg base false 1 f fd ["text"] (RowsS) := by
  have sc := sc_rows_of
  refine fn_mk F sc_rows_of (fun ss O R h => by first | (obtain ⟨_, rfl, _⟩ := h; rfl) | (obtain ⟨_, _, rfl, _⟩ := h; rfl) | (obtain ⟨_, _, _, rfl, _⟩ := h; rfl) | (obtain ⟨_, _, _, _, rfl, _⟩ := h; rfl) | (obtain ⟨_, _, _, _, _, rfl, _⟩ := h; rfl)) fun cdv A outer s H E ss O R hr hpo h => ?_
  obtain ⟨z, rfl, hz, h⟩ := h
  -- 0:text
  refine sw_one ?_
  refine s1_ret ?_
  refine ew_if ?_
  refine tw_cmp ?_
  refine ew_var 0 ?_
  refine ew_str ?_
  walk_at "cmp NotEq"
  refine ⟨_, rfl, fun ht => ?_, fun ht => ?_⟩
  · refine ew_split ?_
    refine ew_var 0 ?_
    refine ⟨_, rfl, ?_⟩
    refine ew_str ?_
    refine m1_split (by decide +kernel) (Nat.le_trans (Nat.add_le_add_right hz 2) (by decide)) ?_
    have e : rowsS z = Txt.split z nl := if_neg (by simpa using ht)
    rw [e] at h
    exact h
  · refine ew_lstD ?_
    refine aw_nil ?_
    refine ⟨[], rfl, by walk_at "few", ?_⟩
    have e : rowsS z = [] := if_pos (by simpa using ht)
    rw [e] at h
    exact h
theorem c_rows_of (T : TopOf K mg) (Z : Facts K) : Cal P w K mg base false 1 "rows_of" (RowsS) [] := cal_of T Z.d_rows_of (by walk_at "b1") fun f fd F => fn_rows_of T Z F
theorem fn_is_kind_name (T : TopOf K mg) (Z : Facts K) {f : Addr} {fd : FuncData} (F : L2.Fun K "is_kind_name" "is_kind_name" s_is_kind_name f fd) : Fn P w K mg base false 2 f fd ["value"] (KindS) := by
  have sc := sc_is_kind_name
  refine fn_mk F sc_is_kind_name (fun ss O R h => by first | (obtain ⟨_, rfl, _⟩ := h; rfl) | (obtain ⟨_, _, rfl, _⟩ := h; rfl) | (obtain ⟨_, _, _, rfl, _⟩ := h; rfl) | (obtain ⟨_, _, _, _, rfl, _⟩ := h; rfl) | (obtain ⟨_, _, _, _, _, rfl, _⟩ := h; rfl)) fun cdv A outer s H E ss O R hr hpo h => ?_
  obtain ⟨z, rfl, hz, h⟩ := h
  -- 0:value
  refine sw_one ?_
  refine s1_ret ?_
  refine ew_call (c_is_made_of T Z) hr ?_
  refine aw_cons ?_
  refine ew_var 0 ?_
  refine aw_cons ?_
  refine ew_glob (Z.g_KIND_LETTERS.glob T) ?_
  refine aw_cons ?_
  refine ew_int ?_
  refine aw_nil ?_
  refine ⟨.str z, _, 4, rfl, okD_str hz, ?_⟩
  exact h
theorem c_is_kind_name (T : TopOf K mg) (Z : Facts K) : Cal P w K mg base false 2 "is_kind_name" (KindS) [] := cal_of T Z.d_is_kind_name (by walk_at "b1") fun f fd F => fn_is_kind_name T Z F
theorem fn_line_of (T : TopOf K mg) (Z : Facts K) {f : Addr} {fd : FuncData} (F : L2.Fun K "line_of" "line_of" s_line_of f fd) : Fn P w K mg base false 4 f fd ["row", "at"] (LineS K) := by
  have sc := sc_line_of
  refine fn_mk F sc_line_of (fun ss O R h => by first | (obtain ⟨_, rfl, _⟩ := h; rfl) | (obtain ⟨_, _, rfl, _⟩ := h; rfl) | (obtain ⟨_, _, _, rfl, _⟩ := h; rfl) | (obtain ⟨_, _, _, _, rfl, _⟩ := h; rfl) | (obtain ⟨_, _, _, _, _, rfl, _⟩ := h; rfl)) fun cdv A outer s H E ss O R hr hpo h => ?_
  obtain ⟨y, i, rfl, hy, hq, hx⟩ := h
  obtain ⟨C, B, X_NoRules, nf⟩ := Z.x_NoRules
  have xc : ExCls P w K mg base 2 "NoRules" C (Ini1 flatD C "row") := xc_of T X_NoRules (by walk_at "b2") fun f fd F => fn_NoRules T Z X_NoRules nf F
  -- 0:row 1:at 2:words
  refine sw_cons ?_
  refine s1_set 2 ?_ sc.nd
  refine ew_call (c_split_words T Z) hr ?_
  refine aw_cons ?_
  refine ew_var 0 ?_
  refine aw_nil ?_
  refine ⟨y, rfl, hy, ?_⟩
  have hws : okRow y = lnOf (wordsS y) := rfl
  have hwl : ∀ x ∈ wordsS y, x.length ≤ 100000 := fun x hx => Nat.le_trans (wordsS_len hx) hy
  generalize wordsS y = ws at hws hwl
  refine sw_cons ?_
  refine s1_if ?_
  refine tw_w ?_
  refine tww_or ?_
  refine tw_cmp ?_
  refine ew_callB (T.no Z.n_len) bt_len ?_
  refine aw_cons ?_
  refine ew_var 2 ?_
  refine aw_nil ?_
  walk_at "cb len"
  refine ew_int ?_
  walk_at "cmp NotEq"
  refine ⟨_, rfl, fun ht => ?_, fun ht => ?_⟩
  · have hn : okRow y = none := hws.trans (lnOf_len (by simp at ht; omega))
    refine ⟨fun hb => ?_, fun hb => ?_⟩
    · refine sw_one ?_
      refine s1_raise xc hr ?_
      refine aw_cons ?_
      refine ew_var 1 ?_
      refine aw_nil ?_
      exact raised1 flatD_int (hx hn C X_NoRules.a.at_)
    · exact absurd hb (by decide)
  · obtain ⟨a, b, rfl⟩ := two_of (ws := ws) (by simp at ht; omega)
    refine tww_or ?_
    refine tw_cmp ?_
    refine ew_ix ?_
    refine ew_var 2 ?_
    refine ew_int ?_
    walk_at "ix"
    refine ew_tup ?_
    refine aw_cons ?_
    refine ew_str ?_
    refine aw_cons ?_
    refine ew_str ?_
    refine aw_nil ?_
    refine ⟨[_, _], rfl, by walk_at "few", ?_⟩
    refine ob_niT (ws := twoW) ?_
    refine ⟨_, rfl, fun ht => ?_, fun ht => ?_⟩
    · have hn : okRow y = none := by
        rw [hws, lnOf_two]
        have : (twoW.any (· == a)) = false := by
          cases q : twoW.any (· == a) with
          | false => rfl
          | true => rw [q] at ht; cases ht
        rw [this]; rfl
      refine ⟨fun hb => ?_, fun hb => ?_⟩
      · refine sw_one ?_
        refine s1_raise xc hr ?_
        refine aw_cons ?_
        refine ew_var 1 ?_
        refine aw_nil ?_
        exact raised1 flatD_int (hx hn C X_NoRules.a.at_)
      · exact absurd hb (by decide)
    · have ha : (twoW.any (· == a)) = true := by
        cases q : twoW.any (· == a) with
        | true => rfl
        | false => rw [q] at ht; cases ht
      refine tww_or1 ?_
      refine tw_not ?_
      refine tw_val ?_
      refine ew_call (c_is_kind_name T Z) hr ?_
      refine aw_cons ?_
      refine ew_ix ?_
      refine ew_var 2 ?_
      refine ew_int ?_
      walk_at "ix"
      refine aw_nil ?_
      refine ⟨b, rfl, hwl b (by simp), ?_⟩
      refine ⟨_, rfl, fun ht => ?_, fun ht => ?_⟩
      · have hn : okRow y = none := by
          have hb : madeOf b capsL 4 = false := by
            cases q : madeOf b capsL 4 with
            | false => rfl
            | true => rw [q] at ht; cases ht
          rw [hws, lnOf_two, ha, hb]; rfl
        refine sw_one ?_
        refine s1_raise xc hr ?_
        refine aw_cons ?_
        refine ew_var 1 ?_
        refine aw_nil ?_
        exact raised1 flatD_int (hx hn C X_NoRules.a.at_)
      · have hb : madeOf b capsL 4 = true := by
          cases q : madeOf b capsL 4 with
          | true => rfl
          | false => rw [q] at ht; cases ht
        refine sw_nil ?_
        refine sw_one ?_
        refine s1_ret ?_
        refine ew_tup ?_
        refine aw_cons ?_
        refine ew_ix ?_
        refine ew_var 2 ?_
        refine ew_int ?_
        walk_at "ix"
        refine aw_cons ?_
        refine ew_ix ?_
        refine ew_var 2 ?_
        refine ew_int ?_
        walk_at "ix"
        refine aw_nil ?_
        refine ⟨[_, _], rfl, by walk_at "few", ?_⟩
        have e : okRow y = some (a, b) := by
          rw [hws, lnOf_two, ha, hb]; rfl
        exact hq _ e
theorem c_line_of (T : TopOf K mg) (Z : Facts K) : Cal P w K mg base false 4 "line_of" (LineS K) [] := cal_of T Z.d_line_of (by walk_at "b2") fun f fd F => fn_line_of T Z F
theorem fn_Rules_init (T : TopOf K mg) (Z : Facts K) {f : Addr} {fd : FuncData} (F : FunX K "__init__" "Rules.__init__" s_Rules_init f fd) : Fn P w K mg base false 1 f fd ["self", "lines"] (RInitS K) := by
  have sc := sc_Rules_init
  refine fn_mkX F sc_Rules_init (fun ss O R h => by first | (obtain ⟨_, rfl, _⟩ := h; rfl) | (obtain ⟨_, _, rfl, _⟩ := h; rfl) | (obtain ⟨_, _, _, rfl, _⟩ := h; rfl) | (obtain ⟨_, _, _, _, rfl, _⟩ := h; rfl) | (obtain ⟨_, _, _, _, _, rfl, _⟩ := h; rfl)) fun cdv A outer s H E ss O R hr hpo h => ?_
  obtain ⟨a, C, dx, ls, rfl, hC, ha, h⟩ := h
  obtain ⟨C', I_Rules, mI, mRd, mS, mE, na⟩ := Z.c_Rules
  obtain rfl := at_inj hC I_Rules.at_
  -- 0:self 1:lines
  refine sw_one ?_
  refine s1_fld ?_
  refine ew_callTy (T.no Z.n_tuple) bt_tuple ?_
  refine aw_cons ?_
  refine ew_var 1 ?_
  refine aw_nil ?_
  walk_at "cb tuple"
  refine ew_var 0 ?_
  refine ⟨a, C, dx, [], rfl, ha, I_Rules.ins.cl, na, by decide, ?_⟩
  exact h
theorem flatD_str {z : Str} : flatD (.str z) := ⟨(show "str" ≠ "" by decide), rfl, rfl⟩
theorem fn_Rules_read (T : TopOf K mg) (Z : Facts K) {f : Addr} {fd : FuncData} (F : L2.Fun K "read" "Rules.read" s_Rules_read f fd) : Fn P w K mg base false 5 f fd ["cls", "text"] (RReadS K) := by
  have sc := sc_Rules_read
  refine fn_mk F sc_Rules_read (fun ss O R h => by first | (obtain ⟨_, rfl, _⟩ := h; rfl) | (obtain ⟨_, _, rfl, _⟩ := h; rfl) | (obtain ⟨_, _, _, rfl, _⟩ := h; rfl) | (obtain ⟨_, _, _, _, rfl, _⟩ := h; rfl) | (obtain ⟨_, _, _, _, _, rfl, _⟩ := h; rfl)) fun cdv A outer s H E ss O R hr hpo h => ?_
  obtain ⟨C, z, rfl, hC, hz, hx1, hx2, hv⟩ := h
  obtain ⟨C', I_Rules, mI, mRd, mS, mE, na⟩ := Z.c_Rules
  obtain rfl := at_inj hC I_Rules.at_
  obtain ⟨CT, BT, X_TooMany, nfT⟩ := Z.x_TooMany
  have xcT : ExCls P w K mg base 2 "TooMany" CT (Ini1 flatD CT "word") := xc_of T X_TooMany (by walk_at "b2") fun f fd F => fn_TooMany T Z X_TooMany nfT F
  have mk : MkC P w K mg base 1 C (RInitS K) [] := mkc_ofD I_Rules mI (fun T kV doc pm an cdv ct us its h1 h2 => match us, its, h1, h2 with | [_, _], [_], _, _ => ⟨_, rfl, rfl⟩) fun f fd F => fn_Rules_init T Z F
  -- 0:cls 1:text 2:lines 3:at 4:row
  refine sw_cons ?_
  refine s1_setLcX [("at", 3), ("row", 4)] 2 sc.nd (.two (i := 3) (j := 4) (by decide) (by decide) fun W Y ⟨_, _, _, _, _, e⟩ => by subst e; exact pg_tup rfl (pgs_cons (pg_name (i := 3) sc.nd rfl (.inl rfl) (.inr rfl)) (pgs_cons (pg_name (i := 4) sc.nd rfl (.inl rfl) (.inr rfl)) pgs_nil))) (blkOk_by (N := N_Rules_read) (sc := defScope s_Rules_read) (by decide +kernel)) ?_
  refine iw_enum (T.no Z.n_enumerate) ?_
  refine aw_cons ?_
  refine ew_call (c_rows_of T Z) hr ?_
  refine aw_cons ?_
  refine ew_var 1 ?_
  refine aw_nil ?_
  refine ⟨z, rfl, hz, ?_⟩
  refine aw_nil ?_
  refine ⟨_, rfl, ?_⟩
  refine ⟨by unfold enumD; rw [List.length_mapIdx, List.length_map]; exact Nat.le_trans (rows_count z) (Nat.le_trans (Nat.add_le_add_right hz 1) (by decide)), fun i acc O' => O' = O ∧ (∀ y ∈ (rowsS z).take i, badRow y = false) ∧ acc = (((rowsS z).take i).filterMap okRow).map (fun q => .dat (lineD q)), ⟨rfl, fun y hy => by simp at hy, rfl⟩, ?_, ?_⟩
  · intro i d acc O' hj hd
    obtain ⟨rfl, hb, rfl⟩ := hj
    obtain ⟨y, hy, rfl⟩ := at_of hd
    have htake : (rowsS z).take (i + 1) = (rowsS z).take i ++ [y] := by rw [List.take_add_one, hy]; rfl
    refine ⟨_, ⟨_, _, rfl, rfl⟩, fun Dd hDd W Y hY => tsw_nil ⟨fun _ Z' hZ => ?_, fun e => by cases e⟩⟩
    obtain ⟨_, _, _, _, _, rfl⟩ := hZ
    refine ewf_call (c_line_of T Z) hr ?_
    refine aw_cons ?_
    refine ew_var 4 ?_
    refine aw_cons ?_
    refine ew_var 3 ?_
    refine aw_nil ?_
    refine ⟨y, _, rfl, Nat.le_trans (rows_len (List.mem_of_getElem? hy)) hz, fun q hq => ?_, fun hn C' hC' => ?_⟩
    · refine ⟨O', rfl, hDd, rfl, fun x hx => ?_, ?_⟩
      · rw [htake] at hx
        rcases List.mem_append.mp hx with hx | hx
        · exact hb x hx
        · rw [List.mem_singleton.mp hx]
          unfold badRow
          rw [hq]; rfl
      · rw [htake, List.filterMap_append, List.map_append, List.filterMap_cons_some hq]
        rfl
    · exact ⟨O', Sub.up hDd, hx1 i (findIdx_at hy (by unfold badRow; rw [hn]; rfl) hb) C' hC'⟩
  intro acc O' hj p hp
  obtain ⟨rfl, hb, rfl⟩ := hj
  have htk : (rowsS z).take (enumD ((rowsS z).map Dat.str)).length = rowsS z := by
    unfold enumD
    rw [List.length_mapIdx, List.length_map, List.take_length]
  rw [htk] at hb ⊢
  have hbad : badAt z = none := findIdx_no hb
  have hll : (linesS z).length = (rowsS z).length := by
    unfold linesS
    have : ∀ l : List Str, (∀ y ∈ l, badRow y = false) → (l.filterMap okRow).length = l.length := by
      intro l
      induction l with
      | nil => intro _; rfl
      | cons a r ih =>
        intro hl
        have ha := hl a List.mem_cons_self
        unfold badRow at ha
        cases q : okRow a with
        | none => rw [q] at ha; cases ha
        | some u => rw [List.filterMap_cons_some q, List.length_cons, List.length_cons, ih fun y hy => hl y (List.mem_cons_of_mem a hy)]
    exact this _ hb
  have hcell : up O' p (.lst (((rowsS z).filterMap okRow).map fun q => .dat (lineD q))) p = some (.lst (((linesS z).map lineD).map .dat)) := by
    rw [up_at, List.map_map]; rfl
  refine sw_frz 2 (ds := (linesS z).map lineD) hcell ?_
  rw [dn_up hp]
  refine sw_cons ?_
  refine s1_if ?_
  refine tw_cmp ?_
  refine ew_callB (T.no Z.n_len) bt_len ?_
  refine aw_cons ?_
  refine ew_var 2 ?_
  refine aw_nil ?_
  refine cb_lenL ?_
  refine ew_glob (Z.g_MOST_ROWS.glob T) ?_
  walk_at "cmp Gt"
  refine ⟨_, rfl, fun ht => ?_, fun ht => ?_⟩
  · have h3 : 3 < (rowsS z).length := by simp at ht; omega
    refine sw_one ?_
    refine s1_raise xcT hr ?_
    refine aw_cons ?_
    refine ew_str ?_
    refine aw_nil ?_
    exact raised1 flatD_str (hx2 hbad h3 CT X_TooMany.a.at_)
  · have h3 : (rowsS z).length ≤ 3 := by simp at ht; omega
    refine sw_nil ?_
    refine sw_one ?_
    refine s1_ret ?_
    refine ew_frzI ?_
    refine ew_makeL 0 mk hr ?_
    refine aw_cons ?_
    refine ew_var 2 ?_
    refine aw_nil ?_
    refine fun a dx ha hdx hne => ⟨a, C, dx, (linesS z).map lineD, rfl, hC, up_at, rfl, ?_⟩
    refine ⟨a, C, dx, [("lines", .tup ((linesS z).map lineD))], rfl, by rw [up_at]; rfl, ?_⟩
    rw [up_up, dn_up ha]
    exact hv hbad h3
end
section
variable {P : Program} {w : World} {K : PySem.W.Frag} {mg : Str → Option Value} {base : Heap}
theorem len1 {y z : Str} {m n : Nat} (h1 : y.length ≤ m) (h2 : z.length ≤ n) : (y ++ z).length ≤ m + n := by rw [len_app]; omega
theorem fn_Rules_str (T : TopOf K mg) (Z : Facts K) {f : Addr} {fd : FuncData} (F : L2.Fun K "__str__" "Rules.__str__" s_Rules_str f fd) : Fn P w K mg base false 1 f fd ["self"] (StrS K) := by
  have sc := sc_Rules_str
  refine fn_mk F sc_Rules_str (fun ss O R h => by first | (obtain ⟨_, rfl, _⟩ := h; rfl) | (obtain ⟨_, _, rfl, _⟩ := h; rfl) | (obtain ⟨_, _, _, rfl, _⟩ := h; rfl) | (obtain ⟨_, _, _, _, rfl, _⟩ := h; rfl) | (obtain ⟨_, _, _, _, _, rfl, _⟩ := h; rfl)) fun cdv A outer s H E ss O R hr hpo h => ?_
  obtain ⟨C, ls, rfl, hC, hs, h⟩ := h
  obtain ⟨C', I_Rules, mI, mRd, mS, mE, na⟩ := Z.c_Rules
  obtain rfl := at_inj hC I_Rules.at_
  -- 0:self 1:word 2:kind
  refine sw_one ?_
  refine s1_ret ?_
  refine ew_join ?_
  refine ew_str ?_
  refine ⟨_, rfl, ?_⟩
  refine ew_map1 ls lineD (fun q => .str (showN q)) [("word", 1), ("kind", 2)] sc.nd (.two (i := 1) (j := 2) (by decide) (by decide) fun Y ⟨_, _, _, _, _, e⟩ => by subst e; exact pg_tup rfl (pgs_cons (pg_name (i := 1) sc.nd rfl (.inl rfl) (.inr rfl)) (pgs_cons (pg_name (i := 2) sc.nd rfl (.inl rfl) (.inr rfl)) pgs_nil))) (blkOk_by (N := N_Rules_str) (sc := defScope s_Rules_str) (by decide +kernel)) (iw_tup (ew_fld (ew_var (s := .dat (insR C ls)) 0 ⟨_, I_Rules.ins.cl, na, rfl, _, rfl, rfl, rfl⟩))) (Nat.le_trans hs.1 (by decide)) (fun q hq => ⟨_, ⟨_, _, rfl, rfl⟩, fun O' Y hY => ?_⟩) ?_
  · obtain ⟨_, _, _, _, _, rfl⟩ := hY
    obtain ⟨h1, h2, _⟩ := hs.2 q hq
    refine ew_joined ?_
    refine ew_fmt ?_
    refine ew_var 1 ?_
    refine .inl ⟨_, rfl, Nat.le_trans h1 (by decide), ?_⟩
    refine ⟨_, rfl, by rw [empty_app]; exact Nat.le_trans h1 (by decide), ?_⟩
    refine ew_str ?_
    refine ⟨_, rfl, by rw [empty_app]; exact Nat.le_trans (len1 h1 (Nat.le_of_eq sp1)) (by decide), ?_⟩
    refine ew_fmt ?_
    refine ew_var 2 ?_
    refine .inl ⟨_, rfl, Nat.le_trans h2 (by decide), ?_⟩
    refine ⟨_, rfl, by rw [empty_app]; exact Nat.le_trans (len1 (len1 h1 (Nat.le_of_eq sp1)) h2) (by decide), ?_⟩
    refine ⟨?_, rfl⟩
    rw [empty_app]
    rfl
  have e : (ls.map fun q => Dat.str (showN q)) = (ls.map showN).map .str := by rw [List.map_map]; rfl
  rw [e]
  have hb := sum_le (g := fun q : Ln => (showN q).length) (b := 9) fun q hq => len1 (len1 (hs.2 q hq).1 (Nat.le_of_eq sp1)) (hs.2 q hq).2.1
  have hl := hs.1
  refine m1_join (by rw [List.map_map, List.length_map, show (Str.ofString "\n").length = 1 by decide +kernel]; show (ls.map fun q => (showN q).length).sum + ls.length * 1 ≤ _; omega) ?_
  exact h
theorem fn_Rules_eq (T : TopOf K mg) (Z : Facts K) {f : Addr} {fd : FuncData} (F : L2.Fun K "__eq__" "Rules.__eq__" s_Rules_eq f fd) : Fn P w K mg base false 1 f fd ["self", "other"] (EqS K) := by
  have sc := sc_Rules_eq
  refine fn_mk F sc_Rules_eq (fun ss O R h => by first | (obtain ⟨_, rfl, _⟩ := h; rfl) | (obtain ⟨_, _, rfl, _⟩ := h; rfl) | (obtain ⟨_, _, _, rfl, _⟩ := h; rfl) | (obtain ⟨_, _, _, _, rfl, _⟩ := h; rfl) | (obtain ⟨_, _, _, _, _, rfl, _⟩ := h; rfl)) fun cdv A outer s H E ss O R hr hpo h => ?_
  obtain ⟨C, ls, d, rfl, hC, hs, h⟩ := h
  obtain ⟨C', I_Rules, mI, mRd, mS, mE, na⟩ := Z.c_Rules
  obtain rfl := at_inj hC I_Rules.at_
  obtain ⟨t, tv, hsl, hkit, hyes, hno⟩ : ∃ (t : Bool) (tv : Value), isSl K O tv (.dat d) ∧ PySem.W.kitOne K tv (.ref C) = some t ∧ (t = true → ∃ ls', d = insR C ls' ∧ smallL ls' ∧ R (.ret (.dat (.bl (decide (ls = ls'))))) O) ∧ (t = false → R (.ret (.dat (.bl false))) O) := by
    rcases h with ⟨ls', rfl, hs', h⟩ | ⟨hp, hk, h⟩
    · exact ⟨true, .ref C, .inr ⟨C, I_Rules.ins, rfl, rfl⟩, kit_self, fun _ => ⟨ls', rfl, hs', h⟩, fun e => by cases e⟩
    · exact ⟨false, _, .inl ⟨d, rfl, hp, rfl⟩, hk, fun e => (by cases e), fun _ => h⟩
  -- 0:self 1:other
  refine sw_one ?_
  refine s1_ret ?_
  refine ew_and ?_
  refine ew_callB (T.no Z.n_isinstance) bt_isinstance ?_
  refine aw_cons ?_
  refine ew_var 1 ?_
  refine aw_cons ?_
  refine ew_cls (T.is I_Rules.at_) ?_
  refine aw_nil ?_
  refine cb_isC hkit hsl ?_
  refine ⟨_, rfl, fun ht => ?_, fun ht => ?_⟩
  · obtain ⟨ls', rfl, hs', h⟩ := hyes ht
    refine ew_one ?_
    refine ew_cmp ?_
    refine ew_fld ?_
    refine ew_var 0 ?_
    refine ⟨_, I_Rules.ins.cl, na, rfl, ?_⟩
    refine ew_fld ?_
    refine ew_var 1 ?_
    refine ⟨_, I_Rules.ins.cl, na, rfl, ?_⟩
    refine ob_eq (hr.r.mono (by decide)) (fine_all _ (fine_lines hs)).1 (fine_all _ (fine_lines hs')).1 (shape_of (fine_lines hs) dep_lines) (shape_of (fine_lines hs') dep_lines) ?_
    rw [eqD_tup, eqA_map lineD eq_line]
    exact h
  · subst ht; exact hno rfl
theorem eqc_Rules (T : TopOf K mg) (Z : Facts K) {C : Addr} (hC : clsAt K "Rules" C) : EqC P w K mg base 1 C (EqS K) := by
  obtain ⟨C', I, mI, mRd, mS, mE, na⟩ := Z.c_Rules
  obtain rfl := at_inj hC I.at_
  exact eqc_of I mE (fun _ _ _ _ _ _ us hl => match us, hl with | [_, _], _ => rfl) fun f fd F => fn_Rules_eq T Z F
theorem cm_read (T : TopOf K mg) (Z : Facts K) {C : Addr} (hC : clsAt K "Rules" C) : CMCal P w K mg base false 5 C "read" (RReadS K) [] := by
  obtain ⟨C', I, mI, mRd, mS, mE, na⟩ := Z.c_Rules
  obtain rfl := at_inj hC I.at_
  exact cmcal_of I mRd (fun _ _ _ _ _ _ us hl => match us, hl with | [_, _], _ => rfl) fun f fd F => fn_Rules_read T Z F
theorem fn_law_mixed (T : TopOf K mg) (Z : Facts K) {f : Addr} {fd : FuncData} (F : L2.Fun K "_law_mixed" "_law_mixed" s_law_mixed f fd) : Fn P w K mg base false 2 f fd ["_law_box_here", "_law_items"] (MixS) := by
  have sc := sc_law_mixed
  refine fn_mk F sc_law_mixed (fun ss O R h => by first | (obtain ⟨_, rfl, _⟩ := h; rfl) | (obtain ⟨_, _, rfl, _⟩ := h; rfl) | (obtain ⟨_, _, _, rfl, _⟩ := h; rfl) | (obtain ⟨_, _, _, _, rfl, _⟩ := h; rfl) | (obtain ⟨_, _, _, _, _, rfl, _⟩ := h; rfl)) fun cdv A outer s H E ss O R hr hpo h => ?_
  obtain ⟨l, p, b, rfl, hp, hb, hl, hsm, h⟩ := h
  refine sw_drop ?_
  -- 0:_law_box_here 1:_law_items 2:_law_left 3:_law_found
  refine sw_cons ?_
  refine s1_par 2 3 ?_ sc.nd
  refine aw_cons ?_
  refine ew_callTy (T.no Z.n_list) bt_list ?_
  refine aw_cons ?_
  refine ew_var 1 ?_
  refine aw_nil ?_
  refine cb_listL fun L hL => ?_
  refine aw_cons ?_
  refine ew_lst ?_
  refine aw_nil ?_
  refine ⟨by decide, fun q hq => ?_⟩
  have hqO : O q = none := by
    have n : q ≠ L := fun e => by rw [e, up_at] at hq; cases hq
    rw [up_ne n] at hq; exact hq
  have nql : q ≠ L := fun e => by rw [e, up_at] at hq; cases hq
  have npL : p ≠ L := own_ne hp hL
  have npq : p ≠ q := own_ne hp hqO
  refine aw_nil ?_
  refine ⟨_, _, rfl, ?_⟩
  refine sw_cons ?_
  refine s1_while hpo (fun m ρ' O' => ∃ (b' : Cell) (ls es : List Str), ρ' = [.own p, .dat (.lst (l.map .str)), .own L, .own q] ∧ O' = up (up (up O p b') L (.lst ((ls.map .str).map .dat))) q (.lst ((es.map .str).map .dat)) ∧ isBox b' ∧ (es ++ ls).Perm l ∧ ls.length = m) ?_ fun m ρ2 O2 hj => ?_
  · refine ⟨l.length, b, l, [], rfl, ?_, hb, .refl _, rfl⟩
    rw [up_self hp]
    rfl
  · obtain ⟨b', ls, es, rfl, rfl, hb', hperm, hm⟩ := hj
    have hlen := hperm.length_eq
    rw [List.length_append] at hlen
    have hls : ∀ y ∈ ls, sml y := fun y hy => hsm y (hperm.mem_iff.mp (List.mem_append.mpr (.inr hy)))
    refine tw_cmp ?_
    refine ew_var 2 ?_
    refine ew_lstD ?_
    refine aw_nil ?_
    refine ⟨[], rfl, by walk_at "few", ?_⟩
    refine ob_neA (hr.r.mono (by decide)) (.own (ds := ls.map .str) (by rw [up_ne nql.symm]; exact up_at)) (.dat _) (fine_all _ (fine_strs hls)).1 rfl (shape_of (fine_strs hls) dep_strs) shaped_nil ?_
    rw [eqD_nil]
    refine ⟨_, rfl, fun ht => ?_, fun ht => ?_⟩
    · have hl0 : 0 < ls.length := by
        cases ls with
        | nil => cases ht
        | cons a r => exact Nat.succ_pos _
      refine sw_one ?_
      refine s1_expr ?_
      refine ew_append ?_
      refine ew_var 3 ?_
      refine ⟨?_, ?_⟩
      · exact ⟨rfl, _, up_at⟩
      refine ew_popAt ?_
      refine ew_var 2 ?_
      refine ⟨?_, ?_⟩
      · exact ⟨rfl, _, by rw [up_ne nql.symm]; exact up_at⟩
      refine ew_call (c_law_take T Z) hr ?_
      refine aw_cons ?_
      refine ew_var 0 ?_
      refine aw_cons ?_
      refine ew_callB (T.no Z.n_len) bt_len ?_
      refine aw_cons ?_
      refine ew_var 2 ?_
      refine aw_nil ?_
      refine cb_lenO (by rw [up_ne nql.symm]; exact up_at) ?_
      refine aw_nil ?_
      refine ⟨p, _, b', rfl, by rw [up_ne npq, up_ne npL]; exact up_at, hb', by rw [List.length_map, List.length_map]; omega, by rw [List.length_map, List.length_map]; omega, fun r b2 h0 h1 hb2 => ?_⟩
      rw [List.length_map, List.length_map] at h1
      obtain ⟨a, ha⟩ : ∃ a, ls[r.toNat]? = some a := ⟨_, List.getElem?_eq_getElem (by omega)⟩
      refine mb_popAt (j := r.toNat) (s := .dat (.str a)) (by rw [up_ne npL.symm, up_ne nql.symm]; exact up_at) (by constructor <;> omega) (by rw [List.length_map, List.length_map]; exact seq_at h0 h1) (by rw [List.getElem?_map, List.getElem?_map, ha]; rfl) ?_
      refine mb_append (by rw [up_ne nql, up_ne npq.symm]; exact up_at) (by rw [List.length_map, List.length_map]; exact Nat.lt_of_le_of_lt (show es.length ≤ 1000 by omega) (by decide)) ?_
      refine ⟨(ls.eraseIdx r.toNat).length, by rw [← hm, List.length_eraseIdx]; split <;> omega, b2, ls.eraseIdx r.toNat, es ++ [a], rfl, ?_, hb2, ?_, rfl⟩
      · rw [erase_map, erase_map, List.map_append, List.map_append]
        walk_at "own"
      · rw [List.append_assoc]
        exact ((rot_perm ha).append_left es).trans hperm
    · have els : ls = [] := by
        cases ls with
        | nil => rfl
        | cons a r => cases ht
      subst els
      rw [List.append_nil] at hperm
      refine sw_one ?_
      refine s1_ret ?_
      refine ew_var 3 ?_
      refine ⟨_, ?_, h q b' es hqO hb' hperm⟩
      exact Sub.ups (Sub.up (by rw [up_ne npL.symm]; exact hL))
theorem c_law_mixed (T : TopOf K mg) (Z : Facts K) : Cal P w K mg base false 2 "_law_mixed" (MixS) [] := cal_of T Z.d_law_mixed (by walk_at "b2") fun f fd F => fn_law_mixed T Z F
theorem fn_law_pick (T : TopOf K mg) (Z : Facts K) {f : Addr} {fd : FuncData} (F : L2.Fun K "_law_pick" "_law_pick" s_law_pick f fd) : Fn P w K mg base false 2 f fd ["_law_box_here", "_law_items"] (PickS) := by
  have sc := sc_law_pick
  refine fn_mk F sc_law_pick (fun ss O R h => by first | (obtain ⟨_, rfl, _⟩ := h; rfl) | (obtain ⟨_, _, rfl, _⟩ := h; rfl) | (obtain ⟨_, _, _, rfl, _⟩ := h; rfl) | (obtain ⟨_, _, _, _, rfl, _⟩ := h; rfl) | (obtain ⟨_, _, _, _, _, rfl, _⟩ := h; rfl)) fun cdv A outer s H E ss O R hr hpo h => ?_
  obtain ⟨p, b, ds, rfl, hp, hb, hl0, hl, h⟩ := h
  -- 0:_law_box_here 1:_law_items
  refine sw_one ?_
  refine s1_ret ?_
  refine ew_ix ?_
  refine ew_var 1 ?_
  refine ew_call (c_law_take T Z) hr ?_
  refine aw_cons ?_
  refine ew_var 0 ?_
  refine aw_cons ?_
  refine ew_callB (T.no Z.n_len) bt_len ?_
  refine aw_cons ?_
  refine ew_var 1 ?_
  refine aw_nil ?_
  walk_at "cb len"
  refine aw_nil ?_
  refine ⟨p, _, b, rfl, hp, hb, by omega, by omega, fun r b2 h0 h1 hb2 => ?_⟩
  obtain ⟨d, hd⟩ : ∃ d, ds[r.toNat]? = some d := ⟨_, List.getElem?_eq_getElem (by omega)⟩
  refine ix_lst (d := d) (by rw [show r = ((r.toNat : Nat) : Int) by omega]; exact atI_nat hd) ?_
  exact h d b2 (List.mem_of_getElem? hd) hb2
theorem c_law_pick (T : TopOf K mg) (Z : Facts K) : Cal P w K mg base false 2 "_law_pick" (PickS) [] := cal_of T Z.d_law_pick (by walk_at "b2") fun f fd F => fn_law_pick T Z F
theorem fn_law_caps (T : TopOf K mg) (Z : Facts K) {f : Addr} {fd : FuncData} (F : L2.Fun K "_law_caps" "_law_caps" s_law_caps f fd) : Fn P w K mg base false 3 f fd ["_law_box_here", "_law_many"] (CapsS) := by
  have sc := sc_law_caps
  refine fn_mk F sc_law_caps (fun ss O R h => by first | (obtain ⟨_, rfl, _⟩ := h; rfl) | (obtain ⟨_, _, rfl, _⟩ := h; rfl) | (obtain ⟨_, _, _, rfl, _⟩ := h; rfl) | (obtain ⟨_, _, _, _, rfl, _⟩ := h; rfl) | (obtain ⟨_, _, _, _, _, rfl, _⟩ := h; rfl)) fun cdv A outer s H E ss O R hr hpo h => ?_
  obtain ⟨p, b, m, rfl, hp, hb, hm0, hm1, h⟩ := h
  -- 0:_law_box_here 1:_law_many 2:_law_letters 3:_law_first 4:_law_stem 5:_law_k
  refine sw_cons ?_
  refine s1_asg ?_
  refine ew_tup ?_
  refine aw_cons ?_
  refine ew_str ?_
  refine aw_cons ?_
  refine ew_call (c_law_take T Z) hr ?_
  refine aw_cons ?_
  refine ew_var 0 ?_
  refine aw_cons ?_
  refine ew_int ?_
  refine aw_nil ?_
  refine ⟨p, _, b, rfl, hp, hb, by decide, by decide, fun first b1 hf0 hf1 hb1 => ?_⟩
  refine aw_nil ?_
  refine ⟨[_, _], rfl, by walk_at "few", ?_⟩
  refine gw_tup ?_
  refine gsw_cons ?_
  refine gw_name 2 ?_ sc.nd
  refine gsw_cons ?_
  refine gw_name 3 ?_ sc.nd
  refine gsw_nil ?_
  refine sw_cons ?_
  refine s1_if ?_
  refine tw_cmp ?_
  refine ew_call (c_law_take T Z) hr ?_
  refine aw_cons ?_
  refine ew_var 0 ?_
  refine aw_cons ?_
  refine ew_int ?_
  refine aw_nil ?_
  refine ⟨p, _, b1, rfl, up_at, hb1, by decide, by decide, fun form b2 ho0 ho1 hb2 => ?_⟩
  rw [up_up]
  refine ew_int ?_
  walk_at "cmp Eq"
  refine ⟨_, rfl, fun ht => ?_, fun ht => ?_⟩
  · refine sw_one ?_
    refine s1_ret ?_
    refine ew_frz ?_
    refine ew_call (c_law_mixed T Z) hr ?_
    refine aw_cons ?_
    refine ew_var 0 ?_
    refine aw_cons ?_
    refine ew_slice ?_
    refine ew_lstD ?_
    refine aw_cons ?_
    refine ew_str ?_
    refine aw_cons ?_
    refine ew_str ?_
    refine aw_cons ?_
    refine ew_str ?_
    refine aw_cons ?_
    refine ew_str ?_
    refine aw_cons ?_
    refine ew_str ?_
    refine aw_cons ?_
    refine ew_str ?_
    refine aw_nil ?_
    refine ⟨[_, _, _, _, _, _], rfl, by walk_at "few", ?_⟩
    refine ow_none ?_
    refine ow_some ?_
    refine ew_var 1 ?_
    refine ⟨_, rfl, ?_⟩
    refine sb_lst ?_
    rw [show ([Dat.str "K", .str "KK", .str "KKK", .str "KKKK", .str "Q", .str "QK"] : List Dat) = sixW.map .str from rfl, cut_map, cut_take (by omega)]
    refine aw_nil ?_
    refine ⟨sixW.take m.toNat, p, b2, rfl, up_at, hb2, by rw [List.length_take]; exact Nat.le_trans (Nat.min_le_right _ _) (by decide), fun y hy => (six_at (List.mem_of_mem_take hy)).2, fun q b3 l' hq hb3 hperm => ?_⟩
    have npq : p ≠ q := own_ne up_at hq
    rw [up_ne npq.symm] at hq
    rw [up_up]
    refine ⟨q, l'.map .str, rfl, up_at, ?_⟩
    rw [dn_up (by rw [up_ne npq.symm]; exact hq)]
    refine h b3 l' hb3 (by rw [hperm.length_eq, List.length_take]; show min m.toNat 6 = _; omega) fun y hy => six_at (List.mem_of_mem_take (hperm.mem_iff.mp hy))
  · refine sw_nil ?_
    refine sw_cons ?_
    refine s1_set 4 ?_ sc.nd
    refine ew_ix ?_
    refine ew_lstD ?_
    refine aw_cons ?_
    refine ew_str ?_
    refine aw_cons ?_
    refine ew_str ?_
    refine aw_cons ?_
    refine ew_str ?_
    refine aw_cons ?_
    refine ew_str ?_
    refine aw_nil ?_
    refine ⟨[_, _, _, _], rfl, by walk_at "few", ?_⟩
    refine ew_call (c_law_take T Z) hr ?_
    refine aw_cons ?_
    refine ew_var 0 ?_
    refine aw_cons ?_
    refine ew_int ?_
    refine aw_nil ?_
    refine ⟨p, _, b2, rfl, up_at, hb2, by decide, by decide, fun si b3 hs0 hs1 hb3 => ?_⟩
    rw [up_up]
    obtain ⟨stem, hst⟩ : ∃ y, stemW[si.toNat]? = some y := ⟨_, List.getElem?_eq_getElem (show si.toNat < 4 by omega)⟩
    obtain ⟨hsl, hss⟩ := stem_at (List.mem_of_getElem? hst)
    refine ix_lst (d := .str stem) (by rw [show si = ((si.toNat : Nat) : Int) by omega]; exact atI_nat (by show (stemW.map Dat.str)[si.toNat]? = _; rw [List.getElem?_map, hst]; rfl)) ?_
    refine sw_one ?_
    refine s1_ret ?_
    refine ew_frz ?_
    refine ew_call (c_law_mixed T Z) hr ?_
    refine aw_cons ?_
    refine ew_var 0 ?_
    refine aw_cons ?_
    refine ew_map1 (List.range m.toNat) (fun i => .int (0 + (i : Int))) (fun i => .str (stem ++ ⟨#[(sgs capsL).getD ((first + 5 * (0 + (i : Int))) % 26).toNat 0]⟩)) [("_law_k", 5)] sc.nd (.name (i := 5) (by decide) fun Y ⟨_, _, _, _, _, e⟩ => by subst e; exact pg_name (i := 5) sc.nd rfl (.inl rfl) (.inr rfl)) (blkOk_by (N := N_law_caps) (sc := defScope s_law_caps) (by decide +kernel)) (iw_range1 (T.no Z.n_range) (aw_cons (ew_var 1 (aw_nil ⟨m, rfl, by constructor <;> omega, rfl, rfl⟩)))) (by rw [List.length_range]; exact Nat.le_trans (show m.toNat ≤ 6 by omega) (by decide)) (fun i hi => ⟨_, rfl, fun O' Y hY => ?_⟩) ?_
    · obtain ⟨_, _, _, _, _, rfl⟩ := hY
      refine ew_bin ?_
      refine ew_var 4 ?_
      refine ew_ix ?_
      refine ew_var 2 ?_
      refine ew_bin ?_
      refine ew_bin ?_
      refine ew_var 3 ?_
      refine ew_bin ?_
      refine ew_int ?_
      refine ew_var 5 ?_
      walk_at "op mul"
      walk_at "op add"
      refine ew_int ?_
      walk_at "op mod"
      have j0 : 0 ≤ (first + 5 * (0 + (i : Int))) % 26 := Int.emod_nonneg _ (by decide)
      have j1 : (first + 5 * (0 + (i : Int))) % 26 < 26 := Int.emod_lt_of_pos _ (by decide)
      obtain ⟨c, hc, _⟩ := cap_at ⟨((first + 5 * (0 + (i : Int))) % 26).toNat, by omega⟩
      refine ix_sgn (c := c) (by decide +kernel) (by
        rw [show (first + 5 * (0 + (i : Int))) % 26 = ((((first + 5 * (0 + (i : Int))) % 26).toNat : Nat) : Int) by omega]
        exact atI_nat hc) ?_
      refine ob_cat (Nat.le_trans (Nat.add_le_add_right hsl _) (show 3 + 1 ≤ sizeLine by decide)) ?_
      refine ⟨?_, rfl⟩
      rw [show (sgs capsL).getD ((first + 5 * (0 + (i : Int))) % 26).toNat 0 = c from by rw [List.getD_eq_getElem?_getD, hc]; rfl]
    have e : ((List.range m.toNat).map fun i => Dat.str (stem ++ ⟨#[(sgs capsL).getD ((first + 5 * (0 + (i : Int))) % 26).toNat 0]⟩)) = ((List.range m.toNat).map fun i => (stem ++ ⟨#[(sgs capsL).getD ((first + 5 * (0 + ((i : Nat) : Int))) % 26).toNat 0]⟩ : Str)).map .str := by rw [List.map_map]; rfl
    rw [e]
    have hok : ∀ y ∈ ((List.range m.toNat).map fun i => (stem ++ ⟨#[(sgs capsL).getD ((first + 5 * (0 + ((i : Nat) : Int))) % 26).toNat 0]⟩ : Str)), okW y := fun y hy => by
      obtain ⟨i, hi, rfl⟩ := List.mem_map.mp hy
      have j0 : 0 ≤ (first + 5 * (0 + (i : Int))) % 26 := Int.emod_nonneg _ (by decide)
      have j1 : (first + 5 * (0 + (i : Int))) % 26 < 26 := Int.emod_lt_of_pos _ (by decide)
      obtain ⟨c, hc, hcs⟩ := cap_at ⟨((first + 5 * (0 + (i : Int))) % 26).toNat, by omega⟩
      rw [show (sgs capsL).getD ((first + 5 * (0 + (i : Int))) % 26).toNat 0 = c from by rw [List.getD_eq_getElem?_getD, hc]; rfl]
      exact ⟨by rw [len_app]; exact Nat.add_le_add hsl (Nat.le_refl 1), sml_app hss (sml_one hcs)⟩
    generalize hgl : ((List.range m.toNat).map fun i => (stem ++ ⟨#[(sgs capsL).getD ((first + 5 * (0 + ((i : Nat) : Int))) % 26).toNat 0]⟩ : Str)) = caps at hok
    have hcl : caps.length = m.toNat := by rw [← hgl, List.length_map, List.length_range]
    refine aw_nil ?_
    refine ⟨caps, p, b3, rfl, up_at, hb3, by omega, fun y hy => (hok y hy).2, fun q b4 l' hq hb4 hperm => ?_⟩
    have npq : p ≠ q := own_ne up_at hq
    rw [up_ne npq.symm] at hq
    rw [up_up]
    refine ⟨q, l'.map .str, rfl, up_at, ?_⟩
    rw [dn_up (by rw [up_ne npq.symm]; exact hq)]
    exact h b4 l' hb4 (by rw [hperm.length_eq, hcl]) fun y hy => hok y (hperm.mem_iff.mp hy)
theorem c_law_caps (T : TopOf K mg) (Z : Facts K) : Cal P w K mg base false 3 "_law_caps" (CapsS) [] := cal_of T Z.d_law_caps (by walk_at "b2") fun f fd F => fn_law_caps T Z F
end
section
variable {P : Program} {w : World} {K : PySem.W.Frag} {mg : Str → Option Value} {base : Heap}
theorem okRow_split (y : Str) : okRow y = lnOf (Txt.split y " ") := by
  unfold okRow wordsS
  split
  · rename_i h
    subst h
    have e : Txt.split (Str.ofString "") " " = [Str.ofString ""] := by decide +kernel
    rw [e]; rfl
  · rfl
theorem word_ok {z x : Str} (h : TxtOk z) (hx : x ∈ Txt.split z " ") : TxtOk x := ⟨Nat.le_trans (word_len hx) h.1, sml_word h.2 hx⟩
theorem row_ok {z y : Str} (h : TxtOk z) (hy : y ∈ rowsS z) : TxtOk y := by
  refine ⟨Nat.le_trans (rows_len hy) h.1, ?_⟩
  unfold rowsS at hy
  split at hy
  · cases hy
  · intro c hc
    have e : Txt.join nl (Txt.split z nl) = z := join_split z nl (by decide +kernel)
    refine h.2 c ?_
    rw [← e]
    exact mem_joined.mpr (.inl ⟨y, hy, hc⟩)
theorem fn_law_is_kind (T : TopOf K mg) (Z : Facts K) {f : Addr} {fd : FuncData} (F : L2.Fun K "_law_is_kind" "_law_is_kind" s_law_is_kind f fd) : Fn P w K mg base false 1 f fd ["_law_word"] (LKindS) := by
  have sc := sc_law_is_kind
  refine fn_mk F sc_law_is_kind (fun ss O R h => by first | (obtain ⟨_, rfl, _⟩ := h; rfl) | (obtain ⟨_, _, rfl, _⟩ := h; rfl) | (obtain ⟨_, _, _, rfl, _⟩ := h; rfl) | (obtain ⟨_, _, _, _, rfl, _⟩ := h; rfl) | (obtain ⟨_, _, _, _, _, rfl, _⟩ := h; rfl)) fun cdv A outer s H E ss O R hr hpo h => ?_
  obtain ⟨z, rfl, hz, h⟩ := h
  have hzl : z.length ≤ sizeLine := Nat.le_trans hz.1 (by decide)
  -- 0:_law_word 1:_law_sign
  refine sw_one ?_
  refine s1_ret ?_
  refine ew_and ?_
  refine ew_chain ?_
  refine ew_int ?_
  refine ew_callB (T.no Z.n_len) bt_len ?_
  refine aw_cons ?_
  refine ew_var 0 ?_
  refine aw_nil ?_
  refine cb_lenS hzl ?_
  walk_at "cmp Lt"
  refine ⟨rfl, _, rfl, fun ht => ?_, fun ht => ?_⟩
  · have h1 : decide (0 < z.length) = true := decide_eq_true (by have := of_decide_eq_true ht; omega)
    refine ew_int ?_
    walk_at "cmp Lt"
    refine ⟨_, rfl, fun ht => ?_, fun ht => ?_⟩
    · have h2 : decide (z.length ≤ 4) = true := decide_eq_true (by have := of_decide_eq_true ht; omega)
      refine ew_one ?_
      refine ew_cmp ?_
      refine ew_map (sgs z) sgn sgn (fun c => !decide (c ∈ sgs capsL)) [("_law_sign", 1)] sc.nd (.name (i := 1) (by decide) fun Y ⟨_, _, _, _, _, e⟩ => by subst e; exact pg_name (i := 1) sc.nd rfl (.inl rfl) (.inr rfl)) (blkOk_by (N := N_law_is_kind) (sc := defScope s_law_is_kind) (by decide +kernel)) (iw_str (ew_var 0 ⟨z, rfl, rfl, rfl⟩)) (by rw [← sgs_len]; exact hzl) (fun c hcm => ⟨_, rfl, fun O' Y hY => ?_⟩) ?_
      · obtain ⟨_, _, _, _, _, rfl⟩ := hY
        refine ⟨tsw_one ?_, fun _ => ?_⟩
        · refine tw_cmp ?_
          refine ew_var 1 ?_
          refine ew_str ?_
          refine ob_niS ?_
          exact ⟨_, rfl, rfl, rfl⟩
        · refine ew_var 1 ?_
          exact ⟨rfl, rfl⟩
      refine ew_lstD ?_
      refine aw_nil ?_
      refine ⟨[], rfl, by walk_at "few", ?_⟩
      
      have hf := fine_sgn (g := fun c => !decide (c ∈ sgs capsL)) hz.2
      refine ob_eq (hr.r.mono (by decide)) (fine_all _ hf).1 rfl (shape_of hf dep_sgn) shaped_nil ?_
      rw [eqD_nil, none_bad]
      have e : madeOf z capsL 4 = (sgs z).all fun c => decide (c ∈ sgs capsL) := by unfold madeOf; rw [h1, h2]; rfl
      rw [e] at h
      exact h
    · have e : madeOf z capsL 4 = false := by
        have e1 : decide (z.length ≤ 4) = false := decide_eq_false fun q => by
          have := of_decide_eq_false ht
          omega
        unfold madeOf
        rw [e1, Bool.false_and, Bool.and_false]
      rw [e] at h
      exact h
  · refine ⟨_, rfl, fun ht => ?_, fun ht => ?_⟩
    · cases ht
    · have e : madeOf z capsL 4 = false := by
        have e1 : decide (0 < z.length) = false := decide_eq_false fun q => of_decide_eq_false (by assumption) (by omega)
        unfold madeOf
        rw [e1, Bool.false_and]
      rw [e] at h
      exact h
theorem c_law_is_kind (T : TopOf K mg) (Z : Facts K) : Cal P w K mg base false 1 "_law_is_kind" (LKindS) [] := cal_of T Z.d_law_is_kind (by walk_at "b1") fun f fd F => fn_law_is_kind T Z F
theorem fn_law_due (T : TopOf K mg) (Z : Facts K) {f : Addr} {fd : FuncData} (F : L2.Fun K "_law_due" "_law_due" s_law_due f fd) : Fn P w K mg base false 2 f fd ["_law_text"] (DueS) := by
  have sc := sc_law_due
  refine fn_mk F sc_law_due (fun ss O R h => by first | (obtain ⟨_, rfl, _⟩ := h; rfl) | (obtain ⟨_, _, rfl, _⟩ := h; rfl) | (obtain ⟨_, _, _, rfl, _⟩ := h; rfl) | (obtain ⟨_, _, _, _, rfl, _⟩ := h; rfl) | (obtain ⟨_, _, _, _, _, rfl, _⟩ := h; rfl)) fun cdv A outer s H E ss O R hr hpo h => ?_
  obtain ⟨z, rfl, hz, h⟩ := h
  -- 0:_law_text 1:_law_rows 2:_law_at 3:_law_row 4:_law_words
  refine sw_cons ?_
  refine s1_set 1 ?_ sc.nd
  refine ew_ev (d := .lst ((rowsS z).map .str)) ?_ ?_
  · refine ew_if ?_
    refine tw_cmp ?_
    refine ew_var 0 ?_
    refine ew_str ?_
    walk_at "cmp NotEq"
    refine ⟨_, rfl, fun ht => ?_, fun ht => ?_⟩
    · refine ew_split ?_
      refine ew_var 0 ?_
      refine ⟨_, rfl, ?_⟩
      refine ew_str ?_
      refine m1_split (by decide +kernel) (Nat.le_trans (Nat.add_le_add_right hz.1 2) (by decide)) ?_
      have e : rowsS z = Txt.split z nl := if_neg (by simpa using ht)
      rw [e]
      exact ⟨rfl, rfl⟩
    · refine ew_lstD ?_
      refine aw_nil ?_
      refine ⟨[], rfl, by walk_at "few", ?_⟩
      have e : rowsS z = [] := if_pos (by simpa using ht)
      rw [e]
      exact ⟨rfl, rfl⟩
  refine sw_cons ?_
  refine s1_for hpo ?_
  refine iw_enum (T.no Z.n_enumerate) ?_
  refine aw_cons ?_
  refine ew_var 1 ?_
  refine aw_nil ?_
  refine ⟨_, rfl, ?_⟩
  refine ⟨fun i ρ' O' => O' = O ∧ ∃ s2 s3 s4 : Slot, ρ' = [.dat (.str z), .dat (.lst ((rowsS z).map .str)), s2, s3, s4] ∧ ∀ y ∈ (rowsS z).take i, badRow y = false, ?_, ?_, ?_⟩
  · exact ⟨rfl, _, _, _, rfl, fun y hy => by simp at hy⟩
  · intro i d ρ2 O2 hj hd
    obtain ⟨rfl, s2, s3, s4, rfl, hb⟩ := hj
    obtain ⟨y, hy, rfl⟩ := at_of hd
    have hyo := row_ok hz (List.mem_of_getElem? hy)
    refine gw_tup ?_
    refine gsw_cons ?_
    refine gw_name 2 ?_ sc.nd
    refine gsw_cons ?_
    refine gw_name 3 ?_ sc.nd
    refine gsw_nil ?_
    refine sw_cons ?_
    refine s1_set 4 ?_ sc.nd
    refine ew_split ?_
    refine ew_var 3 ?_
    refine ⟨_, rfl, ?_⟩
    refine ew_str ?_
    refine m1_split (by decide +kernel) (Nat.le_trans (Nat.add_le_add_right hyo.1 2) (by decide)) ?_
    have hws : okRow y = lnOf (Txt.split y " ") := okRow_split y
    have hwo : ∀ x ∈ Txt.split y " ", TxtOk x := fun x hx => word_ok hyo hx
    have out : okRow y = none → dueR z = .tup [.str "row", .int (i : Int)] := fun hn => by
      have : badAt z = some i := findIdx_at hy (by unfold badRow; rw [hn]; rfl) hb
      unfold dueR
      rw [this]
    generalize Txt.split y " " = ws at hws hwo
    refine sw_one ?_
    refine s1_if ?_
    refine tw_w ?_
    refine tww_or ?_
    refine tw_cmp ?_
    refine ew_callB (T.no Z.n_len) bt_len ?_
    refine aw_cons ?_
    refine ew_var 4 ?_
    refine aw_nil ?_
    walk_at "cb len"
    refine ew_int ?_
    walk_at "cmp NotEq"
    refine ⟨_, rfl, fun ht => ?_, fun ht => ?_⟩
    · have hn : okRow y = none := hws.trans (lnOf_len (by simp at ht; omega))
      refine ⟨fun hb => ?_, fun hb => ?_⟩
      · refine sw_one ?_
        refine s1_ret ?_
        refine ew_tup ?_
        refine aw_cons ?_
        refine ew_str ?_
        refine aw_cons ?_
        refine ew_var 2 ?_
        refine aw_nil ?_
        refine ⟨[_, _], rfl, by walk_at "few", ?_⟩
        rw [out hn] at h
        exact h
      · exact absurd hb (by decide)
    · obtain ⟨a, b, rfl⟩ := two_of (ws := ws) (by simp at ht; omega)
      refine tww_or ?_
      refine tw_cmp ?_
      refine ew_ix ?_
      refine ew_var 4 ?_
      refine ew_int ?_
      walk_at "ix"
      refine ew_tup ?_
      refine aw_cons ?_
      refine ew_str ?_
      refine aw_cons ?_
      refine ew_str ?_
      refine aw_nil ?_
      refine ⟨[_, _], rfl, by walk_at "few", ?_⟩
      refine ob_niT (ws := twoW) ?_
      refine ⟨_, rfl, fun ht => ?_, fun ht => ?_⟩
      · have hn : okRow y = none := by
          rw [hws, lnOf_two]
          have : (twoW.any (· == a)) = false := by
            cases q : twoW.any (· == a) with
            | false => rfl
            | true => rw [q] at ht; cases ht
          rw [this]; rfl
        refine ⟨fun hb => ?_, fun hb => ?_⟩
        · refine sw_one ?_
          refine s1_ret ?_
          refine ew_tup ?_
          refine aw_cons ?_
          refine ew_str ?_
          refine aw_cons ?_
          refine ew_var 2 ?_
          refine aw_nil ?_
          refine ⟨[_, _], rfl, by walk_at "few", ?_⟩
          rw [out hn] at h
          exact h
        · exact absurd hb (by decide)
      · have ha : (twoW.any (· == a)) = true := by
          cases q : twoW.any (· == a) with
          | true => rfl
          | false => rw [q] at ht; cases ht
        refine tww_or1 ?_
        refine tw_not ?_
        refine tw_val ?_
        refine ew_call (c_law_is_kind T Z) hr ?_
        refine aw_cons ?_
        refine ew_ix ?_
        refine ew_var 4 ?_
        refine ew_int ?_
        walk_at "ix"
        refine aw_nil ?_
        refine ⟨b, rfl, hwo b (by simp), ?_⟩
        refine ⟨_, rfl, fun ht => ?_, fun ht => ?_⟩
        · have hn : okRow y = none := by
            have hb : madeOf b capsL 4 = false := by
              cases q : madeOf b capsL 4 with
              | false => rfl
              | true => rw [q] at ht; cases ht
            rw [hws, lnOf_two, ha, hb]; rfl
          refine sw_one ?_
          refine s1_ret ?_
          refine ew_tup ?_
          refine aw_cons ?_
          refine ew_str ?_
          refine aw_cons ?_
          refine ew_var 2 ?_
          refine aw_nil ?_
          refine ⟨[_, _], rfl, by walk_at "few", ?_⟩
          rw [out hn] at h
          exact h
        · have hbk : madeOf b capsL 4 = true := by
            cases q : madeOf b capsL 4 with
            | true => rfl
            | false => rw [q] at ht; cases ht
          refine sw_nil ?_
          have e : okRow y = some (a, b) := by
            rw [hws, lnOf_two, ha, hbk]; rfl
          have htake : (rowsS z).take (i + 1) = (rowsS z).take i ++ [y] := by rw [List.take_add_one, hy]; rfl
          refine ⟨rfl, _, _, _, rfl, fun x hx => ?_⟩
          rw [htake] at hx
          rcases List.mem_append.mp hx with hx | hx
          · exact hb x hx
          · rw [List.mem_singleton.mp hx]
            unfold badRow
            rw [e]; rfl
  · intro ρ2 O2 hj
    obtain ⟨rfl, s2, s3, s4, rfl, hb⟩ := hj
    have htk : (rowsS z).take (enumD ((rowsS z).map Dat.str)).length = rowsS z := by
      unfold enumD
      rw [List.length_mapIdx, List.length_map, List.take_length]
    rw [htk] at hb
    have hbad : badAt z = none := findIdx_no hb
    refine sw_one ?_
    refine s1_ret ?_
    refine ew_if ?_
    refine tw_cmp ?_
    refine ew_callB (T.no Z.n_len) bt_len ?_
    refine aw_cons ?_
    refine ew_var 1 ?_
    refine aw_nil ?_
    refine cb_lenL ?_
    refine ew_int ?_
    walk_at "cmp Gt"
    refine ⟨_, rfl, fun ht => ?_, fun ht => ?_⟩
    · refine ew_tup ?_
      refine aw_cons ?_
      refine ew_str ?_
      refine aw_cons ?_
      refine ew_str ?_
      refine aw_nil ?_
      refine ⟨[_, _], rfl, by walk_at "few", ?_⟩
      have h3 : 3 < (rowsS z).length := by simp at ht; omega
      have e : dueR z = .tup [.str "many", .str "rows"] := by unfold dueR; rw [hbad]; exact if_pos h3
      rw [e] at h
      exact h
    · refine ew_tup ?_
      refine aw_cons ?_
      refine ew_str ?_
      refine aw_cons ?_
      refine ew_var 0 ?_
      refine aw_nil ?_
      refine ⟨[_, _], rfl, by walk_at "few", ?_⟩
      have h3 : ¬ 3 < (rowsS z).length := by simp at ht; omega
      have e : dueR z = .tup [.str "text", .str z] := by unfold dueR; rw [hbad]; exact if_neg h3
      rw [e] at h
      exact h
theorem c_law_due (T : TopOf K mg) (Z : Facts K) : Cal P w K mg base false 2 "_law_due" (DueS) [] := cal_of T Z.d_law_due (by walk_at "b1") fun f fd F => fn_law_due T Z F
end
section
variable {P : Program} {w : World} {K : PySem.W.Frag} {mg : Str → Option Value} {base : Heap}
theorem rows_join {z : Str} : Txt.join nl (rowsS z) = z := by
  unfold rowsS
  split
  · rename_i h
    subst h
    decide +kernel
  · exact join_split z nl (by decide +kernel)
theorem lnOf_some {ws : List Str} {q : Ln} (h : lnOf ws = some q) : ws = [q.1, q.2] ∧ q.1 ∈ twoW ∧ madeOf q.2 capsL 4 = true := by
  unfold lnOf at h
  split at h
  · rename_i a b
    split at h
    · rename_i hc
      cases h
      obtain ⟨h1, h2⟩ := Bool.and_eq_true_iff.mp hc
      obtain ⟨x, hx, hx2⟩ := List.any_eq_true.mp h1
      rw [beq_iff_eq.mp hx2] at hx
      exact ⟨rfl, hx, h2⟩
    · cases h
  · cases h
theorem show_row {y : Str} {q : Ln} (h : okRow y = some q) : showN q = y := by
  rw [okRow_split] at h
  obtain ⟨e, _⟩ := lnOf_some h
  have e2 := join_split y " " (by decide +kernel)
  rw [e, join_two] at e2
  exact e2
theorem show_rows : ∀ {rs : List Str}, (∀ y ∈ rs, badRow y = false) → (rs.filterMap okRow).map showN = rs
  | [], _ => rfl
  | y :: rs, h => by
    have hy := h y List.mem_cons_self
    unfold badRow at hy
    cases q : okRow y with
    | none => rw [q] at hy; cases hy
    | some u => rw [List.filterMap_cons_some q, List.map_cons, show_row q, show_rows fun x hx => h x (List.mem_cons_of_mem y hx)]
theorem good_rows {z : Str} (h : badAt z = none) : ∀ y ∈ rowsS z, badRow y = false := fun y hy => List.findIdx?_eq_none_iff.mp h y hy
theorem show_back {z : Str} (h : badAt z = none) : showL (linesS z) = z := by
  unfold showL linesS
  rw [show_rows (good_rows h), rows_join]
theorem two_ok : (twoW.all fun y => decide (y.length ≤ 4) && smlB y) = true := by decide +kernel
theorem caps_small : ∀ c ∈ sgs capsL, c < 0x110000 := by decide +kernel
theorem small_lines {z : Str} (h : z.length ≤ 900) : smallL (linesS z) := by
  refine ⟨Nat.le_trans (List.length_filterMap_le _ _) (Nat.le_trans (rows_count z) (by omega)), fun q hq => ?_⟩
  obtain ⟨y, hy, hq⟩ := List.mem_filterMap.mp hq
  obtain ⟨_, h1, h2⟩ := lnOf_some hq
  have := List.all_eq_true.mp two_ok _ h1
  simp only [Bool.and_eq_true, decide_eq_true_eq] at this
  obtain ⟨_, h3, h4⟩ := madeOf_pos h2
  exact ⟨this.1, h3, sml_of this.2, fun c hc => caps_small c (h4 c hc)⟩
def BigS : SpecT := fun ss O R => ∃ z : Str, ss = [.dat (.str z)] ∧ z.length ≤ 900 ∧ sml z ∧ R (.ret (.dat (dueR z))) O
theorem fn_law_read (T : TopOf K mg) (Z : Facts K) {f : Addr} {fd : FuncData} (F : L2.Fun K "_law_read" "_law_read" s_law_read f fd) : Fn P w K mg base false 6 f fd ["_law_text"] (BigS) := by
  have sc := sc_law_read
  refine fn_mk F sc_law_read (fun ss O R h => by first | (obtain ⟨_, rfl, _⟩ := h; rfl) | (obtain ⟨_, _, rfl, _⟩ := h; rfl) | (obtain ⟨_, _, _, rfl, _⟩ := h; rfl) | (obtain ⟨_, _, _, _, rfl, _⟩ := h; rfl) | (obtain ⟨_, _, _, _, _, rfl, _⟩ := h; rfl)) fun cdv A outer s H E ss O R hr hpo h => ?_
  obtain ⟨z, rfl, hz, hzs, h⟩ := h
  obtain ⟨C, I, mI, mRd, mS, mE, na⟩ := Z.c_Rules
  obtain ⟨CN, BN, XN, nfN⟩ := Z.x_NoRules
  obtain ⟨CT, BT, XT, nfT⟩ := Z.x_TooMany
  obtain ⟨CK, BK, XK, nfK⟩ := Z.x_NoKinds
  obtain ⟨c1, c2, a1, a2, sTN⟩ := Z.e_TooMany_NoRules
  obtain rfl := at_inj a1 XT.a.at_
  obtain rfl := at_inj a2 XN.a.at_
  obtain ⟨c3, c4, a3, a4, sNK⟩ := Z.e_NoRules_NoKinds
  obtain rfl := at_inj a3 XN.a.at_
  obtain rfl := at_inj a4 XK.a.at_
  obtain ⟨c5, c6, a5, a6, sNT⟩ := Z.e_NoRules_TooMany
  obtain rfl := at_inj a5 XN.a.at_
  obtain rfl := at_inj a6 XT.a.at_
  obtain ⟨c7, a7, sTV⟩ := Z.e_TooMany_ValueError
  obtain rfl := at_inj a7 XT.a.at_
  obtain ⟨c8, a8, k1, k2⟩ := Z.e_cls_NoKinds
  obtain rfl := at_inj a8 XK.a.at_
  obtain ⟨c9, a9, t1, t2⟩ := Z.e_cls_TooMany
  obtain rfl := at_inj a9 XT.a.at_
  have exmF : PySem.W.exmOne K (.ref c9) (.ref c5) = some false := PySem.W.exm_ref XN.xf.exC XN.xf.hdC XN.a.oex.tyC sTN
  have nNK : Value.ref c5 ≠ .ref c8 := fun e => by
    cases e
    rw [XN.own] at sNK; cases sNK
  have nNT : Value.ref c5 ≠ .ref c9 := fun e => by
    cases e
    rw [XN.own] at sNT; cases sNT
  have kAny : PySem.W.kitAny K (.ref c5) [.ref c8, .ref c9] = some false := L2.kitAny_cons (kit_of_sub nNK k1 k2 sNK) (fun _ => L2.kitAny_cons (kit_of_sub nNT t1 t2 sNT) (fun _ => rfl) fun e => by cases e) fun e => by cases e
  -- 0:_law_text 1:_law_found 2:e
  refine sw_cons ?_
  refine s1_set 1 ?_ sc.nd
  refine ew_tup ?_
  refine aw_cons ?_
  refine ew_str ?_
  refine aw_nil ?_
  refine ⟨[_], rfl, by walk_at "few", ?_⟩
  refine sw_cons ?_
  refine s1_try [⟨.ref c5, some 2, _, _⟩, ⟨.ref c9, some 2, _, _⟩] sc.nd (.cons ⟨rfl, by decide, .inl (T.is XN.a.at_)⟩ ⟨rfl, rfl⟩ (.cons ⟨rfl, by decide, .inl (T.is XT.a.at_)⟩ ⟨rfl, rfl⟩ .nil)) fun pn xe hpo2 => ?_
  refine sw_one ?_
  refine s1_set 1 ?_ sc.nd
  refine ew_tup ?_
  refine aw_cons ?_
  refine ew_str ?_
  refine aw_cons ?_
  refine ew_callTy (T.no Z.n_str) bt_str ?_
  refine aw_cons ?_
  refine ew_cmeth (cm_read T Z I.at_) hr ?_
  refine ew_cls (T.is I.at_) ?_
  refine ⟨rfl, ?_⟩
  refine aw_cons ?_
  refine ew_var 0 ?_
  refine aw_nil ?_
  refine ⟨C, z, rfl, I.at_, by omega, fun i hi C' hC' => ?_, fun hb h3 C' hC' => ?_, fun hb h3 => ?_⟩
  · obtain rfl := at_inj XN.a.at_ hC'
    have e : dueR z = .tup [.str "row", .int (i : Int)] := by unfold dueR; rw [hi]
    rw [e] at h
    refine ⟨true, XN.exm, fun _ => ?_, fun e => by cases e⟩
    intro a dd oe pn2 hzc hf ha
    refine sw_one ?_
    refine s1_set 1 ?_ sc.nd
    refine ew_if ?_
    refine tw_not ?_
    refine tw_val ?_
    refine ew_callB (T.no Z.n_isinstance) bt_isinstance ?_
    refine aw_cons ?_
    refine ew_var 2 ?_
    refine aw_cons ?_
    refine ew_tup ?_
    refine aw_cons ?_
    refine ew_cls (T.is XK.a.at_) ?_
    refine aw_cons ?_
    refine ew_cls (T.is XT.a.at_) ?_
    refine aw_nil ?_
    refine ⟨[_, _], rfl, by walk_at "few", ?_⟩
    refine aw_nil ?_
    refine cb_isET (Cs := [c8, c9]) XN.ec hzc hf kAny ?_
    refine ⟨_, rfl, fun ht => ?_, fun ht => by cases ht⟩
    refine ew_tup ?_
    refine aw_cons ?_
    refine ew_str ?_
    refine aw_cons ?_
    refine ew_exf XN.xf nfN hzc hf ?_
    refine ew_var 2 ?_
    refine ⟨_, _, rfl, rfl, ?_⟩
    refine aw_nil ?_
    refine ⟨[_, _], rfl, by walk_at "few", ?_⟩
    refine sw_one ?_
    refine s1_ret ?_
    refine ew_var 1 ?_
    exact h
  · obtain rfl := at_inj XT.a.at_ hC'
    have e : dueR z = .tup [.str "many", .str "rows"] := by unfold dueR; rw [hb]; exact if_pos h3
    rw [e] at h
    refine ⟨false, exmF, fun e => (by cases e), fun _ => ⟨true, XT.exm, fun _ => ?_, fun e => by cases e⟩⟩
    intro a dd oe pn2 hzc hf ha
    refine sw_one ?_
    refine s1_set 1 ?_ sc.nd
    refine ew_if ?_
    refine tw_w ?_
    refine tww_and ?_
    refine tw_val ?_
    refine ew_callB (T.no Z.n_isinstance) bt_isinstance ?_
    refine aw_cons ?_
    refine ew_var 2 ?_
    refine aw_cons ?_
    refine ew_cls (T.is XT.bat) ?_
    refine aw_nil ?_
    refine cb_isE XT.ec hzc hf XT.kit ?_
    refine ⟨_, rfl, fun ht => ?_, fun ht => by cases ht⟩
    refine tww_and1 ?_
    refine tw_val ?_
    refine ew_callB (T.no Z.n_isinstance) bt_isinstance ?_
    refine aw_cons ?_
    refine ew_var 2 ?_
    refine aw_cons ?_
    refine ew_bltn (T.no Z.n_ValueError) bt_ValueError ?_
    refine aw_nil ?_
    refine cb_isEB XT.ec hzc hf (kit_of_subT (by decide +kernel) sTV) ?_
    refine ⟨_, rfl, fun ht => ?_, fun ht => by cases ht⟩
    refine ew_tup ?_
    refine aw_cons ?_
    refine ew_str ?_
    refine aw_cons ?_
    refine ew_exf XT.xf nfT hzc hf ?_
    refine ew_var 2 ?_
    refine ⟨_, _, rfl, rfl, ?_⟩
    refine aw_nil ?_
    refine ⟨[_, _], rfl, by walk_at "few", ?_⟩
    refine sw_one ?_
    refine s1_ret ?_
    refine ew_var 1 ?_
    exact h
  · have e : dueR z = .tup [.str "text", .str z] := by unfold dueR; rw [hb]; exact if_neg (by omega)
    rw [e] at h
    refine aw_nil ?_
    obtain ⟨f0, fd0, hm0, F0⟩ := mS.ex
    refine cb_strOwn hm0.at_ hm0.fn (fn_Rules_str T Z F0) (mbinds F0 (fun _ _ _ _ _ _ us hl => match us, hl with | [_], _ => rfl)) (hr.r.mono (by decide)) rfl ⟨C, linesS z, rfl, I.at_, small_lines hz, ?_⟩
    refine ⟨_, rfl, ?_⟩
    rw [show_back hb]
    refine aw_nil ?_
    refine ⟨[_, _], rfl, by walk_at "few", ?_⟩
    refine sw_one ?_
    refine s1_ret ?_
    refine ew_var 1 ?_
    exact h
theorem c_law_read (T : TopOf K mg) (Z : Facts K) : Cal P w K mg base false 6 "_law_read" (BigS) [] := cal_of T Z.d_law_read (by walk_at "b1") fun f fd F => fn_law_read T Z F
end
def lenS (ws : List Str) : Nat := (ws.map (·.length)).sum
theorem lenS_app {a b : List Str} : lenS (a ++ b) = lenS a + lenS b := by unfold lenS; rw [List.map_append, List.sum_append]
theorem lenS_part {ws : List Str} {a : Nat} : lenS ws = lenS (ws.take a) + lenS (ws.drop a) := by rw [← lenS_app, List.take_append_drop]
theorem lenS_cut {ws : List Str} {a b : Nat} (h : a ≤ b) : lenS (ws.take a) + lenS (ws.drop b) ≤ lenS ws ∧ (ws.take a).length + (ws.drop b).length ≤ ws.length := by
  have e : lenS ws = lenS (ws.take b) + lenS (ws.drop b) := lenS_part
  have e2 : lenS (ws.take b) = lenS (ws.take a) + lenS ((ws.take b).drop a) := by
    have := lenS_part (ws := ws.take b) (a := a)
    rw [List.take_take, Nat.min_eq_left h] at this
    exact this
  refine ⟨by omega, ?_⟩
  rw [List.length_take, List.length_drop]
  omega
theorem joinN_le {ws : List Str} : (Txt.join nl ws).length ≤ lenS ws + ws.length := by
  have h1 : nl.length = 1 := by decide +kernel
  by_cases h : ws = []
  · subst h
    exact (by decide +kernel : (Txt.join nl []).length ≤ 0)
  · have := join_len nl ws h
    rw [h1, Nat.mul_one] at this
    unfold lenS
    omega
theorem sml_joinN {ws : List Str} (h : ∀ x ∈ ws, sml x) : sml (Txt.join nl ws) := fun c hc => by
  rcases mem_joined.mp hc with ⟨x, hx, hc⟩ | ⟨_, hc⟩
  · exact h x hx c hc
  · have := sml_of (z := nl) (by decide +kernel) c hc
    exact this
def okN (n : Nat) (y : Str) : Prop := y.length ≤ n ∧ sml y
theorem lit {z : Str} {n : Nat} (h : (decide (z.length ≤ n) && smlB z) = true) : okN n z := by
  obtain ⟨h1, h2⟩ := Bool.and_eq_true_iff.mp h
  exact ⟨of_decide_eq_true h1, sml_of h2⟩
theorem okN.app {m n : Nat} {y z : Str} (h : okN m y) (h' : okN n z) : okN (m + n) (y ++ z) := ⟨by rw [len_app]; exact Nat.add_le_add h.1 h'.1, sml_app h.2 h'.2⟩
theorem okN.up {m n : Nat} {y : Str} (h : okN m y) (hm : m ≤ n) : okN n y := ⟨Nat.le_trans h.1 hm, h.2⟩
def smL (c0 c1 : Str) : List Str := ["", "all", Str.ofString "all " ++ c0, Str.ofString "root " ++ c1 ++ Str.ofString " " ++ c0, Str.ofString "roots " ++ c0, "all all", "root a", Str.ofString "All " ++ c0, "all ABCDE", Str.ofString "root  " ++ c0, Str.ofString " root " ++ c0, "any K", Str.ofString "all " ++ c0 ++ Str.ofString " "]
theorem all_c {a : Str} {l : List Str} (h : okN 15 a) (h' : ∀ y ∈ l, okN 15 y) : ∀ y ∈ a :: l, okN 15 y := List.forall_mem_cons.mpr ⟨h, h'⟩
theorem smL_ok {c0 c1 : Str} (h0 : okN 4 c0) (h1 : okN 4 c1) : ∀ y ∈ smL c0 c1, okN 15 y :=
  all_c (lit (by decide +kernel)) <| all_c (lit (by decide +kernel)) <| all_c (((lit (n := 4) (by decide +kernel)).app h0).up (by decide)) <|
  all_c (((((lit (n := 5) (by decide +kernel)).app h1).app (lit (n := 1) (by decide +kernel))).app h0).up (by decide)) <| all_c (((lit (n := 6) (by decide +kernel)).app h0).up (by decide)) <|
  all_c (lit (by decide +kernel)) <| all_c (lit (by decide +kernel)) <| all_c (((lit (n := 4) (by decide +kernel)).app h0).up (by decide)) <| all_c (lit (by decide +kernel)) <|
  all_c (((lit (n := 6) (by decide +kernel)).app h0).up (by decide)) <| all_c (((lit (n := 6) (by decide +kernel)).app h0).up (by decide)) <| all_c (lit (by decide +kernel)) <|
  all_c ((((lit (n := 4) (by decide +kernel)).app h0).app (lit (n := 1) (by decide +kernel))).up (by decide)) fun y hy => (by cases hy)
theorem ob_catN {X : Cx} {O : Own} {k : Slot → Own → Prop} {y z : Str} {m n : Nat} (hy : okN m y) (hz : okN n z) (hl : m + n ≤ 1000) (h : k (.dat (.str (y ++ z))) O) : OpB X (binaryOp .Add) (.dat (.str y)) (.dat (.str z)) O k :=
  ob_cat (Nat.le_trans (Nat.add_le_add hy.1 hz.1) (Nat.le_trans hl (by decide))) h
def signsT : Str := " \nAa0~"
theorem signs_at : ∀ j : Fin 6, ∃ c, (sgs signsT)[j.val]? = some c ∧ c < 0x110000 := by decide +kernel
def SpS : SpecT := fun ss O R => ∃ (p : Addr) (b : Cell) (z : Str) (ws : List Str), ss = [.own p, .dat (.str z), .dat (.lst (ws.map .str))] ∧ O p = some b ∧ isBox b ∧ z.length ≤ 400 ∧ sml z ∧ 2 ≤ ws.length ∧ (∀ y ∈ ws, okW y) ∧
  ∀ (b' : Cell) (z' : Str), isBox b' → z'.length ≤ 2 * z.length + 20 → sml z' → R (.ret (.dat (.str z'))) (up O p b')
section
variable {P : Program} {w : World} {K : PySem.W.Frag} {mg : Str → Option Value} {base : Heap}
theorem fn_law_spoilt (T : TopOf K mg) (Z : Facts K) {f : Addr} {fd : FuncData} (F : L2.Fun K "_law_spoilt" "_law_spoilt" s_law_spoilt f fd) : Fn P w K mg base false 3 f fd ["_law_box_here", "_law_text", "_law_caps_here"] (SpS) := by
  have sc := sc_law_spoilt
  refine fn_mk F sc_law_spoilt (fun ss O R h => by first | (obtain ⟨_, rfl, _⟩ := h; rfl) | (obtain ⟨_, _, rfl, _⟩ := h; rfl) | (obtain ⟨_, _, _, rfl, _⟩ := h; rfl) | (obtain ⟨_, _, _, _, rfl, _⟩ := h; rfl) | (obtain ⟨_, _, _, _, _, rfl, _⟩ := h; rfl)) fun cdv A outer s H E ss O R hr hpo h => ?_
  obtain ⟨p, b, z, ws, rfl, hp, hb, hz, hzs, hw2, hwo, h⟩ := h
  have hzl : z.length ≤ sizeLine := Nat.le_trans hz (by decide)
  obtain ⟨c0, c1, wr, rfl⟩ : ∃ c0 c1 wr, ws = c0 :: c1 :: wr := match ws, hw2 with | c0 :: c1 :: wr, _ => ⟨c0, c1, wr, rfl⟩
  have h0 : okN 4 c0 := hwo c0 (by simp)
  have h1 : okN 4 c1 := hwo c1 (by simp)
  have hsm := smL_ok h0 h1
  have hrl : lenS (Txt.split z "\n") + (Txt.split z "\n").length = z.length + 1 := by
    have e := split_sum z nl (by decide +kernel)
    rw [show nl.length = 1 by decide +kernel, Nat.mul_one] at e
    exact e.symm
  have hr0 : 0 < (Txt.split z "\n").length := List.length_pos_iff.mpr (split_ne z nl)
  have hrm : ∀ x ∈ Txt.split z "\n", sml x := fun x hx c hc => by
    have e : Txt.join nl (Txt.split z nl) = z := join_split z nl (by decide +kernel)
    refine hzs c ?_
    rw [← e]
    exact mem_joined.mpr (.inl ⟨x, hx, hc⟩)
  -- 0:_law_box_here 1:_law_text 2:_law_caps_here 3:_law_form 4:_law_rows 5:_law_at 6:_law_spot 7:_law_some
  refine sw_cons ?_
  refine s1_par 3 4 ?_ sc.nd
  refine aw_cons ?_
  refine ew_call (c_law_take T Z) hr ?_
  refine aw_cons ?_
  refine ew_var 0 ?_
  refine aw_cons ?_
  refine ew_int ?_
  refine aw_nil ?_
  refine ⟨p, _, b, rfl, hp, hb, by decide, by decide, fun form b1 hf0 hf1 hb1 => ?_⟩
  refine aw_cons ?_
  refine ew_split ?_
  refine ew_var 1 ?_
  refine ⟨_, rfl, ?_⟩
  refine ew_str ?_
  refine m1_split (by decide +kernel) (Nat.le_trans (Nat.add_le_add_right hz 2) (by decide)) ?_
  generalize Txt.split z "\n" = rs at hrl hr0 hrm
  have hrn : rs.length ≤ 401 := by omega
  refine aw_nil ?_
  refine ⟨_, _, rfl, ?_⟩
  refine sw_cons ?_
  refine s1_par 5 6 ?_ sc.nd
  refine aw_cons ?_
  refine ew_call (c_law_take T Z) hr ?_
  refine aw_cons ?_
  refine ew_var 0 ?_
  refine aw_cons ?_
  refine ew_callB (T.no Z.n_len) bt_len ?_
  refine aw_cons ?_
  refine ew_var 4 ?_
  refine aw_nil ?_
  refine cb_lenL ?_
  refine aw_nil ?_
  refine ⟨p, _, b1, rfl, up_at, hb1, by rw [List.length_map]; omega, by rw [List.length_map]; omega, fun at_ b2 ha0 ha1 hb2 => ?_⟩
  rw [List.length_map] at ha1
  rw [up_up]
  refine aw_cons ?_
  refine ew_call (c_law_take T Z) hr ?_
  refine aw_cons ?_
  refine ew_var 0 ?_
  refine aw_cons ?_
  refine ew_bin ?_
  refine ew_callB (T.no Z.n_len) bt_len ?_
  refine aw_cons ?_
  refine ew_var 1 ?_
  refine aw_nil ?_
  refine cb_lenS hzl ?_
  refine ew_int ?_
  walk_at "op add"
  refine aw_nil ?_
  refine ⟨p, _, b2, rfl, up_at, hb2, by omega, by omega, fun spot b3 hs0 hs1 hb3 => ?_⟩
  rw [up_up]
  refine aw_nil ?_
  refine ⟨_, _, rfl, ?_⟩
  refine sw_cons ?_
  refine s1_set 7 ?_ sc.nd
  refine ew_lstD ?_
  refine aw_cons ?_
  refine ew_str ?_
  refine aw_cons ?_
  refine ew_str ?_
  refine aw_cons ?_
  refine ew_bin ?_
  refine ew_str ?_
  refine ew_ix ?_
  refine ew_var 2 ?_
  refine ew_int ?_
  refine ix_lst (d := .str c0) (atI_nat (j := 0) rfl) ?_
  refine ob_catN (lit (n := 4) (by decide +kernel)) h0 (by decide) ?_
  refine aw_cons ?_
  refine ew_bin ?_
  refine ew_bin ?_
  refine ew_bin ?_
  refine ew_str ?_
  refine ew_ix ?_
  refine ew_var 2 ?_
  refine ew_int ?_
  refine ix_lst (d := .str c1) (atI_nat (j := 1) rfl) ?_
  refine ob_catN (lit (n := 5) (by decide +kernel)) h1 (by decide) ?_
  refine ew_str ?_
  refine ob_catN (((lit (n := 5) (by decide +kernel)).app h1)) (lit (n := 1) (by decide +kernel)) (by decide) ?_
  refine ew_ix ?_
  refine ew_var 2 ?_
  refine ew_int ?_
  refine ix_lst (d := .str c0) (atI_nat (j := 0) rfl) ?_
  refine ob_catN (((lit (n := 5) (by decide +kernel)).app h1).app (lit (n := 1) (by decide +kernel))) h0 (by decide) ?_
  refine aw_cons ?_
  refine ew_bin ?_
  refine ew_str ?_
  refine ew_ix ?_
  refine ew_var 2 ?_
  refine ew_int ?_
  refine ix_lst (d := .str c0) (atI_nat (j := 0) rfl) ?_
  refine ob_catN (lit (n := 6) (by decide +kernel)) h0 (by decide) ?_
  refine aw_cons ?_
  refine ew_str ?_
  refine aw_cons ?_
  refine ew_str ?_
  refine aw_nil ?_
  refine ⟨[_, _, _, _, _, _, _], rfl, by walk_at "few", ?_⟩
  refine sw_cons ?_
  refine s1_set 7 ?_ sc.nd
  refine ew_bin ?_
  refine ew_var 7 ?_
  refine ew_lstD ?_
  refine aw_cons ?_
  refine ew_bin ?_
  refine ew_str ?_
  refine ew_ix ?_
  refine ew_var 2 ?_
  refine ew_int ?_
  refine ix_lst (d := .str c0) (atI_nat (j := 0) rfl) ?_
  refine ob_catN (lit (n := 4) (by decide +kernel)) h0 (by decide) ?_
  refine aw_cons ?_
  refine ew_str ?_
  refine aw_cons ?_
  refine ew_bin ?_
  refine ew_str ?_
  refine ew_ix ?_
  refine ew_var 2 ?_
  refine ew_int ?_
  refine ix_lst (d := .str c0) (atI_nat (j := 0) rfl) ?_
  refine ob_catN (lit (n := 6) (by decide +kernel)) h0 (by decide) ?_
  refine aw_cons ?_
  refine ew_bin ?_
  refine ew_str ?_
  refine ew_ix ?_
  refine ew_var 2 ?_
  refine ew_int ?_
  refine ix_lst (d := .str c0) (atI_nat (j := 0) rfl) ?_
  refine ob_catN (lit (n := 6) (by decide +kernel)) h0 (by decide) ?_
  refine aw_cons ?_
  refine ew_str ?_
  refine aw_nil ?_
  refine ⟨[_, _, _, _, _], rfl, by walk_at "few", ?_⟩
  refine ob_catC (show 7 + 5 ≤ sizeLine by decide) fun q hq => ?_
  refine sw_cons ?_
  refine s1_expr ?_
  refine ew_append ?_
  refine ew_var 7 ?_
  refine ⟨?_, ?_⟩
  · walk_at "ty"
  refine ew_bin ?_
  refine ew_bin ?_
  refine ew_str ?_
  refine ew_ix ?_
  refine ew_var 2 ?_
  refine ew_int ?_
  refine ix_lst (d := .str c0) (atI_nat (j := 0) rfl) ?_
  refine ob_catN (lit (n := 4) (by decide +kernel)) h0 (by decide) ?_
  refine ew_str ?_
  refine ob_catN ((lit (n := 4) (by decide +kernel)).app h0) (lit (n := 1) (by decide +kernel)) (by decide) ?_
  refine mb_append up_at (show 12 < sizeLine by decide) ?_
  rw [up_up]
  refine sw_frz 7 (ds := (smL c0 c1).map .str) (by rw [up_at]; rfl) ?_
  rw [dn_up hq]
  refine sw_cons ?_
  refine s1_if ?_
  refine tw_cmp ?_
  refine ew_var 3 ?_
  refine ew_int ?_
  walk_at "cmp Eq"
  refine ⟨_, rfl, fun ht => ?_, fun ht => ?_⟩
  · refine sw_one ?_
    refine s1_ret ?_
    refine ew_bin ?_
    refine ew_bin ?_
    refine ew_slice ?_
    refine ew_var 1 ?_
    refine ow_none ?_
    refine ow_some ?_
    refine ew_var 6 ?_
    refine ⟨_, rfl, ?_⟩
    refine sb_str hzl ?_
    refine ew_ix ?_
    refine ew_str ?_
    refine ew_call (c_law_take T Z) hr ?_
    refine aw_cons ?_
    refine ew_var 0 ?_
    refine aw_cons ?_
    refine ew_int ?_
    refine aw_nil ?_
    refine ⟨p, _, b3, rfl, up_at, hb3, by decide, by decide, fun v b4 hv0 hv1 hb4 => ?_⟩
    rw [up_up]
    obtain ⟨c, hc, hcs⟩ := signs_at ⟨v.toNat, by omega⟩
    
    refine ix_sgn (c := c) (by decide +kernel) (by
      rw [show v = ((v.toNat : Nat) : Int) by omega]
      exact atI_nat hc) ?_
    have hone : (⟨#[c]⟩ : Str).length = 1 := rfl
    refine ob_cat (Nat.le_trans (Nat.add_le_add_right (Nat.le_trans cutS_len hz) _) (show 400 + 1 ≤ sizeLine by decide)) ?_
    refine ew_slice ?_
    refine ew_var 1 ?_
    refine ow_some ?_
    refine ew_var 6 ?_
    refine ⟨_, rfl, ?_⟩
    refine ow_none ?_
    refine sb_str hzl ?_
    
    have hlen : (cutS z none (some spot)).length + (cutS z (some spot) none).length ≤ z.length := by
      rw [sgs_len, sgs_len, sgs_cut, sgs_cut, cut_take hs0, cut_drop hs0, List.length_take, List.length_drop, sgs_len z]
      omega
    refine ob_cat (by rw [len_app, hone]; exact Nat.le_trans (show _ ≤ 1001 by omega) (by decide)) ?_
    refine h b4 _ hb4 (by rw [len_app, len_app, hone]; omega) (sml_app (sml_app (sml_cut hzs) (sml_one hcs)) (sml_cut hzs))
  · refine sw_nil ?_
    refine sw_cons ?_
    refine s1_if ?_
    refine tw_cmp ?_
    refine ew_var 3 ?_
    refine ew_int ?_
    walk_at "cmp Eq"
    refine ⟨_, rfl, fun ht => ?_, fun ht => ?_⟩
    · refine sw_one ?_
      refine s1_ret ?_
      refine ew_bin ?_
      refine ew_slice ?_
      refine ew_var 1 ?_
      refine ow_none ?_
      refine ow_some ?_
      refine ew_var 6 ?_
      refine ⟨_, rfl, ?_⟩
      refine sb_str hzl ?_
      refine ew_slice ?_
      refine ew_var 1 ?_
      refine ow_some ?_
      refine ew_bin ?_
      refine ew_var 6 ?_
      refine ew_int ?_
      walk_at "op add"
      refine ⟨_, rfl, ?_⟩
      refine ow_none ?_
      refine sb_str hzl ?_
      
      have hlen : (cutS z none (some spot)).length + (cutS z (some (spot + 1)) none).length ≤ z.length := by
        rw [sgs_len, sgs_len, sgs_cut, sgs_cut, cut_take hs0, cut_drop (by omega), List.length_take, List.length_drop, sgs_len z]
        omega
      refine ob_cat (Nat.le_trans hlen hzl) ?_
      refine h b3 _ hb3 (by rw [len_app]; omega) (sml_app (sml_cut hzs) (sml_cut hzs))
    · refine sw_nil ?_
      refine sw_cons ?_
      refine s1_if ?_
      refine tw_cmp ?_
      refine ew_var 3 ?_
      refine ew_int ?_
      walk_at "cmp Eq"
      refine ⟨_, rfl, fun ht => ?_, fun ht => ?_⟩
      · refine sw_one ?_
        refine s1_set 4 ?_ sc.nd
        refine ew_bin ?_
        refine ew_slice ?_
        refine ew_var 4 ?_
        refine ow_none ?_
        refine ow_some ?_
        refine ew_var 5 ?_
        refine ⟨_, rfl, ?_⟩
        refine sb_lst ?_
        refine ew_slice ?_
        refine ew_var 4 ?_
        refine ow_some ?_
        refine ew_bin ?_
        refine ew_var 5 ?_
        refine ew_int ?_
        walk_at "op add"
        refine ⟨_, rfl, ?_⟩
        refine ow_none ?_
        refine sb_lst ?_
        
        rw [cut_map, cut_map, cut_take ha0, cut_drop (by omega)]
        obtain ⟨hc1, hc2⟩ := lenS_cut (ws := rs) (a := at_.toNat) (b := (at_ + 1).toNat) (by omega)
        refine ob_catL (by rw [List.length_map, List.length_map]; exact Nat.le_trans (show _ ≤ 1000 by omega) (by decide)) ?_
        rw [← List.map_append]
        refine sw_cons ?_
        refine s1_if ?_
        refine tw_cmp ?_
        refine ew_var 3 ?_
        refine ew_int ?_
        walk_at "cmp Eq"
        refine ⟨_, rfl, fun ht => ?_, fun ht => ?_⟩
        · exact absurd (of_decide_eq_true ht) (by have := of_decide_eq_true (by assumption : decide (form = 2) = true); omega)
        · refine sw_nil ?_
          refine sw_cons ?_
          refine s1_if ?_
          refine tw_cmp ?_
          refine ew_var 3 ?_
          refine ew_int ?_
          walk_at "cmp Gt"
          refine ⟨_, rfl, fun ht => ?_, fun ht => ?_⟩
          · exact absurd (of_decide_eq_true ht) (by have := of_decide_eq_true (by assumption : decide (form = 2) = true); omega)
          · refine sw_nil ?_
            refine sw_one ?_
            refine s1_ret ?_
            refine ew_join ?_
            refine ew_str ?_
            refine ⟨_, rfl, ?_⟩
            refine ew_var 4 ?_
            
            have hL : lenS (rs.take at_.toNat ++ rs.drop (at_ + 1).toNat) + (rs.take at_.toNat ++ rs.drop (at_ + 1).toNat).length ≤ z.length + 1 := by
              rw [lenS_app, List.length_append]; omega
            refine m1_join (by rw [show (Str.ofString "\n").length = 1 by decide +kernel, Nat.mul_one]; exact Nat.le_trans hL (by omega)) ?_
            refine h b3 _ hb3 (Nat.le_trans joinN_le (by omega)) (sml_joinN fun x hx => ?_)
            rcases List.mem_append.mp hx with hx | hx
            · exact hrm x (List.mem_of_mem_take hx)
            · exact hrm x (List.mem_of_mem_drop hx)
      · refine sw_nil ?_
        refine sw_cons ?_
        refine s1_if ?_
        refine tw_cmp ?_
        refine ew_var 3 ?_
        refine ew_int ?_
        walk_at "cmp Eq"
        refine ⟨_, rfl, fun ht => ?_, fun ht => ?_⟩
        · refine sw_one ?_
          refine s1_set 4 ?_ sc.nd
          refine ew_bin ?_
          refine ew_slice ?_
          refine ew_var 4 ?_
          refine ow_none ?_
          refine ow_some ?_
          refine ew_bin ?_
          refine ew_var 5 ?_
          refine ew_int ?_
          walk_at "op add"
          refine ⟨_, rfl, ?_⟩
          refine sb_lst ?_
          refine ew_slice ?_
          refine ew_var 4 ?_
          refine ow_some ?_
          refine ew_var 5 ?_
          refine ⟨_, rfl, ?_⟩
          refine ow_none ?_
          refine sb_lst ?_
          
          rw [cut_map, cut_map, cut_take (by omega), cut_drop ha0]
          have e1 : lenS rs = lenS (rs.take (at_ + 1).toNat) + lenS (rs.drop (at_ + 1).toNat) := lenS_part
          have e2 : lenS rs = lenS (rs.take at_.toNat) + lenS (rs.drop at_.toNat) := lenS_part
          have e3 : (rs.take (at_ + 1).toNat).length ≤ rs.length := by rw [List.length_take]; omega
          have e4 : (rs.drop at_.toNat).length ≤ rs.length := by rw [List.length_drop]; omega
          refine ob_catL (by rw [List.length_map, List.length_map]; exact Nat.le_trans (show _ ≤ 1000 by omega) (by decide)) ?_
          rw [← List.map_append]
          refine sw_cons ?_
          refine s1_if ?_
          refine tw_cmp ?_
          refine ew_var 3 ?_
          refine ew_int ?_
          walk_at "cmp Gt"
          refine ⟨_, rfl, fun ht => ?_, fun ht => ?_⟩
          · exact absurd (of_decide_eq_true ht) (by have := of_decide_eq_true (by assumption : decide (form = 3) = true); omega)
          · refine sw_nil ?_
            refine sw_one ?_
            refine s1_ret ?_
            refine ew_join ?_
            refine ew_str ?_
            refine ⟨_, rfl, ?_⟩
            refine ew_var 4 ?_
            
            have hL : lenS (rs.take (at_ + 1).toNat ++ rs.drop at_.toNat) + (rs.take (at_ + 1).toNat ++ rs.drop at_.toNat).length ≤ 2 * z.length + 2 := by
              rw [lenS_app, List.length_append]; omega
            refine m1_join (by rw [show (Str.ofString "\n").length = 1 by decide +kernel, Nat.mul_one]; exact Nat.le_trans hL (by omega)) ?_
            refine h b3 _ hb3 (Nat.le_trans joinN_le (by omega)) (sml_joinN fun x hx => ?_)
            rcases List.mem_append.mp hx with hx | hx
            · exact hrm x (List.mem_of_mem_take hx)
            · exact hrm x (List.mem_of_mem_drop hx)
        · refine sw_nil ?_
          refine sw_cons ?_
          refine s1_if ?_
          refine tw_cmp ?_
          refine ew_var 3 ?_
          refine ew_int ?_
          walk_at "cmp Gt"
          refine ⟨_, rfl, fun ht => ?_, fun ht => ?_⟩
          · have hf4 : 3 < form := of_decide_eq_true ht
            refine sw_one ?_
            refine s1_set 4 ?_ sc.nd
            refine ew_bin ?_
            refine ew_bin ?_
            refine ew_slice ?_
            refine ew_var 4 ?_
            refine ow_none ?_
            refine ow_some ?_
            refine ew_var 5 ?_
            refine ⟨_, rfl, ?_⟩
            refine sb_lst ?_
            refine ew_lstD ?_
            refine aw_cons ?_
            refine ew_call (c_law_pick T Z) hr ?_
            refine aw_cons ?_
            refine ew_var 0 ?_
            refine aw_cons ?_
            refine ew_var 7 ?_
            refine aw_nil ?_
            refine ⟨p, b3, (smL c0 c1).map .str, rfl, up_at, hb3, (by show 0 < 13; decide), (by show 13 ≤ 1000; decide), fun dy b4 hdy hb4 => ?_⟩
            rw [up_up]
            obtain ⟨y, hy, rfl⟩ := List.mem_map.mp hdy
            obtain ⟨hyl, hys⟩ := hsm y hy
            refine aw_nil ?_
            refine ⟨[_], rfl, by walk_at "few", ?_⟩
            
            rw [cut_map, cut_take ha0]
            refine ob_catL (by rw [List.length_map]; show (rs.take at_.toNat).length + 1 ≤ _; rw [List.length_take]; exact Nat.le_trans (show _ ≤ 1000 by omega) (by decide)) ?_
            refine ew_slice ?_
            refine ew_var 4 ?_
            refine ow_some ?_
            refine ew_bin ?_
            refine ew_bin ?_
            refine ew_var 5 ?_
            refine ew_var 3 ?_
            walk_at "op add"
            refine ew_int ?_
            walk_at "op sub"
            refine ⟨_, rfl, ?_⟩
            refine ow_none ?_
            refine sb_lst ?_
            
            rw [cut_map, cut_drop (by omega)]
            obtain ⟨hc1, hc2⟩ := lenS_cut (ws := rs) (a := at_.toNat) (b := (at_ + form - 4).toNat) (by omega)
            have eL : (rs.take at_.toNat).map Dat.str ++ [.str y] = (rs.take at_.toNat ++ [y]).map .str := by rw [List.map_append]; rfl
            rw [eL]
            refine ob_catL (by rw [List.length_map, List.length_map, List.length_append]; exact Nat.le_trans (show _ ≤ 1000 by simp only [List.length_singleton]; omega) (by decide)) ?_
            rw [← List.map_append]
            refine sw_one ?_
            refine s1_ret ?_
            refine ew_join ?_
            refine ew_str ?_
            refine ⟨_, rfl, ?_⟩
            refine ew_var 4 ?_
            
            have hL : lenS (rs.take at_.toNat ++ [y] ++ rs.drop (at_ + form - 4).toNat) + (rs.take at_.toNat ++ [y] ++ rs.drop (at_ + form - 4).toNat).length ≤ z.length + 17 := by
              rw [lenS_app, lenS_app, List.length_append, List.length_append, List.length_singleton]
              have : lenS [y] = y.length + 0 := rfl
              omega
            refine m1_join (by rw [show (Str.ofString "\n").length = 1 by decide +kernel, Nat.mul_one]; exact Nat.le_trans hL (by omega)) ?_
            refine h b4 _ hb4 (Nat.le_trans joinN_le (by omega)) (sml_joinN fun x hx => ?_)
            rcases List.mem_append.mp hx with hx | hx
            · rcases List.mem_append.mp hx with hx | hx
              · exact hrm x (List.mem_of_mem_take hx)
              · rw [List.mem_singleton.mp hx]; exact hys
            · exact hrm x (List.mem_of_mem_drop hx)
          · exact absurd ht (by
              have g0 : ¬ form = 0 := of_decide_eq_false (by assumption)
              have g1 : ¬ form = 1 := of_decide_eq_false (by assumption)
              have g2 : ¬ form = 2 := of_decide_eq_false (by assumption)
              have g3 : ¬ form = 3 := of_decide_eq_false (by assumption)
              rw [decide_eq_true (show 3 < form by omega)]
              decide)
theorem c_law_spoilt (T : TopOf K mg) (Z : Facts K) : Cal P w K mg base false 3 "_law_spoilt" (SpS) [] := cal_of T Z.d_law_spoilt (by walk_at "b3") fun f fd F => fn_law_spoilt T Z F
end
theorem ne_self {α : Type} [DecidableEq α] {a b : α} (h : a = b) : ¬ (!decide (a = b)) = true := by
  rw [decide_eq_true h]; decide
theorem due_head (z : Str) : ∃ hd d2, dueR z = .tup [.str hd, d2] ∧ (hd = "text" → badAt z = none ∧ (rowsS z).length ≤ 3) := by
  unfold dueR
  cases hb : badAt z with
  | some i => exact ⟨_, _, rfl, fun e => absurd e (by decide +kernel)⟩
  | none =>
    by_cases h3 : 3 < (rowsS z).length
    · exact ⟨"many", .str "rows", if_pos h3, fun e => absurd e (by decide +kernel)⟩
    · exact ⟨"text", .str z, if_neg h3, fun _ => ⟨rfl, by omega⟩⟩
theorem repr_due {z : Str} (hz : z.length ≤ 900) (hzs : sml z) : ∃ ds, dueR z = .tup ds ∧ reprOk (.tup ds) = true := by
  unfold dueR
  have hw := rows_count z
  cases hi : badAt z with
  | some i =>
    obtain ⟨hl, _, _⟩ := List.findIdx?_eq_some_iff_getElem.mp hi
    refine ⟨_, rfl, ?_⟩
    have e1 : 0 ≤ (i : Int) := by omega
    have e2 : (i : Int) < 10 ^ 12 := by omega
    refine reprOk_of ?_ (show 0 + 1 ≤ 64 by decide) ?_
    · show (fine (.str "row") && (fine (.int (i : Int)) && true)) = true
      rw [fine_nat e1 e2, show fine (.str "row") = true by decide +kernel]; rfl
    · show wgt (.str "row") + 1 + (wgt (.int (i : Int)) + 1 + 0) ≤ 2 ^ 20
      have e := wgt_nat e1 e2
      have e3 : wgt (.str "row") = 3 := by decide +kernel
      omega
  | none =>
    by_cases h3 : 3 < (rowsS z).length
    · exact ⟨_, if_pos h3, by decide +kernel⟩
    · refine ⟨_, if_neg h3, reprOk_of ?_ (show 0 + 1 ≤ 64 by decide) ?_⟩
      · show (fine (.str "text") && (smlB z && true)) = true
        rw [sml_b hzs, show fine (.str "text") = true by decide +kernel]; rfl
      · show wgt (.str "text") + 1 + (wgt (.str z) + 1 + 0) ≤ 2 ^ 20
        have e3 : wgt (.str "text") = 4 := by decide +kernel
        have e4 : wgt (.str z) = z.length := rfl
        omega
structure GoodT (t : Str) : Prop where
  len : t.length ≤ 400
  sm : sml t
  bad : badAt t = none
  few : (rowsS t).length ≤ 3
theorem lines_inj {t u : Str} (h : GoodT t) (h' : GoodT u) : decide (linesS t = linesS u) = decide (t = u) := by
  by_cases e : t = u
  · subst e; simp
  · rw [decide_eq_false e, decide_eq_false fun q => e ?_]
    rw [← show_back h.bad, ← show_back h'.bad, q]
theorem good_empty : GoodT "" := ⟨by decide +kernel, sml_of (by decide +kernel), by decide +kernel, by decide +kernel⟩
theorem good_all : GoodT "all K" := ⟨by decide +kernel, sml_of (by decide +kernel), by decide +kernel, by decide +kernel⟩
theorem bools_shaped {a b : Bool} : SeqAt.shaped (toPy (.lst [.bl a, .bl b])) = true := by cases a <;> cases b <;> decide +kernel
theorem bools_eq {a b : Bool} : eqD (.lst [.bl a, .bl b]) (.lst [.bl a, .bl b]) = true := by cases a <;> cases b <;> decide +kernel
theorem sub_non {K : PySem.W.Frag} {C : Addr} : PySem.W.subIn K (.type "NoneType") (.ref C) = some false := HN.sub_none
theorem sub_int {K : PySem.W.Frag} {C : Addr} : PySem.W.subIn K (.type "int") (.ref C) = some false := by
  have e : fastBuiltinMro "int" = some [.type "int", .type "object"] := by decide +kernel
  show (fastBuiltinMro "int").map (·.contains (.ref C)) = some false
  rw [e]
  first | rfl | simp
theorem sub_str {K : PySem.W.Frag} {C : Addr} : PySem.W.subIn K (.type "str") (.ref C) = some false := by
  have e : fastBuiltinMro "str" = some [.type "str", .type "object"] := by decide +kernel
  show (fastBuiltinMro "str").map (·.contains (.ref C)) = some false
  rw [e]
  first | rfl | simp
theorem sub_tup {K : PySem.W.Frag} {C : Addr} : PySem.W.subIn K (.type "tuple") (.ref C) = some false := by
  have e : fastBuiltinMro "tuple" = some [.type "tuple", .type "object"] := by decide +kernel
  show (fastBuiltinMro "tuple").map (·.contains (.ref C)) = some false
  rw [e]
  first | rfl | simp
theorem notFirst_self {K : PySem.W.Frag} {C : Addr} : PySem.W.notFirst K C (.ref C) = true := by
  unfold PySem.W.notFirst
  simp
theorem notFirst_of {K : PySem.W.Frag} {C : Addr} {t : Value} (h : PySem.W.subIn K t (.ref C) = some false) : PySem.W.notFirst K C t = true := by
  unfold PySem.W.notFirst
  rw [h]
  simp
/-- the odd things that rules are compared with -/
def oddL (t : Str) : List Dat := [.non, .int 0, .str t, .tup [.str t]]
theorem odd_ok {K : PySem.W.Frag} {C : Addr} {t : Str} {d : Dat} {O : Own} (h : d ∈ oddL t) : ∃ n, tyName d = n ∧ n ≠ "" ∧ PySem.W.subIn K (.type n) (.ref C) = some false ∧ tySl O (.type n) (.dat d) := by
  unfold oddL at h
  rcases List.mem_cons.mp h with rfl | h
  · exact ⟨"NoneType", rfl, by decide, sub_non, rfl⟩
  rcases List.mem_cons.mp h with rfl | h
  · exact ⟨"int", rfl, by decide, sub_int, rfl⟩
  rcases List.mem_cons.mp h with rfl | h
  · exact ⟨"str", rfl, by decide, sub_str, rfl⟩
  rcases List.mem_cons.mp h with rfl | h
  · exact ⟨"tuple", rfl, by decide, sub_tup, rfl⟩
  · cases h
theorem two_at {α : Type} {d : Int} (h0 : 0 ≤ d) (h1 : d < 2) (a b : α) : atI [a, b] d = some (if d = 0 then a else b) := by
  have h : d = 0 ∨ d = 1 := by omega
  rcases h with rfl | rfl
  · exact atI_nat (j := 0) rfl
  · exact atI_nat (j := 1) rfl
section
variable {P : Program} {w : World} {K : PySem.W.Frag} {mg : Str → Option Value} {base : Heap}
theorem fn_law (T : TopOf K mg) (Z : Facts K) {f : Addr} {fd : FuncData} (F : L2.Fun K "law" "law" s_law f fd) : Fn P w K mg base true 7 f fd ["_law_script"] (LawS) := by
  have sc := sc_law
  refine fn_mk F sc_law (fun ss O R h => by first | (obtain ⟨_, rfl, _⟩ := h; rfl) | (obtain ⟨_, _, rfl, _⟩ := h; rfl) | (obtain ⟨_, _, _, rfl, _⟩ := h; rfl) | (obtain ⟨_, _, _, _, rfl, _⟩ := h; rfl) | (obtain ⟨_, _, _, _, _, rfl, _⟩ := h; rfl)) fun cdv A outer s H E ss O R hr hpo h => ?_
  obtain ⟨C, I, mI, mRd, mS, mE, na⟩ := Z.c_Rules
  obtain ⟨c9, a9, r1, r2⟩ := Z.e_cls_Rules
  obtain rfl := at_inj a9 I.at_
  obtain ⟨ns, rfl, hns, h⟩ := h
  -- 0:_law_script 1:_law_k 2:_law_box_here 3:_law_caps_here 4:_law_made 5:_law_turn 6:_law_rows 7:_law_row 8:_law_text 9:_law_more 10:_law_some 11:_law_one 12:_law_its 13:_law_other 14:_law_odd
  refine sw_cons ?_
  refine s1_for hpo ?_
  refine iw_range1 (T.no Z.n_range) ?_
  refine aw_cons ?_
  refine ew_callB (T.no Z.n_max) bt_max ?_
  refine aw_cons ?_
  refine ew_int ?_
  refine aw_cons ?_
  refine ew_callB (T.no Z.n_min) bt_min ?_
  refine aw_cons ?_
  refine ew_int ?_
  refine aw_cons ?_
  refine ew_callB (T.no Z.n_len) bt_len ?_
  refine aw_cons ?_
  refine ew_var 0 ?_
  refine aw_nil ?_
  walk_at "cb len"
  refine aw_nil ?_
  walk_at "cb min"
  refine aw_nil ?_
  walk_at "cb max"
  refine aw_nil ?_
  refine ⟨_, rfl, by constructor <;> (repeat' split) <;> omega, ?_⟩
  refine ⟨fun i ρ' O' => ∃ s1 s2 s3 s4 s5 s6 s7 s8 s9 s10 s11 s12 s13 s14 : Slot, ρ' = [.dat (.fro (ns.map .int)), s1, s2, s3, s4, s5, s6, s7, s8, s9, s10, s11, s12, s13, s14], ?_, ?_, ?_⟩
  · exact ⟨_, _, _, _, _, _, _, _, _, _, _, _, _, _, rfl⟩
  · intro i d ρ2 O2 hj hd
    obtain ⟨s1, s2, s3, s4, s5, s6, s7, s8, s9, s10, s11, s12, s13, s14, rfl⟩ := hj
    obtain ⟨hi, rfl⟩ := rangeD_at hd
    have hi : i < 7 := by
      rw [List.length_map] at hi
      revert hi
      (repeat' split) <;> omega
    refine gw_name 1 ?_ sc.nd
    refine sw_cons ?_
    refine s1_set 2 ?_ sc.nd
    refine ew_call (c_law_box T Z) hr ?_
    refine aw_cons ?_
    refine ew_var 0 ?_
    refine aw_cons ?_
    refine ew_var 1 ?_
    refine aw_cons ?_
    refine ew_int ?_
    refine aw_nil ?_
    refine ⟨ns, _, _, rfl, by omega, by omega, by decide, by decide, fun p b hp hb => ?_⟩
    refine sw_cons ?_
    refine s1_parT 3 4 ?_ sc.nd
    refine aw_cons ?_
    refine ew_call (c_law_caps T Z) hr ?_
    refine aw_cons ?_
    refine ew_var 2 ?_
    refine aw_cons ?_
    refine ew_int ?_
    refine aw_nil ?_
    refine ⟨p, b, 4, rfl, up_at, hb, by decide, by decide, fun b1 caps hb1 hcl hcok => ?_⟩
    rw [up_up]
    refine aw_cons ?_
    refine ew_lst ?_
    refine aw_nil ?_
    refine ⟨by decide, fun m hm => ?_⟩
    refine aw_nil ?_
    refine ⟨_, _, rfl, ?_⟩
    have npm : p ≠ m := own_ne up_at hm
    refine sw_cons ?_
    refine s1_for hpo ?_
    refine iw_range1 (T.no Z.n_range) ?_
    refine aw_cons ?_
    refine ew_int ?_
    refine aw_nil ?_
    refine ⟨_, rfl, by decide, ?_⟩
    refine ⟨fun j ρ' O' => ∃ (b : Cell) (ts : List Str) (s1 s5 s6 s7 s8 s9 s10 s11 s12 s13 s14 : Slot), ρ' = [.dat (.fro (ns.map .int)), s1, .own p, .dat (.lst (caps.map .str)), .own m, s5, s6, s7, s8, s9, s10, s11, s12, s13, s14] ∧ O' p = some b ∧ isBox b ∧ O' m = some (.lst ((ts.map .str).map .dat)) ∧ ts.length ≤ j ∧ ∀ t ∈ ts, GoodT t, ?_, ?_, ?_⟩
    · exact ⟨b1, [], _, _, _, _, _, _, _, _, _, _, _, rfl, by rw [up_ne npm, up_at], hb1, up_at, Nat.le_refl _, fun t ht => by cases ht⟩
    · intro i d ρ2 O2 hj hd
      obtain ⟨b2, ts, s1, s5, s6, s7, s8, s9, s10, s11, s12, s13, s14, rfl, hO2, hb2, hOm, htl, htg⟩ := hj
      obtain ⟨hj, rfl⟩ := rangeD_at hd
      have hj : i < 10 := hj
      refine gw_name 5 ?_ sc.nd
      refine sw_cons ?_
      refine s1_setLc [("_law_row", 7)] 6 sc.nd (.name (i := 7) (by decide) fun Y ⟨_, _, _, _, _, e⟩ => by subst e; exact pg_name (i := 7) sc.nd rfl (.inl rfl) (.inr rfl)) (blkOk_by (N := N_law) (sc := defScope s_law) (by decide +kernel)) ?_
      refine iw_range1 (T.no Z.n_range) ?_
      refine aw_cons ?_
      refine ew_call (c_law_take T Z) hr ?_
      refine aw_cons ?_
      refine ew_var 2 ?_
      refine aw_cons ?_
      refine ew_int ?_
      refine aw_nil ?_
      refine ⟨p, _, b2, rfl, hO2, hb2, by decide, by decide, fun many b3 hn0 hn1 hb3 => ?_⟩
      refine aw_nil ?_
      refine ⟨many, rfl, by constructor <;> omega, ?_⟩
      refine ⟨by rw [rangeD_len]; exact Nat.le_trans (show many.toNat ≤ 6 by omega) (by decide), fun i acc O' => ∃ (b' : Cell) (ls : List Str), O' = up O2 p b' ∧ isBox b' ∧ acc = ls.map (fun y => .dat (.str y)) ∧ ls.length = i ∧ ∀ y ∈ ls, okN 9 y, ⟨b3, [], rfl, hb3, rfl, rfl, fun y hy => by cases hy⟩, ?_, ?_⟩
      · intro i d acc O' hj hd
        obtain ⟨b', ls, rfl, hb', rfl, hll, hlo⟩ := hj
        refine ⟨_, rfl, fun Dd hDd Y hY => tsw_nil ⟨fun _ Z' hZ => ?_, fun e => by cases e⟩⟩
        obtain ⟨_, _, _, _, _, rfl⟩ := hZ
        have npD : p ≠ Dd := own_ne up_at hDd
        refine ew_bin ?_
        refine ew_ix ?_
        refine ew_lstD ?_
        refine aw_cons ?_
        refine ew_str ?_
        refine aw_cons ?_
        refine ew_str ?_
        refine aw_nil ?_
        refine ⟨[_, _], rfl, by walk_at "few", ?_⟩
        refine ew_call (c_law_take T Z) hr ?_
        refine aw_cons ?_
        refine ew_var 2 ?_
        refine aw_cons ?_
        refine ew_int ?_
        refine aw_nil ?_
        refine ⟨p, _, b', rfl, by rw [up_ne npD]; exact up_at, hb', by decide, by decide, fun v b4 hv0 hv1 hb4 => ?_⟩
        obtain ⟨hw, ehw, hwok⟩ : ∃ hw : Str, (if v = 0 then Dat.str "all " else Dat.str "root ") = .str hw ∧ okN 5 hw := by
          split
          · exact ⟨_, rfl, lit (by decide +kernel)⟩
          · exact ⟨_, rfl, lit (by decide +kernel)⟩
        refine ix_lst (d := .str hw) (by rw [two_at hv0 hv1, ehw]) ?_
        refine ew_call (c_law_pick T Z) hr ?_
        refine aw_cons ?_
        refine ew_var 2 ?_
        refine aw_cons ?_
        refine ew_var 3 ?_
        refine aw_nil ?_
        refine ⟨p, b4, caps.map .str, rfl, up_at, hb4, by rw [List.length_map, hcl]; decide, by rw [List.length_map, hcl]; decide, fun dy b5 hdy hb5 => ?_⟩
        obtain ⟨y, hy, rfl⟩ := List.mem_map.mp hdy
        have hyok : okN 4 y := hcok y hy
        refine ob_catN hwok hyok (by decide) ?_
        have hDd' : O2 Dd = none := by rw [up_ne npD.symm] at hDd; exact hDd
        refine ⟨up O2 p b5, ?_, by rw [up_ne npD.symm]; exact hDd', b5, ls ++ [hw ++ y], rfl, hb5, by rw [List.map_append]; rfl, by rw [List.length_append, hll]; rfl, fun x hx => ?_⟩
        · rw [up_up, up_swap npD.symm, up_up]
        · rcases List.mem_append.mp hx with hx | hx
          · exact hlo x hx
          · rw [List.mem_singleton.mp hx]; exact hwok.app hyok
      intro acc O' hj q hq
      obtain ⟨b3', ls, rfl, hb3', rfl, hll, hlo⟩ := hj
      rw [rangeD_len] at hll
      have npq : p ≠ q := own_ne up_at hq
      refine sw_frz 6 (ds := ls.map .str) (by rw [up_at, List.map_map]; rfl) ?_
      rw [dn_up hq]
      have hOm3 : up O2 p b3' m = some (.lst ((ts.map .str).map .dat)) := by rw [up_ne npm.symm]; exact hOm
      have hOp3 : up O2 p b3' p = some b3' := up_at
      generalize up O2 p b3' = O3 at hOm3 hOp3
      have hjl : lenS ls ≤ ls.length * 9 := sum_le (g := fun y : Str => y.length) (b := 9) fun y hy => (hlo y hy).1
      have hln : ls.length ≤ 5 := by omega
      refine sw_cons ?_
      refine s1_set 8 ?_ sc.nd
      refine ew_join ?_
      refine ew_str ?_
      refine ⟨_, rfl, ?_⟩
      refine ew_var 6 ?_
      refine m1_join (by rw [show (Str.ofString "\n").length = 1 by decide +kernel, Nat.mul_one]; exact Nat.le_trans (Nat.add_le_add_right hjl _) (by omega)) ?_
      have hz0 : (Txt.join "\n" ls).length + 20 ≤ 70 := Nat.le_trans (Nat.add_le_add_right (joinN_le (ws := ls)) 20) (by omega)
      have hs0 : sml (Txt.join "\n" ls) := sml_joinN fun y hy => (hlo y hy).2
      refine sw_cons ?_
      refine s1_for hpo ?_
      refine iw_range1 (T.no Z.n_range) ?_
      refine aw_cons ?_
      refine ew_call (c_law_take T Z) hr ?_
      refine aw_cons ?_
      refine ew_var 2 ?_
      refine aw_cons ?_
      refine ew_int ?_
      refine aw_nil ?_
      refine ⟨p, _, b3', rfl, hOp3, hb3', by decide, by decide, fun more b4 hm0 hm1 hb4 => ?_⟩
      have hOm4 : up O3 p b4 m = some (.lst ((ts.map .str).map .dat)) := by rw [up_ne npm.symm]; exact hOm3
      refine aw_nil ?_
      refine ⟨_, rfl, by constructor <;> omega, ?_⟩
      refine ⟨fun i ρ' O' => ∃ (b : Cell) (z : Str) (s1 s5 s6 s7 s9 s10 s11 s12 s13 s14 : Slot), ρ' = [.dat (.fro (ns.map .int)), s1, .own p, .dat (.lst (caps.map .str)), .own m, s5, s6, s7, .dat (.str z), s9, s10, s11, s12, s13, s14] ∧ O' p = some b ∧ isBox b ∧ O' m = some (.lst ((ts.map .str).map .dat)) ∧ z.length + 20 ≤ 70 * 2 ^ i ∧ sml z, ?_, ?_, ?_⟩
      · exact ⟨b4, _, _, _, _, _, _, _, _, _, _, _, rfl, up_at, hb4, hOm4, by rw [Nat.pow_zero, Nat.mul_one]; exact hz0, hs0⟩
      · intro i d ρ2 O2 hj hd
        obtain ⟨b5, z, s1, s5, s6, s7, s9, s10, s11, s12, s13, s14, rfl, hOp5, hb5, hOm5, hzl, hzs⟩ := hj
        obtain ⟨hi2, rfl⟩ := rangeD_at hd
        have hi2 : i < 2 := by omega
        have hz4 : z.length ≤ 400 := by
          have : i = 0 ∨ i = 1 := by omega
          rcases this with rfl | rfl
          · omega
          · omega
        refine gw_name 9 ?_ sc.nd
        refine sw_one ?_
        refine s1_set 8 ?_ sc.nd
        refine ew_call (c_law_spoilt T Z) hr ?_
        refine aw_cons ?_
        refine ew_var 2 ?_
        refine aw_cons ?_
        refine ew_var 8 ?_
        refine aw_cons ?_
        refine ew_var 3 ?_
        refine aw_nil ?_
        refine ⟨p, b5, z, caps, rfl, hOp5, hb5, hz4, hzs, by rw [hcl]; decide, hcok, fun b6 z' hb6 hzl' hzs' => ?_⟩
        exact ⟨b6, z', _, _, _, _, _, _, _, _, _, _, rfl, up_at, hb6, by rw [up_ne npm.symm]; exact hOm5, by rw [Nat.pow_succ]; omega, hzs'⟩
      · intro ρ2 O2 hj
        obtain ⟨b5, z, s1, s5, s6, s7, s9, s10, s11, s12, s13, s14, rfl, hOp5, hb5, hOm5, hzl, hzs⟩ := hj
        rw [rangeD_len] at hzl
        have hz3 : z.length ≤ 300 := by
          have : more.toNat = 0 ∨ more.toNat = 1 ∨ more.toNat = 2 := by omega
          rcases this with e | e | e
          · rw [e] at hzl; omega
          · rw [e] at hzl; omega
          · rw [e] at hzl; omega
        obtain ⟨ds, hds, hrd⟩ := repr_due (z := z) (by omega) hzs
        refine sw_cons ?_
        refine s1_if ?_
        refine tw_w ?_
        refine tww_or ?_
        refine tw_cmp ?_
        refine ew_callB (T.no Z.n_repr) bt_repr ?_
        refine aw_cons ?_
        refine ew_call (c_law_read T Z) hr ?_
        refine aw_cons ?_
        refine ew_var 8 ?_
        refine aw_nil ?_
        refine ⟨z, rfl, by omega, hzs, ?_⟩
        rw [hds]
        refine aw_nil ?_
        refine cb_reprT (hr.mono (by decide) (fun e => e)) hrd ?_
        refine ew_callB (T.no Z.n_repr) bt_repr ?_
        refine aw_cons ?_
        refine ew_call (c_law_due T Z) hr ?_
        refine aw_cons ?_
        refine ew_var 8 ?_
        refine aw_nil ?_
        refine ⟨z, rfl, ⟨by omega, hzs⟩, ?_⟩
        rw [hds]
        refine aw_nil ?_
        refine cb_reprT (hr.mono (by decide) (fun e => e)) hrd ?_
        walk_at "cmp NotEq"
        refine ⟨_, rfl, fun ht => ?_, fun ht => ?_⟩
        · exact absurd ht (ne_self rfl)
        · refine tww_or1 ?_
          refine tw_cmp ?_
          refine ew_callB (T.no Z.n_repr) bt_repr ?_
          refine aw_cons ?_
          refine ew_call (c_law_read T Z) hr ?_
          refine aw_cons ?_
          refine ew_var 8 ?_
          refine aw_nil ?_
          refine ⟨z, rfl, by omega, hzs, ?_⟩
          rw [hds]
          refine aw_nil ?_
          refine cb_reprT (hr.mono (by decide) (fun e => e)) hrd ?_
          refine ew_callB (T.no Z.n_repr) bt_repr ?_
          refine aw_cons ?_
          refine ew_call (c_law_due T Z) hr ?_
          refine aw_cons ?_
          refine ew_var 8 ?_
          refine aw_nil ?_
          refine ⟨z, rfl, ⟨by omega, hzs⟩, ?_⟩
          rw [hds]
          refine aw_nil ?_
          refine cb_reprT (hr.mono (by decide) (fun e => e)) hrd ?_
          walk_at "cmp NotEq"
          refine ⟨_, rfl, fun ht => ?_, fun ht => ?_⟩
          · exact absurd ht (ne_self rfl)
          · obtain ⟨hd, d2, hdue, hgood⟩ := due_head z
            refine sw_nil ?_
            refine sw_one ?_
            refine s1_expr ?_
            refine ew_extend ?_
            refine ew_var 4 ?_
            refine ⟨?_, ?_⟩
            · exact ⟨rfl, _, hOm5⟩
            refine ew_bin ?_
            refine ew_lstD ?_
            refine aw_cons ?_
            refine ew_var 8 ?_
            refine aw_nil ?_
            refine ⟨[_], rfl, by walk_at "few", ?_⟩
            refine ew_callTy (T.no Z.n_int) bt_int ?_
            refine aw_cons ?_
            refine ew_cmp ?_
            refine ew_ix ?_
            refine ew_call (c_law_due T Z) hr ?_
            refine aw_cons ?_
            refine ew_var 8 ?_
            refine aw_nil ?_
            refine ⟨z, rfl, ⟨by omega, hzs⟩, ?_⟩
            rw [hdue]
            refine ew_int ?_
            refine ix_tpl (d := .str hd) (atI_nat (j := 0) rfl) ?_
            refine ew_str ?_
            refine ob_eqS ?_
            refine aw_nil ?_
            refine cb_intB ?_
            refine ob_rep (by split <;> decide) (by split <;> first | exact (show 1 * 1 ≤ sizeLine by decide) | exact (show 1 * 0 ≤ sizeLine by decide)) ?_
            
            obtain ⟨ts2, ets, hl2, hg2⟩ : ∃ ts2 : List Str, (List.replicate (if decide (hd = Str.ofString "text") = true then (1 : Int) else 0).toNat [Dat.str z]).flatten = ts2.map .str ∧ ts2.length ≤ 1 ∧ ∀ t ∈ ts2, GoodT t := by
              by_cases e : hd = Str.ofString "text"
              · refine ⟨[z], by rw [decide_eq_true e]; rfl, Nat.le_refl _, fun t ht => ?_⟩
                rw [List.mem_singleton.mp ht]
                exact ⟨by omega, hzs, (hgood e).1, (hgood e).2⟩
              · exact ⟨[], by rw [decide_eq_false e]; rfl, Nat.zero_le _, fun t ht => by cases ht⟩
            rw [ets]
            refine mb_extendL hOm5 (by rw [List.length_map, List.length_map, List.length_map]; exact Nat.le_trans (show _ ≤ 20 by omega) (by decide)) ?_
            refine ⟨b5, ts ++ ts2, _, _, _, _, _, _, _, _, _, _, _, rfl, by rw [up_ne npm]; exact hOp5, hb5, by rw [up_at, List.map_append, List.map_append], by rw [List.length_append]; omega, fun t ht => ?_⟩
            rcases List.mem_append.mp ht with ht | ht
            · exact htg t ht
            · exact hg2 t ht
    · intro ρ2 O2 hj
      obtain ⟨b2, ts, s1, s5, s6, s7, s8, s9, s10, s11, s12, s13, s14, rfl, hO2, hb2, hOm, htl, htg⟩ := hj
      rw [rangeD_len] at htl
      have htl : ts.length ≤ 10 := htl
      refine sw_frz 4 (ds := ts.map .str) hOm ?_
      generalize dn O2 m = O5
      refine sw_cons ?_
      have hall : ∀ t ∈ ts ++ [Str.ofString "", Str.ofString "all K"], GoodT t := fun t ht => by
        rcases List.mem_append.mp ht with ht | ht
        · exact htg t ht
        rcases List.mem_cons.mp ht with rfl | ht
        · exact good_empty
        rcases List.mem_cons.mp ht with rfl | ht
        · exact good_all
        · cases ht
      have hlen : (ts ++ [Str.ofString "", Str.ofString "all K"]).length ≤ 12 := by rw [List.length_append]; show ts.length + 2 ≤ 12; omega
      have happ : ts.map Dat.str ++ [.str (Str.ofString ""), .str (Str.ofString "all K")] = (ts ++ [Str.ofString "", Str.ofString "all K"]).map .str := by rw [List.map_append]; rfl
      generalize hgl : ts ++ [Str.ofString "", Str.ofString "all K"] = L at hall hlen happ
      refine s1_setMap1 L (fun t => .str t) (fun t => .tup [.str t, insR c9 (linesS t)]) [("_law_text", 8)] 10 sc.nd (.name (i := 8) (by decide) fun Y ⟨_, _, _, _, _, e⟩ => by subst e; exact pg_name (i := 8) sc.nd rfl (.inl rfl) (.inr rfl)) (blkOk_by (N := N_law) (sc := defScope s_law) (by decide +kernel)) (iw_list (ew_bin (ew_var 4 (ew_lstD (aw_cons (ew_str (aw_cons (ew_str (aw_nil ⟨[_, _], rfl, by walk_at "few", ob_catL (by rw [List.length_map]; exact Nat.le_trans (show ts.length + 2 ≤ 12 by omega) (by decide)) ⟨_, rfl, happ, rfl⟩⟩))))))))) (Nat.le_trans hlen (by decide)) (fun t ht => ⟨_, rfl, fun O' Y hY => ?_⟩) (fun q hq => ?_)
      · obtain ⟨_, _, _, _, _, rfl⟩ := hY
        have hg := hall t ht
        refine ew_tup ?_
        refine aw_cons ?_
        refine ew_var 8 ?_
        refine aw_cons ?_
        refine ew_cmeth (cm_read T Z I.at_) hr ?_
        refine ew_cls (T.is I.at_) ?_
        refine ⟨rfl, ?_⟩
        refine aw_cons ?_
        refine ew_var 8 ?_
        refine aw_nil ?_
        refine ⟨c9, t, rfl, I.at_, Nat.le_trans hg.len (by decide), fun i hi => absurd (hg.bad.symm.trans hi) (fun e => by cases e), fun _ h3 => absurd h3 (by have := hg.few; omega), fun _ _ => ?_⟩
        refine aw_nil ?_
        refine ⟨[_, _], rfl, by walk_at "few", ?_⟩
        exact ⟨rfl, rfl⟩
      refine sw_frz 10 (ds := L.map fun t => .tup [.str t, insR c9 (linesS t)]) (by rw [up_at]) ?_
      rw [dn_up hq]
      refine sw_one ?_
      refine s1_for hpo ?_
      refine iw_list ?_
      refine ew_var 10 ?_
      refine ⟨_, rfl, ?_⟩
      refine ⟨fun i ρ' O' => ∃ s1 s2 s3 s4 s5 s6 s7 s8 s9 s11 s12 s13 s14 : Slot, ρ' = [.dat (.fro (ns.map .int)), s1, s2, s3, s4, s5, s6, s7, s8, s9, .dat (.lst (L.map fun t => .tup [.str t, insR c9 (linesS t)])), s11, s12, s13, s14], ?_, ?_, ?_⟩
      · exact ⟨_, _, _, _, _, _, _, _, _, _, _, _, _, rfl⟩
      · intro i d ρ2 O2 hj hd
        obtain ⟨s1, s2, s3, s4, s5, s6, s7, s8, s9, s11, s12, s13, s14, rfl⟩ := hj
        rw [List.getElem?_map] at hd
        obtain ⟨t, ht0, rfl⟩ := Option.map_eq_some_iff.mp hd
        have htG := hall t (List.mem_of_getElem? ht0)
        refine gw_tup ?_
        refine gsw_cons ?_
        refine gw_name 8 ?_ sc.nd
        refine gsw_cons ?_
        refine gw_name 11 ?_ sc.nd
        refine gsw_nil ?_
        refine sw_cons ?_
        refine s1_for hpo ?_
        refine iw_list ?_
        refine ew_var 10 ?_
        refine ⟨_, rfl, ?_⟩
        refine ⟨fun i ρ' O' => ∃ s1 s2 s3 s4 s5 s6 s7 s9 s12 s13 s14 : Slot, ρ' = [.dat (.fro (ns.map .int)), s1, s2, s3, s4, s5, s6, s7, .dat (.str t), s9, .dat (.lst (L.map fun t => .tup [.str t, insR c9 (linesS t)])), .dat (insR c9 (linesS t)), s12, s13, s14], ?_, ?_, ?_⟩
        · exact ⟨_, _, _, _, _, _, _, _, _, _, _, rfl⟩
        · intro i d ρ2 O2 hj hd
          obtain ⟨s1, s2, s3, s4, s5, s6, s7, s9, s12, s13, s14, rfl⟩ := hj
          rw [List.getElem?_map] at hd
          obtain ⟨u, hu0, rfl⟩ := Option.map_eq_some_iff.mp hd
          have huG := hall u (List.mem_of_getElem? hu0)
          have stG := small_lines (z := t) (Nat.le_trans htG.len (by decide))
          have suG := small_lines (z := u) (Nat.le_trans huG.len (by decide))
          refine gw_tup ?_
          refine gsw_cons ?_
          refine gw_name 12 ?_ sc.nd
          refine gsw_cons ?_
          refine gw_name 13 ?_ sc.nd
          refine gsw_nil ?_
          refine sw_one ?_
          refine s1_if ?_
          refine tw_cmp ?_
          refine ew_lstD ?_
          refine aw_cons ?_
          refine ew_cmp ?_
          refine ew_var 11 ?_
          refine ew_var 13 ?_
          refine ob_ownEq (eqc_Rules T Z I.at_) (hr.r.mono (by decide)) rfl rfl notFirst_self ⟨c9, linesS t, insR c9 (linesS u), rfl, I.at_, stG, .inl ⟨linesS u, rfl, suG, ?_⟩⟩
          refine aw_cons ?_
          refine ew_cmp ?_
          refine ew_var 11 ?_
          refine ew_var 13 ?_
          refine ob_ownNe (eqc_Rules T Z I.at_) (hr.r.mono (by decide)) rfl rfl notFirst_self ⟨c9, linesS t, insR c9 (linesS u), rfl, I.at_, stG, .inl ⟨linesS u, rfl, suG, _, rfl, ?_⟩⟩
          refine aw_nil ?_
          refine ⟨[_, _], rfl, by walk_at "few", ?_⟩
          refine ew_lstD ?_
          refine aw_cons ?_
          refine ew_cmp ?_
          refine ew_var 8 ?_
          refine ew_var 12 ?_
          refine ob_eqS ?_
          refine aw_cons ?_
          refine ew_cmp ?_
          refine ew_var 8 ?_
          refine ew_var 12 ?_
          refine ob_neS ?_
          refine aw_nil ?_
          refine ⟨[_, _], rfl, by walk_at "few", ?_⟩
          
          refine ob_ne (hr.r.mono (by decide)) rfl rfl bools_shaped bools_shaped ?_
          rw [lines_inj htG huG, bools_eq]
          refine ⟨_, rfl, fun ht => ?_, fun ht => ?_⟩
          · cases ht
          · refine sw_nil ?_
            exact ⟨_, _, _, _, _, _, _, _, _, _, _, rfl⟩
        · intro ρ2 O2 hj
          obtain ⟨s1, s2, s3, s4, s5, s6, s7, s9, s12, s13, s14, rfl⟩ := hj
          have stG := small_lines (z := t) (Nat.le_trans htG.len (by decide))
          refine sw_one ?_
          refine s1_if ?_
          refine tw_cmp ?_
          refine ew_map (oddL t) id id (fun _ => false) [("_law_odd", 14)] sc.nd (.name (i := 14) (by decide) fun Y ⟨_, _, _, _, _, e⟩ => by subst e; exact pg_name (i := 14) sc.nd rfl (.inl rfl) (.inr rfl)) (blkOk_by (N := N_law) (sc := defScope s_law) (by decide +kernel)) (iw_tup (ew_tup (aw_cons (ew_non (aw_cons (ew_int (aw_cons (ew_var 8 (aw_cons (ew_tup (aw_cons (ew_var 8 (aw_nil ⟨[_], rfl, by walk_at "few", aw_nil ⟨oddL t, rfl, by walk_at "few", _, rfl, (List.map_id _).symm, rfl⟩⟩))))))))))))) (show 4 ≤ sizeLine by decide) (fun d hdm => ⟨_, rfl, fun O' Y hY => ?_⟩) ?_
          · obtain ⟨_, _, _, _, _, rfl⟩ := hY
            obtain ⟨n, en, hn, hsub, hty⟩ := odd_ok (K := K) (C := c9) (O := O') hdm
            have hkit : PySem.W.kitOne K (.type (tyName d)) (.ref c9) = some false := by rw [en]; exact kit_of_sub (fun e => by cases e) r1 r2 hsub
            refine ⟨tsw_one ?_, fun e => by cases e⟩
            refine tw_w ?_
            refine tww_or ?_
            refine tw_cmp ?_
            refine ew_var 11 ?_
            refine ew_var 14 ?_
            refine ob_ownEq (eqc_Rules T Z I.at_) (hr.r.mono (by decide)) rfl hty (notFirst_of hsub) ⟨c9, linesS t, d, rfl, I.at_, stG, .inr ⟨by rw [en]; exact hn, hkit, ?_⟩⟩
            refine ⟨_, rfl, fun ht => (nomatch ht), fun _ => ?_⟩
            refine tww_or1 ?_
            refine tw_not ?_
            refine tw_cmp ?_
            refine ew_var 11 ?_
            refine ew_var 14 ?_
            refine ob_ownNe (eqc_Rules T Z I.at_) (hr.r.mono (by decide)) rfl hty (notFirst_of hsub) ⟨c9, linesS t, d, rfl, I.at_, stG, .inr ⟨by rw [en]; exact hn, hkit, _, rfl, ?_⟩⟩
            exact ⟨_, rfl, rfl, rfl⟩
          rw [show ((oddL t).filter fun _ => false).map id = [] from by rw [List.filter_eq_nil_iff.mpr (fun _ _ => by decide)]; rfl]
          refine ew_lstD ?_
          refine aw_nil ?_
          refine ⟨[], rfl, by walk_at "few", ?_⟩
          
          refine ob_ne (hr.r.mono (by decide)) rfl rfl shaped_nil shaped_nil ?_
          rw [eqD_nil]
          refine ⟨_, rfl, fun ht => ?_, fun ht => ?_⟩
          · cases ht
          · refine sw_nil ?_
            exact ⟨_, _, _, _, _, _, _, _, _, _, _, _, _, rfl⟩
      · intro ρ2 O2 hj
        obtain ⟨s1, s2, s3, s4, s5, s6, s7, s8, s9, s11, s12, s13, s14, rfl⟩ := hj
        exact ⟨_, _, _, _, _, _, _, _, _, _, _, _, _, _, rfl⟩
  · intro ρ2 O2 hj
    obtain ⟨s1, s2, s3, s4, s5, s6, s7, s8, s9, s10, s11, s12, s13, s14, rfl⟩ := hj
    refine sw_one ?_
    refine s1_ret ?_
    refine ew_bl ?_
    exact h _
theorem c_law (T : TopOf K mg) (Z : Facts K) : Cal P w K mg base true 7 "law" (LawS) [] := cal_of T Z.d_law (by walk_at "b1") fun f fd F => fn_law T Z F
end
end Lw
open PySem PySem.W PyProof.Rows
set_option maxHeartbeats 0 in
theorem PySem.Challenge.cw_keptnomore_k16_rules_read_and_shown_holds : PySem.Challenge.rw_keptnomore_k16_rules_read_and_shown.Holds := by
  w_on; o_law; k_head; (case hw => w_witness2)
  k_fill
  refine Kn.law_walk (l := PySem.Challenge.rw_keptnomore_k16_rules_read_and_shown) (n := 7) (x := "_law_script") (st := Lw.s_law) (Z := Lw.Facts) rfl rfl ⟨rfl, by decide, by decide⟩ rfl (fun w h Y => PySem.W.kIn_of Y) ?Z ?D ?B ?F
  case Z =>
    intro w
    constructor
    · k_is
    · k_is
    · k_is
    · k_is
    · k_is
    · k_is
    · k_is
    · k_is
    · k_is
    · k_is
    · k_is
    · k_is
    · k_is
    · k_is
    · k_is
    · refine' Kn.def_in ?q1_0 ?q1_1 ?q1_2 ?q1_3
      (case q1_0 => k_is)
      (case q1_1 => k_is)
      (case q1_2 => k_is)
      (case q1_3 => k_is)
    · refine' Kn.def_in ?q2_0 ?q2_1 ?q2_2 ?q2_3
      (case q2_0 => k_is)
      (case q2_1 => k_is)
      (case q2_2 => k_is)
      (case q2_3 => k_is)
    · refine' Kn.def_in ?q3_0 ?q3_1 ?q3_2 ?q3_3
      (case q3_0 => k_is)
      (case q3_1 => k_is)
      (case q3_2 => k_is)
      (case q3_3 => k_is)
    · refine' Kn.def_in ?q4_0 ?q4_1 ?q4_2 ?q4_3
      (case q4_0 => k_is)
      (case q4_1 => k_is)
      (case q4_2 => k_is)
      (case q4_3 => k_is)
    · refine' Kn.def_in ?q5_0 ?q5_1 ?q5_2 ?q5_3
      (case q5_0 => k_is)
      (case q5_1 => k_is)
      (case q5_2 => k_is)
      (case q5_3 => k_is)
    · refine' Kn.def_in ?q6_0 ?q6_1 ?q6_2 ?q6_3
      (case q6_0 => k_is)
      (case q6_1 => k_is)
      (case q6_2 => k_is)
      (case q6_3 => k_is)
    · refine' Kn.def_in ?q7_0 ?q7_1 ?q7_2 ?q7_3
      (case q7_0 => k_is)
      (case q7_1 => k_is)
      (case q7_2 => k_is)
      (case q7_3 => k_is)
    · refine' Kn.def_in ?q8_0 ?q8_1 ?q8_2 ?q8_3
      (case q8_0 => k_is)
      (case q8_1 => k_is)
      (case q8_2 => k_is)
      (case q8_3 => k_is)
    · refine' Kn.def_in ?q9_0 ?q9_1 ?q9_2 ?q9_3
      (case q9_0 => k_is)
      (case q9_1 => k_is)
      (case q9_2 => k_is)
      (case q9_3 => k_is)
    · refine' Kn.def_in ?q10_0 ?q10_1 ?q10_2 ?q10_3
      (case q10_0 => k_is)
      (case q10_1 => k_is)
      (case q10_2 => k_is)
      (case q10_3 => k_is)
    · refine' Kn.def_in ?q11_0 ?q11_1 ?q11_2 ?q11_3
      (case q11_0 => k_is)
      (case q11_1 => k_is)
      (case q11_2 => k_is)
      (case q11_3 => k_is)
    · refine' Kn.def_in ?q12_0 ?q12_1 ?q12_2 ?q12_3
      (case q12_0 => k_is)
      (case q12_1 => k_is)
      (case q12_2 => k_is)
      (case q12_3 => k_is)
    · refine' Kn.def_in ?q13_0 ?q13_1 ?q13_2 ?q13_3
      (case q13_0 => k_is)
      (case q13_1 => k_is)
      (case q13_2 => k_is)
      (case q13_3 => k_is)
    · refine' Kn.def_in ?q14_0 ?q14_1 ?q14_2 ?q14_3
      (case q14_0 => k_is)
      (case q14_1 => k_is)
      (case q14_2 => k_is)
      (case q14_3 => k_is)
    · refine' Kn.def_in ?q15_0 ?q15_1 ?q15_2 ?q15_3
      (case q15_0 => k_is)
      (case q15_1 => k_is)
      (case q15_2 => k_is)
      (case q15_3 => k_is)
    · refine' Kn.def_in ?q16_0 ?q16_1 ?q16_2 ?q16_3
      (case q16_0 => k_is)
      (case q16_1 => k_is)
      (case q16_2 => k_is)
      (case q16_3 => k_is)
    · refine' Kn.def_in ?q17_0 ?q17_1 ?q17_2 ?q17_3
      (case q17_0 => k_is)
      (case q17_1 => k_is)
      (case q17_2 => k_is)
      (case q17_3 => k_is)
    · refine' Kn.text_in ?q18_0 ?q18_1
      (case q18_0 => k_is)
      (case q18_1 => decide +kernel)
    · refine' Kn.int_in ?q19_0
      (case q19_0 => k_is)
    · refine' ⟨_, _, ⟨Kn.exc_at ?q20_0 ?q20_1 ?q20_2 ?q20_3 ?q20_4 ?q20_5 ?q20_6 ?q20_7 ?q20_8 ?q20_9 ?q20_10 ?q20_11, ⟨?q20_12, ?q20_13, ?q20_14, ?q20_15⟩, ⟨?q20_16, ?q20_17, ?q20_18, ?q20_19, ?q20_20, ?q20_21, ?q20_22, ?q20_23⟩, ?q20_24, ?q20_25, ?q20_26, ?q20_27, ?q20_28, ⟨?q20_29, ?q20_30⟩, ?q20_31⟩, ?q20_32⟩
      (case q20_0 => k_is)
      (case q20_1 => k_is)
      (case q20_2 => decide +kernel)
      (case q20_3 => k_is)
      (case q20_4 => k_is)
      (case q20_5 => k_is)
      (case q20_6 => k_is)
      (case q20_7 => k_is)
      (case q20_8 => k_is)
      (case q20_9 => k_is)
      (case q20_10 => k_is)
      (case q20_11 => k_is)
      (case q20_12 => k_is)
      (case q20_13 => k_is)
      (case q20_14 => k_is)
      (case q20_15 => k_is)
      (case q20_16 => k_is)
      (case q20_17 => k_is)
      (case q20_18 => k_is)
      (case q20_19 => k_is)
      (case q20_20 => k_is)
      (case q20_21 => first | k_is | kernel_rfl)
      (case q20_22 => first | k_is | kernel_rfl)
      (case q20_23 => k_is)
      (case q20_24 => k_is)
      (case q20_25 => k_is)
      (case q20_26 => k_is)
      (case q20_27 => k_is)
      (case q20_28 => k_is)
      (case q20_29 => k_is)
      (case q20_30 => k_is)
      (case q20_31 => k_is)
      (case q20_32 => k_is)
    · refine' ⟨_, _, ⟨Kn.exc_at ?q21_0 ?q21_1 ?q21_2 ?q21_3 ?q21_4 ?q21_5 ?q21_6 ?q21_7 ?q21_8 ?q21_9 ?q21_10 ?q21_11, ⟨?q21_12, ?q21_13, ?q21_14, ?q21_15⟩, ⟨?q21_16, ?q21_17, ?q21_18, ?q21_19, ?q21_20, ?q21_21, ?q21_22, ?q21_23⟩, ?q21_24, ?q21_25, ?q21_26, ?q21_27, ?q21_28, ⟨?q21_29, ?q21_30⟩, ?q21_31⟩, ?q21_32⟩
      (case q21_0 => k_is)
      (case q21_1 => k_is)
      (case q21_2 => decide +kernel)
      (case q21_3 => k_is)
      (case q21_4 => k_is)
      (case q21_5 => k_is)
      (case q21_6 => k_is)
      (case q21_7 => k_is)
      (case q21_8 => k_is)
      (case q21_9 => k_is)
      (case q21_10 => k_is)
      (case q21_11 => k_is)
      (case q21_12 => k_is)
      (case q21_13 => k_is)
      (case q21_14 => k_is)
      (case q21_15 => k_is)
      (case q21_16 => k_is)
      (case q21_17 => k_is)
      (case q21_18 => k_is)
      (case q21_19 => k_is)
      (case q21_20 => k_is)
      (case q21_21 => first | k_is | kernel_rfl)
      (case q21_22 => first | k_is | kernel_rfl)
      (case q21_23 => k_is)
      (case q21_24 => k_is)
      (case q21_25 => k_is)
      (case q21_26 => k_is)
      (case q21_27 => k_is)
      (case q21_28 => k_is)
      (case q21_29 => k_is)
      (case q21_30 => k_is)
      (case q21_31 => k_is)
      (case q21_32 => k_is)
    · refine' ⟨_, _, ⟨Kn.exc_at ?q22_0 ?q22_1 ?q22_2 ?q22_3 ?q22_4 ?q22_5 ?q22_6 ?q22_7 ?q22_8 ?q22_9 ?q22_10 ?q22_11, ⟨?q22_12, ?q22_13, ?q22_14, ?q22_15⟩, ⟨?q22_16, ?q22_17, ?q22_18, ?q22_19, ?q22_20, ?q22_21, ?q22_22, ?q22_23⟩, ?q22_24, ?q22_25, ?q22_26, ?q22_27, ?q22_28, ⟨?q22_29, ?q22_30⟩, ?q22_31⟩, ?q22_32⟩
      (case q22_0 => k_is)
      (case q22_1 => k_is)
      (case q22_2 => decide +kernel)
      (case q22_3 => k_is)
      (case q22_4 => k_is)
      (case q22_5 => k_is)
      (case q22_6 => k_is)
      (case q22_7 => k_is)
      (case q22_8 => k_is)
      (case q22_9 => k_is)
      (case q22_10 => k_is)
      (case q22_11 => k_is)
      (case q22_12 => k_is)
      (case q22_13 => k_is)
      (case q22_14 => k_is)
      (case q22_15 => k_is)
      (case q22_16 => k_is)
      (case q22_17 => k_is)
      (case q22_18 => k_is)
      (case q22_19 => k_is)
      (case q22_20 => k_is)
      (case q22_21 => first | k_is | kernel_rfl)
      (case q22_22 => first | k_is | kernel_rfl)
      (case q22_23 => k_is)
      (case q22_24 => k_is)
      (case q22_25 => k_is)
      (case q22_26 => k_is)
      (case q22_27 => k_is)
      (case q22_28 => k_is)
      (case q22_29 => k_is)
      (case q22_30 => k_is)
      (case q22_31 => k_is)
      (case q22_32 => k_is)
    · refine' ⟨_, ⟨?q23_0, ⟨⟨?q23_1, ?q23_2, ?q23_3, ?q23_4⟩, ?q23_5, ?q23_6, ?q23_7, ?q23_8, ?q23_9⟩, ?q23_10, ?q23_11, ⟨?q23_12, ?q23_13⟩, ?q23_14⟩, Kn.methD_in ?q23_15 ?q23_16 ?q23_17 ?q23_18 ?q23_19 ?q23_20 ?q23_21, Kn.cmeth_in ?q23_22 ?q23_23 ?q23_24 ?q23_25 ?q23_26 ?q23_27, Kn.meth_in ?q23_28 ?q23_29 ?q23_30 ?q23_31 ?q23_32, Kn.meth_in ?q23_33 ?q23_34 ?q23_35 ?q23_36 ?q23_37, ?q23_38⟩
      (case q23_0 => k_is)
      (case q23_1 => k_is)
      (case q23_2 => k_is)
      (case q23_3 => k_is)
      (case q23_4 => k_is)
      (case q23_5 => k_is)
      (case q23_6 => k_is)
      (case q23_7 => k_is)
      (case q23_8 => k_is)
      (case q23_9 => exact Kn.kit_self)
      (case q23_10 => k_is)
      (case q23_11 => k_is)
      (case q23_12 => k_is)
      (case q23_13 => k_is)
      (case q23_14 => k_is)
      (case q23_15 => k_is)
      (case q23_16 => k_is)
      (case q23_17 => k_is)
      (case q23_18 => k_is)
      (case q23_19 => k_is)
      (case q23_20 => k_is)
      (case q23_21 => first | rfl | (trace_state; rfl))
      (case q23_22 => k_is)
      (case q23_23 => k_is)
      (case q23_24 => k_is)
      (case q23_25 => k_is)
      (case q23_26 => k_is)
      (case q23_27 => k_is)
      (case q23_28 => k_is)
      (case q23_29 => k_is)
      (case q23_30 => k_is)
      (case q23_31 => k_is)
      (case q23_32 => k_is)
      (case q23_33 => k_is)
      (case q23_34 => k_is)
      (case q23_35 => k_is)
      (case q23_36 => k_is)
      (case q23_37 => k_is)
      (case q23_38 => k_is)
    · refine' Kn.sub_in ?q24_0 ?q24_1 ?q24_2
      (case q24_0 => k_is)
      (case q24_1 => k_is)
      (case q24_2 => k_is)
    · refine' Kn.sub_in ?q25_0 ?q25_1 ?q25_2
      (case q25_0 => k_is)
      (case q25_1 => k_is)
      (case q25_2 => k_is)
    · refine' Kn.sub_in ?q26_0 ?q26_1 ?q26_2
      (case q26_0 => k_is)
      (case q26_1 => k_is)
      (case q26_2 => k_is)
    · refine' Kn.subT_in ?q27_0 ?q27_1
      (case q27_0 => k_is)
      (case q27_1 => k_is)
    · refine' Kn.cls_in ?q28_0 ?q28_1 ?q28_2
      (case q28_0 => k_is)
      (case q28_1 => k_is)
      (case q28_2 => k_is)
    · refine' Kn.cls_in ?q29_0 ?q29_1 ?q29_2
      (case q29_0 => k_is)
      (case q29_1 => k_is)
      (case q29_2 => k_is)
    · refine' Kn.cls_in ?q30_0 ?q30_1 ?q30_2
      (case q30_0 => k_is)
      (case q30_1 => k_is)
      (case q30_2 => k_is)
  case D =>
    intro w
    refine' Kn.def_in ?d1 ?d2 ?d3 ?d4
    (case d1 => k_is); (case d2 => k_is); (case d3 => k_is); (case d4 => k_is)
  case B => exact fun _ _ _ _ _ _ us hl => match us, hl with | [_], _ => rfl
  case F => exact fun w mg f fd Z T F base hb => Lw.fn_law T Z F
