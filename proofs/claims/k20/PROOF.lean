import PyProof.Rows.All
import HandS.ForMost
import HandS.ForExc
import HandS.IsInst
import HandS.Flow
import HandS.ExcInit
import HandS.TryMany
import HandS.ExcField
import HandS.ExcIs
import HandS.ClsMeth
import HandS.Slots
import HandS.Defaults
import HandS.FStr
import HandS.RaiseMore
import HandS.StrMore
import HandS.Deep
import HandS.TupAny
import HandS.Codes
import HandS.Wide
import HandS.Ends
import HandS.CallLocal
import HandS.SlotsOwn
import PyProof.RulesMatch
import HandS.Star
import KE.KUnpackStar
import HandS.Style
import HandS.Strs
import KE.KOpsOwn
import HandS.ReplaceLit
import HandS.StrSplit
import HandS.ReplaceList
import KE.KExcIs
import KE.KCallOwn
import HandS.More
import HandS.SetTxt0
import HandS.SetFor
import PySem.Challenge.RW_keptnomore_k20_questions_too_great
set_option Elab.async false
set_option linter.all false
set_option maxRecDepth 100000
set_option maxHeartbeats 4000000
/-! KnA: data, slots, owned cells, the symbolic store and the judgements over it. -/
namespace Kn
open PySem PySem.Spec PyProof.Rows
open L2 hiding St
abbrev SV := L2.St
/-! ### data that never changes -/
inductive Dat where
  | non | bl (b : Bool) | int (i : Int) | str (x : Str)
  | lst (xs : List Dat) | tup (xs : List Dat)
  | ins (C : Addr) (fs : List (Str × Dat))
  | cls (C : Addr) | ty (n : String)
  | exc (a dd : Addr) (fs : List (Str × Dat))
  | fro (xs : List Dat)
  | slo (C : Addr) (ds : List Dat)
  | tre (C : Addr) (d1 : List (Str × Dat)) (g : Str) (es : List Dat) (d2 : List (Str × Dat))
theorem sql_at {K : PySem.W.Frag} {G : Hp} {a : Addr} {xs : List V} (h : G a = some (.lst xs)) : SqL K G a xs := .inl (.inl h)
/-- what a name or a place holds: nothing known, data, or a cell that its holder may still change -/
inductive Slot where
  | unk | dat (d : Dat) | own (p : Addr)
/-- a cell that may still change -/
inductive Cell where
  | lst (xs : List Slot)
  | ins (C dx : Addr) (fs : List (Str × Slot))
  | dK (kvs : List (Key × Slot))
  | exo (C : Addr) (d : Option Addr)
  | exd (fs : List (Str × Slot))
  | slt (C dx : Addr) (fs : List (Option Slot))
  | obj (o : HO)
  | tpl (xs : List Slot)
abbrev Own := Addr → Option Cell
def up (O : Own) (p : Addr) (c : Cell) : Own := fun b => if b = p then some c else O b
def dn (O : Own) (p : Addr) : Own := fun b => if b = p then none else O b
theorem up_at {O : Own} {p : Addr} {c : Cell} : up O p c p = some c := if_pos rfl
theorem up_ne {O : Own} {p q : Addr} {c : Cell} (h : q ≠ p) : up O p c q = O q := if_neg h
theorem dn_at {O : Own} {p : Addr} : dn O p p = none := if_pos rfl
theorem dn_ne {O : Own} {p q : Addr} (h : q ≠ p) : dn O p q = O q := if_neg h
theorem dn_up {O : Own} {p : Addr} {c : Cell} (h : O p = none) : dn (up O p c) p = O := by
  funext b
  by_cases e : b = p
  · subst e; rw [dn_at, h]
  · rw [dn_ne e, up_ne e]
theorem up_up {O : Own} {p : Addr} {c d : Cell} : up (up O p c) p d = up O p d := by
  funext b
  by_cases e : b = p
  · subst e; rw [up_at, up_at]
  · rw [up_ne e, up_ne e, up_ne e]
theorem up_self {O : Own} {p : Addr} {c : Cell} (h : O p = some c) : up O p c = O := by
  funext b
  by_cases e : b = p
  · subst e; rw [up_at, h]
  · rw [up_ne e]
theorem own_ne {O : Own} {p q : Addr} {c : Cell} (hp : O p = some c) (hq : O q = none) : p ≠ q := by
  intro e; rw [e, hq] at hp; cases hp
/-- the heap without the cells -/
def hid (O : Own) (H : Hp) : Hp := fun b => match O b with | some _ => none | none => H b
theorem hid_none {O : Own} {H : Hp} {b : Addr} (h : O b = none) : hid O H b = H b := by
  show (match O b with | some _ => none | none => H b) = _
  rw [h]
theorem hid_some {O : Own} {H : Hp} {b : Addr} {c : Cell} (h : O b = some c) : hid O H b = none := by
  show (match O b with | some _ => none | none => H b) = _
  rw [h]
theorem of_hid {O : Own} {H : Hp} {b : Addr} {o : HO} (h : hid O H b = some o) : O b = none ∧ H b = some o := by
  cases e : O b with
  | none => exact ⟨rfl, (hid_none (H := H) e).symm.trans h⟩
  | some c => rw [hid_some e] at h; cases h
section
variable (K : PySem.W.Frag) (G : Hp)
mutual
inductive Rp : V → Dat → Prop
  | non : Rp .non .non
  | bl (b : Bool) : Rp (.bl b) (.bl b)
  | int (i : Int) : Rp (.int i) (.int i)
  | str (x : Str) : Rp (.str x) (.str x)
  | lst {a : Addr} {xs : List V} {ds : List Dat} : G a = some (.lst xs) → RpA xs ds → Rp (.ref a) (.lst ds)
  | fro {a : Addr} {xs : List V} {ds : List Dat} : SqL K G a xs → RpA xs ds → Rp (.ref a) (.fro ds)
  | tup {a : Addr} {xs : List V} {ds : List Dat} : SqT K G a xs → RpA xs ds → Rp (.ref a) (.tup ds)
  | ins {a C dx : Addr} {fs : List (Str × V)} {ds : List (Str × Dat)} : G a = some (.ins C dx fs) → RpF fs ds → Rp (.ref a) (.ins C ds)
  | cls (C : Addr) : Rp (.ref C) (.cls C)
  | ty (n : String) : Rp (.ty n) (.ty n)
  | exc {a dd : Addr} {fs : List (Str × V)} {ds : List (Str × Dat)} : G dd = some (.xd fs) → RpF fs ds → Rp (.ref a) (.exc a dd ds)
  | slo {a C dx : Addr} {vs : List V} {ds : List Dat} : G a = some (SlX.SlO a C dx (vs.map some)) → G dx = some (.xd []) → dx ≠ a → RpA vs ds → Rp (.ref a) (.slo C ds)
  | tre {a C dx n : Addr} {f1 f2 : List (Str × V)} {us : List V} {d1 d2 : List (Str × Dat)} {g : Str} {es : List Dat} : G a = some (.ins C dx (f1 ++ (g, .ref n) :: f2)) → G n = some (.tup (.ref a :: us)) → RpF f1 d1 → RpF f2 d2 → RpA us es → Rp (.ref a) (.tre C d1 g es d2)
inductive RpA : List V → List Dat → Prop
  | nil : RpA [] []
  | cons {v : V} {vs : List V} {d : Dat} {ds : List Dat} : Rp v d → RpA vs ds → RpA (v :: vs) (d :: ds)
inductive RpF : List (Str × V) → List (Str × Dat) → Prop
  | nil : RpF [] []
  | cons {f : Str} {v : V} {fs : List (Str × V)} {d : Dat} {ds : List (Str × Dat)} : Rp v d → RpF fs ds → RpF ((f, v) :: fs) ((f, d) :: ds)
end
def SlOk (v : V) : Slot → Prop
  | .unk => True
  | .dat d => Rp K G v d
  | .own p => v = .ref p
def FlOk (a : Str × V) (b : Str × Slot) : Prop := a.1 = b.1 ∧ SlOk K G a.2 b.2
def OpOk : Option V → Option Slot → Prop
  | some v, some s => SlOk K G v s
  | none, none => True
  | _, _ => False
def KyOk (a : Key × V) (b : Key × Slot) : Prop := a.1 = b.1 ∧ SlOk K G a.2 b.2
def ClOk (p : Addr) (o : HO) : Cell → Prop
  | .lst ss => ∃ vs, o = .lst vs ∧ Paired (SlOk K G) vs ss
  | .ins C dx ss => ∃ fs, o = .ins C dx fs ∧ Paired (FlOk K G) fs ss
  | .dK ss => ∃ kvs, o = .dK kvs ∧ Paired (KyOk K G) kvs ss
  | .exo C d => o = L2.exo p C d
  | .exd ss => ∃ fs, o = L2.exd p fs ∧ Paired (FlOk K G) fs ss
  | .slt C dx ss => G dx = some (.xd []) ∧ dx ≠ p ∧ ∃ vs, o = SlX.SlO p C dx vs ∧ Paired (OpOk K G) vs ss
  | .obj u => o = u
  | .tpl ss => ∃ vs, o = .tup vs ∧ Paired (SlOk K G) vs ss
end
theorem sql_mono {K : PySem.W.Frag} {G G' : Hp} {a : Addr} {xs : List V} (e : Same G G') : SqL K G a xs → SqL K G' a xs
  | .inl (.inl h) => .inl (.inl (e a _ h))
  | .inl (.inr ⟨o, h⟩) => .inl (.inr ⟨o, e a _ h⟩)
  | .inr h => .inr h
theorem sqt_mono {K : PySem.W.Frag} {G G' : Hp} {a : Addr} {xs : List V} (e : Same G G') : SqT K G a xs → SqT K G' a xs
  | .inl (.inl h) => .inl (.inl (e a _ h))
  | .inl (.inr ⟨o, h⟩) => .inl (.inr ⟨o, e a _ h⟩)
  | .inr h => .inr h
section
variable {K : PySem.W.Frag} {G G' : Hp}
mutual
theorem Rp.mono (e : Same G G') {v : V} : ∀ {d : Dat}, Rp K G v d → Rp K G' v d
  | .non, h => by cases h; exact .non
  | .bl b, h => by cases h; exact .bl b
  | .int i, h => by cases h; exact .int i
  | .str x, h => by cases h; exact .str x
  | .lst ds, h => by
    cases h with
    | lst h1 h2 => exact .lst (e _ _ h1) (RpA.mono e h2)
  | .tup ds, h => by
    cases h with
    | tup h1 h2 => exact .tup (sqt_mono e h1) (RpA.mono e h2)
  | .ins C fs, h => by
    cases h with
    | ins h1 h2 => exact .ins (e _ _ h1) (RpF.mono e h2)
  | .cls C, h => by cases h; exact .cls C
  | .ty n, h => by cases h; exact .ty n
  | .exc a dd fs, h => by
    cases h with
    | exc h1 h2 => exact .exc (e _ _ h1) (RpF.mono e h2)
  | .fro ds, h => by
    cases h with
    | fro h1 h2 => exact .fro (sql_mono e h1) (RpA.mono e h2)
  | .slo C ds, h => by
    cases h with
    | slo h1 h2 h3 h4 => exact .slo (e _ _ h1) (e _ _ h2) h3 (RpA.mono e h4)
  | .tre C d1 g es d2, h => by
    cases h with
    | tre h1 h2 h3 h4 h5 => exact .tre (e _ _ h1) (e _ _ h2) (RpF.mono e h3) (RpF.mono e h4) (RpA.mono e h5)
theorem RpA.mono (e : Same G G') : ∀ {vs : List V} {ds : List Dat}, RpA K G vs ds → RpA K G' vs ds
  | _, [], h => by cases h; exact .nil
  | _, d :: ds, h => by
    cases h with
    | cons h1 h2 => exact .cons (Rp.mono e h1) (RpA.mono e h2)
theorem RpF.mono (e : Same G G') : ∀ {vs : List (Str × V)} {ds : List (Str × Dat)}, RpF K G vs ds → RpF K G' vs ds
  | _, [], h => by cases h; exact .nil
  | _, (f, d) :: ds, h => by
    cases h with
    | cons h1 h2 => exact .cons (Rp.mono e h1) (RpF.mono e h2)
end
theorem SlOk.mono (e : Same G G') {v : V} {s : Slot} (h : SlOk K G v s) : SlOk K G' v s := by
  cases s with
  | unk => trivial
  | dat d => exact Rp.mono e h
  | own p => exact h
theorem pmap {α β : Type} {F F' : α → β → Prop} (e : ∀ a b, F a b → F' a b) : ∀ {xs : List α} {ys : List β}, Paired F xs ys → Paired F' xs ys
  | _, _, .nil => .nil
  | _, _, .cons h t => .cons (e _ _ h) (pmap e t)
theorem OpOk.mono (e : Same G G') {v : Option V} {s : Option Slot} (h : OpOk K G v s) : OpOk K G' v s := by
  cases v with
  | none => cases s with
    | none => trivial
    | some s => exact h.elim
  | some v => cases s with
    | none => exact h.elim
    | some s => exact SlOk.mono e (v := v) h
theorem ClOk.mono (e : Same G G') {p : Addr} {o : HO} {c : Cell} (h : ClOk K G p o c) : ClOk K G' p o c := by
  cases c with
  | lst ss =>
    obtain ⟨vs, h1, h2⟩ := h
    exact ⟨vs, h1, pmap (fun _ _ q => SlOk.mono e q) h2⟩
  | ins C dx ss =>
    obtain ⟨vs, h1, h2⟩ := h
    exact ⟨vs, h1, pmap (fun _ _ q => ⟨q.1, SlOk.mono e q.2⟩) h2⟩
  | dK ss =>
    obtain ⟨vs, h1, h2⟩ := h
    exact ⟨vs, h1, pmap (fun _ _ q => ⟨q.1, SlOk.mono e q.2⟩) h2⟩
  | exo C d => exact h
  | obj u => exact h
  | tpl ss =>
    obtain ⟨vs, h1, h2⟩ := h
    exact ⟨vs, h1, pmap (fun _ _ q => SlOk.mono e q) h2⟩
  | exd ss =>
    obtain ⟨vs, h1, h2⟩ := h
    exact ⟨vs, h1, pmap (fun _ _ q => ⟨q.1, SlOk.mono e q.2⟩) h2⟩
  | slt C dx ss =>
    obtain ⟨h1, h2, vs, h3, h4⟩ := h
    exact ⟨e _ _ h1, h2, vs, h3, pmap (fun _ _ q => OpOk.mono e q) h4⟩
theorem RpA.length {vs : List V} {ds : List Dat} : RpA K G vs ds → vs.length = ds.length
  | .nil => rfl
  | .cons _ t => by rw [List.length_cons, List.length_cons, RpA.length t]
theorem RpA.get : ∀ {vs : List V} {ds : List Dat} {i : Nat} {d : Dat}, RpA K G vs ds → ds[i]? = some d → ∃ v, vs[i]? = some v ∧ Rp K G v d
  | _, _, _, _, .nil, e => by cases e
  | _, _, 0, _, .cons r _, e => by cases e; exact ⟨_, rfl, r⟩
  | _, _, i + 1, d, .cons _ t, e => RpA.get (i := i) t e
theorem RpA.snoc {v : V} {d : Dat} (r : Rp K G v d) : ∀ {vs : List V} {ds : List Dat}, RpA K G vs ds → RpA K G (vs ++ [v]) (ds ++ [d])
  | _, _, .nil => .cons r .nil
  | _, _, .cons h t => .cons h (RpA.snoc r t)
theorem RpA.append : ∀ {vs ws : List V} {ds es : List Dat}, RpA K G vs ds → RpA K G ws es → RpA K G (vs ++ ws) (ds ++ es)
  | _, _, _, _, .nil, h => h
  | _, _, _, _, .cons h t, q => .cons h (RpA.append t q)
theorem RpA.paired : ∀ {vs : List V} {ds : List Dat}, RpA K G vs ds → Paired (SlOk K G) vs (ds.map .dat)
  | _, _, .nil => .nil
  | _, _, .cons h t => .cons h (RpA.paired t)
theorem RpA.of_paired : ∀ {vs : List V} {ds : List Dat}, Paired (SlOk K G) vs (ds.map .dat) → RpA K G vs ds
  | _, [], h => by cases h; exact .nil
  | _, d :: ds, h => by
    cases h with
    | cons h t => exact .cons h (RpA.of_paired t)
theorem RpF.of_paired : ∀ {vs : List (Str × V)} {ds : List (Str × Dat)}, Paired (FlOk K G) vs (ds.map fun p => (p.1, .dat p.2)) → RpF K G vs ds
  | _, [], h => by cases h; exact .nil
  | _, (f, d) :: ds, h => by
    cases h with
    | cons h t =>
      rename_i a _
      obtain ⟨f', v⟩ := a
      obtain ⟨e, r⟩ := h
      cases e
      exact .cons r (RpF.of_paired t)
theorem RpF.lookup {f : Str} {d : Dat} : ∀ {vs : List (Str × V)} {ds : List (Str × Dat)}, RpF K G vs ds → ds.lookup f = some d → ∃ v, vs.lookup f = some v ∧ Rp K G v d
  | _, _, .nil, e => by cases e
  | _, _, .cons (f := g) h t, e => by
    rw [List.lookup_cons] at e ⊢
    split at e
    · rename_i q
      cases e
      exact ⟨_, rfl, h⟩
    · exact RpF.lookup t e
theorem paired_len {α β : Type} {F : α → β → Prop} : ∀ {xs : List α} {ys : List β}, Paired F xs ys → xs.length = ys.length
  | _, _, .nil => rfl
  | _, _, .cons _ t => by rw [List.length_cons, List.length_cons, paired_len t]
theorem paired_get {α β : Type} {F : α → β → Prop} : ∀ {xs : List α} {ys : List β} {i : Nat} {y : β}, Paired F xs ys → ys[i]? = some y → ∃ x, xs[i]? = some x ∧ F x y
  | _, _, _, _, .nil, e => by cases e
  | _, _, 0, _, .cons r _, e => by cases e; exact ⟨_, rfl, r⟩
  | _, _, i + 1, d, .cons _ t, e => paired_get (i := i) t e
theorem paired_set {α β : Type} {F : α → β → Prop} {x : α} {y : β} (r : F x y) : ∀ {xs : List α} {ys : List β} (i : Nat), Paired F xs ys → Paired F (xs.set i x) (ys.set i y)
  | _, _, _, .nil => .nil
  | _, _, 0, .cons _ t => .cons r t
  | _, _, i + 1, .cons h t => .cons h (paired_set r i t)
theorem paired_app {α β : Type} {F : α → β → Prop} : ∀ {xs xs' : List α} {ys ys' : List β}, Paired F xs ys → Paired F xs' ys' → Paired F (xs ++ xs') (ys ++ ys')
  | _, _, _, _, .nil, h => h
  | _, _, _, _, .cons h t, q => .cons h (paired_app t q)
end
/-! ### the symbolic store -/
structure OwnOk (K : PySem.W.Frag) (O : Own) (H : Hp) : Prop where
  cell : ∀ p c, O p = some c → ∃ o, H p = some o ∧ ClOk K (hid O H) p o c
def EnvOk (K : PySem.W.Frag) (G : Hp) (x : Option V) : Slot → Prop
  | .unk => True
  | .dat d => ∃ v, x = some v ∧ Rp K G v d
  | .own p => x = some (.ref p)
structure StOk (K : PySem.W.Frag) (H0 : Hp) (O : Own) (σ : SV) (ρ : List Slot) (H : Hp) : Prop where
  own : OwnOk K O H
  base : Same H0 (hid O H)
  env : Paired (EnvOk K (hid O H)) σ ρ
theorem EnvOk.mono {K : PySem.W.Frag} {G G' : Hp} (e : Same G G') {x : Option V} {s : Slot} (h : EnvOk K G x s) : EnvOk K G' x s := by
  cases s with
  | unk => trivial
  | dat d =>
    obtain ⟨v, q, r⟩ := h
    exact ⟨v, q, Rp.mono e r⟩
  | own p => exact h
section
variable {K : PySem.W.Frag} {H0 H1 H H' : Hp} {O O' : Own} {σ : SV} {ρ : List Slot}
theorem StOk.rebase (h : StOk K H0 O σ ρ H) (e : Same H1 H0) : StOk K H1 O σ ρ H := ⟨h.own, e.trans h.base, h.env⟩
/-- the greatest base -/
theorem StOk.top (h : StOk K H0 O σ ρ H) : StOk K (hid O H) O σ ρ H := ⟨h.own, Same.refl _, h.env⟩
theorem hid_same (e : Same H H') : Same (hid O H) (hid O H') := fun b o h => by
  obtain ⟨h1, h2⟩ := of_hid h
  rw [hid_none h1]
  exact e b o h2
/-- all that was tracked stays -/
theorem StOk.grow (h : StOk K H0 O σ ρ H) (e : Same H H') : StOk K H0 O σ ρ H' := by
  have g : Same (hid O H) (hid O H') := hid_same e
  refine ⟨⟨fun p c hp => ?_⟩, h.base.trans g, pmap (fun _ _ q => EnvOk.mono g q) h.env⟩
  obtain ⟨o, h1, h2⟩ := h.own.cell p c hp
  exact ⟨o, e p o h1, ClOk.mono g h2⟩
theorem StOk.len (h : StOk K H0 O σ ρ H) : σ.length = ρ.length := paired_len h.env
theorem StOk.set {i : Nat} {v : V} {s : Slot} (h : StOk K H0 O σ ρ H) (r : SlOk K (hid O H) v s) : StOk K H0 O (σ.set i (some v)) (ρ.set i s) H := by
  refine ⟨h.own, h.base, paired_set ?_ i h.env⟩
  cases s with
  | unk => trivial
  | dat d => exact ⟨v, rfl, r⟩
  | own p => exact congrArg some r
theorem own_free (h : OwnOk K O H) {p : Addr} (hp : H p = none) : O p = none := by
  cases e : O p with
  | none => rfl
  | some c =>
    obtain ⟨o, h1, _⟩ := h.cell p c e
    rw [hp] at h1; cases h1
/-- a new object, a cell from now on -/
theorem StOk.alloc {p : Addr} {o : HO} {c : Cell} (h : StOk K H0 O σ ρ H) (hp : H p = none) (r : ClOk K (hid O H) p o c) : StOk K H0 (up O p c) σ ρ (upd H p o) := by
  have hO : O p = none := own_free h.own hp
  have g : Same (hid O H) (hid (up O p c) (upd H p o)) := fun b u q => by
    obtain ⟨h1, h2⟩ := of_hid q
    have nb : b ≠ p := ne_of_none h2 hp
    rw [hid_none (by rw [up_ne nb]; exact h1), upd_ne nb]
    exact h2
  refine ⟨⟨fun q d hq => ?_⟩, h.base.trans g, pmap (fun _ _ z => EnvOk.mono g z) h.env⟩
  by_cases e : q = p
  · subst e
    rw [up_at] at hq; cases hq
    exact ⟨o, upd_same, ClOk.mono g r⟩
  · rw [up_ne e] at hq
    obtain ⟨u, h1, h2⟩ := h.own.cell q d hq
    exact ⟨u, by rw [upd_ne e]; exact h1, ClOk.mono g h2⟩
theorem same_new {p : Addr} {o : HO} (h : H p = none) : Same H (upd H p o) := fun b u e => by
  rw [upd_ne (ne_of_none e h)]
  exact e
/-- a cell is written -/
theorem StOk.write {p : Addr} {o : HO} {c c0 : Cell} (h : StOk K H0 O σ ρ H) (hp : O p = some c0) (r : ClOk K (hid O H) p o c) : StOk K H0 (up O p c) σ ρ (upd H p o) := by
  have g : Same (hid O H) (hid (up O p c) (upd H p o)) := fun b u q => by
    obtain ⟨h1, h2⟩ := of_hid q
    have nb : b ≠ p := fun z => by rw [z, hp] at h1; cases h1
    rw [hid_none (by rw [up_ne nb]; exact h1), upd_ne nb]
    exact h2
  refine ⟨⟨fun q d hq => ?_⟩, h.base.trans g, pmap (fun _ _ z => EnvOk.mono g z) h.env⟩
  by_cases e : q = p
  · subst e
    rw [up_at] at hq; cases hq
    exact ⟨o, upd_same, ClOk.mono g r⟩
  · rw [up_ne e] at hq
    obtain ⟨u, h1, h2⟩ := h.own.cell q d hq
    exact ⟨u, by rw [upd_ne e]; exact h1, ClOk.mono g h2⟩
theorem hid_write {p : Addr} {o : HO} {c c0 : Cell} (hp : O p = some c0) : Same (hid O H) (hid (up O p c) (upd H p o)) := fun b u q => by
  obtain ⟨h1, h2⟩ := of_hid q
  have nb : b ≠ p := fun z => by rw [z, hp] at h1; cases h1
  rw [hid_none (by rw [up_ne nb]; exact h1), upd_ne nb]
  exact h2
/-- a cell becomes data -/
theorem hid_dn {p : Addr} : Same (hid O H) (hid (dn O p) H) := fun b o h => by
  obtain ⟨h1, h2⟩ := of_hid h
  by_cases e : b = p
  · subst e
    rw [hid_none dn_at]; exact h2
  · rw [hid_none (by rw [dn_ne e]; exact h1)]; exact h2
theorem OwnOk.freeze {p : Addr} (h : OwnOk K O H) : OwnOk K (dn O p) H := ⟨fun q c hq => by
  by_cases e : q = p
  · subst e; rw [dn_at] at hq; cases hq
  · rw [dn_ne e] at hq
    obtain ⟨o, h1, h2⟩ := h.cell q c hq
    exact ⟨o, h1, ClOk.mono hid_dn h2⟩⟩
theorem StOk.freeze {p : Addr} (h : StOk K H0 O σ ρ H) : StOk K H0 (dn O p) σ ρ H :=
  ⟨h.own.freeze, h.base.trans hid_dn, pmap (fun _ _ q => EnvOk.mono hid_dn q) h.env⟩
/-- the list cell as data -/
theorem OwnOk.lst {p : Addr} {ds : List Dat} (h : OwnOk K O H) (hp : O p = some (.lst (ds.map .dat))) : Rp K (hid (dn O p) H) (.ref p) (.lst ds) := by
  obtain ⟨o, h1, xs, rfl, h2⟩ := h.cell p _ hp
  exact .lst (by rw [hid_none dn_at]; exact h1) (RpA.of_paired (pmap (fun _ _ q => SlOk.mono hid_dn q) h2))
theorem OwnOk.ins {p C dx : Addr} {ds : List (Str × Dat)} (h : OwnOk K O H) (hp : O p = some (.ins C dx (ds.map fun q => (q.1, .dat q.2)))) : Rp K (hid (dn O p) H) (.ref p) (.ins C ds) := by
  obtain ⟨o, h1, fs, rfl, h2⟩ := h.cell p _ hp
  exact .ins (by rw [hid_none dn_at]; exact h1) (RpF.of_paired (pmap (fun _ _ q => ⟨q.1, SlOk.mono hid_dn q.2⟩) h2))
end
/-! ### exceptions -/
inductive Exn where
  | own (C : Addr) (fs : List (Str × Dat))
  | ty (n : String)
abbrev ExK := Exn → List Slot → Own → Prop
def noX : ExK := fun _ _ _ => False
def ExOk (K : PySem.W.Frag) (O : Own) (H : Hp) (cls : Value) (d : Option Addr) : Exn → Prop
  | .own C fs => cls = .ref C ∧ ∃ (dx : Addr) (fv : List (Str × V)), d = some dx ∧ O dx = none ∧ H dx = some (.xd fv) ∧ RpF K (hid O H) fv fs
  | .ty n => cls = .type n
def Wsem (K : PySem.W.Frag) (H0 : Hp) (x : ExK) : WX := fun cls d σ H => ∃ e ρ O, x e ρ O ∧ StOk K H0 O σ ρ H ∧ ExOk K O H cls d e
theorem takes_base {X : Cx} {K : PySem.W.Frag} {H0 H1 : Hp} {x : ExK} (t : Takes X (Wsem K H0 x)) (e : Same H0 H1) : Takes X (Wsem K H1 x) :=
  t.imp fun _ _ _ _ ⟨a, ρ, O, h1, h2, h3⟩ => ⟨a, ρ, O, h1, h2.rebase e, h3⟩
theorem takes_no {X : Cx} {K : PySem.W.Frag} {H0 : Hp} : Takes X (Wsem K H0 noX) := takes0.imp fun _ _ _ _ ⟨_, _, _, h, _⟩ => h
theorem takes_x {X : Cx} {K : PySem.W.Frag} {H0 : Hp} {x y : ExK} (t : Takes X (Wsem K H0 x)) (h : ∀ e ρ O, y e ρ O → x e ρ O) : Takes X (Wsem K H0 y) :=
  t.imp fun _ _ _ _ ⟨a, ρ, O, h1, h2, h3⟩ => ⟨a, ρ, O, h _ _ _ h1, h2, h3⟩
/-! ### the strongest readings -/
/-- a wall: what is behind it is not reduced -/
structure Bx (p : Prop) : Prop where
  r : p
section
variable (X : Cx)
def We (e : Expr) : TE := fun σ H Q => Bx (∀ (pins : List (Addr × Obj)) (s : Shared), Inv X pins σ H s → wpAny (model X.prog X.w) X.A (eval e X.env) (EP X pins σ Q) X.xe s)
def Wt (e : Expr) : TT := fun σ H Q => Bx (∀ (pins : List (Addr × Obj)) (s : Shared), Inv X pins σ H s → wpAny (model X.prog X.w) X.A (isTrue e X.env (eval e X.env)) (TP X pins σ Q) X.xe s)
def Wa (es : List Expr) : TA := fun σ H Q => Bx (∀ (pos : Pos) (pins : List (Addr × Obj)) (s : Shared), Inv X pins σ H s → wpAny (model X.prog X.w) X.A (spliced (backTo pos (starEach es X.env))) (AP X pins σ Q) X.xe s)
def Ws (st : Stmt) : TS := fun D σ H => Bx (∀ (pins : List (Addr × Obj)) (s : Shared), Inv X pins σ H s → wpAny (model X.prog X.w) X.A (exec st X.env) (SP X pins D) X.xe s)
def Wss (st : List Stmt) : TS := fun D σ H => Bx (∀ (pins : List (Addr × Obj)) (s : Shared), Inv X pins σ H s → wpAny (model X.prog X.w) X.A (execs st X.env) (SP X pins D) X.xe s)
end
section
variable {X : Cx}
theorem pe_w {e : Expr} : PE X e (We X e) := ⟨fun pins s σ H Q I h => h.r pins s I⟩
theorem pt_w {e : Expr} : PT X e (Wt X e) := ⟨fun pins s σ H Q I h => h.r pins s I⟩
theorem pa_w {es : List Expr} : PA X es (Wa X es) := ⟨fun pos pins s σ H Q I h => h.r pos pins s I⟩
theorem ps_w {st : Stmt} : PS X st (Ws X st) := ⟨fun pins s σ H D I h => h.r pins s I⟩
theorem pss_w {st : List Stmt} : PSs X st (Wss X st) := ⟨fun pins s σ H D I h => h.r pins s I⟩
theorem we_of {e : Expr} {t : TE} (h : PE X e t) {σ : SV} {H : Hp} {Q : VK} (q : t σ H Q) : We X e σ H Q := ⟨fun pins s I => h.run pins s σ H Q I q⟩
theorem wt_of {e : Expr} {t : TT} (h : PT X e t) {σ : SV} {H : Hp} {Q : Bool → Hp → Prop} (q : t σ H Q) : Wt X e σ H Q := ⟨fun pins s I => h.run pins s σ H Q I q⟩
theorem wa_of {es : List Expr} {t : TA} (h : PA X es t) {σ : SV} {H : Hp} {Q : List V → Hp → Prop} (q : t σ H Q) : Wa X es σ H Q := ⟨fun pos pins s I => h.run pos pins s σ H Q I q⟩
theorem ws_of {st : Stmt} {t : TS} (h : PS X st t) {σ : SV} {H : Hp} {D : Ends} (q : t D σ H) : Ws X st D σ H := ⟨fun pins s I => h.run pins s σ H D I q⟩
theorem wss_of {st : List Stmt} {t : TS} (h : PSs X st t) {σ : SV} {H : Hp} {D : Ends} (q : t D σ H) : Wss X st D σ H := ⟨fun pins s I => h.run pins s σ H D I q⟩
end
/-! ### the judgements: e is evaluated in the store O, the names hold ρ; an exception is handed to x; k is what follows -/
section
variable (X : Cx)
def EW (O : Own) (ρ : List Slot) (e : Expr) (x : ExK) (k : Slot → Own → Prop) : Prop :=
  ∀ H0 σ H, StOk X.K H0 O σ ρ H → Takes X (Wsem X.K H0 x) → ∀ Q : VK, (∀ v H' s O', k s O' → StOk X.K H0 O' σ ρ H' → SlOk X.K (hid O' H') v s → Q v H') → We X e σ H Q
def AW (O : Own) (ρ : List Slot) (es : List Expr) (x : ExK) (k : List Slot → Own → Prop) : Prop :=
  ∀ H0 σ H, StOk X.K H0 O σ ρ H → Takes X (Wsem X.K H0 x) → ∀ Q : List V → Hp → Prop, (∀ vs H' ss O', k ss O' → StOk X.K H0 O' σ ρ H' → Paired (SlOk X.K (hid O' H')) vs ss → Q vs H') → Wa X es σ H Q
def TW (O : Own) (ρ : List Slot) (e : Expr) (x : ExK) (k : Bool → Own → Prop) : Prop :=
  ∀ H0 σ H, StOk X.K H0 O σ ρ H → Takes X (Wsem X.K H0 x) → ∀ Q : Bool → Hp → Prop, (∀ b H' O', k b O' → StOk X.K H0 O' σ ρ H' → Q b H') → Wt X e σ H Q
structure SD where
  nx : List Slot → Own → Prop
  rt : Slot → Own → Prop
  bk : List Slot → Own → Prop := fun _ _ => False
  ct : List Slot → Own → Prop := fun _ _ => False
structure EndsOk (K : PySem.W.Frag) (H0 : Hp) (D : SD) (E : Ends) : Prop where
  nx : ∀ σ ρ O H, D.nx ρ O → StOk K H0 O σ ρ H → E.nx σ H
  rt : ∀ v s O H, D.rt s O → OwnOk K O H → Same H0 (hid O H) → SlOk K (hid O H) v s → E.rt v H
  bk : ∀ σ ρ O H, D.bk ρ O → StOk K H0 O σ ρ H → E.bk σ H
  ct : ∀ σ ρ O H, D.ct ρ O → StOk K H0 O σ ρ H → E.ct σ H
def S1 (O : Own) (ρ : List Slot) (st : Stmt) (x : ExK) (D : SD) : Prop :=
  ∀ H0 σ H, StOk X.K H0 O σ ρ H → Takes X (Wsem X.K H0 x) → ∀ E, EndsOk X.K H0 D E → Ws X st E σ H
def SW (O : Own) (ρ : List Slot) (st : List Stmt) (x : ExK) (D : SD) : Prop :=
  ∀ H0 σ H, StOk X.K H0 O σ ρ H → Takes X (Wsem X.K H0 x) → ∀ E, EndsOk X.K H0 D E → Wss X st E σ H
end
theorem EndsOk.base {K : PySem.W.Frag} {H0 H1 : Hp} {D : SD} {E : Ends} (h : EndsOk K H0 D E) (e : Same H0 H1) : EndsOk K H1 D E :=
  ⟨fun σ ρ O H q s => h.nx σ ρ O H q (s.rebase e), fun v s O H q o b r => h.rt v s O H q o (e.trans b) r, fun σ ρ O H q s => h.bk σ ρ O H q (s.rebase e), fun σ ρ O H q s => h.ct σ ρ O H q (s.rebase e)⟩
end Kn
/-! KnB: the structural rules. -/
namespace Kn
open PySem PySem.Spec PyProof.Rows
open L2 hiding St
def Slot.known : Slot → Bool
  | .unk => false
  | _ => true
section
variable {es : List Expr} {env : Env} {p : Pos}
theorem star_const {c : Const} {j} : starEach ((.Constant c j p) :: es) env = (false, eval (.Constant c j p) env) :: starEach es env := rfl
theorem star_name {n : Str} : starEach ((.Name n p) :: es) env = (false, eval (.Name n p) env) :: starEach es env := rfl
theorem star_call {f : Expr} {as} {kw} : starEach ((.Call f as kw p) :: es) env = (false, eval (.Call f as kw p) env) :: starEach es env := rfl
theorem star_attr {o : Expr} {n} : starEach ((.Attribute o n p) :: es) env = (false, eval (.Attribute o n p) env) :: starEach es env := rfl
theorem star_sub {o i : Expr} : starEach ((.Subscript o i p) :: es) env = (false, eval (.Subscript o i p) env) :: starEach es env := rfl
theorem star_bin {a : Expr} {o} {b : Expr} : starEach ((.BinOp a o b p) :: es) env = (false, eval (.BinOp a o b p) env) :: starEach es env := rfl
theorem star_un {o} {b : Expr} : starEach ((.UnaryOp o b p) :: es) env = (false, eval (.UnaryOp o b p) env) :: starEach es env := rfl
theorem star_cmp {a : Expr} {os} {bs} : starEach ((.Compare a os bs p) :: es) env = (false, eval (.Compare a os bs p) env) :: starEach es env := rfl
theorem star_bool {o} {bs} : starEach ((.BoolOp o bs p) :: es) env = (false, eval (.BoolOp o bs p) env) :: starEach es env := rfl
theorem star_if {a b c : Expr} : starEach ((.IfExp a b c p) :: es) env = (false, eval (.IfExp a b c p) env) :: starEach es env := rfl
theorem star_list {xs} : starEach ((.List xs p) :: es) env = (false, eval (.List xs p) env) :: starEach es env := rfl
theorem star_tup {xs} {j} : starEach ((.Tuple xs j p) :: es) env = (false, eval (.Tuple xs j p) env) :: starEach es env := rfl
theorem star_comp {e : Expr} {gs} {sc} : starEach ((.ListComp e gs sc p) :: es) env = (false, eval (.ListComp e gs sc p) env) :: starEach es env := rfl
theorem star_join {xs} : starEach ((.JoinedStr xs p) :: es) env = (false, eval (.JoinedStr xs p) env) :: starEach es env := rfl
end
section
variable {X : Cx} {O : Own} {ρ : List Slot} {x : ExK} {k k' : Slot → Own → Prop} {kl kl' : List Slot → Own → Prop} {kt kt' : Bool → Own → Prop} {e a b c : Expr} {es : List Expr} {pos : Pos} {D : SD}
theorem EW.mono (h : EW X O ρ e x k) (m : ∀ s O', k s O' → k' s O') : EW X O ρ e x k' := fun H0 σ H st tk Q q =>
  h H0 σ H st tk Q fun v H' s O' ks s' r => q v H' s O' (m _ _ ks) s' r
theorem TW.mono (h : TW X O ρ e x kt) (m : ∀ s O', kt s O' → kt' s O') : TW X O ρ e x kt' := fun H0 σ H st tk Q q =>
  h H0 σ H st tk Q fun v H' O' ks s' => q v H' O' (m _ _ ks) s'
theorem AW.mono (h : AW X O ρ es x kl) (m : ∀ s O', kl s O' → kl' s O') : AW X O ρ es x kl' := fun H0 σ H st tk Q q =>
  h H0 σ H st tk Q fun v H' s O' ks s' r => q v H' s O' (m _ _ ks) s' r
theorem EW.exc {y : ExK} (h : EW X O ρ e y k) (m : ∀ e ρ O, y e ρ O → x e ρ O) : EW X O ρ e x k := fun H0 σ H st tk Q q => h H0 σ H st (takes_x tk m) Q q
theorem known_env {K : PySem.W.Frag} {G : Hp} {s : Slot} (h : s.known = true) {o : Option V} (e : EnvOk K G o s) : ∃ v, o = some v ∧ SlOk K G v s := by
  cases s with
  | unk => cases h
  | dat d => exact e
  | own p => exact ⟨_, e, rfl⟩
/-! ### names and constants -/
theorem ew_var (i : Nat) {nm : Str} {s : Slot} (h : k s O) (hρ : ρ[i]? = some s := by rfl) (hk : s.known = true := by rfl) (hN : X.N[i]? = some nm := by rfl)
    (hv : Vis X.env.scope nm := by first | exact Or.inl rfl | exact Or.inr (Or.inl rfl) | exact Or.inr (Or.inr rfl)) (hd : (nm == ("__debug__" : Str)) = false := by decide)
    (hcd : (nm == ("__classdict__" : Str)) = false := by decide) : EW X O ρ (.Name nm pos) x k := fun H0 σ H st tk Q q => by
  obtain ⟨o, h1, h2⟩ := paired_get st.env hρ
  obtain ⟨v, h3, h4⟩ := known_env hk h2
  exact we_of (pe_var (i := i) hN hv hd hcd) ⟨v, by rw [h1, h3], q v H s O h st h4⟩
theorem ew_int {i : Int} {j} (h : k (.dat (.int i)) O) : EW X O ρ (.Constant (.int i) j pos) x k := fun H0 σ H st tk Q q => we_of pe_int (q _ H _ O h st (.int i))
theorem ew_bl {i : Bool} {j} (h : k (.dat (.bl i)) O) : EW X O ρ (.Constant (.bool i) j pos) x k := fun H0 σ H st tk Q q => we_of pe_bl (q _ H _ O h st (.bl i))
theorem ew_non {j} (h : k (.dat .non) O) : EW X O ρ (.Constant .none j pos) x k := fun H0 σ H st tk Q q => we_of pe_non (q _ H _ O h st .non)
theorem ew_str {z : Str} {j} (h : k (.dat (.str z)) O) : EW X O ρ (.Constant (.str z) j pos) x k := fun H0 σ H st tk Q q => we_of pe_str (q _ H _ O h st (.str z))
/-- a module's name that holds data -/
def GlobD (K : PySem.W.Frag) (mg : Str → Option Value) (nm : Str) (d : Dat) : Prop := ∃ v u, mg nm = some u ∧ RelV v u ∧ ∀ G, Rp K G v d
theorem ew_glob {nm : Str} {d : Dat} (g : GlobD X.K X.mg nm d) (h : k (.dat d) O) (hg : Gl X nm := by rfl) (hd : (nm == ("__debug__" : Str)) = false := by decide) : EW X O ρ (.Name nm pos) x k := fun H0 σ H st tk Q q => by
  obtain ⟨v, u, hm, r, hr⟩ := g
  exact we_of (pe_glob hg hm r hd) (q v H _ O h st (hr _))
/-! ### arguments, displays -/
theorem aw_nil (h : kl [] O) : AW X O ρ [] x kl := fun H0 σ H st tk Q q => wa_of pa_nil (q [] H [] O h st .nil)
theorem aw_cons (h : EW X O ρ a x fun s O1 => AW X O1 ρ es x fun ss O2 => kl (s :: ss) O2) (hs : starEach (a :: es) X.env = (false, eval a X.env) :: starEach es X.env := by first | exact star_const | exact star_name | exact star_call | exact star_attr | exact star_sub | exact star_bin | exact star_un | exact star_cmp | exact star_bool | exact star_if | exact star_list | exact star_tup | exact star_comp | exact star_join | rfl) : AW X O ρ (a :: es) x kl := fun H0 σ H st tk Q q =>
  wa_of (pa_cons pe_w pa_w hs) (h H0 σ H st tk _ fun v H1 s O1 h1 st1 r1 =>
    h1 (hid O1 H1) σ H1 st1.top (takes_base tk st1.base) _ fun vs H2 ss O2 h2 st2 r2 => q (v :: vs) H2 (s :: ss) O2 h2 (st2.rebase st1.base) (.cons (SlOk.mono st2.base r1) r2))
/-! ### operators by what they are given -/
def R1D (K : PySem.W.Frag) (r : V → Hp → VK → Prop) (s1 : Slot) (O : Own) (k : Slot → Own → Prop) : Prop :=
  ∀ H0 σ ρ H v1, StOk K H0 O σ ρ H → SlOk K (hid O H) v1 s1 → ∀ Q : VK, (∀ v H' s O', k s O' → StOk K H0 O' σ ρ H' → SlOk K (hid O' H') v s → Q v H') → r v1 H Q
def R2D (K : PySem.W.Frag) (r : R2) (s1 s2 : Slot) (O : Own) (k : Slot → Own → Prop) : Prop :=
  ∀ H0 σ ρ H v1 v2, StOk K H0 O σ ρ H → SlOk K (hid O H) v1 s1 → SlOk K (hid O H) v2 s2 → ∀ Q : VK, (∀ v H' s O', k s O' → StOk K H0 O' σ ρ H' → SlOk K (hid O' H') v s → Q v H') → r v1 v2 H Q
def RlD (K : PySem.W.Frag) (r : List V → Hp → VK → Prop) (ss : List Slot) (O : Own) (k : Slot → Own → Prop) : Prop :=
  ∀ H0 σ ρ H vs, StOk K H0 O σ ρ H → Paired (SlOk K (hid O H)) vs ss → ∀ Q : VK, (∀ v H' s O', k s O' → StOk K H0 O' σ ρ H' → SlOk K (hid O' H') v s → Q v H') → r vs H Q
def OpB (X : Cx) (f : Value → Value → Sem Value) (s1 s2 : Slot) (O : Own) (k : Slot → Own → Prop) : Prop := ∃ r, OpR X f r ∧ R2D X.K r s1 s2 O k
def OpU (X : Cx) (f : Value → Sem Value) (s1 : Slot) (O : Own) (k : Slot → Own → Prop) : Prop := ∃ r, UnR X f r ∧ R1D X.K r s1 O k
def IxB (X : Cx) (s1 s2 : Slot) (O : Own) (k : Slot → Own → Prop) : Prop := ∃ r, IxR X r ∧ R2D X.K r s1 s2 O k
def CaB (X : Cx) (f : Value) (ss : List Slot) (O : Own) (k : Slot → Own → Prop) : Prop := ∃ r, CallR X f r ∧ RlD X.K r ss O k
theorem two {P : Slot → Slot → Own → Prop} (h : EW X O ρ a x fun s1 O1 => EW X O1 ρ b x fun s2 O2 => P s1 s2 O2) {H0 : Hp} {σ : SV} {H : Hp} (st : StOk X.K H0 O σ ρ H) (tk : Takes X (Wsem X.K H0 x))
    {Q : V → V → Hp → Prop} (q : ∀ v1 v2 s1 s2 O2 H2, P s1 s2 O2 → StOk X.K H0 O2 σ ρ H2 → SlOk X.K (hid O2 H2) v1 s1 → SlOk X.K (hid O2 H2) v2 s2 → Q v1 v2 H2) :
    We X a σ H fun v1 H1 => We X b σ H1 fun v2 H2 => Q v1 v2 H2 :=
  h H0 σ H st tk _ fun v1 H1 s1 O1 h1 st1 r1 => h1 (hid O1 H1) σ H1 st1.top (takes_base tk st1.base) _ fun v2 H2 s2 O2 h2 st2 r2 =>
    q v1 v2 s1 s2 O2 H2 h2 (st2.rebase st1.base) (SlOk.mono st2.base r1) r2
theorem ew_bin {op : Operator} (h : EW X O ρ a x fun s1 O1 => EW X O1 ρ b x fun s2 O2 => OpB X (binaryOp op) s1 s2 O2 k) : EW X O ρ (.BinOp a op b pos) x k := fun H0 σ H st tk Q q => by
  refine ⟨fun pins s I => ?_⟩
  refine wpAny_BinOp (bin pe_w pe_w I (two h st tk (Q := fun v1 v2 H2 => ∃ r, OpR X (binaryOp op) r ∧ r v1 v2 H2 Q) fun v1 v2 s1 s2 O2 H2 hp st2 r1 r2 => ?_) fun v u s2 z y H2 I2 rx ry hq => ?_)
  · obtain ⟨r, ho, hr⟩ := hp
    exact ⟨r, ho, hr H0 σ ρ H2 v1 v2 st2 r1 r2 Q q⟩
  · obtain ⟨r, ho, hr⟩ := hq
    exact ho pins s2 σ H2 z y v u Q I2 rx ry hr
theorem ew_cmp {op : CmpOp} (h : EW X O ρ a x fun s1 O1 => EW X O1 ρ b x fun s2 O2 => OpB X (compareOp op) s1 s2 O2 k) (hm : behindInMarks op b = false := by first | exact nomark _ | rfl) : EW X O ρ (.Compare a [op] [b] pos) x k := fun H0 σ H st tk Q q => by
  have main : OpR X (compareOp op) (fun v1 v2 H2 Q => ∃ r, OpR X (compareOp op) r ∧ r v1 v2 H2 Q) := fun pins s σ H x y v u Q I rx ry ⟨r, ho, hr⟩ => ho pins s σ H x y v u Q I rx ry hr
  refine we_of (pe_cmpR main pe_w pe_w hm) (two h st tk (Q := fun v1 v2 H2 => ∃ r, OpR X (compareOp op) r ∧ r v1 v2 H2 Q) fun v1 v2 s1 s2 O2 H2 hp st2 r1 r2 => ?_)
  obtain ⟨r, ho, hr⟩ := hp
  exact ⟨r, ho, hr H0 σ ρ H2 v1 v2 st2 r1 r2 Q q⟩
theorem ew_un {op : UnaryOp} (h : EW X O ρ a x fun s1 O1 => OpU X (unaryOp op) s1 O1 k) : EW X O ρ (.UnaryOp op a pos) x k := fun H0 σ H st tk Q q => by
  have main : UnR X (unaryOp op) (fun v1 H2 Q => ∃ r, UnR X (unaryOp op) r ∧ r v1 H2 Q) := fun pins s σ H y v Q I rx ⟨r, ho, hr⟩ => ho pins s σ H y v Q I rx hr
  refine we_of (pe_un main pe_w) (h H0 σ H st tk _ fun v H1 s O1 hp st1 r1 => ?_)
  obtain ⟨r, ho, hr⟩ := hp
  exact ⟨r, ho, hr H0 σ ρ H1 v st1 r1 Q q⟩
theorem ew_ix (h : EW X O ρ a x fun s1 O1 => EW X O1 ρ b x fun s2 O2 => IxB X s1 s2 O2 k) (hs : PlainIx b := by intro _ _; rfl) : EW X O ρ (.Subscript a b pos) x k := fun H0 σ H st tk Q q => by
  have main : IxR X (fun v1 v2 H2 Q => ∃ r, IxR X r ∧ r v1 v2 H2 Q) := fun value slice pins s σ H z y v u Q I rx ry ⟨r, ho, hr⟩ hs => ho value slice pins s σ H z y v u Q I rx ry hr hs
  refine we_of (pe_ix main pe_w pe_w hs) (two h st tk (Q := fun v1 v2 H2 => ∃ r, IxR X r ∧ r v1 v2 H2 Q) fun v1 v2 s1 s2 O2 H2 hp st2 r1 r2 => ?_)
  obtain ⟨r, ho, hr⟩ := hp
  exact ⟨r, ho, hr H0 σ ρ H2 v1 v2 st2 r1 r2 Q q⟩
/-- a built-in function, a built-in class, called -/
theorem ew_callB {nm : Str} {id : String} {p : Pos} (hm : X.mg nm = none) (hv : bootBuiltins nm = some (.builtin id)) (h : AW X O ρ (e :: es) x fun ss O1 => CaB X (.builtin id) ss O1 k) (hg : Gl X nm := by rfl)
    (hn : nm ≠ "__name__" := by decide) (hd : (nm == ("__debug__" : Str)) = false := by decide) (hs : starEach (e :: es) X.env = (false, eval e X.env) :: starEach es X.env := by rfl) (hpl : (backTo pos (starEach es X.env)).any (·.1) = false := by rfl) :
    EW X O ρ (.Call (.Name nm p) (e :: es) [] pos) x k := fun H0 σ H st tk Q q => by
  have main : CallR X (.builtin id) (fun vs H2 Q => ∃ r, CallR X (.builtin id) r ∧ r vs H2 Q) := fun pins s σ H xs us Q I rx ⟨r, ho, hr⟩ => ho pins s σ H xs us Q I rx hr
  refine we_of (pe_callB main hg hm hv pa_w (hn := hn) (hdb := hd) (he := hs) (hpl := hpl)) (h H0 σ H st tk _ fun vs H1 ss O1 hp st1 r1 => ?_)
  obtain ⟨r, ho, hr⟩ := hp
  exact ⟨r, ho, hr H0 σ ρ H1 vs st1 r1 Q q⟩
theorem ew_callTy {nm : Str} {id : String} {p : Pos} (hm : X.mg nm = none) (hv : bootBuiltins nm = some (.type id)) (h : AW X O ρ (e :: es) x fun ss O1 => CaB X (.type id) ss O1 k) (hg : Gl X nm := by rfl)
    (hn : nm ≠ "__name__" := by decide) (hd : (nm == ("__debug__" : Str)) = false := by decide) (hs : starEach (e :: es) X.env = (false, eval e X.env) :: starEach es X.env := by rfl) (hpl : (backTo pos (starEach es X.env)).any (·.1) = false := by rfl) :
    EW X O ρ (.Call (.Name nm p) (e :: es) [] pos) x k := fun H0 σ H st tk Q q => by
  have main : CallR X (.type id) (fun vs H2 Q => ∃ r, CallR X (.type id) r ∧ r vs H2 Q) := fun pins s σ H xs us Q I rx ⟨r, ho, hr⟩ => ho pins s σ H xs us Q I rx hr
  refine we_of (pe_callTy main hg hm hv pa_w (hn := hn) (hdb := hd) (he := hs) (hpl := hpl)) (h H0 σ H st tk _ fun vs H1 ss O1 hp st1 r1 => ?_)
  obtain ⟨r, ho, hr⟩ := hp
  exact ⟨r, ho, hr H0 σ ρ H1 vs st1 r1 Q q⟩
/-! ### tests -/
theorem tw_val (h : EW X O ρ e x fun s O1 => ∃ t, s = .dat (.bl t) ∧ kt t O1) (he : ∀ whole, isTrue e X.env whole = (do let v ← whole; standAt e.pos; holding [v] (truthy v)) := by intro _; rfl) : TW X O ρ e x kt := fun H0 σ H st tk Q q =>
  wt_of (pt_val pe_w he) (h H0 σ H st tk _ fun v H1 s O1 ⟨t, e1, h1⟩ st1 r1 => by
    subst e1
    cases r1
    exact ⟨t, rfl, q t H1 O1 h1 st1⟩)
theorem tw_cmp {op : CmpOp} (h : EW X O ρ a x fun s1 O1 => EW X O1 ρ b x fun s2 O2 => OpB X (compareOp op) s1 s2 O2 fun s O3 => ∃ t, s = .dat (.bl t) ∧ kt t O3) (hm : behindInMarks op b = false := by first | exact nomark _ | rfl) : TW X O ρ (.Compare a [op] [b] pos) x kt := fun H0 σ H st tk Q q => by
  have main : OpR X (compareOp op) (fun v1 v2 H2 Q => ∃ r, OpR X (compareOp op) r ∧ r v1 v2 H2 Q) := fun pins s σ H x y v u Q I rx ry ⟨r, ho, hr⟩ => ho pins s σ H x y v u Q I rx ry hr
  refine wt_of (pt_cmpR main pe_w pe_w hm) (two h st tk (Q := fun v1 v2 H2 => ∃ r, OpR X (compareOp op) r ∧ r v1 v2 H2 fun z H3 => ∃ k, z = .bl k ∧ Q k H3) fun v1 v2 s1 s2 O2 H2 hp st2 r1 r2 => ?_)
  obtain ⟨r, ho, hr⟩ := hp
  exact ⟨r, ho, hr H0 σ ρ H2 v1 v2 st2 r1 r2 _ fun z H3 s O3 ⟨t, e1, h1⟩ st3 r3 => by
    subst e1
    cases r3
    exact ⟨t, rfl, q t H3 O3 h1 st3⟩⟩
theorem tw_not (h : TW X O ρ a x fun t O1 => kt (!t) O1) : TW X O ρ (.UnaryOp .Not a pos) x kt := fun H0 σ H st tk Q q =>
  wt_of (pt_not pt_w) (h H0 σ H st tk _ fun t H1 O1 h1 st1 => q (!t) H1 O1 h1 st1)
/-- truth of what is no bool -/
def TrD (s : Slot) (O : Own) (kt : Bool → Own → Prop) : Prop := match s with
  | .dat .non => kt false O
  | .dat (.bl t) => kt t O
  | .dat (.int i) => kt (i != 0) O
  | .dat (.str z) => z.length ≤ sizeLine ∧ kt (z.length != 0) O
  | .dat (.lst ds) => kt (!ds.isEmpty) O
  | .dat (.tup ds) => kt (!ds.isEmpty) O
  | .own p => match O p with
    | some (.lst ss) => kt (!ss.isEmpty) O
    | some (.dK ss) => kt (!ss.isEmpty) O
    | _ => False
  | _ => False
theorem isEmpty_rp {K : PySem.W.Frag} {G : Hp} {vs : List V} {ds : List Dat} (h : RpA K G vs ds) : vs.isEmpty = ds.isEmpty := by cases h <;> rfl
theorem isEmpty_pd {α β : Type} {F : α → β → Prop} {vs : List α} {ds : List β} (h : Paired F vs ds) : vs.isEmpty = ds.isEmpty := by cases h <;> rfl
theorem tw_truth (h : EW X O ρ e x fun s O1 => TrD s O1 kt) (he : ∀ whole, isTrue e X.env whole = (do let v ← whole; standAt e.pos; holding [v] (truthy v)) := by intro _; rfl) : TW X O ρ e x kt := fun H0 σ H st tk Q q => by
  refine wt_of (pt_truth pe_w he) (h H0 σ H st tk _ fun v H1 s O1 h1 st1 r1 => ?_)
  cases s with
  | unk => exact h1.elim
  | dat d =>
    cases d with
    | non => cases r1; exact ⟨false, rfl, q _ H1 O1 h1 st1⟩
    | bl t => cases r1; exact ⟨t, rfl, q _ H1 O1 h1 st1⟩
    | int i => cases r1; exact ⟨_, rfl, q _ H1 O1 h1 st1⟩
    | str z =>
      cases r1
      refine ⟨_, ⟨h1.1, rfl⟩, q _ H1 O1 ?_ st1⟩
      have e1 : ((z.length : Int) != 0) = (z.length != 0) := by
        cases hz : z.length with
        | zero => rfl
        | succ n => rfl
      rw [e1]
      exact h1.2
    | lst ds =>
      cases r1 with
      | lst h2 h3 => exact ⟨_, .inl ⟨_, sql_at ((of_hid h2).2), rfl⟩, q _ H1 O1 (by rw [isEmpty_rp h3]; exact h1) st1⟩
    | tup ds =>
      cases r1 with
      | tup h2 h3 => exact ⟨_, .inr (.inl ⟨_, sqt_mono (fun b o hb => (of_hid hb).2) h2, rfl⟩), q _ H1 O1 (by rw [isEmpty_rp h3]; exact h1) st1⟩
    | ins C fs => exact h1.elim
    | cls C => exact h1.elim
    | ty n => exact h1.elim
    | exc a dd fs => exact h1.elim
    | fro ds => exact h1.elim
    | slo C ds => exact h1.elim
    | tre C d1 g es d2 => exact h1.elim
  | own p =>
    have r1 : v = .ref p := r1
    subst r1
    have h1 : match O1 p with
      | some (.lst ss) => kt (!ss.isEmpty) O1
      | some (.dK ss) => kt (!ss.isEmpty) O1
      | _ => False := h1
    cases hc : O1 p with
    | none => rw [hc] at h1; exact h1.elim
    | some cl =>
      rw [hc] at h1
      obtain ⟨o, h2, h3⟩ := st1.own.cell p cl hc
      cases cl with
      | lst ss =>
        obtain ⟨vs, rfl, h3⟩ := h3
        exact ⟨_, .inl ⟨_, .inl (.inl h2), rfl⟩, q _ H1 O1 (by rw [isEmpty_pd h3]; exact h1) st1⟩
      | ins C dx fs => exact h1.elim
      | exo C d => exact h1.elim
      | exd ss => exact h1.elim
      | slt C dx ss => exact h1.elim
      | obj u => exact h1.elim
      | tpl ss => exact h1.elim
      | dK ss =>
        obtain ⟨vs, rfl, h3⟩ := h3
        exact ⟨_, .inr (.inr ⟨_, h2, rfl⟩), q _ H1 O1 (by rw [isEmpty_pd h3]; exact h1) st1⟩
/-- and, or as tests, whatever their whole is -/
def TWw (X : Cx) (O : Own) (ρ : List Slot) (e : Expr) (x : ExK) (kt : Bool → Own → Prop) : Prop :=
  ∀ H0 σ H, StOk X.K H0 O σ ρ H → Takes X (Wsem X.K H0 x) → ∀ Q : Bool → Hp → Prop, (∀ b H' O', kt b O' → StOk X.K H0 O' σ ρ H' → Q b H') → Bx (∀ (whole : Sem Value) (pins : List (Addr × Obj)) (s : Shared), Inv X pins σ H s →
    wpAny (model X.prog X.w) X.A (isTrue e X.env whole) (TP X pins σ Q) X.xe s)
theorem tw_w (h : TWw X O ρ e x kt) : TW X O ρ e x kt := fun H0 σ H st tk Q q => ⟨fun pins s I => (h H0 σ H st tk Q q).r _ pins s I⟩
def Wp (X : Cx) (e : Expr) : TT := fun σ H Q => Bx (∀ (whole : Sem Value) (pins : List (Addr × Obj)) (s : Shared), Inv X pins σ H s → wpAny (model X.prog X.w) X.A (isTrue e X.env whole) (TP X pins σ Q) X.xe s)
theorem pw_w : PW X e (Wp X e) := ⟨fun wh pins s σ H Q I h => h.r wh pins s I⟩
theorem wp_of {t : TT} (h : PW X e t) {σ : SV} {H : Hp} {Q : Bool → Hp → Prop} (q : t σ H Q) : Wp X e σ H Q := ⟨fun wh pins s I => h.run wh pins s σ H Q I q⟩
theorem tww_and1 (h : TW X O ρ a x kt) : TWw X O ρ (.BoolOp .And [a] pos) x kt := fun H0 σ H st tk Q q => wp_of (pw_and1 pt_w) (h H0 σ H st tk Q q)
theorem tww_or1 (h : TW X O ρ a x kt) : TWw X O ρ (.BoolOp .Or [a] pos) x kt := fun H0 σ H st tk Q q => wp_of (pw_or1 pt_w) (h H0 σ H st tk Q q)
theorem tww_and (h : TW X O ρ a x fun t O1 => (t = true → TWw X O1 ρ (.BoolOp .And (b :: es) pos) x kt) ∧ (t = false → kt false O1)) : TWw X O ρ (.BoolOp .And (a :: b :: es) pos) x kt := fun H0 σ H st tk Q q =>
  wp_of (pw_and pt_w pw_w) (h H0 σ H st tk _ fun t H1 O1 h1 st1 => by
    cases t with
    | true => exact (h1.1 rfl) H0 σ H1 st1 tk Q q
    | false => exact q false H1 O1 (h1.2 rfl) st1)
theorem tww_or (h : TW X O ρ a x fun t O1 => (t = true → kt true O1) ∧ (t = false → TWw X O1 ρ (.BoolOp .Or (b :: es) pos) x kt)) : TWw X O ρ (.BoolOp .Or (a :: b :: es) pos) x kt := fun H0 σ H st tk Q q =>
  wp_of (pw_or pt_w pw_w) (h H0 σ H st tk _ fun t H1 O1 h1 st1 => by
    cases t with
    | true => exact q true H1 O1 (h1.1 rfl) st1
    | false => exact (h1.2 rfl) H0 σ H1 st1 tk Q q)
/-! and, or, not as values of bools -/
theorem ew_one {op : BoolOp} (h : EW X O ρ a x k) : EW X O ρ (.BoolOp op [a] pos) x k := fun H0 σ H st tk Q q => we_of (pe_one pe_w) (h H0 σ H st tk Q q)
theorem ew_and (h : EW X O ρ a x fun s O1 => ∃ t, s = .dat (.bl t) ∧ (t = true → EW X O1 ρ (.BoolOp .And (b :: es) pos) x k) ∧ (t = false → k (.dat (.bl false)) O1)) : EW X O ρ (.BoolOp .And (a :: b :: es) pos) x k := fun H0 σ H st tk Q q =>
  we_of (pe_and pe_w pe_w) (h H0 σ H st tk _ fun v H1 s O1 ⟨t, e1, h1, h2⟩ st1 r1 => by
    subst e1
    cases r1
    refine ⟨t, rfl, ?_⟩
    cases t with
    | true => exact iteT ((h1 rfl) H0 σ H1 st1 tk Q q)
    | false => exact iteF (q _ H1 _ O1 (h2 rfl) st1 (.bl false)))
theorem ew_or (h : EW X O ρ a x fun s O1 => ∃ t, s = .dat (.bl t) ∧ (t = true → k (.dat (.bl true)) O1) ∧ (t = false → EW X O1 ρ (.BoolOp .Or (b :: es) pos) x k)) : EW X O ρ (.BoolOp .Or (a :: b :: es) pos) x k := fun H0 σ H st tk Q q =>
  we_of (pe_or pe_w pe_w) (h H0 σ H st tk _ fun v H1 s O1 ⟨t, e1, h1, h2⟩ st1 r1 => by
    subst e1
    cases r1
    refine ⟨t, rfl, ?_⟩
    cases t with
    | true => exact iteT (q _ H1 _ O1 (h1 rfl) st1 (.bl true))
    | false => exact iteF ((h2 rfl) H0 σ H1 st1 tk Q q))
theorem ew_notv (h : EW X O ρ a x fun s O1 => ∃ t, s = .dat (.bl t) ∧ k (.dat (.bl (!t))) O1) : EW X O ρ (.UnaryOp .Not a pos) x k := fun H0 σ H st tk Q q =>
  we_of (pe_not pe_w) (h H0 σ H st tk _ fun v H1 s O1 ⟨t, e1, h1⟩ st1 r1 => by
    subst e1
    cases r1
    exact ⟨t, rfl, q _ H1 _ O1 h1 st1 (.bl _)⟩)
theorem ew_if (h : TW X O ρ c x fun t O1 => (t = true → EW X O1 ρ a x k) ∧ (t = false → EW X O1 ρ b x k)) : EW X O ρ (.IfExp c a b pos) x k := fun H0 σ H st tk Q q =>
  we_of (pe_ifExp pt_w pe_w pe_w) (h H0 σ H st tk _ fun t H1 O1 h1 st1 => by
    cases t with
    | true => exact iteT ((h1.1 rfl) H0 σ H1 st1 tk Q q)
    | false => exact iteF ((h1.2 rfl) H0 σ H1 st1 tk Q q))
/-! ### statements -/
variable {st0 : Stmt} {sts body orelse : List Stmt}
theorem sw_nil (h : D.nx ρ O) : SW X O ρ [] x D := fun H0 σ H st tk E ok => wss_of pss_nil (ok.nx σ ρ O H h st)
theorem sw_cons (h : S1 X O ρ st0 x { D with nx := fun ρ' O' => SW X O' ρ' sts x D }) : SW X O ρ (st0 :: sts) x D := fun H0 σ H st tk E ok =>
  wss_of (pss_cons ps_w pss_w) (h H0 σ H st tk _ ⟨fun σ' ρ' O' H' q s => q H0 σ' H' s tk E ok, ok.rt, ok.bk, ok.ct⟩)
theorem sw_one (h : S1 X O ρ st0 x D) : SW X O ρ [st0] x D := fun H0 σ H st tk E ok => wss_of (pss_one ps_w) (h H0 σ H st tk E ok)
theorem s1_pass (h : D.nx ρ O) : S1 X O ρ (.Pass pos) x D := fun H0 σ H st tk E ok => ws_of ps_pass (ok.nx σ ρ O H h st)
theorem s1_break (h : D.bk ρ O) : S1 X O ρ (.Break pos) x D := fun H0 σ H st tk E ok => ws_of ps_break (ok.bk σ ρ O H h st)
theorem s1_continue (h : D.ct ρ O) : S1 X O ρ (.Continue pos) x D := fun H0 σ H st tk E ok => ws_of ps_continue (ok.ct σ ρ O H h st)
theorem s1_expr (h : EW X O ρ e x fun _ O' => D.nx ρ O') (hs : swapsWith e none pos.line X.env = pure false := by rfl) : S1 X O ρ (.Expr e pos) x D := fun H0 σ H st tk E ok => ws_of (ps_expr pe_w hs) (h H0 σ H st tk _ fun v H' s O' q st' r => ok.nx σ ρ O' H' q st')
theorem s1_ret (h : EW X O ρ e x D.rt) : S1 X O ρ (.Return (some e) pos) x D := fun H0 σ H st tk E ok => ws_of (ps_ret pe_w) (h H0 σ H st tk _ fun v H' s O' q st' r => ok.rt v s O' H' q st'.own st'.base r)
theorem s1_retN (h : D.rt (.dat .non) O) : S1 X O ρ (.Return none pos) x D := fun H0 σ H st tk E ok => ws_of ps_retN (ok.rt .non _ O H h st.own st.base .non)
theorem s1_if (h : TW X O ρ c x fun t O1 => (t = true → SW X O1 ρ body x D) ∧ (t = false → SW X O1 ρ orelse x D)) : S1 X O ρ (.If c body orelse pos) x D := fun H0 σ H st tk E ok =>
  ws_of (ps_if pt_w pss_w pss_w) (h H0 σ H st tk _ fun t H1 O1 h1 st1 => by
    cases t with
    | true => exact iteT ((h1.1 rfl) H0 σ H1 st1 tk E ok)
    | false => exact iteF ((h1.2 rfl) H0 σ H1 st1 tk E ok))
theorem s1_set (i : Nat) {nm : Str} {p : Pos} (h : EW X O ρ e x fun s O' => D.nx (ρ.set i s) O') (hN : X.N.Nodup) (hi : X.N[i]? = some nm := by rfl) (hx : Loc X.env.scope nm := by first | exact .inl rfl | exact .inr rfl)
    (hs : swapsWith e (some (.Name nm p)) pos.line X.env = pure false := by rfl) (hf : X.fn nm = true ∨ X.env.scope.names.lookup nm = some .local := by first | exact .inl rfl | exact .inr rfl | assumption) :
    S1 X O ρ (.Assign [.Name nm p] e pos) x D := fun H0 σ H st tk E ok =>
  ws_of (ps_set hN hi hx pe_w hs hf) (h H0 σ H st tk _ fun v H' s O' q st' r => ok.nx _ _ O' H' q (st'.set r))
/-! targets -/
def Wg (X : Cx) (tg : Expr) : TG := fun v σ H Q => Bx (∀ (pins : List (Addr × Obj)) (s : Shared) (u : Value), Inv X pins σ H s → RelV v u → wpAny (model X.prog X.w) X.A (assign tg X.env u) (fun _ s' => ∃ σ' H', Inv X pins σ' H' s' ∧ Q σ' H') X.xe s)
theorem pg_w {tg : Expr} : PG X tg (Wg X tg) := ⟨fun pins s σ H v u Q I r h => h.r pins s u I r⟩
theorem wg_of {tg : Expr} {t : TG} (h : PG X tg t) {v : V} {σ : SV} {H : Hp} {Q : SV → Hp → Prop} (q : t v σ H Q) : Wg X tg v σ H Q := ⟨fun pins s u I r => h.run pins s σ H v u Q I r q⟩
def GW (X : Cx) (O : Own) (ρ : List Slot) (tg : Expr) (s : Slot) (x : ExK) (k : List Slot → Own → Prop) : Prop :=
  ∀ H0 σ H v, StOk X.K H0 O σ ρ H → SlOk X.K (hid O H) v s → Takes X (Wsem X.K H0 x) → ∀ Q : SV → Hp → Prop, (∀ σ' H' ρ' O', k ρ' O' → StOk X.K H0 O' σ' ρ' H' → Q σ' H') → Wg X tg v σ H Q
theorem gw_name (i : Nat) {nm : Str} {s : Slot} (h : kl (ρ.set i s) O) (hN : X.N.Nodup) (hi : X.N[i]? = some nm := by rfl) (hx : Loc X.env.scope nm := by first | exact .inl rfl | exact .inr rfl)
    (hf : X.fn nm = true ∨ X.env.scope.names.lookup nm = some .local := by first | exact .inl rfl | exact .inr rfl | assumption) : GW X O ρ (.Name nm pos) s x kl := fun H0 σ H v st r tk Q q =>
  wg_of (pg_name hN hi hx hf) (q _ H _ O h (st.set r))
/-- several targets -/
def GsW (X : Cx) (O : Own) (ρ : List Slot) (tgs : List Expr) (ss : List Slot) (x : ExK) (k : List Slot → Own → Prop) : Prop :=
  ∀ H0 σ H vs, StOk X.K H0 O σ ρ H → Paired (SlOk X.K (hid O H)) vs ss → Takes X (Wsem X.K H0 x) → ∀ Q : SV → Hp → Prop, (∀ σ' H' ρ' O', k ρ' O' → StOk X.K H0 O' σ' ρ' H' → Q σ' H') →
    Bx (∀ (pins : List (Addr × Obj)) (s : Shared) (us : List Value), Inv X pins σ H s → Vals vs us → wpAny (model X.prog X.w) X.A (assignInOrder ((assignEach tgs X.env).map (·.2)) us) (fun _ s' => ∃ σ' H', Inv X pins σ' H' s' ∧ Q σ' H') X.xe s)
def Wgs (X : Cx) (tgs : List Expr) : TGs := fun vs σ H Q => Bx (∀ (pins : List (Addr × Obj)) (s : Shared) (us : List Value), Inv X pins σ H s → Vals vs us → wpAny (model X.prog X.w) X.A (assignInOrder ((assignEach tgs X.env).map (·.2)) us) (fun _ s' => ∃ σ' H', Inv X pins σ' H' s' ∧ Q σ' H') X.xe s)
theorem pgs_w {tgs : List Expr} : PGs X tgs (Wgs X tgs) := ⟨fun pins s σ H vs us Q I r h => h.r pins s us I r⟩
theorem gsw_nil (h : kl ρ O) : GsW X O ρ [] [] x kl := fun H0 σ H vs st r tk Q q => ⟨fun pins s us I rv => by
  cases r
  exact pgs_nil.run pins s σ H [] us Q I rv ⟨rfl, q σ H ρ O h st⟩⟩
theorem gsw_cons {tg : Expr} {tgs : List Expr} {s : Slot} {ss : List Slot} (h : GW X O ρ tg s x fun ρ1 O1 => GsW X O1 ρ1 tgs ss x kl) (hs : (assignEach (tg :: tgs) X.env).map (·.2) = assign tg X.env :: (assignEach tgs X.env).map (·.2) := by rfl) : GsW X O ρ (tg :: tgs) (s :: ss) x kl := fun H0 σ H vs st r tk Q q => ⟨fun pins sh us I rv => by
  cases r with
  | cons r1 r2 =>
    refine (pgs_cons pg_w pgs_w hs).run pins sh σ H _ us Q I rv ⟨_, _, rfl, h (hid O H) σ H _ st.top r1 (takes_base tk st.base) _ fun σ1 H1 ρ1 O1 h1 st1 => ?_⟩
    exact h1 H0 σ1 H1 _ (st1.rebase st.base) (pmap (fun _ _ z => SlOk.mono st1.base z) r2) tk Q q⟩
theorem gw_tup {tgs : List Expr} {kk : Nat} {ds : List Dat} (h : GsW X O ρ tgs (ds.map .dat) x kl) (hc : X.calm = true := by rfl) (hn : (assignEach tgs X.env).length = ds.length := by rfl) (hst : (assignEach tgs X.env).findIdx? (·.1) = none := by rfl) :
    GW X O ρ (.Tuple tgs kk pos) (.dat (.tup ds)) x kl := fun H0 σ H v st r tk Q q => by
  cases r with
  | tup h1 h2 =>
    refine wg_of (pg_tup hc pgs_w hn hst) ⟨_, _, rfl, sqt_mono (fun b o hb => (of_hid hb).2) h1, RpA.length h2, ?_⟩
    exact h H0 σ H _ st h2.paired tk Q q
theorem s1_asg {tg : Expr} (h : EW X O ρ e x fun s O' => GW X O' ρ tg s x D.nx) (hs : swapsWithSole [tg] e pos.line X.env = pure false := by rfl) (hw : swappedStores [tg] e X.env = pure none := by rfl)
    (h1 : (assignEach [tg] X.env).map (·.2) = [assign tg X.env] := by rfl) : S1 X O ρ (.Assign [tg] e pos) x D := fun H0 σ H st tk E ok =>
  ws_of (ps_asg pe_w pg_w hs hw h1) (h H0 σ H st tk _ fun v H' s O' q st' r => q H0 σ H' v st' r tk _ fun σ' H'' ρ' O'' q2 st2 => ok.nx σ' ρ' O'' H'' q2 st2)
/-- a, b = c, d with plain local names -/
theorem s1_par (i j : Nat) {nx ny : Str} {px py pt : Pos} {kt1 k2 pt2} (h : AW X O ρ [a, b] x fun ss O' => ∃ s1 s2, ss = [s1, s2] ∧ D.nx ((ρ.set i s1).set j s2) O') (hN : X.N.Nodup) (hc : X.calm = true := by rfl) (hi : X.N[i]? = some nx := by rfl) (hj : X.N[j]? = some ny := by rfl) (hij : i ≠ j := by decide)
    (hx : X.env.scope.names.lookup nx = some .local := by rfl) (hy : X.env.scope.names.lookup ny = some .local := by rfl)
    (hw : swappedStores [.Tuple [.Name nx px, .Name ny py] kt1 pt] (.Tuple [a, b] k2 pt2) X.env = pure (some [nx, ny]) := by rfl)
    (hs : swapsWithSole [.Tuple [.Name nx px, .Name ny py] kt1 pt] (.Tuple [a, b] k2 pt2) pos.line X.env = pure false := by rfl) :
    S1 X O ρ (.Assign [.Tuple [.Name nx px, .Name ny py] kt1 pt] (.Tuple [a, b] k2 pt2) pos) x D := fun H0 σ H st tk E ok =>
  ws_of (ps_par hc hN hi hj hij hx hy pa_w hw hs) (h H0 σ H st tk _ fun vs H' ss O' ⟨s1, s2, e1, q⟩ st' r => by
    subst e1
    cases r with
    | cons r1 r =>
      cases r with
      | cons r2 r =>
        cases r
        exact ⟨_, _, rfl, ok.nx _ _ O' H' q ((st'.set r1).set r2)⟩)
end
end Kn
/-! KnC: what is walked, loops, comprehensions, displays. -/
namespace Kn
open PySem PySem.Spec PyProof.Rows
open L2 hiding St
/-! ### what is walked: a row of data, fixed ahead -/
def ItD (K : PySem.W.Frag) (G : Hp) (J : It) (ds : List Dat) : Prop := ∀ O H, OwnOk K O H → Same G (hid O H) → ∀ i,
  (∀ d, ds[i]? = some d → J.go i H ∧ ∀ v H', J.yld i H v H' → Same H H' ∧ Rp K (hid O H') v d) ∧ (ds[i]? = none → J.stop i H)
def Wi (X : Cx) (tg iter : Expr) : TI := fun σ H R => Bx (∀ (pins : List (Addr × Obj)) (s : Shared), Inv X pins σ H s →
  wpAny (model X.prog X.w) X.A (eval iter X.env) (fun v s1 => wpAny (model X.prog X.w) X.A (pyIter v) (PIE X pins σ tg R) X.xe s1) X.xe s)
def IW (X : Cx) (O : Own) (ρ : List Slot) (tg iter : Expr) (x : ExK) (k : List Dat → Own → Prop) : Prop :=
  ∀ H0 σ H, StOk X.K H0 O σ ρ H → Takes X (Wsem X.K H0 x) → ∀ R : It → Hp → Prop, (∀ J H' ds O', k ds O' → StOk X.K H0 O' σ ρ H' → ItD X.K (hid O' H') J ds → R J H') → Wi X tg iter σ H R
theorem hid_le {O : Own} {H : Hp} : Same (hid O H) H := fun b o h => (of_hid h).2
theorem itd_list {K : PySem.W.Frag} {G : Hp} {a : Addr} {xs : List V} {ds : List Dat} (h : SqL K G a xs) (r : RpA K G xs ds) : ItD K G (Itl K a) ds := fun O H ok sm i => by
  have hS : SqL K H a xs := sql_mono (sm.trans hid_le) h
  refine ⟨fun d hd => ?_, fun hn => ⟨xs, hS, by rw [r.length]; exact List.getElem?_eq_none_iff.mp hn⟩⟩
  obtain ⟨v, h1, h2⟩ := r.get hd
  refine ⟨⟨xs, v, hS, h1⟩, fun v' H' hy => ?_⟩
  obtain ⟨rfl, hv⟩ := hy
  refine ⟨Same.refl _, ?_⟩
  have e : v = v' := Option.some.inj (h1.symm.trans (hv xs hS))
  rw [← e]
  exact Rp.mono sm h2
theorem itd_tup {K : PySem.W.Frag} {G : Hp} {a : Addr} {xs : List V} {ds : List Dat} (h : SqT K G a xs) (r : RpA K G xs ds) : ItD K G (Itt K a) ds := fun O H ok sm i => by
  have hS : SqT K H a xs := sqt_mono (sm.trans hid_le) h
  refine ⟨fun d hd => ?_, fun hn => ⟨xs, hS, by rw [r.length]; exact List.getElem?_eq_none_iff.mp hn⟩⟩
  obtain ⟨v, h1, h2⟩ := r.get hd
  refine ⟨⟨xs, v, hS, h1⟩, fun v' H' hy => ?_⟩
  obtain ⟨rfl, hv⟩ := hy
  refine ⟨Same.refl _, ?_⟩
  have e : v = v' := Option.some.inj (h1.symm.trans (hv xs hS))
  rw [← e]
  exact Rp.mono sm h2
def rangeD (lo : Int) (n : Nat) : List Dat := (List.range n).map fun (i : Nat) => Dat.int (lo + (i : Int))
theorem rangeD_len (lo : Int) (n : Nat) : (rangeD lo n).length = n := by unfold rangeD; rw [List.length_map, List.length_range]
theorem rangeD_at {lo : Int} {n i : Nat} {d : Dat} (h : (rangeD lo n)[i]? = some d) : i < n ∧ d = .int (lo + (i : Int)) := by
  have hl : i < (rangeD lo n).length := (List.getElem?_eq_some_iff.mp h).1
  rw [rangeD_len] at hl
  refine ⟨hl, ?_⟩
  unfold rangeD at h
  rw [List.getElem?_map, List.getElem?_range hl] at h
  exact (Option.some.inj h).symm
theorem itd_range {K : PySem.W.Frag} {G : Hp} {lo : Int} {n : Nat} : ItD K G (Itr lo n) (rangeD lo n) := fun O H ok sm i => by
  refine ⟨fun d hd => ?_, fun hn => ?_⟩
  · obtain ⟨h1, rfl⟩ := rangeD_at hd
    refine ⟨h1, fun v H' hy => ?_⟩
    obtain ⟨rfl, rfl⟩ := hy
    exact ⟨Same.refl _, .int _⟩
  · have h1 := List.getElem?_eq_none_iff.mp hn
    rw [rangeD_len] at h1
    exact h1
def signsD (z : Str) : List Dat := z.cps.toList.map fun c => .str ⟨#[c]⟩
theorem itd_str {K : PySem.W.Frag} {G : Hp} {z : Str} : ItD K G (Its z) (signsD z) := fun O H ok sm i => by
  refine ⟨fun d hd => ?_, fun hn => ?_⟩
  · unfold signsD at hd
    rw [List.getElem?_map] at hd
    cases hc : z.cps.toList[i]? with
    | none => rw [hc] at hd; cases hd
    | some c =>
      rw [hc] at hd
      cases hd
      have hi : i < z.cps.toList.length := (List.getElem?_eq_some_iff.mp hc).1
      refine ⟨by rw [Array.length_toList] at hi; exact hi, fun v H' hy => ?_⟩
      obtain ⟨rfl, c', hc', rfl⟩ := hy
      have e : c = c' := by
        rw [Array.getElem?_toList] at hc
        exact Option.some.inj (hc.symm.trans hc')
      rw [e]
      exact ⟨Same.refl _, .str _⟩
  · have h1 := List.getElem?_eq_none_iff.mp hn
    unfold signsD at h1
    rw [List.length_map, Array.length_toList] at h1
    exact h1
def enumD (ds : List Dat) : List Dat := ds.mapIdx fun i d => .tup [.int (i : Int), d]
theorem itd_enum {K : PySem.W.Frag} {G : Hp} {a : Addr} {xs : List V} {ds : List Dat} (h : SqL K G a xs) (r : RpA K G xs ds) : ItD K G (Ite K a) (enumD ds) := fun O H ok sm i => by
  have hS : SqL K H a xs := sql_mono (sm.trans hid_le) h
  refine ⟨fun d hd => ?_, fun hn => ⟨xs, hS, ?_⟩⟩
  · unfold enumD at hd
    rw [List.getElem?_mapIdx] at hd
    cases hc : ds[i]? with
    | none => rw [hc] at hd; cases hd
    | some d0 =>
      rw [hc] at hd
      cases hd
      obtain ⟨v, h1, h2⟩ := r.get hc
      refine ⟨⟨xs, v, hS, h1⟩, fun v' H' hy => ?_⟩
      obtain ⟨T, x, rfl, nT, rfl, hv⟩ := hy
      have e : v = x := Option.some.inj (h1.symm.trans (hv xs hS))
      rw [← e]
      refine ⟨same_new nT, .tup (.inl (.inl ?_)) (.cons (.int _) (.cons (Rp.mono (sm.trans (hid_same (same_new nT))) h2) .nil))⟩
      rw [hid_none (own_free ok nT), upd_same]
  · have h1 := List.getElem?_eq_none_iff.mp hn
    unfold enumD at h1
    rw [List.length_mapIdx] at h1
    rw [r.length]; exact h1
def zipD (ds es : List Dat) : List Dat := List.zipWith (fun d e => .tup [d, e]) ds es
theorem itd_zip {K : PySem.W.Frag} {G : Hp} {a b : Addr} {xs ys : List V} {ds es : List Dat} (h : SqL K G a xs) (r : RpA K G xs ds) (h' : SqL K G b ys) (r' : RpA K G ys es) : ItD K G (Itz K a b) (zipD ds es) := fun O H ok sm i => by
  have hS : SqL K H a xs := sql_mono (sm.trans hid_le) h
  have hT : SqL K H b ys := sql_mono (sm.trans hid_le) h'
  refine ⟨fun d hd => ?_, fun hn => ⟨xs, ys, hS, hT, ?_⟩⟩
  · unfold zipD at hd
    rw [List.getElem?_zipWith] at hd
    cases hc : ds[i]? with
    | none => rw [hc] at hd; cases hd
    | some d0 =>
      cases hc' : es[i]? with
      | none => rw [hc, hc'] at hd; cases hd
      | some e0 =>
        rw [hc, hc'] at hd
        cases hd
        obtain ⟨v, h1, h2⟩ := r.get hc
        obtain ⟨u, h3, h4⟩ := r'.get hc'
        refine ⟨⟨xs, ys, v, u, hS, hT, h1, h3⟩, fun v' H' hy => ?_⟩
        obtain ⟨T, z1, z2, rfl, nT, rfl, hv, hu⟩ := hy
        have e : v = z1 := Option.some.inj (h1.symm.trans (hv xs hS))
        have e' : u = z2 := Option.some.inj (h3.symm.trans (hu ys hT))
        rw [← e, ← e']
        refine ⟨same_new nT, .tup (.inl (.inl ?_)) (.cons (Rp.mono (sm.trans (hid_same (same_new nT))) h2) (.cons (Rp.mono (sm.trans (hid_same (same_new nT))) h4) .nil))⟩
        rw [hid_none (own_free ok nT), upd_same]
  · have h1 := List.getElem?_eq_none_iff.mp hn
    unfold zipD at h1
    rw [List.length_zipWith] at h1
    rw [r.length, r'.length]; omega
theorem itd_rev {K : PySem.W.Frag} {G : Hp} {a : Addr} {xs : List V} {ds : List Dat} (h : SqL K G a xs) (r : RpA K G xs ds) : ItD K G (Itv K a xs.length) ds.reverse := fun O H ok sm i => by
  have hS : SqL K H a xs := sql_mono (sm.trans hid_le) h
  have hl := r.length
  refine ⟨fun d hd => ?_, fun hn => ?_⟩
  · have hi : i < ds.reverse.length := (List.getElem?_eq_some_iff.mp hd).1
    rw [List.length_reverse] at hi
    rw [List.getElem?_reverse hi, ← hl] at hd
    obtain ⟨v, h1, h2⟩ := r.get hd
    refine ⟨⟨by omega, xs, v, hS, h1⟩, fun v' H' hy => ?_⟩
    obtain ⟨rfl, hv⟩ := hy
    refine ⟨Same.refl _, ?_⟩
    have e : v = v' := Option.some.inj (h1.symm.trans (hv xs hS))
    rw [← e]
    exact Rp.mono sm h2
  · have h1 := List.getElem?_eq_none_iff.mp hn
    rw [List.length_reverse] at h1
    show xs.length ≤ i
    omega
section
variable {X : Cx} {O : Own} {ρ : List Slot} {x : ExK} {k k' : Slot → Own → Prop} {kl kl' : List Slot → Own → Prop} {kd : List Dat → Own → Prop} {kt kt' : Bool → Own → Prop} {e a b c tg iter : Expr} {es : List Expr} {pos p : Pos} {D : SD}
theorem pi_w : PI X tg iter (Wi X tg iter) := ⟨fun pins s σ H R I h => h.r pins s I⟩
theorem wi_of {t : TI} (h : PI X tg iter t) {σ : SV} {H : Hp} {R : It → Hp → Prop} (q : t σ H R) : Wi X tg iter σ H R := ⟨fun pins s I => h.run pins s σ H R I q⟩
theorem iw_list (h : EW X O ρ e x fun s O' => ∃ ds, s = .dat (.lst ds) ∧ kd ds O') : IW X O ρ tg e x kd := fun H0 σ H st tk R q =>
  wi_of (pi_list pe_w) (h H0 σ H st tk _ fun v H' s O' ⟨ds, e1, h1⟩ st' r => by
    subst e1
    cases r with
    | lst h2 h3 => exact ⟨_, rfl, ⟨_, sql_at (hid_le _ _ h2)⟩, q _ H' ds O' h1 st' (itd_list (sql_at h2) h3)⟩)
theorem iw_fro (h : EW X O ρ e x fun s O' => ∃ ds, s = .dat (.fro ds) ∧ kd ds O') : IW X O ρ tg e x kd := fun H0 σ H st tk R q =>
  wi_of (pi_list pe_w) (h H0 σ H st tk _ fun v H' s O' ⟨ds, e1, h1⟩ st' r => by
    subst e1
    cases r with
    | fro h2 h3 => exact ⟨_, rfl, ⟨_, sql_mono hid_le h2⟩, q _ H' ds O' h1 st' (itd_list h2 h3)⟩)
theorem iw_tup (h : EW X O ρ e x fun s O' => ∃ ds, s = .dat (.tup ds) ∧ kd ds O') : IW X O ρ tg e x kd := fun H0 σ H st tk R q =>
  wi_of (pi_tup pe_w) (h H0 σ H st tk _ fun v H' s O' ⟨ds, e1, h1⟩ st' r => by
    subst e1
    cases r with
    | tup h2 h3 => exact ⟨_, rfl, ⟨_, sqt_mono hid_le h2⟩, q _ H' ds O' h1 st' (itd_tup h2 h3)⟩)
theorem iw_str (h : EW X O ρ e x fun s O' => ∃ z, s = .dat (.str z) ∧ kd (signsD z) O') : IW X O ρ tg e x kd := fun H0 σ H st tk R q =>
  wi_of (pi_str pe_w) (h H0 σ H st tk _ fun v H' s O' ⟨z, e1, h1⟩ st' r => by
    subst e1
    cases r
    exact ⟨z, rfl, q _ H' _ O' h1 st' itd_str⟩)
theorem iw_range1 (hm : X.mg "range" = none) (h : AW X O ρ [a] x fun ss O' => ∃ n : Int, ss = [.dat (.int n)] ∧ (-(2 ^ 62) ≤ n ∧ n < 2 ^ 62) ∧ kd (rangeD 0 n.toNat) O') (hg : Gl X "range" := by rfl) (hs : starEach [a] X.env = [(false, eval a X.env)] := by rfl) :
    IW X O ρ tg (.Call (.Name "range" p) [a] [] pos) x kd := fun H0 σ H st tk R q =>
  wi_of (pi_range1 hg hm pa_w hs) (h H0 σ H st tk _ fun vs H' ss O' ⟨n, e1, h1, h2⟩ st' r => by
    subst e1
    cases r with
    | cons r1 r2 =>
      cases r1
      cases r2
      exact ⟨n, rfl, h1.1, h1.2, q _ H' _ O' h2 st' itd_range⟩)
theorem iw_range2 (hm : X.mg "range" = none) (h : AW X O ρ [a, b] x fun ss O' => ∃ m n : Int, ss = [.dat (.int m), .dat (.int n)] ∧ (-(2 ^ 62) ≤ m ∧ m < 2 ^ 62 ∧ -(2 ^ 62) ≤ n ∧ n < 2 ^ 62) ∧ kd (rangeD m (n - m).toNat) O') (hg : Gl X "range" := by rfl)
    (hs : starEach [a, b] X.env = [(false, eval a X.env), (false, eval b X.env)] := by rfl) (hs2 : starEach [b] X.env = [(false, eval b X.env)] := by rfl) :
    IW X O ρ tg (.Call (.Name "range" p) [a, b] [] pos) x kd := fun H0 σ H st tk R q =>
  wi_of (pi_range2 hg hm pa_w hs hs2) (h H0 σ H st tk _ fun vs H' ss O' ⟨m, n, e1, h1, h2⟩ st' r => by
    subst e1
    cases r with
    | cons r1 r2 =>
      cases r1
      cases r2 with
      | cons r2 r3 =>
        cases r2
        cases r3
        exact ⟨m, n, rfl, h1, q _ H' _ O' h2 st' itd_range⟩)
theorem iw_enum {elts : List Expr} {kk : Nat} {tpos : Pos} (hm : X.mg "enumerate" = none) (h : AW X O ρ [e] x fun ss O' => ∃ ds, ss = [.dat (.lst ds)] ∧ kd (enumD ds) O') (hg : Gl X "enumerate" := by rfl) (hs : starEach [e] X.env = [(false, eval e X.env)] := by rfl) :
    IW X O ρ (.Tuple elts kk tpos) (.Call (.Name "enumerate" p) [e] [] pos) x kd := fun H0 σ H st tk R q =>
  wi_of (pi_enum hg hm pa_w hs) (h H0 σ H st tk _ fun vs H' ss O' ⟨ds, e1, h1⟩ st' r => by
    subst e1
    cases r with
    | cons r1 r2 =>
      cases r2
      cases r1 with
      | lst h2 h3 => exact ⟨_, _, rfl, sql_at (hid_le _ _ h2), q _ H' _ O' h1 st' (itd_enum (sql_at h2) h3)⟩)
theorem iw_zip {elts : List Expr} {kk : Nat} {tpos : Pos} (hm : X.mg "zip" = none) (h : AW X O ρ [a, b] x fun ss O' => ∃ ds es, ss = [.dat (.lst ds), .dat (.lst es)] ∧ kd (zipD ds es) O') (hg : Gl X "zip" := by rfl)
    (hs : starEach [a, b] X.env = (false, eval a X.env) :: starEach [b] X.env := by rfl) (hpl : (backTo pos (starEach [b] X.env)).any (·.1) = false := by rfl) :
    IW X O ρ (.Tuple elts kk tpos) (.Call (.Name "zip" p) [a, b] [] pos) x kd := fun H0 σ H st tk R q =>
  wi_of (pi_zip hg hm pa_w hs hpl) (h H0 σ H st tk _ fun vs H' ss O' ⟨ds, es, e1, h1⟩ st' r => by
    subst e1
    cases r with
    | cons r1 r2 =>
      cases r2 with
      | cons r2 r3 =>
        cases r3
        cases r1 with
        | lst h2 h3 =>
          cases r2 with
          | lst h4 h5 => exact ⟨_, _, _, _, rfl, sql_at (hid_le _ _ h2), sql_at (hid_le _ _ h4), q _ H' _ O' h1 st' (itd_zip (sql_at h2) h3 (sql_at h4) h5)⟩)
theorem iw_rev (hm : X.mg "reversed" = none) (h : AW X O ρ [e] x fun ss O' => ∃ ds, ss = [.dat (.lst ds)] ∧ kd ds.reverse O') (hg : Gl X "reversed" := by rfl) (hs : starEach [e] X.env = [(false, eval e X.env)] := by rfl) :
    IW X O ρ tg (.Call (.Name "reversed" p) [e] [] pos) x kd := fun H0 σ H st tk R q =>
  wi_of (pi_reversed hg hm pa_w hs) (h H0 σ H st tk _ fun vs H' ss O' ⟨ds, e1, h1⟩ st' r => by
    subst e1
    cases r with
    | cons r1 r2 =>
      cases r2
      cases r1 with
      | lst h2 h3 => exact ⟨_, _, rfl, sql_at (hid_le _ _ h2), q _ H' _ O' h1 st' (itd_rev (sql_at h2) h3)⟩)
/-! ### for, while -/
theorem s1_for {body : List Stmt} (hpo : PassesOwn (model X.prog X.w) X.A X.env X.xe)
    (h : IW X O ρ tg iter x fun ds O1 => ∃ J : Nat → List Slot → Own → Prop, J 0 ρ O1 ∧
      (∀ i d ρ' O', J i ρ' O' → ds[i]? = some d → GW X O' ρ' tg (.dat d) x fun ρ2 O2 => SW X O2 ρ2 body x { nx := J (i + 1), rt := D.rt, bk := D.nx, ct := J (i + 1) }) ∧
      ∀ ρ' O', J ds.length ρ' O' → D.nx ρ' O')
    (hc : X.calm = true := by rfl) (hs : ∀ x, foldedSetIterable iter X.env x = pure x := by intro _; rfl) : S1 X O ρ (.For tg iter body [] pos) x D := fun H0 σ H st tk E ok => by
  refine ws_of (ps_for hpo hc pi_w pg_w pss_w hs) (h H0 σ H st tk _ fun J0 H1 ds O1 ⟨J, j0, js, je⟩ st1 it => ?_)
  have tkB := takes_base tk st1.base
  have okB := ok.base st1.base
  refine ⟨fun i m σ' H' => i + m = ds.length ∧ ∃ ρ' O', J i ρ' O' ∧ StOk X.K (hid O1 H1) O' σ' ρ' H', ⟨ds.length, by omega, ρ, O1, j0, st1.top⟩, fun i m σ' H' hW => ?_⟩
  obtain ⟨em, ρ', O', hj, st'⟩ := hW
  obtain ⟨i1, i2⟩ := it O' H' st'.own st'.base i
  cases hd : ds[i]? with
  | none =>
    have hi : ds.length ≤ i := List.getElem?_eq_none_iff.mp hd
    have ei : i = ds.length := by omega
    subst ei
    exact .inl ⟨i2 hd, okB.nx σ' ρ' O' H' (je ρ' O' hj) st'⟩
  | some d =>
    have hi : i < ds.length := (List.getElem?_eq_some_iff.mp hd).1
    obtain ⟨g1, g2⟩ := i1 d hd
    refine .inr ⟨g1, fun σ'' H'' => ∃ ρ'' O'', J (i + 1) ρ'' O'' ∧ StOk X.K (hid O1 H1) O'' σ'' ρ'' H'', fun σ'' H'' hN => ⟨m - 1, by omega, by omega, hN⟩, fun v H2 hy => ?_⟩
    obtain ⟨s1, r1⟩ := g2 v H2 hy
    refine js i d ρ' O' hj hd (hid O1 H1) σ' H2 v (st'.grow s1) r1 tkB _ fun σ3 H3 ρ3 O3 h3 st3 => ?_
    exact h3 (hid O1 H1) σ3 H3 st3 tkB _ ⟨fun σ4 ρ4 O4 H4 q s => ⟨ρ4, O4, q, s⟩, okB.rt, okB.nx, fun σ4 ρ4 O4 H4 q s => ⟨ρ4, O4, q, s⟩⟩
theorem s1_while {body : List Stmt} (hpo : PassesOwn (model X.prog X.w) X.A X.env X.xe) (J : Nat → List Slot → Own → Prop) (h0 : ∃ m, J m ρ O)
    (h : ∀ m ρ' O', J m ρ' O' → TW X O' ρ' c x fun t O2 => (t = true → SW X O2 ρ' body x { nx := fun ρ2 O3 => ∃ m', m' < m ∧ J m' ρ2 O3, rt := D.rt, bk := D.nx, ct := fun ρ2 O3 => ∃ m', m' < m ∧ J m' ρ2 O3 }) ∧ (t = false → D.nx ρ' O2)) :
    S1 X O ρ (.While c body [] pos) x D := fun H0 σ H st tk E ok => by
  refine ws_of (ps_while hpo pt_w pss_w) ⟨fun m σ' H' => ∃ ρ' O', J m ρ' O' ∧ StOk X.K H0 O' σ' ρ' H', ?_, fun m σ' H' hW => ?_⟩
  · obtain ⟨m, hm⟩ := h0
    exact ⟨m, ρ, O, hm, st⟩
  · obtain ⟨ρ', O', hj, st'⟩ := hW
    refine h m ρ' O' hj H0 σ' H' st' tk _ fun t H1 O1 h1 st1 => ?_
    cases t with
    | false => exact iteF (ok.nx σ' ρ' O1 H1 (h1.2 rfl) st1)
    | true =>
      refine iteT ⟨fun σ'' H'' => ∃ m', m' < m ∧ ∃ ρ'' O'', J m' ρ'' O'' ∧ StOk X.K H0 O'' σ'' ρ'' H'', fun σ'' H'' hN => hN, ?_⟩
      exact (h1.1 rfl) H0 σ' H1 st1 tk _ ⟨fun σ4 ρ4 O4 H4 ⟨m', l, q⟩ s => ⟨m', l, ρ4, O4, q, s⟩, ok.rt, ok.nx, fun σ4 ρ4 O4 H4 ⟨m', l, q⟩ s => ⟨m', l, ρ4, O4, q, s⟩⟩
/-! ### displays -/
theorem ew_lst (h : AW X O ρ es x fun ss O' => ss.length ≤ sizeLine ∧ ∀ p, O' p = none → k (.own p) (up O' p (.lst ss))) : EW X O ρ (.List es pos) x k := fun H0 σ H st tk Q q =>
  we_of (pe_lst pa_w) (h H0 σ H st tk _ fun vs H' ss O' ⟨h1, h2⟩ st' r => ⟨by rw [paired_len r]; exact h1, fun p hp =>
    q _ _ _ _ (h2 p (own_free st'.own hp)) (st'.alloc hp ⟨vs, rfl, r⟩) rfl⟩)
/-- the cell is given away at once -/
theorem ew_frz (h : EW X O ρ e x fun s O' => ∃ p ds, s = .own p ∧ O' p = some (.lst (ds.map .dat)) ∧ k (.dat (.lst ds)) (dn O' p)) : EW X O ρ e x k := fun H0 σ H st tk Q q =>
  h H0 σ H st tk Q fun v H' s O' ⟨p, ds, e1, h1, h2⟩ st' r => by
    subst e1
    obtain rfl : v = .ref p := r
    exact q _ H' _ _ h2 st'.freeze (st'.own.lst h1)
theorem ew_lstD (h : AW X O ρ es x fun ss O' => ∃ ds, ss = ds.map .dat ∧ ds.length ≤ sizeLine ∧ k (.dat (.lst ds)) O') : EW X O ρ (.List es pos) x k :=
  ew_frz (ew_lst (h.mono fun ss O' ⟨ds, e1, h1, h2⟩ => by
    subst e1
    exact ⟨by rw [List.length_map]; exact h1, fun p hp => ⟨p, ds, rfl, up_at, by rw [dn_up hp]; exact h2⟩⟩))
theorem ew_tup {x1} (h : AW X O ρ es x fun ss O' => ∃ ds, ss = ds.map .dat ∧ ds.length ≤ sizeLine ∧ k (.dat (.tup ds)) O') : EW X O ρ (.Tuple es x1 pos) x k := fun H0 σ H st tk Q q =>
  we_of (pe_tup pa_w) (h H0 σ H st tk _ fun vs H' ss O' ⟨ds, e1, h1, h2⟩ st' r => by
    subst e1
    have r' := RpA.of_paired r
    refine ⟨by rw [r'.length]; exact h1, fun p hp => q _ _ _ _ h2 (st'.grow (same_new hp)) ?_⟩
    have hO := own_free st'.own hp
    exact Rp.tup (.inl (.inl (by rw [hid_none hO, upd_same]))) (RpA.mono (hid_same (same_new hp)) r'))
/-! ### comprehensions -/
def Blk (X : Cx) (scope : Scope) (Y : Cx) : Prop := ∃ (s : Shared) (H : Hp) (C : Addr) (cl : List (Str × Addr)) (fp : List Addr), Y = X.blk s H scope (compEnvC scope cl C X.env) fp
def TsW (Y : Cx) (O : Own) (ρ : List Slot) (ifs : List Expr) (x : ExK) (kt : Bool → Own → Prop) : Prop :=
  ∀ H0 σ H, StOk Y.K H0 O σ ρ H → Takes Y (Wsem Y.K H0 x) → ∀ Q : Bool → Hp → Prop, (∀ b H' O', kt b O' → StOk Y.K H0 O' σ ρ H' → Q b H') → Bx (∀ (pins : List (Addr × Obj)) (s : Shared), Inv Y pins σ H s →
    wpAny (model Y.prog Y.w) Y.A (forIn ifs true fun c r => if r = true then do let ok ← isTrue c Y.env (eval c Y.env); pure (ForInStep.yield ok) else pure (ForInStep.yield r)) (TP Y pins σ Q) Y.xe s)
theorem tsw_nil (h : kt true O) : TsW X O ρ [] x kt := fun H0 σ H st tk Q q => ⟨fun pins s I => pts_nil.run pins s σ H Q I (q true H O h st)⟩
theorem tsw_one (h : TW X O ρ c x kt) : TsW X O ρ [c] x kt := fun H0 σ H st tk Q q => ⟨fun pins s I => (pts_one pt_w).run pins s σ H Q I (h H0 σ H st tk Q q)⟩
def wipeS (ρ : List Slot) : List Nat → List Slot
  | [] => ρ
  | v :: vs => (wipeS ρ vs).set v .unk
theorem env_none {K : PySem.W.Frag} {G : Hp} {o : Option V} : EnvOk K G o .unk := trivial
theorem wipe_env {K : PySem.W.Frag} {G : Hp} {σ : SV} {ρ : List Slot} (h : Paired (EnvOk K G) σ ρ) : ∀ vs, Paired (EnvOk K G) (wipe σ vs) (wipeS ρ vs)
  | [] => h
  | v :: vs => paired_set (x := none) env_none v (wipe_env h vs)
theorem StOk.wipe {K : PySem.W.Frag} {H0 H : Hp} {σ : SV} (h : StOk K H0 O σ ρ H) (vs : List Nat) : StOk K H0 O (wipe σ vs) (wipeS ρ vs) H := ⟨h.own, h.base, wipe_env h.env vs⟩
theorem wipe_at {σ : SV} : ∀ {vs : List Nat} {i : Nat}, i ∈ vs → ∀ v, wipe (σ.set i v) vs = wipe σ vs
  | j :: vs, i, h, v => by
    show (wipe (σ.set i v) vs).set j none = (wipe σ vs).set j none
    by_cases e : i ∈ vs
    · rw [wipe_at e v]
    · have ej : i = j := by
        rcases List.mem_cons.mp h with q | q
        · exact q
        · exact absurd q e
      subst ej
      have : ∀ (vs : List Nat) (σ : SV), i ∉ vs → wipe (σ.set i v) vs = (wipe σ vs).set i v := by
        intro vs
        induction vs with
        | nil => intro σ _; rfl
        | cons z zs ih =>
          intro σ hz
          show (wipe (σ.set i v) zs).set z none = ((wipe σ zs).set z none).set i v
          rw [ih σ fun q => hz (List.mem_cons_of_mem _ q)]
          exact List.set_comm _ _ fun q => hz (by rw [q]; exact List.mem_cons_self)
      rw [this vs σ e, List.set_set]
theorem wipe_wipe {σ : SV} : ∀ {vs ws : List Nat}, (∀ i ∈ ws, i ∈ vs) → wipe (wipe σ ws) vs = wipe σ vs
  | vs, [], _ => rfl
  | vs, w :: ws, h => by
    show wipe ((wipe σ ws).set w none) vs = _
    rw [wipe_at (h w List.mem_cons_self), wipe_wipe fun i hi => h i (List.mem_cons_of_mem _ hi)]
/-- what a comprehension's target is -/
inductive Tgt (X : Cx) (scope : Scope) (vs : List Nat) : Expr → (Dat → List Slot → List Slot → Prop) → Prop
  | name {nm : Str} {p : Pos} {i : Nat} (hi : i ∈ vs) (hg : ∀ Y, Blk X scope Y → PG Y (.Name nm p) (gName i)) : Tgt X scope vs (.Name nm p) (fun d ρ ρ' => ρ' = ρ.set i (.dat d))
  | two {n1 n2 : Str} {p1 p2 p : Pos} {kk i j : Nat} (hi : i ∈ vs) (hj : j ∈ vs) (hg : ∀ Y, Blk X scope Y → PG Y (.Tuple [.Name n1 p1, .Name n2 p2] kk p) (gTup X.K 2 (gCons (gName i) (gCons (gName j) gNil)))) :
    Tgt X scope vs (.Tuple [.Name n1 p1, .Name n2 p2] kk p) (fun d ρ ρ' => ∃ d1 d2, d = .tup [d1, d2] ∧ ρ' = (ρ.set i (.dat d1)).set j (.dat d2))
  | three {n1 n2 n3 : Str} {p1 p2 p3 p : Pos} {kk i j l : Nat} (hi : i ∈ vs) (hj : j ∈ vs) (hl : l ∈ vs) (hg : ∀ Y, Blk X scope Y → PG Y (.Tuple [.Name n1 p1, .Name n2 p2, .Name n3 p3] kk p) (gTup X.K 3 (gCons (gName i) (gCons (gName j) (gCons (gName l) gNil))))) :
    Tgt X scope vs (.Tuple [.Name n1 p1, .Name n2 p2, .Name n3 p3] kk p) (fun d ρ ρ' => ∃ d1 d2 d3, d = .tup [d1, d2, d3] ∧ ρ' = ((ρ.set i (.dat d1)).set j (.dat d2)).set l (.dat d3))
theorem tgt_run {scope : Scope} {vs : List Nat} {T : Dat → List Slot → List Slot → Prop} (h : Tgt X scope vs tg T) :
    ∃ g : TG, (∀ Y, Blk X scope Y → PG Y tg g) ∧ ∀ {H0 H : Hp} {O : Own} {σ : SV} {ρ ρ' : List Slot} {v : V} {d : Dat} {Q : SV → Hp → Prop}, StOk X.K H0 O (wipe σ vs) ρ H → Rp X.K (hid O H) v d → T d ρ ρ' →
      (∀ σ', StOk X.K H0 O σ' ρ' H → wipe σ' vs = wipe σ vs → Q σ' H) → g v (wipe σ vs) H Q := by
  cases h with
  | name hi hg =>
    refine ⟨_, hg, fun {H0 H O σ ρ ρ' v d Q} st r t q => ?_⟩
    subst t
    exact q _ (st.set r) (by rw [wipe_at hi, wipe_wipe fun _ z => z])
  | two hi hj hg =>
    refine ⟨_, hg, fun {H0 H O σ ρ ρ' v d Q} st r t q => ?_⟩
    obtain ⟨d1, d2, rfl, rfl⟩ := t
    cases r with
    | tup h1 h2 =>
      cases h2 with
      | cons r1 h2 =>
        cases h2 with
        | cons r2 h2 =>
          cases h2
          refine ⟨_, _, rfl, sqt_mono hid_le h1, rfl, _, _, rfl, _, _, rfl, rfl, q _ ((st.set (s := .dat d1) r1).set (s := .dat d2) r2) ?_⟩
          rw [wipe_at hj, wipe_at hi, wipe_wipe fun _ z => z]
  | three hi hj hl hg =>
    refine ⟨_, hg, fun {H0 H O σ ρ ρ' v d Q} st r t q => ?_⟩
    obtain ⟨d1, d2, d3, rfl, rfl⟩ := t
    cases r with
    | tup h1 h2 =>
      cases h2 with
      | cons r1 h2 =>
        cases h2 with
        | cons r2 h2 =>
          cases h2 with
          | cons r3 h2 =>
            cases h2
            refine ⟨_, _, rfl, sqt_mono hid_le h1, rfl, _, _, rfl, _, _, rfl, _, _, rfl, rfl, q _ (((st.set (s := .dat d1) r1).set (s := .dat d2) r2).set (s := .dat d3) r3) ?_⟩
            rw [wipe_at hl, wipe_at hj, wipe_at hi, wipe_wipe fun _ z => z]
theorem tlc_of {elt : Expr} {ifs : List Expr} {scope : Scope} {vs : List Nat} {T : Dat → List Slot → List Slot → Prop} {g : TG}
    (hg : ∀ {H0 H : Hp} {O : Own} {σ : SV} {ρ ρ' : List Slot} {v : V} {d : Dat} {Q : SV → Hp → Prop}, StOk X.K H0 O (wipe σ vs) ρ H → Rp X.K (hid O H) v d → T d ρ ρ' → (∀ σ', StOk X.K H0 O σ' ρ' H → wipe σ' vs = wipe σ vs → Q σ' H) → g v (wipe σ vs) H Q)
    (h : IW X O ρ tg iter x fun ds O1 => ds.length ≤ sizeLine ∧ ∃ J : Nat → List Slot → Own → Prop, J 0 [] O1 ∧
      (∀ i d acc O', J i acc O' → ds[i]? = some d → ∃ ρ', T d (wipeS ρ vs) ρ' ∧ ∀ Dd, O' Dd = none → ∀ Y, Blk X scope Y → TsW Y (up O' Dd (.lst acc)) ρ' ifs noX fun t O2 =>
        (t = true → ∀ Z, Blk X scope Z → EW Z O2 ρ' elt noX fun s O3 => ∃ O4, O3 = up O4 Dd (.lst acc) ∧ O4 Dd = none ∧ J (i + 1) (acc ++ [s]) O4) ∧ (t = false → ∃ O4, O2 = up O4 Dd (.lst acc) ∧ O4 Dd = none ∧ J (i + 1) acc O4)) ∧
      ∀ acc O', J ds.length acc O' → ∀ p, O' p = none → k (.own p) (up O' p (.lst acc))) {H0 : Hp} {σ : SV} {H : Hp} {Q : VK} (st : StOk X.K H0 O σ ρ H) (tk : Takes X (Wsem X.K H0 x))
    (q : ∀ v H' s O', k s O' → StOk X.K H0 O' σ ρ H' → SlOk X.K (hid O' H') v s → Q v H') :
    tLc (Wi X tg iter) g (fun σ H Q => ∀ Y, Blk X scope Y → ∀ (pins : List (Addr × Obj)) (s : Shared), Inv Y pins σ H s →
      wpAny (model Y.prog Y.w) Y.A (forIn ifs true fun c r => if r = true then do let ok ← isTrue c Y.env (eval c Y.env); pure (ForInStep.yield ok) else pure (ForInStep.yield r)) (TP Y pins σ Q) Y.xe s)
      (fun σ H Q => ∀ Y, Blk X scope Y → We Y elt σ H Q) vs σ H Q := by
  refine h H0 σ H st tk _ fun J0 H1 ds O1 ⟨hz, J, j0, js, je⟩ st1 it => ?_
  intro Dd hD
  have hOD : O1 Dd = none := own_free st1.own hD
  have gS : Same (hid O1 H1) (hid (up O1 Dd (.lst [])) (upd H1 Dd (.lst []))) := fun b o hb => by
    obtain ⟨z1, z2⟩ := of_hid hb
    have nb := ne_of_none z2 hD
    rw [hid_none (by rw [up_ne nb]; exact z1), upd_ne nb]
    exact z2
  -- the store with the new list as a cell, over the greatest base
  refine ⟨fun i m H' => i + m = ds.length ∧ ∃ acc O', J i acc O' ∧ O' Dd = none ∧ acc.length ≤ i ∧ StOk X.K (hid O1 H1) (up O' Dd (.lst acc)) σ ρ H',
    ⟨ds.length, by omega, [], O1, j0, hOD, Nat.le_refl _, ⟨?_, gS, pmap (fun _ _ z => EnvOk.mono gS z) st1.env⟩⟩, fun i m H' hW => ?_⟩
  · exact (st1.alloc (o := .lst []) (c := .lst []) hD ⟨[], rfl, .nil⟩).own
  · obtain ⟨em, acc, O', hj, nD, hacc, st'⟩ := hW
    obtain ⟨i1, i2⟩ := it _ H' st'.own st'.base i
    cases hd : ds[i]? with
    | none =>
      have hi : ds.length ≤ i := List.getElem?_eq_none_iff.mp hd
      have ei : i = ds.length := by omega
      subst ei
      exact .inl ⟨i2 hd, q _ H' _ _ (je acc O' hj Dd nD) (st'.rebase st1.base) rfl⟩
    | some d =>
      have hi : i < ds.length := (List.getElem?_eq_some_iff.mp hd).1
      obtain ⟨g1, g2⟩ := i1 d hd
      obtain ⟨ρ', ht, hb⟩ := js i d acc O' hj hd
      have hb := hb Dd nD
      refine .inr ⟨g1, fun H'' => ∃ acc2 O2, J (i + 1) acc2 O2 ∧ O2 Dd = none ∧ acc2.length ≤ i + 1 ∧ StOk X.K (hid O1 H1) (up O2 Dd (.lst acc2)) σ ρ H'', fun H'' hN => ⟨m - 1, by omega, by omega, hN⟩, fun v H2 hy => ?_⟩
      obtain ⟨s1, r1⟩ := g2 v H2 hy
      have st2 := st'.grow s1
      refine hg (σ := σ) (st2.wipe vs) r1 ht fun σ' st3 hw => ⟨hw, fun Y hY pins s I => ?_⟩
      obtain ⟨sY, HY, CY, clY, fpY, eY⟩ := id hY
      have eK : Y.K = X.K := by rw [eY]
      have st3Y : StOk Y.K (hid O1 H1) (up O' Dd (.lst acc)) σ' ρ' H2 := by rw [eK]; exact st3
      refine (hb Y hY (hid O1 H1) σ' H2 st3Y takes_no _ fun t H3 O3 h3 st4 => ?_).r pins s I
      -- the way back to the outer names
      have env2 : Paired (EnvOk X.K (hid (up O' Dd (.lst acc)) H2)) σ ρ := st2.env
      cases t with
      | false =>
        obtain ⟨O4, e4, n4, j4⟩ := h3.2 rfl
        subst e4
        refine iteF ⟨acc, O4, j4, n4, by omega, ?_⟩
        rw [eK] at st4
        exact ⟨st4.own, st4.base, pmap (fun _ _ z => EnvOk.mono st4.base z) st1.env⟩
      | true =>
        refine iteT fun Z hZ => ?_
        obtain ⟨sZ, HZ, CZ, clZ, fpZ, eZ⟩ := id hZ
        have eKZ : Z.K = X.K := by rw [eZ]
        have eYZ : Z.K = Y.K := by rw [eZ, eY]
        refine (h3.1 rfl) Z hZ (hid O1 H1) σ' H3 (by rw [eYZ]; exact st4) takes_no _ fun u H5 s5 O5 h5 st5 r5 => ?_
        obtain ⟨O4, e4, n4, j4⟩ := h5
        subst e4
        rw [eKZ] at st5 r5
        obtain ⟨o5, c1, xs5, rfl, c2⟩ := st5.own.cell Dd _ up_at
        have lx : xs5.length = acc.length := paired_len c2
        have gw : Same (hid (up O4 Dd (.lst acc)) H5) (hid (up O4 Dd (.lst (acc ++ [s5]))) (upd H5 Dd (.lst (xs5 ++ [u])))) := by
          have := hid_write (H := H5) (o := .lst (xs5 ++ [u])) (c := .lst (acc ++ [s5])) (O := up O4 Dd (.lst acc)) up_at
          rw [up_up] at this
          exact this
        have st6 := st5.write (o := .lst (xs5 ++ [u])) (c := .lst (acc ++ [s5])) up_at ⟨_, rfl, paired_app c2 (.cons r5 .nil)⟩
        rw [up_up] at st6
        refine ⟨xs5, c1, by omega, acc ++ [s5], O4, j4, n4, by rw [List.length_append]; exact Nat.add_le_add_right hacc 1, ⟨st6.own, st6.base, pmap (fun _ _ z => EnvOk.mono st6.base z) st1.env⟩⟩
theorem ew_lc (own : List (Str × Nat)) {elt : Expr} {ifs : List Expr} {scope : Scope} {T : Dat → List Slot → List Slot → Prop} (hN : X.N.Nodup) (tg_ok : Tgt X scope (own.map (·.2)) tg T) (ok : BlkOk X.N X.env.scope scope own)
    (h : IW X O ρ tg iter x fun ds O1 => ds.length ≤ sizeLine ∧ ∃ J : Nat → List Slot → Own → Prop, J 0 [] O1 ∧
      (∀ i d acc O', J i acc O' → ds[i]? = some d → ∃ ρ', T d (wipeS ρ (own.map (·.2))) ρ' ∧ ∀ Dd, O' Dd = none → ∀ Y, Blk X scope Y → TsW Y (up O' Dd (.lst acc)) ρ' ifs noX fun t O2 =>
        (t = true → ∀ Z, Blk X scope Z → EW Z O2 ρ' elt noX fun s O3 => ∃ O4, O3 = up O4 Dd (.lst acc) ∧ O4 Dd = none ∧ J (i + 1) (acc ++ [s]) O4) ∧ (t = false → ∃ O4, O2 = up O4 Dd (.lst acc) ∧ O4 Dd = none ∧ J (i + 1) acc O4)) ∧
      ∀ acc O', J ds.length acc O' → ∀ p, O' p = none → k (.own p) (up O' p (.lst acc))) (hc : X.calm = true := by rfl) (hs : ∀ x, foldedSetIterable iter X.env x = pure x := by intro _; rfl) :
    EW X O ρ (.ListComp elt [⟨tg, iter, ifs, 0⟩] scope pos) x k := fun H0 σ H st tk Q q => by
  obtain ⟨g, g1, g2⟩ := tgt_run tg_ok
  exact we_of (pe_lc hc hN pi_w ok (fun s H C cl fp => g1 _ ⟨s, H, C, cl, fp, rfl⟩) (fun s H C cl fp => ⟨fun pins sh σ H5 Q I hq => hq _ ⟨s, H, C, cl, fp, rfl⟩ pins sh I⟩) (fun s H C cl fp => ⟨fun pins sh σ H5 Q I hq => (hq _ ⟨s, H, C, cl, fp, rfl⟩).r pins sh I⟩) hs)
    (tlc_of g2 h st tk q)
/-- y = [..] with y a local -/
theorem s1_setLc (own : List (Str × Nat)) (i : Nat) {nm : Str} {py spos : Pos} {elt : Expr} {ifs : List Expr} {scope : Scope} {T : Dat → List Slot → List Slot → Prop} (hN : X.N.Nodup) (tg_ok : Tgt X scope (own.map (·.2)) tg T) (ok : BlkOk X.N X.env.scope scope own)
    (h : IW X O ρ tg iter x fun ds O1 => ds.length ≤ sizeLine ∧ ∃ J : Nat → List Slot → Own → Prop, J 0 [] O1 ∧
      (∀ i d acc O', J i acc O' → ds[i]? = some d → ∃ ρ', T d (wipeS ρ (own.map (·.2))) ρ' ∧ ∀ Dd, O' Dd = none → ∀ Y, Blk X scope Y → TsW Y (up O' Dd (.lst acc)) ρ' ifs noX fun t O2 =>
        (t = true → ∀ Z, Blk X scope Z → EW Z O2 ρ' elt noX fun s O3 => ∃ O4, O3 = up O4 Dd (.lst acc) ∧ O4 Dd = none ∧ J (i + 1) (acc ++ [s]) O4) ∧ (t = false → ∃ O4, O2 = up O4 Dd (.lst acc) ∧ O4 Dd = none ∧ J (i + 1) acc O4)) ∧
      ∀ acc O', J ds.length acc O' → ∀ p, O' p = none → D.nx (ρ.set i (.own p)) (up O' p (.lst acc))) (hc : X.calm = true := by rfl)
    (hy : X.N[i]? = some nm := by rfl) (hyl : X.env.scope.names.lookup nm = some .local := by rfl)
    (hsw : swapsWith (.ListComp elt [⟨tg, iter, ifs, 0⟩] scope pos) (some (.Name nm py)) spos.line X.env = pure true := by exact sw_true rfl rfl rfl (by decide +kernel)) (hs : ∀ x, foldedSetIterable iter X.env x = pure x := by intro _; rfl) :
    S1 X O ρ (.Assign [.Name nm py] (.ListComp elt [⟨tg, iter, ifs, 0⟩] scope pos) spos) x D := fun H0 σ H st tk E okE => by
  obtain ⟨g, g1, g2⟩ := tgt_run tg_ok
  exact ws_of (ps_setLc hc hN hy hyl hsw pi_w ok (fun s H C cl fp => g1 _ ⟨s, H, C, cl, fp, rfl⟩) (fun s H C cl fp => ⟨fun pins sh σ H5 Q I hq => hq _ ⟨s, H, C, cl, fp, rfl⟩ pins sh I⟩) (fun s H C cl fp => ⟨fun pins sh σ H5 Q I hq => (hq _ ⟨s, H, C, cl, fp, rfl⟩).r pins sh I⟩) hs)
    (tlc_of (k := fun s O' => D.nx (ρ.set i s) O') g2 h st tk fun v H' s O' hq st' r => okE.nx _ _ O' H' hq (st'.set r))
end
end Kn
/-! KnD: contracts of defs, their calls, what is raised and caught. -/
namespace Kn
open PySem PySem.Spec PyProof.Rows
open L2 hiding St
inductive Out where
  | ret (s : Slot)
  | exc (e : Exn)
/-- a contract: the arguments, the cells, and what is wanted of each way out -/
abbrev SpecT := List Slot → Own → (Out → Own → Prop) → Prop
structure RoomB (g : Bool) (k : Nat) (A : Around) : Prop where
  r : Room k A
  g : g = true → A.guards = some []
theorem RoomB.mono {g g' : Bool} {j k : Nat} {A : Around} (h : RoomB g k A) (hk : j ≤ k) (hg : g' = true → g = true) : RoomB g' j A := ⟨h.r.mono hk, fun e => h.g (hg e)⟩
def RetOk (K : PySem.W.Frag) (O : Own) (H : Hp) (R : Out → Own → Prop) (Q : VK) : Prop :=
  ∀ v H' s O', R (.ret s) O' → OwnOk K O' H' → Same (hid O H) (hid O' H') → SlOk K (hid O' H') v s → Q v H'
def ErrOk (K : PySem.W.Frag) (O : Own) (H : Hp) (R : Out → Own → Prop) (E : XK) : Prop :=
  ∀ cls d e H' O', R (.exc e) O' → OwnOk K O' H' → Same (hid O H) (hid O' H') → ExOk K O' H' cls d e → E cls d H'
def spS (K : PySem.W.Frag) (S : SpecT) : Sp := fun vs H Q E => ∃ O ss R, OwnOk K O H ∧ Paired (SlOk K (hid O H)) vs ss ∧ S ss O R ∧ RetOk K O H R Q ∧ ErrOk K O H R E
structure Fn (P : Program) (w : World) (K : PySem.W.Frag) (mg : Str → Option Value) (base : Heap) (g : Bool) (k : Nat) (f : Addr) (fd : FuncData) (ps : List Str) (S : SpecT) : Prop where
  len : ∀ ss O R, S ss O R → ss.length = ps.length
  run : ∀ (A : Around) (outer : List Env) (s : Shared) (H : Hp) (args : Args) (us : List Value) (vs : List V) (Q : VK) (E : XK), RoomB g k A → Env0 P w K mg base A outer s H → BindsTo s fd args (ps.zip us) → Vals vs us → spS K S vs H Q E →
    codeAny (model P w) A (.call (.ref f) args) (CR (L2.CX P w) outer P w H s Q E) s
section
variable {P : Program} {w : World} {K : PySem.W.Frag} {mg : Str → Option Value} {base : Heap} {g : Bool} {k : Nat} {f : Addr} {fd : FuncData} {ps : List Str} {S : SpecT}
theorem spS_len (len : ∀ ss O R, S ss O R → ss.length = ps.length) : ∀ vs H Q E, spS K S vs H Q E → vs.length = ps.length := fun vs H Q E ⟨O, ss, R, _, pr, hS, _⟩ => (paired_len pr).trans (len _ _ _ hS)
theorem Fn.ok (F : Fn P w K mg base false k f fd ps S) : FnOk P w K mg base (L2.CX P w) k f fd ps (spS K S) :=
  ⟨spS_len F.len, fun A outer s H args us vs Q E hr e0 hb r hs => F.run A outer s H args us vs Q E ⟨hr, fun e => nomatch e⟩ e0 hb r hs⟩
def startS (N : List Str) (ss : List Slot) : List Slot := ss ++ List.replicate (N.length - ss.length) .unk
theorem paired_rep {α β : Type} {F : α → β → Prop} {a : α} {b : β} (h : F a b) : ∀ n, Paired F (List.replicate n a) (List.replicate n b)
  | 0 => .nil
  | n + 1 => .cons h (paired_rep h n)
theorem env_of {G : Hp} : ∀ {vs : List V} {ss : List Slot}, Paired (SlOk K G) vs ss → Paired (EnvOk K G) (vs.map some) ss
  | _, _, .nil => .nil
  | _, s :: _, .cons h t => .cons (by
      cases s with
      | unk => trivial
      | dat d => exact ⟨_, rfl, h⟩
      | own p => exact congrArg some h) (env_of t)
theorem start_env {G : Hp} {N : List Str} {vs : List V} {ss : List Slot} (h : Paired (SlOk K G) vs ss) : Paired (EnvOk K G) (L2.start N vs) (startS N ss) := by
  unfold L2.start startS
  rw [paired_len h]
  exact paired_app (env_of h) (paired_rep trivial _)
theorem roomB_deeper {A : Around} (r : RoomB g (k + 1) A) (env : Env) : RoomB g k (A.deeper env) := ⟨r.r.deeper env, fun e => r.g e⟩
/-- a def as it stands behind the top, whatever its defaults -/
def FunX (K : PySem.W.Frag) (x qual : Str) (st : Stmt) (f : Addr) (fd : FuncData) : Prop := ∃ (oc : Value) (od : Option Addr) (dV kV doc pm : Value) (an : Option Addr) (cdv ct : Value) (osl : Array (Option Value)),
  fd = PySem.W.fnOf x qual (defArgs st) (defBody st) (defScope st) dV kV doc pm an cdv ct ∧ K.lookup f = some ⟨oc, od, .func fd, osl⟩ ∧ PySem.W.codeIn K cdv qual = true
theorem funX_of {x qual : Str} {st : Stmt} (F : L2.Fun K x qual st f fd) : FunX K x qual st f fd := by
  obtain ⟨oc, od, kV, doc, pm, an, cdv, ct, osl, h⟩ := F.ex
  exact ⟨oc, od, .none, kV, doc, pm, an, cdv, ct, osl, h⟩
theorem funX_ofD {x qual : Str} {st : Stmt} {dvs : List V} (F : L2.FunD K x qual (defArgs st) (defBody st) (defScope st) dvs [] f fd) : FunX K x qual st f fd := by
  obtain ⟨oc, od, dV, kV, doc, pm, an, cdv, ct, osl, h1, h2, h3, _⟩ := F.ex
  exact ⟨oc, od, dV, kV, doc, pm, an, cdv, ct, osl, h1, h2, h3⟩
/-- a def keeps its contract -/
theorem fn_mkX {x qual : Str} {st : Stmt} {N : List Str} (F : FunX K x qual st f fd) (Sc : FnScope N ps (defScope st)) (len : ∀ ss O R, S ss O R → ss.length = ps.length)
    (body : ∀ (cdv : Value) (A : Around) (outer : List Env) (s : Shared) (H : Hp) (E : XK) (ss : List Slot) (O : Own) (R : Out → Own → Prop), RoomB g k (cxOf (L2.CX P w) P w K mg base N qual (defScope st) f cdv A outer s H E).A →
      PassesOwn (model P w) (cxOf (L2.CX P w) P w K mg base N qual (defScope st) f cdv A outer s H E).A (cxOf (L2.CX P w) P w K mg base N qual (defScope st) f cdv A outer s H E).env (cxOf (L2.CX P w) P w K mg base N qual (defScope st) f cdv A outer s H E).xe → S ss O R →
      SW (cxOf (L2.CX P w) P w K mg base N qual (defScope st) f cdv A outer s H E) O (startS N ss) (defBody st) (fun e _ O' => R (.exc e) O') { nx := fun _ O' => R (.ret (.dat .non)) O', rt := fun z O' => R (.ret z) O' }) :
    Fn P w K mg base g (k + 1) f fd ps S := by
  obtain ⟨oc, od, dV, kV, doc, pm, an, cdv, ct, osl, rfl, lk, hcd⟩ := F
  refine ⟨len, fun A outer s H args us vs Q E hr e0 hb r hsp => ?_⟩
  obtain ⟨O, ss, R, own, pr, hS, hret, herr⟩ := hsp
  have hl : vs.length = ps.length := (paired_len pr).trans (len _ _ _ hS)
  have KX : K.In s.heap := e0.mod.kin.keeps fun b o e => (e0.bs b o e).1
  have lim : s.heap.NoLimit := e0.mod.nolimit.keeps fun b o e => (e0.bs b o e).1
  have hkind : ∀ y ∈ ps.zip us, (defScope st).names.lookup y.1 = some .local ∨ ((defScope st).names.lookup y.1 = some .cell ∧ ((cellsFrom (s.heap.objs.size + 1) (defScope st).names []).lookup y.1).isSome = true) := fun y hy => by
    rcases Sc.par y.1 (List.of_mem_zip (show (y.1, y.2) ∈ ps.zip us from hy)).1 with q | q
    · exact .inl q
    · exact .inr ⟨q, PySem.W.cellsFrom_some _ _ _ (.inl q)⟩
  refine codeAny_call_function hr.r.depth (KX _ _ lk) rfl Sc.co Sc.gen rfl (PySem.W.codeRec_of KX hcd) (hb _ _ _ _ ?_)
  refine wpAny_newFunctionEnv_cells Sc.kind hkind fun env he s1 hin => ?_
  subst he
  refine ⟨lim.keeps hin.toInCall.keep, codeAny_func ?_⟩
  have I := inv_start (CX := L2.CX P w) (E := E) Sc hr.r.hd e0 hl r hin
  have hrD : RoomB g k (cxOf (L2.CX P w) P w K mg base N qual (defScope st) f cdv A outer s H E).A := roomB_deeper hr _
  have hpo : PassesOwn (model P w) (cxOf (L2.CX P w) P w K mg base N qual (defScope st) f cdv A outer s H E).A (cxOf (L2.CX P w) P w K mg base N qual (defScope st) f cdv A outer s H E).env (cxOf (L2.CX P w) P w K mg base N qual (defScope st) f cdv A outer s H E).xe :=
    passes_of (X := cxOf (L2.CX P w) P w K mg base N qual (defScope st) f cdv A outer s H E) rfl
  have hst : StOk K (hid O H) O (L2.start N vs) (startS N ss) H := ⟨own, Same.refl _, start_env pr⟩
  have tk : Takes (cxOf (L2.CX P w) P w K mg base N qual (defScope st) f cdv A outer s H E) (Wsem K (hid O H) fun e _ O' => R (.exc e) O') :=
    (takes_of (X := cxOf (L2.CX P w) P w K mg base N qual (defScope st) f cdv A outer s H E) rfl rfl rfl rfl).imp fun cls d σ' H' ⟨e, ρ', O', h1, h2, h3⟩ => herr cls d e H' O' h1 h2.own h2.base h3
  have main := (body cdv A outer s H E ss O R hrD hpo hS (hid O H) (L2.start N vs) H hst tk { nx := fun _ H' => Q .non H', rt := Q }
    ⟨fun σ' ρ' O' H' h1 h2 => hret .non H' _ O' h1 h2.own h2.base .non, fun v z O' H' h1 h2 h3 h4 => hret v H' z O' h1 h2 h3 h4, fun _ _ _ _ h _ => h.elim, fun _ _ _ _ h _ => h.elim⟩).r [] s1 I
  refine wpAny_mono main (fun fl s' hs => ?_) fun e s' hs => hs
  have fin : ∀ {σ' : SV} {H' : Hp} {v : V} {u : Value}, L2.Inv (cxOf (L2.CX P w) P w K mg base N qual (defScope st) f cdv A outer s H E) [] σ' H' s' → RelV v u → Q v H' → CE outer P w H s Q u s' :=
    fun {σ' H' v u} J rv q => ⟨v, H', J.os, J.bare, J.base, J.hok, rv, q⟩
  cases fl with
  | ret u =>
    obtain ⟨v, σ', H', J, rv, q⟩ := hs
    exact fin J rv q
  | next =>
    obtain ⟨σ', H', J, q⟩ := hs
    exact fin (v := V.non) (u := Value.none) J rfl q
  | brk =>
    obtain ⟨_, _, _, q⟩ := hs
    exact False.elim q
  | cont =>
    obtain ⟨_, _, _, q⟩ := hs
    exact False.elim q
theorem fn_mk {x qual : Str} {st : Stmt} {N : List Str} (F : L2.Fun K x qual st f fd) (Sc : FnScope N ps (defScope st)) (len : ∀ ss O R, S ss O R → ss.length = ps.length)
    (body : ∀ (cdv : Value) (A : Around) (outer : List Env) (s : Shared) (H : Hp) (E : XK) (ss : List Slot) (O : Own) (R : Out → Own → Prop), RoomB g k (cxOf (L2.CX P w) P w K mg base N qual (defScope st) f cdv A outer s H E).A →
      PassesOwn (model P w) (cxOf (L2.CX P w) P w K mg base N qual (defScope st) f cdv A outer s H E).A (cxOf (L2.CX P w) P w K mg base N qual (defScope st) f cdv A outer s H E).env (cxOf (L2.CX P w) P w K mg base N qual (defScope st) f cdv A outer s H E).xe → S ss O R →
      SW (cxOf (L2.CX P w) P w K mg base N qual (defScope st) f cdv A outer s H E) O (startS N ss) (defBody st) (fun e _ O' => R (.exc e) O') { nx := fun _ O' => R (.ret (.dat .non)) O', rt := fun z O' => R (.ret z) O' }) :
    Fn P w K mg base g (k + 1) f fd ps S := fn_mkX (funX_of F) Sc len body
end
/-! ### calls -/
/-- a module's def by its name, with its contract and the defaults that fill up -/
def Cal (P : Program) (w : World) (K : PySem.W.Frag) (mg : Str → Option Value) (base : Heap) (g : Bool) (k : Nat) (nm : Str) (S : SpecT) (df : List Dat) : Prop :=
  ∃ (f : Addr) (fd : FuncData) (ps : List Str) (ds : List Value) (dvs : List V), mg nm = some (.ref f) ∧ PySem.W.keepIn K (.ref f) = true ∧ Fn P w K mg base g k f fd ps S ∧ Binds K fd ps ds ∧ Vals dvs ds ∧ ∀ G, RpA K G dvs df
section
variable {X : Cx} {O : Own} {ρ : List Slot} {x : ExK} {k k' : Slot → Own → Prop} {kl kl' : List Slot → Own → Prop} {e a b c : Expr} {es : List Expr} {pos p : Pos} {D : SD} {g g' : Bool} {j n : Nat} {S : SpecT} {df : List Dat}
theorem StOk.next {K : PySem.W.Frag} {H0 H H' : Hp} {O O' : Own} {σ : SV} {ρ : List Slot} (h : StOk K H0 O σ ρ H) (o : OwnOk K O' H') (s : Same (hid O H) (hid O' H')) : StOk K H0 O' σ ρ H' :=
  ⟨o, h.base.trans s, pmap (fun _ _ z => EnvOk.mono s z) h.env⟩
/-- what follows a call -/
@[reducible] def kOut (x : ExK) (ρ : List Slot) (k : Slot → Own → Prop) : Out → Own → Prop
  | .ret s, O => k s O
  | .exc e, O => x e ρ O
theorem run_call {f : Addr} {fd : FuncData} {ps : List Str} {ds : List Value} {dvs vs : List V} {us : List Value} {ss : List Slot} {pins : List (Addr × Obj)} {s : Shared} {σ : SV} {H0 H : Hp} {Q : VK}
    (F : Fn X.prog X.w X.K X.mg X.base g n f fd ps S) (hr : RoomB g n X.A) (hb : Binds X.K fd ps ds) (hd : Vals dvs ds) (hdf : ∀ G, RpA X.K G dvs df) (I : Inv X pins σ H s) (st : StOk X.K H0 O σ ρ H) (tk : Takes X (Wsem X.K H0 x)) (rv : Vals vs us)
    (pr : Paired (SlOk X.K (hid O H)) vs ss) (hS : S (ss ++ df.map .dat) O (kOut x ρ k)) (q : ∀ v H' s O', k s O' → StOk X.K H0 O' σ ρ H' → SlOk X.K (hid O' H') v s → Q v H') :
    wpAny (model X.prog X.w) X.A (call (.ref f) us) (EP X pins σ Q) X.xe s := by
  have r2 : Vals (vs ++ dvs) (us ++ ds) := rv.append hd
  have sp : spS X.K S (vs ++ dvs) H Q (fun cls d H' => Wsem X.K H0 x cls d σ H') := ⟨O, ss ++ df.map .dat, kOut x ρ k, st.own, paired_app pr (hdf _).paired, hS,
    fun v H' s' O' h1 h2 h3 h4 => q v H' s' O' h1 (st.next h2 h3) h4, fun cls d e H' O' h1 h2 h3 h4 => ⟨e, ρ, O', h1, st.next h2 h3, h4⟩⟩
  have hl : (us ++ ds).length = ps.length := by rw [← r2.length]; exact spS_len F.len _ _ _ _ sp
  refine wpAny_call (codeAny_mono (F.run X.A X.stack s H ⟨us, []⟩ (us ++ ds) (vs ++ dvs) Q _ hr I.env0 (hb s us I.kIn hl) r2 sp) fun r s' hq => ?_)
  cases r with
  | error e => exact tk e s' (XE.of_call I (fun _ _ _ h => h) hq)
  | ok fl =>
    cases fl with
    | ret u => exact I.after hq
    | next => exact False.elim hq
    | brk => exact False.elim hq
    | cont => exact False.elim hq
theorem ew_call {nm : Str} (cl : Cal X.prog X.w X.K X.mg X.base g n nm S df) (hr : RoomB g' j X.A) (h : AW X O ρ (e :: es) x fun ss O1 => S (ss ++ df.map .dat) O1 (kOut x ρ k)) (hj : n ≤ j := by decide) (hgg : g = true → g' = true := by first | exact fun _ => rfl | exact fun h => h | exact fun h => nomatch h)
    (hg : Gl X nm := by rfl) (hdb : (nm == ("__debug__" : Str)) = false := by decide) (he : starEach (e :: es) X.env = (false, eval e X.env) :: starEach es X.env := by rfl) (hpl : (backTo pos (starEach es X.env)).any (·.1) = false := by rfl) :
    EW X O ρ (.Call (.Name nm p) (e :: es) [] pos) x k := fun H0 σ H st tk Q q => ⟨fun pins s I => by
  obtain ⟨f, fd, ps, ds, dvs, hm, hk, F, hb, hd, hdf⟩ := cl
  refine wpAny_Call_Name_kw (ld_glob I hg hm ?_ hdb)
  refine PySem.W.callWith_K (h₀ := X.base) I.ok.mod.kin hk (thn ((pa_w (es := e :: es)).run pos pins s σ H (fun vs H1 => ∃ ss O1, StOk X.K H0 O1 σ ρ H1 ∧ Paired (SlOk X.K (hid O1 H1)) vs ss ∧ S (ss ++ df.map .dat) O1 (kOut x ρ k)) I (h H0 σ H st tk _ fun vs H1 ss O1 h1 st1 r1 => ⟨ss, O1, st1, r1, h1⟩)) fun us s1 hq => ?_) he hpl
  obtain ⟨vs, H1, I1, rv, ss, O1, st1, pr, hS⟩ := hq
  exact ⟨I1.kIn, run_call F (hr.mono hj hgg) hb hd hdf I1 st1 tk rv pr hS q⟩⟩
theorem ew_call0 {nm : Str} (cl : Cal X.prog X.w X.K X.mg X.base g n nm S df) (hr : RoomB g' j X.A) (h : S (df.map .dat) O (kOut x ρ k)) (hj : n ≤ j := by decide) (hgg : g = true → g' = true := by first | exact fun _ => rfl | exact fun h => h | exact fun h => nomatch h)
    (hg : Gl X nm := by rfl) (hdb : (nm == ("__debug__" : Str)) = false := by decide) : EW X O ρ (.Call (.Name nm p) [] [] pos) x k := fun H0 σ H st tk Q q => ⟨fun pins s I => by
  obtain ⟨f, fd, ps, ds, dvs, hm, hk, F, hb, hd, hdf⟩ := cl
  refine wpAny_Call_Name_kw (ld_glob I hg hm ?_ hdb)
  exact PySem.W.callWith_K0 I.kIn hk (run_call (us := []) (vs := []) (ss := []) F (hr.mono hj hgg) hb hd hdf I st tk .nil .nil h q)⟩
/-! ### exceptions of one's own that are made by their __init__ -/
/-- what the written part says of such a class, its own __init__ with a contract -/
structure ExCls (P : Program) (w : World) (K : PySem.W.Frag) (mg : Str → Option Value) (base : Heap) (n : Nat) (nm : Str) (C : Addr) (S : SpecT) : Prop where
  oex : OexC K C
  mgC : mg nm = some (.ref C)
  ini : ∃ (f : Addr) (fd : FuncData) (ps : List Str), PySem.W.findIn K (.ref C) "__init__" = some (some (.ref f)) ∧ PySem.W.typeIn K (.ref f) = some (.type "function") ∧ Fn P w K mg base false n f fd ps S ∧ Binds K fd ps []
/-- __init__ of such a class: the new exception at a -/
def MkEx (C : Addr) (S : SpecT) (x : ExK) (ρ : List Slot) : List Slot → Own → Prop := fun ss O1 => ss.length ≤ 1000 ∧ ∀ a, O1 a = none → S (.own a :: ss) (up O1 a (.exo C none)) fun o O2 =>
  ∃ s, o = .ret s ∧ s = .dat .non ∧ ∃ (d : Addr) (fs : List (Str × Dat)), O2 a = some (.exo C (some d)) ∧ O2 d = some (.exd (fs.map fun q => (q.1, .dat q.2))) ∧ O1 d = none ∧ x (.own C fs) ρ (dn (dn O2 a) d)
theorem exo_ext {p C : Addr} {d : Option Addr} : ∃ φ, L2.exo p C d = .ext φ := ⟨_, rfl⟩
theorem s1_raise {nm : Str} {C : Addr} {pos2 : Pos} (cl : ExCls X.prog X.w X.K X.mg X.base n nm C S) (hr : RoomB g' j X.A) (h : AW X O ρ (e :: es) x (MkEx C S x ρ)) (hj : n + 1 ≤ j := by decide) (hc : X.calm = true := by rfl)
    (hg : Gl X nm := by rfl) (hdb : (nm == ("__debug__" : Str)) = false := by decide) (he : starEach (e :: es) X.env = (false, eval e X.env) :: starEach es X.env := by rfl) (hpl : (backTo pos (starEach es X.env)).any (·.1) = false := by rfl) :
    S1 X O ρ (.Raise (some (.Call (.Name nm p) (e :: es) [] pos)) none pos2) x D := fun H0 σ H st tk E ok => by
  obtain ⟨f, fd, ps, iC, tI, F, hb⟩ := cl.ini
  have pm := pmk_oex (X := X) (p := p) (pos := pos) (CX := L2.CX X.prog X.w) (sp := spS X.K S) (dvs := []) (ds := []) cl.oex iC tI F.ok (hr.r.mono hj) hb .nil passL hg cl.mgC (pa_w (es := e :: es)) hdb he hpl
  refine ws_of (ps_raise hc tk pm) ?_
  refine h H0 σ H st tk _ fun vs H1 ss O1 hm st1 pr => ?_
  obtain ⟨hl, hm⟩ := hm
  refine ⟨by rw [paired_len pr]; exact hl, fun a ha => ?_⟩
  have hO : O1 a = none := own_free st1.own ha
  have st2 := st1.alloc (o := L2.exo a C none) (c := .exo C none) ha rfl
  rw [List.append_nil]
  refine ⟨up O1 a (.exo C none), .own a :: ss, _, st2.own, .cons rfl (pmap (fun _ _ z => SlOk.mono (by
    intro b o hb
    obtain ⟨z1, z2⟩ := of_hid hb
    have nb := ne_of_none z2 ha
    rw [hid_none (by rw [up_ne nb]; exact z1), upd_ne nb]
    exact z2) z) pr), hm a hO, fun v H2 s O2 hR own2 sm2 r2 => ?_, fun cls d ee H2 O2 hR => ?_⟩
  · obtain ⟨s', e1, e2, d, fs, ca, cd, nd, hx⟩ := hR
    cases e1
    subst e2
    cases r2
    obtain ⟨oa, ha1, ha2⟩ := own2.cell a _ ca
    obtain ⟨od, hd1, fv, hd2, hd3⟩ := own2.cell d _ cd
    subst ha2 hd2
    have nda : d ≠ a := fun z => by rw [z, ca] at cd; cases cd
    have sm1 : Same (hid O1 H1) (hid (up O1 a (.exo C none)) (upd H1 a (L2.exo a C none))) := fun b o hb => by
      obtain ⟨z1, z2⟩ := of_hid hb
      have nb := ne_of_none z2 ha
      rw [hid_none (by rw [up_ne nb]; exact z1), upd_ne nb]
      exact z2
    have hd0 : H1 d = none := by
      cases hz : H1 d with
      | none => rfl
      | some o =>
        have z1 : hid O1 H1 d = some o := by rw [hid_none nd]; exact hz
        have z2 := sm2 d o (sm1 d o z1)
        rw [hid_some cd] at z2; cases z2
    have gS : Same (hid O2 H2) (hid (dn (dn O2 a) d) (upd (del H2 a) d (.xd fv))) := fun b o hb => by
      obtain ⟨z1, z2⟩ := of_hid hb
      have nba : b ≠ a := fun z => by rw [z, ca] at z1; cases z1
      have nbd : b ≠ d := fun z => by rw [z, cd] at z1; cases z1
      rw [hid_none (by rw [dn_ne nbd, dn_ne nba]; exact z1), upd_ne nbd, del_ne nba]
      exact z2
    have own3 : OwnOk X.K (dn (dn O2 a) d) (upd (del H2 a) d (.xd fv)) := ⟨fun q c hq => by
      have nqd : q ≠ d := fun z => by rw [z, dn_at] at hq; cases hq
      rw [dn_ne nqd] at hq
      have nqa : q ≠ a := fun z => by rw [z, dn_at] at hq; cases hq
      rw [dn_ne nqa] at hq
      obtain ⟨o, z1, z2⟩ := own2.cell q c hq
      exact ⟨o, by rw [upd_ne nqd, del_ne nqa]; exact z1, ClOk.mono gS z2⟩⟩
    refine ⟨rfl, d, fv, ha1, hd1, hd0, _, ρ, _, hx, st1.next own3 ((sm1.trans sm2).trans gS), rfl, d, fv, rfl, dn_at, upd_same, RpF.of_paired (pmap (fun _ _ z => ⟨z.1, SlOk.mono gS z.2⟩) hd3)⟩
  · obtain ⟨s', e1, _⟩ := hR
    cases e1
end
end Kn
/-! KnE: the making of exceptions from within, try, what is asked of a caught one. -/
namespace Kn
open PySem PySem.Spec PyProof.Rows
open L2 hiding St
/-! ### isinstance(e, C) of an exception that has its own dict -/
section
open PySem.W PySem.Calls
variable {prog : Program} {w : World} {A : Around} {E : Value → Shared → Prop} {s : Shared} {K : Frag} {x D : Addr} {ox : Obj} {od : Option Obj}
theorem class_of_exc {Q : Option Value → Shared → Prop} (T : ExcC K D) (X : K.In s.heap) (I : InstAt s.heap x ox D od) (h : Q (some (.ref D)) { s with toks := s.toks + 1 }) : wpAny (model prog w) A (getAttr? (.ref x) "__class__") Q E s :=
  kx_classE X I T.hg T.hk T.hs (findObj_dataE (let ⟨_, e, _⟩ := any_some T.hd; e ▸ rfl) T.ha T.hn T.ht) T.hm h
/-- an exception's class lies in K, as a class -/
theorem exc_cls (T : ExcC K D) : ∃ o, K.lookup D = some o ∧ (∃ cd, o.data = .cls cd) := by
  obtain ⟨cd, e, _⟩ := any_some T.hd
  unfold clsIn at e
  split at e
  · rename_i k
    exact ⟨_, k, _, rfl⟩
  · cases e
theorem kit_exc (T : ExcC K D) : KitX K (.ref x) (.ref D) (fun h => ∃ od, InstAt h x ox D od) where
  ty := fun _ _ _ ⟨_, I⟩ => I.type
  it := fun _ _ X _ A Q E s keep q => by
    obtain ⟨o, k, _, isCls⟩ := exc_cls T
    unfold isType loadHead
    refine wpAny_bind (wpAny_loadPart (keep _ _ (X _ _ k)) ?_)
    rw [isCls]
    exact wpAny_pure q
  ne := fun h tp dd its n sl X tup => by
    obtain ⟨o, k, _, isCls⟩ := exc_cls T
    rw [beq_eq_false_iff_ne]
    intro same
    rw [← Value.ref.inj same, X _ _ k] at tup
    rw [Option.some.inj tup] at isCls
    cases isCls
  ca := fun X ⟨_, I⟩ kk => class_of_exc T X I kk
end
section
variable {X : Cx} {O : Own} {ρ : List Slot} {x : ExK} {k k' : Slot → Own → Prop} {kl kl' : List Slot → Own → Prop} {e a b c o : Expr} {es : List Expr} {pos p p1 p2 p' : Pos} {D : SD} {g g' : Bool} {j n : Nat} {S : SpecT} {df : List Dat}
/-! ### within an __init__ -/
/-- Base.__init__(self, ..): Base a class of one's own (over ValueError) that has no __init__ -/
structure BaseIni (K : PySem.W.Frag) (mg : Str → Option Value) (nm : Str) : Prop where
  ex : ∃ (C : Addr) (mc : Value), mg nm = some (.ref C) ∧ ClX.CRead K C mc ∧ PySem.W.findCls K (.ref C) mc "__init__" = some (.val (.builtin "ValueError.__init__"))
theorem pe_kinit {nm : Str} {ta : TA} {pl : Sem Bool} (T : BaseIni X.K X.mg nm) (hg : Gl X nm) (ha : PA X (e :: es) ta)
    (hc : eval (.Call (.Attribute (.Name nm p1) "__init__" p2) (e :: es) [] pos) X.env = (do
      let ov ← eval (.Name nm p1) X.env
      standAt p2.atName
      let (f, first) ← holding [ov] (getMethod ov "__init__" pl)
      callWith pos f first (backTo pos (starEach (e :: es) X.env)) (backToKw pos (keywordEach [] X.env))) := by rfl)
    (he : starEach (e :: es) X.env = (false, eval e X.env) :: starEach es X.env := by rfl) (hpl : (backTo pos (starEach es X.env)).any (·.1) = false := by rfl) (hdb : (nm == ("__debug__" : Str)) = false := by decide) :
    PE X (.Call (.Attribute (.Name nm p1) "__init__" p2) (e :: es) [] pos) (tVeI X.K ta) := by
  obtain ⟨C0, mc, hm, hr, hf⟩ := T.ex
  constructor
  intro pins s σ H Q I want
  refine PySem.W.methodCall_KW (ld_glob I hg hm ?_ hdb) hc
  refine PySem.W.method_cls I.kIn hr.ga (PySem.W.cls_value I.kIn hr.rd hf (by decide +kernel) ?_)
  show wpAny _ _ (callWith pos _ _ _ _) _ _ _
  refine PyProof.Rows.callWith_method1 (thn (ha.run pos pins _ σ H _ (I.tok _) want) ?_) he hpl
  rintro us t ⟨vs, H1, I1, r1, a, C, ws, rfl, size, T, at_, q⟩
  cases r1 with
  | @cons _ u _ us' same rest =>
    cases (show u = Value.ref a from same)
    exact oinit_ok T I1 at_ (by rw [← Paired.length rest, sizeLine_eq]; omega) fun t J => ⟨.non, H1, J, rfl, q⟩
theorem ew_kinit {nm : Str} {pl : Sem Bool} (T : BaseIni X.K X.mg nm) (h : AW X O ρ (e :: es) x fun ss O1 => ∃ (a C : Addr) (ws : List Slot), ss = .own a :: ws ∧ ws.length ≤ 1000 ∧ OexC X.K C ∧ O1 a = some (.exo C none) ∧ k (.dat .non) O1) (hg : Gl X nm := by rfl)
    (hc : eval (.Call (.Attribute (.Name nm p1) "__init__" p2) (e :: es) [] pos) X.env = (do
      let ov ← eval (.Name nm p1) X.env
      standAt p2.atName
      let (f, first) ← holding [ov] (getMethod ov "__init__" pl)
      callWith pos f first (backTo pos (starEach (e :: es) X.env)) (backToKw pos (keywordEach [] X.env))) := by rfl)
    (he : starEach (e :: es) X.env = (false, eval e X.env) :: starEach es X.env := by rfl) (hpl : (backTo pos (starEach es X.env)).any (·.1) = false := by rfl) (hdb : (nm == ("__debug__" : Str)) = false := by decide) :
    EW X O ρ (.Call (.Attribute (.Name nm p1) "__init__" p2) (e :: es) [] pos) x k := fun H0 σ H st tk Q q =>
  we_of (pe_kinit (pl := pl) T hg pa_w hc he hpl hdb) (h H0 σ H st tk _ fun vs H1 ss O1 ⟨a, C, ws, e1, h1, h2, h3, h4⟩ st1 pr => by
    subst e1
    cases pr with
    | cons r1 r2 =>
      rename_i v vs'
      obtain rfl : v = .ref a := r1
      obtain ⟨oa, z1, z2⟩ := st1.own.cell a _ h3
      subst z2
      exact ⟨a, C, vs', rfl, by rw [paired_len r2]; exact h1, h2, z1, q _ H1 _ O1 h4 st1 .non⟩)
/-- self.f = e, self an exception that is being made -/
theorem s1_ost {f : Str} (h : EW X O ρ e x fun s1 O1 => EW X O1 ρ o x fun s2 O2 => ∃ a C, s2 = .own a ∧ OexC X.K C ∧ PySem.W.findIn X.K (.ref C) f = some none ∧
      ((O2 a = some (.exo C none) ∧ ∀ dx, O2 dx = none → D.nx ρ (up (up O2 dx (.exd [(f, s1)])) a (.exo C (some dx)))) ∨
        ∃ dx fs, O2 a = some (.exo C (some dx)) ∧ O2 dx = some (.exd fs) ∧ fs.length ≤ 900 ∧ D.nx ρ (up O2 dx (.exd ((f, s1) :: fs)))))
    (hs : swapsWith e (some (.Attribute o f p')) pos.line X.env = pure false := by rfl) : S1 X O ρ (.Assign [.Attribute o f p'] e pos) x D := fun H0 σ H st tk E ok => by
  refine ws_of (ps_ost pe_w pe_w hs) (two h st tk (Q := fun y v2 H2 => ∃ a C : Addr, v2 = .ref a ∧ OexC X.K C ∧ PySem.W.findIn X.K (.ref C) f = some none ∧ ((H2 a = some (exo a C none) ∧ ∀ dx, H2 dx = none → dx ≠ a → E.nx σ (upd (upd H2 dx (exd dx [(f, y)])) a (exo a C (some dx)))) ∨
    ∃ (dx : Addr) (fs : List (Str × V)), H2 a = some (exo a C (some dx)) ∧ H2 dx = some (exd dx fs) ∧ fs.length ≤ 900 ∧ E.nx σ (upd H2 dx (exd dx ((f, y) :: fs))))) fun y v2 s1 s2 O2 H2 hp st2 r1 r2 => ?_)
  obtain ⟨a, C, e1, h1, h2, h3⟩ := hp
  subst e1
  obtain rfl : v2 = .ref a := r2
  refine ⟨a, C, rfl, h1, h2, ?_⟩
  rcases h3 with ⟨ca, hn⟩ | ⟨dx, fs, ca, cd, hl, hn⟩
  · obtain ⟨oa, z1, z2⟩ := st2.own.cell a _ ca
    subst z2
    refine .inl ⟨z1, fun dx hd nda => ?_⟩
    have hO := own_free st2.own hd
    have st3 := st2.alloc (o := exd dx [(f, y)]) (c := .exd [(f, s1)]) hd ⟨_, rfl, .cons ⟨rfl, r1⟩ .nil⟩
    have st4 := st3.write (p := a) (o := exo a C (some dx)) (c := .exo C (some dx)) (by rw [up_ne nda.symm]; exact ca) rfl
    exact ok.nx σ ρ _ _ (hn dx hO) st4
  · obtain ⟨oa, z1, z2⟩ := st2.own.cell a _ ca
    subst z2
    obtain ⟨od, z3, fv, z4, z5⟩ := st2.own.cell dx _ cd
    subst z4
    refine .inr ⟨dx, fv, z1, z3, by rw [paired_len z5]; exact hl, ?_⟩
    exact ok.nx σ ρ _ _ hn (st2.write (o := exd dx ((f, y) :: fv)) (c := .exd ((f, s1) :: fs)) cd ⟨_, rfl, .cons ⟨rfl, r1⟩ z5⟩)
/-! ### try -/
def ExMt (K : PySem.W.Frag) (e : Exn) (c : Value) (b : Bool) : Prop := match e with
  | .own C _ => PySem.W.exmOne K (.ref C) c = some b
  | .ty n => PySem.W.exmOne K (.type n) c = some b
theorem exMt_of {K : PySem.W.Frag} {O : Own} {H : Hp} {cls : Value} {d : Option Addr} {e : Exn} {c : Value} {b : Bool} (h : ExMt K e c b) (q : ExOk K O H cls d e) : PySem.W.exmOne K cls c = some b := by
  cases e with
  | own C fs => rw [q.1]; exact h
  | ty n =>
    have q : cls = .type n := q
    rw [q]; exact h
/-- the suite of a clause, for each way in which the exception may lie; i: the place of its name -/
def Suite (X : Cx) (i : Option Nat) (suite : List Stmt) (D : SD) (e : Exn) (ρ : List Slot) (O : Own) : Prop := match e with
  | .own C fs => ∀ (a dd : Addr) (oe : Obj) (pn : List (Addr × Obj)), Zc (.ref C) (some dd) oe → (∃ vs, oe.data = .fields vs) → O a = none →
      SW (X.suite a ((a, oe) :: pn)) O (match i with | some j => ρ.set j (.dat (.exc a dd fs)) | none => ρ) suite noX D
  | .ty n => ∀ (a : Addr) (d : Option Addr) (oe : Obj) (pn : List (Addr × Obj)), Zc (.type n) d oe → (∃ vs, oe.data = .fields vs) → O a = none →
      SW (X.suite a ((a, oe) :: pn)) O (match i with | some j => ρ.set j (.own a) | none => ρ) suite noX D
theorem StOk.unset {K : PySem.W.Frag} {H0 H : Hp} {σ : SV} (h : StOk K H0 O σ ρ H) (i : Nat) : StOk K H0 O (σ.set i none) (ρ.set i .unk) H := ⟨h.own, h.base, paired_set (x := none) env_none i h.env⟩
theorem suite_of {i : Option Nat} {suite : List Stmt} {ex : Exn} {H0 H : Hp} {σ : SV} {cls : Value} {d : Option Addr} {E : Ends} {a : Addr} {oe : Obj} {pn : List (Addr × Obj)} (h : Suite X i suite D ex ρ O) (st : StOk X.K H0 O σ ρ H) (hx : ExOk X.K O H cls d ex) (ha : H a = none)
    (hz : Zc cls d oe) (hf : ∃ vs, oe.data = .fields vs) (ok : EndsOk X.K H0 D E) : Wss (X.suite a ((a, oe) :: pn)) suite E (match i with | some j => σ.set j (some (.ref a)) | none => σ) H := by
  have hO := own_free st.own ha
  cases ex with
  | own C fs =>
    obtain ⟨e1, dd, fv, e2, n1, h1, h2⟩ := hx
    subst e1 e2
    have rr : SlOk X.K (hid O H) (.ref a) (.dat (.exc a dd fs)) := Rp.exc (by rw [hid_none n1]; exact h1) h2
    cases i with
    | none => exact h a dd oe pn hz hf hO H0 σ H st takes_no E ok
    | some j => exact h a dd oe pn hz hf hO H0 _ H (st.set (i := j) rr) takes_no E ok
  | ty nn =>
    have e1 : cls = .type nn := hx
    subst e1
    cases i with
    | none => exact h a d oe pn hz hf hO H0 σ H st takes_no E ok
    | some j => exact h a d oe pn hz hf hO H0 _ H (st.set (i := j) (v := .ref a) (s := .own a) rfl) takes_no E ok
/-- except C as n -/
theorem s1_try_as {nm nn : Str} {cc : Value} {body suite : List Stmt} {b₀ : Stmt} {np pos' : Pos} (i : Nat) (hN : X.N.Nodup) (hcn : Names X nm cc)
    (h : ∀ (pn : List (Addr × Obj)) (xe : Value → Shared → Prop), PassesOwn (model X.prog X.w) X.A X.env xe → SW (X.tr pn xe) O ρ body
      (fun e ρ' O' => ∃ t, ExMt X.K e cc t ∧ (t = true → Suite X (some i) (b₀ :: suite) { nx := fun ρ2 O2 => D.nx (ρ2.set i .unk) O2, rt := D.rt, bk := fun ρ2 O2 => D.bk (ρ2.set i .unk) O2, ct := fun ρ2 O2 => D.ct (ρ2.set i .unk) O2 } e ρ' O') ∧ (t = false → x e ρ' O')) D)
    (hs : X.stack = X.env :: X.outer := by rfl) (hf : X.env.frame = some X.env.locals := by rfl) (hi : X.N[i]? = some nn := by rfl) (hln : X.env.kindOf nn = some .local := by rfl) :
    S1 X O ρ (.Try body [.ExceptHandler (some (.Name nm np)) (some nn) (b₀ :: suite) pos'] [] [] pos) x D := fun H0 σ H st tk E ok => by
  refine ws_of (ps_try_as (X := X) (tb := fun W D σ H => ∀ pn xe, Takes (X.tr pn xe) W → PassesOwn (model X.prog X.w) X.A X.env xe → Wss (X.tr pn xe) body D σ H)
    (ts := fun a cls d D σ H => ∀ oe pn, Zc cls d oe → (∃ vs, oe.data = .fields vs) → Wss (X.suite a ((a, oe) :: pn)) (b₀ :: suite) D σ H) hs hf hN hi hln hcn tk
    (fun W pn xe tkW hpo => ⟨fun pins s σ H D I q => (q pn xe tkW hpo).r pins s I⟩) (fun a oe cls d pn hz hf => ⟨fun pins s σ H D I q => (q oe pn hz hf).r pins s I⟩)) ?_
  intro pn xe tkW hpo
  refine h pn xe hpo H0 σ H st (tkW.imp fun cls d σ' H' hw => ?_) E ok
  obtain ⟨ex, ρ', O', ⟨t, hm, hy, hn⟩, st', hx⟩ := hw
  refine ⟨t, exMt_of hm hx, fun ht a ha oe pn' hz hf' => ?_, fun ht => ⟨ex, ρ', O', hn ht, st', hx⟩⟩
  exact suite_of (i := some i) (hy ht) st' hx ha hz hf' ⟨fun σ2 ρ2 O2 H2 q s => ok.nx _ _ O2 H2 q (s.unset i), ok.rt, fun σ2 ρ2 O2 H2 q s => ok.bk _ _ O2 H2 q (s.unset i), fun σ2 ρ2 O2 H2 q s => ok.ct _ _ O2 H2 q (s.unset i)⟩
/-- except C -/
theorem s1_try_only {nm : Str} {cc : Value} {body suite : List Stmt} {b₀ : Stmt} {np pos' : Pos} (hcn : Names X nm cc)
    (h : ∀ (pn : List (Addr × Obj)) (xe : Value → Shared → Prop), PassesOwn (model X.prog X.w) X.A X.env xe → SW (X.tr pn xe) O ρ body
      (fun e ρ' O' => ∃ t, ExMt X.K e cc t ∧ (t = true → Suite X none (b₀ :: suite) D e ρ' O') ∧ (t = false → x e ρ' O')) D)
    (hs : X.stack = X.env :: X.outer := by rfl) (hf : X.env.frame = some X.env.locals := by rfl) :
    S1 X O ρ (.Try body [.ExceptHandler (some (.Name nm np)) none (b₀ :: suite) pos'] [] [] pos) x D := fun H0 σ H st tk E ok => by
  refine ws_of (ps_try_only (X := X) (tb := fun W D σ H => ∀ pn xe, Takes (X.tr pn xe) W → PassesOwn (model X.prog X.w) X.A X.env xe → Wss (X.tr pn xe) body D σ H)
    (ts := fun a cls d D σ H => ∀ oe pn, Zc cls d oe → (∃ vs, oe.data = .fields vs) → Wss (X.suite a ((a, oe) :: pn)) (b₀ :: suite) D σ H) hs hf hcn tk
    (fun W pn xe tkW hpo => ⟨fun pins s σ H D I q => (q pn xe tkW hpo).r pins s I⟩) (fun a oe cls d pn hz hf => ⟨fun pins s σ H D I q => (q oe pn hz hf).r pins s I⟩)) ?_
  intro pn xe tkW hpo
  refine h pn xe hpo H0 σ H st (tkW.imp fun cls d σ' H' hw => ?_) E ok
  obtain ⟨ex, ρ', O', ⟨t, hm, hy, hn⟩, st', hx⟩ := hw
  refine ⟨t, exMt_of hm hx, fun ht a ha oe pn' hz hf' => ?_, fun ht => ⟨ex, ρ', O', hn ht, st', hx⟩⟩
  exact suite_of (i := none) (hy ht) st' hx ha hz hf' ok
/-! ### in a suite: e.f and isinstance(e, C) of the caught e -/
theorem ew_exf {f : Str} {aa dd C : Addr} {oe : Obj} {pn : List (Addr × Obj)} (T : XfC X.K C) (hno : PySem.W.findIn X.K (.ref C) f = some none) (hz : Zc (.ref C) (some dd) oe) (hf : ∃ vs, oe.data = .fields vs)
    (h : EW (X.suite aa ((aa, oe) :: pn)) O ρ e x fun s O1 => ∃ fs d, s = .dat (.exc aa dd fs) ∧ fs.lookup f = some d ∧ k (.dat d) O1) (hb : attributeBase e f X.env (eval e X.env) = eval e X.env := by rfl) :
    EW (X.suite aa ((aa, oe) :: pn)) O ρ (.Attribute e f pos) x k := fun H0 σ H st tk Q q =>
  we_of (pe_xf T hno hz hf pe_w hb) (h H0 σ H st tk _ fun v H1 s O1 ⟨fs, d, e1, h1, h2⟩ st1 r1 => by
    subst e1
    cases r1 with
    | exc h3 h4 =>
      obtain ⟨v, h5, h6⟩ := h4.lookup h1
      exact ⟨rfl, rfl, dd, _, v, rfl, hid_le _ _ h3, h5, q v H1 _ O1 h2 st1 h6⟩)
theorem cb_isE {aa dd C C' : Addr} {oe : Obj} {pn : List (Addr × Obj)} {fs : List (Str × Dat)} {t : Bool} (T : ExcC X.K C) (hz : Zc (.ref C) (some dd) oe) (hf : ∃ vs, oe.data = .fields vs) (hk : PySem.W.kitOne X.K (.ref C) (.ref C') = some t) (h : k (.dat (.bl t)) O) :
    CaB (X.suite aa ((aa, oe) :: pn)) (.builtin "isinstance") [.dat (.exc aa dd fs), .dat (.cls C')] O k := by
  refine ⟨fun xs H Q => xs = [.ref aa, .ref C'] ∧ (∃ fv, H dd = some (.xd fv)) ∧ Q (.bl t) H, ?_, ?_⟩
  · intro pins s σ H xs us Q I r hq
    obtain ⟨rfl, ⟨fv, hdd⟩, q⟩ := hq
    cases r with
    | cons rx rr =>
      cases rr with
      | cons rt rr =>
        cases rr
        cases rx
        cases rt
        obtain ⟨hget, _⟩ := I.pin (aa, oe) (List.mem_append.mpr (.inl List.mem_cons_self))
        obtain ⟨vs, hv⟩ := hf
        have hx : ObjOk X.prog X.w H s.heap dd (.xd fv) := I.hok dd _ hdd
        obtain ⟨mA, hns, _⟩ := hx
        obtain ⟨od, ho, _⟩ := lookIn_ns hns
        have J : PySem.W.InstAt s.heap aa oe C (some od) := ⟨hget, hz.1, by unfold PySem.W.notCls; rw [hv] <;> rfl, by rw [hz.2]; exact ho⟩
        exact PySem.W.kia_one (kit_exc T) I.kIn ⟨_, J⟩ hk (fun z => nomatch z) fun tk => ⟨.bl t, H, I.kept (t' := tk) fun _ _ z => z, rfl, q⟩
  · intro H0 σ ρ H vs st pr Q q
    cases pr with
    | cons r1 pr =>
      cases pr with
      | cons r2 pr =>
        cases pr
        cases r1 with
        | exc h3 h4 =>
          cases r2
          exact ⟨rfl, ⟨_, hid_le _ _ h3⟩, q _ H _ O h st (.bl t)⟩
end
end Kn
/-! KnF: operators, built-in functions and methods by what they are given. -/
namespace Kn
open PySem PySem.Spec PyProof.Rows
open L2 hiding St
/-! ### data as the library's data -/
mutual
def toPy : Dat → PyData
  | .non => .none
  | .bl b => .bool b
  | .int i => .int i
  | .str x => .str x
  | .lst xs => .list (toPys xs)
  | .fro xs => .list (toPys xs)
  | .tup xs => .tuple (toPys xs)
  | _ => .none
def toPys : List Dat → List PyData
  | [] => []
  | d :: ds => toPy d :: toPys ds
end
mutual
def plain : Dat → Bool
  | .non => true
  | .bl _ => true
  | .int _ => true
  | .str _ => true
  | .lst xs => plains xs
  | .fro xs => plains xs
  | .tup xs => plains xs
  | _ => false
def plains : List Dat → Bool
  | [] => true
  | d :: ds => plain d && plains ds
end
section
variable {K : PySem.W.Frag} {G H : Hp} {O : Own}
mutual
theorem Rp.dp {v : V} : ∀ {d : Dat}, plain d = true → Rp K G v d → Dp K G v (toPy d)
  | .non, _, h => by cases h; exact .non
  | .bl b, _, h => by cases h; exact .bl b
  | .int i, _, h => by cases h; exact .int i
  | .str x, _, h => by cases h; exact .str x
  | .lst ds, p, h => by
    cases h with
    | lst h1 h2 => exact .lst (sql_at h1) (RpA.dp p h2)
  | .fro ds, p, h => by
    cases h with
    | fro h1 h2 => exact .lst h1 (RpA.dp p h2)
  | .tup ds, p, h => by
    cases h with
    | tup h1 h2 => exact .tup h1 (RpA.dp p h2)
theorem RpA.dp : ∀ {vs : List V} {ds : List Dat}, plains ds = true → RpA K G vs ds → DpAll K G vs (toPys ds)
  | _, [], _, h => by cases h; exact .nil
  | _, d :: ds, p, h => by
    cases h with
    | cons h1 h2 =>
      obtain ⟨p1, p2⟩ := Bool.and_eq_true_iff.mp p
      exact .cons (Rp.dp p1 h1) (RpA.dp p2 h2)
end
theorem Rp.tk {v : V} {d : Dat} (h : Rp K (hid O H) v d) : Rp K H v d := Rp.mono hid_le h
end
section
variable {X : Cx} {O : Own} {ρ : List Slot} {x : ExK} {k k' : Slot → Own → Prop} {kl kl' : List Slot → Own → Prop} {e a b c o : Expr} {es : List Expr} {pos p apos : Pos} {D : SD}
/-! ### ints -/
theorem ob_add {i j : Int} (h : k (.dat (.int (i + j))) O) : OpB X (binaryOp .Add) (.dat (.int i)) (.dat (.int j)) O k := ⟨_, op_add, fun H0 σ ρ H v1 v2 st r1 r2 Q q => by
  cases r1; cases r2; exact ⟨i, j, rfl, rfl, q _ H _ O h st (.int _)⟩⟩
theorem ob_sub {i j : Int} (h : k (.dat (.int (i - j))) O) : OpB X (binaryOp .Sub) (.dat (.int i)) (.dat (.int j)) O k := ⟨_, op_sub, fun H0 σ ρ H v1 v2 st r1 r2 Q q => by
  cases r1; cases r2; exact ⟨i, j, rfl, rfl, q _ H _ O h st (.int _)⟩⟩
theorem ob_mul {i j : Int} (hb : (-(2 ^ 64) < i ∧ i < 2 ^ 64) ∨ (-(2 ^ 64) < j ∧ j < 2 ^ 64)) (h : k (.dat (.int (i * j))) O) : OpB X (binaryOp .Mult) (.dat (.int i)) (.dat (.int j)) O k := ⟨_, op_mul, fun H0 σ ρ H v1 v2 st r1 r2 Q q => by
  cases r1; cases r2; exact ⟨i, j, rfl, rfl, hb, q _ H _ O h st (.int _)⟩⟩
theorem ob_mod {i j : Int} (hb : 0 < j) (h : k (.dat (.int (i % j))) O) : OpB X (binaryOp .Mod) (.dat (.int i)) (.dat (.int j)) O k := ⟨_, op_mod, fun H0 σ ρ H v1 v2 st r1 r2 Q q => by
  cases r1; cases r2; exact ⟨i, j, rfl, rfl, hb, q _ H _ O h st (.int _)⟩⟩
theorem ob_fdiv {i j : Int} (hb : 0 < j ∧ j < 1073741824) (h : k (.dat (.int (i / j))) O) : OpB X (binaryOp .FloorDiv) (.dat (.int i)) (.dat (.int j)) O k := ⟨_, op_fdiv, fun H0 σ ρ H v1 v2 st r1 r2 Q q => by
  cases r1; cases r2; exact ⟨i, j, rfl, rfl, hb, q _ H _ O h st (.int _)⟩⟩
theorem ob_pow {i j : Int} (hb : 0 ≤ j ∧ j ≤ 1000000 ∧ i.natAbs < 2 ^ 64) (h : k (.dat (.int (i ^ j.toNat))) O) : OpB X (binaryOp .Pow) (.dat (.int i)) (.dat (.int j)) O k := ⟨_, op_pow, fun H0 σ ρ H v1 v2 st r1 r2 Q q => by
  cases r1; cases r2; exact ⟨i, j, rfl, rfl, hb, q _ H _ O h st (.int _)⟩⟩
theorem ob_lt {i j : Int} (h : k (.dat (.bl (decide (i < j)))) O) : OpB X (compareOp .Lt) (.dat (.int i)) (.dat (.int j)) O k := ⟨_, op_lt, fun H0 σ ρ H v1 v2 st r1 r2 Q q => by
  cases r1; cases r2; exact ⟨i, j, rfl, rfl, q _ H _ O h st (.bl _)⟩⟩
theorem ob_le {i j : Int} (h : k (.dat (.bl (decide (i ≤ j)))) O) : OpB X (compareOp .LtE) (.dat (.int i)) (.dat (.int j)) O k := ⟨_, op_le, fun H0 σ ρ H v1 v2 st r1 r2 Q q => by
  cases r1; cases r2; exact ⟨i, j, rfl, rfl, q _ H _ O h st (.bl _)⟩⟩
theorem ob_gt {i j : Int} (h : k (.dat (.bl (decide (j < i)))) O) : OpB X (compareOp .Gt) (.dat (.int i)) (.dat (.int j)) O k := ⟨_, op_gt, fun H0 σ ρ H v1 v2 st r1 r2 Q q => by
  cases r1; cases r2; exact ⟨i, j, rfl, rfl, q _ H _ O h st (.bl _)⟩⟩
theorem ob_ge {i j : Int} (h : k (.dat (.bl (decide (j ≤ i)))) O) : OpB X (compareOp .GtE) (.dat (.int i)) (.dat (.int j)) O k := ⟨_, op_ge, fun H0 σ ρ H v1 v2 st r1 r2 Q q => by
  cases r1; cases r2; exact ⟨i, j, rfl, rfl, q _ H _ O h st (.bl _)⟩⟩
theorem ou_neg {i : Int} (h : k (.dat (.int (-i))) O) : OpU X (unaryOp .USub) (.dat (.int i)) O k := ⟨_, un_neg, fun H0 σ ρ H v1 st r1 Q q => by
  cases r1; exact ⟨i, rfl, q _ H _ O h st (.int _)⟩⟩
/-! ### ==, !=, in on data -/
def eqD (a b : Dat) : Bool := PyData.eqv (toPy a) (toPy b)
theorem ob_eq {d1 d2 : Dat} (hr : Room 0 X.A) (p1 : plain d1 = true) (p2 : plain d2 = true) (s1 : SeqAt.shaped (toPy d1) = true) (s2 : SeqAt.shaped (toPy d2) = true) (h : k (.dat (.bl (eqD d1 d2))) O) : OpB X (compareOp .Eq) (.dat d1) (.dat d2) O k :=
  ⟨_, op_eqD hr.units, fun H0 σ ρ H v1 v2 st r1 r2 Q q => ⟨_, _, Rp.dp p1 (Rp.tk r1), Rp.dp p2 (Rp.tk r2), s1, s2, q _ H _ O h st (.bl _)⟩⟩
theorem ob_ne {d1 d2 : Dat} (hr : Room 0 X.A) (p1 : plain d1 = true) (p2 : plain d2 = true) (s1 : SeqAt.shaped (toPy d1) = true) (s2 : SeqAt.shaped (toPy d2) = true) (h : k (.dat (.bl (!eqD d1 d2))) O) : OpB X (compareOp .NotEq) (.dat d1) (.dat d2) O k :=
  ⟨_, op_neD hr.units, fun H0 σ ρ H v1 v2 st r1 r2 Q q => ⟨_, _, Rp.dp p1 (Rp.tk r1), Rp.dp p2 (Rp.tk r2), s1, s2, q _ H _ O h st (.bl _)⟩⟩
theorem ob_eqI {i j : Int} (h : k (.dat (.bl (decide (i = j)))) O) : OpB X (compareOp .Eq) (.dat (.int i)) (.dat (.int j)) O k := ⟨_, op_eq, fun H0 σ ρ H v1 v2 st r1 r2 Q q => by
  cases r1; cases r2
  refine ⟨rfl, q _ H _ O h st ?_⟩
  rw [show decide (V.int i = V.int j) = decide (i = j) by by_cases e : i = j <;> simp [e]]
  exact .bl _⟩
theorem ob_neI {i j : Int} (h : k (.dat (.bl (!decide (i = j)))) O) : OpB X (compareOp .NotEq) (.dat (.int i)) (.dat (.int j)) O k := ⟨_, op_ne, fun H0 σ ρ H v1 v2 st r1 r2 Q q => by
  cases r1; cases r2
  refine ⟨rfl, q _ H _ O h st ?_⟩
  rw [show decide (V.int i = V.int j) = decide (i = j) by by_cases e : i = j <;> simp [e]]
  exact .bl _⟩
theorem ob_eqS {y z : Str} (h : k (.dat (.bl (decide (y = z)))) O) : OpB X (compareOp .Eq) (.dat (.str y)) (.dat (.str z)) O k := ⟨_, op_eq, fun H0 σ ρ H v1 v2 st r1 r2 Q q => by
  cases r1; cases r2
  refine ⟨rfl, q _ H _ O h st ?_⟩
  rw [show decide (V.str y = V.str z) = decide (y = z) by by_cases e : y = z <;> simp [e]]
  exact .bl _⟩
theorem ob_neS {y z : Str} (h : k (.dat (.bl (!decide (y = z)))) O) : OpB X (compareOp .NotEq) (.dat (.str y)) (.dat (.str z)) O k := ⟨_, op_ne, fun H0 σ ρ H v1 v2 st r1 r2 Q q => by
  cases r1; cases r2
  refine ⟨rfl, q _ H _ O h st ?_⟩
  rw [show decide (V.str y = V.str z) = decide (y = z) by by_cases e : y = z <;> simp [e]]
  exact .bl _⟩
theorem ob_eqB {y z : Bool} (h : k (.dat (.bl (decide (y = z)))) O) : OpB X (compareOp .Eq) (.dat (.bl y)) (.dat (.bl z)) O k := ⟨_, op_eq, fun H0 σ ρ H v1 v2 st r1 r2 Q q => by
  cases r1; cases r2
  refine ⟨rfl, q _ H _ O h st ?_⟩
  rw [show decide (V.bl y = V.bl z) = decide (y = z) by cases y <;> cases z <;> rfl]
  exact .bl _⟩
theorem decide_non {v : V} {d : Dat} {K : PySem.W.Frag} {G : Hp} (r : Rp K G v d) : decide (v = .non) = (match d with | .non => true | _ => false) := by
  cases r <;> rfl
def isNon : Dat → Bool
  | .non => true
  | _ => false
theorem ob_isN {d : Dat} (h : k (.dat (.bl (isNon d))) O) : OpB X (compareOp .Is) (.dat d) (.dat .non) O k := ⟨_, op_isN, fun H0 σ ρ H v1 v2 st r1 r2 Q q => by
  cases r2
  refine ⟨rfl, q _ H _ O h st ?_⟩
  have e : decide (v1 = .non) = isNon d := by cases r1 <;> rfl
  rw [e]; exact .bl _⟩
theorem ob_isNotN {d : Dat} (h : k (.dat (.bl (!isNon d))) O) : OpB X (compareOp .IsNot) (.dat d) (.dat .non) O k := ⟨_, op_notN, fun H0 σ ρ H v1 v2 st r1 r2 Q q => by
  cases r2
  refine ⟨rfl, q _ H _ O h st ?_⟩
  have e : decide (v1 = .non) = isNon d := by cases r1 <;> rfl
  rw [e]; exact .bl _⟩
/-- a text among texts -/
theorem eqV_str (y z : Str) : eqV (.str y) (.str z) = (y == z) := rfl
theorem inV_strs {z : Str} : ∀ {ws : List Str}, inV (.str z) (ws.map V.str) = ws.any (· == z)
  | [] => rfl
  | y :: ws => by
    show (eqV (.str y) (.str z) || inV (.str z) (ws.map V.str)) = _
    rw [inV_strs, eqV_str]; rfl
theorem rpa_strs {K : PySem.W.Frag} {G : Hp} : ∀ {vs : List V} {ws : List Str}, RpA K G vs (ws.map .str) → vs = ws.map V.str
  | _, [], h => by cases h; rfl
  | _, w :: ws, h => by
    cases h with
    | cons h1 h2 =>
      cases h1
      rw [rpa_strs h2]; rfl
theorem all_flat (ws : List Str) : (ws.map V.str).all flatV = true := by
  induction ws with
  | nil => rfl
  | cons w ws ih =>
    rw [List.map_cons, List.all_cons, ih]; rfl
theorem ob_inT {z : Str} {ws : List Str} (h : k (.dat (.bl (ws.any (· == z)))) O) : OpB X (compareOp .In) (.dat (.str z)) (.dat (.tup (ws.map .str))) O k := ⟨_, op_in_seq, fun H0 σ ρ H v1 v2 st r1 r2 Q q => by
  cases r1
  cases r2 with
  | tup h1 h2 =>
    have e := rpa_strs h2
    subst e
    refine ⟨_, _, rfl, .inr (sqt_mono hid_le h1), rfl, all_flat ws, q _ H _ O h st ?_⟩
    rw [inV_strs]; exact .bl _⟩
theorem ob_niT {z : Str} {ws : List Str} (h : k (.dat (.bl (!ws.any (· == z)))) O) : OpB X (compareOp .NotIn) (.dat (.str z)) (.dat (.tup (ws.map .str))) O k := ⟨_, op_notIn_seq, fun H0 σ ρ H v1 v2 st r1 r2 Q q => by
  cases r1
  cases r2 with
  | tup h1 h2 =>
    have e := rpa_strs h2
    subst e
    refine ⟨_, _, rfl, .inr (sqt_mono hid_le h1), rfl, all_flat ws, q _ H _ O h st ?_⟩
    rw [inV_strs]; exact .bl _⟩
theorem ob_inL {z : Str} {ws : List Str} (h : k (.dat (.bl (ws.any (· == z)))) O) : OpB X (compareOp .In) (.dat (.str z)) (.dat (.lst (ws.map .str))) O k := ⟨_, op_in_seq, fun H0 σ ρ H v1 v2 st r1 r2 Q q => by
  cases r1
  cases r2 with
  | lst h1 h2 =>
    have e := rpa_strs h2
    subst e
    refine ⟨_, _, rfl, .inl (sql_at (hid_le _ _ h1)), rfl, all_flat ws, q _ H _ O h st ?_⟩
    rw [inV_strs]; exact .bl _⟩
theorem ob_niL {z : Str} {ws : List Str} (h : k (.dat (.bl (!ws.any (· == z)))) O) : OpB X (compareOp .NotIn) (.dat (.str z)) (.dat (.lst (ws.map .str))) O k := ⟨_, op_notIn_seq, fun H0 σ ρ H v1 v2 st r1 r2 Q q => by
  cases r1
  cases r2 with
  | lst h1 h2 =>
    have e := rpa_strs h2
    subst e
    refine ⟨_, _, rfl, .inl (sql_at (hid_le _ _ h1)), rfl, all_flat ws, q _ H _ O h st ?_⟩
    rw [inV_strs]; exact .bl _⟩
/-- one sign in a text -/
theorem ob_inS {c : Nat} {z : Str} (h : k (.dat (.bl (decide (c ∈ z.cps.toList)))) O) : OpB X (compareOp .In) (.dat (.str ⟨#[c]⟩)) (.dat (.str z)) O k := ⟨_, op_in_sign, fun H0 σ ρ H v1 v2 st r1 r2 Q q => by
  cases r1; cases r2; exact ⟨c, z, rfl, rfl, q _ H _ O h st (.bl _)⟩⟩
theorem ob_niS {c : Nat} {z : Str} (h : k (.dat (.bl (!decide (c ∈ z.cps.toList)))) O) : OpB X (compareOp .NotIn) (.dat (.str ⟨#[c]⟩)) (.dat (.str z)) O k := ⟨_, op_notIn_sign, fun H0 σ ρ H v1 v2 st r1 r2 Q q => by
  cases r1; cases r2; exact ⟨c, z, rfl, rfl, q _ H _ O h st (.bl _)⟩⟩
/-! ### texts, lists, tuples joined -/
theorem ob_cat {y z : Str} (hl : y.length + z.length ≤ sizeLine) (h : k (.dat (.str (y ++ z))) O) : OpB X (binaryOp .Add) (.dat (.str y)) (.dat (.str z)) O k := ⟨_, op_add_str, fun H0 σ ρ H v1 v2 st r1 r2 Q q => by
  cases r1; cases r2; exact ⟨y, z, rfl, rfl, hl, q _ H _ O h st (.str _)⟩⟩
theorem ob_catL {ds es : List Dat} (hl : ds.length + es.length ≤ sizeLine) (h : k (.dat (.lst (ds ++ es))) O) : OpB X (binaryOp .Add) (.dat (.lst ds)) (.dat (.lst es)) O k := ⟨_, op_cat, fun H0 σ ρ H v1 v2 st r1 r2 Q q => by
  cases r1 with
  | lst h1 h2 =>
    cases r2 with
    | lst h3 h4 =>
      refine ⟨_, _, _, _, rfl, rfl, hid_le _ _ h1, hid_le _ _ h3, by rw [h2.length, h4.length]; exact hl, fun p hp => q _ _ _ O h (st.grow (same_new hp)) ?_⟩
      exact .lst (by rw [hid_none (own_free st.own hp), upd_same]) (RpA.mono (hid_same (same_new hp)) (h2.append h4))⟩
/-- .. the new list a cell -/
theorem ob_catC {ds es : List Dat} (hl : ds.length + es.length ≤ sizeLine) (h : ∀ p, O p = none → k (.own p) (up O p (.lst ((ds ++ es).map .dat)))) : OpB X (binaryOp .Add) (.dat (.lst ds)) (.dat (.lst es)) O k := ⟨_, op_cat, fun H0 σ ρ H v1 v2 st r1 r2 Q q => by
  cases r1 with
  | lst h1 h2 =>
    cases r2 with
    | lst h3 h4 => exact ⟨_, _, _, _, rfl, rfl, hid_le _ _ h1, hid_le _ _ h3, by rw [h2.length, h4.length]; exact hl, fun p hp => q _ _ _ _ (h p (own_free st.own hp)) (st.alloc hp ⟨_, rfl, (h2.append h4).paired⟩) rfl⟩⟩
theorem ob_catT {ds es : List Dat} (hl : ds.length + es.length ≤ sizeLine) (h : k (.dat (.tup (ds ++ es))) O) : OpB X (binaryOp .Add) (.dat (.tup ds)) (.dat (.tup es)) O k := ⟨_, op_catA, fun H0 σ ρ H v1 v2 st r1 r2 Q q => by
  cases r1 with
  | tup h1 h2 =>
    cases r2 with
    | tup h3 h4 =>
      refine ⟨_, _, _, _, rfl, rfl, sqt_mono hid_le h1, sqt_mono hid_le h3, by rw [h2.length, h4.length]; exact hl, fun e1 => ?_, fun e1 e2 => ?_, fun e1 e2 p hp => ?_⟩
      · subst e1
        cases h2
        exact q _ H _ O h st (.tup h3 h4)
      · subst e2
        cases h4
        rw [List.append_nil] at h
        exact q _ H _ O h st (.tup h1 h2)
      · refine q _ _ _ O h (st.grow (same_new hp)) ?_
        exact .tup (.inl (.inl (by rw [hid_none (own_free st.own hp), upd_same]))) (RpA.mono (hid_same (same_new hp)) (h2.append h4))⟩
theorem replicate_rp {K : PySem.W.Frag} {G : Hp} {vs : List V} {ds : List Dat} (h : RpA K G vs ds) : ∀ n, RpA K G (List.replicate n vs).flatten (List.replicate n ds).flatten
  | 0 => .nil
  | n + 1 => by
    rw [List.replicate_succ, List.replicate_succ, List.flatten_cons, List.flatten_cons]
    exact h.append (replicate_rp h n)
theorem ob_rep {ds : List Dat} {n : Int} (hn : -(2 ^ 63) ≤ n ∧ n < 2 ^ 63) (hl : ds.length * n.toNat ≤ sizeLine) (h : k (.dat (.lst (List.replicate n.toNat ds).flatten)) O) : OpB X (binaryOp .Mult) (.dat (.lst ds)) (.dat (.int n)) O k := ⟨_, op_rep, fun H0 σ ρ H v1 v2 st r1 r2 Q q => by
  cases r2
  cases r1 with
  | lst h1 h2 =>
    refine ⟨_, n, _, rfl, rfl, hid_le _ _ h1, hn.1, hn.2, by rw [h2.length]; exact hl, fun p hp => q _ _ _ O h (st.grow (same_new hp)) ?_⟩
    exact .lst (by rw [hid_none (own_free st.own hp), upd_same]) (RpA.mono (hid_same (same_new hp)) (replicate_rp h2 _))⟩
/-- a text n times -/
def timesS (z : Str) (n : Int) : Str := if n < 1 then Str.empty else if (n == 1 || z.length == 0) = true then z else ⟨(List.replicate n.toNat z.cps).foldl (· ++ ·) #[]⟩
theorem op_timesS : OpR X (binaryOp .Mult) (fun v1 v2 H Q => ∃ z n, v1 = .str z ∧ v2 = .int n ∧ n < 1000 ∧ -1000 < n ∧ z.length ≤ 1000 ∧ Q (.str (timesS z n)) H) := by
  intro pins s σ H y z v u Q I rx ry h
  obtain ⟨zz, n, rfl, rfl, h1, h2, h3, q⟩ := h
  obtain ⟨t, rfl⟩ := rx
  obtain ⟨t', rfl⟩ := ry
  have hlen : zz.length * n.toNat ≤ 1000 * 1000 := Nat.mul_le_mul h3 (by omega)
  have hT : Builtin.Str.tooLong (zz.length * n.toNat) = false := by
    unfold Builtin.Str.tooLong
    rw [sizeLine_eq]
    exact decide_eq_false (by omega)
  refine PySem.P.mul_str (by rw [decide_eq_false (by omega), decide_eq_false (by omega)]; rfl) (fun g1 g2 => ?_) (fun g1 g2 => ?_) ?_
  · have e1 : (2 ^ 63 - 1 : Int) / n ≥ (2 ^ 63 - 1) / 1000 := by
      have hn : 0 < n := by omega
      have := Int.ediv_nonneg (show (0 : Int) ≤ 2 ^ 63 - 1 by decide) (show (0 : Int) ≤ n by omega)
      refine (Int.le_ediv_iff_mul_le hn).mpr ?_
      have h5 : ((2 ^ 63 - 1 : Int) / 1000) * n ≤ ((2 ^ 63 - 1 : Int) / 1000) * 1000 := Int.mul_le_mul_of_nonneg_left (by omega) (by decide)
      have h6 : ((2 ^ 63 - 1 : Int) / 1000) * 1000 ≤ 2 ^ 63 - 1 := by decide
      omega
    have e2 : (1000 : Int) ≤ (2 ^ 63 - 1) / 1000 := by decide
    omega
  · exact hT
  · by_cases g1 : n < 1
    · rw [if_pos g1]
      have e : timesS zz n = Str.empty := if_pos g1
      rw [e] at q
      exact ⟨by decide, .str Str.empty, H, I.tok _, ⟨_, rfl⟩, q⟩
    · rw [if_neg g1]
      by_cases g2 : (n == 1 || zz.length == 0) = true
      · rw [if_pos g2]
        have e : timesS zz n = zz := by unfold timesS; rw [if_neg g1, if_pos g2]
        rw [e] at q
        exact ⟨.str zz, H, I, ⟨_, rfl⟩, q⟩
      · rw [if_neg g2]
        have e : timesS zz n = ⟨(List.replicate n.toNat zz.cps).foldl (· ++ ·) #[]⟩ := by unfold timesS; rw [if_neg g1, if_neg g2]
        rw [e] at q
        exact ⟨fits_reps hT, .str _, H, I.tok _, ⟨_, rfl⟩, q⟩
theorem ob_times {z : Str} {n : Int} (hn : n < 1000 ∧ -1000 < n) (hz : z.length ≤ 1000) (h : k (.dat (.str (timesS z n))) O) : OpB X (binaryOp .Mult) (.dat (.str z)) (.dat (.int n)) O k := ⟨_, op_timesS, fun H0 σ ρ H v1 v2 st r1 r2 Q q => by
  cases r1; cases r2; exact ⟨z, n, rfl, rfl, hn.1, hn.2, hz, q _ H _ O h st (.str _)⟩⟩
/-! ### subscripts -/
theorem atI_rp {K : PySem.W.Frag} {G : Hp} {vs : List V} {ds : List Dat} {i : Int} {d : Dat} (h : RpA K G vs ds) (e : atI ds i = some d) : ∃ v, atI vs i = some v ∧ Rp K G v d := by
  unfold atI at e ⊢
  rw [h.length]
  cases hj : ixN ds.length i with
  | none => rw [hj] at e; cases e
  | some j =>
    rw [hj] at e
    exact h.get e
theorem atI_pd {F : V → Slot → Prop} {vs : List V} {ss : List Slot} {i : Int} {s : Slot} (h : Paired F vs ss) (e : atI ss i = some s) : ∃ v, atI vs i = some v ∧ F v s := by
  unfold atI at e ⊢
  rw [paired_len h]
  cases hj : ixN ss.length i with
  | none => rw [hj] at e; cases e
  | some j =>
    rw [hj] at e
    exact paired_get h e
theorem ix_lst {ds : List Dat} {i : Int} {d : Dat} (e : atI ds i = some d) (h : k (.dat d) O) : IxB X (.dat (.lst ds)) (.dat (.int i)) O k := ⟨_, ix_list, fun H0 σ ρ H v1 v2 st r1 r2 Q q => by
  cases r2
  cases r1 with
  | lst h1 h2 =>
    obtain ⟨v, h3, h4⟩ := atI_rp h2 e
    exact ⟨_, _, i, v, rfl, rfl, sql_at (hid_le _ _ h1), h3, q _ H _ O h st h4⟩⟩
theorem ix_fro {ds : List Dat} {i : Int} {d : Dat} (e : atI ds i = some d) (h : k (.dat d) O) : IxB X (.dat (.fro ds)) (.dat (.int i)) O k := ⟨_, ix_list, fun H0 σ ρ H v1 v2 st r1 r2 Q q => by
  cases r2
  cases r1 with
  | fro h1 h2 =>
    obtain ⟨v, h3, h4⟩ := atI_rp h2 e
    exact ⟨_, _, i, v, rfl, rfl, sql_mono hid_le h1, h3, q _ H _ O h st h4⟩⟩
theorem ix_tpl {ds : List Dat} {i : Int} {d : Dat} (e : atI ds i = some d) (h : k (.dat d) O) : IxB X (.dat (.tup ds)) (.dat (.int i)) O k := ⟨_, ix_tup, fun H0 σ ρ H v1 v2 st r1 r2 Q q => by
  cases r2
  cases r1 with
  | tup h1 h2 =>
    obtain ⟨v, h3, h4⟩ := atI_rp h2 e
    exact ⟨_, _, i, v, rfl, rfl, sqt_mono hid_le h1, h3, q _ H _ O h st h4⟩⟩
theorem ix_sgn {z : Str} {i : Int} {c : Nat} (hz : z.length ≤ sizeLine) (e : atI z.cps.toList i = some c) (h : k (.dat (.str ⟨#[c]⟩)) O) : IxB X (.dat (.str z)) (.dat (.int i)) O k := ⟨_, ix_str, fun H0 σ ρ H v1 v2 st r1 r2 Q q => by
  cases r1; cases r2; exact ⟨z, i, c, rfl, rfl, hz, e, q _ H _ O h st (.str _)⟩⟩
theorem ix_own {p : Addr} {ss : List Slot} {i : Int} {s : Slot} (hp : O p = some (.lst ss)) (e : atI ss i = some s) (h : k s O) : IxB X (.own p) (.dat (.int i)) O k := ⟨_, ix_list, fun H0 σ ρ H v1 v2 st r1 r2 Q q => by
  cases r2
  obtain rfl : v1 = .ref p := r1
  obtain ⟨o, h1, vs, rfl, h2⟩ := st.own.cell p _ hp
  obtain ⟨v, h3, h4⟩ := atI_pd h2 e
  exact ⟨p, vs, i, v, rfl, rfl, sql_at h1, h3, q _ H _ O h st h4⟩⟩
/-! slices -/
def OW (X : Cx) (O : Own) (ρ : List Slot) (e : Option Expr) (x : ExK) (k : Option Int → Own → Prop) : Prop :=
  ∀ H0 σ H, StOk X.K H0 O σ ρ H → Takes X (Wsem X.K H0 x) → ∀ Q : Option Int → Hp → Prop, (∀ o H' O', k o O' → StOk X.K H0 O' σ ρ H' → Q o H') → Bx (∀ (pins : List (Addr × Obj)) (s : Shared), Inv X pins σ H s →
    wpAny (model X.prog X.w) X.A (evalPart e X.env) (fun u s' => ∃ o H', Inv X pins σ H' s' ∧ IsPart u o ∧ Q o H') X.xe s)
def Wo (X : Cx) (e : Option Expr) : TO := fun σ H Q => Bx (∀ (pins : List (Addr × Obj)) (s : Shared), Inv X pins σ H s → wpAny (model X.prog X.w) X.A (evalPart e X.env) (fun u s' => ∃ o H', Inv X pins σ H' s' ∧ IsPart u o ∧ Q o H') X.xe s)
theorem po_w {e : Option Expr} : PO X e (Wo X e) := ⟨fun pins s σ H Q I h => h.r pins s I⟩
variable {ko : Option Int → Own → Prop}
theorem ow_none (h : ko none O) : OW X O ρ none x ko := fun H0 σ H st tk Q q => ⟨fun pins s I => po_none.run pins s σ H Q I (q none H O h st)⟩
theorem ow_some (h : EW X O ρ e x fun s O' => ∃ i, s = .dat (.int i) ∧ ko (some i) O') : OW X O ρ (some e) x ko := fun H0 σ H st tk Q q => ⟨fun pins s I =>
  (po_some pe_w).run pins s σ H Q I (h H0 σ H st tk _ fun v H1 s O1 ⟨i, e1, h1⟩ st1 r1 => by
    subst e1
    cases r1
    exact ⟨i, rfl, q _ H1 O1 h1 st1⟩)⟩
def SlB (X : Cx) (s : Slot) (lo hi : Option Int) (O : Own) (k : Slot → Own → Prop) : Prop := ∃ r, SlR X r ∧ ∀ H0 σ ρ H v, StOk X.K H0 O σ ρ H → SlOk X.K (hid O H) v s → ∀ Q : VK, (∀ v H' s O', k s O' → StOk X.K H0 O' σ ρ H' → SlOk X.K (hid O' H') v s → Q v H') → r v lo hi H Q
theorem ew_slice {lo hi : Option Expr} {p2 : Pos} (h : EW X O ρ e x fun s O1 => OW X O1 ρ lo x fun l O2 => OW X O2 ρ hi x fun u O3 => SlB X s l u O3 k) : EW X O ρ (.Subscript e (.Slice lo hi none p2) pos) x k := fun H0 σ H st tk Q q => by
  have main : SlR X (fun v lo hi H Q => ∃ r, SlR X r ∧ r v lo hi H Q) := fun pins s σ H x v vl vu lo hi sl Q I rx hs hl hu ⟨r, ho, hr⟩ => ho pins s σ H x v vl vu lo hi sl Q I rx hs hl hu hr
  refine we_of (pe_slice main pe_w po_w po_w) (h H0 σ H st tk _ fun v H1 s O1 h1 st1 r1 => ?_)
  refine h1 (hid O1 H1) σ H1 st1.top (takes_base tk st1.base) _ fun l H2 O2 h2 st2 => ?_
  have b2 := st1.base.trans st2.base
  refine h2 (hid O2 H2) σ H2 st2.top (takes_base tk b2) _ fun u H3 O3 h3 st3 => ?_
  obtain ⟨r, ho, hr⟩ := h3
  exact ⟨r, ho, hr H0 σ ρ H3 v (st3.rebase b2) (SlOk.mono (st2.base.trans st3.base) r1) Q q⟩
def cutD {α : Type} (xs : List α) (lo hi : Option Int) : List α := (xs.drop (HT.sIx xs.length 0 lo)).take (HT.sIx xs.length xs.length hi - HT.sIx xs.length 0 lo)
theorem RpA.drop {K : PySem.W.Frag} {G : Hp} : ∀ {vs : List V} {ds : List Dat} (n : Nat), RpA K G vs ds → RpA K G (vs.drop n) (ds.drop n)
  | _, _, 0, h => h
  | _, _, n + 1, .nil => .nil
  | _, _, n + 1, .cons _ t => RpA.drop n t
theorem RpA.take {K : PySem.W.Frag} {G : Hp} : ∀ {vs : List V} {ds : List Dat} (n : Nat), RpA K G vs ds → RpA K G (vs.take n) (ds.take n)
  | _, _, 0, _ => .nil
  | _, _, n + 1, .nil => .nil
  | _, _, n + 1, .cons h t => .cons h (RpA.take n t)
theorem cut_rp {K : PySem.W.Frag} {G : Hp} {vs : List V} {ds : List Dat} (h : RpA K G vs ds) (lo hi : Option Int) : RpA K G (cutV vs lo hi) (cutD ds lo hi) := by
  unfold cutV cutD
  rw [h.length]
  exact (h.drop _).take _
theorem sb_lst {ds : List Dat} {lo hi : Option Int} (h : k (.dat (.lst (cutD ds lo hi))) O) : SlB X (.dat (.lst ds)) lo hi O k := ⟨_, sl_list, fun H0 σ ρ H v st r Q q => by
  cases r with
  | lst h1 h2 =>
    refine ⟨_, _, rfl, sql_at (hid_le _ _ h1), fun p hp => q _ _ _ O h (st.grow (same_new hp)) ?_⟩
    exact .lst (by rw [hid_none (own_free st.own hp), upd_same]) (RpA.mono (hid_same (same_new hp)) (cut_rp h2 lo hi))⟩
/-- .. a cell -/
theorem sb_lstC {ds : List Dat} {lo hi : Option Int} (h : ∀ p, O p = none → k (.own p) (up O p (.lst ((cutD ds lo hi).map .dat)))) : SlB X (.dat (.lst ds)) lo hi O k := ⟨_, sl_list, fun H0 σ ρ H v st r Q q => by
  cases r with
  | lst h1 h2 => exact ⟨_, _, rfl, sql_at (hid_le _ _ h1), fun p hp => q _ _ _ _ (h p (own_free st.own hp)) (st.alloc hp ⟨_, rfl, (cut_rp h2 lo hi).paired⟩) rfl⟩⟩
theorem sb_str {z : Str} {lo hi : Option Int} (hz : z.length ≤ sizeLine) (h : k (.dat (.str (cutS z lo hi))) O) : SlB X (.dat (.str z)) lo hi O k := ⟨_, sl_str, fun H0 σ ρ H v st r Q q => by
  cases r; exact ⟨z, rfl, hz, q _ H _ O h st (.str _)⟩⟩
theorem sb_tup {ds : List Dat} {lo hi : Option Int} (h : k (.dat (.tup (cutD ds lo hi))) O) : SlB X (.dat (.tup ds)) lo hi O k := ⟨_, sl_tupA, fun H0 σ ρ H v st r Q q => by
  cases r with
  | tup h1 h2 =>
    refine ⟨_, _, rfl, sqt_mono hid_le h1, fun hw => ?_, fun _ p hp => q _ _ _ O h (st.grow (same_new hp)) ?_⟩
    · rw [h2.length] at hw
      have e : cutD ds lo hi = ds := by
        unfold cutD
        rw [hw.1, hw.2, Nat.sub_zero, List.drop_zero, List.take_length]
      rw [e] at h
      exact q _ H _ O h st (.tup h1 h2)
    · exact .tup (.inl (.inl (by rw [hid_none (own_free st.own hp), upd_same]))) (RpA.mono (hid_same (same_new hp)) (cut_rp h2 lo hi))⟩
/-! ### built-in functions -/
theorem cb_abs {i : Int} (h : k (.dat (.int (if i < 0 then -i else i))) O) : CaB X (.builtin "abs") [.dat (.int i)] O k := ⟨_, call_abs, fun H0 σ ρ H vs st pr Q q => by
  cases pr with
  | cons r1 pr => cases pr; cases r1; exact ⟨i, rfl, q _ H _ O h st (.int _)⟩⟩
theorem cb_max {i j : Int} (hc : X.calm = true) (h : k (.dat (.int (if j > i then j else i))) O) : CaB X (.builtin "max") [.dat (.int i), .dat (.int j)] O k := ⟨_, call_max2 hc, fun H0 σ ρ H vs st pr Q q => by
  cases pr with
  | cons r1 pr =>
    cases pr with
    | cons r2 pr => cases pr; cases r1; cases r2; exact ⟨i, j, rfl, q _ H _ O h st (.int _)⟩⟩
theorem cb_min {i j : Int} (hc : X.calm = true) (h : k (.dat (.int (if j < i then j else i))) O) : CaB X (.builtin "min") [.dat (.int i), .dat (.int j)] O k := ⟨_, call_min2 hc, fun H0 σ ρ H vs st pr Q q => by
  cases pr with
  | cons r1 pr =>
    cases pr with
    | cons r2 pr => cases pr; cases r1; cases r2; exact ⟨i, j, rfl, q _ H _ O h st (.int _)⟩⟩
theorem cb_intB {t : Bool} (h : k (.dat (.int (if t then 1 else 0))) O) : CaB X (.type "int") [.dat (.bl t)] O k := ⟨_, call_int1, fun H0 σ ρ H vs st pr Q q => by
  cases pr with
  | cons r1 pr => cases pr; cases r1; exact .inr ⟨t, rfl, q _ H _ O h st (.int _)⟩⟩
theorem cb_intS {z : Str} {n : Int} (e : PySem.intText? z = some n) (hl : z.length ≤ 640) (h : k (.dat (.int n)) O) : CaB X (.type "int") [.dat (.str z)] O k := ⟨_, call_int_str, fun H0 σ ρ H vs st pr Q q => by
  cases pr with
  | cons r1 pr => cases pr; cases r1; exact ⟨z, n, rfl, e, hl, q _ H _ O h st (.int _)⟩⟩
theorem cb_strI {n : Int} (hl : n.natAbs.log2 < 1920) (h : k (.dat (.str (toString n))) O) : CaB X (.type "str") [.dat (.int n)] O k := ⟨_, call_str_int, fun H0 σ ρ H vs st pr Q q => by
  cases pr with
  | cons r1 pr => cases pr; cases r1; exact ⟨n, rfl, hl, q _ H _ O h st (.str _)⟩⟩
theorem cb_strS {z : Str} (h : k (.dat (.str z)) O) : CaB X (.type "str") [.dat (.str z)] O k := ⟨_, SkE.call_str_str, fun H0 σ ρ H vs st pr Q q => by
  cases pr with
  | cons r1 pr => cases pr; cases r1; exact ⟨z, rfl, q _ H _ O h st (.str _)⟩⟩
theorem cb_lenS {z : Str} (hl : z.length ≤ sizeLine) (h : k (.dat (.int (z.length : Int))) O) : CaB X (.builtin "len") [.dat (.str z)] O k := ⟨_, call_len_str, fun H0 σ ρ H vs st pr Q q => by
  cases pr with
  | cons r1 pr => cases pr; cases r1; exact ⟨z, rfl, hl, q _ H _ O h st (.int _)⟩⟩
theorem cb_lenL {ds : List Dat} (h : k (.dat (.int (ds.length : Int))) O) : CaB X (.builtin "len") [.dat (.lst ds)] O k := ⟨_, call_len_seq, fun H0 σ ρ H vs st pr Q q => by
  cases pr with
  | cons r1 pr =>
    cases pr
    cases r1 with
    | lst h1 h2 =>
      refine ⟨_, _, rfl, .inl (sql_at (hid_le _ _ h1)), q _ H _ O h st ?_⟩
      rw [h2.length]; exact .int _⟩
theorem cb_lenF {ds : List Dat} (h : k (.dat (.int (ds.length : Int))) O) : CaB X (.builtin "len") [.dat (.fro ds)] O k := ⟨_, call_len_seq, fun H0 σ ρ H vs st pr Q q => by
  cases pr with
  | cons r1 pr =>
    cases pr
    cases r1 with
    | fro h1 h2 =>
      refine ⟨_, _, rfl, .inl (sql_mono hid_le h1), q _ H _ O h st ?_⟩
      rw [h2.length]; exact .int _⟩
theorem cb_lenT {ds : List Dat} (h : k (.dat (.int (ds.length : Int))) O) : CaB X (.builtin "len") [.dat (.tup ds)] O k := ⟨_, call_len_seq, fun H0 σ ρ H vs st pr Q q => by
  cases pr with
  | cons r1 pr =>
    cases pr
    cases r1 with
    | tup h1 h2 =>
      refine ⟨_, _, rfl, .inr (sqt_mono hid_le h1), q _ H _ O h st ?_⟩
      rw [h2.length]; exact .int _⟩
theorem cb_lenO {p : Addr} {ss : List Slot} (hp : O p = some (.lst ss)) (h : k (.dat (.int (ss.length : Int))) O) : CaB X (.builtin "len") [.own p] O k := ⟨_, call_len_seq, fun H0 σ ρ H vs st pr Q q => by
  cases pr with
  | cons r1 pr =>
    cases pr
    rename_i v
    obtain rfl : v = .ref p := r1
    obtain ⟨o, h1, xs, rfl, h2⟩ := st.own.cell p _ hp
    refine ⟨_, _, rfl, .inl (sql_at h1), q _ H _ O h st ?_⟩
    rw [paired_len h2]; exact .int _⟩
theorem rpa_bools {K : PySem.W.Frag} {G : Hp} : ∀ {vs : List V} {ws : List Bool}, RpA K G vs (ws.map .bl) → vs = ws.map V.bl
  | _, [], h => by cases h; rfl
  | _, w :: ws, h => by
    cases h with
    | cons h1 h2 =>
      cases h1
      rw [rpa_bools h2]; rfl
theorem cb_all {ts : List Bool} (hc : X.calm = true) (h : k (.dat (.bl (ts.all id))) O) : CaB X (.builtin "all") [.dat (.lst (ts.map .bl))] O k := ⟨_, cr_all hc, fun H0 σ ρ H vs st pr Q q => by
  cases pr with
  | cons r1 pr =>
    cases pr
    cases r1 with
    | lst h1 h2 =>
      have e := rpa_bools h2
      subst e
      exact ⟨_, ts, rfl, sql_at (hid_le _ _ h1), q _ H _ O h st (.bl _)⟩⟩
theorem cb_any {ts : List Bool} (hc : X.calm = true) (h : k (.dat (.bl (ts.any id))) O) : CaB X (.builtin "any") [.dat (.lst (ts.map .bl))] O k := ⟨_, cr_any hc, fun H0 σ ρ H vs st pr Q q => by
  cases pr with
  | cons r1 pr =>
    cases pr
    cases r1 with
    | lst h1 h2 =>
      have e := rpa_bools h2
      subst e
      exact ⟨_, ts, rfl, sql_at (hid_le _ _ h1), q _ H _ O h st (.bl _)⟩⟩
/-- list(xs), a new cell -/
theorem cb_listL {ds : List Dat} (h : ∀ p, O p = none → k (.own p) (up O p (.lst (ds.map .dat)))) : CaB X (.type "list") [.dat (.lst ds)] O k := ⟨_, call_list_of, fun H0 σ ρ H vs st pr Q q => by
  cases pr with
  | cons r1 pr =>
    cases pr
    cases r1 with
    | lst h1 h2 => exact ⟨_, _, rfl, .inl (sql_at (hid_le _ _ h1)), fun p hp => q _ _ _ _ (h p (own_free st.own hp)) (st.alloc hp ⟨_, rfl, h2.paired⟩) rfl⟩⟩
theorem cb_listT {ds : List Dat} (h : ∀ p, O p = none → k (.own p) (up O p (.lst (ds.map .dat)))) : CaB X (.type "list") [.dat (.tup ds)] O k := ⟨_, call_list_of, fun H0 σ ρ H vs st pr Q q => by
  cases pr with
  | cons r1 pr =>
    cases pr
    cases r1 with
    | tup h1 h2 => exact ⟨_, _, rfl, .inr (sqt_mono hid_le h1), fun p hp => q _ _ _ _ (h p (own_free st.own hp)) (st.alloc hp ⟨_, rfl, h2.paired⟩) rfl⟩⟩
theorem cb_tupL {ds : List Dat} (h : k (.dat (.tup ds)) O) : CaB X (.type "tuple") [.dat (.lst ds)] O k := ⟨_, call_tuple_of, fun H0 σ ρ H vs st pr Q q => by
  cases pr with
  | cons r1 pr =>
    cases pr
    cases r1 with
    | lst h1 h2 =>
      refine ⟨_, _, rfl, .inl ⟨sql_at (hid_le _ _ h1), fun p hp => q _ _ _ O h (st.grow (same_new hp)) ?_⟩⟩
      exact .tup (.inl (.inl (by rw [hid_none (own_free st.own hp), upd_same]))) (RpA.mono (hid_same (same_new hp)) h2)⟩
theorem cb_tupT {ds : List Dat} (h : k (.dat (.tup ds)) O) : CaB X (.type "tuple") [.dat (.tup ds)] O k := ⟨_, call_tuple_of, fun H0 σ ρ H vs st pr Q q => by
  cases pr with
  | cons r1 pr =>
    cases pr
    cases r1 with
    | tup h1 h2 => exact ⟨_, _, rfl, .inr ⟨sqt_mono hid_le h1, q _ H _ O h st (.tup h1 h2)⟩⟩⟩
/-- repr of data -/
def reprOk (d : Dat) : Bool := plain d && (toPy d).layable0 && (toPy d).showable && !(toPy d).hasDict && (toPy d).intsShort 13
def reprD (d : Dat) : Str := (toPy d).shown
theorem call_reprD (hr : RoomB true 0 X.A) : CallR X (.builtin "repr") (fun xs H Q => ∃ (a : Addr) (d : PyData), xs = [.ref a] ∧ Dp X.K H (.ref a) d ∧ d.layable0 = true ∧ d.showable = true ∧ d.hasDict = false ∧ d.intsShort 13 = true ∧ Q (.str d.shown) H) := by
  intro pins s σ H xs us Q I r hq
  obtain ⟨a, d, rfl, hd, h1, h2, h3, h4, q⟩ := hq
  cases r with
  | cons rx rr =>
    cases rr
    cases rx
    obtain ⟨as, rd⟩ := Dp.reads I d _ _ hd (show RelV (.ref a) (.ref a) from rfl)
    have hz : d.shown.length ≤ sizeLine := Nat.le_trans (shown_le13 h1 h4) (by rw [sizeLine_eq]; decide)
    have h5 : (PyData.canLay0 d && decide (PyData.depth d ≤ 64) && decide (PyData.weight d ≤ 2 ^ 20)) = true := h1
    simp only [Bool.and_eq_true, decide_eq_true_eq] at h5
    refine repr_of_reads' rd h2 (PyData.noDict_hsm h3) (hr.g rfl) (by have := hr.r.un; omega) (fun _ _ z => z) (fun h' u tk hk => ?_) hz
    exact ⟨.str d.shown, H, I.kept hk, ⟨_, rfl⟩, q⟩
theorem reprOk_and {d : Dat} (h : reprOk d = true) : plain d = true ∧ (toPy d).layable0 = true ∧ (toPy d).showable = true ∧ (toPy d).hasDict = false ∧ (toPy d).intsShort 13 = true := by
  unfold reprOk at h
  simp only [Bool.and_eq_true, Bool.not_eq_true'] at h
  exact ⟨h.1.1.1.1, h.1.1.1.2, h.1.1.2, h.1.2, h.2⟩
theorem cb_reprL (hr : RoomB true 0 X.A) {ds : List Dat} (e : reprOk (.lst ds) = true) (h : k (.dat (.str (reprD (.lst ds)))) O) : CaB X (.builtin "repr") [.dat (.lst ds)] O k := ⟨_, call_reprD hr, fun H0 σ ρ H vs st pr Q q => by
  obtain ⟨e1, e2, e3, e4, e5⟩ := reprOk_and e
  cases pr with
  | cons r1 pr =>
    cases pr
    have r1 : Rp X.K (hid O H) _ (.lst ds) := r1
    have r2 := Rp.dp e1 (Rp.tk r1)
    cases r1
    exact ⟨_, _, rfl, r2, e2, e3, e4, e5, q _ H _ O h st (.str _)⟩⟩
theorem cb_reprT (hr : RoomB true 0 X.A) {ds : List Dat} (e : reprOk (.tup ds) = true) (h : k (.dat (.str (reprD (.tup ds)))) O) : CaB X (.builtin "repr") [.dat (.tup ds)] O k := ⟨_, call_reprD hr, fun H0 σ ρ H vs st pr Q q => by
  obtain ⟨e1, e2, e3, e4, e5⟩ := reprOk_and e
  cases pr with
  | cons r1 pr =>
    cases pr
    have r1 : Rp X.K (hid O H) _ (.tup ds) := r1
    have r2 := Rp.dp e1 (Rp.tk r1)
    cases r1
    exact ⟨_, _, rfl, r2, e2, e3, e4, e5, q _ H _ O h st (.str _)⟩⟩
end
end Kn
/-! KnG: methods of built-in types, f-strings, evaluation without changes, comprehensions of such. -/
namespace Kn
open PySem PySem.Spec PyProof.Rows
open L2 hiding St
section
variable {X : Cx} {O : Own} {ρ : List Slot} {x : ExK} {k k' : Slot → Own → Prop} {kl kl' : List Slot → Own → Prop} {e a b c o : Expr} {es : List Expr} {pos p apos cpos : Pos} {D : SD}
/-! ### methods -/
def TyS (T : String) (O : Own) : Slot → Prop
  | .own p => T = "list" ∧ ∃ ss, O p = some (.lst ss)
  | .dat (.lst _) => T = "list"
  | .dat (.str _) => T = "str"
  | _ => False
theorem tyV_of {T : String} {s : Slot} {H0 H : Hp} {σ : SV} {v : V} (h : TyS T O s) (st : StOk X.K H0 O σ ρ H) (r : SlOk X.K (hid O H) v s) : tyV X.K T v H := by
  cases s with
  | unk => exact h.elim
  | own p =>
    obtain ⟨e1, ss, h2⟩ := h
    obtain rfl : v = .ref p := r
    obtain ⟨o, h3, vs, rfl, _⟩ := st.own.cell p _ h2
    exact .inl ⟨e1, _, sql_at h3⟩
  | dat d =>
    cases d with
    | lst ds =>
      cases r with
      | lst h1 h2 => exact .inl ⟨h, _, sql_at (hid_le _ _ h1)⟩
    | str z => cases r; exact h
    | _ => exact h.elim
def MtB (X : Cx) (id : String) (s : Slot) (ss : List Slot) (O : Own) (k : Slot → Own → Prop) : Prop := ∃ r, MtR X id r ∧ ∀ H0 σ ρ H v vs, StOk X.K H0 O σ ρ H → SlOk X.K (hid O H) v s → Paired (SlOk X.K (hid O H)) vs ss →
  ∀ Q : VK, (∀ v H' s O', k s O' → StOk X.K H0 O' σ ρ H' → SlOk X.K (hid O' H') v s → Q v H') → r v vs H Q
theorem ew_bm {T id : String} {name : Str} (pa : PlainAttrs T) (slot : PySem.Slot T name id) (hty : typeOf (.builtin id) = pure (.type "method_descriptor"))
    (h : EW X O ρ o x fun s O1 => TyS T O1 s ∧ AW X O1 ρ (e :: es) x fun ss O2 => MtB X id s ss O2 k) (hbase : attributeBase o name X.env (eval o X.env) = eval o X.env := by rfl)
    (hfew : ((backTo cpos (starEach (e :: es) X.env)).all (fun x => !x.1) && (backToKw cpos (keywordEach [] X.env)).all (fun x => x.1.isSome)
      && decide ((e :: es).length + ([] : List Keyword).length + (if ([] : List Keyword).isEmpty then 0 else 1) < 30)) = true := by rfl)
    (hline : (apos.endLine == cpos.line) = true := by rfl) (hs : starEach (e :: es) X.env = (false, eval e X.env) :: starEach es X.env := by rfl) (hplain : (backTo cpos (starEach es X.env)).any (·.1) = false := by rfl) :
    EW X O ρ (.Call (.Attribute o name apos) (e :: es) [] cpos) x k := fun H0 σ H st tk Q q => by
  have main : MtR X id (fun v vs H Q => ∃ r, MtR X id r ∧ r v vs H Q) := fun pins s σ H x xs v us Q I rx rv ⟨r, ho, hr⟩ => ho pins s σ H x xs v us Q I rx rv hr
  refine we_of (pe_bm pa slot hty main pe_w pa_w hbase hfew hline hs hplain) (h H0 σ H st tk _ fun v H1 s O1 ⟨t1, h1⟩ st1 r1 => ?_)
  refine ⟨tyV_of t1 st1 r1, h1 (hid O1 H1) σ H1 st1.top (takes_base tk st1.base) _ fun vs H2 ss O2 ⟨r, ho, hr⟩ st2 pr => ⟨r, ho, ?_⟩⟩
  exact hr H0 σ ρ H2 v vs (st2.rebase st1.base) (SlOk.mono st2.base r1) pr Q q
theorem ew_bm0 {T id : String} {name : Str} (pa : PlainAttrs T) (slot : PySem.Slot T name id) (hty : typeOf (.builtin id) = pure (.type "method_descriptor"))
    (h : EW X O ρ o x fun s O1 => TyS T O1 s ∧ MtB X id s [] O1 k) (hbase : attributeBase o name X.env (eval o X.env) = eval o X.env := by rfl)
    (hline : (apos.endLine == cpos.line) = true := by rfl) : EW X O ρ (.Call (.Attribute o name apos) [] [] cpos) x k := fun H0 σ H st tk Q q => by
  have main : MtR X id (fun v vs H Q => ∃ r, MtR X id r ∧ r v vs H Q) := fun pins s σ H x xs v us Q I rx rv ⟨r, ho, hr⟩ => ho pins s σ H x xs v us Q I rx rv hr
  refine we_of (pe_bm0 pa slot hty main pe_w hbase hline) (h H0 σ H st tk _ fun v H1 s O1 ⟨t1, r, ho, hr⟩ st1 r1 => ?_)
  exact ⟨tyV_of t1 st1 r1, r, ho, hr H0 σ ρ H1 v [] st1 r1 .nil Q q⟩
theorem mb_append {p : Addr} {ss : List Slot} {s : Slot} (hp : O p = some (.lst ss)) (hl : ss.length < sizeLine) (h : k (.dat .non) (up O p (.lst (ss ++ [s])))) : MtB X "list.append" (.own p) [s] O k := ⟨_, mt_append, fun H0 σ ρ H v vs st r pr Q q => by
  obtain rfl : v = .ref p := r
  cases pr with
  | cons r1 pr =>
    cases pr
    obtain ⟨o, h1, xs, rfl, h2⟩ := st.own.cell p _ hp
    exact ⟨p, xs, _, rfl, rfl, h1, by rw [paired_len h2]; exact hl, q _ _ _ _ h (st.write hp ⟨_, rfl, paired_app h2 (.cons r1 .nil)⟩) .non⟩⟩
theorem mb_extendL {p : Addr} {ss : List Slot} {ds : List Dat} (hp : O p = some (.lst ss)) (hl : ss.length + ds.length ≤ sizeLine) (h : k (.dat .non) (up O p (.lst (ss ++ ds.map .dat)))) : MtB X "list.extend" (.own p) [.dat (.lst ds)] O k := ⟨_, mt_extend, fun H0 σ ρ H v vs st r pr Q q => by
  obtain rfl : v = .ref p := r
  cases pr with
  | cons r1 pr =>
    cases pr
    obtain ⟨o, h1, xs, rfl, h2⟩ := st.own.cell p _ hp
    cases r1 with
    | lst h3 h4 => exact ⟨p, _, xs, _, rfl, rfl, h1, hid_le _ _ h3, by rw [paired_len h2, h4.length]; exact hl, q _ _ _ _ h (st.write hp ⟨_, rfl, paired_app h2 h4.paired⟩) .non⟩⟩
theorem paired_dropLast {α β : Type} {F : α → β → Prop} : ∀ {xs : List α} {ys : List β}, Paired F xs ys → Paired F xs.dropLast ys.dropLast
  | _, _, .nil => .nil
  | _, _, .cons h .nil => .nil
  | _, _, .cons h (.cons h2 t) => .cons h (paired_dropLast (.cons h2 t))
theorem paired_erase {α β : Type} {F : α → β → Prop} : ∀ {xs : List α} {ys : List β} (i : Nat), Paired F xs ys → Paired F (xs.eraseIdx i) (ys.eraseIdx i)
  | _, _, _, .nil => .nil
  | _, _, 0, .cons _ t => t
  | _, _, i + 1, .cons h t => .cons h (paired_erase i t)
theorem mb_pop {p : Addr} {ss : List Slot} {s : Slot} (hp : O p = some (.lst (ss ++ [s]))) (h : k s (up O p (.lst ss))) : MtB X "list.pop" (.own p) [] O k := ⟨_, mt_pop, fun H0 σ ρ H v vs st r pr Q q => by
  obtain rfl : v = .ref p := r
  cases pr
  obtain ⟨o, h1, xs, rfl, h2⟩ := st.own.cell p _ hp
  have hl := paired_len h2
  rw [List.length_append, List.length_singleton] at hl
  obtain ⟨y, h3, h4⟩ := paired_get (i := ss.length) h2 (by rw [List.getElem?_append_right (Nat.le_refl _), Nat.sub_self]; rfl)
  refine ⟨p, xs, y, rfl, rfl, h1, by rw [show xs.length - 1 = ss.length by omega]; exact h3, ?_⟩
  have h5 := paired_dropLast h2
  rw [List.dropLast_concat] at h5
  exact q _ _ _ _ h (st.write hp ⟨_, rfl, h5⟩) (SlOk.mono (hid_write hp) h4)⟩
theorem mb_popAt {p : Addr} {ss : List Slot} {s : Slot} {i : Int} {j : Nat} (hp : O p = some (.lst ss)) (hi : -(2 ^ 63) ≤ i ∧ i < 2 ^ 63) (hj : seqIndex? i ss.length = some j) (hs : ss[j]? = some s) (h : k s (up O p (.lst (ss.eraseIdx j)))) :
    MtB X "list.pop" (.own p) [.dat (.int i)] O k := ⟨_, mt_popAt, fun H0 σ ρ H v vs st r pr Q q => by
  obtain rfl : v = .ref p := r
  cases pr with
  | cons r1 pr =>
    cases pr
    cases r1
    obtain ⟨o, h1, xs, rfl, h2⟩ := st.own.cell p _ hp
    obtain ⟨y, h3, h4⟩ := paired_get h2 hs
    exact ⟨p, xs, i, j, y, rfl, rfl, h1, hi.1, hi.2, by rw [paired_len h2]; exact hj, h3, q _ _ _ _ h (st.write hp ⟨_, rfl, paired_erase j h2⟩) (SlOk.mono (hid_write hp) h4)⟩⟩
/-- xs.index(d), the first place of it -/
theorem toPys_get : ∀ {ds : List Dat} {j : Nat}, (toPys ds)[j]? = (ds[j]?).map toPy
  | [], j => rfl
  | d :: ds, 0 => rfl
  | d :: ds, j + 1 => toPys_get (ds := ds) (j := j)
theorem mb_index {ds : List Dat} {d z : Dat} {j : Nat} (hr : Room 0 X.A) (p1 : plain (.lst ds) = true) (p2 : plain d = true) (s1 : SeqAt.shaped (toPy (.lst ds)) = true) (s2 : SeqAt.shaped (toPy d) = true) (hj : ds[j]? = some z) (he : eqD z d = true)
    (hb : ∀ (m : Nat) (y : Dat), m < j → ds[m]? = some y → eqD y d = false) (h : k (.dat (.int (j : Int))) O) : MtB X "list.index" (.dat (.lst ds)) [.dat d] O k := ⟨_, mt_indexD (by have := hr.un; omega), fun H0 σ ρ H v vs st r pr Q q => by
  have r' : Rp X.K (hid O H) v (.lst ds) := r
  have r2 := Rp.dp p1 (Rp.tk r')
  cases r'
  cases pr with
  | cons r1 pr =>
    cases pr
    have r1 : Rp X.K (hid O H) _ d := r1
    refine ⟨_, _, toPy d, toPys ds, j, toPy z, rfl, rfl, r2, Rp.dp p2 (Rp.tk r1), s1, s2, ?_, he, fun m z' hm hz => ?_, q _ H _ O h st (.int _)⟩
    · rw [toPys_get, hj]; rfl
    · rw [toPys_get] at hz
      cases hy : ds[m]? with
      | none => rw [hy] at hz; cases hz
      | some y =>
        rw [hy] at hz
        cases hz
        exact hb m y hm hy⟩
theorem ob_inD {ds : List Dat} {d : Dat} (hr : Room 0 X.A) (p1 : plain (.lst ds) = true) (p2 : plain d = true) (s1 : SeqAt.shaped (toPy (.lst ds)) = true) (s2 : SeqAt.shaped (toPy d) = true) (h : k (.dat (.bl ((toPys ds).any fun z => PyData.eqv z (toPy d)))) O) :
    OpB X (compareOp .In) (.dat d) (.dat (.lst ds)) O k := ⟨_, op_inD (by have := hr.un; omega), fun H0 σ ρ H v1 v2 st r1 r2 Q q => ⟨toPy d, toPys ds, Rp.dp p2 (Rp.tk r1), Rp.dp p1 (Rp.tk r2), s2, s1, q _ H _ O h st (.bl _)⟩⟩
theorem strs_rp {K : PySem.W.Frag} {G : Hp} : ∀ ys : List Str, RpA K G (ys.map V.str) (ys.map .str)
  | [] => .nil
  | y :: ys => .cons (.str y) (strs_rp ys)
/-- a text's method with one argument -/
def M1B (X : Cx) (id : String) (z : Str) (s : Slot) (O : Own) (k : Slot → Own → Prop) : Prop := ∃ r, MtR X id r ∧ ∀ H0 σ ρ H v, StOk X.K H0 O σ ρ H → SlOk X.K (hid O H) v s →
  ∀ Q : VK, (∀ v H' s O', k s O' → StOk X.K H0 O' σ ρ H' → SlOk X.K (hid O' H') v s → Q v H') → r (.str z) [v] H Q
theorem ew_m1 {id : String} {name : Str} (slot : PySem.Slot "str" name id) (ty : typeOf (.builtin id) = pure (.type "method_descriptor")) (h : EW X O ρ o x fun s O1 => ∃ z, s = .dat (.str z) ∧ EW X O1 ρ e x fun s2 O2 => M1B X id z s2 O2 k)
    (hs : starEach [e] X.env = [(false, eval e X.env)] := by rfl) (hbase : attributeBase o name X.env (eval o X.env) = eval o X.env := by rfl) (hline : (apos.endLine == cpos.line) = true := by rfl) :
    EW X O ρ (.Call (.Attribute o name apos) [e] [] cpos) x k := fun H0 σ H st tk Q q => by
  have main : MtR X id (fun v vs H Q => ∃ r, MtR X id r ∧ r v vs H Q) := fun pins s σ H x xs v us Q I rx rv ⟨r, ho, hr⟩ => ho pins s σ H x xs v us Q I rx rv hr
  refine we_of (pe_m1 slot ty main pe_w pe_w hs hbase hline) (h H0 σ H st tk _ fun v H1 s O1 ⟨z, e1, h1⟩ st1 r1 => ?_)
  subst e1
  cases r1
  refine ⟨⟨z, rfl⟩, h1 (hid O1 H1) σ H1 st1.top (takes_base tk st1.base) _ fun v2 H2 s2 O2 ⟨r, ho, hr⟩ st2 r2 => ⟨r, ho, ?_⟩⟩
  exact hr H0 σ ρ H2 v2 (st2.rebase st1.base) r2 Q q
theorem m1_split {z y : Str} (hy : (y.length == 0) = false) (hz : z.length + 2 ≤ sizeLine) (h : k (.dat (.lst ((Txt.split z y).map .str))) O) : M1B X "str.split" z (.dat (.str y)) O k := ⟨_, mt_split, fun H0 σ ρ H v st r Q q => by
  cases r
  refine ⟨z, y, rfl, rfl, hy, hz, fun p hp => q _ _ _ O h (st.grow (same_new hp)) ?_⟩
  exact .lst (by rw [hid_none (own_free st.own hp), upd_same]) (strs_rp _)⟩
/-- .. a cell -/
theorem m1_splitC {z y : Str} (hy : (y.length == 0) = false) (hz : z.length + 2 ≤ sizeLine) (h : ∀ p, O p = none → k (.own p) (up O p (.lst ((Txt.split z y).map fun w => .dat (.str w))))) : M1B X "str.split" z (.dat (.str y)) O k := ⟨_, mt_split, fun H0 σ ρ H v st r Q q => by
  cases r
  refine ⟨z, y, rfl, rfl, hy, hz, fun p hp => q _ _ _ _ (h p (own_free st.own hp)) (st.alloc hp ⟨_, rfl, ?_⟩) rfl⟩
  have := (strs_rp (K := X.K) (G := hid O H) (Txt.split z y)).paired
  rw [List.map_map] at this
  exact this⟩
theorem m1_partition {z y : Str} (hy : (y.length == 0) = false) (hz : z.length ≤ sizeLine) (h : k (.dat (.tup [.str (Txt.partition z y).1, .str (Txt.partition z y).2.1, .str (Txt.partition z y).2.2])) O) : M1B X "str.partition" z (.dat (.str y)) O k := ⟨_, mt_partition, fun H0 σ ρ H v st r Q q => by
  cases r
  refine ⟨z, y, rfl, rfl, hy, hz, fun p hp => q _ _ _ O h (st.grow (same_new hp)) ?_⟩
  exact .tup (.inl (.inl (by rw [hid_none (own_free st.own hp), upd_same]))) (.cons (.str _) (.cons (.str _) (.cons (.str _) .nil)))⟩
theorem m1_join {z : Str} {ys : List Str} (hl : (ys.map (·.length)).sum + ys.length * z.length ≤ 16777216) (h : k (.dat (.str (Txt.join z ys))) O) : M1B X "str.join" z (.dat (.lst (ys.map .str))) O k := ⟨_, mt_join, fun H0 σ ρ H v st r Q q => by
  cases r with
  | lst h1 h2 =>
    have e := rpa_strs h2
    subst e
    exact ⟨z, _, ys, rfl, rfl, .inl (sql_at (hid_le _ _ h1)), hl, q _ H _ O h st (.str _)⟩⟩
theorem m1_joinT {z : Str} {ys : List Str} (hl : (ys.map (·.length)).sum + ys.length * z.length ≤ 16777216) (h : k (.dat (.str (Txt.join z ys))) O) : M1B X "str.join" z (.dat (.tup (ys.map .str))) O k := ⟨_, mt_join, fun H0 σ ρ H v st r Q q => by
  cases r with
  | tup h1 h2 =>
    have e := rpa_strs h2
    subst e
    exact ⟨z, _, ys, rfl, rfl, .inr (sqt_mono hid_le h1), hl, q _ H _ O h st (.str _)⟩⟩
theorem m1_find {z y : Str} (h : k (.dat (.int (Txt.find z y))) O) : M1B X "str.find" z (.dat (.str y)) O k := ⟨_, mt_find, fun H0 σ ρ H v st r Q q => by
  cases r; exact ⟨z, y, rfl, rfl, q _ H _ O h st (.int _)⟩⟩
/-! f-strings -/
theorem ew_fmt (h : EW X O ρ e x fun s O1 => (∃ z, s = .dat (.str z) ∧ z.length ≤ sizeLine ∧ k (.dat (.str z)) O1) ∨ ∃ i : Int, s = .dat (.int i) ∧ i.natAbs.log2 < 1920 ∧ k (.dat (.str (toString i))) O1) : EW X O ρ (.FormattedValue e (-1) none pos) x k := fun H0 σ H st tk Q q =>
  we_of (pe_fmt pe_w) (h H0 σ H st tk _ fun v H1 s O1 h1 st1 r1 => by
    rcases h1 with ⟨z, e1, h2, h3⟩ | ⟨i, e1, h2, h3⟩
    · subst e1
      cases r1
      exact .inl ⟨z, rfl, h2, q _ H1 _ O1 h3 st1 (.str _)⟩
    · subst e1
      cases r1
      exact .inr ⟨i, rfl, h2, q _ H1 _ O1 h3 st1 (.str _)⟩)
/-- the parts of an f-string, from the left; acc: what they come to so far -/
def JW (X : Cx) (ρ : List Slot) (x : ExK) (k : Str → Own → Prop) : List Expr → Str → Own → Prop
  | [], acc, O => k acc O
  | e :: es, acc, O => EW X O ρ e x fun s O1 => ∃ z, s = .dat (.str z) ∧ (acc ++ z).length ≤ sizeLine ∧ JW X ρ x k es (acc ++ z) O1
theorem pj_w : ∀ es : List Expr, PJ X es (es.map (We X))
  | [] => .nil
  | e :: es => .cons pe_w (pj_w es)
theorem tjs_of {ks : Str → Own → Prop} {H0 : Hp} {σ : SV} {Q : Str → Hp → Prop} (tk : Takes X (Wsem X.K H0 x)) (q : ∀ z H' O', ks z O' → StOk X.K H0 O' σ ρ H' → Q z H') :
    ∀ (es : List Expr) (acc : Str) (O : Own) (H : Hp), JW X ρ x ks es acc O → StOk X.K H0 O σ ρ H → tJs (es.map (We X)) acc σ H Q
  | [], acc, O, H, h, st => q acc H O h st
  | e :: es, acc, O, H, h, st => by
    have h : EW X O ρ e x fun s O1 => ∃ z, s = .dat (.str z) ∧ (acc ++ z).length ≤ sizeLine ∧ JW X ρ x ks es (acc ++ z) O1 := h
    refine h H0 σ H st tk _ fun v H1 s O1 ⟨z, e1, h1, h2⟩ st1 r1 => ?_
    subst e1
    cases r1
    exact ⟨z, rfl, h1, tjs_of tk q es (acc ++ z) O1 H1 h2 st1⟩
theorem ew_joined {v1 v2 : Expr} {rest : List Expr} (h : JW X ρ x (fun z O' => k (.dat (.str z)) O') (v1 :: v2 :: rest) Str.empty O) : EW X O ρ (.JoinedStr (v1 :: v2 :: rest) pos) x k := fun H0 σ H st tk Q q =>
  we_of (pe_joined (pj_w (v1 :: v2 :: rest))) (tjs_of tk (fun z H' O' hk st' => q (.str z) H' (.dat (.str z)) O' hk st' (Rp.str z)) _ _ O H h st)
theorem ew_joined1 (h : EW X O ρ e x k) : EW X O ρ (.JoinedStr [e] pos) x k := fun H0 σ H st tk Q q => we_of (pe_joined1 pe_w) (h H0 σ H st tk Q q)
/-! ### what is evaluated and changes nothing -/
def EV (X : Cx) (O : Own) (ρ : List Slot) (e : Expr) (x : ExK) (d : Dat) : Prop := EW X O ρ e x fun s O' => s = .dat d ∧ O' = O
def TV (X : Cx) (O : Own) (ρ : List Slot) (e : Expr) (x : ExK) (t : Bool) : Prop := TW X O ρ e x fun u O' => u = t ∧ O' = O
theorem ew_ev {d : Dat} (h : EV X O ρ e x d) (hk : k (.dat d) O) : EW X O ρ e x k := h.mono fun s O' ⟨e1, e2⟩ => by subst e1 e2; exact hk
theorem tw_tv {t : Bool} {kt : Bool → Own → Prop} (h : TV X O ρ e x t) (hk : kt t O) : TW X O ρ e x kt := h.mono fun s O' ⟨e1, e2⟩ => by subst e1 e2; exact hk
theorem ev_is {d d' : Dat} (h : EV X O ρ e x d) (e1 : d = d') : EV X O ρ e x d' := e1 ▸ h
theorem ev_if {t : Bool} {d1 d2 : Dat} (h : TV X O ρ c x t) (h1 : t = true → EV X O ρ a x d1) (h2 : t = false → EV X O ρ b x d2) : EV X O ρ (.IfExp c a b pos) x (bif t then d1 else d2) :=
  ew_if (h.mono fun u O' ⟨e1, e2⟩ => by
    subst e1 e2
    exact ⟨fun ht => (h1 ht).mono fun s O'' ⟨e3, e4⟩ => by subst e3 e4 ht; exact ⟨rfl, rfl⟩, fun ht => (h2 ht).mono fun s O'' ⟨e3, e4⟩ => by subst e3 e4 ht; exact ⟨rfl, rfl⟩⟩)
theorem ev_and {t u : Bool} (h : EV X O ρ a x (.bl t)) (h1 : t = true → EV X O ρ (.BoolOp .And (b :: es) pos) x (.bl u)) : EV X O ρ (.BoolOp .And (a :: b :: es) pos) x (.bl (t && u)) :=
  ew_and (h.mono fun s O' ⟨e1, e2⟩ => by
    subst e1 e2
    refine ⟨t, rfl, fun ht => ?_, fun ht => ?_⟩
    · subst ht; exact h1 rfl
    · subst ht; exact ⟨rfl, rfl⟩)
theorem ev_or {t u : Bool} (h : EV X O ρ a x (.bl t)) (h1 : t = false → EV X O ρ (.BoolOp .Or (b :: es) pos) x (.bl u)) : EV X O ρ (.BoolOp .Or (a :: b :: es) pos) x (.bl (t || u)) :=
  ew_or (h.mono fun s O' ⟨e1, e2⟩ => by
    subst e1 e2
    refine ⟨t, rfl, fun ht => ?_, fun ht => ?_⟩
    · subst ht; exact ⟨rfl, rfl⟩
    · subst ht; exact h1 rfl)
def TVw (X : Cx) (O : Own) (ρ : List Slot) (e : Expr) (x : ExK) (t : Bool) : Prop := TWw X O ρ e x fun u O' => u = t ∧ O' = O
theorem tv_w {t : Bool} (h : TVw X O ρ e x t) : TV X O ρ e x t := tw_w h
theorem tvw_and1 {t : Bool} (h : TV X O ρ a x t) : TVw X O ρ (.BoolOp .And [a] pos) x t := tww_and1 h
theorem tvw_or1 {t : Bool} (h : TV X O ρ a x t) : TVw X O ρ (.BoolOp .Or [a] pos) x t := tww_or1 h
theorem tvw_and {t u : Bool} (h : TV X O ρ a x t) (h1 : t = true → TVw X O ρ (.BoolOp .And (b :: es) pos) x u) : TVw X O ρ (.BoolOp .And (a :: b :: es) pos) x (t && u) :=
  tww_and (h.mono fun s O' ⟨e1, e2⟩ => by
    subst e1 e2
    refine ⟨fun ht => ?_, fun ht => ?_⟩
    · subst ht; exact h1 rfl
    · subst ht; exact ⟨rfl, rfl⟩)
theorem tvw_or {t u : Bool} (h : TV X O ρ a x t) (h1 : t = false → TVw X O ρ (.BoolOp .Or (b :: es) pos) x u) : TVw X O ρ (.BoolOp .Or (a :: b :: es) pos) x (t || u) :=
  tww_or (h.mono fun s O' ⟨e1, e2⟩ => by
    subst e1 e2
    refine ⟨fun ht => ?_, fun ht => ?_⟩
    · subst ht; exact ⟨rfl, rfl⟩
    · subst ht; exact h1 rfl)
theorem tv_not {t : Bool} (h : TV X O ρ a x t) : TV X O ρ (.UnaryOp .Not a pos) x (!t) := tw_not (h.mono fun s O' ⟨e1, e2⟩ => by subst e1 e2; exact ⟨rfl, rfl⟩)
/-! ### comprehensions whose parts change nothing -/
/-- [elt for tg in iter if ..] over data that ι tells of l: f the element, g whether it is taken -/
theorem ew_map {α : Type} (l : List α) (ι f : α → Dat) (g : α → Bool) (own : List (Str × Nat)) {elt tg iter : Expr} {ifs : List Expr} {scope : Scope} {T : Dat → List Slot → List Slot → Prop} (hN : X.N.Nodup) (tg_ok : Tgt X scope (own.map (·.2)) tg T) (ok : BlkOk X.N X.env.scope scope own)
    (hi : IW X O ρ tg iter x fun ds' O1 => ds' = l.map ι ∧ O1 = O) (hz : l.length ≤ sizeLine)
    (hb : ∀ d, d ∈ l → ∃ ρ', T (ι d) (wipeS ρ (own.map (·.2))) ρ' ∧ ∀ O' Y, Blk X scope Y → TsW Y O' ρ' ifs noX (fun t O2 => t = g d ∧ O2 = O') ∧ (g d = true → EV Y O' ρ' elt noX (f d)))
    (h : k (.dat (.lst ((l.filter g).map f))) O) (hc : X.calm = true := by rfl) (hs : ∀ x, foldedSetIterable iter X.env x = pure x := by intro _; rfl) : EW X O ρ (.ListComp elt [⟨tg, iter, ifs, 0⟩] scope pos) x k := by
  refine ew_frz (ew_lc own hN tg_ok ok (fun H0 σ H st tk R q => hi H0 σ H st tk R fun J H' ds' O1 ⟨e1, e2⟩ st' it => q J H' ds' O1 ?_ st' it) hc hs)
  subst e1 e2
  refine ⟨by rw [List.length_map]; exact hz, fun i acc O' => O' = O1 ∧ acc = (((l.take i).filter g).map f).map .dat, ⟨rfl, rfl⟩, fun i d0 acc O' hj hd0 => ?_, fun acc O' hj p hp => ?_⟩
  · obtain ⟨rfl, rfl⟩ := hj
    rw [List.getElem?_map] at hd0
    obtain ⟨d, hd, rfl⟩ := Option.map_eq_some_iff.mp hd0
    obtain ⟨ρ', ht, hb⟩ := hb d (List.mem_of_getElem? hd)
    refine ⟨ρ', ht, fun Dd nD Y hY => ?_⟩
    have htake : l.take (i + 1) = l.take i ++ [d] := by rw [List.take_add_one, hd]; rfl
    obtain ⟨h1, _⟩ := hb (up O' Dd (.lst ((((l.take i).filter g).map f).map .dat))) Y hY
    refine fun H0 σ H st tk Q q => h1 H0 σ H st tk Q fun t H' O2 ⟨e1, e2⟩ st2 => q t H' O2 ⟨fun ht => fun Z hZ => ?_, fun ht => ?_⟩ st2
    · subst e2
      have hg : g d = true := e1 ▸ ht
      refine ((hb (up O' Dd (.lst ((((l.take i).filter g).map f).map .dat))) Z hZ).2 hg).mono fun s O3 ⟨e3, e4⟩ => ?_
      subst e3 e4
      refine ⟨O', rfl, nD, rfl, ?_⟩
      rw [htake, List.filter_append, List.filter_cons_of_pos hg]
      simp
    · subst e2
      have hg : g d = false := e1 ▸ ht
      refine ⟨O', rfl, nD, rfl, ?_⟩
      rw [htake, List.filter_append, List.filter_cons_of_neg (by rw [hg]; exact Bool.false_ne_true)]
      simp
  · obtain ⟨rfl, rfl⟩ := hj
    refine ⟨p, (l.filter g).map f, rfl, by rw [List.length_map, List.take_length]; exact up_at, ?_⟩
    rw [dn_up hp]
    exact h
theorem filter_yes {α : Type} (l : List α) : l.filter (fun _ => true) = l := List.filter_eq_self.mpr fun _ _ => rfl
theorem ew_map1 {α : Type} (l : List α) (ι f : α → Dat) (own : List (Str × Nat)) {elt tg iter : Expr} {scope : Scope} {T : Dat → List Slot → List Slot → Prop} (hN : X.N.Nodup) (tg_ok : Tgt X scope (own.map (·.2)) tg T) (ok : BlkOk X.N X.env.scope scope own)
    (hi : IW X O ρ tg iter x fun ds' O1 => ds' = l.map ι ∧ O1 = O) (hz : l.length ≤ sizeLine)
    (hb : ∀ d, d ∈ l → ∃ ρ', T (ι d) (wipeS ρ (own.map (·.2))) ρ' ∧ ∀ O' Y, Blk X scope Y → EV Y O' ρ' elt noX (f d))
    (h : k (.dat (.lst (l.map f))) O) (hc : X.calm = true := by rfl) (hs : ∀ x, foldedSetIterable iter X.env x = pure x := by intro _; rfl) : EW X O ρ (.ListComp elt [⟨tg, iter, [], 0⟩] scope pos) x k :=
  ew_map l ι f (fun _ => true) own hN tg_ok ok hi hz (fun d hd => by
    obtain ⟨ρ', h1, h2⟩ := hb d hd
    exact ⟨ρ', h1, fun O' Y hY => ⟨tsw_nil ⟨rfl, rfl⟩, fun _ => h2 O' Y hY⟩⟩) (by rw [filter_yes]; exact h) hc hs
end
/-! ### methods by their names -/
section
variable {X : Cx} {O : Own} {ρ : List Slot} {x : ExK} {k : Slot → Own → Prop} {e a o : Expr} {es : List Expr} {apos cpos pos : Pos}
theorem ew_split (h : EW X O ρ o x fun s O1 => ∃ z, s = .dat (.str z) ∧ EW X O1 ρ e x fun s2 O2 => M1B X "str.split" z s2 O2 k) (hs : starEach [e] X.env = [(false, eval e X.env)] := by rfl) (hbase : attributeBase o "split" X.env (eval o X.env) = eval o X.env := by rfl) (hline : (apos.endLine == cpos.line) = true := by rfl) :
    EW X O ρ (.Call (.Attribute o "split" apos) [e] [] cpos) x k := ew_m1 PySem.F.slot_str_split PySem.F.type_str_split h hs hbase hline
theorem ew_join (h : EW X O ρ o x fun s O1 => ∃ z, s = .dat (.str z) ∧ EW X O1 ρ e x fun s2 O2 => M1B X "str.join" z s2 O2 k) (hs : starEach [e] X.env = [(false, eval e X.env)] := by rfl) (hbase : attributeBase o "join" X.env (eval o X.env) = eval o X.env := by rfl) (hline : (apos.endLine == cpos.line) = true := by rfl) :
    EW X O ρ (.Call (.Attribute o "join" apos) [e] [] cpos) x k := ew_m1 PySem.F.slot_str_join PySem.F.type_str_join h hs hbase hline
theorem ew_partition (h : EW X O ρ o x fun s O1 => ∃ z, s = .dat (.str z) ∧ EW X O1 ρ e x fun s2 O2 => M1B X "str.partition" z s2 O2 k) (hs : starEach [e] X.env = [(false, eval e X.env)] := by rfl) (hbase : attributeBase o "partition" X.env (eval o X.env) = eval o X.env := by rfl) (hline : (apos.endLine == cpos.line) = true := by rfl) :
    EW X O ρ (.Call (.Attribute o "partition" apos) [e] [] cpos) x k := ew_m1 PySem.F.slot_str_partition PySem.F.type_str_partition h hs hbase hline
theorem ew_find (h : EW X O ρ o x fun s O1 => ∃ z, s = .dat (.str z) ∧ EW X O1 ρ e x fun s2 O2 => M1B X "str.find" z s2 O2 k) (hs : starEach [e] X.env = [(false, eval e X.env)] := by rfl) (hbase : attributeBase o "find" X.env (eval o X.env) = eval o X.env := by rfl) (hline : (apos.endLine == cpos.line) = true := by rfl) :
    EW X O ρ (.Call (.Attribute o "find" apos) [e] [] cpos) x k := ew_m1 PySem.F.slot_str_find PySem.F.type_str_find h hs hbase hline
theorem few1 {env : Env} {cpos : Pos} {e : Expr} (hs : starEach [e] env = [(false, eval e env)]) : ((backTo cpos (starEach [e] env)).all (fun x => !x.1) && (backToKw cpos (keywordEach [] env)).all (fun x => x.1.isSome)
      && decide (([e] : List Expr).length + ([] : List Keyword).length + (if ([] : List Keyword).isEmpty then 0 else 1) < 30)) = true := by
  rw [hs]; rfl
theorem ew_lm {id : String} {name : Str} (slot : PySem.Slot "list" name id) (hty : typeOf (.builtin id) = pure (.type "method_descriptor"))
    (h : EW X O ρ o x fun s O1 => TyS "list" O1 s ∧ EW X O1 ρ e x fun s2 O2 => MtB X id s [s2] O2 k) (hs : starEach [e] X.env = [(false, eval e X.env)] := by rfl) (hbase : attributeBase o name X.env (eval o X.env) = eval o X.env := by rfl)
    (hline : (apos.endLine == cpos.line) = true := by rfl) : EW X O ρ (.Call (.Attribute o name apos) [e] [] cpos) x k :=
  ew_bm PySem.F.plainAttrs_list slot hty (h.mono fun s O1 ⟨h1, h2⟩ => ⟨h1, aw_cons (h2.mono fun s2 O2 h3 => aw_nil h3) hs⟩) hbase (few1 hs) hline hs rfl
theorem ew_append (h : EW X O ρ o x fun s O1 => TyS "list" O1 s ∧ EW X O1 ρ e x fun s2 O2 => MtB X "list.append" s [s2] O2 k) (hs : starEach [e] X.env = [(false, eval e X.env)] := by rfl) (hbase : attributeBase o "append" X.env (eval o X.env) = eval o X.env := by rfl)
    (hline : (apos.endLine == cpos.line) = true := by rfl) : EW X O ρ (.Call (.Attribute o "append" apos) [e] [] cpos) x k := ew_lm PySem.F.slot_list_append PySem.F.type_list_append h hs hbase hline
theorem ew_extend (h : EW X O ρ o x fun s O1 => TyS "list" O1 s ∧ EW X O1 ρ e x fun s2 O2 => MtB X "list.extend" s [s2] O2 k) (hs : starEach [e] X.env = [(false, eval e X.env)] := by rfl) (hbase : attributeBase o "extend" X.env (eval o X.env) = eval o X.env := by rfl)
    (hline : (apos.endLine == cpos.line) = true := by rfl) : EW X O ρ (.Call (.Attribute o "extend" apos) [e] [] cpos) x k := ew_lm PySem.F.slot_list_extend PySem.F.type_list_extend h hs hbase hline
theorem ew_index (h : EW X O ρ o x fun s O1 => TyS "list" O1 s ∧ EW X O1 ρ e x fun s2 O2 => MtB X "list.index" s [s2] O2 k) (hs : starEach [e] X.env = [(false, eval e X.env)] := by rfl) (hbase : attributeBase o "index" X.env (eval o X.env) = eval o X.env := by rfl)
    (hline : (apos.endLine == cpos.line) = true := by rfl) : EW X O ρ (.Call (.Attribute o "index" apos) [e] [] cpos) x k := ew_lm PySem.F.slot_list_index PySem.F.type_list_index h hs hbase hline
theorem ew_popAt (h : EW X O ρ o x fun s O1 => TyS "list" O1 s ∧ EW X O1 ρ e x fun s2 O2 => MtB X "list.pop" s [s2] O2 k) (hs : starEach [e] X.env = [(false, eval e X.env)] := by rfl) (hbase : attributeBase o "pop" X.env (eval o X.env) = eval o X.env := by rfl)
    (hline : (apos.endLine == cpos.line) = true := by rfl) : EW X O ρ (.Call (.Attribute o "pop" apos) [e] [] cpos) x k := ew_lm PySem.F.slot_list_pop PySem.F.type_list_pop h hs hbase hline
theorem ew_pop (h : EW X O ρ o x fun s O1 => TyS "list" O1 s ∧ MtB X "list.pop" s [] O1 k) (hbase : attributeBase o "pop" X.env (eval o X.env) = eval o X.env := by rfl)
    (hline : (apos.endLine == cpos.line) = true := by rfl) : EW X O ρ (.Call (.Attribute o "pop" apos) [] [] cpos) x k := ew_bm0 PySem.F.plainAttrs_list PySem.F.slot_list_pop PySem.F.type_list_pop h hbase hline
/-! a < b < c -/
theorem ew_chain {op op' : CmpOp} {b c : Expr} (h : EW X O ρ a x fun s1 O1 => EW X O1 ρ b x fun s2 O2 => OpB X (compareOp op) s1 s2 O2 fun s O3 => O3 = O2 ∧ ∃ t, s = .dat (.bl t) ∧ (t = true → EW X O3 ρ c x fun s3 O4 => OpB X (compareOp op') s2 s3 O4 k) ∧ (t = false → k (.dat (.bl false)) O3)) (hm : lastMarks [op, op'] [b, c] = false := by rfl) :
    EW X O ρ (.Compare a [op, op'] [b, c] pos) x k := fun H0 σ H st tk Q q => by
  have m1 : OpR X (compareOp op) (fun v1 v2 H2 Q => ∃ r, OpR X (compareOp op) r ∧ r v1 v2 H2 Q) := fun pins s σ H x y v u Q I rx ry ⟨r, ho, hr⟩ => ho pins s σ H x y v u Q I rx ry hr
  have m2 : OpR X (compareOp op') (fun v1 v2 H2 Q => ∃ r, OpR X (compareOp op') r ∧ r v1 v2 H2 Q) := fun pins s σ H x y v u Q I rx ry ⟨r, ho, hr⟩ => ho pins s σ H x y v u Q I rx ry hr
  refine we_of (pe_chain m1 m2 pe_w pe_w pe_w (hm := hm)) ?_
  refine h H0 σ H st tk _ fun v1 H1 s1 O1 h1 st1 r1 => h1 (hid O1 H1) σ H1 st1.top (takes_base tk st1.base) _ fun v2 H2 s2 O2 ⟨r, ho, hr⟩ st2 r2 => ⟨r, ho, ?_⟩
  have b2 := st1.base.trans st2.base
  refine hr (hid O2 H2) σ ρ H2 v1 v2 st2.top (SlOk.mono st2.base r1) r2 _ fun z H3 s O3 ⟨e3, t, e1, h3, h4⟩ st3 r3 => ?_
  subst e1 e3
  cases r3
  refine ⟨t, rfl, ?_⟩
  have st3' := st3.rebase b2
  cases t with
  | true =>
    refine iteT ((h3 rfl) (hid O3 H3) σ H3 st3.top (takes_base tk (b2.trans st3.base)) _ fun w' H4 s3 O4 ⟨r', ho', hr'⟩ st4 r4 => ⟨r', ho', ?_⟩)
    exact hr' H0 σ ρ H4 v2 w' (st4.rebase (b2.trans st3.base)) (SlOk.mono (st3.base.trans st4.base) r2) r4 Q q
  | false => exact iteF (q _ H3 _ O3 (h4 rfl) st3' (.bl false))
end
section
variable {X : Cx} {O : Own} {ρ : List Slot} {x : ExK} {kl : List Slot → Own → Prop} {o i : Expr} {pos : Pos} {s : Slot}
/-- o[i] = v, o a cell -/
theorem gw_set (h : EW X O ρ o x fun s1 O1 => EW X O1 ρ i x fun s2 O2 => ∃ p ss n j, s1 = .own p ∧ s2 = .dat (.int n) ∧ O2 p = some (.lst ss) ∧ ixN ss.length n = some j ∧ kl ρ (up O2 p (.lst (ss.set j s))))
    (ha : ∀ v, assign (.Subscript o i pos) X.env v = (do { let ov ← holding [v] (eval o X.env); let iv ← holding [v, ov] (eval i X.env); standAt pos; holding [v, ov, iv] (setItem ov iv v); release [v, ov, iv] [] }) := by intro _; rfl) : GW X O ρ (.Subscript o i pos) s x kl := fun H0 σ H v st r tk Q q => by
  refine wg_of (pg_sub pe_w pe_w set_list ha) (two h st.top (takes_base tk st.base) (Q := fun v1 v2 H2 => rSetL v1 v2 v H2 fun H3 => Q σ H3) fun v1 v2 s1 s2 O2 H2 hp st2 r1 r2 => ?_)
  obtain ⟨p, ss, n, j, e1, e2, h1, h2, h3⟩ := hp
  subst e1 e2
  obtain rfl : v1 = .ref p := r1
  cases r2
  obtain ⟨oo, h4, vs, rfl, h5⟩ := st2.own.cell p _ h1
  refine ⟨p, vs, n, j, rfl, rfl, h4, by rw [paired_len h5]; exact h2, q σ _ ρ _ h3 ((st2.rebase st.base).write h1 ⟨_, rfl, paired_set (SlOk.mono st2.base r) j h5⟩)⟩
end
end Kn
/-! KnH: isinstance of data, built-in classes as values. -/
namespace Kn
open PySem PySem.Spec PyProof.Rows
open L2 hiding St
section
variable {X : Cx} {O : Own} {ρ : List Slot} {x : ExK} {k : Slot → Own → Prop} {e a o : Expr} {es : List Expr} {apos cpos pos : Pos}
theorem ew_bltn {nm : Str} {n : String} (hm : X.mg nm = none) (hv : bootBuiltins nm = some (.type n)) (h : k (.dat (.ty n)) O) (hg : Gl X nm := by rfl) (hn : nm ≠ "__name__" := by decide) (hd : (nm == ("__debug__" : Str)) = false := by decide) : EW X O ρ (.Name nm pos) x k := fun H0 σ H st tk Q q =>
  we_of (pe_bltn (v := .ty n) hg hm hv rfl hn hd) (q _ H _ O h st (.ty n))
/-- a class of one's own as a value -/
theorem ew_cls {nm : Str} {C : Addr} (hm : X.mg nm = some (.ref C)) (h : k (.dat (.cls C)) O) (hg : Gl X nm := by rfl) (hd : (nm == ("__debug__" : Str)) = false := by decide) : EW X O ρ (.Name nm pos) x k := fun H0 σ H st tk Q q =>
  we_of (pe_glob (v := .ref C) hg hm rfl hd) (q _ H _ O h st (.cls C))
def tyName : Dat → String
  | .non => "NoneType"
  | .bl _ => "bool"
  | .int _ => "int"
  | .str _ => "str"
  | .lst _ => "list"
  | .fro _ => "list"
  | .tup _ => "tuple"
  | _ => ""
theorem tyX_of {K : PySem.W.Frag} {O : Own} {H : Hp} {v : V} {d : Dat} (p : tyName d ≠ "") (r : Rp K (hid O H) v d) : TyX K H v (.type (tyName d)) := by
  cases r with
  | non => exact .base .non
  | bl b => exact .base (.bl b)
  | int i => exact .base (.int i)
  | str z => exact .base (.str z)
  | lst h1 h2 => exact .base (.lst (hid_le _ _ h1))
  | fro h1 h2 =>
    rcases h1 with (h1 | ⟨ob, h1⟩) | ⟨ob, its, n, h1, h3, _⟩
    · exact .base (.lst (hid_le _ _ h1))
    · exact .base (.frz (hid_le _ _ h1))
    · exact .kList h1 h3
  | tup h1 h2 =>
    rcases h1 with (h1 | ⟨ob, h1⟩) | ⟨ob, its, n, h1, h3, _⟩
    · exact .base (.tup (hid_le _ _ h1))
    · exact .fTuple (hid_le _ _ h1)
    · exact .kTuple h1 h3
  | ins h1 h2 => exact absurd rfl p
  | cls C => exact absurd rfl p
  | ty n => exact absurd rfl p
  | exc h1 h2 => exact absurd rfl p
  | slo h1 h2 h3 h4 => exact absurd rfl p
  | tre h1 h2 h3 h4 h5 => exact absurd rfl p
theorem cb_isTy {d : Dat} {n : String} {t : Bool} (hk : kitB (tyName d) n = some t) (h : k (.dat (.bl t)) O) (hp : tyName d ≠ "" := by first | decide | assumption) : CaB X (.builtin "isinstance") [.dat d, .dat (.ty n)] O k := ⟨_, call_isi, fun H0 σ ρ H vs st pr Q q => by
  cases pr with
  | cons r1 pr =>
    cases pr with
    | cons r2 pr =>
      cases pr
      cases r2
      exact ⟨_, _, _, _, t, rfl, .ty n, tyX_of hp r1, kit_ty hk, q _ H _ O h st (.bl t)⟩⟩
def isStrD : Dat → Bool | .str _ => true | _ => false
def isLstD : Dat → Bool | .lst _ => true | .fro _ => true | _ => false
def isTupD : Dat → Bool | .tup _ => true | _ => false
def isIntD : Dat → Bool | .int _ => true | .bl _ => true | _ => false
def isBlD : Dat → Bool | .bl _ => true | _ => false
theorem kit_str {d : Dat} (hp : tyName d ≠ "") : kitB (tyName d) "str" = some (isStrD d) := by
  cases d <;> first | exact absurd rfl hp | exact (show kitB "NoneType" "str" = some false by decide +kernel) | exact (show kitB "bool" "str" = some false by decide +kernel) | exact (show kitB "int" "str" = some false by decide +kernel) | exact (show kitB "str" "str" = some true by decide +kernel) | exact (show kitB "list" "str" = some false by decide +kernel) | exact (show kitB "tuple" "str" = some false by decide +kernel)
theorem kit_lst {d : Dat} (hp : tyName d ≠ "") : kitB (tyName d) "list" = some (isLstD d) := by
  cases d <;> first | exact absurd rfl hp | exact (show kitB "NoneType" "list" = some false by decide +kernel) | exact (show kitB "bool" "list" = some false by decide +kernel) | exact (show kitB "int" "list" = some false by decide +kernel) | exact (show kitB "str" "list" = some false by decide +kernel) | exact (show kitB "list" "list" = some true by decide +kernel) | exact (show kitB "tuple" "list" = some false by decide +kernel)
theorem kit_tup {d : Dat} (hp : tyName d ≠ "") : kitB (tyName d) "tuple" = some (isTupD d) := by
  cases d <;> first | exact absurd rfl hp | exact (show kitB "NoneType" "tuple" = some false by decide +kernel) | exact (show kitB "bool" "tuple" = some false by decide +kernel) | exact (show kitB "int" "tuple" = some false by decide +kernel) | exact (show kitB "str" "tuple" = some false by decide +kernel) | exact (show kitB "list" "tuple" = some false by decide +kernel) | exact (show kitB "tuple" "tuple" = some true by decide +kernel)
theorem kit_int {d : Dat} (hp : tyName d ≠ "") : kitB (tyName d) "int" = some (isIntD d) := by
  cases d <;> first | exact absurd rfl hp | exact (show kitB "NoneType" "int" = some false by decide +kernel) | exact (show kitB "bool" "int" = some true by decide +kernel) | exact (show kitB "int" "int" = some true by decide +kernel) | exact (show kitB "str" "int" = some false by decide +kernel) | exact (show kitB "list" "int" = some false by decide +kernel) | exact (show kitB "tuple" "int" = some false by decide +kernel)
theorem kit_bool {d : Dat} (hp : tyName d ≠ "") : kitB (tyName d) "bool" = some (isBlD d) := by
  cases d <;> first | exact absurd rfl hp | exact (show kitB "NoneType" "bool" = some false by decide +kernel) | exact (show kitB "bool" "bool" = some true by decide +kernel) | exact (show kitB "int" "bool" = some false by decide +kernel) | exact (show kitB "str" "bool" = some false by decide +kernel) | exact (show kitB "list" "bool" = some false by decide +kernel) | exact (show kitB "tuple" "bool" = some false by decide +kernel)
end
end Kn
/-! KnW: the program's words: what names, figures are; plain. -/
namespace Kn
open PySem PySem.Spec PyProof.Rows
open L2 hiding St
/-! built-ins by their names -/
theorem bt_abs : bootBuiltins "abs" = some (.builtin "abs") := by decide +kernel
theorem bt_max : bootBuiltins "max" = some (.builtin "max") := by decide +kernel
theorem bt_min : bootBuiltins "min" = some (.builtin "min") := by decide +kernel
theorem bt_len : bootBuiltins "len" = some (.builtin "len") := by decide +kernel
theorem bt_all : bootBuiltins "all" = some (.builtin "all") := by decide +kernel
theorem bt_any : bootBuiltins "any" = some (.builtin "any") := by decide +kernel
theorem bt_repr : bootBuiltins "repr" = some (.builtin "repr") := by decide +kernel
theorem bt_isinstance : bootBuiltins "isinstance" = some (.builtin "isinstance") := by decide +kernel
theorem bt_sorted : bootBuiltins "sorted" = some (.builtin "sorted") := by decide +kernel
theorem bt_sum : bootBuiltins "sum" = some (.builtin "sum") := by decide +kernel
theorem bt_hash : bootBuiltins "hash" = some (.builtin "hash") := by decide +kernel
theorem bt_int : bootBuiltins "int" = some (.type "int") := by decide +kernel
theorem bt_str : bootBuiltins "str" = some (.type "str") := by decide +kernel
theorem bt_list : bootBuiltins "list" = some (.type "list") := by decide +kernel
theorem bt_tuple : bootBuiltins "tuple" = some (.type "tuple") := by decide +kernel
theorem bt_set : bootBuiltins "set" = some (.type "set") := by decide +kernel
theorem bt_bool : bootBuiltins "bool" = some (.type "bool") := by decide +kernel
theorem bt_dict : bootBuiltins "dict" = some (.type "dict") := by decide +kernel
def sgs (z : Str) : List Nat := z.cps.toList
theorem sgs_len (z : Str) : z.length = (sgs z).length := TL.len_tl z
theorem sgs_ext {y z : Str} (h : sgs y = sgs z) : y = z := TL.ext_tl h
theorem sgs_app (y z : Str) : sgs (y ++ z) = sgs y ++ sgs z := TL.tl_append y z
theorem len_app (y z : Str) : (y ++ z).length = y.length + z.length := by rw [sgs_len, sgs_app, List.length_append, ← sgs_len, ← sgs_len]
/-- value made of letters, at most m of them -/
def madeOf (z L : Str) (m : Nat) : Bool := decide (0 < z.length) && (decide (z.length ≤ m) && (sgs z).all fun c => decide (c ∈ sgs L))
def madeD (d : Dat) (L : Str) (m : Nat) : Bool := match d with
  | .str z => madeOf z L m
  | _ => false
def ltrs : Str := "abcdefghijklmnopqrstuvwxyz"
def digs : Str := "0123456789"
def takenW : List Str := ["any", "other", "where"]
def isNm (z : Str) : Bool := madeOf z ltrs 8 && !(takenW.any (· == z))
def isNmD (d : Dat) : Bool := match d with
  | .str z => isNm z
  | _ => false
/-- a figure -/
def figL (l : List Nat) : Bool := decide (l = [48]) || decide (l.head? ≠ some 48)
def isFg (z : Str) : Bool := madeOf z digs 12 && figL (sgs z)
def isFgD (d : Dat) : Bool := match d with
  | .str z => isFg z
  | _ => false
theorem madeOf_pos {z L : Str} {m : Nat} (h : madeOf z L m = true) : 0 < z.length ∧ z.length ≤ m ∧ ∀ c ∈ sgs z, c ∈ sgs L := by
  unfold madeOf at h
  simp only [Bool.and_eq_true, decide_eq_true_eq, List.all_eq_true] at h
  exact ⟨h.1, h.2.1, h.2.2⟩
theorem madeOf_of {z L : Str} {m : Nat} (h1 : 0 < z.length) (h2 : z.length ≤ m) (h3 : ∀ c ∈ sgs z, c ∈ sgs L) : madeOf z L m = true := by
  unfold madeOf
  simp only [Bool.and_eq_true, decide_eq_true_eq, List.all_eq_true]
  exact ⟨h1, h2, h3⟩
def wordsS (z : Str) : List Str := if z = "" then [] else Txt.split z " "
/-- the digits' value -/
def figV (z : Str) : Int := ((NumText.digitsVal (sgs z) : Nat) : Int)
theorem digs_mem {c : Nat} : c ∈ sgs digs ↔ 48 ≤ c ∧ c ≤ 57 := by
  have e : sgs digs = [48, 49, 50, 51, 52, 53, 54, 55, 56, 57] := by decide +kernel
  rw [e]
  simp only [List.mem_cons, List.not_mem_nil, or_false]
  omega
theorem ltrs_mem {c : Nat} : c ∈ sgs ltrs ↔ 97 ≤ c ∧ c ≤ 122 := by
  have e : sgs ltrs = [97, 98, 99, 100, 101, 102, 103, 104, 105, 106, 107, 108, 109, 110, 111, 112, 113, 114, 115, 116, 117, 118, 119, 120, 121, 122] := by decide +kernel
  rw [e]
  simp only [List.mem_cons, List.not_mem_nil, or_false]
  omega
theorem fig_int {z : Str} (h : isFg z = true) : PySem.intText? z = some (figV z) ∧ z.length ≤ 12 := by
  obtain ⟨h1, h2, h3⟩ := madeOf_pos (Bool.and_eq_true_iff.mp h).1
  refine ⟨PySem.intText_digits (fun c hc => digs_mem.mp (h3 c hc)) (fun e => ?_) (by omega), h2⟩
  rw [sgs_len] at h1
  rw [show sgs z = [] from e] at h1
  exact absurd h1 (Nat.lt_irrefl 0)
theorem fig_zero {z : Str} (h : z = "0") : figL (sgs z) = true := by
  subst h
  decide +kernel
theorem one_str {c : Nat} {s : String} {n : Nat} (e : sgs (Str.ofString s) = [n]) : decide ((⟨#[c]⟩ : Str) = Str.ofString s) = decide (c = n) := by
  by_cases h : c = n
  · have e1 : (⟨#[c]⟩ : Str) = Str.ofString s := sgs_ext (by rw [e, h]; rfl)
    rw [decide_eq_true e1, decide_eq_true h]
  · have e1 : ¬ (⟨#[c]⟩ : Str) = Str.ofString s := fun q => by
      have q2 := congrArg sgs q
      rw [e] at q2
      have q3 : [c] = [n] := q2
      exact h (List.cons.inj q3).1
    rw [decide_eq_false e1, decide_eq_false h]
theorem fig_first {z : Str} (hm : madeOf z digs 12 = true) (h : ¬ z = "0") : ∃ c, atI z.cps.toList 0 = some c ∧ figL (sgs z) = !decide ((⟨#[c]⟩ : Str) = "0") := by
  obtain ⟨h1, _, _⟩ := madeOf_pos hm
  cases hz : sgs z with
  | nil =>
    rw [sgs_len, hz] at h1
    exact absurd h1 (Nat.lt_irrefl 0)
  | cons c r =>
    refine ⟨c, ?_, ?_⟩
    · rw [show z.cps.toList = c :: r from hz]
      exact atI_nat (j := 0) rfl
    · rw [one_str (n := 48) (by decide +kernel)]
      have e : ¬ (c :: r) = [48] := fun q => h (sgs_ext (by rw [hz, q]; decide +kernel))
      show (decide ((c :: r) = [48]) || decide (some c ≠ some 48)) = _
      rw [decide_eq_false e, Bool.false_or]
      by_cases hc : c = 48
      · rw [hc]; rfl
      · rw [decide_eq_false hc]
        exact decide_eq_true fun q => hc (Option.some.inj q)
section
variable {X : Cx} {O : Own} {k : Slot → Own → Prop}
theorem cb_allF {α : Type} {l : List α} {g : α → Bool} (hc : X.calm = true) (h : k (.dat (.bl (l.all g))) O) : CaB X (.builtin "all") [.dat (.lst (l.map fun a => Dat.bl (g a)))] O k := by
  have e : (l.map fun a => Dat.bl (g a)) = (l.map g).map .bl := by rw [List.map_map]; rfl
  rw [e]
  refine cb_all hc ?_
  rw [List.all_map]
  exact h
theorem cb_anyF {α : Type} {l : List α} {g : α → Bool} (hc : X.calm = true) (h : k (.dat (.bl (l.any g))) O) : CaB X (.builtin "any") [.dat (.lst (l.map fun a => Dat.bl (g a)))] O k := by
  have e : (l.map fun a => Dat.bl (g a)) = (l.map g).map .bl := by rw [List.map_map]; rfl
  rw [e]
  refine cb_any hc ?_
  rw [List.any_map]
  exact h
end
/-! ### texts split and joined -/
theorem join_len (y : Str) : ∀ ws : List Str, ws ≠ [] → (Txt.join y ws).length + y.length = (ws.map (·.length)).sum + ws.length * y.length := by
  intro ws
  rw [TL.join_eq]
  induction ws with
  | nil => intro h; exact absurd rfl h
  | cons a r ih =>
    intro _
    cases r with
    | nil =>
      show a.length + y.length = (a.length + 0) + 1 * y.length
      omega
    | cons b r =>
      have e := ih (List.cons_ne_nil b r)
      show (a ++ y ++ Str.join y (b :: r)).length + y.length = (a.length + ((b :: r).map (·.length)).sum) + ((b :: r).length + 1) * y.length
      rw [len_app, len_app, Nat.succ_mul]
      omega
theorem split_ne (z y : Str) : Txt.split z y ≠ [] := by
  unfold Txt.split
  split
  · exact List.cons_ne_nil _ _
  · split
    · exact List.cons_ne_nil _ _
    · intro e
      have h := congrArg List.length e
      rw [PySem.length_partsBetween] at h
      exact absurd h (Nat.succ_ne_zero _)
theorem join_split (z y : Str) (hy : (y.length == 0) = false) : Txt.join y (Txt.split z y) = z := by
  unfold Txt.split
  split
  · rfl
  · split
    · rfl
    · exact PySem.StrLaws.glued_between_self _ _ _
theorem split_sum (z y : Str) (hy : (y.length == 0) = false) : z.length + y.length = ((Txt.split z y).map (·.length)).sum + (Txt.split z y).length * y.length := by
  have h := join_len y (Txt.split z y) (split_ne z y)
  rw [join_split z y hy] at h
  exact h
theorem mem_sum {l : List Str} {w : Str} (h : w ∈ l) : w.length ≤ (l.map (·.length)).sum := by
  induction l with
  | nil => cases h
  | cons a r ih =>
    show w.length ≤ a.length + (r.map (·.length)).sum
    rcases List.mem_cons.mp h with e | e
    · rw [e]; omega
    · have := ih e
      omega
theorem sp1 : (Str.ofString " ").length = 1 := by decide +kernel
/-- what a text's words come to -/
theorem words_sum (z : Str) : z.length + 1 = ((Txt.split z " ").map (·.length)).sum + (Txt.split z " ").length := by
  have h := split_sum z " " (by decide +kernel)
  rw [sp1, Nat.mul_one] at h
  exact h
theorem word_len {z w : Str} (h : w ∈ Txt.split z " ") : w.length ≤ z.length := by
  have h1 := words_sum z
  have h2 := mem_sum h
  have h3 : 0 < (Txt.split z " ").length := List.length_pos_iff.mpr (split_ne z " ")
  omega
theorem findIdx_at {α : Type} {p : α → Bool} : ∀ {l : List α} {i : Nat} {y : α}, l[i]? = some y → p y = true → (∀ x ∈ l.take i, p x = false) → l.findIdx? p = some i
  | [], i, y, h, _, _ => by cases h
  | a :: l, 0, y, h, hp, _ => by
    cases h
    rw [List.findIdx?_cons, hp]; rfl
  | a :: l, i + 1, y, h, hp, hb => by
    have ha := hb a (by rw [List.take_succ_cons]; exact List.mem_cons_self)
    have e := findIdx_at (l := l) (i := i) (y := y) h hp fun x hx => hb x (by rw [List.take_succ_cons]; exact List.mem_cons_of_mem _ hx)
    rw [List.findIdx?_cons, ha, e]; rfl
theorem findIdx_no {α : Type} {p : α → Bool} {l : List α} (hb : ∀ x ∈ l, p x = false) : l.findIdx? p = none := List.findIdx?_eq_none_iff.mpr hb
/-! ### events -/
abbrev Ev := Option (Str × Int)
def evD : Ev → Dat
  | none => .tup [.str "close"]
  | some (n, m) => .tup [.str "open", .str n, .int m]
def evR : Option Ev → Dat
  | none => .non
  | some e => evD e
def evS (z : Str) : Option Ev := if z = "/" then some none else if isNm (Txt.partition z ":").1 && (!decide ((Txt.partition z ":").2.1 = "") && isFg (Txt.partition z ":").2.2) then some (some ((Txt.partition z ":").1, figV (Txt.partition z ":").2.2)) else none
def wordE : Ev → Str
  | none => "/"
  | some (n, m) => n ++ ":" ++ (toString m : String)
def textE (es : List Ev) : Str := Txt.join " " (es.map wordE)
/-- marks and names that stay small -/
def smallE : Ev → Prop
  | none => True
  | some (n, m) => n.length ≤ 100 ∧ 0 ≤ m ∧ m < 10 ^ 100
/-- what may be asked for its kind -/
def okD (d : Dat) : Prop := tyName d ≠ "" ∧ ∀ z, d = .str z → z.length ≤ 100000
theorem okD_str {z : Str} (h : z.length ≤ 100000) : okD (.str z) := ⟨(show "str" ≠ "" by decide), fun y e => by cases e; exact h⟩
def SplitS : SpecT := fun ss O R => ∃ z : Str, ss = [.dat (.str z)] ∧ z.length ≤ 100000 ∧ R (.ret (.dat (.lst ((wordsS z).map .str)))) O
def MadeS : SpecT := fun ss O R => ∃ (d : Dat) (L : Str) (m : Nat), ss = [.dat d, .dat (.str L), .dat (.int (m : Int))] ∧ okD d ∧ R (.ret (.dat (.bl (madeD d L m)))) O
def NameS : SpecT := fun ss O R => ∃ d : Dat, ss = [.dat d] ∧ okD d ∧ R (.ret (.dat (.bl (isNmD d)))) O
def FigS : SpecT := fun ss O R => ∃ d : Dat, ss = [.dat d] ∧ okD d ∧ R (.ret (.dat (.bl (isFgD d)))) O
/-- own_copy of what is no list and no tuple -/
def Own0S : SpecT := fun ss O R => ∃ d : Dat, ss = [.dat d] ∧ tyName d ≠ "" ∧ isLstD d = false ∧ isTupD d = false ∧ R (.ret (.dat d)) O
end Kn
/-! KnI: what the written part holds, by names; the law's own end. -/
namespace Kn
open PySem PySem.Spec PyProof.Rows
open L2 hiding St
/-! ### cells that nobody needs any more -/
def Sub (O' O : Own) : Prop := ∀ p c, O' p = some c → O p = some c
theorem Sub.refl {O : Own} : Sub O O := fun _ _ h => h
theorem Sub.trans {O1 O2 O3 : Own} (h : Sub O1 O2) (h' : Sub O2 O3) : Sub O1 O3 := fun p c e => h' p c (h p c e)
theorem Sub.up {O : Own} {p : Addr} {c : Cell} (h : O p = none) : Sub O (up O p c) := fun q d e => by
  rw [up_ne (own_ne e h)]; exact e
theorem Sub.upw {O' O : Own} {p : Addr} {c : Cell} (h : Sub O' O) (n : O' p = none) : Sub O' (Kn.up O p c) := fun q d e => by
  rw [up_ne (own_ne e n)]; exact h q d e
theorem Sub.ups {O' O : Own} {p : Addr} {c : Cell} (h : Sub O' O) : Sub (Kn.up O' p c) (Kn.up O p c) := fun q d e => by
  by_cases z : q = p
  · subst z
    rw [up_at] at e ⊢
    exact e
  · rw [up_ne z] at e ⊢
    exact h q d e
theorem Sub.none {O' O : Own} {p : Addr} (h : Sub O' O) (n : O p = none) : O' p = none := by
  cases e : O' p with
  | none => rfl
  | some c => rw [h p c e] at n; cases n
theorem hid_sub {O' O : Own} {H : Hp} (h : Sub O' O) : Same (hid O H) (hid O' H) := fun b o e => by
  obtain ⟨h1, h2⟩ := of_hid e
  rw [hid_none (h.none h1)]
  exact h2
section
variable {K : PySem.W.Frag} {H0 H : Hp} {O O' : Own} {σ : SV} {ρ : List Slot}
theorem OwnOk.sub (h : OwnOk K O H) (s : Sub O' O) : OwnOk K O' H := ⟨fun p c e => by
  obtain ⟨o, h1, h2⟩ := h.cell p c (s p c e)
  exact ⟨o, h1, ClOk.mono (hid_sub s) h2⟩⟩
theorem StOk.sub (h : StOk K H0 O σ ρ H) (s : Sub O' O) : StOk K H0 O' σ ρ H := ⟨h.own.sub s, h.base.trans (hid_sub s), pmap (fun _ _ q => EnvOk.mono (hid_sub s) q) h.env⟩
theorem ExOk.sub {cls : Value} {d : Option Addr} {e : Exn} (h : ExOk K O H cls d e) (s : Sub O' O) : ExOk K O' H cls d e := by
  cases e with
  | own C fs =>
    obtain ⟨h1, dx, fv, h2, h3, h4, h5⟩ := h
    exact ⟨h1, dx, fv, h2, s.none h3, h4, RpF.mono (hid_sub s) h5⟩
  | ty n => exact h
end
/-- .. forgotten at the way out -/
def drX (x : ExK) : ExK := fun e ρ O => ∃ O', Sub O' O ∧ x e ρ O'
def drR (r : Slot → Own → Prop) : Slot → Own → Prop := fun z O => ∃ O', Sub O' O ∧ r z O'
def drN (r : List Slot → Own → Prop) : List Slot → Own → Prop := fun z O => ∃ O', Sub O' O ∧ r z O'
section
variable {X : Cx} {O : Own} {ρ : List Slot} {x : ExK} {D : SD} {sts : List Stmt} {e : Expr} {k : Slot → Own → Prop}
theorem takes_dr {H0 : Hp} (t : Takes X (Wsem X.K H0 x)) : Takes X (Wsem X.K H0 (drX x)) := t.imp fun _ _ _ _ ⟨e, ρ, O, ⟨O', s, h1⟩, h2, h3⟩ => ⟨e, ρ, O', h1, h2.sub s, h3.sub s⟩
theorem sw_drop (h : SW X O ρ sts (drX x) { nx := drN D.nx, rt := drR D.rt, bk := drN D.bk, ct := drN D.ct }) : SW X O ρ sts x D := fun H0 σ H st tk E ok =>
  h H0 σ H st (takes_dr tk) E ⟨fun σ ρ O H ⟨O', s, q⟩ z => ok.nx σ ρ O' H q (z.sub s), fun v z O H ⟨O', s, q⟩ o b r => ok.rt v z O' H q (o.sub s) (b.trans (hid_sub s)) (SlOk.mono (hid_sub s) r), fun σ ρ O H ⟨O', s, q⟩ z => ok.bk σ ρ O' H q (z.sub s), fun σ ρ O H ⟨O', s, q⟩ z => ok.ct σ ρ O' H q (z.sub s)⟩
theorem ew_drop (h : EW X O ρ e (drX x) (drR k)) : EW X O ρ e x k := fun H0 σ H st tk Q q =>
  h H0 σ H st (takes_dr tk) Q fun v H' s O1 ⟨O2, z, h2⟩ st1 r1 => q v H' s O2 h2 (st1.sub z) (SlOk.mono (hid_sub z) r1)
end
/-! ### exceptions with one field -/
def Ini1 (okI : Dat → Prop) (C : Addr) (f : Str) : SpecT := fun ss O R => ∃ (a : Addr) (d : Dat), ss = [.own a, .dat d] ∧ okI d ∧ O a = some (.exo C none) ∧ ∀ dx, O dx = none → R (.ret (.dat .non)) (up (up O dx (.exd [(f, .dat d)])) a (.exo C (some dx)))
theorem raised1 {okI : Dat → Prop} {C : Addr} {f : Str} {d : Dat} {x : ExK} {ρ : List Slot} {O : Own} (hd : okI d) (h : x (.own C [(f, d)]) ρ O) : MkEx C (Ini1 okI C f) x ρ [.dat d] O := by
  refine ⟨(show 1 ≤ 1000 by decide), fun a ha => ⟨a, d, rfl, hd, up_at, fun dx nd => ⟨_, rfl, rfl, dx, [(f, d)], up_at, ?_, ?_, ?_⟩⟩⟩
  · have na : dx ≠ a := fun e => by rw [e, up_at] at nd; cases nd
    rw [up_ne na, up_at]
    rfl
  · have na : dx ≠ a := fun e => by rw [e, up_at] at nd; cases nd
    rw [up_ne na] at nd
    exact nd
  · have na : dx ≠ a := fun e => by rw [e, up_at] at nd; cases nd
    have nd' := nd
    rw [up_ne na] at nd'
    have e : dn (dn (up (up (up O a (.exo C none)) dx (.exd [(f, .dat d)])) a (.exo C (some dx))) a) dx = O := by
      funext b
      by_cases e1 : b = dx
      · subst e1; rw [dn_at, nd']
      · rw [dn_ne e1]
        by_cases e2 : b = a
        · subst e2; rw [dn_at, ha]
        · rw [dn_ne e2, up_ne e2, up_ne e1, up_ne e2]
    rw [e]
    exact h
/-- mg is what the written part says of the module's names -/
def TopOf (K : PySem.W.Frag) (mg : Str → Option Value) : Prop := ∃ h : Heap, K.In h ∧ h.Ns mainGlobals mg
theorem TopOf.no {K : PySem.W.Frag} {mg : Str → Option Value} {nm : Str} (T : TopOf K mg) (e : PySem.W.nsIn K mainGlobals nm = some none) : mg nm = none := by
  obtain ⟨h, h1, h2⟩ := T
  exact PySem.W.mg_none_of h1 h2 e
theorem TopOf.is {K : PySem.W.Frag} {mg : Str → Option Value} {nm : Str} {v : Value} (T : TopOf K mg) (e : PySem.W.nsIn K mainGlobals nm = some (some v)) : mg nm = some v := by
  obtain ⟨h, h1, h2⟩ := T
  exact PySem.W.mg_of h1 h2 e
/-- a def without defaults under its name -/
structure DefIn (K : PySem.W.Frag) (nm : Str) (st : Stmt) : Prop where
  ex : ∃ (f : Addr) (fd : FuncData), PySem.W.nsIn K mainGlobals nm = some (some (.ref f)) ∧ L2.Fun K nm nm st f fd
theorem def_in {K : PySem.W.Frag} {nm : Str} {st : Stmt} {f : Addr} {oc : Value} {od an : Option Addr} {osl : Array (Option Value)} {kV doc pm cdv ct : Value} (a : PySem.W.nsIn K mainGlobals nm = some (some (.ref f)))
    (l : K.lookup f = some ⟨oc, od, .func (PySem.W.fnOf nm nm (defArgs st) (defBody st) (defScope st) .none kV doc pm an cdv ct), osl⟩) (c : PySem.W.codeIn K cdv nm = true) (k : PySem.W.keepIn K (.ref f) = true) : DefIn K nm st :=
  ⟨f, _, a, fun_mk l c k⟩
/-- how the arguments of a def of n parameters bind -/
def BindsAs (nm : Str) (st : Stmt) (ps : List Str) : Prop := ∀ (kV doc pm : Value) (an : Option Addr) (cdv ct : Value) (us : List Value), us.length = ps.length →
  bindArgs (PySem.W.fnOf nm nm (defArgs st) (defBody st) (defScope st) .none kV doc pm an cdv ct) ⟨us, []⟩ = pure (ps.zip us)
/-- a text, a tuple of texts under a module's name -/
def TextIn (K : PySem.W.Frag) (nm z : Str) : Prop := ∃ t, PySem.W.nsIn K mainGlobals nm = some (some (.str z t))
theorem text_in {K : PySem.W.Frag} {nm y z : Str} {t : Tok} (a : PySem.W.nsIn K mainGlobals nm = some (some (.str y t))) (e : y = z) : TextIn K nm z := ⟨t, by rw [← e]; exact a⟩
theorem TextIn.glob {K : PySem.W.Frag} {mg : Str → Option Value} {nm z : Str} (h : TextIn K nm z) (T : TopOf K mg) : GlobD K mg nm (.str z) := by
  obtain ⟨t, a⟩ := h
  exact ⟨.str z, .str z t, T.is a, ⟨t, rfl⟩, fun G => .str z⟩
def strsOf : List Value → Option (List Str)
  | [] => some []
  | .str z _ :: r => (strsOf r).map (z :: ·)
  | _ :: _ => none
theorem vals_strsOf : ∀ {us : List Value} {zs : List Str}, strsOf us = some zs → Vals (zs.map V.str) us
  | [], zs, h => by cases h; exact .nil
  | u :: us, zs, h => by
    cases u with
    | str z t =>
      cases q : strsOf us with
      | none =>
        unfold strsOf at h
        rw [q] at h; cases h
      | some ys =>
        unfold strsOf at h
        rw [q] at h; cases h
        exact .cons ⟨t, rfl⟩ (vals_strsOf q)
    | _ => cases h
def TextsIn (K : PySem.W.Frag) (nm : Str) (zs : List Str) : Prop := ∃ (a : Addr) (od : Option Addr) (its : Array Value) (n : Nat) (sl : Array (Option Value)), PySem.W.nsIn K mainGlobals nm = some (some (.ref a)) ∧ K.lookup a = some ⟨.type "tuple", od, .seq its n, sl⟩ ∧ its.size ≤ sizeLine ∧ strsOf its.toList = some zs
theorem texts_in {K : PySem.W.Frag} {nm : Str} {zs : List Str} {a : Addr} {od : Option Addr} {its : Array Value} {n : Nat} {sl : Array (Option Value)} (h : PySem.W.nsIn K mainGlobals nm = some (some (.ref a))) (l : K.lookup a = some ⟨.type "tuple", od, .seq its n, sl⟩) (z : its.size ≤ sizeLine) (e : strsOf its.toList = some zs) : TextsIn K nm zs :=
  ⟨a, od, its, n, sl, h, l, z, e⟩
theorem TextsIn.glob {K : PySem.W.Frag} {mg : Str → Option Value} {nm : Str} {zs : List Str} (h : TextsIn K nm zs) (T : TopOf K mg) : GlobD K mg nm (.tup (zs.map .str)) := by
  obtain ⟨a, od, its, n, sl, h1, h2, h3, h4⟩ := h
  exact ⟨.ref a, .ref a, T.is h1, rfl, fun G => .tup (xs := zs.map V.str) (.inr ⟨_, its, n, h2, rfl, rfl, h3, vals_strsOf h4⟩) (strs_rp zs)⟩
/-- an exception class of one's own with an __init__ of its own -/
structure ExcAt (K : PySem.W.Frag) (nm qual : Str) (st : Stmt) (C : Addr) : Prop where
  at_ : PySem.W.nsIn K mainGlobals nm = some (some (.ref C))
  oex : OexC K C
  ini : ∃ f fd, PySem.W.findIn K (.ref C) "__init__" = some (some (.ref f)) ∧ PySem.W.typeIn K (.ref f) = some (.type "function") ∧ L2.Fun K "__init__" qual st f fd
theorem exc_at {K : PySem.W.Frag} {nm qual cn cq : Str} {st : Stmt} {C f N : Addr} {bs bm sub : List Value} {sn : List Str} {ab : Bool} {col : Option Bool} {dd od an : Option Addr} {k0 k1 k2 k3 k5 : Option Value} {oc kV doc pm cdv ct : Value} {osl : Array (Option Value)}
    (h1 : PySem.W.nsIn K mainGlobals nm = some (some (.ref C))) (h2 : K.lookup C = some (excClassObj cn cq C N bs bm true sn sub ab col dd k0 k1 k2 k3 k5 "ValueError.__new__")) (h3 : PySem.HandSPX.refsVE bm = true)
    (h4 : PySem.W.findIn K (.ref C) "__setattr__" = some (some (.builtin "object.__setattr__"))) (h5 : PySem.W.subIn K (.ref C) (.type "BaseException") = some true) (h6 : PySem.W.typeIn K (.ref C) = some (.type "type")) (h7 : PySem.W.keepIn K (.ref C) = true)
    (h8 : PySem.W.findIn K (.ref C) "__init__" = some (some (.ref f))) (h9 : PySem.W.typeIn K (.ref f) = some (.type "function"))
    (l : K.lookup f = some ⟨oc, od, .func (PySem.W.fnOf "__init__" qual (defArgs st) (defBody st) (defScope st) .none kV doc pm an cdv ct), osl⟩) (c : PySem.W.codeIn K cdv qual = true) (k : PySem.W.keepIn K (.ref f) = true) : ExcAt K nm qual st C :=
  ⟨h1, ⟨⟨cn, cq, N, bs, bm, sn, sub, ab, col, dd, k0, k1, k2, k3, k5, h2, h3⟩, h4, h5, h6, h7⟩, f, _, h8, h9, fun_mk l c k⟩
/-- .. with all that is asked of it where it is caught; B: the class that it is derived from -/
structure ExcIn (K : PySem.W.Frag) (nm qual bn : Str) (st : Stmt) (C B : Addr) : Prop where
  a : ExcAt K nm qual st C
  xf : XfC K C
  ec : ExcC K C
  own : PySem.W.subIn K (.ref C) (.ref C) = some true
  bat : PySem.W.nsIn K mainGlobals bn = some (some (.ref B))
  sup : PySem.W.subIn K (.ref C) (.ref B) = some true
  bty : PySem.W.typeIn K (.ref B) = some (.type "type")
  bcl : PySem.W.isClsIn K B = true
  brd : ClX.CRead K B (.type "type")
  bin : PySem.W.findCls K (.ref B) (.type "type") "__init__" = some (.val (.builtin "ValueError.__init__"))
section
variable {K : PySem.W.Frag} {nm qual bn : Str} {st : Stmt} {C B : Addr} {mg : Str → Option Value}
theorem ExcIn.exm (h : ExcIn K nm qual bn st C B) : PySem.W.exmOne K (.ref C) (.ref C) = some true := PySem.W.exm_ref h.xf.exC h.xf.hdC h.a.oex.tyC h.own
theorem kit_sub {C B : Addr} (bcl : PySem.W.isClsIn K B = true) (bty : PySem.W.typeIn K (.ref B) = some (.type "type")) (sup : PySem.W.subIn K (.ref C) (.ref B) = some true) : PySem.W.kitOne K (.ref C) (.ref B) = some true := by
  unfold PySem.W.kitOne
  split
  · rfl
  · have e1 : ((PySem.W.clsIn K B).isSome && PySem.W.typeIn K (.ref B) == some (.type "type")) = true := by
      rw [bty]
      rw [show (PySem.W.clsIn K B).isSome = true from bcl]
      rfl
    show (if ((PySem.W.clsIn K B).isSome && PySem.W.typeIn K (.ref B) == some (.type "type")) = true then _ else _) = _
    rw [if_pos e1]
    exact sup
theorem ExcIn.kit (h : ExcIn K nm qual bn st C B) : PySem.W.kitOne K (.ref C) (.ref B) = some true := kit_sub h.bcl h.bty h.sup
theorem ExcIn.ini (h : ExcIn K nm qual bn st C B) (T : TopOf K mg) : BaseIni K mg bn := ⟨B, .type "type", T.is h.bat, h.brd, h.bin⟩
end
section
variable {P : Program} {w : World} {K : PySem.W.Frag} {mg : Str → Option Value} {base : Heap} {g : Bool} {k : Nat} {ps : List Str} {S : SpecT}
theorem cal_of {nm : Str} {st : Stmt} (T : TopOf K mg) (D : DefIn K nm st) (b : BindsAs nm st ps) (h : ∀ f fd, L2.Fun K nm nm st f fd → Fn P w K mg base g k f fd ps S) : Cal P w K mg base g k nm S [] := by
  obtain ⟨f, fd, a, F⟩ := D.ex
  exact ⟨f, fd, ps, [], [], T.is a, F.kp, h f fd F, F.binds b, .nil, fun _ => .nil⟩
/-- how the arguments of an __init__ bind -/
def IniAs (qual : Str) (st : Stmt) (ps : List Str) : Prop := ∀ (kV doc pm : Value) (an : Option Addr) (cdv ct : Value) (us : List Value), us.length = ps.length →
  bindArgs (PySem.W.fnOf "__init__" qual (defArgs st) (defBody st) (defScope st) .none kV doc pm an cdv ct) ⟨us, []⟩ = pure (ps.zip us)
theorem xc_of {nm qual bn : Str} {st : Stmt} {C B : Addr} (T : TopOf K mg) (D : ExcIn K nm qual bn st C B) (b : IniAs qual st ps) (h : ∀ f fd, L2.Fun K "__init__" qual st f fd → Fn P w K mg base false k f fd ps S) : ExCls P w K mg base k nm C S := by
  obtain ⟨f, fd, h1, h2, F⟩ := D.a.ini
  exact ⟨D.a.oex, T.is D.a.at_, f, fd, ps, h1, h2, h f fd F, F.binds b⟩
end
/-! ### the law's end -/
/-- what a law has to do: given the script it says True -/
def LawS : SpecT := fun ss O R => ∃ ns : List Int, ss = [.dat (.fro (ns.map .int))] ∧ ns.length ≤ 63 ∧ ∀ O', R (.ret (.dat (.bl true))) O'
theorem ints_rp {K : PySem.W.Frag} {G : Hp} : ∀ ns : List Int, RpA K G (ns.map V.int) (ns.map Dat.int)
  | [] => .nil
  | n :: ns => .cons (.int n) (ints_rp ns)
def noO : Own := fun _ => none
theorem hid_no {H : Hp} : hid noO H = H := by
  funext b
  exact hid_none rfl
theorem room_caller {n : Nat} (h : Room n callerA) (hg : callerA.guards = some []) : RoomB true n callerA := ⟨h, fun _ => hg⟩
theorem fn_at {P : Program} {w : World} {K : PySem.W.Frag} {mg : Str → Option Value} {base : Heap} {n : Nat} {fa a : Addr} {fd : FuncData} {x : Str} {ns : List Int} {s : Shared} {H : Hp}
    (F : Fn P w K mg base true n fa fd [x] LawS) (hr : RoomB true n callerA) (e0 : Env0 P w K mg base callerA [] s H) (hb : BindsTo s fd ⟨[.ref a], []⟩ [(x, .ref a)]) (hS : SqL K H a (ns.map V.int)) (hl : ns.length ≤ 63) :
    codeAny (model P w) callerA (.call (.ref fa) ⟨[.ref a], []⟩) (CR (L2.CX P w) [] P w H s (fun v _ => v = .bl true) fun _ _ _ => False) s := by
  refine F.run callerA [] s H ⟨[.ref a], []⟩ [.ref a] [.ref a] _ _ hr e0 hb (.cons rfl .nil) ?_
  refine ⟨noO, [.dat (.fro (ns.map .int))], fun o _ => o = .ret (.dat (.bl true)), ⟨fun p c hp => by cases hp⟩, .cons ?_ .nil, ⟨ns, rfl, hl, fun _ => rfl⟩, fun v H' z O' e1 _ _ r => ?_, fun cls d e H' O' e1 => ?_⟩
  · refine Rp.fro (xs := ns.map V.int) ?_ (ints_rp ns)
    rw [hid_no]; exact hS
  · cases e1
    cases r
    rfl
  · cases e1
/-- the law's def, called with the script -/
theorem run_law {P : Program} {w : World} {K : PySem.W.Frag} {mg mb : Str → Option Value} {n : Nat} {fa a : Addr} {fd : FuncData} {x : Str} {sh : Shared} {vs : List Value} {ns : List Int}
    (kin : K.In sh.heap) (glob : sh.heap.Ns mainGlobals mg) (blt : sh.heap.Ns builtinsNs mb) (bltE : ∀ y : Str, y ≠ "__name__" → mb y = bootBuiltins y) (lim : sh.heap.NoLimit) (gen : sh.gens = #[])
    (hobj : sh.heap.get? a = some { cls := .type "list", data := .seq vs.toArray }) (hint : IntsAre vs ns) (hlen : ns.length ≤ 63) (hr : RoomB true n callerA)
    (F : ∀ base : Heap, K.In base → base.Ns mainGlobals mg → Fn P w K mg base true n fa fd [x] LawS) (hbind : ∀ (s : Shared) (u : Value), BindsTo s fd ⟨[u], []⟩ [(x, u)]) :
    codeAny (model P w) callerA (.call (.ref fa) ⟨[.ref a], []⟩) (fun r s' => r = .ok (.ret (.bool true)) ∧ OldK sh.heap s'.heap ∧ s'.os = sh.os ∧ AllBare s'.gens) sh := by
  have vals := vals_ints hint
  have lenV := hint.length
  have small : ns.length ≤ sizeLine := Nat.le_trans hlen (by decide)
  -- H tells of the script alone, or of nothing
  suffices main : ∀ H : Hp, Only H → SqL K H a (ns.map V.int) → HOk P w H sh.heap → (∀ b, H b ≠ none → b = a) → (H a ≠ none → K.lookup a = none) →
      codeAny (model P w) callerA (.call (.ref fa) ⟨[.ref a], []⟩) (fun r s' => r = .ok (.ret (.bool true)) ∧ OldK sh.heap s'.heap ∧ s'.os = sh.os ∧ AllBare s'.gens) sh by
    by_cases hk : ∃ o, K.lookup a = some o
    · obtain ⟨o, hk⟩ := hk
      have eo := (kin a o hk).symm.trans hobj
      cases eo
      have frz : SqL K (fun _ => none) a (ns.map V.int) := .inr ⟨_, vs.toArray, _, hk, rfl, rfl, rfl, by rw [List.size_toArray, lenV]; exact small, by simpa using vals⟩
      exact main (fun _ => none) (fun _ => .inl rfl) frz (fun b u z => by
        have z' : (none : Option HO) = some u := z
        cases z') (fun b z => absurd rfl z) fun z => absurd rfl z
    · have hk : K.lookup a = none := by
        cases q : K.lookup a with
        | none => rfl
        | some o => exact absurd ⟨o, q⟩ hk
      let O1 : HO := .frz { cls := .type "list", data := .seq vs.toArray } (.lst (ns.map V.int))
      have at1 : ∀ b u, (if b = a then some O1 else none) = some u → b = a ∧ O1 = u := fun b u z => by
        by_cases q : b = a
        · rw [if_pos q] at z
          exact ⟨q, Option.some.inj z⟩
        · rw [if_neg q] at z
          cases z
      refine main (fun b => if b = a then some O1 else none) (fun b => ?_) (.inl (.inr ⟨_, if_pos rfl⟩)) (fun b u z => ?_) (fun b z => ?_) fun _ => hk
      · by_cases q : b = a
        · exact .inr ⟨_, _, if_pos q⟩
        · exact .inl (if_neg q)
      · obtain ⟨rfl, rfl⟩ := at1 b u z
        exact ⟨hobj, by rw [List.length_map]; exact small, vs, _, vals, hobj⟩
      · cases q : (if b = a then some O1 else none) with
        | none => exact absurd q z
        | some u => exact (at1 b u q).1
  intro H only hS hok isA notK
  -- the base: the heap without the script
  have at_base : ∀ {b : Addr} {o : Obj}, sh.heap.get? b = some o → H b = none → (hidT sh.heap H).get? b = some o := fun e z => hidT_get e z
  have dict_free : ∀ {b : Addr} {o : Obj} {es : Array DictEntry} {ep : Nat}, sh.heap.get? b = some o → o.data = .dict es ep → H b = none := fun {b o es ep} e d => by
    cases q : H b with
    | none => rfl
    | some u =>
      obtain rfl := isA b (by rw [q]; exact fun z => by cases z)
      have eo := e.symm.trans hobj
      cases eo
      have d : Data.seq vs.toArray _ = Data.dict es ep := d
      cases d
  have nsB : ∀ {b : Addr} {m : Str → Option Value}, sh.heap.Ns b m → (hidT sh.heap H).Ns b m := fun {b m} z => by
    obtain ⟨o, es, ep, e, d, r⟩ := z
    exact ⟨o, es, ep, at_base e (dict_free e d), d, r⟩
  have kinB : K.In (hidT sh.heap H) := fun b o e => at_base (kin b o e) (by
    cases q : H b with
    | none => rfl
    | some u =>
      obtain rfl := isA b (by rw [q]; exact fun z => by cases z)
      rw [notK (by rw [q]; exact fun z => by cases z)] at e
      cases e)
  have limB : (hidT sh.heap H).NoLimit := by
    obtain ⟨mc, h1, h2⟩ := lim
    exact ⟨mc, nsB h1, h2⟩
  have e0 : Env0 P w K mg (hidT sh.heap H) callerA [] sh H :=
    { frames := rfl, mod := ⟨kinB, nsB glob, ⟨mb, nsB blt, bltE⟩, limB⟩, bs := fun b o e => of_hidT e, bsz := Nat.le_of_eq (hidT_size _ _), funs := trivial, frf := fun b hb => absurd (show b ∈ ([] : List Addr) from hb) List.not_mem_nil, hok := hok, bare := .of_eq gen }
  refine codeAny_mono (fn_at (F _ kinB (nsB glob)) hr e0 (hbind sh (.ref a)) hS hlen) fun r s' h => ?_
  cases r with
  | error e =>
    have h : L2.CX P w [] H sh (fun _ _ _ => False) e s' := h
    obtain ⟨_, _, _, _, _, _, _, _, _, _, h⟩ := h
    exact False.elim h.2.2
  | ok fl =>
    cases fl with
    | next => exact False.elim h
    | brk => exact False.elim h
    | cont => exact False.elim h
    | ret u =>
      obtain ⟨v, H', os, bare, un, hok', rv, q⟩ := h
      have q : v = .bl true := q
      subst q
      obtain rfl : u = Value.bool true := rv
      refine ⟨rfl, OldK.of_keep fun b o e => ?_, os, bare⟩
      cases q : H b with
      | none => exact un.keep b o e q (fun z => absurd (show b ∈ ([] : List Addr) from z) List.not_mem_nil) (by simp)
      | some u =>
        rcases only b with z | ⟨ob, xs, z⟩
        · rw [q] at z; cases z
        · obtain ⟨e1, _⟩ := hok b _ z
          obtain ⟨e2, _⟩ := hok' b _ (un.frzs b ob _ z)
          cases e.symm.trans e1
          exact e2
/-- what is left of a law -/
theorem law_walk {l : PySem.W.OpenLaw} {n : Nat} {q : Program} {loose : List Str} {XP : (Str → Option Value) → Heap → Prop} {YP : World → Heap → Prop} {d : DefRec} {K : Params → PySem.W.Frag} {x : Str} {st : Stmt} {Z : PySem.W.Frag → Prop}
    (hn : l.most = some 63) (hdf : d.params.defaults = []) (hr : Room n callerA) (hg : callerA.guards = some [])
    (hY : ∀ (w : World) (h : Heap), YP w h → (K w.params).In h) (hz : ∀ w : World, Z (K w.params)) (hD : ∀ w : World, DefIn (K w.params) d.name st) (hb : BindsAs d.name st [x])
    (F : ∀ (w : World) (mg : Str → Option Value) (f : Addr) (fd : FuncData), Z (K w.params) → TopOf (K w.params) mg → L2.Fun (K w.params) d.name d.name st f fd → ∀ base : Heap, (K w.params).In base → Fn l.prog w (K w.params) mg base true n f fd [x] LawS) :
    PySem.W.WalkO q loose XP YP l.row.toRowW d [] (fun f vs => PySem.call f vs) := by
  refine Att.attach_call hn hdf fun w s0 s1 mg mb fa o pm cd doc a vs ns G Y ho hd hcd hmg hobj hints hlen hgen => ?_
  have kin := hY w _ Y
  have T : TopOf (K w.params) mg := ⟨_, kin, G.T.g⟩
  obtain ⟨f, fd, ha, hF⟩ := (hD w).ex
  have e := hmg.symm.trans (T.is ha)
  cases e
  obtain ⟨oc, od, kV, doc', pm', an, cdv, ct, osl, rfl, _, _⟩ := id hF.ex
  exact run_law kin G.T.g G.T.b G.T.builtins G.T.nolimit hgen hobj hints hlen ⟨hr, fun _ => hg⟩ (fun base kb nb => F w mg fa _ (hz w) T hF base kb) fun s u => .of_eq (hb _ _ _ _ _ _ [u] rfl)
end Kn
/-! KnJ: a name's list given away; y = [..]; draws. -/
namespace Kn
open PySem PySem.Spec PyProof.Rows
open L2 hiding St
section
variable {X : Cx} {O : Own} {ρ : List Slot} {x : ExK} {D : SD} {sts : List Stmt}
theorem StOk.give {K : PySem.W.Frag} {H0 H : Hp} {σ : SV} {i : Nat} {p : Addr} {ds : List Dat} (h : StOk K H0 O σ ρ H) (hi : ρ[i]? = some (.own p)) (hp : O p = some (.lst (ds.map .dat))) : StOk K H0 (dn O p) σ (ρ.set i (.dat (.lst ds))) H := by
  have f := h.freeze (p := p)
  refine ⟨f.own, f.base, ?_⟩
  obtain ⟨v, h1, h2⟩ := paired_get f.env hi
  have r : Rp K (hid (dn O p) H) (.ref p) (.lst ds) := h.own.lst hp
  have z := paired_set (x := v) (y := Slot.dat (.lst ds)) (F := EnvOk K (hid (dn O p) H)) ⟨.ref p, h2, r⟩ i f.env
  have e : σ.set i v = σ := by
    obtain ⟨hl, e⟩ := List.getElem?_eq_some_iff.mp h1
    rw [← e, List.set_getElem_self]
  rw [e] at z
  exact z
/-- the list that a name holds is data from now on -/
theorem sw_frz (i : Nat) {p : Addr} {ds : List Dat} (hp : O p = some (.lst (ds.map .dat))) (h : SW X (dn O p) (ρ.set i (.dat (.lst ds))) sts x D) (hi : ρ[i]? = some (.own p) := by rfl) : SW X O ρ sts x D := fun H0 σ H st tk E ok => h H0 σ H (st.give hi hp) tk E ok
/-- y = [elt for tg in iter if ..] whose parts change nothing -/
theorem s1_setMap {α : Type} (l : List α) (ι f : α → Dat) (g : α → Bool) (own : List (Str × Nat)) (i : Nat) {nm : Str} {py spos pos : Pos} {elt tg iter : Expr} {ifs : List Expr} {scope : Scope} {T : Dat → List Slot → List Slot → Prop} (hN : X.N.Nodup) (tg_ok : Tgt X scope (own.map (·.2)) tg T) (ok : BlkOk X.N X.env.scope scope own)
    (hi : IW X O ρ tg iter x fun ds' O1 => ds' = l.map ι ∧ O1 = O) (hz : l.length ≤ sizeLine)
    (hb : ∀ d, d ∈ l → ∃ ρ', T (ι d) (wipeS ρ (own.map (·.2))) ρ' ∧ ∀ O' Y, Blk X scope Y → TsW Y O' ρ' ifs noX (fun t O2 => t = g d ∧ O2 = O') ∧ (g d = true → EV Y O' ρ' elt noX (f d)))
    (h : ∀ p, O p = none → D.nx (ρ.set i (.own p)) (up O p (.lst (((l.filter g).map f).map .dat)))) (hc : X.calm = true := by rfl)
    (hy : X.N[i]? = some nm := by rfl) (hyl : X.env.scope.names.lookup nm = some .local := by rfl)
    (hsw : swapsWith (.ListComp elt [⟨tg, iter, ifs, 0⟩] scope pos) (some (.Name nm py)) spos.line X.env = pure true := by exact sw_true rfl rfl rfl (by decide +kernel)) (hs : ∀ x, foldedSetIterable iter X.env x = pure x := by intro _; rfl) :
    S1 X O ρ (.Assign [.Name nm py] (.ListComp elt [⟨tg, iter, ifs, 0⟩] scope pos) spos) x D := by
  refine s1_setLc own i hN tg_ok ok (fun H0 σ H st tk R q => hi H0 σ H st tk R fun J H' ds' O1 ⟨e1, e2⟩ st' it => q J H' ds' O1 ?_ st' it) hc hy hyl hsw hs
  subst e1 e2
  refine ⟨by rw [List.length_map]; exact hz, fun i acc O' => O' = O1 ∧ acc = (((l.take i).filter g).map f).map .dat, ⟨rfl, rfl⟩, fun i d0 acc O' hj hd0 => ?_, fun acc O' hj p hp => ?_⟩
  · obtain ⟨rfl, rfl⟩ := hj
    rw [List.getElem?_map] at hd0
    obtain ⟨d, hd, rfl⟩ := Option.map_eq_some_iff.mp hd0
    obtain ⟨ρ', ht, hb⟩ := hb d (List.mem_of_getElem? hd)
    refine ⟨ρ', ht, fun Dd nD Y hY => ?_⟩
    have htake : l.take (i + 1) = l.take i ++ [d] := by rw [List.take_add_one, hd]; rfl
    obtain ⟨h1, _⟩ := hb (up O' Dd (.lst ((((l.take i).filter g).map f).map .dat))) Y hY
    refine fun H0 σ H st tk Q q => h1 H0 σ H st tk Q fun t H' O2 ⟨e1, e2⟩ st2 => q t H' O2 ⟨fun ht => fun Z hZ => ?_, fun ht => ?_⟩ st2
    · subst e2
      have hg : g d = true := e1 ▸ ht
      refine ((hb (up O' Dd (.lst ((((l.take i).filter g).map f).map .dat))) Z hZ).2 hg).mono fun s O3 ⟨e3, e4⟩ => ?_
      subst e3 e4
      refine ⟨O', rfl, nD, rfl, ?_⟩
      rw [htake, List.filter_append, List.filter_cons_of_pos hg]
      simp
    · subst e2
      have hg : g d = false := e1 ▸ ht
      refine ⟨O', rfl, nD, rfl, ?_⟩
      rw [htake, List.filter_append, List.filter_cons_of_neg (by rw [hg]; exact Bool.false_ne_true)]
      simp
  · obtain ⟨rfl, rfl⟩ := hj
    rw [List.length_map, List.take_length]
    exact h p hp
theorem s1_setMap1 {α : Type} (l : List α) (ι f : α → Dat) (own : List (Str × Nat)) (i : Nat) {nm : Str} {py spos pos : Pos} {elt tg iter : Expr} {scope : Scope} {T : Dat → List Slot → List Slot → Prop} (hN : X.N.Nodup) (tg_ok : Tgt X scope (own.map (·.2)) tg T) (ok : BlkOk X.N X.env.scope scope own)
    (hi : IW X O ρ tg iter x fun ds' O1 => ds' = l.map ι ∧ O1 = O) (hz : l.length ≤ sizeLine)
    (hb : ∀ d, d ∈ l → ∃ ρ', T (ι d) (wipeS ρ (own.map (·.2))) ρ' ∧ ∀ O' Y, Blk X scope Y → EV Y O' ρ' elt noX (f d))
    (h : ∀ p, O p = none → D.nx (ρ.set i (.own p)) (up O p (.lst ((l.map f).map .dat)))) (hc : X.calm = true := by rfl)
    (hy : X.N[i]? = some nm := by rfl) (hyl : X.env.scope.names.lookup nm = some .local := by rfl)
    (hsw : swapsWith (.ListComp elt [⟨tg, iter, [], 0⟩] scope pos) (some (.Name nm py)) spos.line X.env = pure true := by exact sw_true rfl rfl rfl (by decide +kernel)) (hs : ∀ x, foldedSetIterable iter X.env x = pure x := by intro _; rfl) :
    S1 X O ρ (.Assign [.Name nm py] (.ListComp elt [⟨tg, iter, [], 0⟩] scope pos) spos) x D :=
  s1_setMap l ι f (fun _ => true) own i hN tg_ok ok hi hz (fun d hd => by
    obtain ⟨ρ', h1, h2⟩ := hb d hd
    exact ⟨ρ', h1, fun O' Y hY => ⟨tsw_nil ⟨rfl, rfl⟩, fun _ => h2 O' Y hY⟩⟩) (by rw [filter_yes]; exact h) hc hy hyl hsw hs
end
section
variable {X : Cx} {O : Own} {ρ : List Slot} {x : ExK} {a b c : Expr} {pos : Pos} {kt : Bool → Own → Prop}
/-- a < b < c as a test -/
theorem tw_chain {op op' : CmpOp} (h : EW X O ρ a x fun s1 O1 => EW X O1 ρ b x fun s2 O2 => OpB X (compareOp op) s1 s2 O2 fun s O3 => O3 = O2 ∧ ∃ t, s = .dat (.bl t) ∧ (t = true → EW X O3 ρ c x fun s3 O4 => OpB X (compareOp op') s2 s3 O4 fun s O5 => ∃ t, s = .dat (.bl t) ∧ kt t O5) ∧ (t = false → kt false O3)) (hm : lastMarks [op, op'] [b, c] = false := by rfl) :
    TW X O ρ (.Compare a [op, op'] [b, c] pos) x kt := fun H0 σ H st tk Q q => by
  have m1 : OpR X (compareOp op) (fun v1 v2 H2 Q => ∃ r, OpR X (compareOp op) r ∧ r v1 v2 H2 Q) := fun pins s σ H x y v u Q I rx ry ⟨r, ho, hr⟩ => ho pins s σ H x y v u Q I rx ry hr
  have m2 : OpR X (compareOp op') (fun v1 v2 H2 Q => ∃ r, OpR X (compareOp op') r ∧ r v1 v2 H2 Q) := fun pins s σ H x y v u Q I rx ry ⟨r, ho, hr⟩ => ho pins s σ H x y v u Q I rx ry hr
  refine wt_of (pt_chain m1 m2 pe_w pe_w pe_w (hm := hm)) ?_
  refine h H0 σ H st tk _ fun v1 H1 s1 O1 h1 st1 r1 => h1 (hid O1 H1) σ H1 st1.top (takes_base tk st1.base) _ fun v2 H2 s2 O2 ⟨r, ho, hr⟩ st2 r2 => ⟨r, ho, ?_⟩
  have b2 := st1.base.trans st2.base
  refine hr (hid O2 H2) σ ρ H2 v1 v2 st2.top (SlOk.mono st2.base r1) r2 _ fun z H3 s O3 ⟨e3, t, e1, h3, h4⟩ st3 r3 => ?_
  subst e1 e3
  cases r3
  refine ⟨t, rfl, ?_⟩
  have st3' := st3.rebase b2
  cases t with
  | true =>
    refine iteT ((h3 rfl) (hid O3 H3) σ H3 st3.top (takes_base tk (b2.trans st3.base)) _ fun w' H4 s3 O4 ⟨r', ho', hr'⟩ st4 r4 => ⟨r', ho', ?_⟩)
    exact hr' H0 σ ρ H4 v2 w' (st4.rebase (b2.trans st3.base)) (SlOk.mono (st3.base.trans st4.base) r2) r4 _ fun z5 H5 s5 O5 ⟨t5, e5, h5⟩ st5 r5 => by
      subst e5
      cases r5
      exact ⟨t5, rfl, q t5 H5 O5 h5 st5⟩
  | false => exact iteF ⟨false, rfl, q false H3 O3 (h4 rfl) st3'⟩
/-- the one or the other as a test -/
theorem tw_if {pos : Pos} (h : TW X O ρ c x fun t O1 => (t = true → TW X O1 ρ a x kt) ∧ (t = false → TW X O1 ρ b x kt)) : TW X O ρ (.IfExp c a b pos) x kt := fun H0 σ H st tk Q q => ⟨fun pins s I => by
  show wpAny _ _ (PySem.isTrue c X.env (eval c X.env) >>= fun t => if t = true then PySem.isTrue a X.env (eval a X.env) else PySem.isTrue b X.env (eval b X.env)) _ _ _
  refine wpAny_bind (wpAny_mono ((h H0 σ H st tk (fun t H1 => (t = true → Wt X a σ H1 Q) ∧ (t = false → Wt X b σ H1 Q)) (fun t H1 O1 h1 st1 => ⟨fun ht => (h1.1 ht) H0 σ H1 st1 tk Q q, fun ht => (h1.2 ht) H0 σ H1 st1 tk Q q⟩)).r pins s I) (fun t s1 hq => ?_) fun _ _ z => z)
  obtain ⟨H1, I1, q1, q2⟩ := hq
  cases t with
  | true =>
    rw [if_pos rfl]
    exact (q1 rfl).r pins s1 I1
  | false =>
    rw [if_neg Bool.false_ne_true]
    exact (q2 rfl).r pins s1 I1⟩
end
theorem seq_at {d : Int} {n : Nat} (h0 : 0 ≤ d) (h : d < (n : Int)) : seqIndex? d n = some d.toNat := by
  have e : (if d < 0 then d + (n : Int) else d) = d := if_neg (by omega)
  have e2 : (decide (0 ≤ d) && decide (d < (n : Int))) = true := by rw [decide_eq_true h0, decide_eq_true h]; rfl
  show (if (decide (0 ≤ (if d < 0 then d + (n : Int) else d)) && decide ((if d < 0 then d + (n : Int) else d) < (n : Int))) = true then some (if d < 0 then d + (n : Int) else d).toNat else none) = _
  rw [e, if_pos e2]
theorem up_swap {O : Own} {p q : Addr} {c d : Cell} (h : p ≠ q) : up (up O p c) q d = up (up O q d) p c := by
  funext b
  by_cases e1 : b = q
  · subst e1
    rw [up_at, up_ne h.symm, up_at]
  · rw [up_ne e1]
    by_cases e2 : b = p
    · subst e2; rw [up_at, up_at]
    · rw [up_ne e2, up_ne e2, up_ne e1]
theorem rot_perm {α : Type} : ∀ {ls : List α} {j : Nat} {a : α}, ls[j]? = some a → (a :: ls.eraseIdx j).Perm ls
  | [], j, a, h => by cases h
  | b :: ls, 0, a, h => by cases h; exact .refl _
  | b :: ls, j + 1, a, h => (List.Perm.swap b a _).trans ((rot_perm (ls := ls) (j := j) h).cons b)
theorem erase_map {α β : Type} (f : α → β) : ∀ (l : List α) (i : Nat), (l.map f).eraseIdx i = (l.eraseIdx i).map f
  | [], _ => rfl
  | _ :: _, 0 => rfl
  | a :: l, i + 1 => congrArg (f a :: ·) (erase_map f l i)
theorem cut_take {α : Type} {l : List α} {m : Int} (h : 0 ≤ m) : cutD l none (some m) = l.take m.toNat := by
  obtain ⟨n, rfl⟩ := Int.eq_ofNat_of_zero_le h
  unfold cutD
  rw [HT.sIx_none, show HT.sIx l.length l.length (some (n : Int)) = min n l.length from HT.sIx_nat _ _ n, List.drop_zero, Nat.sub_zero, Int.toNat_natCast]
  rw [← List.take_eq_take_min]
theorem cut_drop {α : Type} {l : List α} {m : Int} (h : 0 ≤ m) : cutD l (some m) none = l.drop m.toNat := by
  obtain ⟨n, rfl⟩ := Int.eq_ofNat_of_zero_le h
  unfold cutD
  rw [HT.sIx_none, show HT.sIx l.length 0 (some (n : Int)) = min n l.length from HT.sIx_nat _ _ n, Int.toNat_natCast]
  rw [List.take_of_length_le (by rw [List.length_drop]; omega)]
  by_cases q : n ≤ l.length
  · rw [Nat.min_eq_left q]
  · rw [Nat.min_eq_right (by omega), List.drop_of_length_le (Nat.le_refl _), List.drop_of_length_le (by omega)]
end Kn
/-! KnR: data that may be shown and compared; texts of small signs; find. -/
namespace Kn
open PySem PySem.Spec PyProof.Rows
open L2 hiding St
def smlB (z : Str) : Bool := z.cps.all (· < 0x110000)
mutual
def fine : Dat → Bool
  | .non => true
  | .bl _ => true
  | .int i => decide ((PyData.shown (.int i)).length ≤ 13) && decide (i.natAbs.log2 < 1920)
  | .str x => smlB x
  | .lst xs => fines xs
  | .fro xs => fines xs
  | .tup xs => fines xs
  | _ => false
def fines : List Dat → Bool
  | [] => true
  | d :: ds => fine d && fines ds
end
mutual
theorem fine_all : ∀ d : Dat, fine d = true → plain d = true ∧ (toPy d).canLay0 = true ∧ (toPy d).showable = true ∧ (toPy d).hasDict = false ∧ (toPy d).intsShort 13 = true
  | .non, _ => ⟨rfl, rfl, rfl, rfl, rfl⟩
  | .bl _, _ => ⟨rfl, rfl, rfl, rfl, rfl⟩
  | .int i, h => by
    have h : (decide ((PyData.shown (.int i)).length ≤ 13) && decide (i.natAbs.log2 < 1920)) = true := h
    obtain ⟨h1, h2⟩ := Bool.and_eq_true_iff.mp h
    exact ⟨rfl, rfl, h2, rfl, h1⟩
  | .str x, h => ⟨rfl, h, rfl, rfl, rfl⟩
  | .lst xs, h => by
    obtain ⟨h1, h2, h3, h4, h5⟩ := fines_all xs h
    exact ⟨h1, h2, h3, h4, h5⟩
  | .fro xs, h => by
    obtain ⟨h1, h2, h3, h4, h5⟩ := fines_all xs h
    exact ⟨h1, h2, h3, h4, h5⟩
  | .tup xs, h => by
    obtain ⟨h1, h2, h3, h4, h5⟩ := fines_all xs h
    exact ⟨h1, h2, h3, h4, h5⟩
theorem fines_all : ∀ ds : List Dat, fines ds = true → plains ds = true ∧ PyData.canLayAll0 (toPys ds) = true ∧ PyData.showableAll (toPys ds) = true ∧ PyData.hasDictAll (toPys ds) = false ∧ PyData.intsShortAll 13 (toPys ds) = true
  | [], _ => ⟨rfl, rfl, rfl, rfl, rfl⟩
  | d :: ds, h => by
    have h : (fine d && fines ds) = true := h
    obtain ⟨h1, h2⟩ := Bool.and_eq_true_iff.mp h
    obtain ⟨a1, a2, a3, a4, a5⟩ := fine_all d h1
    obtain ⟨b1, b2, b3, b4, b5⟩ := fines_all ds h2
    refine ⟨?_, ?_, ?_, ?_, ?_⟩
    · show (plain d && plains ds) = true
      rw [a1, b1]; rfl
    · show (PyData.canLay0 (toPy d) && PyData.canLayAll0 (toPys ds)) = true
      rw [a2, b2]; rfl
    · show (PyData.showable (toPy d) && PyData.showableAll (toPys ds)) = true
      rw [a3, b3]; rfl
    · show (PyData.hasDict (toPy d) || PyData.hasDictAll (toPys ds)) = false
      rw [a4, b4]; rfl
    · show (PyData.intsShort 13 (toPy d) && PyData.intsShortAll 13 (toPys ds)) = true
      rw [a5, b5]; rfl
end
def dep (d : Dat) : Nat := (toPy d).depth
def wgt (d : Dat) : Nat := (toPy d).weight
theorem shape_of {d : Dat} (h : fine d = true) (hd : dep d ≤ 64) : SeqAt.shaped (toPy d) = true := by
  unfold SeqAt.shaped
  rw [(fine_all d h).2.1]
  exact decide_eq_true hd
theorem reprOk_of {d : Dat} (h : fine d = true) (hd : dep d ≤ 64) (hw : wgt d ≤ 2 ^ 20) : reprOk d = true := by
  obtain ⟨h1, h2, h3, h4, h5⟩ := fine_all d h
  have h6 : (toPy d).layable0 = true := by
    unfold PyData.layable0
    rw [h2, decide_eq_true (show (toPy d).depth ≤ 64 from hd), decide_eq_true (show (toPy d).weight ≤ 2 ^ 20 from hw)]; rfl
  unfold reprOk
  rw [h1, h6, h3, h4, h5]; rfl
def deps : List Dat → Nat := fun ds => PyData.depthAll (toPys ds)
def wgts : List Dat → Nat := fun ds => PyData.weightAll (toPys ds)
section
variable {α : Type} {f : α → Dat} {l : List α} {b : Nat}
theorem fines_map : ∀ {l : List α}, (∀ a ∈ l, fine (f a) = true) → fines (l.map f) = true
  | [], _ => rfl
  | a :: l, h => by
    show (fine (f a) && fines (l.map f)) = true
    rw [h a List.mem_cons_self, fines_map fun c hc => h c (List.mem_cons_of_mem a hc)]; rfl
theorem deps_map : ∀ {l : List α}, (∀ a ∈ l, dep (f a) ≤ b) → deps (l.map f) ≤ b
  | [], _ => Nat.zero_le _
  | a :: l, h => Nat.max_le.mpr ⟨h a List.mem_cons_self, deps_map fun c hc => h c (List.mem_cons_of_mem a hc)⟩
theorem wgts_map : ∀ {l : List α}, (∀ a ∈ l, wgt (f a) ≤ b) → wgts (l.map f) ≤ l.length * (b + 1)
  | [], _ => Nat.zero_le _
  | a :: l, h => by
    have h1 := h a List.mem_cons_self
    have h2 := wgts_map (l := l) fun c hc => h c (List.mem_cons_of_mem a hc)
    show wgt (f a) + 1 + wgts (l.map f) ≤ (l.length + 1) * (b + 1)
    rw [Nat.succ_mul]
    omega
end
theorem dep_lst {ds : List Dat} : dep (.lst ds) = deps ds + 1 := rfl
theorem dep_tup {ds : List Dat} : dep (.tup ds) = deps ds + 1 := rfl
theorem wgt_lst {ds : List Dat} : wgt (.lst ds) = wgts ds := rfl
theorem wgt_tup {ds : List Dat} : wgt (.tup ds) = wgts ds := rfl
theorem eqD_nil (ds : List Dat) : eqD (.lst ds) (.lst []) = ds.isEmpty := by
  cases ds <;> rfl
/-! numbers that are small enough to be shown -/
theorem fine_nat {m : Int} (h0 : 0 ≤ m) (h : m < 10 ^ 12) : fine (.int m) = true := by
  have h1 : (PyData.shown (.int m)).length ≤ 13 := by
    have := PyProof.Rows.toString_length_le (v := m) (k := 12) h0 (by decide) h
    exact Nat.le_trans this (by decide)
  have h2 : m.natAbs.log2 < 1920 := by
    by_cases hz : m.natAbs = 0
    · rw [hz]; decide
    · rw [Nat.log2_lt hz]
      have e : m.natAbs < 10 ^ 12 := by omega
      exact Nat.lt_of_lt_of_le e (by decide +kernel)
  show (decide _ && decide _) = true
  rw [decide_eq_true h1, decide_eq_true h2]; rfl
theorem wgt_nat {m : Int} (h0 : 0 ≤ m) (h : m < 10 ^ 12) : wgt (.int m) ≤ 41 := by
  show (if m == 0 then 0 else m.natAbs.log2 + 1) ≤ 41
  split
  · exact Nat.zero_le _
  · rename_i hm
    have hz : m.natAbs ≠ 0 := fun e => hm (by rw [show m = 0 by omega]; rfl)
    have h2 : m.natAbs.log2 < 40 := by
      rw [Nat.log2_lt hz]
      have e : m.natAbs < 10 ^ 12 := by omega
      exact Nat.lt_of_lt_of_le e (by decide +kernel)
    omega
/-! ### small signs -/
def sml (z : Str) : Prop := ∀ c ∈ sgs z, c < 0x110000
theorem sml_b {z : Str} (h : sml z) : smlB z = true := by
  unfold smlB
  rw [Array.all_eq_true_iff_forall_mem]
  exact fun c hc => decide_eq_true (h c (Array.mem_toList_iff.mpr hc))
theorem sml_app {y z : Str} (h : sml y) (h' : sml z) : sml (y ++ z) := fun c hc => by
  rw [sgs_app] at hc
  exact (List.mem_append.mp hc).elim (h c) (h' c)
theorem sgs_cut (z : Str) (lo hi : Option Int) : sgs (cutS z lo hi) = cutD (sgs z) lo hi := by
  show (z.cps.toList.drop (HT.sIx z.length 0 lo)).take (HT.sIx z.length z.length hi - HT.sIx z.length 0 lo) = _
  unfold cutD
  rw [← sgs_len]
  rfl
theorem cut_mem {α : Type} {l : List α} {lo hi : Option Int} {c : α} (h : c ∈ cutD l lo hi) : c ∈ l := List.mem_of_mem_drop (List.mem_of_mem_take h)
theorem cut_len {α : Type} {l : List α} {lo hi : Option Int} : (cutD l lo hi).length ≤ l.length := by
  unfold cutD
  rw [List.length_take, List.length_drop]
  omega
theorem sml_cut {z : Str} {lo hi : Option Int} (h : sml z) : sml (cutS z lo hi) := fun c hc => by
  rw [sgs_cut] at hc
  exact h c (cut_mem hc)
theorem cutS_len {z : Str} {lo hi : Option Int} : (cutS z lo hi).length ≤ z.length := by
  rw [sgs_len, sgs_cut, sgs_len]
  exact cut_len
theorem mem_joined {y : Str} {c : Nat} : ∀ {ws : List Str}, c ∈ sgs (Txt.join y ws) ↔ (∃ z ∈ ws, c ∈ sgs z) ∨ (2 ≤ ws.length ∧ c ∈ sgs y) := by
  intro ws
  rw [TL.join_eq]
  induction ws with
  | nil =>
    constructor
    · intro h; cases h
    · rintro (⟨z, hz, _⟩ | ⟨h, _⟩)
      · cases hz
      · exact absurd h (by decide)
  | cons a r ih =>
    cases r with
    | nil =>
      constructor
      · intro h; exact .inl ⟨a, List.mem_cons_self, h⟩
      · rintro (⟨z, hz, h⟩ | ⟨h, _⟩)
        · rw [List.mem_singleton.mp hz] at h; exact h
        · exact absurd h (show ¬ 2 ≤ 1 by decide)
    | cons b r =>
      have e : sgs (Str.join y (a :: b :: r)) = sgs a ++ sgs y ++ sgs (Str.join y (b :: r)) := by
        show sgs (a ++ y ++ Str.join y (b :: r)) = _
        rw [sgs_app, sgs_app]
      rw [e]
      constructor
      · intro h
        rcases List.mem_append.mp h with h | h
        · rcases List.mem_append.mp h with h | h
          · exact .inl ⟨a, List.mem_cons_self, h⟩
          · exact .inr ⟨by rw [List.length_cons, List.length_cons]; omega, h⟩
        · rcases ih.mp h with ⟨z, hz, h⟩ | ⟨_, h⟩
          · exact .inl ⟨z, List.mem_cons_of_mem _ hz, h⟩
          · exact .inr ⟨by rw [List.length_cons, List.length_cons]; omega, h⟩
      · rintro (⟨z, hz, h⟩ | ⟨_, h⟩)
        · rcases List.mem_cons.mp hz with rfl | hz
          · exact List.mem_append.mpr (.inl (List.mem_append.mpr (.inl h)))
          · exact List.mem_append.mpr (.inr (ih.mpr (.inl ⟨z, hz, h⟩)))
        · exact List.mem_append.mpr (.inl (List.mem_append.mpr (.inr h)))
theorem sml_word {z x : Str} (h : sml z) (hw : x ∈ Txt.split z " ") : sml x := fun c hc => by
  refine h c ?_
  rw [← join_split z " " (by decide +kernel)]
  exact mem_joined.mpr (.inl ⟨x, hw, hc⟩)
theorem sml_join {ws : List Str} (h : ∀ x ∈ ws, sml x) : sml (Txt.join " " ws) := fun c hc => by
  rcases mem_joined.mp hc with ⟨x, hx, h1⟩ | ⟨_, h1⟩
  · exact h x hx c h1
  · have e : sgs (Str.ofString " ") = [32] := by decide +kernel
    rw [e] at h1
    rw [List.mem_singleton.mp h1]
    decide
/-- joined by blanks: at most this long -/
theorem join_le {ws : List Str} : (Txt.join " " ws).length ≤ (ws.map (·.length)).sum + ws.length := by
  cases ws with
  | nil => exact Nat.zero_le _
  | cons a r =>
    have h := join_len " " (a :: r) (List.cons_ne_nil _ _)
    rw [sp1, Nat.mul_one] at h
    omega
/-! ### find and partition alike -/
theorem find_whole (x y : Str) : (Txt.find x y = -1 ∧ ∀ i, ¬ StrLaws.At x y x.length i) ∨ ∃ i : Nat, Txt.find x y = (i : Int) ∧ StrLaws.At x y x.length i ∧ ∀ k, k < i → ¬ StrLaws.At x y x.length k := by
  unfold Txt.find
  rcases StrLaws.occ_head x y 1 (Nat.le_refl 1) with ⟨h0, hn⟩ | ⟨i, r, h0, hi, hn⟩
  · rw [h0]; exact .inl ⟨rfl, hn⟩
  · rw [h0]; exact .inr ⟨i, rfl, hi, hn⟩
/-- a text cut at its first y, both ways -/
theorem cut_at (x y : Str) : (Txt.find x y = -1 ∧ Txt.partition x y = (x, Str.empty, Str.empty)) ∨ ∃ i : Nat, Txt.find x y = (i : Int) ∧ Txt.partition x y = (cutS x none (some (i : Int)), y, cutS x (some ((i : Int) + (y.length : Int))) none) := by
  rcases find_whole x y with ⟨e, hn⟩ | ⟨i, e, hi, hn⟩
  · rcases PyProof.Rows.partition_whole x y with ⟨e2, _⟩ | ⟨j, _, hj, _⟩
    · exact .inl ⟨e, e2⟩
    · exact absurd hj (hn j)
  · rcases PyProof.Rows.partition_whole x y with ⟨_, hn2⟩ | ⟨j, e2, hj, hn2⟩
    · exact absurd hi (hn2 i)
    · have hij : i = j := by
        rcases Nat.lt_trichotomy i j with h | h | h
        · exact absurd hi (hn2 i h)
        · exact h
        · exact absurd hj (hn j h)
      subst hij
      refine .inr ⟨i, e, ?_⟩
      have hb : i + y.length ≤ x.length := hi.1
      rw [e2]
      have e3 : Builtin.Str.strSub x 0 i = cutS x none (some (i : Int)) := TL.ext_tl (by
        rw [TL.tl_strSub]
        show _ = sgs (cutS x none (some (i : Int)))
        rw [sgs_cut, cut_take (by omega), Int.toNat_natCast, List.drop_zero, Nat.sub_zero]
        rfl)
      have e4 : Builtin.Str.strSub x (i + y.length) x.length = cutS x (some ((i : Int) + (y.length : Int))) none := TL.ext_tl (by
        rw [TL.tl_strSub_end]
        show _ = sgs (cutS x (some ((i : Int) + (y.length : Int))) none)
        rw [sgs_cut, cut_drop (by omega), show ((i : Int) + (y.length : Int)).toNat = i + y.length by omega]
        rfl)
      rw [e3, e4]
end Kn
/-! KnO: own classes: fields, methods, classmethods, instances made; str(x), x == y by own defs. -/
namespace Kn
open PySem PySem.Spec PyProof.Rows
open L2 hiding St
section
variable {X : Cx} {O : Own} {ρ : List Slot} {x : ExK} {k k' : Slot → Own → Prop} {kl kl' : List Slot → Own → Prop} {e a b c o : Expr} {es : List Expr} {pos p apos pos2 : Pos} {D : SD} {g g' : Bool} {j n : Nat} {S : SpecT} {df : List Dat} {m f : Str}
/-! fields -/
def FldB (K : PySem.W.Frag) (f : Str) (s : Slot) (O : Own) (k : Slot → Own → Prop) : Prop := match s with
  | .own p => ∃ C dx fs s', O p = some (.ins C dx fs) ∧ Cls K C ∧ NoAttr K C f ∧ fs.lookup f = some s' ∧ k s' O
  | .dat (.ins C fs) => ∃ d, Cls K C ∧ NoAttr K C f ∧ fs.lookup f = some d ∧ k (.dat d) O
  | .dat (.tre C d1 g es d2) => ∃ d, Cls K C ∧ NoAttr K C f ∧ f ≠ g ∧ (d1 ++ d2).lookup f = some d ∧ k (.dat d) O
  | _ => False
theorem lookup_skip {α : Type} {f g : Str} {x : α} (ne : f ≠ g) : ∀ {f1 f2 : List (Str × α)}, (f1 ++ (g, x) :: f2).lookup f = (f1 ++ f2).lookup f
  | [], f2 => by
    rw [List.nil_append, List.nil_append, List.lookup_cons]
    have e : (f == g) = false := by simpa using ne
    rw [e]
  | (y, z) :: f1, f2 => by
    rw [List.cons_append, List.cons_append, List.lookup_cons, List.lookup_cons, lookup_skip ne]
theorem rpf_app {K : PySem.W.Frag} {G : Hp} {f2 : List (Str × V)} {d2 : List (Str × Dat)} (h2 : RpF K G f2 d2) : ∀ {f1 : List (Str × V)} {d1 : List (Str × Dat)}, RpF K G f1 d1 → RpF K G (f1 ++ f2) (d1 ++ d2)
  | _, _, .nil => h2
  | _, _, .cons h t => .cons h (rpf_app h2 t)
theorem pairedF_lookup {K : PySem.W.Frag} {G : Hp} {f : Str} {s : Slot} : ∀ {fv : List (Str × V)} {fs : List (Str × Slot)}, Paired (FlOk K G) fv fs → fs.lookup f = some s → ∃ v, fv.lookup f = some v ∧ SlOk K G v s
  | _, _, .nil, h => by cases h
  | (y, v) :: fv, (z, t) :: fs, .cons r q, h => by
    obtain ⟨e, r⟩ := r
    cases e
    rw [List.lookup_cons] at h ⊢
    split at h
    · cases h; rename_i e1; exact ⟨v, rfl, r⟩
    · exact pairedF_lookup q h
theorem pairedF_none {K : PySem.W.Frag} {G : Hp} {f : Str} : ∀ {fv : List (Str × V)} {fs : List (Str × Slot)}, Paired (FlOk K G) fv fs → fs.lookup f = none → fv.lookup f = none
  | _, _, .nil, h => rfl
  | (y, v) :: fv, (z, t) :: fs, .cons r q, h => by
    obtain ⟨e, r⟩ := r
    cases e
    rw [List.lookup_cons] at h ⊢
    split at h
    · cases h
    · exact pairedF_none q h
theorem rpf_none {K : PySem.W.Frag} {G : Hp} {f : Str} : ∀ {fv : List (Str × V)} {fs : List (Str × Dat)}, RpF K G fv fs → fs.lookup f = none → fv.lookup f = none
  | _, _, .nil, h => rfl
  | _, _, .cons r q, h => by
    rw [List.lookup_cons] at h ⊢
    split at h
    · cases h
    · exact rpf_none q h
theorem ew_fld (h : EW X O ρ o x fun s O1 => FldB X.K f s O1 k) (hb : attributeBase o f X.env (eval o X.env) = eval o X.env := by rfl) : EW X O ρ (.Attribute o f pos) x k := fun H0 σ H st tk Q q => by
  refine we_of (pe_fld pe_w hb) (h H0 σ H st tk _ fun v H1 s O1 hk st1 r1 => ?_)
  cases s with
  | unk => exact hk.elim
  | own p =>
    obtain ⟨C, dx, fs, s', hp, c, na, hl, hk⟩ := hk
    obtain ⟨ob, h1, fv, rfl, h2⟩ := st1.own.cell p _ hp
    obtain ⟨w, hw, rw⟩ := pairedF_lookup h2 hl
    exact ⟨p, C, dx, fv, w, r1, h1, c, na, hw, q w H1 s' O1 hk st1 rw⟩
  | dat d =>
    cases d with
    | ins C fs =>
      obtain ⟨d', c, na, hl, hk⟩ := hk
      cases r1 with
      | ins h1 h2 =>
        obtain ⟨w, hw, rw⟩ := h2.lookup hl
        exact ⟨_, C, _, _, w, rfl, hid_le _ _ h1, c, na, hw, q w H1 _ O1 hk st1 rw⟩
    | tre C d1 g es d2 =>
      obtain ⟨d', c, na, ne, hl, hk⟩ := hk
      cases r1 with
      | tre h1 h2 h3 h4 h5 =>
        obtain ⟨w, hw, rw⟩ := (rpf_app h4 h3).lookup hl
        exact ⟨_, C, _, _, w, rfl, hid_le _ _ h1, c, na, by rw [lookup_skip ne]; exact hw, q w H1 _ O1 hk st1 rw⟩
    | _ => exact hk.elim
/-- one field set anew -/
def putS (f : Str) (s : Slot) : List (Str × Slot) → List (Str × Slot)
  | [] => [(f, s)]
  | (g, t) :: r => if g = f then (g, s) :: r else (g, t) :: putS f s r
theorem pairedF_put {K : PySem.W.Frag} {G : Hp} {f : Str} {v : V} {s : Slot} (h : SlOk K G v s) : ∀ {fv : List (Str × V)} {fs : List (Str × Slot)}, Paired (FlOk K G) fv fs → Paired (FlOk K G) (putF f v fv) (putS f s fs)
  | _, _, .nil => .cons ⟨rfl, h⟩ .nil
  | (y, w) :: fv, (z, t) :: fs, .cons r q => by
    obtain ⟨e, r⟩ := r
    cases e
    unfold putF putS
    by_cases hz : y = f
    · rw [if_pos hz, if_pos hz]; exact .cons ⟨rfl, h⟩ q
    · rw [if_neg hz, if_neg hz]; exact .cons ⟨rfl, r⟩ (pairedF_put h q)
theorem st_slot {K : PySem.W.Frag} {H1 H2 : Hp} {O1 O2 : Own} {σ : SV} {ρ : List Slot} {v : V} {s : Slot} (r : SlOk K (hid O1 H1) v s) (st : StOk K (hid O1 H1) O2 σ ρ H2) : SlOk K (hid O2 H2) v s := SlOk.mono st.base r
/-- o.f = e -/
theorem s1_fld (h : EW X O ρ e x fun s O1 => EW X O1 ρ o x fun t O2 => ∃ (p : Addr) (C dx : Addr) (fs : List (Str × Slot)), t = .own p ∧ O2 p = some (.ins C dx fs) ∧ Cls X.K C ∧ NoAttr X.K C f ∧ fs.length < 1000 ∧ D.nx ρ (up O2 p (.ins C dx (putS f s fs))))
    (hs : swapsWith e (some (.Attribute o f pos2)) pos.line X.env = pure false := by rfl) : S1 X O ρ (.Assign [.Attribute o f pos2] e pos) x D := fun H0 σ H st tk E ok => by
  refine ws_of (ps_fld pe_w pe_w hs) (h H0 σ H st tk _ fun v H1 s O1 hk st1 r1 => ?_)
  refine hk _ σ H1 st1.top (takes_base tk st1.base) _ fun w H2 t O2 hq st2 r2 => ?_
  obtain ⟨p, C, dx, fs, rfl, hp, c, na, hl, hn⟩ := hq
  cases r2
  obtain ⟨ob, h1, fv, rfl, h2⟩ := st2.own.cell p _ hp
  refine ⟨p, C, dx, fv, rfl, h1, c, na, by rw [paired_len h2]; exact hl, ?_⟩
  exact ok.nx σ ρ _ _ hn ((st2.rebase st1.base).write hp ⟨_, rfl, pairedF_put (st_slot r1 st2) h2⟩)
/-! methods -/
/-- m is a def of the class at C, with its contract -/
def MCal (P : Program) (w : World) (K : PySem.W.Frag) (mg : Str → Option Value) (base : Heap) (g : Bool) (k : Nat) (C : Addr) (m : Str) (S : SpecT) (df : List Dat) : Prop :=
  ∃ (f : Addr) (fd : FuncData) (ps : List Str) (ds : List Value) (dvs : List V), Meth K C m f ∧ Fn P w K mg base g k f fd ps S ∧ Binds K fd ps ds ∧ Vals dvs ds ∧ ∀ G, RpA K G dvs df
def InsAt (O : Own) (C : Addr) (m : Str) : Slot → Prop
  | .own p => ∃ dx fs, O p = some (.ins C dx fs) ∧ fs.lookup m = none
  | .dat (.ins C' fs) => C' = C ∧ fs.lookup m = none
  | .dat (.tre C' d1 g es d2) => C' = C ∧ m ≠ g ∧ (d1 ++ d2).lookup m = none
  | _ => False
theorem ins_at {K : PySem.W.Frag} {H0 H : Hp} {O : Own} {σ : SV} {ρ : List Slot} {C : Addr} {m : Str} {s : Slot} {v : V} (h : InsAt O C m s) (st : StOk K H0 O σ ρ H) (r : SlOk K (hid O H) v s) :
    ∃ a dx fs, v = .ref a ∧ H a = some (.ins C dx fs) ∧ fs.lookup m = none := by
  cases s with
  | unk => exact h.elim
  | own p =>
    obtain ⟨dx, fs, hp, hl⟩ := h
    obtain ⟨ob, h1, fv, rfl, h2⟩ := st.own.cell p _ hp
    exact ⟨p, dx, fv, r, h1, pairedF_none h2 hl⟩
  | dat d =>
    cases d with
    | ins C' fs =>
      obtain ⟨rfl, hl⟩ := h
      cases r with
      | ins h1 h2 => exact ⟨_, _, _, rfl, hid_le _ _ h1, rpf_none h2 hl⟩
    | tre C' d1 g es d2 =>
      obtain ⟨rfl, ne, hl⟩ := h
      cases r with
      | tre h1 h2 h3 h4 h5 => exact ⟨_, _, _, rfl, hid_le _ _ h1, by rw [lookup_skip ne]; exact rpf_none (rpf_app h4 h3) hl⟩
    | _ => exact h.elim
theorem ew_meth {C : Addr} {pl : Sem Bool} (mc : MCal X.prog X.w X.K X.mg X.base g n C m S df) (c : Cls X.K C) (hr : RoomB g' j X.A)
    (h : EW X O ρ o x fun s O1 => InsAt O1 C m s ∧ AW X O1 ρ (e :: es) x fun ss O2 => S (s :: (ss ++ df.map .dat)) O2 (kOut x ρ k)) (hj : n ≤ j := by decide) (hgg : g = true → g' = true := by first | exact fun _ => rfl | exact fun h => h | exact fun h => nomatch h)
    (hst : starEach (e :: es) X.env = (false, eval e X.env) :: starEach es X.env := by rfl) (hpl : (backTo pos (starEach es X.env)).any (·.1) = false := by rfl)
    (ht : eval (.Call (.Attribute o m apos) (e :: es) [] pos) X.env = (do
      let ov ← eval o X.env
      standAt apos.atName
      let (f, first) ← holding [ov] (getMethod ov m pl)
      callWith pos f first (backTo pos (starEach (e :: es) X.env)) (backToKw pos (keywordEach [] X.env))) := by rfl) :
    EW X O ρ (.Call (.Attribute o m apos) (e :: es) [] pos) x k := fun H0 σ H st tk Q q => ⟨fun pins s I => by
  obtain ⟨f, fd, ps, ds, dvs, hm, F, hb, hd, hdf⟩ := mc
  refine PySem.W.methodCall_KW (pl := pl) (thn ((pe_w (e := o)).run pins s σ H (fun v H1 => ∃ s1 O1, (InsAt O1 C m s1 ∧ AW X O1 ρ (e :: es) x fun ss O2 => S (s1 :: (ss ++ df.map .dat)) O2 (kOut x ρ k)) ∧ StOk X.K H0 O1 σ ρ H1 ∧ SlOk X.K (hid O1 H1) v s1) I (h H0 σ H st tk _ fun v H1 s1 O1 hk st1 r1 => ⟨s1, O1, hk, st1, r1⟩)) fun u s1 hq => ?_) ht
  obtain ⟨v, H1, I1, rx, t, O1, ⟨hi, ha⟩, st1, r1⟩ := hq
  obtain ⟨a, dx, fs, rfl, hHa, hl⟩ := ins_at hi st1 r1
  cases rx
  refine getmeth_ok I1 hHa c hm hl ?_
  refine PySem.W.callWith_K (first := [.ref a]) (h₀ := X.base) I1.ok.mod.kin hm.kp (thn ((pa_w (es := e :: es)).run pos pins s1 σ H1 (fun vs H2 => ∃ ss O2, StOk X.K (hid O1 H1) O2 σ ρ H2 ∧ Paired (SlOk X.K (hid O2 H2)) vs ss ∧ S (t :: (ss ++ df.map .dat)) O2 (kOut x ρ k)) I1 (ha _ σ H1 st1.top (takes_base tk st1.base) _ fun vs H2 ss O2 h2 st2 r2 => ⟨ss, O2, st2, r2, h2⟩)) fun us s2 hq => ?_) hst hpl
  obtain ⟨vs, H2, I2, rv, ss, O2, st2, pr, hS⟩ := hq
  exact ⟨I2.kIn, run_call (us := .ref a :: us) (vs := .ref a :: vs) (ss := t :: ss) F (hr.mono hj hgg) hb hd hdf I2 (st2.rebase st1.base) tk (.cons rfl rv) (.cons (st_slot r1 st2) pr) hS q⟩⟩
theorem ew_meth0 {C : Addr} {pl : Sem Bool} (mc : MCal X.prog X.w X.K X.mg X.base g n C m S df) (c : Cls X.K C) (hr : RoomB g' j X.A)
    (h : EW X O ρ o x fun s O1 => InsAt O1 C m s ∧ S (s :: df.map .dat) O1 (kOut x ρ k)) (hj : n ≤ j := by decide) (hgg : g = true → g' = true := by first | exact fun _ => rfl | exact fun h => h | exact fun h => nomatch h)
    (ht : eval (.Call (.Attribute o m apos) [] [] pos) X.env = (do
      let ov ← eval o X.env
      standAt apos.atName
      let (f, first) ← holding [ov] (getMethod ov m pl)
      callWith pos f first (backTo pos (starEach [] X.env)) (backToKw pos (keywordEach [] X.env))) := by rfl) :
    EW X O ρ (.Call (.Attribute o m apos) [] [] pos) x k := fun H0 σ H st tk Q q => ⟨fun pins s I => by
  obtain ⟨f, fd, ps, ds, dvs, hm, F, hb, hd, hdf⟩ := mc
  refine PySem.W.methodCall_KW (pl := pl) (thn ((pe_w (e := o)).run pins s σ H (fun v H1 => ∃ s1 O1, (InsAt O1 C m s1 ∧ S (s1 :: df.map .dat) O1 (kOut x ρ k)) ∧ StOk X.K H0 O1 σ ρ H1 ∧ SlOk X.K (hid O1 H1) v s1) I (h H0 σ H st tk _ fun v H1 s1 O1 hk st1 r1 => ⟨s1, O1, hk, st1, r1⟩)) fun u s1 hq => ?_) ht
  obtain ⟨v, H1, I1, rx, t, O1, ⟨hi, hS⟩, st1, r1⟩ := hq
  obtain ⟨a, dx, fs, rfl, hHa, hl⟩ := ins_at hi st1 r1
  cases rx
  refine getmeth_ok I1 hHa c hm hl ?_
  exact PySem.W.callWith_K0 (first := [.ref a]) I1.kIn hm.kp (run_call (us := [.ref a]) (vs := [.ref a]) (ss := [t]) F (hr.mono hj hgg) hb hd hdf I1 st1 tk (.cons rfl .nil) (.cons r1 .nil) hS q)⟩
/-! making -/
@[reducible] def kMake (x : ExK) (ρ : List Slot) (k : Slot → Own → Prop) (a : Addr) : Out → Own → Prop
  | .ret s, O => s = .dat .non ∧ k (.own a) O
  | .exc e, O => x e ρ O
/-- the class at C has the __init__ with the contract -/
def MkC (P : Program) (w : World) (K : PySem.W.Frag) (mg : Str → Option Value) (base : Heap) (k : Nat) (C : Addr) (S : SpecT) (df : List Dat) : Prop :=
  ∃ (f : Addr) (fd : FuncData) (ps : List Str) (ds : List Value) (dvs : List V), Mk K C f ∧ Fn P w K mg base false k f fd ps S ∧ Binds K fd ps ds ∧ Vals dvs ds ∧ ∀ G, RpA K G dvs df
def MakeS (C : Addr) (S : SpecT) (df : List Dat) (x : ExK) (ρ : List Slot) (k : Slot → Own → Prop) (ss : List Slot) (O : Own) : Prop :=
  ∀ a dx, O a = none → O dx = none → dx ≠ a → S (.own a :: (ss ++ df.map .dat)) (up O a (.ins C dx [])) (kMake x ρ k a)
theorem run_makeS {C : Addr} {vs : List V} {us : List Value} {ss : List Slot} {pins : List (Addr × Obj)} {s : Shared} {σ : SV} {H0 H : Hp} {Q : VK} (M : MkC X.prog X.w X.K X.mg X.base n C S df) (hr : RoomB g (n + 1) X.A)
    (I : Inv X pins σ H s) (st : StOk X.K H0 O σ ρ H) (tk : Takes X (Wsem X.K H0 x)) (rv : Vals vs us) (pr : Paired (SlOk X.K (hid O H)) vs ss) (h : MakeS C S df x ρ k ss O) (q : ∀ v H' s O', k s O' → StOk X.K H0 O' σ ρ H' → SlOk X.K (hid O' H') v s → Q v H') :
    wpAny (model X.prog X.w) X.A (call (.ref C) us) (EP X pins σ Q) X.xe s := by
  obtain ⟨f, fd, ps, ds, dvs, M, F, hb, hd, hdf⟩ := M
  have fx : H (s.heap.objs.size + 1) = none := I.hok.fresh (Nat.le_succ _)
  have fd0 : H s.heap.objs.size = none := I.hok.fresh (Nat.le_refl _)
  have nxd : s.heap.objs.size ≠ s.heap.objs.size + 1 := Nat.ne_of_lt (Nat.lt_succ_self _)
  have hq := h (s.heap.objs.size + 1) s.heap.objs.size (own_free st.own fx) (own_free st.own fd0) nxd
  have sm : Same H (upd H s.heap.objs.size (.own (s.heap.objs.size + 1))) := same_new fd0
  have st1 := st.grow sm
  have fx1 : (upd H s.heap.objs.size (.own (s.heap.objs.size + 1))) (s.heap.objs.size + 1) = none := by rw [upd_ne nxd.symm]; exact fx
  have st2 := st1.alloc (o := .ins C s.heap.objs.size []) (c := .ins C s.heap.objs.size []) fx1 ⟨[], rfl, .nil⟩
  have I2 := Inv.made (C := C) I
  have gm : Same (hid O H) (hid (up O (s.heap.objs.size + 1) (.ins C s.heap.objs.size [])) (upd (upd H s.heap.objs.size (.own (s.heap.objs.size + 1))) (s.heap.objs.size + 1) (.ins C s.heap.objs.size []))) := fun b u hb => by
    obtain ⟨z1, z2⟩ := of_hid hb
    have nb := ne_of_none z2 fx
    have nd := ne_of_none z2 fd0
    rw [hid_none (by rw [up_ne nb]; exact z1), upd_ne nb, upd_ne nd]
    exact z2
  have r2 : Vals (V.ref (s.heap.objs.size + 1) :: (vs ++ dvs)) (Value.ref (s.heap.objs.size + 1) :: (us ++ ds)) := .cons rfl (rv.append hd)
  have sp : spS X.K S (V.ref (s.heap.objs.size + 1) :: (vs ++ dvs)) (upd (upd H s.heap.objs.size (.own (s.heap.objs.size + 1))) (s.heap.objs.size + 1) (.ins C s.heap.objs.size [])) (fun v H2 => v = .non ∧ Q (.ref (s.heap.objs.size + 1)) H2) (fun cls d H' => Wsem X.K H0 x cls d σ H') :=
    ⟨_, .own (s.heap.objs.size + 1) :: (ss ++ df.map .dat), kMake x ρ k _, st2.own, .cons rfl (paired_app (pmap (fun _ _ z => SlOk.mono gm z) pr) (hdf _).paired), hq,
      fun v H' s' O' h1 h2 h3 h4 => by
        obtain ⟨rfl, h5⟩ := h1
        cases h4
        exact ⟨rfl, q _ H' _ O' h5 (st2.next h2 h3) rfl⟩, fun cls d e H' O' h1 h2 h3 h4 => ⟨e, ρ, O', h1, st2.next h2 h3, h4⟩⟩
  have hl : (Value.ref (s.heap.objs.size + 1) :: us ++ ds).length = ps.length := by
    have e := r2.length
    rw [spS_len F.len _ _ _ _ sp] at e
    exact e.symm
  refine wpAny_call (make_map (f := f) I.kIn M.makes M.init (beq_iff_eq.mp M.fn) (codeAny_mono (F.ok.run _ X.stack _ _ ⟨Value.ref (s.heap.objs.size + 1) :: us, []⟩ (Value.ref (s.heap.objs.size + 1) :: (us ++ ds)) _ _ _ (hr.r.make C us [])
    (I2.env0.make C us []) (hb _ (Value.ref (s.heap.objs.size + 1) :: us) I2.kIn hl) r2 sp) fun r s' hq' => ?_))
  cases r with
  | error e => exact tk e s' (XE.of_call I2 (fun _ _ _ h => h) hq')
  | ok fl =>
    cases fl with
    | ret u =>
      obtain ⟨v, H', I3, rv, ev, q3⟩ := I2.after hq'
      subst ev
      exact ⟨rv, ⟨V.ref (s.heap.objs.size + 1), H', I3, rfl, q3⟩⟩
    | next => exact False.elim hq'
    | brk => exact False.elim hq'
    | cont => exact False.elim hq'
theorem MkC.kp {P : Program} {w : World} {K : PySem.W.Frag} {mg : Str → Option Value} {base : Heap} {C : Addr} (M : MkC P w K mg base n C S df) : PySem.W.keepIn K (.ref C) = true := by
  obtain ⟨f, fd, ps, ds, dvs, M, _⟩ := M
  exact M.kp
/-- C(e, ..), C a name of the module -/
theorem ew_make {C : Addr} {nm : Str} (M : MkC X.prog X.w X.K X.mg X.base n C S df) (hm : X.mg nm = some (.ref C)) (hr : RoomB g j X.A) (h : AW X O ρ (e :: es) x (MakeS C S df x ρ k)) (hj : n + 1 ≤ j := by decide)
    (hg : Gl X nm := by rfl) (hdb : (nm == ("__debug__" : Str)) = false := by decide) (he : starEach (e :: es) X.env = (false, eval e X.env) :: starEach es X.env := by rfl) (hpl : (backTo pos (starEach es X.env)).any (·.1) = false := by rfl) :
    EW X O ρ (.Call (.Name nm p) (e :: es) [] pos) x k := fun H0 σ H st tk Q q => ⟨fun pins s I => by
  refine wpAny_Call_Name_kw (ld_glob I hg hm ?_ hdb)
  refine PySem.W.callWith_K (h₀ := X.base) I.ok.mod.kin M.kp (thn ((pa_w (es := e :: es)).run pos pins s σ H (fun vs H1 => ∃ ss O1, StOk X.K H0 O1 σ ρ H1 ∧ Paired (SlOk X.K (hid O1 H1)) vs ss ∧ MakeS C S df x ρ k ss O1) I (h H0 σ H st tk _ fun vs H1 ss O1 h1 st1 r1 => ⟨ss, O1, st1, r1, h1⟩)) fun us s1 hq => ?_) he hpl
  obtain ⟨vs, H1, I1, rv, ss, O1, st1, pr, hS⟩ := hq
  exact ⟨I1.kIn, run_makeS M (hr.mono hj (fun e => e)) I1 st1 tk rv pr hS q⟩⟩
theorem ew_make0 {C : Addr} {nm : Str} (M : MkC X.prog X.w X.K X.mg X.base n C S df) (hm : X.mg nm = some (.ref C)) (hr : RoomB g j X.A) (h : MakeS C S df x ρ k [] O) (hj : n + 1 ≤ j := by decide)
    (hg : Gl X nm := by rfl) (hdb : (nm == ("__debug__" : Str)) = false := by decide) :
    EW X O ρ (.Call (.Name nm p) [] [] pos) x k := fun H0 σ H st tk Q q => ⟨fun pins s I => by
  refine wpAny_Call_Name_kw (ld_glob I hg hm ?_ hdb)
  exact PySem.W.callWith_K0 I.kIn M.kp (run_makeS (us := []) (vs := []) (ss := []) M (hr.mono hj (fun e => e)) I st tk .nil .nil h q)⟩
/-- cls(e, ..), the i-th slot the class at C -/
theorem ew_makeL (i : Nat) {C : Addr} {nm : Str} (M : MkC X.prog X.w X.K X.mg X.base n C S df) (hr : RoomB g j X.A) (h : AW X O ρ (e :: es) x (MakeS C S df x ρ k)) (hj : n + 1 ≤ j := by decide)
    (hρ : ρ[i]? = some (.dat (.cls C)) := by rfl) (hN : X.N[i]? = some nm := by rfl) (hv : Vis X.env.scope nm := by first | exact Or.inl rfl | exact Or.inr (Or.inl rfl) | exact Or.inr (Or.inr rfl))
    (hdb : (nm == ("__debug__" : Str)) = false := by decide) (hcd : (nm == ("__classdict__" : Str)) = false := by decide) (he : starEach (e :: es) X.env = (false, eval e X.env) :: starEach es X.env := by rfl) (hpl : (backTo pos (starEach es X.env)).any (·.1) = false := by rfl) :
    EW X O ρ (.Call (.Name nm p) (e :: es) [] pos) x k := fun H0 σ H st tk Q q => ⟨fun pins s I => by
  obtain ⟨o0, ho, hs⟩ := paired_get st.env hρ
  obtain ⟨v, rfl, rv⟩ := hs
  cases rv
  refine wpAny_Call_Name_kw (thn ((pe_var (pos := p) hN hv hdb hcd).run pins s σ H (fun v H1 => v = .ref C ∧ H1 = H) I ⟨.ref C, ho, rfl, rfl⟩) fun u s1 ⟨v, H1, I1, r1, q1⟩ => ?_)
  obtain ⟨rfl, rfl⟩ := q1
  cases r1
  refine PySem.W.callWith_K (h₀ := X.base) I1.ok.mod.kin M.kp (thn ((pa_w (es := e :: es)).run pos pins s1 σ H1 (fun vs H1 => ∃ ss O1, StOk X.K H0 O1 σ ρ H1 ∧ Paired (SlOk X.K (hid O1 H1)) vs ss ∧ MakeS C S df x ρ k ss O1) I1 (h H0 σ H1 st tk _ fun vs H1 ss O1 h1 st1 r1 => ⟨ss, O1, st1, r1, h1⟩)) fun us s2 hq => ?_) he hpl
  obtain ⟨vs, H2, I2, rv, ss, O1, st1, pr, hS⟩ := hq
  exact ⟨I2.kIn, run_makeS M (hr.mono hj (fun e => e)) I2 st1 tk rv pr hS q⟩⟩
end
end Kn
/-! KnP: x == y, x != y, str(x) by own defs; classmethods; isinstance of own classes. -/
namespace KnX
open PySem PySem.Spec PyProof.Rows
section
variable {prog : Program} {w : World} {A : Around} {E : Value → Shared → Prop} {s : Shared} {K : PySem.W.Frag} {x C f : Addr} {ox : Obj} {od : Option Obj} {b tb : Value}
theorem ne_entry {Q : Fin → Shared → Prop} (hu : A.units < cLine) (X : K.In s.heap) (I : PySem.W.InstAt s.heap x ox C od) (hs : PySem.W.findIn K (.ref C) "__eq__" = some (some (.ref f))) (hf : PySem.W.isFn K (.ref f) = true)
    (h : wpAny (model prog w) A (call (.ref f) [.ref x, b]) (fun v s' => ∃ t, v = .bool t ∧ Q (.done (.ret (.bool (!t)))) s') E s) : wpAny (model prog w) A (Builtin.«object.__ne__» ⟨[.ref x, b], []⟩) Q E s := by
  unfold Builtin.«object.__ne__»
  refine wpAny_bind (m := slotArgs "__ne__" 1 _) (wpAny_pure ?_)
  refine wpAny_bind (wpAny_cRoomFor hu ?_)
  refine wpAny_bind (m := callSpecialIfBound? (.ref x) "__eq__" [b]) (PySem.W.ifBound_K X I hs hf (wpAny_mono h (fun v s' hv => ?_) fun _ _ e => e))
  obtain ⟨t, rfl, hq⟩ := hv
  exact wpAny_bind (wpAny_truthy_bool (wpAny_pure hq))
theorem call_ne {Q : Value → Shared → Prop} (hu : A.units + 1 < cLine) (X : K.In s.heap) (I : PySem.W.InstAt s.heap x ox C od) (hm : PySem.W.mroIn K C (.type "object") = some true) (hs : PySem.W.findIn K (.ref C) "__eq__" = some (some (.ref f))) (hf : PySem.W.isFn K (.ref f) = true)
    (h : wpAny (model prog w) A.in1 (call (.ref f) [.ref x, b]) (fun v s' => ∃ t, v = .bool t ∧ Q (.bool (!t)) s') E s) : wpAny (model prog w) A (call (.builtin "object.__ne__") [.ref x, b]) Q E s :=
  wpAny_call (codeAny_call_builtin F.cmp_object.ne.plain F.cmpEntry_ne (PySem.W.check_slot F.cmpKind_ne F.cmpSplit_ne (I.type.andThen (PySem.W.looks_mroIn X hm)) (F.cmpArgs_ne _ _) (ne_entry hu X I hs hf h)))
theorem ifBound_ne {M : Model} {args : List Value} {Q : Option Value → Shared → Prop} (X : K.In s.heap) (I : PySem.W.InstAt s.heap x ox C od) (hs : PySem.W.findIn K (.ref C) "__ne__" = some (some (.builtin "object.__ne__")))
    (h : wpAny M A (call (.builtin "object.__ne__") (.ref x :: args)) (fun v => Q (some v)) E s) : wpAny M A (callSpecialIfBound? (.ref x) "__ne__" args) Q E s := by
  simp only [callSpecialIfBound?, bindSpecialIfBound?]
  refine wpAny_holding (wpAny_bind (wpAny_bind (wpAny_bind (I.type.here ((PySem.W.looks_findIn X hs).here ?_)))))
  refine wpAny_bind (wpAny_askSetting (wpAny_ite ?_))
  have fin : wpAny M A (call (.builtin "object.__ne__") ([.ref x] ++ args) >>= fun v => pure (some v)) Q E s := wpAny_bind (wpAny_mono h (fun v s' h' => wpAny_pure h') fun _ _ h' => h')
  split
  · exact wpAny_bind (wpAny_of_eq (F.cmp_object.ne.bind _) (wpAny_pure (by exact fin)))
  · exact wpAny_tryCatch (wpAny_bind (wpAny_of_eq (F.cmp_object.ne.bind _) (wpAny_pure (by exact fin))))
theorem ne_own {Q : Value → Shared → Prop} (hu : A.units + 1 < cLine) (X : K.In s.heap) (I : PySem.W.InstAt s.heap x ox C od) (hb : PySem.W.Looks (model prog w) s.heap (typeOf b) tb) (hn : PySem.W.notFirst K C tb = true)
    (hne : PySem.W.findIn K (.ref C) "__ne__" = some (some (.builtin "object.__ne__"))) (hm : PySem.W.mroIn K C (.type "object") = some true) (hs : PySem.W.findIn K (.ref C) "__eq__" = some (some (.ref f))) (hf : PySem.W.isFn K (.ref f) = true)
    (h : wpAny (model prog w) A.in1 (call (.ref f) [.ref x, b]) (fun v s' => ∃ t, v = .bool t ∧ Q (.bool (!t)) s') E s) : wpAny (model prog w) A (richCompare .NotEq (.ref x) b) Q E s := by
  have one : wpAny (model prog w) A (tryCompare (.ref x) "__ne__" b) (fun r s' => ∃ v, r = some v ∧ Q v s') E s := by
    unfold tryCompare
    refine wpAny_bind (ifBound_ne X I hne (call_ne hu X I hm hs hf (wpAny_mono h (fun v s' hv => ?_) fun _ _ e => e)))
    obtain ⟨t, rfl, hq⟩ := hv
    exact ⟨t, rfl, wpAny_pure ⟨_, rfl, hq⟩⟩
  unfold richCompare
  simp only [oneThing_ref]
  apply wpAny_holding
  apply wpAny_bind
  refine wpAny_cRoomFor (by omega) ?_
  refine wpAny_bind (I.type.here (wpAny_bind (hb.here ?_)))
  have go : ∀ {g : Option Value → Sem Value}, (∀ v, g (some v) = pure v) → wpAny (model prog w) A (tryCompare (.ref x) "__ne__" b >>= g) Q E s := fun is => by
    refine wpAny_bind (wpAny_mono one ?_ fun _ _ => id)
    rintro _ _ ⟨v, rfl, q⟩
    rw [is]
    exact wpAny_pure q
  by_cases other : (Value.ref C != tb) = true
  · have no : PySem.W.subIn K tb (.ref C) = some false := by
      have either : (tb == .ref C) = true ∨ (PySem.W.subIn K tb (.ref C) == some false) = true := by simpa [PySem.W.notFirst] using hn
      refine either.elim (fun same => ?_) eq_of_beq
      simp [eq_of_beq same] at other
    rw [if_pos other]
    refine wpAny_bind ((PySem.W.looks_subIn X no).here (wpAny_ite_false (by rfl) ?_))
    exact go fun _ => rfl
  · rw [if_neg other]
    first
      | exact wpAny_bind (wpAny_pure (wpAny_ite_false (by rfl) (go fun _ => rfl)))
      | exact wpAny_ite_false (by rfl) (go fun _ => rfl)
      | exact go fun _ => rfl
/-! str(x) -/
theorem str_own {Q : Value → Shared → Prop} (hu : A.units + 8 < cLine) (X : K.In s.heap) (I : PySem.W.InstAt s.heap x ox C od) (hs : PySem.W.findIn K (.ref C) "__str__" = some (some (.ref f))) (hf : PySem.W.isFn K (.ref f) = true)
    (h : wpAny (model prog w) A.in1.in1 (call (.ref f) [.ref x]) (fun r s₁ => ∃ z t, r = Value.str z t ∧ Q r s₁) E s) : wpAny (model prog w) A (call (.type "str") [.ref x]) Q E s :=
  PySem.W.kso_call (by show A.units + 2 < cLine; omega) X I hs hf (wpAny_mono h (fun _ _ ⟨_, _, e, q⟩ => by subst e; exact q) fun _ _ => id)
end
end KnX
/-! KnQ: the rules for own ==, !=, str; classmethods; isinstance of own classes. -/
namespace Kn
open PySem PySem.Spec PyProof.Rows
open L2 hiding St
section
variable {X : Cx} {O : Own} {ρ : List Slot} {x : ExK} {k k' : Slot → Own → Prop} {kl kl' : List Slot → Own → Prop} {e a b c o : Expr} {es : List Expr} {pos p apos pos2 : Pos} {D : SD} {g g' : Bool} {j n : Nat} {S : SpecT} {df : List Dat} {m f : Str} {s1 s2 s : Slot}
/-- the class of what a slot holds -/
def tySl (O : Own) (t : Value) : Slot → Prop
  | .dat .non => t = .type "NoneType"
  | .dat (.bl _) => t = .type "bool"
  | .dat (.int _) => t = .type "int"
  | .dat (.str _) => t = .type "str"
  | .dat (.lst _) => t = .type "list"
  | .dat (.tup _) => t = .type "tuple"
  | .dat (.ins C _) => t = .ref C
  | .dat (.tre C _ _ _ _) => t = .ref C
  | .own p => (∃ C dx fs, O p = some (.ins C dx fs) ∧ t = .ref C) ∨ (∃ ss, O p = some (.lst ss) ∧ t = .type "list")
  | _ => False
theorem insAt_of {pins : List (Addr × Obj)} {σ : SV} {H : Hp} {sh : Shared} {a C dx : Addr} {fs : List (Str × V)} (I : Inv X pins σ H sh) (h : H a = some (.ins C dx fs)) : ∃ ox od, PySem.W.InstAt sh.heap a ox C od := by
  obtain ⟨mA, J, _⟩ := ins_get I.hok h
  obtain ⟨od, J, _⟩ := J.look
  exact ⟨_, _, J⟩
theorem looks_ty {t : Value} {H0 H : Hp} {σ σ2 : SV} {ρ' : List Slot} {v : V} {u : Value} {pins : List (Addr × Obj)} {sh : Shared} (h : tySl O t s) (st : StOk X.K H0 O σ2 ρ' H) (r : SlOk X.K (hid O H) v s) (I : Inv X pins σ H sh) (ru : RelV v u) :
    PySem.W.Looks (model X.prog X.w) sh.heap (typeOf u) t := by
  have lstAt : ∀ {a : Addr} {xs : List V}, H a = some (.lst xs) → PySem.W.Looks (model X.prog X.w) sh.heap (typeOf (.ref a)) (.type "list") := fun {a xs} h1 => by
    obtain ⟨z, its, n, r, e⟩ : xs.length ≤ sizeLine ∧ ∃ (its : List Value) (n : Nat), Vals xs its ∧ sh.heap.get? a = some { cls := .type "list", data := .seq its.toArray n } := I.hok a _ h1
    exact (PySem.W.Looks.ld e).andThen .now
  cases s with
  | unk => exact h.elim
  | own q =>
    cases r
    cases ru
    rcases h with ⟨C, dx, fs, h1, rfl⟩ | ⟨ss, h1, rfl⟩
    · obtain ⟨ob, h2, fv, rfl, _⟩ := st.own.cell q _ h1
      obtain ⟨ox, od, J⟩ := insAt_of I h2
      exact J.type
    · obtain ⟨ob, h2, fv, rfl, _⟩ := st.own.cell q _ h1
      exact lstAt h2
  | dat d =>
    cases d with
    | non => cases r; cases ru; obtain rfl := h; exact .of_pure rfl
    | bl b => cases r; cases ru; obtain rfl := h; exact .of_pure rfl
    | int i => cases r; obtain ⟨_, rfl⟩ := ru; obtain rfl := h; exact .of_pure rfl
    | str z => cases r; obtain ⟨_, rfl⟩ := ru; obtain rfl := h; exact .of_pure rfl
    | lst ds =>
      obtain rfl := h
      cases r with
      | lst h1 h2 =>
        cases ru
        exact lstAt (hid_le _ _ h1)
    | tup ds =>
      obtain rfl := h
      cases r with
      | tup h1 h2 =>
        cases ru
        obtain ⟨its, _, ⟨ob, e1, e2, _⟩, _⟩ := I.tuple (sqt_mono hid_le h1)
        exact e2 ▸ (PySem.W.Looks.ld e1).andThen .now
    | ins C fs =>
      obtain rfl := h
      cases r with
      | ins h1 h2 =>
        cases ru
        obtain ⟨ox, od, J⟩ := insAt_of I (hid_le _ _ h1)
        exact J.type
    | tre C d1 g es d2 =>
      obtain rfl := h
      cases r with
      | tre h1 h2 h3 h4 h5 =>
        cases ru
        obtain ⟨ox, od, J⟩ := insAt_of I (hid_le _ _ h1)
        exact J.type
    | _ => exact h.elim
/-- the own __eq__ of the class at C -/
structure EqC (P : Program) (w : World) (K : PySem.W.Frag) (mg : Str → Option Value) (base : Heap) (n : Nat) (C : Addr) (S : SpecT) : Prop where
  ex : ∃ (f : Addr) (fd : FuncData) (ps : List Str), PySem.W.findIn K (.ref C) "__eq__" = some (some (.ref f)) ∧ PySem.W.isFn K (.ref f) = true ∧ Fn P w K mg base false n f fd ps S ∧ Binds K fd ps []
  ne : PySem.W.findIn K (.ref C) "__ne__" = some (some (.builtin "object.__ne__"))
  ob : PySem.W.mroIn K C (.type "object") = some true
@[reducible] def kVal (k : Slot → Own → Prop) : Out → Own → Prop
  | .ret s, O => k s O
  | .exc _, _ => False
/-- run, at some place above the caller -/
theorem run_in {f : Addr} {fd : FuncData} {ps : List Str} {vs : List V} {us : List Value} {ss : List Slot} {pins : List (Addr × Obj)} {sh : Shared} {σ σ2 : SV} {ρ' : List Slot} {H0 H : Hp} {Q : VK} {A : Around}
    (F : Fn X.prog X.w X.K X.mg X.base false n f fd ps S) (hr : Room n A) (e0 : Env0 X.prog X.w X.K X.mg X.base A X.stack sh H) (hb : Binds X.K fd ps []) (I : Inv X pins σ H sh) (st : StOk X.K H0 O σ2 ρ' H) (rv : Vals vs us)
    (pr : Paired (SlOk X.K (hid O H)) vs ss) (hS : S ss O (kVal k)) (q : ∀ v H' s O', k s O' → StOk X.K H0 O' σ2 ρ' H' → SlOk X.K (hid O' H') v s → Q v H') :
    wpAny (model X.prog X.w) A (call (.ref f) us) (EP X pins σ Q) X.xe sh := by
  have sp : spS X.K S vs H Q (fun _ _ _ => False) := ⟨O, ss, kVal k, st.own, pr, hS,
    fun v H' s' O' h1 h2 h3 h4 => q v H' s' O' h1 (st.next h2 h3) h4, fun cls d e H' O' h1 h2 h3 h4 => h1⟩
  have hl : (us ++ []).length = ps.length := by rw [List.append_nil, ← rv.length]; exact spS_len F.len _ _ _ _ sp
  have hb' := hb sh us I.kIn hl
  rw [List.append_nil] at hb'
  refine wpAny_call (codeAny_mono (F.ok.run A X.stack sh H ⟨us, []⟩ us vs Q _ hr e0 hb' rv sp) fun r s' hq => ?_)
  cases r with
  | error e => exact passL pins σ H sh e s' I hq
  | ok fl =>
    cases fl with
    | ret u => exact I.after hq
    | next => exact False.elim hq
    | brk => exact False.elim hq
    | cont => exact False.elim hq
theorem ins_sl {K : PySem.W.Frag} {H0 H : Hp} {σ : SV} {ρ' : List Slot} {C : Addr} {v : V} (h : tySl O (.ref C) s) (st : StOk K H0 O σ ρ' H) (r : SlOk K (hid O H) v s) : ∃ a dx fs, v = .ref a ∧ H a = some (.ins C dx fs) := by
  cases s with
  | unk => exact h.elim
  | own q =>
    rcases h with ⟨C', dx, fs, h1, e⟩ | ⟨ss, h1, e⟩
    · cases e
      obtain ⟨ob, h2, fv, rfl, _⟩ := st.own.cell q _ h1
      exact ⟨q, dx, fv, r, h2⟩
    · cases e
  | dat d =>
    cases d with
    | ins C' fs =>
      have h : Value.ref C = .ref C' := h
      cases h
      cases r with
      | ins h1 h2 => exact ⟨_, _, _, rfl, hid_le _ _ h1⟩
    | tre C' d1 g es d2 =>
      have h : Value.ref C = .ref C' := h
      cases h
      cases r with
      | tre h1 h2 h3 h4 h5 => exact ⟨_, _, _, rfl, hid_le _ _ h1⟩
    | non => exact absurd h (fun e => by cases e)
    | bl _ => exact absurd h (fun e => by cases e)
    | int _ => exact absurd h (fun e => by cases e)
    | str _ => exact absurd h (fun e => by cases e)
    | lst _ => exact absurd h (fun e => by cases e)
    | tup _ => exact absurd h (fun e => by cases e)
    | _ => exact h.elim
theorem ob_ownEq {C : Addr} {tb : Value} (E : EqC X.prog X.w X.K X.mg X.base n C S) (hr : Room n X.A) (h1 : tySl O (.ref C) s1) (h2 : tySl O tb s2) (hn : PySem.W.notFirst X.K C tb = true) (h : S [s1, s2] O (kVal k)) :
    OpB X (compareOp .Eq) s1 s2 O k := by
  obtain ⟨f, fd, ps, hs, hf, F, hb⟩ := E.ex
  refine ⟨fun x y H Q => ∃ (H0 : Hp) (σ2 : SV) (ρ' : List Slot), StOk X.K H0 O σ2 ρ' H ∧ SlOk X.K (hid O H) x s1 ∧ SlOk X.K (hid O H) y s2 ∧ ∀ v H' s O', k s O' → StOk X.K H0 O' σ2 ρ' H' → SlOk X.K (hid O' H') v s → Q v H', ?_, fun H0 σ ρ' H v1 v2 st r1 r2 Q q => ⟨H0, σ, ρ', st, r1, r2, q⟩⟩
  intro pins sh σ H v1 v2 u1 u2 Q I ru1 ru2 hq
  obtain ⟨H0, σ2, ρ', st, r1, r2, q⟩ := hq
  obtain ⟨a, dx, fs, rfl, ha⟩ := ins_sl h1 st r1
  have L := looks_ty h2 st r2 I ru2
  cases ru1
  obtain ⟨ox, od, J⟩ := insAt_of I ha
  obtain ⟨m, hF⟩ := I.fr
  refine PySem.W.cmp_K (op := .Eq) (tb := tb) hr.units0 hF I.ok.mod.kin J L hn hs hf ?_
  refine wpAny_mono (run_in (k := k) F hr I.env0 hb I st (vs := [.ref a, v2]) (.cons rfl (.cons ru2 .nil)) (.cons r1 (.cons r2 .nil)) h q) (fun w s' z => ?_) fun _ _ x => x
  obtain ⟨z', H', I', rz, qz⟩ := z
  exact SlX.cmpback rz ⟨z', H', I', rz, qz⟩
theorem ob_ownNe {C : Addr} {tb : Value} (E : EqC X.prog X.w X.K X.mg X.base n C S) (hr : Room (n + 1) X.A) (h1 : tySl O (.ref C) s1) (h2 : tySl O tb s2) (hn : PySem.W.notFirst X.K C tb = true) (h : S [s1, s2] O (kVal fun s O' => ∃ t, s = .dat (.bl t) ∧ k (.dat (.bl (!t))) O')) :
    OpB X (compareOp .NotEq) s1 s2 O k := by
  obtain ⟨f, fd, ps, hs, hf, F, hb⟩ := E.ex
  refine ⟨fun x y H Q => ∃ (H0 : Hp) (σ2 : SV) (ρ' : List Slot), StOk X.K H0 O σ2 ρ' H ∧ SlOk X.K (hid O H) x s1 ∧ SlOk X.K (hid O H) y s2 ∧ ∀ v H' s O', k s O' → StOk X.K H0 O' σ2 ρ' H' → SlOk X.K (hid O' H') v s → Q v H', ?_, fun H0 σ ρ' H v1 v2 st r1 r2 Q q => ⟨H0, σ, ρ', st, r1, r2, q⟩⟩
  intro pins sh σ H v1 v2 u1 u2 Q I ru1 ru2 hq
  obtain ⟨H0, σ2, ρ', st, r1, r2, q⟩ := hq
  obtain ⟨a, dx, fs, rfl, ha⟩ := ins_sl h1 st r1
  have L := looks_ty h2 st r2 I ru2
  cases ru1
  obtain ⟨ox, od, J⟩ := insAt_of I ha
  refine KnX.ne_own (by have := hr.units; omega) I.kIn J L hn E.ne E.ob hs hf ?_
  refine wpAny_mono (run_in (Q := fun v H' => ∃ t, v = .bl t ∧ Q (.bl (!t)) H') F hr.in1 I.env0.in1 hb I st (vs := [.ref a, v2]) (.cons rfl (.cons ru2 .nil)) (.cons r1 (.cons r2 .nil)) h (fun v H' s O' hk st' r' => ?_)) (fun w s' z => ?_) fun _ _ x => x
  · obtain ⟨t, rfl, hk⟩ := hk
    cases r'
    exact ⟨t, rfl, q _ H' _ O' hk st' (.bl _)⟩
  · obtain ⟨z', H', I', rz, t, rfl, qz⟩ := z
    cases rz
    exact ⟨t, rfl, .bl (!t), H', I', rfl, qz⟩
/-- str(x) by an own __str__ -/
theorem cb_strOwn {C : Addr} {g0 : Addr} {fd : FuncData} {ps : List Str} (hs : PySem.W.findIn X.K (.ref C) "__str__" = some (some (.ref g0))) (hf : PySem.W.isFn X.K (.ref g0) = true) (F : Fn X.prog X.w X.K X.mg X.base false n g0 fd ps S) (hb : Binds X.K fd ps []) (hr : Room (n + 2) X.A)
    (h1 : tySl O (.ref C) s1) (h : S [s1] O (kVal fun s O' => ∃ z, s = .dat (.str z) ∧ k (.dat (.str z)) O')) : CaB X (.type "str") [s1] O k := by
  refine ⟨fun xs H Q => ∃ (x : V) (H0 : Hp) (σ2 : SV) (ρ' : List Slot), xs = [x] ∧ StOk X.K H0 O σ2 ρ' H ∧ SlOk X.K (hid O H) x s1 ∧ ∀ v H' s O', k s O' → StOk X.K H0 O' σ2 ρ' H' → SlOk X.K (hid O' H') v s → Q v H', ?_, fun H0 σ ρ' H vs st pr Q q => ?_⟩
  · intro pins sh σ H xs us Q I r hq
    obtain ⟨x, H0, σ2, ρ', rfl, st, r1, q⟩ := hq
    obtain ⟨a, dx, fs, rfl, ha⟩ := ins_sl h1 st r1
    obtain ⟨u, rfl, ru⟩ := r.one
    cases ru
    obtain ⟨ox, od, J⟩ := insAt_of I ha
    have hr2 : Room n X.A.in1.in1 := (show Room (n + 1) X.A.in1 from Room.in1 hr).in1
    refine KnX.str_own (by have := hr.units; omega) I.kIn J hs hf ?_
    refine wpAny_mono (run_in (Q := fun v H' => ∃ z, v = .str z ∧ Q (.str z) H') F hr2 I.env0.in1.in1 hb I st (vs := [.ref a]) (.cons rfl .nil) (.cons r1 .nil) h (fun v H' s O' hk st' r' => ?_)) (fun w s' z => ?_) fun _ _ x => x
    · obtain ⟨z, rfl, hk⟩ := hk
      cases r'
      exact ⟨z, rfl, q _ H' _ O' hk st' (.str _)⟩
    · obtain ⟨z', H', I', rz, t, rfl, qz⟩ := z
      obtain ⟨tk, rfl⟩ := rz
      exact ⟨t, tk, rfl, .str t, H', I', ⟨tk, rfl⟩, qz⟩
  · cases pr with
    | cons r1 pr =>
      cases pr
      exact ⟨_, H0, σ, ρ', rfl, st, r1, q⟩
/-- isinstance(x, C) -/
def isSl (K : PySem.W.Frag) (O : Own) (t : Value) (s : Slot) : Prop := (∃ d, s = .dat d ∧ tyName d ≠ "" ∧ t = .type (tyName d)) ∨ (∃ C, C8.InsC K C ∧ tySl O (.ref C) s ∧ t = .ref C)
theorem tyX_sl {t : Value} {H0 H : Hp} {σ : SV} {ρ' : List Slot} {v : V} (hs : isSl X.K O t s) (st : StOk X.K H0 O σ ρ' H) (r1 : SlOk X.K (hid O H) v s) : TyX X.K H v t := by
  rcases hs with ⟨d, rfl, hp, rfl⟩ | ⟨C', ic, ht, rfl⟩
  · exact tyX_of hp r1
  · obtain ⟨a, dx, fs, rfl, ha⟩ := ins_sl ht st r1
    exact .base (.ins ha ic.cl ic.ha ic.hn ic.htk ic.hm)
theorem cb_isC {C : Addr} {t : Value} {b : Bool} (hk : PySem.W.kitOne X.K t (.ref C) = some b) (hs : isSl X.K O t s) (h : k (.dat (.bl b)) O) : CaB X (.builtin "isinstance") [s, .dat (.cls C)] O k := ⟨_, call_isi, fun H0 σ ρ H vs st pr Q q => by
  cases pr with
  | cons r1 pr =>
    cases pr with
    | cons r2 pr =>
      cases pr
      cases r2
      exact ⟨_, _, _, _, b, rfl, .own C, tyX_sl hs st r1, hk, q _ H _ O h st (.bl b)⟩⟩
/-! classmethods -/
def CMCal (P : Program) (w : World) (K : PySem.W.Frag) (mg : Str → Option Value) (base : Heap) (g : Bool) (k : Nat) (C : Addr) (m : Str) (S : SpecT) (df : List Dat) : Prop :=
  ∃ (mc : Value) (p f : Addr) (fd : FuncData) (ps : List Str) (ds : List Value) (dvs : List V), ClX.CRead K C mc ∧ ClX.CMet K C mc m p f ∧ Fn P w K mg base g k f fd ps S ∧ Binds K fd ps ds ∧ Vals dvs ds ∧ ∀ G, RpA K G dvs df
theorem run_callC {f : Addr} {fd : FuncData} {ps : List Str} {ds : List Value} {dvs vs : List V} {us : List Value} {ss : List Slot} {pins : List (Addr × Obj)} {s : Shared} {σ : SV} {H0 H : Hp} {Q : VK}
    (F : Fn X.prog X.w X.K X.mg X.base g n f fd ps S) (hr : RoomB g n X.A) (hb : Binds X.K fd ps ds) (hd : Vals dvs ds) (hdf : ∀ G, RpA X.K G dvs df) (I : Inv X pins σ H s) (st : StOk X.K H0 O σ ρ H) (tk : Takes X (Wsem X.K H0 x)) (rv : Vals vs us)
    (pr : Paired (SlOk X.K (hid O H)) vs ss) (hS : S (ss ++ df.map .dat) O (kOut x ρ k)) (q : ∀ v H' s O', k s O' → StOk X.K H0 O' σ ρ H' → SlOk X.K (hid O' H') v s → Q v H') :
    codeAny (model X.prog X.w) X.A (.call (.ref f) ⟨us, []⟩) (fun r s' => match r with | .ok (.ret v) => EP X pins σ Q v s' | .ok _ => False | .error e => X.xe e s') s := by
  have r2 : Vals (vs ++ dvs) (us ++ ds) := rv.append hd
  have sp : spS X.K S (vs ++ dvs) H Q (fun cls d H' => Wsem X.K H0 x cls d σ H') := ⟨O, ss ++ df.map .dat, kOut x ρ k, st.own, paired_app pr (hdf _).paired, hS,
    fun v H' s' O' h1 h2 h3 h4 => q v H' s' O' h1 (st.next h2 h3) h4, fun cls d e H' O' h1 h2 h3 h4 => ⟨e, ρ, O', h1, st.next h2 h3, h4⟩⟩
  have hl : (us ++ ds).length = ps.length := by rw [← r2.length]; exact spS_len F.len _ _ _ _ sp
  refine codeAny_mono (F.run X.A X.stack s H ⟨us, []⟩ (us ++ ds) (vs ++ dvs) Q _ hr I.env0 (hb s us I.kIn hl) r2 sp) fun r s' hq => ?_
  cases r with
  | error e => exact tk e s' (XE.of_call I (fun _ _ _ h => h) hq)
  | ok fl =>
    cases fl with
    | ret u => exact I.after hq
    | next => exact False.elim hq
    | brk => exact False.elim hq
    | cont => exact False.elim hq
theorem ew_cmeth {C : Addr} {pl : Sem Bool} (cm : CMCal X.prog X.w X.K X.mg X.base g n C m S df) (hr : RoomB g' j X.A)
    (h : EW X O ρ o x fun s O1 => s = .dat (.cls C) ∧ AW X O1 ρ (e :: es) x fun ss O2 => S (.dat (.cls C) :: (ss ++ df.map .dat)) O2 (kOut x ρ k)) (hj : n ≤ j := by decide) (hgg : g = true → g' = true := by first | exact fun _ => rfl | exact fun h => h | exact fun h => nomatch h)
    (hst : starEach (e :: es) X.env = (false, eval e X.env) :: starEach es X.env := by rfl) (hpl : (backTo pos (starEach es X.env)).any (·.1) = false := by rfl)
    (ht : eval (.Call (.Attribute o m apos) (e :: es) [] pos) X.env = (do
      let ov ← eval o X.env
      standAt apos.atName
      let (f, first) ← holding [ov] (getMethod ov m pl)
      callWith pos f first (backTo pos (starEach (e :: es) X.env)) (backToKw pos (keywordEach [] X.env))) := by rfl) :
    EW X O ρ (.Call (.Attribute o m apos) (e :: es) [] pos) x k := fun H0 σ H st tk Q q => ⟨fun pins s I => by
  obtain ⟨mc, p, f, fd, ps, ds, dvs, cr, cme, F, hb, hd, hdf⟩ := cm
  refine PySem.W.methodCall_KW (pl := pl) (thn ((pe_w (e := o)).run pins s σ H (fun v H1 => ∃ s1 O1, (s1 = Slot.dat (.cls C) ∧ AW X O1 ρ (e :: es) x fun ss O2 => S (.dat (.cls C) :: (ss ++ df.map .dat)) O2 (kOut x ρ k)) ∧ StOk X.K H0 O1 σ ρ H1 ∧ SlOk X.K (hid O1 H1) v s1) I (h H0 σ H st tk _ fun v H1 s1 O1 hk st1 r1 => ⟨s1, O1, hk, st1, r1⟩)) fun u s1 hq => ?_) ht
  obtain ⟨v, H1, I1, rx, t, O1, ⟨rfl, ha⟩, st1, r1⟩ := hq
  cases r1
  cases rx
  refine ClX.getmethcm_ok I1 cr cme fun s2 I2 => ?_
  refine ClX.callwith_cm I2 (ClX.base_none I1 (Nat.le_refl _)) cme.fi (thn ((pa_w (es := e :: es)).run pos _ s2 σ H1 (fun vs H2 => ∃ ss O2, StOk X.K H0 O2 σ ρ H2 ∧ Paired (SlOk X.K (hid O2 H2)) vs ss ∧ S (.dat (.cls C) :: (ss ++ df.map .dat)) O2 (kOut x ρ k)) I2 (ha H0 σ H1 st1 tk _ fun vs H2 ss O2 h2 st2 r2 => ⟨ss, O2, st2, r2, h2⟩)) fun us s3 hq => ?_) hst hpl
  obtain ⟨vs, H2, I3, rv, ss, O2, st2, pr, hS⟩ := hq
  refine ⟨⟨ClX.pin_at I3, I3.kIn⟩, ?_⟩
  have z := wpAny_call (PySem.W.method_call (ClX.pin_at I3) (run_callC (us := .ref C :: us) (vs := .ref C :: vs) (ss := .dat (.cls C) :: ss) F (hr.mono hj hgg) hb hd hdf I3 st2 tk (.cons rfl rv) (.cons (.cls C) pr) hS q))
  exact thn z fun _ _ y => ClX.unpinE y⟩
end
end Kn
/-! KnT: try with several except clauses, with names or without. -/
namespace Kn
open PySem PySem.Spec PyProof.Rows
open L2 hiding St
/-- a clause: its class, the place of its name, its suite's reading -/
structure Cls1 where
  c : Value
  i : Option Nat
  ts : Addr → Value → Option Addr → TS
def unI (D : Ends) : Option Nat → Ends
  | none => D
  | some j => ⟨fun σ H => D.nx (σ.set j none) H, D.rt, fun σ H => D.bk (σ.set j none) H, fun σ H => D.ct (σ.set j none) H⟩
def inI (σ : SV) (a : Addr) : Option Nat → SV
  | none => σ
  | some j => σ.set j (some (.ref a))
def wAny (K : PySem.W.Frag) (Wo : WX) (D : Ends) : List Cls1 → WX
  | [] => Wo
  | z :: r => fun cls d σ H => ∃ b, PySem.W.exmOne K cls z.c = some b ∧ (b = true → ∀ a, H a = none → z.ts a cls d (unI D z.i) (inI σ a z.i) H) ∧ (b = false → wAny K Wo D r cls d σ H)
def nmOf (X : Cx) (nn : Option Str) (i : Option Nat) : Prop := match nn, i with
  | none, none => True
  | some n, some j => X.N[j]? = some n ∧ X.env.kindOf n = some .local
  | _, _ => False
inductive HdAny (X : Cx) : List ExceptHandler → List Cls1 → Prop
  | nil : HdAny X [] []
  | cons {x : Str} {c : Value} {i : Option Nat} {nn : Option Str} {ts : Addr → Value → Option Addr → TS} {b₀ : Stmt} {suite : List Stmt} {np pos' : Pos} {hds : List ExceptHandler} {l : List Cls1} (hc : Names X x c) (hn : nmOf X nn i)
      (hsu : ∀ (a : Addr) (oe : Obj) (cls : Value) (d : Option Addr) (pn : List (Addr × Obj)), Zc cls d oe → (∃ vs, oe.data = .fields vs) → PSs (X.suite a ((a, oe) :: pn)) (b₀ :: suite) (ts a cls d)) (r : HdAny X hds l) :
      HdAny X (.ExceptHandler (some (.Name x np)) nn (b₀ :: suite) pos' :: hds) (⟨c, i, ts⟩ :: l)
/-- an exception at a that has come down to our frame; s0: the state in which it was let out -/
structure Down (X : Cx) (pins : List (Addr × Obj)) (σ : SV) (H : Hp) (cls : Value) (d : Option Addr) (a : Addr) (B : Heap) (s0 s : Shared) : Prop where
  inv : Inv X pins σ H s0
  ground : ∀ b o, s0.heap.get? b = some o → b ∉ frs X.stack → B.get? b = some o
  fly : HandSPX.FlyingZ B X.stack a (Zc cls d) s.heap
  up : s0.heap.UpToSlots s.heap
  free : H a = none
  os : s.os = s0.os
  bare : AllBare s.gens
section
variable {X : Cx} {pins : List (Addr × Obj)} {σ : SV} {H : Hp} {cls : Value} {d : Option Addr} {a : Addr} {B : Heap} {s0 s : Shared} {oe : Obj}
theorem Down.now (w : Down X pins σ H cls d a B s0 s) : Inv X pins σ H s := w.inv.landed w.ground w.fly.1 w.up w.os w.bare
theorem Down.move (w : Down X pins σ H cls d a B s0 s) {h : Heap} (f : HandSPX.FlyingZ B X.stack a (Zc cls d) h) (u : s.heap.UpToSlots h) : Down X pins σ H cls d a B s0 { s with heap := h } :=
  { w with fly := f, up := w.up.trans u }
/-- the frame's note is taken away -/
theorem Down.quiet (w : Down X pins σ H cls d a B s0 s) {M : Model} {A : Around} {E : Value → Shared → Prop} {Q : Unit → Shared → Prop} (k : ∀ t, Down X pins σ H cls d a B s0 t → Q () t) : wpAny M A (setFlight (.ref a) none) Q E s :=
  HandSPX.lands_againZ w.fly fun _ f u => k _ (w.move f u)
theorem Down.obj (w : Down X pins σ H cls d a B s0 s) : ∃ oe, s.heap.get? a = some oe ∧ Zc cls d oe ∧ ∃ vs, oe.data = .fields vs :=
  let ⟨oe, vs, h1, h2, h3⟩ := w.fly.there
  ⟨oe, h1, h2, vs, h3⟩
/-- no frame lies where it lies -/
theorem Down.noFrame (w : Down X pins σ H cls d a B s0 s) {b : Addr} (hb : b ∈ frs X.stack) : a ≠ b := by
  rintro rfl
  obtain ⟨oe, h1, _, vs, h3⟩ := w.obj
  obtain ⟨_, o, h4, h5⟩ := w.fly.2.2.1.mem hb
  rw [h1] at h4
  cases h4
  exact h5 vs h3
theorem Down.enter (w : Down X pins σ H cls d a B s0 s) (hs : X.stack = X.env :: X.outer) (hf : X.env.frame = some X.env.locals) (h : s.heap.get? a = some oe) (hd : ∃ vs, oe.data = .fields vs) : Inv (X.suite a ((a, oe) :: (X.pn ++ pins))) [] σ H s := by
  obtain ⟨vs, hd⟩ := hd
  have top : X.env.locals ∈ frs X.stack := by
    rw [hs]
    exact List.mem_filterMap.mpr ⟨X.env, .head _, hf⟩
  refine w.now.suite h hd w.free (w.noFrame top) fun hm => ?_
  have sub : a ∈ frs X.stack := by
    obtain ⟨e, h1, h2⟩ := List.mem_filterMap.mp hm
    rw [hs]
    exact List.mem_filterMap.mpr ⟨e, .tail _ h1, h2⟩
  exact w.noFrame sub rfl
/-- no clause is left: it goes on, out of our frame -/
theorem Down.goesOn (w : Down X pins σ H cls d a B s0 s) (hf : X.env.frame = some X.env.locals) {Wo : WX} (tk : Takes X Wo) (hw : Wo cls d σ H) {Q : Flow → Shared → Prop} : wpAny (model X.prog X.w) X.A (handleBy (.ref a) X.env []) Q X.xe s := by
  refine wpAny_handleBy_nil ?_
  have out : wpAny (model X.prog X.w) X.A (setFlight (.ref a) X.env.frame) (fun _ t => wpAny (model X.prog X.w) X.A (throw (.ref a) : Sem Flow) Q X.xe t) X.xe s := by
    rw [hf]
    exact HandSPX.setFlight_upZ w.fly fun h held u => wpAny_throw (tk _ _ ⟨a, B, s0, pins, σ, H, cls, d, rfl, w.inv, w.ground, w.up.trans u, .inr (.inr held), w.free, w.os, w.bare, hw⟩)
  obtain ⟨_, _, _, oe, vs, T, _, _, h1, _, h2, h3, _⟩ := w.fly
  have noted : ¬ (Value.ref T == Value.none) = true := by simp
  show wpAny _ _ (passOn _ _ _) _ _ _
  unfold PySem.passOn
  refine wpAny_bind (wpAny_field h1 h2 h3 ?_)
  rw [if_neg noted]
  first
    | exact wpAny_bind (wpAny_pure (wpAny_bind out))
    | exact wpAny_bind out
theorem suite_out {q : Addr × Obj} {E : Ends} {f : Flow} {t : Shared} (ok : X.Ok) (sp : SP (X.suite a (q :: (X.pn ++ pins))) [] E f t) : SP X pins E f t := by
  cases f with
  | next => exact sp.imp fun _ => Exists.imp fun _ => And.imp_left fun I => I.unsuite ok
  | brk => exact sp.imp fun _ => Exists.imp fun _ => And.imp_left fun I => I.unsuite ok
  | cont => exact sp.imp fun _ => Exists.imp fun _ => And.imp_left fun I => I.unsuite ok
  | ret u => exact sp.imp fun _ => Exists.imp fun _ => Exists.imp fun _ => And.imp_left fun I => I.unsuite ok
/-- the clause's name goes -/
theorem name_gone {D : Ends} {f : Flow} {t : Shared} {j : Nat} {n : Str} {pos : Pos} {M : Model} {A : Around} {E : Value → Shared → Prop} (hN : X.N.Nodup) (hi : X.N[j]? = some n) (hl : X.env.kindOf n = some .local) (sp : SP X pins (unI D (some j)) f t) :
    wpAny M A (do bindName X.env n .none; unbindBehindTheSuite X.env n pos) (fun _ t' => SP X pins D f t') E t := by
  cases f with
  | next => obtain ⟨σ', H', I, h⟩ := sp; exact gone_ok I hN hi hl fun _ J => ⟨_, _, J, h⟩
  | brk => obtain ⟨σ', H', I, h⟩ := sp; exact gone_ok I hN hi hl fun _ J => ⟨_, _, J, h⟩
  | cont => obtain ⟨σ', H', I, h⟩ := sp; exact gone_ok I hN hi hl fun _ J => ⟨_, _, J, h⟩
  | ret u => obtain ⟨v, σ', H', I, r, h⟩ := sp; exact gone_ok I hN hi hl fun _ J => ⟨v, _, _, J, r, h⟩
/-- a clause's class, while the exception is handled -/
theorem Down.asks (w : Down X pins σ H cls d a B s0 s) (hs : X.stack = X.env :: X.outer) (hf : X.env.frame = some X.env.locals) {nm : Str} {c : Value} {np : Pos} (is : Names X nm c) {Q E : Value → Shared → Prop} (k : Q c s) :
    wpAny (model X.prog X.w) (X.A.mark (some (.ref a))) (eval (.Name nm np) X.env) Q E s := by
  obtain ⟨oe, h1, _, h3⟩ := w.obj
  have I := w.enter hs hf h1 h3
  rcases is with ⟨glob, nodbg, known | ⟨known, boot, notNone⟩⟩
  · exact ld_glob (X := X.suite a _) I glob known k nodbg
  · exact ld_blt (X := X.suite a _) I glob known boot k notNone nodbg
/-- the clauses one after the other -/
theorem Down.handled (w : Down X pins σ H cls d a B s0 s) (hs : X.stack = X.env :: X.outer) (hf : X.env.frame = some X.env.locals) (hN : X.N.Nodup) {Wo : WX} (tk : Takes X Wo) {D : Ends} {ks : List ExceptHandler} {l : List Cls1} (hk : HdAny X ks l) :
    wAny X.K Wo D l cls d σ H → wpAny (model X.prog X.w) X.A (handleBy (.ref a) X.env ks) (SP X pins D) X.xe s := by
  induction hk with
  | nil => exact fun hw => w.goesOn hf tk hw
  | @cons nm c i nn ts b₀ suite np pos' more l' is place runs _ ih =>
    rintro ⟨b, meets, yes, no⟩
    refine wpAny_handleBy_cons (codeAny_handlers_test (w.asks hs hf is ?_)) (fun q => nomatch q)
    obtain ⟨oe, here, z, _⟩ := w.obj
    have kind : PySem.W.Looks (model X.prog X.w) s.heap (typeOf (.ref a)) cls := fun _ _ _ _ k q => wpAny_typeOf_ref (k _ _ here) (z.1.symm ▸ q)
    refine (PySem.W.exm_one w.now.kIn kind meets).here ?_
    match b, yes, no with
    | false, _, no => exact ih (no rfl)
    | true, yes, _ =>
      match nn, i, place with
      | none, none, _ =>
        refine codeAny_handlers_suite (w.quiet fun t w' => ?_)
        obtain ⟨oe', here', z', fl'⟩ := w'.obj
        exact wpAny_mono ((runs a oe' cls d (X.pn ++ pins) z' fl').run [] _ _ H _ (w'.enter hs hf here' fl') (yes rfl a w.free)) (fun f t' sp => suite_out w.inv.ok sp) fun _ _ => False.elim
      | some n, some j, ⟨at_, loc⟩ =>
        refine codeAny_handlers_suite_as (w.quiet fun t w' => ?_)
        obtain ⟨oe', here', z', fl'⟩ := w'.obj
        refine store_ok (X := X.suite a _) (v := .ref a) (w'.enter hs hf here' fl') hN at_ (.inl loc) rfl (fun t2 I2 => ?_) (.inr loc)
        exact wpAny_mono ((runs a oe' cls d (X.pn ++ pins) z' fl').run [] t2 _ H _ I2 (yes rfl a w.free)) (fun f t' sp => name_gone hN at_ loc (suite_out w.inv.ok sp)) fun _ _ => False.elim
end
/-- try, with any clauses that name classes -/
theorem ps_try_any {X : Cx} {body : List Stmt} {h1 : ExceptHandler} {hds : List ExceptHandler} {l : List Cls1} {pos : Pos} {tb : WX → TS} {Wo : WX} (hs : X.stack = X.env :: X.outer) (hf : X.env.frame = some X.env.locals) (hN : X.N.Nodup) (tk : Takes X Wo)
    (within : ∀ (W : WX) (pn : List (Addr × Obj)) (xe : Value → Shared → Prop), Takes (X.tr pn xe) W → PassesOwn (model X.prog X.w) X.A X.env xe → PSs (X.tr pn xe) body (tb W)) (clauses : HdAny X (h1 :: hds) l) :
    PS X (.Try body (h1 :: hds) [] [] pos) (fun D σ H => tb (wAny X.K Wo D l) D σ H) := by
  constructor
  intro pins s σ H D I h
  have frames : X.A.frames = some (X.env :: X.outer) := hs ▸ I.ok.frames
  refine wpAny_Try_except (wpAny_mono ((within _ (X.pn ++ pins) _ (fun u t raised => ?_) PassesOwn.looking).run [] s σ H D (I.toTry _) h) (fun f t left => ?_) fun _ _ => id)
  · obtain ⟨a, B, t0, _, σ', H', cls, d, rfl, J, ground, up, sky, free, os, bare, want⟩ := raised
    have J := J.ofTry (pins := pins) I.ok
    refine Sky.land Zc.steady frames hf (hs ▸ sky) fun h2 fly up2 => ?_
    have w : Down X pins σ' H' cls d a B t0 { t with heap := h2 } := ⟨J, ground, hs ▸ fly, up.trans up2, free, os, bare⟩
    exact w.handled hs hf hN tk clauses want
  · cases f with
    | next => exact wpAny_execs_nil (left.imp fun _ => Exists.imp fun _ => And.imp_left fun J => J.ofTry I.ok)
    | brk => exact left.imp fun _ => Exists.imp fun _ => And.imp_left fun J => J.ofTry I.ok
    | cont => exact left.imp fun _ => Exists.imp fun _ => And.imp_left fun J => J.ofTry I.ok
    | ret u => exact left.imp fun _ => Exists.imp fun _ => Exists.imp fun _ => And.imp_left fun J => J.ofTry I.ok
/-- the clauses, in the words of the layer -/
structure Hd where
  c : Value
  i : Option Nat
  b : Stmt
  su : List Stmt
def unD (D : SD) : Option Nat → SD
  | none => D
  | some j => { nx := fun ρ2 O2 => D.nx (ρ2.set j .unk) O2, rt := D.rt, bk := fun ρ2 O2 => D.bk (ρ2.set j .unk) O2, ct := fun ρ2 O2 => D.ct (ρ2.set j .unk) O2 }
def Caught (X : Cx) (D : SD) (x : ExK) : List Hd → ExK
  | [] => x
  | z :: r => fun e ρ O => ∃ t, ExMt X.K e z.c t ∧ (t = true → Suite X z.i (z.b :: z.su) (unD D z.i) e ρ O) ∧ (t = false → Caught X D x r e ρ O)
inductive HdsAre (X : Cx) : List ExceptHandler → List Hd → Prop
  | nil : HdsAre X [] []
  | cons {x : Str} {c : Value} {i : Option Nat} {nn : Option Str} {b₀ : Stmt} {suite : List Stmt} {np pos' : Pos} {hds : List ExceptHandler} {l : List Hd} (hc : Names X x c) (hn : nmOf X nn i) (r : HdsAre X hds l) :
      HdsAre X (.ExceptHandler (some (.Name x np)) nn (b₀ :: suite) pos' :: hds) (⟨c, i, b₀, suite⟩ :: l)
section
variable {X : Cx} {O : Own} {ρ : List Slot} {x : ExK} {D : SD} {pos : Pos} {body : List Stmt}
def tsOf (X : Cx) (z : Hd) : Addr → Value → Option Addr → TS := fun a cls d D σ H => ∀ oe pn, Zc cls d oe → (∃ vs, oe.data = .fields vs) → Wss (X.suite a ((a, oe) :: pn)) (z.b :: z.su) D σ H
theorem hds_any : ∀ {hds : List ExceptHandler} {l : List Hd}, HdsAre X hds l → HdAny X hds (l.map fun z => ⟨z.c, z.i, tsOf X z⟩)
  | _, _, .nil => .nil
  | _, _, .cons hc hn r => .cons hc hn (fun a oe cls d pn hz hf => ⟨fun pins s σ H D I q => (q oe pn hz hf).r pins s I⟩) (hds_any r)
theorem rpa_cls {K : PySem.W.Frag} {G : Hp} : ∀ {vs : List V} {Cs : List Addr}, RpA K G vs (Cs.map .cls) → vs = Cs.map V.ref
  | _, [], h => by cases h; rfl
  | _, C :: Cs, h => by
    cases h with
    | cons h1 h2 =>
      cases h1
      rw [rpa_cls h2]; rfl
theorem vals_ref : ∀ {Cs : List Addr} {us : List Value}, Vals (Cs.map V.ref) us → us = Cs.map Value.ref
  | [], _, h => by cases h; rfl
  | C :: Cs, _, h => by
    cases h with
    | cons h1 h2 =>
      cases h1
      rw [vals_ref h2]; rfl
/-- in a suite: isinstance(e, (C, ..)) of the caught e -/
theorem cb_isET {k : Slot → Own → Prop} {aa dd C : Addr} {Cs : List Addr} {oe : Obj} {pn : List (Addr × Obj)} {fs : List (Str × Dat)} {t : Bool} (T : ExcC X.K C) (hz : Zc (.ref C) (some dd) oe) (hf : ∃ vs, oe.data = .fields vs) (hk : PySem.W.kitAny X.K (.ref C) (Cs.map .ref) = some t) (h : k (.dat (.bl t)) O) :
    CaB (X.suite aa ((aa, oe) :: pn)) (.builtin "isinstance") [.dat (.exc aa dd fs), .dat (.tup (Cs.map .cls))] O k := by
  refine ⟨fun xs H Q => ∃ tp, xs = [.ref aa, .ref tp] ∧ (∃ fv, H dd = some (.xd fv)) ∧ SqT X.K H tp (Cs.map V.ref) ∧ Q (.bl t) H, ?_, ?_⟩
  · intro pins s σ H xs us Q I r hq
    obtain ⟨tp, rfl, ⟨fv, hdd⟩, htp, q⟩ := hq
    cases r with
    | cons rx rr =>
      cases rr with
      | cons rt rr =>
        cases rr
        cases rx
        cases rt
        obtain ⟨hget, _⟩ := I.pin (aa, oe) (List.mem_append.mpr (.inl List.mem_cons_self))
        obtain ⟨vs, hv⟩ := hf
        have hx : ObjOk X.prog X.w H s.heap dd (.xd fv) := I.hok dd _ hdd
        obtain ⟨mA, hns, _⟩ := hx
        obtain ⟨od, ho, _⟩ := lookIn_ns hns
        have J : PySem.W.InstAt s.heap aa oe C (some od) := ⟨hget, hz.1, by unfold PySem.W.notCls; rw [hv] <;> rfl, by rw [hz.2]; exact ho⟩
        obtain ⟨its, rv, ⟨o, e1, e2, n, e3⟩, _⟩ := I.tuple htp
        have ev := vals_ref rv
        subst ev
        obtain ⟨oc, od2, dt, sl⟩ := o
        simp only at e2 e3
        subst e2 e3
        exact PySem.W.kia_tup (kit_exc T) I.kIn ⟨_, J⟩ e1 hk (fun z => nomatch z) fun tk => ⟨.bl t, H, I.kept (t' := tk) fun _ _ z => z, rfl, q⟩
  · intro H0 σ ρ H vs st pr Q q
    cases pr with
    | cons r1 pr =>
      cases pr with
      | cons r2 pr =>
        cases pr
        cases r1 with
        | exc h3 h4 =>
          cases r2 with
          | tup h5 h6 =>
            rw [rpa_cls h6] at h5
            exact ⟨_, rfl, ⟨_, hid_le _ _ h3⟩, sqt_mono hid_le h5, q _ H _ O h st (.bl t)⟩
theorem s1_try {h1 : ExceptHandler} {hds : List ExceptHandler} (l : List Hd) (hN : X.N.Nodup) (hh : HdsAre X (h1 :: hds) l)
    (h : ∀ (pn : List (Addr × Obj)) (xe : Value → Shared → Prop), PassesOwn (model X.prog X.w) X.A X.env xe → SW (X.tr pn xe) O ρ body (Caught X D x l) D)
    (hs : X.stack = X.env :: X.outer := by rfl) (hf : X.env.frame = some X.env.locals := by rfl) :
    S1 X O ρ (.Try body (h1 :: hds) [] [] pos) x D := fun H0 σ H st tk E ok => by
  refine ws_of (ps_try_any (X := X) (tb := fun W D σ H => ∀ pn xe, Takes (X.tr pn xe) W → PassesOwn (model X.prog X.w) X.A X.env xe → Wss (X.tr pn xe) body D σ H)
    hs hf hN tk (fun W pn xe tkW hpo => ⟨fun pins s σ H D I q => (q pn xe tkW hpo).r pins s I⟩) (hds_any hh)) ?_
  intro pn xe tkW hpo
  refine h pn xe hpo H0 σ H st (tkW.imp fun cls d σ' H' hw => ?_) E ok
  obtain ⟨ex, ρ', O', hc, st', hx⟩ := hw
  clear hh h tkW
  induction l with
  | nil => exact ⟨ex, ρ', O', hc, st', hx⟩
  | cons z r ih =>
    obtain ⟨t, hm, hy, hn⟩ := hc
    refine ⟨t, exMt_of hm hx, fun ht a ha oe pn' hz hf' => ?_, fun ht => ih (hn ht)⟩
    obtain ⟨c, i, b0, su⟩ := z
    cases i with
    | none => exact suite_of (i := none) (hy ht) st' hx ha hz hf' ok
    | some j => exact suite_of (i := some j) (hy ht) st' hx ha hz hf' ⟨fun σ2 ρ2 O2 H2 q s => ok.nx _ _ O2 H2 q (s.unset j), ok.rt, fun σ2 ρ2 O2 H2 q s => ok.bk _ _ O2 H2 q (s.unset j), fun σ2 ρ2 O2 H2 q s => ok.ct _ _ O2 H2 q (s.unset j)⟩
end
end Kn
/-! KnU: what the written part holds of own classes. -/
namespace Kn
open PySem PySem.Spec PyProof.Rows
open L2 hiding St
/-- an own class by its name -/
structure ClsIn (K : PySem.W.Frag) (nm : Str) (C : Addr) : Prop where
  at_ : PySem.W.nsIn K mainGlobals nm = some (some (.ref C))
  ins : C8.InsC K C
  mks : PySem.W.makesIn K C = true
  kp : PySem.W.keepIn K (.ref C) = true
  rd : ClX.CRead K C (.type "type")
  ne : PySem.W.findIn K (.ref C) "__ne__" = some (some (.builtin "object.__ne__"))
theorem kit_self {K : PySem.W.Frag} {C : Addr} : PySem.W.kitOne K (.ref C) (.ref C) = some true := by
  unfold PySem.W.kitOne
  exact if_pos (by simp)
theorem sub_in {K : PySem.W.Frag} {m n : Str} {C C2 : Addr} {b : Bool} (h1 : PySem.W.nsIn K mainGlobals m = some (some (.ref C))) (h2 : PySem.W.nsIn K mainGlobals n = some (some (.ref C2))) (h3 : PySem.W.subIn K (.ref C) (.ref C2) = some b) :
    ∃ C C2, PySem.W.nsIn K mainGlobals m = some (some (.ref C)) ∧ PySem.W.nsIn K mainGlobals n = some (some (.ref C2)) ∧ PySem.W.subIn K (.ref C) (.ref C2) = some b := ⟨C, C2, h1, h2, h3⟩
theorem subT_in {K : PySem.W.Frag} {m : Str} {t : String} {C : Addr} {b : Bool} (h1 : PySem.W.nsIn K mainGlobals m = some (some (.ref C))) (h3 : PySem.W.subIn K (.ref C) (.type t) = some b) :
    ∃ C, PySem.W.nsIn K mainGlobals m = some (some (.ref C)) ∧ PySem.W.subIn K (.ref C) (.type t) = some b := ⟨C, h1, h3⟩
theorem cls_in {K : PySem.W.Frag} {m : Str} {C : Addr} (h1 : PySem.W.nsIn K mainGlobals m = some (some (.ref C))) (h2 : PySem.W.isClsIn K C = true) (h3 : PySem.W.typeIn K (.ref C) = some (.type "type")) :
    ∃ C, PySem.W.nsIn K mainGlobals m = some (some (.ref C)) ∧ PySem.W.isClsIn K C = true ∧ PySem.W.typeIn K (.ref C) = some (.type "type") := ⟨C, h1, h2, h3⟩
/-- what kitOne and exmOne ask of a class -/
theorem kit_of_sub {K : PySem.W.Frag} {t : Value} {B : Addr} {b : Bool} (ne : t ≠ .ref B) (bcl : PySem.W.isClsIn K B = true) (bty : PySem.W.typeIn K (.ref B) = some (.type "type")) (sup : PySem.W.subIn K t (.ref B) = some b) : PySem.W.kitOne K t (.ref B) = some b := by
  unfold PySem.W.kitOne
  rw [if_neg (by simpa using ne)]
  have e1 : ((PySem.W.clsIn K B).isSome && PySem.W.typeIn K (.ref B) == some (.type "type")) = true := by
    rw [bty]
    rw [show (PySem.W.clsIn K B).isSome = true from bcl]
    rfl
  show (if ((PySem.W.clsIn K B).isSome && PySem.W.typeIn K (.ref B) == some (.type "type")) = true then _ else _) = _
  rw [if_pos e1]
  exact sup
theorem kit_of_subT {K : PySem.W.Frag} {C : Addr} {n : String} {b : Bool} (hm : PySem.W.kitMeta n = true) (sup : PySem.W.subIn K (.ref C) (.type n) = some b) : PySem.W.kitOne K (.ref C) (.type n) = some b := by
  unfold PySem.W.kitOne
  rw [if_neg (by simp)]
  show (if PySem.W.kitMeta n = true then _ else _) = _
  rw [if_pos hm]
  exact sup
/-- an int under a module's name -/
def IntIn (K : PySem.W.Frag) (nm : Str) (i : Int) : Prop := ∃ t, PySem.W.nsIn K mainGlobals nm = some (some (.int i t))
theorem int_in {K : PySem.W.Frag} {nm : Str} {i : Int} {t : Tok} (a : PySem.W.nsIn K mainGlobals nm = some (some (.int i t))) : IntIn K nm i := ⟨t, a⟩
theorem IntIn.glob {K : PySem.W.Frag} {mg : Str → Option Value} {nm : Str} {i : Int} (h : IntIn K nm i) (T : TopOf K mg) : GlobD K mg nm (.int i) := by
  obtain ⟨t, a⟩ := h
  exact ⟨.int i, .int i t, T.is a, ⟨t, rfl⟩, fun G => .int i⟩
/-- a def of it -/
structure MethIn (K : PySem.W.Frag) (C : Addr) (m qual : Str) (st : Stmt) : Prop where
  ex : ∃ (f : Addr) (fd : FuncData), Meth K C m f ∧ L2.Fun K m qual st f fd
/-- a def of it with one default -/
structure MethInD (K : PySem.W.Frag) (C : Addr) (m qual : Str) (st : Stmt) (n : Nat) : Prop where
  ex : ∃ (f : Addr) (fd : FuncData) (dvs : List V), dvs.length = n ∧ dvs ≠ [] ∧ Meth K C m f ∧ L2.FunD K m qual (defArgs st) (defBody st) (defScope st) dvs [] f fd
/-- a classmethod of it -/
structure CMethIn (K : PySem.W.Frag) (C : Addr) (m qual : Str) (st : Stmt) : Prop where
  ex : ∃ (p f : Addr) (fd : FuncData), ClX.CMet K C (.type "type") m p f ∧ L2.Fun K m qual st f fd
section
variable {K : PySem.W.Frag} {C : Addr} {m qual : Str} {st : Stmt}
theorem meth_in {f : Addr} {oc : Value} {od an : Option Addr} {osl : Array (Option Value)} {kV doc pm cdv ct : Value} (h1 : PySem.W.findIn K (.ref C) m = some (some (.ref f))) (h2 : PySem.W.isFn K (.ref f) = true)
    (l : K.lookup f = some ⟨oc, od, .func (PySem.W.fnOf m qual (defArgs st) (defBody st) (defScope st) .none kV doc pm an cdv ct), osl⟩) (c : PySem.W.codeIn K cdv qual = true) (k : PySem.W.keepIn K (.ref f) = true) : MethIn K C m qual st :=
  ⟨f, _, ⟨h1, h2, k⟩, fun_mk l c k⟩
theorem cmeth_in {p f : Addr} {rest : List Value} {oc : Value} {od an : Option Addr} {osl : Array (Option Value)} {kV doc pm cdv ct : Value} (h1 : PySem.W.findCls K (.ref C) (.type "type") m = some (.get (.builtin "classmethod.__get__") (.ref p) .none (.ref C))) (h2 : PySem.W.recIn K p "classmethod" = some (.ref f :: rest)) (h3 : PySem.W.fnIn K f = true)
    (l : K.lookup f = some ⟨oc, od, .func (PySem.W.fnOf m qual (defArgs st) (defBody st) (defScope st) .none kV doc pm an cdv ct), osl⟩) (c : PySem.W.codeIn K cdv qual = true) (k : PySem.W.keepIn K (.ref f) = true) : CMethIn K C m qual st :=
  ⟨p, f, _, ⟨h1, ⟨_, h2⟩, h3⟩, fun_mk l c k⟩
/-- one default that is an object of the text -/
theorem methD_in {f T d : Addr} {o : Obj} {n : Nat} {oc : Value} {od an : Option Addr} {osl : Array (Option Value)} {kV doc pm cdv ct : Value} (h1 : PySem.W.findIn K (.ref C) m = some (some (.ref f))) (h2 : PySem.W.isFn K (.ref f) = true)
    (l : K.lookup f = some ⟨oc, od, .func (PySem.W.fnOf m qual (defArgs st) (defBody st) (defScope st) (.ref T) kV doc pm an cdv ct), osl⟩) (c : PySem.W.codeIn K cdv qual = true) (k : PySem.W.keepIn K (.ref f) = true)
    (lT : K.lookup T = some o) (hT : o.data = .seq #[.ref d] n) : MethInD K C m qual st 1 :=
  ⟨f, _, [.ref d], rfl, (fun e => nomatch e), ⟨h1, h2, k⟩, ⟨⟨oc, od, _, kV, doc, pm, an, cdv, ct, osl, rfl, l, c, .inr ⟨(fun e => nomatch e), T, o, [.ref d], n, rfl, lT, hT, .cons rfl .nil⟩, .inl rfl⟩, k⟩⟩
/-- how the arguments of a method bind -/
def MBindsAs (m qual : Str) (st : Stmt) (ps : List Str) : Prop := ∀ (kV doc pm : Value) (an : Option Addr) (cdv ct : Value) (us : List Value), us.length = ps.length →
  bindArgs (PySem.W.fnOf m qual (defArgs st) (defBody st) (defScope st) .none kV doc pm an cdv ct) ⟨us, []⟩ = pure (ps.zip us)
/-- .. with defaults that are not wanted -/
def MBindsD (m qual : Str) (st : Stmt) (ps : List Str) (n : Nat) : Prop := ∀ (T : Addr) (kV doc pm : Value) (an : Option Addr) (cdv ct : Value) (us its : List Value), us.length = ps.length → its.length = n →
  ∃ k, bindArgs (PySem.W.fnOf m qual (defArgs st) (defBody st) (defScope st) (.ref T) kV doc pm an cdv ct) ⟨us, []⟩ = seqItems? (.ref T) >>= k ∧ k (some its.toArray) = pure (ps.zip us)
theorem mbinds {ps : List Str} {f : Addr} {fd : FuncData} (F : L2.Fun K m qual st f fd) (h : MBindsAs m qual st ps) : Binds K fd ps [] := by
  obtain ⟨oc, od, kV, doc, pm, an, cdv, ct, osl, rfl, _, _⟩ := F.ex
  exact Binds.all fun us hl => h _ _ _ _ _ _ us hl
theorem mbindsD {ps : List Str} {f : Addr} {fd : FuncData} {dvs : List V} (F : L2.FunD K m qual (defArgs st) (defBody st) (defScope st) dvs [] f fd) (hd : dvs ≠ []) (h : MBindsD m qual st ps dvs.length) : Binds K fd ps [] := by
  obtain ⟨ds, hv, hb⟩ := F.binds1 (ps := ps) ps.length dvs.length hd (by omega) fun T kV doc pm an cdv ct us its h1 h2 => by
    obtain ⟨k, e1, e2⟩ := h T kV doc pm an cdv ct us its h1 h2
    exact ⟨k, e1, by rw [← h2, List.drop_length, List.append_nil]; exact e2⟩
  rw [List.drop_length] at hv
  cases hv
  exact hb
section
variable {P : Program} {w : World} {mg : Str → Option Value} {base : Heap} {g : Bool} {k : Nat} {ps : List Str} {S : SpecT} {nm : Str}
theorem mcal_of (D : MethIn K C m qual st) (b : MBindsAs m qual st ps) (h : ∀ f fd, L2.Fun K m qual st f fd → Fn P w K mg base g k f fd ps S) : MCal P w K mg base g k C m S [] := by
  obtain ⟨f, fd, hm, F⟩ := D.ex
  exact ⟨f, fd, ps, [], [], hm, h f fd F, mbinds F b, .nil, fun _ => .nil⟩
theorem cmcal_of (I : ClsIn K nm C) (D : CMethIn K C m qual st) (b : MBindsAs m qual st ps) (h : ∀ f fd, L2.Fun K m qual st f fd → Fn P w K mg base g k f fd ps S) : CMCal P w K mg base g k C m S [] := by
  obtain ⟨p, f, fd, hm, F⟩ := D.ex
  exact ⟨_, p, f, fd, ps, [], [], I.rd, hm, h f fd F, mbinds F b, .nil, fun _ => .nil⟩
theorem mkc_of (I : ClsIn K nm C) (D : MethIn K C "__init__" qual st) (b : MBindsAs "__init__" qual st ps) (h : ∀ f fd, L2.Fun K "__init__" qual st f fd → Fn P w K mg base false k f fd ps S) : MkC P w K mg base k C S [] := by
  obtain ⟨f, fd, hm, F⟩ := D.ex
  exact ⟨f, fd, ps, [], [], ⟨I.mks, hm.at_, hm.fn, I.kp⟩, h f fd F, mbinds F b, .nil, fun _ => .nil⟩
theorem mkc_ofD {n : Nat} (I : ClsIn K nm C) (D : MethInD K C "__init__" qual st n) (b : MBindsD "__init__" qual st ps n) (h : ∀ f fd, FunX K "__init__" qual st f fd → Fn P w K mg base false k f fd ps S) : MkC P w K mg base k C S [] := by
  obtain ⟨f, fd, dvs, hl, hd, hm, F⟩ := D.ex
  subst hl
  exact ⟨f, fd, ps, [], [], ⟨I.mks, hm.at_, hm.fn, I.kp⟩, h f fd (funX_ofD F), mbindsD F hd b, .nil, fun _ => .nil⟩
theorem eqc_of (I : ClsIn K nm C) (D : MethIn K C "__eq__" qual st) (b : MBindsAs "__eq__" qual st ps) (h : ∀ f fd, L2.Fun K "__eq__" qual st f fd → Fn P w K mg base false k f fd ps S) : EqC P w K mg base k C S := by
  obtain ⟨f, fd, hm, F⟩ := D.ex
  exact ⟨⟨f, fd, ps, hm.at_, hm.fn, h f fd F, mbinds F b⟩, I.ne, I.ins.hm⟩
end
end
end Kn
/-! KnV: comparisons of lists that may still change; a caught exception's built-in class. -/
namespace Kn
open PySem PySem.Spec PyProof.Rows
open L2 hiding St
section
variable {X : Cx} {O : Own} {ρ : List Slot} {x : ExK} {k : Slot → Own → Prop}
/-- what a slot shows as data -/
inductive asD (O : Own) : Slot → Dat → Prop
  | dat (d : Dat) : asD O (.dat d) d
  | own {p : Addr} {ds : List Dat} (h : O p = some (.lst (ds.map .dat))) : asD O (.own p) (.lst ds)
theorem asD_rp {K : PySem.W.Frag} {H0 H : Hp} {σ : SV} {ρ' : List Slot} {s : Slot} {d : Dat} {v : V} (a : asD O s d) (st : StOk K H0 O σ ρ' H) (r : SlOk K (hid O H) v s) : Rp K H v d := by
  cases a with
  | dat d => exact Rp.tk r
  | own h =>
    cases r
    exact Rp.tk (st.own.lst h)
theorem ob_eqA {s1 s2 : Slot} {d1 d2 : Dat} (hr : Room 0 X.A) (a1 : asD O s1 d1) (a2 : asD O s2 d2) (p1 : plain d1 = true) (p2 : plain d2 = true) (h1 : SeqAt.shaped (toPy d1) = true) (h2 : SeqAt.shaped (toPy d2) = true) (h : k (.dat (.bl (eqD d1 d2))) O) : OpB X (compareOp .Eq) s1 s2 O k :=
  ⟨_, op_eqD hr.units, fun H0 σ ρ H v1 v2 st r1 r2 Q q => ⟨_, _, Rp.dp p1 (asD_rp a1 st r1), Rp.dp p2 (asD_rp a2 st r2), h1, h2, q _ H _ O h st (.bl _)⟩⟩
theorem ob_neA {s1 s2 : Slot} {d1 d2 : Dat} (hr : Room 0 X.A) (a1 : asD O s1 d1) (a2 : asD O s2 d2) (p1 : plain d1 = true) (p2 : plain d2 = true) (h1 : SeqAt.shaped (toPy d1) = true) (h2 : SeqAt.shaped (toPy d2) = true) (h : k (.dat (.bl (!eqD d1 d2))) O) : OpB X (compareOp .NotEq) s1 s2 O k :=
  ⟨_, op_neD hr.units, fun H0 σ ρ H v1 v2 st r1 r2 Q q => ⟨_, _, Rp.dp p1 (asD_rp a1 st r1), Rp.dp p2 (asD_rp a2 st r2), h1, h2, q _ H _ O h st (.bl _)⟩⟩
/-- in a suite: isinstance(e, C), C a built-in class -/
theorem cb_isEB {aa dd C : Addr} {n : String} {oe : Obj} {pn : List (Addr × Obj)} {fs : List (Str × Dat)} {t : Bool} (T : ExcC X.K C) (hz : Zc (.ref C) (some dd) oe) (hf : ∃ vs, oe.data = .fields vs) (hk : PySem.W.kitOne X.K (.ref C) (.type n) = some t) (h : k (.dat (.bl t)) O) :
    CaB (X.suite aa ((aa, oe) :: pn)) (.builtin "isinstance") [.dat (.exc aa dd fs), .dat (.ty n)] O k := by
  refine ⟨fun xs H Q => xs = [.ref aa, .ty n] ∧ (∃ fv, H dd = some (.xd fv)) ∧ Q (.bl t) H, ?_, ?_⟩
  · intro pins s σ H xs us Q I r hq
    obtain ⟨rfl, ⟨fv, hdd⟩, q⟩ := hq
    cases r with
    | cons rx rr =>
      cases rr with
      | cons rt rr =>
        cases rr
        cases rx
        cases rt
        obtain ⟨hget, _⟩ := I.pin (aa, oe) (List.mem_append.mpr (.inl List.mem_cons_self))
        obtain ⟨vs, hv⟩ := hf
        have hx : ObjOk X.prog X.w H s.heap dd (.xd fv) := I.hok dd _ hdd
        obtain ⟨mA, hns, _⟩ := hx
        obtain ⟨od, ho, _⟩ := lookIn_ns hns
        have J : PySem.W.InstAt s.heap aa oe C (some od) := ⟨hget, hz.1, by unfold PySem.W.notCls; rw [hv] <;> rfl, by rw [hz.2]; exact ho⟩
        exact PySem.W.kia_one (kit_exc T) I.kIn ⟨_, J⟩ hk (fun z => nomatch z) fun tk => ⟨.bl t, H, I.kept (t' := tk) fun _ _ z => z, rfl, q⟩
  · intro H0 σ ρ H vs st pr Q q
    cases pr with
    | cons r1 pr =>
      cases pr with
      | cons r2 pr =>
        cases pr
        cases r1 with
        | exc h3 h4 =>
          cases r2
          exact ⟨rfl, ⟨_, hid_le _ _ h3⟩, q _ H _ O h st (.bl t)⟩
end
end Kn
/-! KnY: a comprehension's block, out of which an exception may fly. -/
namespace KnX
open PySem PySem.Spec PyProof.Rows L2
/-! ### the walk through a comprehension: the block is known by its Env till its end -/
/-- what the block's code has to reach; an exception finds the very Env -/
def Gone (M : Model) (A : Around) (E : Value → Shared → Prop) (use : Option (Value → Sem Unit)) (Q : Value → Shared → Prop) (acc : Value) (ce : Env) : Result → Shared → Prop
  | .ok f, t => compPost M A E use Q acc ce.locals (.ok f) t
  | .error u, t => ∃ m, t.heap.Ns ce.locals m ∧ ∀ h, Heap.SameBut ce.locals t.heap h → wpAny M A (PySem.passOn "comprehension.variables-let-go" u ce : Sem Value) (fun _ _ => False) E { t with heap := h }
theorem kind_kept {scope : Scope} {env : Env} (hn : ∀ x ∈ scope.names, x.2 = .local → scope.names.lookup x.1 = some .local) {ce : Env} (he : ce.scope = relabel scope env) {x : Str × NameKind} (hx : x ∈ scope.names) (hl : x.2 = .local) : ce.kindOf x.1 = some .local := by
  show ce.scope.names.lookup x.1 = _
  rw [he]
  exact lookup_relabel_local (hn x hx hl)
section
variable {M : Model} {A : Around} {E : Value → Shared → Prop} {s : Shared} {env : Env}
theorem then_ {α β : Type} {m : Sem α} {f : α → Sem β} {P : α → Shared → Prop} {Q : β → Shared → Prop} {s : Shared} (h : wpAny M A m P E s) (k : ∀ a t, P a t → wpAny M A (f a) Q E t) : wpAny M A (m >>= f) Q E s :=
  wpAny_bind (wpAny_mono h k fun _ _ => id)
theorem comp_walk {e : Expr} {scope : Scope} {pos : Pos} {newAcc first : Sem Value} {g : Comprehension} {gs : List Comprehension} {cl : List (Str × Addr)} {use : Option (Value → Sem Unit)} {Q : Value → Shared → Prop} {P1 : Value → Shared → Prop} {P4 : Value → Value → Env → Shared → Prop}
    (c1 : clausesOf e = g :: gs) (c2 : ∀ x, foldedSetIterable g.iter env x = pure x) (c3 : closureFor scope env = pure cl) (c4 : scope.kind = .function) (c5 : ∀ x ∈ scope.names, x.2 = .local → scope.names.lookup x.1 = some .local)
    (h1 : wpAny M A first P1 E s) (h2 : ∀ x t, P1 x t → wpAny M A (pyIter x) (fun it t => wpAny M A newAcc (fun acc t => wpAny M A (newFunctionEnv scope env.globals cl [] env.qual none .none (some env)) (P4 it acc) E t) E t) E t)
    (h3 : ∀ it acc ce t, P4 it acc ce t → codeAny M A (.compStart e 0 it acc { ce with scope := relabel scope env }) (Gone M A E use Q acc { ce with scope := relabel scope env }) t) :
    wpAny M A (comprehension e scope env pos newAcc false first use) Q E s := by
  unfold comprehension
  rw [c1, c3]
  refine then_ h1 fun x t q1 => ?_
  apply wpAny_bind
  apply wpAny_standAt
  apply wpAny_bind
  refine wpAny_of_eq (c2 x) ?_
  refine then_ (wpAny_holding (h2 x t q1)) fun it t q2 => ?_
  refine wpAny_standIf ?_
  refine then_ q2 fun acc t q3 => ?_
  apply wpAny_bind
  refine wpAny_pure ?_
  refine then_ q3 fun ce t q4 => ?_
  have body := h3 it acc ce t q4
  revert body
  generalize hb : ({ ce with scope := relabel scope env } : Env) = be
  intro body
  have hsc : be.scope = relabel scope env := by rw [← hb]
  have fn : be.scope.kind = .function := by rw [hsc]; exact c4
  have okAll : ∀ l : List (Str × NameKind), (∀ x ∈ l, x ∈ scope.names) → ∀ x ∈ l, x.2 = .local → be.kindOf x.1 = some .local := fun l hl x hx hk => kind_kept c5 hsc (hl x hx) hk
  have inV : ∀ x ∈ (scope.names.filter fun x => (x.2 == .local || x.2 == .cell) && x.1 != (".0" : Str)).reverse, x ∈ scope.names := fun x hx => (List.mem_filter.mp (List.mem_reverse.mp hx)).1
  have inW : ∀ x ∈ (scope.names.filter fun x => (x.2 == .local || x.2 == .cell) && x.1 != (".0" : Str)).reverse.drop 1 ++ (scope.names.filter fun x => (x.2 == .local || x.2 == .cell) && x.1 != (".0" : Str)).reverse.take 1, x ∈ scope.names := fun x hx => by
    refine inV x ?_
    rcases List.mem_append.mp hx with z | z
    · exact List.mem_of_mem_drop z
    · exact List.mem_of_mem_take z
  dsimp only
  subst hb
  apply wpAny_holding
  apply wpAny_bind
  apply wpAny_attempt
  apply wpAny_holding
  refine wpAny_run (codeAny_mono body fun r t left => ?_)
  rcases r with u | f
  · obtain ⟨m, ns, out⟩ := left
    apply wpAny_bind
    apply wpAny_holding
    refine wpAny_comp_letGo fn _ t m (okAll _ inV) ns fun h _ _ same => ?_
    exact wpAny_mono (out h same) (fun _ _ z => z.elim) fun _ _ => id
  · rcases use with _ | u
    · obtain ⟨m, ns, out⟩ := left
      apply wpAny_bind
      apply wpAny_holding
      exact wpAny_comp_letGo fn _ t m (okAll _ inV) ns fun h _ _ same => wpAny_pure (out h same)
    · apply wpAny_bind
      apply wpAny_rule
      refine then_ (wpAny_holding left) fun _ t ⟨m, ns, out⟩ => ?_
      apply wpAny_bind
      exact wpAny_comp_letGo fn _ t m (okAll _ inW) ns fun h _ _ same => wpAny_pure (out h same)
end
/-! ### what leaves a block -/
/-- an exception that a call within X let out -/
def Flies (X : Cx) (W : XK) (u : Value) (t : Shared) : Prop :=
  ∃ (a : Addr) (B : Heap) (s0 : Shared) (pins : List (Addr × Obj)) (σ : L2.St) (H : Hp) (cls : Value) (d : Option Addr), u = .ref a ∧ Kn.Down X pins σ H cls d a B s0 t ∧ W cls d H
/-- a traced exception's note -/
theorem traced_note {h B B' : Heap} {a : Addr} {Z Z' : Obj → Prop} {x y : Value} (p : HandSPX.TracedZ h B a Z x) (q : HandSPX.TracedZ h B' a Z' y) : x = y := by
  obtain ⟨o1, f1, T1, p1, t1, a1, _, a2, a3, _, _, a4, a5, a6⟩ := p
  obtain ⟨o2, f2, T2, p2, t2, b1, _, b2, b3, _, _, b4, b5, b6⟩ := q
  obtain rfl : o1 = o2 := Option.some.inj (a1.symm.trans b1)
  obtain rfl : f1 = f2 := by rw [a2] at b2; cases b2; rfl
  obtain rfl : T1 = T2 := by rw [a3] at b3; cases b3; rfl
  obtain rfl := Option.some.inj (a4.symm.trans b4)
  rw [a5] at b5
  cases b5
  exact Option.some.inj (a6.symm.trans b6)
/-- of all that may be in the air, a call lets out what flies -/
theorem Flies.of_call {X : Cx} {pins : List (Addr × Obj)} {σ : L2.St} {H : Hp} {s s' : Shared} {E W : XK} (I : Inv X pins σ H s) (hW : ∀ cls d H', E cls d H' → W cls d H') {u : Value} (c : L2.CX X.prog X.w X.stack H s E u s') : Flies X W u s' := by
  have x : XE X (fun cls d _ H' => W cls d H') u s' := XE.of_call I hW c
  obtain ⟨a, B, s0, pins', σ', H', cls, d, same, J, ground, up, sky, free, os, bare, want⟩ := x
  obtain ⟨a', _, _, _, _, same', fly, _⟩ := c
  obtain rfl : a = a' := Value.ref.inj (same.symm.trans same')
  have noted := fly.2.2.2
  refine ⟨a, B, s0, pins', σ', H', cls, d, same, ⟨J, ground, ?_, up, free, os, bare⟩, want⟩
  rcases sky with ⟨_, _, _, oe, vs, here, _, data, bare1⟩ | flying | held
  · obtain ⟨oe', vs', T, _, _, here', _, data', traced, _⟩ := noted
    obtain rfl : oe = oe' := Option.some.inj (here.symm.trans here')
    rw [data] at data'
    cases data'
    rw [bare1] at traced
    cases traced
  · exact flying
  · have z := traced_note noted held.2.2.2
    cases z
/-- the context of a block whose exceptions come to xe -/
abbrev blkE (X : Cx) (s : Shared) (H : Hp) (scope : Scope) (ce : Env) (fp : List Addr) (xe : Value → Shared → Prop) : Cx := { X.blk s H scope ce fp with xe := xe }
/-- the context of a block out of which W may fly -/
abbrev blkX (X : Cx) (W : XK) (s : Shared) (H : Hp) (scope : Scope) (ce : Env) (fp : List Addr) : Cx := blkE X s H scope ce fp (Flies (X.blk s H scope ce fp) W)
section
variable {X : Cx} {xe xe' : Value → Shared → Prop} {s0 s : Shared} {H H0 : Hp} {scope : Scope} {ce : Env} {fp : List Addr} {pins : List (Addr × Obj)} {σ : L2.St}
theorem ok_blkE (I : (blkE X s H scope ce fp xe).Ok) : (blkE X s H scope ce fp xe').Ok :=
  ⟨I.mod, I.kind, I.glob, I.blt, I.above, I.inj, I.has, I.cab, I.hd, I.frames, I.stk, I.exf, I.bs, I.bsz, I.noex, I.exfs, I.funs, I.frf⟩
theorem inv_blkE (I : Inv (blkE X s0 H0 scope ce fp xe) pins σ H s) : Inv (blkE X s0 H0 scope ce fp xe') pins σ H s :=
  ⟨ok_blkE I.ok, I.os, I.bare, I.base, I.loc, I.cell, I.free, I.freeC, I.pin, I.hok, I.len⟩
theorem of_blkX {W : XK} (I : Inv (blkX X W s0 H0 scope ce fp) pins σ H s) : Inv (X.blk s0 H0 scope ce fp) pins σ H s := inv_blkE (xe' := fun _ _ => False) I
end
theorem note_same {e : Value} {env env' : Env} (h : env.frame = env'.frame) : noteFrame e env = noteFrame e env' := by
  unfold noteFrame PySem.frameOf
  rw [h]
theorem pass_same {α : Type} {t : String} {e : Value} {env env' : Env} (h : env.frame = env'.frame) : (PySem.passOn t e env : Sem α) = PySem.passOn t e env' := by
  unfold PySem.passOn
  rw [h]
/-! ### the block's frame is let go while the exception is held -/
/-- a heap without what lies at C -/
theorem without (h : Heap) (C : Addr) : ∃ G : Heap, (∀ b o, G.get? b = some o ↔ b ≠ C ∧ h.get? b = some o) ∧ G.get? C = none := by
  obtain ⟨G, on, off⟩ := restrict h fun b => decide (b ≠ C)
  have gone : G.get? C = none := off C (by simp)
  refine ⟨G, fun b o => ?_, gone⟩
  by_cases z : b = C
  · rw [z, gone]
    exact Iff.intro (fun q => by cases q) fun q => absurd rfl q.1
  · rw [on b (by simp [z])]
    exact ⟨fun q => ⟨z, q⟩, And.right⟩
/-- frames that are not at C stand without it -/
theorem frames_stay {h h' B B' : Heap} {C : Addr} (k : ∀ b, b ≠ C → h'.get? b = h.get? b) (kb : ∀ b, B.get? b = none → B'.get? b = none) (l : List Env) : C ∉ frs l → h.FunFrames B l → h'.FunFrames B' l := by
  induction l with
  | nil => exact fun _ _ => trivial
  | cons env rest ih =>
    intro hC
    rintro ⟨kind, ⟨L, o, at_, new, obj, dat⟩, more⟩
    have split : frs (env :: rest) = L :: frs rest := by
      show (env :: rest).filterMap (·.frame) = _
      rw [List.filterMap_cons, at_]; rfl
    rw [split, List.mem_cons, not_or] at hC
    exact ⟨kind, ⟨L, o, at_, kb L new, (k L (Ne.symm hC.1)).trans obj, dat⟩, ih hC.2 more⟩
/-- what flies out of the block is in the air of the def -/
theorem flies_out {X : Cx} {W : XK} {Wo : WX} {pins : List (Addr × Obj)} {s3 s' : Shared} {σ : L2.St} {H3 : Hp} {scope : Scope} {ce : Env} {fp : List Addr} {u : Value}
    (hs : X.stack = X.env :: X.outer) (hf : X.env.frame = some X.env.locals) (I3 : Inv X pins σ H3 s3) (fo : ∀ H', H' ce.locals = none → FpOk X pins H' ce.locals) (ff : ∀ b ∈ fp, (b ∈ X.ex ∨ X.s_0.heap.objs.size ≤ b) ∧ b ≠ X.env.locals ∧ (∀ x c, X.env.cells.lookup x = some c → c ≠ b) ∧ ∀ p ∈ X.pn ++ pins, p.1 ≠ b)
    (hce : ce.frame = X.env.frame) (tk : Takes X Wo) (hW : ∀ cls d H', W cls d H' → Wo cls d σ H') (x : Flies (X.blk s3 H3 scope ce fp) W u s') {E₁ : Value → Shared → Prop} :
    wpAny (model X.prog X.w) X.A (noteFrame u ce) (fun _ s'' => ∃ m, s''.heap.Ns ce.locals m ∧ ∀ h', Heap.SameBut ce.locals s''.heap h' →
      wpAny (model X.prog X.w) X.A (PySem.passOn "comprehension.variables-let-go" u ce : Sem Value) (fun _ _ => False) X.xe { s'' with heap := h' }) E₁ s' := by
  obtain ⟨a, B, s0, pins', σ', H', cls, d, rfl, w, want⟩ := x
  have ground : ∀ b o, s0.heap.get? b = some o → b ∉ frs X.stack → B.get? b = some o := w.ground
  have fly : HandSPX.FlyingZ B (X.env :: X.outer) a (Zc cls d) s'.heap := hs ▸ w.fly
  have noC : H' ce.locals = none := w.inv.free
  have F := fo H' noC
  have notFrame : ce.locals ∉ frs (X.env :: X.outer) := fun z => by
    obtain ⟨env, z1, z2⟩ := List.mem_filterMap.mp z
    rcases List.mem_cons.mp z1 with q | q
    · subst q
      rw [hf] at z2
      exact F.2.1 (Option.some.inj z2).symm
    · exact F.2.2.1 (List.mem_filterMap.mpr ⟨env, q, z2⟩)
  have outerInv : Inv X pins σ H' s0 := I3.call' (ch := fp) w.inv.os w.inv.base w.inv.hok w.inv.bare ff
  obtain ⟨m, ns, _⟩ := w.inv.loc
  obtain ⟨oC, es, ep, atC, dC⟩ := id (show s0.heap.Ns ce.locals m from ns)
  have bC : B.get? ce.locals = some oC := ground _ _ atC (hs ▸ notFrame)
  rw [note_same hce]
  refine HandSPX.looks_onZ (s := s') Zc.steady (by rw [I3.ok.frames, hs]) hf fly fun h1 held up1 => ?_
  obtain ⟨stays, newA, frames, traced⟩ := held
  refine ⟨m, ⟨oC, es, ep, stays _ _ bC, dC⟩, fun h' sb => ?_⟩
  rw [pass_same hce]
  obtain ⟨B', b1, bgone⟩ := without B ce.locals
  obtain ⟨G, g1, _⟩ := without s0.heap ce.locals
  have bnone : ∀ b, B.get? b = none → B'.get? b = none := fun b e => by
    rcases q : B'.get? b with _ | o
    · rfl
    · rw [((b1 b o).mp q).2] at e; cases e
  have stays' : B'.StaysIn h' := fun b o e => (sb.2 b ((b1 b o).mp e).1).trans (stays b o ((b1 b o).mp e).2)
  have frames' : h'.FunFrames B' (X.env :: X.outer) := frames_stay sb.2 bnone _ notFrame frames
  have neC : ∀ {b}, B.get? b = none → b ≠ ce.locals := fun e z => by rw [z, bC] at e; cases e
  obtain ⟨oe, vs, T, oT, ts, here, zc, dat, at1, newT, neT, hereT, datT, at3⟩ := traced
  have here' := (sb.2 a (neC newA)).trans here
  have traced' : HandSPX.TracedZ h' B' a (Zc cls d) (rawInt X.env.locals) := ⟨oe, vs, T, oT, ts, here', zc, dat, at1, bnone T newT, neT, (sb.2 T (neC newT)).trans hereT, datT, at3⟩
  have up' : G.UpToSlots h' := fun b o e nd => by
    obtain ⟨z, q⟩ := (g1 b o).mp e
    obtain ⟨sl1, q1⟩ := w.up b o q nd
    obtain ⟨sl2, q2⟩ := up1 b _ q1 nd
    exact ⟨sl2, (sb.2 b z).trans q2⟩
  have innerInv : Inv X pins σ H' { s0 with heap := G } := outerInv.turned (t' := s0.toks) (fun b o z e => (g1 b o).mpr ⟨z, e⟩) F.1 F.2.1 F.2.2.2.1 F.2.2.2.2.1 F.2.2.2.2.2
  have air : wpAny (model X.prog X.w) X.A (setFlight (.ref a) X.env.frame) (fun _ t => wpAny (model X.prog X.w) X.A (throw (.ref a) : Sem Value) (fun _ _ => False) X.xe t) X.xe { s' with heap := h' } := by
    rw [hf]
    refine HandSPX.setFlight_anyZ (s := { s' with heap := h' }) stays' frames' traced' fun h4 k1 k2 k3 k4 => wpAny_throw (tk _ _ ?_)
    refine ⟨a, B', { s0 with heap := G }, pins, σ, H', cls, d, rfl, innerInv, fun b o e nf => ?_, fun b o e nd => ?_, .inr (.inr (by rw [hs]; exact ⟨k1, bnone a newA, k2, k3⟩)), w.free, w.os, w.bare, hW _ _ _ want⟩
    · obtain ⟨z, q⟩ := (g1 b o).mp e
      exact (b1 b o).mpr ⟨z, ground b o q nf⟩
    · obtain ⟨sl, q⟩ := up' b o e nd
      exact (k4 b _ q nd).imp fun _ => id
  unfold PySem.passOn
  have isT : ¬ (Value.ref T == Value.none) = true := by simp
  refine wpAny_bind (wpAny_field (s := { s' with heap := h' }) here' dat at1 ?_)
  rw [if_neg isT]
  first
    | exact wpAny_bind (wpAny_pure (wpAny_bind air))
    | exact wpAny_bind air
end KnX
/-! KnZ: comprehensions with any container, whose parts may raise. -/
namespace KnX
open PySem PySem.Spec PyProof.Rows L2
/-! ### containers -/
/-- an empty one at D; what it wants so that y may go into the one at D -/
structure Bag where
  new : Addr → HO
  put : Addr → V → Hp → (Hp → Prop) → Prop
/-- what a comprehension into b wants -/
def tBag (b : Bag) (wi : TI) (g : TG) (tt : TT) (te : TE) (vs : List Nat) : TE := fun σ H0 Q => wi σ H0 fun J H1 => ∀ D, H1 D = none → ∃ W : Nat → Nat → Hp → Prop,
  (∃ m, W 0 m (upd H1 D (b.new D))) ∧ ∀ i m H, W i m H → (J.stop i H ∧ Q (.ref D) H) ∨ (J.go i H ∧ ∃ N : Hp → Prop, (∀ G, N G → ∃ k, k < m ∧ W (i + 1) k G) ∧
    ∀ x G, J.yld i H x G → g x (wipe σ vs) G fun τ G2 => wipe τ vs = wipe σ vs ∧ tt τ G2 fun ok G3 => if ok = true then te τ G3 fun y G4 => b.put D y G4 N else N G3)
/-- one turn of a comprehension's loop -/
def OneTurn (X : Cx) (tg elt : Expr) (ifs : List Expr) (it : Value) (ce : Env) (add : Value → Sem Value) (R : Result → Shared → Prop) (N : Shared → Prop) : Shared → Prop :=
  let M := model X.prog X.w
  let bad : Value → Shared → Prop := notedBy M X.A ce fun u t => R (.error u) t
  let store := fun (v : Value) (k : Shared → Prop) => wpAny M X.A (letOwnedTupleGo tg it v) (fun _ t => wpAny M X.A (assign tg ce v) (fun _ => k) bad t) bad
  let test := fun (k : Bool → Shared → Prop) => wpAny M X.A (forIn ifs true fun c r => if r = true then do let ok ← isTrue c ce (eval c ce); pure (ForInStep.yield ok) else pure (ForInStep.yield r)) k bad
  wpAny M X.A (pyNext it) (fun r t => match r with
    | none => R (.ok .next) t
    | some v => store v (test fun ok t => if ok = true then wpAny M X.A (eval elt ce) (fun x => wpAny M X.A (add x) (fun _ => N) bad) bad t else N t) t) bad
/-- the form of a comprehension: how its container is made, filled, and how its loop runs -/
structure Form (X : Cx) (e tg elt : Expr) (iter : Expr) (ifs : List Expr) (b : Bag) (mk : Sem Value) (add : Value → Value → Sem Value) : Prop where
  clauses : clausesOf e = [⟨tg, iter, ifs, 0⟩]
  made : ∃ o : Obj, (∀ (H : Hp) (h : Heap), ObjOk X.prog X.w (upd H h.objs.size (b.new h.objs.size)) (h.push o) h.objs.size (b.new h.objs.size)) ∧
    ∀ (E : Value → Shared → Prop) (Q : Value → Shared → Prop) (t : Shared), Q (.ref t.heap.objs.size) { t with heap := t.heap.push o } → wpAny (model X.prog X.w) X.A mk Q E t
  filled : ∀ (Y : Cx), Y.prog = X.prog → Y.w = X.w → ∀ (pins : List (Addr × Obj)) (σ : L2.St) (H : Hp) (t : Shared) (D : Addr) (y : V) (v : Value) (N : Hp → Prop) (E : Value → Shared → Prop), Inv Y pins σ H t → RelV y v → b.put D y H N →
    wpAny (model X.prog X.w) Y.A (add (.ref D) v) (fun _ t' => ∃ H', Inv Y pins σ H' t' ∧ N H') E t
  loops : ∀ (it acc : Value) (ce : Env) (R : Result → Shared → Prop) (I : Nat → Shared → Prop), (∀ n t, I n t → OneTurn X tg elt ifs it ce (add acc) R (fun t' => ∃ m, m < n ∧ I m t') t) → ∀ n t, I n t → codeAny (model X.prog X.w) X.A (.compLoop e 0 it acc ce) R t
  starts : ∀ (it acc : Value) (ce : Env) (R : Result → Shared → Prop) (t : Shared), codeAny (model X.prog X.w) X.A (.compLoop e 0 it acc ce) R t →
    wpAny (model X.prog X.w) X.A (pyIter it) (fun it' t' => codeAny (model X.prog X.w) X.A (.compLoop e 0 it' acc ce) R t') (notedBy (model X.prog X.w) X.A ce fun u t' => R (.error u) t') t → codeAny (model X.prog X.w) X.A (.compStart e 0 it acc ce) R t
/-! ### between two turns; k tokens are out -/
/-- e is read where k tokens are out -/
def PEk (X : Cx) (k : Nat) (e : Expr) (te : TE) : Prop := ∀ (pins : List (Addr × Obj)) (t : Shared) (σ : L2.St) (H : Hp) (Q : VK), k ≤ t.toks → Inv X pins σ H t → te σ H Q → wpAny (model X.prog X.w) X.A (eval e X.env) (EP X pins σ Q) X.xe t
theorem PEk.of {X : Cx} {k : Nat} {e : Expr} {te : TE} (h : PE X e te) : PEk X k e te := fun pins t σ H Q _ I q => h.run pins t σ H Q I q
structure Mid (Y : Cx) (k : Nat) (fp : List Addr) (tn : Nat → Heap → Prop) (σ : L2.St) (i : Nat) (H : Hp) (t : Shared) : Prop where
  inv : Inv Y [] σ H t
  toks : k ≤ t.toks
  at_ : tn i t.heap
  free : ∀ b ∈ fp, H b = none
section
variable {X : Cx} {s0 : Shared} {H0 : Hp} {scope : Scope} {ce : Env} {fp : List Addr} {tn : Nat → Heap → Prop} {σ : L2.St} {i : Nat} {H : Hp} {t : Shared} {tg elt iter : Expr} {ifs : List Expr} {J : It} {it : Addr} {k : Nat}
/-- the iterator's objects may turn within the block -/
theorem foot {pins : List (Addr × Obj)} {xe : Value → Shared → Prop} (I : Inv (blkE X s0 H0 scope ce fp xe) [] σ H t) (f : ∀ b ∈ fp, H b = none) : ∀ b ∈ fp, FpOk (blkE X s0 H0 scope ce fp xe) [] H b := fun b hb => by
  obtain ⟨notL, notC⟩ := I.ok.exf b hb
  refine ⟨f b hb, notL, I.ok.exfs b hb, .inl hb, fun x c => notC x c, fun p hp => ?_⟩
  cases hp
/-- a turn's body is done: the next may come -/
theorem Mid.next {xe : Value → Shared → Prop} {vs : List Nat} {τ : L2.St} {h7 : Heap} (T : Turn X.prog X.w X.K tg J fp it tn) (at_ : tn (i + 1) h7) (hw : wipe τ vs = wipe σ vs) (tk : k ≤ t.toks) (I : Inv (blkE X s0 H0 scope ce fp xe) ([] ++ pinsAt fp h7) τ H t) :
    Mid (blkE X s0 H0 scope ce fp (fun _ _ => False)) k fp tn (wipe σ vs) (i + 1) H t := by
  have stays : ∀ b ∈ fp, ∀ o, h7.get? b = some o → t.heap.get? b = some o ∧ H b = none := fun b hb o e => by
    have q := I.pin (b, o) (List.mem_append.mpr (.inr (List.mem_append.mpr (.inr (mem_pinsAt hb e)))))
    exact ⟨q.1, q.2.1⟩
  refine ⟨inv_blkE (I.unpinned (pins := [])) |>.weak ?_ fun j v e => ?_, tk, T.keep _ _ _ at_ fun b hb o e => (stays b hb o e).1, fun b hb => ?_⟩
  · rw [← hw, wipe_length]
  · rw [← hw] at e
    exact (wipe_some e).1
  · obtain ⟨o, e, _⟩ := T.obj _ _ at_ b hb
    exact (stays b hb o e).2
theorem carry {α : Type} {m : Sem α} {P Q : α → Shared → Prop} {M : Model} {A : Around} {E E' : Value → Shared → Prop} {s : Shared} (h0 : k ≤ s.toks) (h : wpAny M A m P E s) (hk : ∀ a t, k ≤ t.toks → P a t → Q a t) (he : ∀ u t, E u t → E' u t) : wpAny M A m Q E' s :=
  wpAny_mono (wpAny_toks_of h0 h) (fun a t z => hk a t z.1 z.2) fun u t z => he u t z.2
theorem sure {α : Type} {m : Sem α} {P Q : α → Shared → Prop} {M : Model} {A : Around} {E : Value → Shared → Prop} {s : Shared} (h0 : k ≤ s.toks) (h : wpAny M A m P (fun _ _ => False) s) (hk : ∀ a t, k ≤ t.toks → P a t → Q a t) : wpAny M A m Q E s := carry h0 h hk fun _ _ => False.elim
/-- the turn: the iterator stops, or an item goes through the body -/
theorem Mid.turn {xe : Value → Shared → Prop} {vs : List Nat} {e : Expr} {b : Bag} {mk : Sem Value} {add : Value → Value → Sem Value} {g : TG} {tt : TT} {te : TE} {D : Addr} {QQ : Prop} {R : Result → Shared → Prop} {N : Shared → Prop} (F : Form X e tg elt iter ifs b mk add) (T : Turn X.prog X.w X.K tg J fp it tn) (hc : X.calm = true)
    (pg : PG (blkE X s0 H0 scope ce fp xe) tg g) (pt : PTs (blkE X s0 H0 scope ce fp xe) ifs tt) (pe : PEk (blkE X s0 H0 scope ce fp xe) k elt te) (m : Mid (blkE X s0 H0 scope ce fp (fun _ _ => False)) k fp tn (wipe σ vs) i H t)
    (go : (J.stop i H ∧ QQ) ∨ (J.go i H ∧ ∃ N' : Hp → Prop, (∀ H' t', N' H' → Mid (blkE X s0 H0 scope ce fp (fun _ _ => False)) k fp tn (wipe σ vs) (i + 1) H' t' → N t') ∧ ∀ x G, J.yld i H x G → g x (wipe σ vs) G fun τ G2 => wipe τ vs = wipe σ vs ∧ tt τ G2 fun ok G3 => if ok = true then te τ G3 fun y G4 => b.put D y G4 N' else N' G3))
    (out : QQ → ∀ t', Inv (blkE X s0 H0 scope ce fp (fun _ _ => False)) [] (wipe σ vs) H t' → R (.ok .next) t') (air : ∀ u t', xe u t' → notedBy (model X.prog X.w) X.A ce (fun u t => R (.error u) t) u t') : OneTurn X tg elt ifs (.ref it) ce (add (.ref D)) R N t := by
  have ft := foot (pins := []) m.inv m.free
  rcases go with ⟨stop, q⟩ | ⟨go, N', more, step⟩
  · refine sure m.toks (T.done (blkE X s0 H0 scope ce fp _) rfl rfl rfl hc i [] t _ H (fun _ _ => False) m.inv ft m.at_ stop) fun r t' _ ⟨hr, I⟩ => ?_
    subst hr
    exact out q t' I
  · refine sure m.toks (T.item (blkE X s0 H0 scope ce fp _) rfl rfl rfl hc i [] t _ H (fun _ _ => False) m.inv ft m.at_ go) fun r t1 k1 ⟨u, hr, h1⟩ => ?_
    subst hr
    refine sure k1 h1 fun _ t2 k2 ⟨x, G, I2, rx, y2, at2, n2⟩ => ?_
    have pinned : Inv (blkE X s0 H0 scope ce fp xe) ([] ++ pinsAt fp t2.heap) _ G t2 := inv_blkE (I2.pinned (foot (pins := []) I2 n2) (T.obj _ _ at2))
    refine carry k2 (pg.run _ t2 _ G x u _ pinned rx (step x G y2)) (fun _ t3 k3 ⟨τ, G3, I3, same, q3⟩ => ?_) air
    refine carry k3 (pt.run _ t3 τ G3 _ I3 q3) (fun ok t4 k4 ⟨G4, I4, q4⟩ => ?_) air
    cases ok with
    | false => exact more G4 t4 q4 (Mid.next T at2 same k4 I4)
    | true =>
      refine carry k4 (pe _ t4 τ G4 _ k4 I4 q4) (fun z t5 k5 ⟨y, G5, I5, ry, q5⟩ => ?_) air
      exact carry k5 (F.filled (blkE X s0 H0 scope ce fp xe) rfl rfl _ τ G5 t5 D y z N' _ I5 ry q5) (fun _ t6 k6 ⟨G6, I6, q6⟩ => more G6 t6 q6 (Mid.next T at2 same k6 I6)) fun _ _ z => z
end
/-! ### the whole -/
section
variable {X : Cx}
theorem comp_core (k : Nat) {xf : Shared → Hp → Env → List Addr → Value → Shared → Prop} {pins : List (Addr × Obj)} {s : Shared} {σ : L2.St} {H : Hp} {Q : VK} {e elt tg iter : Expr} {ifs : List Expr} {b : Bag} {mk : Sem Value} {add : Value → Value → Sem Value} {scope : Scope} {own : List (Str × Nat)} {pos' : Pos} {wi : TI} {g : TG} {tt : TT} {te : TE} {use : Option (Value → Sem Unit)} {Qf : Value → Shared → Prop}
    (F : Form X e tg elt iter ifs b mk add) (hc : X.calm = true) (hN : X.N.Nodup) (tk : k ≤ s.toks) (I : Inv X pins σ H s) (pi : PI X tg iter wi) (ok : BlkOk X.N X.env.scope scope own) (plain : ∀ x, foldedSetIterable iter X.env x = pure x)
    (parts : ∀ (s : Shared) (H : Hp) (C : Addr) (cl : List (Str × Addr)) (fp : List Addr), PG (blkE X s H scope (compEnvC scope cl C X.env) fp (xf s H (compEnvC scope cl C X.env) fp)) tg g ∧
      PTs (blkE X s H scope (compEnvC scope cl C X.env) fp (xf s H (compEnvC scope cl C X.env) fp)) ifs tt ∧ PEk (blkE X s H scope (compEnvC scope cl C X.env) fp (xf s H (compEnvC scope cl C X.env) fp)) k elt te)
    (want : tBag b wi g tt te (own.map (·.2)) σ H Q)
    (out : ∀ D C s' m H', Inv X pins σ H' s' → Q (.ref D) H' → s'.heap.Ns C m → FpOk X pins H' C → compPost (model X.prog X.w) X.A X.xe use Qf (.ref D) C (.ok .next) s')
    (air : ∀ (t : Shared) (G : Hp) (ce : Env) (fp : List Addr) (D : Addr), Inv X pins σ G t → (∀ G', G' ce.locals = none → FpOk X pins G' ce.locals) → (∀ b ∈ fp, (b ∈ X.ex ∨ X.s_0.heap.objs.size ≤ b) ∧ b ≠ X.env.locals ∧ (∀ x c, X.env.cells.lookup x = some c → c ≠ b) ∧ ∀ p ∈ X.pn ++ pins, p.1 ≠ b) →
      ce.frame = X.env.frame → ∀ u t', xf t G ce fp u t' → notedBy (model X.prog X.w) X.A ce (fun u t => Gone (model X.prog X.w) X.A X.xe use Qf (.ref D) ce (.error u) t) u t') :
    wpAny (model X.prog X.w) X.A (comprehension e scope X.env pos' mk false (eval iter X.env) use) Qf X.xe s := by
  have free : ∀ y ∈ scope.names, y.2 = .free → ∃ c, X.env.cells.lookup y.1 = some c := fun y hy k => I.ok.has _ (ok.free y hy k)
  obtain ⟨o0, new_ok, mk_ok⟩ := F.made
  refine comp_walk (P1 := fun v t => k ≤ t.toks ∧ wpAny (model X.prog X.w) X.A (pyIter v) (PIE X pins σ tg _) X.xe t) (P4 := fun it acc ce t => ∃ (a D : Addr) (fp : List Addr) (tn : Nat → Heap → Prop) (J : It) (G : Hp) (t0 : Shared),
      it = .ref a ∧ acc = .ref D ∧ k ≤ t0.toks ∧ Inv X pins σ G t0 ∧ Turn X.prog X.w X.K tg J fp a tn ∧ tn 0 t0.heap ∧ (∀ b ∈ fp, FpOk X pins G b ∧ b < t0.heap.objs.size) ∧
      { ce with scope := relabel scope X.env } = compEnvC scope (cellsFrom (t0.heap.objs.size + 1) scope.names (cloFrom X.env.cells scope.names [])) t0.heap.objs.size X.env ∧ t = { t0 with heap := pushCells (t0.heap.push { cls := .type "dict", data := .dict #[] }) scope.names } ∧
      ∃ W : Nat → Nat → Hp → Prop, (∃ m, W 0 m G) ∧ ∀ i m H, W i m H → (J.stop i H ∧ Q (.ref D) H) ∨ (J.go i H ∧ ∃ N : Hp → Prop, (∀ G, N G → ∃ k, k < m ∧ W (i + 1) k G) ∧
        ∀ x G, J.yld i H x G → g x (wipe σ (own.map (·.2))) G fun τ G2 => wipe τ (own.map (·.2)) = wipe σ (own.map (·.2)) ∧ tt τ G2 fun ok G3 => if ok = true then te τ G3 fun y G4 => b.put D y G4 N else N G3))
    F.clauses plain (closure_ok free) ok.kind (fun y hy k => by rw [ok.uniq y hy, k]) (carry tk (pi.run pins s σ H _ I want) (fun _ _ => And.intro) fun _ _ => id) (fun x t hx => carry hx.1 hx.2 (fun itv t1 tk1 h1 => ?_) fun _ _ => id) ?_
  · obtain ⟨a, fp, tn, J, G, e1, I1, T, at1, f1, q1⟩ := h1
    refine mk_ok _ _ t1 ?_
    have freeD : G t1.heap.objs.size = none := I1.hok.fresh (Nat.le_refl _)
    refine newEnv_comp ?_
    refine ⟨a, t1.heap.objs.size, fp, tn, J, upd G t1.heap.objs.size (b.new t1.heap.objs.size), { t1 with heap := t1.heap.push o0 }, e1, rfl, tk1, ?_, T, ?_, fun c hc' => ?_, rfl, rfl, q1 _ freeD⟩
    · exact I1.laid (t' := t1.toks) (fun b o e => Heap.get?_push_of_some _ e) (Nat.le_refl _) (new_ok G t1.heap)
    · exact T.keep _ _ _ at1 fun b _ o e => Heap.get?_push_of_some _ e
    · obtain ⟨o, here, _⟩ := T.obj _ _ at1 c hc'
      have lt := Heap.lt_size here
      obtain ⟨z, rest⟩ := f1 c hc'
      refine ⟨⟨?_, rest⟩, ?_⟩
      · rw [upd_ne (Nat.ne_of_lt lt)]; exact z
      · show c < (t1.heap.push o0).objs.size
        rw [Heap.size_push]; exact Nat.lt_succ_of_lt lt
  · rintro it acc ce t ⟨a, D, fp, tn, J, G, t0, rfl, rfl, tk0, I0, T, at0, f0, hce, rfl, W, ⟨m0, w0⟩, turn⟩
    have start := block_start I0 ok hN f0
    obtain ⟨pg, pt, pe⟩ := parts t0 G t0.heap.objs.size (cellsFrom (t0.heap.objs.size + 1) scope.names (cloFrom X.env.cells scope.names [])) fp
    rw [hce]
    have at_ : (compEnvC scope (cellsFrom (t0.heap.objs.size + 1) scope.names (cloFrom X.env.cells scope.names [])) t0.heap.objs.size X.env).locals = t0.heap.objs.size := rfl
    have fr : (compEnvC scope (cellsFrom (t0.heap.objs.size + 1) scope.names (cloFrom X.env.cells scope.names [])) t0.heap.objs.size X.env).frame = X.env.frame := rfl
    generalize compEnvC scope (cellsFrom (t0.heap.objs.size + 1) scope.names (cloFrom X.env.cells scope.names [])) t0.heap.objs.size X.env = be at start pg pt pe at_ fr ⊢
    have at1 : tn 0 (pushCells (t0.heap.push { cls := .type "dict", data := .dict #[] }) scope.names) := T.keep _ _ _ at0 fun b _ o e => pushCells_keeps _ _ _ _ (Heap.get?_push_of_some _ e)
    have side : ∀ b ∈ fp, (b ∈ X.ex ∨ X.s_0.heap.objs.size ≤ b) ∧ b ≠ X.env.locals ∧ (∀ x c, X.env.cells.lookup x = some c → c ≠ b) ∧ ∀ p ∈ X.pn ++ pins, p.1 ≠ b := fun b hb =>
      let ⟨⟨_, p1, _, p3, p4, p5⟩, _⟩ := f0 b hb
      ⟨p3, p1, p4, p5⟩
    have mine : ∀ G', G' be.locals = none → FpOk X pins G' be.locals := fun G' z => by
      rw [at_] at z ⊢
      exact I0.fpOk (Nat.le_refl _) z
    have loop : codeAny (model X.prog X.w) X.A (.compLoop e 0 (.ref a) (.ref D) be) (Gone (model X.prog X.w) X.A X.xe use Qf (.ref D) be) { t0 with heap := pushCells (t0.heap.push { cls := .type "dict", data := .dict #[] }) scope.names } := by
      refine F.loops _ _ _ _ (fun n t => ∃ i H', Mid (blkE X t0 G scope be fp (fun _ _ => False)) k fp tn (wipe σ (own.map (·.2))) i H' t ∧ W i n H') ?_ m0 _ ⟨0, G, ⟨start, tk0, at1, fun b hb => (f0 b hb).1.1⟩, w0⟩
      rintro n t ⟨i, G1, mid, w1⟩
      refine mid.turn F T hc pg pt pe (QQ := Q (.ref D) G1) ?_ (fun q t' I' => ?_) (air t0 G be fp D I0 mine side fr)
      · refine (turn i n G1 w1).imp id fun ⟨go, N, less, step⟩ => ⟨go, N, fun H' t' nx m' => ?_, step⟩
        obtain ⟨k, lt, w'⟩ := less H' nx
        exact ⟨k, lt, i + 1, H', m', w'⟩
      · obtain ⟨m, ns, _⟩ := I'.loc
        exact out D be.locals t' m G1 (I0.call' (ch := fp) I'.os I'.base I'.hok I'.bare side) q ns (mine G1 I'.free)
    exact F.starts _ _ _ _ _ loop (T.self X.A 0 _ _ _ at1 loop)
/-! ### lists -/
def lstBag : Bag := ⟨fun _ => .lst [], fun D y H N => ∃ acc, H D = some (.lst acc) ∧ acc.length < sizeLine ∧ N (upd H D (.lst (acc ++ [y])))⟩
theorem lst_form {elt tg iter : Expr} {ifs : List Expr} {scope : Scope} {pos : Pos} : Form X (.ListComp elt [⟨tg, iter, ifs, 0⟩] scope pos) tg elt iter ifs lstBag (newList []) (fun acc x => call (.builtin "list.append") [acc, x]) where
  clauses := rfl
  made := ⟨{ cls := .type "list", data := .seq ([] : List Value).toArray }, fun H h => ⟨Nat.zero_le _, [], 0, .nil, Heap.get?_push_size _ rfl⟩, fun E Q t q => wpAny_newObj_type q (by show 0 ≤ sizeLine; decide)⟩
  filled := fun Y hp hw pins σ H t D y v N E I r ⟨acc, at_, lt, n⟩ => by
    rw [← hp, ← hw]
    exact app_ok (X := Y) I at_ lt r fun t' I' => ⟨_, I', n⟩
  loops := fun it acc ce R I turn n t h => compLoop_any I turn n h
  starts := fun it acc ce R t => codeAny_compStart_list
theorem lc_coreX {W : XK} {Wo : WX} {pins : List (Addr × Obj)} {s : Shared} {σ : L2.St} {H : Hp} {Q : VK} {elt tg iter : Expr} {ifs : List Expr} {scope : Scope} {own : List (Str × Nat)} {pos pos' : Pos} {wi : TI} {g : TG} {tt : TT} {te : TE} {use : Option (Value → Sem Unit)} {Qf : Value → Shared → Prop}
    (hst : X.stack = X.env :: X.outer) (hfr : X.env.frame = some X.env.locals) (tk : Takes X Wo) (hW : ∀ cls d H', W cls d H' → Wo cls d σ H') (hc : X.calm = true) (hN : X.N.Nodup) (I : Inv X pins σ H s) (pi : PI X tg iter wi) (ok : BlkOk X.N X.env.scope scope own)
    (hg : ∀ (s : Shared) (H : Hp) (C : Addr) (cl : List (Str × Addr)) (fp : List Addr), PG (blkX X W s H scope (compEnvC scope cl C X.env) fp) tg g) (ht : ∀ (s : Shared) (H : Hp) (C : Addr) (cl : List (Str × Addr)) (fp : List Addr), PTs (blkX X W s H scope (compEnvC scope cl C X.env) fp) ifs tt)
    (he : ∀ (s : Shared) (H : Hp) (C : Addr) (cl : List (Str × Addr)) (fp : List Addr), PE (blkX X W s H scope (compEnvC scope cl C X.env) fp) elt te) (plain : ∀ x, foldedSetIterable iter X.env x = pure x) (want : tLc wi g tt te (own.map (·.2)) σ H Q)
    (out : ∀ D C s' m H', Inv X pins σ H' s' → Q (.ref D) H' → s'.heap.Ns C m → FpOk X pins H' C → compPost (model X.prog X.w) X.A X.xe use Qf (.ref D) C (.ok .next) s') :
    wpAny (model X.prog X.w) X.A (comprehension (.ListComp elt [⟨tg, iter, ifs, 0⟩] scope pos) scope X.env pos' (newList []) false (eval iter X.env) use) Qf X.xe s :=
  comp_core 0 (xf := fun s H ce fp => Flies (X.blk s H scope ce fp) W) lst_form hc hN (Nat.zero_le _) I pi ok plain (fun s H C cl fp => ⟨hg s H C cl fp, ht s H C cl fp, .of (he s H C cl fp)⟩) want out
    fun t G ce fp D I0 mine side fr u t' fl => flies_out hst hfr I0 mine side fr tk hW fl
/-- parts that raise nothing, k tokens out -/
theorem comp_calm (k : Nat) {pins : List (Addr × Obj)} {s : Shared} {σ : L2.St} {H : Hp} {Q : VK} {e elt tg iter : Expr} {ifs : List Expr} {b : Bag} {mk : Sem Value} {add : Value → Value → Sem Value} {scope : Scope} {own : List (Str × Nat)} {pos' : Pos} {wi : TI} {g : TG} {tt : TT} {te : TE} {use : Option (Value → Sem Unit)} {Qf : Value → Shared → Prop}
    (F : Form X e tg elt iter ifs b mk add) (hc : X.calm = true) (hN : X.N.Nodup) (tk : k ≤ s.toks) (I : Inv X pins σ H s) (pi : PI X tg iter wi) (ok : BlkOk X.N X.env.scope scope own) (plain : ∀ x, foldedSetIterable iter X.env x = pure x)
    (hg : ∀ (s : Shared) (H : Hp) (C : Addr) (cl : List (Str × Addr)) (fp : List Addr), PG (X.blk s H scope (compEnvC scope cl C X.env) fp) tg g) (ht : ∀ (s : Shared) (H : Hp) (C : Addr) (cl : List (Str × Addr)) (fp : List Addr), PTs (X.blk s H scope (compEnvC scope cl C X.env) fp) ifs tt)
    (he : ∀ (s : Shared) (H : Hp) (C : Addr) (cl : List (Str × Addr)) (fp : List Addr), PEk (X.blk s H scope (compEnvC scope cl C X.env) fp) k elt te) (want : tBag b wi g tt te (own.map (·.2)) σ H Q)
    (out : ∀ D C s' m H', Inv X pins σ H' s' → Q (.ref D) H' → s'.heap.Ns C m → FpOk X pins H' C → compPost (model X.prog X.w) X.A X.xe use Qf (.ref D) C (.ok .next) s') :
    wpAny (model X.prog X.w) X.A (comprehension e scope X.env pos' mk false (eval iter X.env) use) Qf X.xe s :=
  comp_core k (xf := fun _ _ _ _ _ _ => False) F hc hN tk I pi ok plain (fun s H C cl fp => ⟨hg s H C cl fp, ht s H C cl fp, he s H C cl fp⟩) want out fun _ _ _ _ _ _ _ _ _ _ _ no => no.elim
/-- the container as a value -/
theorem out_value {pins : List (Addr × Obj)} {σ : L2.St} {Q : VK} (D C : Addr) (t : Shared) (m : Str → Option Value) (H : Hp) (I : Inv X pins σ H t) (q : Q (.ref D) H) (ns : t.heap.Ns C m) (f : FpOk X pins H C) : compPost (model X.prog X.w) X.A X.xe none (EP X pins σ Q) (.ref D) C (.ok .next) t :=
  ⟨m, ns, fun _ sb => ⟨.ref D, H, I.turned (t' := t.toks) (fun b o hb e => (sb.2 b hb).trans e) f.1 f.2.1 f.2.2.2.1 f.2.2.2.2.1 f.2.2.2.2.2, rfl, q⟩⟩
/-- the container into a local name -/
theorem out_name {pins : List (Addr × Obj)} {σ : L2.St} {E : Ends} {i : Nat} {y : Str} {py : Pos} (hN : X.N.Nodup) (hy : X.N[i]? = some y) (hyl : X.env.scope.names.lookup y = some .local) (D C : Addr) (t : Shared) (m : Str → Option Value) (H : Hp) (I : Inv X pins σ H t) (q : E.nx (σ.set i (some (.ref D))) H) (ns : t.heap.Ns C m) (f : FpOk X pins H C) :
    compPost (model X.prog X.w) X.A X.xe (some (assign (.Name y py) X.env)) (fun _ t' => SP X pins E .next t') (.ref D) C (.ok .next) t := by
  have stored : wpAny (model X.prog X.w) X.A (storeName X.env y (.ref D)) (fun _ t' => ∃ m, t'.heap.Ns C m ∧ ∀ h, Heap.SameBut C t'.heap h → SP X pins E .next { t' with heap := h }) X.xe t := by
    refine store_ok2 (v := V.ref D) I hN hy (.inl hyl) rfl (fun t2 I2 ⟨a, same, which⟩ => ?_) (.inr hyl)
    have other : C ≠ a := by
      rintro rfl
      exact which.elim f.2.1 fun z => f.2.2.2.2.1 y _ z rfl
    exact ⟨m, ns.sameBut same other, fun _ sb => ⟨_, H, I2.turned (t' := t2.toks) (fun b o hb e => (sb.2 b hb).trans e) f.1 f.2.1 f.2.2.2.1 f.2.2.2.2.1 f.2.2.2.2.2, q⟩⟩
  exact wpAny_assign_Name stored
/-- name = [..]: from the comprehension that is stored -/
theorem set_from_comp {e : Expr} {scope : Scope} {pos : Pos} {elt : Expr} {g : Comprehension} {y : Str} {py spos : Pos} {pins : List (Addr × Obj)} {E : Ends} {s : Shared} (he : e = .ListComp elt [g] scope pos) (hsw : swapsWith e (some (.Name y py)) spos.line X.env = pure true)
    (h : wpAny (model X.prog X.w) X.A (comprehension e scope X.env (firstIterPos [g] pos) (newList []) (firstAsync [g]) (firstIter [g] X.env) (some (assign (.Name y py) X.env))) (fun _ t => SP X pins E .next t) X.xe s) : wpAny (model X.prog X.w) X.A (exec (.Assign [.Name y py] e spos) X.env) (SP X pins E) X.xe s := by
  subst he
  rw [exec_Assign_Name_used _ _ _ _ hsw]
  apply wpAny_bind
  apply wpAny_standAt
  apply wpAny_bind
  exact wpAny_bind (wpAny_mono h (fun _ _ q => wpAny_pure (wpAny_pure q)) fun _ _ => id)
end
end KnX
/-! KnAA: [f(..) for tg in iter if ..] where f may raise. -/
namespace Kn
open PySem PySem.Spec PyProof.Rows
open L2 hiding St
def BlkX (X : Cx) (W : XK) (scope : Scope) (Y : Cx) : Prop := ∃ (s : Shared) (H : Hp) (C : Addr) (cl : List (Str × Addr)) (fp : List Addr), Y = KnX.blkX X W s H scope (compEnvC scope cl C X.env) fp
/-- what calls let out may leave Z -/
def FlZ (Z : Cx) (W : XK) : Prop := ∀ (pins : List (Addr × Obj)) (σ : SV) (H : Hp) (s : Shared) (E : XK) (u : Value) (s' : Shared), Inv Z pins σ H s → (∀ cls d H', E cls d H' → W cls d H') → L2.CX Z.prog Z.w Z.stack H s E u s' → Z.xe u s'
theorem flz {X Y : Cx} {W : XK} {scope : Scope} (h : BlkX X W scope Y) : FlZ Y W := fun pins σ H s E u s' I hW c => by
  obtain ⟨s0, H0, C, cl, fp, rfl⟩ := h
  exact KnX.Flies.of_call (KnX.of_blkX I) hW c
/-- e in a block, what is raised in a call is handed to y -/
def EWF (Z : Cx) (O : Own) (ρ : List Slot) (e : Expr) (y : Exn → Own → Prop) (k : Slot → Own → Prop) : Prop :=
  ∀ H0 σ H, StOk Z.K H0 O σ ρ H → ∀ W : XK, FlZ Z W → (∀ e O' H' cls d, y e O' → OwnOk Z.K O' H' → Same H0 (hid O' H') → ExOk Z.K O' H' cls d e → W cls d H') → ∀ Q : VK, (∀ v H' s O', k s O' → StOk Z.K H0 O' σ ρ H' → SlOk Z.K (hid O' H') v s → Q v H') → We Z e σ H Q
@[reducible] def kOutF (y : Exn → Own → Prop) (k : Slot → Own → Prop) : Out → Own → Prop
  | .ret s, O => k s O
  | .exc e, O => y e O
section
variable {X : Cx} {O : Own} {ρ : List Slot} {x : ExK} {y : Exn → Own → Prop} {k : Slot → Own → Prop} {e a : Expr} {es : List Expr} {pos p : Pos} {D : SD} {g g' : Bool} {j n : Nat} {S : SpecT} {df : List Dat} {tg iter : Expr}
theorem ewf_pure (h : EW X O ρ e noX k) : EWF X O ρ e y k := fun H0 σ H st W fl hW Q q => h H0 σ H st takes_no Q q
theorem ewf_call {nm : Str} (cl : Cal X.prog X.w X.K X.mg X.base g n nm S df) (hr : RoomB g' j X.A) (h : AW X O ρ (e :: es) noX fun ss O1 => S (ss ++ df.map .dat) O1 (kOutF y k)) (hj : n ≤ j := by decide) (hgg : g = true → g' = true := by first | exact fun _ => rfl | exact fun h => h | exact fun h => nomatch h)
    (hg : Gl X nm := by rfl) (hdb : (nm == ("__debug__" : Str)) = false := by decide) (he : starEach (e :: es) X.env = (false, eval e X.env) :: starEach es X.env := by rfl) (hpl : (backTo pos (starEach es X.env)).any (·.1) = false := by rfl) :
    EWF X O ρ (.Call (.Name nm p) (e :: es) [] pos) y k := fun H0 σ H st W fz hW Q q => ⟨fun pins s I => by
  obtain ⟨f, fd, ps, ds, dvs, hm, hk, F, hb, hd, hdf⟩ := cl
  refine wpAny_Call_Name_kw (ld_glob I hg hm ?_ hdb)
  refine PySem.W.callWith_K (h₀ := X.base) I.ok.mod.kin hk (thn ((pa_w (es := e :: es)).run pos pins s σ H (fun vs H1 => ∃ ss O1, StOk X.K H0 O1 σ ρ H1 ∧ Paired (SlOk X.K (hid O1 H1)) vs ss ∧ S (ss ++ df.map .dat) O1 (kOutF y k)) I (h H0 σ H st takes_no _ fun vs H1 ss O1 h1 st1 r1 => ⟨ss, O1, st1, r1, h1⟩)) fun us s1 hq => ?_) he hpl
  obtain ⟨vs, H1, I1, rv, ss, O1, st1, pr, hS⟩ := hq
  refine ⟨I1.kIn, ?_⟩
  have r2 : Vals (vs ++ dvs) (us ++ ds) := rv.append hd
  have sp : spS X.K S (vs ++ dvs) H1 Q W := ⟨O1, ss ++ df.map .dat, kOutF y k, st1.own, paired_app pr (hdf _).paired, hS,
    fun v H' s' O' h1 h2 h3 h4 => q v H' s' O' h1 (st1.next h2 h3) h4, fun cls d e H' O' h1 h2 h3 h4 => hW e O' H' cls d h1 h2 (st1.base.trans h3) h4⟩
  have hl : (us ++ ds).length = ps.length := by rw [← r2.length]; exact spS_len F.len _ _ _ _ sp
  refine wpAny_call (codeAny_mono (F.run X.A X.stack s1 H1 ⟨us, []⟩ (us ++ ds) (vs ++ dvs) Q _ (hr.mono hj hgg) I1.env0 (hb s1 us I1.kIn hl) r2 sp) fun r s' hq => ?_)
  cases r with
  | error e => exact fz pins σ H1 s1 W e s' I1 (fun _ _ _ h => h) hq
  | ok fl =>
    cases fl with
    | ret u => exact I1.after hq
    | next => exact False.elim hq
    | brk => exact False.elim hq
    | cont => exact False.elim hq⟩
/-- a comprehension's target, in such a block -/
inductive TgtX (X : Cx) (scope : Scope) (vs : List Nat) : Expr → (Dat → List Slot → List Slot → Prop) → Prop
  | name {nm : Str} {p : Pos} {i : Nat} (hi : i ∈ vs) (hg : ∀ W Y, BlkX X W scope Y → PG Y (.Name nm p) (gName i)) : TgtX X scope vs (.Name nm p) (fun d ρ ρ' => ρ' = ρ.set i (.dat d))
  | two {n1 n2 : Str} {p1 p2 p : Pos} {kk i j : Nat} (hi : i ∈ vs) (hj : j ∈ vs) (hg : ∀ W Y, BlkX X W scope Y → PG Y (.Tuple [.Name n1 p1, .Name n2 p2] kk p) (gTup X.K 2 (gCons (gName i) (gCons (gName j) gNil)))) :
    TgtX X scope vs (.Tuple [.Name n1 p1, .Name n2 p2] kk p) (fun d ρ ρ' => ∃ d1 d2, d = .tup [d1, d2] ∧ ρ' = (ρ.set i (.dat d1)).set j (.dat d2))
theorem tgtX_run {scope : Scope} {vs : List Nat} {T : Dat → List Slot → List Slot → Prop} (h : TgtX X scope vs tg T) :
    ∃ g : TG, (∀ W Y, BlkX X W scope Y → PG Y tg g) ∧ ∀ {H0 H : Hp} {O : Own} {σ : SV} {ρ ρ' : List Slot} {v : V} {d : Dat} {Q : SV → Hp → Prop}, StOk X.K H0 O (wipe σ vs) ρ H → Rp X.K (hid O H) v d → T d ρ ρ' →
      (∀ σ', StOk X.K H0 O σ' ρ' H → wipe σ' vs = wipe σ vs → Q σ' H) → g v (wipe σ vs) H Q := by
  cases h with
  | name hi hg =>
    refine ⟨_, hg, fun {H0 H O σ ρ ρ' v d Q} st r t q => ?_⟩
    subst t
    exact q _ (st.set r) (by rw [wipe_at hi, wipe_wipe fun _ z => z])
  | two hi hj hg =>
    refine ⟨_, hg, fun {H0 H O σ ρ ρ' v d Q} st r t q => ?_⟩
    obtain ⟨d1, d2, rfl, rfl⟩ := t
    cases r with
    | tup h1 h2 =>
      cases h2 with
      | cons r1 h2 =>
        cases h2 with
        | cons r2 h2 =>
          cases h2
          refine ⟨_, _, rfl, sqt_mono hid_le h1, rfl, _, _, rfl, _, _, rfl, rfl, q _ ((st.set (s := .dat d1) r1).set (s := .dat d2) r2) ?_⟩
          rw [wipe_at hj, wipe_at hi, wipe_wipe fun _ z => z]
/-- what the comprehension asks -/
def LcX (X : Cx) (ρ : List Slot) (x : ExK) (k : Slot → Own → Prop) (scope : Scope) (T : Dat → List Slot → List Slot → Prop) (vs : List Nat) (ifs : List Expr) (elt : Expr) : List Dat → Own → Prop := fun ds O1 => ds.length ≤ sizeLine ∧ ∃ J : Nat → List Slot → Own → Prop, J 0 [] O1 ∧
  (∀ i d acc O', J i acc O' → ds[i]? = some d → ∃ ρ', T d (wipeS ρ vs) ρ' ∧ ∀ Dd, O' Dd = none → ∀ W Y, BlkX X W scope Y → TsW Y (up O' Dd (.lst acc)) ρ' ifs noX fun t O2 =>
    (t = true → ∀ Z, BlkX X W scope Z → EWF Z O2 ρ' elt (fun e O3 => ∃ O4, Sub O4 O3 ∧ x e ρ O4) fun s O3 => ∃ O4, O3 = up O4 Dd (.lst acc) ∧ O4 Dd = none ∧ J (i + 1) (acc ++ [s]) O4) ∧ (t = false → ∃ O4, O2 = up O4 Dd (.lst acc) ∧ O4 Dd = none ∧ J (i + 1) acc O4)) ∧
  ∀ acc O', J ds.length acc O' → ∀ p, O' p = none → k (.own p) (up O' p (.lst acc))
def WX0 (K : PySem.W.Frag) (H0 : Hp) (x : ExK) (σ : SV) (ρ : List Slot) : XK := fun cls d H' => ∃ e O', x e ρ O' ∧ StOk K H0 O' σ ρ H' ∧ ExOk K O' H' cls d e
theorem tlc_ofX {elt : Expr} {ifs : List Expr} {scope : Scope} {vs : List Nat} {T : Dat → List Slot → List Slot → Prop} {g : TG}
    (hg : ∀ {H0 H : Hp} {O : Own} {σ : SV} {ρ ρ' : List Slot} {v : V} {d : Dat} {Q : SV → Hp → Prop}, StOk X.K H0 O (wipe σ vs) ρ H → Rp X.K (hid O H) v d → T d ρ ρ' → (∀ σ', StOk X.K H0 O σ' ρ' H → wipe σ' vs = wipe σ vs → Q σ' H) → g v (wipe σ vs) H Q)
    (h : IW X O ρ tg iter x (LcX X ρ x k scope T vs ifs elt)) {H0 : Hp} {σ : SV} {H : Hp} {Q : VK} (st : StOk X.K H0 O σ ρ H) (tk : Takes X (Wsem X.K H0 x))
    (q : ∀ v H' s O', k s O' → StOk X.K H0 O' σ ρ H' → SlOk X.K (hid O' H') v s → Q v H') :
    tLc (Wi X tg iter) g (fun σ1 H Q => ∀ Y, BlkX X (WX0 X.K H0 x σ ρ) scope Y → ∀ (pins : List (Addr × Obj)) (s : Shared), Inv Y pins σ1 H s →
      wpAny (model Y.prog Y.w) Y.A (forIn ifs true fun c r => if r = true then do let ok ← isTrue c Y.env (eval c Y.env); pure (ForInStep.yield ok) else pure (ForInStep.yield r)) (TP Y pins σ1 Q) Y.xe s)
      (fun σ1 H Q => ∀ Y, BlkX X (WX0 X.K H0 x σ ρ) scope Y → We Y elt σ1 H Q) vs σ H Q := by
  refine h H0 σ H st tk _ fun J0 H1 ds O1 ⟨hz, J, j0, js, je⟩ st1 it => ?_
  intro Dd hD
  have hOD : O1 Dd = none := own_free st1.own hD
  have gS : Same (hid O1 H1) (hid (up O1 Dd (.lst [])) (upd H1 Dd (.lst []))) := fun b o hb => by
    obtain ⟨z1, z2⟩ := of_hid hb
    have nb := ne_of_none z2 hD
    rw [hid_none (by rw [up_ne nb]; exact z1), upd_ne nb]
    exact z2
  refine ⟨fun i m H' => i + m = ds.length ∧ ∃ acc O', J i acc O' ∧ O' Dd = none ∧ acc.length ≤ i ∧ StOk X.K (hid O1 H1) (up O' Dd (.lst acc)) σ ρ H',
    ⟨ds.length, by omega, [], O1, j0, hOD, Nat.le_refl _, ⟨(st1.alloc (o := .lst []) (c := .lst []) hD ⟨[], rfl, .nil⟩).own, gS, pmap (fun _ _ z => EnvOk.mono gS z) st1.env⟩⟩, fun i m H' hW => ?_⟩
  obtain ⟨em, acc, O', hj, nD, hacc, st'⟩ := hW
  obtain ⟨i1, i2⟩ := it _ H' st'.own st'.base i
  cases hd : ds[i]? with
  | none =>
    have hi : ds.length ≤ i := List.getElem?_eq_none_iff.mp hd
    have ei : i = ds.length := by omega
    subst ei
    exact .inl ⟨i2 hd, q _ H' _ _ (je acc O' hj Dd nD) (st'.rebase st1.base) rfl⟩
  | some d =>
    have hi : i < ds.length := (List.getElem?_eq_some_iff.mp hd).1
    obtain ⟨g1, g2⟩ := i1 d hd
    obtain ⟨ρ', ht, hb⟩ := js i d acc O' hj hd
    have hb := hb Dd nD (WX0 X.K H0 x σ ρ)
    refine .inr ⟨g1, fun H'' => ∃ acc2 O2, J (i + 1) acc2 O2 ∧ O2 Dd = none ∧ acc2.length ≤ i + 1 ∧ StOk X.K (hid O1 H1) (up O2 Dd (.lst acc2)) σ ρ H'', fun H'' hN => ⟨m - 1, by omega, by omega, hN⟩, fun v H2 hy => ?_⟩
    obtain ⟨s1, r1⟩ := g2 v H2 hy
    have st2 := st'.grow s1
    refine hg (σ := σ) (st2.wipe vs) r1 ht fun σ' st3 hw => ⟨hw, fun Y hY pins s I => ?_⟩
    obtain ⟨sY, HY, CY, clY, fpY, eY⟩ := id hY
    have eK : Y.K = X.K := by rw [eY]
    have st3Y : StOk Y.K (hid O1 H1) (up O' Dd (.lst acc)) σ' ρ' H2 := by rw [eK]; exact st3
    refine (hb Y hY (hid O1 H1) σ' H2 st3Y takes_no _ fun t H3 O3 h3 st4 => ?_).r pins s I
    cases t with
    | false =>
      obtain ⟨O4, e4, n4, j4⟩ := h3.2 rfl
      subst e4
      refine iteF ⟨acc, O4, j4, n4, by omega, ?_⟩
      rw [eK] at st4
      exact ⟨st4.own, st4.base, pmap (fun _ _ z => EnvOk.mono st4.base z) st1.env⟩
    | true =>
      refine iteT fun Z hZ => ?_
      obtain ⟨sZ, HZ, CZ, clZ, fpZ, eZ⟩ := id hZ
      have eKZ : Z.K = X.K := by rw [eZ]
      have eYZ : Z.K = Y.K := by rw [eZ, eY]
      refine (h3.1 rfl) Z hZ (hid O1 H1) σ' H3 (by rw [eYZ]; exact st4) _ (flz hZ) (fun ex O5 H5 cls dd hy5 ow5 sm5 ex5 => ?_) _ fun u H5 s5 O5 h5 st5 r5 => ?_
      · obtain ⟨O6, sb, hx⟩ := hy5
        rw [eKZ] at ow5 ex5
        exact ⟨ex, O6, hx, ⟨ow5.sub sb, st1.base.trans (sm5.trans (hid_sub sb)), pmap (fun _ _ z => EnvOk.mono (sm5.trans (hid_sub sb)) z) st1.env⟩, ex5.sub sb⟩
      · obtain ⟨O4, e4, n4, j4⟩ := h5
        subst e4
        rw [eKZ] at st5 r5
        obtain ⟨o5, c1, xs5, rfl, c2⟩ := st5.own.cell Dd _ up_at
        have lx : xs5.length = acc.length := paired_len c2
        have st6 := st5.write (o := .lst (xs5 ++ [u])) (c := .lst (acc ++ [s5])) up_at ⟨_, rfl, paired_app c2 (.cons r5 .nil)⟩
        rw [up_up] at st6
        refine ⟨xs5, c1, by omega, acc ++ [s5], O4, j4, n4, by rw [List.length_append]; exact Nat.add_le_add_right hacc 1, ⟨st6.own, st6.base, pmap (fun _ _ z => EnvOk.mono st6.base z) st1.env⟩⟩
/-- y = [..] with y a local, the parts may raise -/
theorem s1_setLcX (own : List (Str × Nat)) (i : Nat) {nm : Str} {py spos : Pos} {elt : Expr} {ifs : List Expr} {scope : Scope} {T : Dat → List Slot → List Slot → Prop} (hN : X.N.Nodup) (tg_ok : TgtX X scope (own.map (·.2)) tg T) (ok : BlkOk X.N X.env.scope scope own)
    (h : IW X O ρ tg iter x (LcX X ρ x (fun s O' => D.nx (ρ.set i s) O') scope T (own.map (·.2)) ifs elt)) (hc : X.calm = true := by rfl) (hst : X.stack = X.env :: X.outer := by rfl) (hfr : X.env.frame = some X.env.locals := by rfl)
    (hy : X.N[i]? = some nm := by rfl) (hyl : X.env.scope.names.lookup nm = some .local := by rfl)
    (hsw : swapsWith (.ListComp elt [⟨tg, iter, ifs, 0⟩] scope pos) (some (.Name nm py)) spos.line X.env = pure true := by exact sw_true rfl rfl rfl (by decide +kernel)) (hs : ∀ x, foldedSetIterable iter X.env x = pure x := by intro _; rfl) :
    S1 X O ρ (.Assign [.Name nm py] (.ListComp elt [⟨tg, iter, ifs, 0⟩] scope pos) spos) x D := fun H0 σ H st tk E okE => ⟨fun pins s I => by
  obtain ⟨g, g1, g2⟩ := tgtX_run tg_ok
  have t := tlc_ofX (Q := fun v H1 => E.nx (σ.set i (some v)) H1) g2 h st tk fun v H' s O' hq st' r => okE.nx _ _ O' H' hq (st'.set r)
  exact KnX.set_from_comp rfl hsw (KnX.lc_coreX (W := WX0 X.K H0 x σ ρ) hst hfr tk (fun cls d H' ⟨e, O', h1, h2, h3⟩ => ⟨e, ρ, O', h1, h2, h3⟩) hc hN I pi_w ok
    (fun s H C cl fp => g1 _ _ ⟨s, H, C, cl, fp, rfl⟩) (fun s H C cl fp => ⟨fun pins sh σ H5 Q I hq => hq _ ⟨s, H, C, cl, fp, rfl⟩ pins sh I⟩) (fun s H C cl fp => ⟨fun pins sh σ H5 Q I hq => (hq _ ⟨s, H, C, cl, fp, rfl⟩).r pins sh I⟩) hs t
    (KnX.out_name hN hy hyl))⟩
end
end Kn
/-! KnAB: an instance handed on as data; == of data; texts joined. -/
namespace Kn
open PySem PySem.Spec PyProof.Rows
open L2 hiding St
section
variable {X : Cx} {O : Own} {ρ : List Slot} {x : ExK} {k : Slot → Own → Prop} {e : Expr}
theorem ew_frzI (h : EW X O ρ e x fun s O' => ∃ p C dx ds, s = .own p ∧ O' p = some (.ins C dx (ds.map fun q => (q.1, .dat q.2))) ∧ k (.dat (.ins C ds)) (dn O' p)) : EW X O ρ e x k := fun H0 σ H st tk Q q =>
  h H0 σ H st tk Q fun v H' s O' ⟨p, C, dx, ds, e1, h1, h2⟩ st' r => by
    subst e1
    obtain rfl : v = .ref p := r
    exact q _ H' _ _ h2 st'.freeze (st'.own.ins h1)
end
/-- the class at C is what the module calls nm -/
def clsAt (K : PySem.W.Frag) (nm : Str) (C : Addr) : Prop := PySem.W.nsIn K mainGlobals nm = some (some (.ref C))
theorem at_inj {K : PySem.W.Frag} {nm : Str} {C C' : Addr} (h : clsAt K nm C) (h' : clsAt K nm C') : C = C' := by
  have e := h.symm.trans h'
  cases e
  rfl
theorem bt_ValueError : bootBuiltins "ValueError" = some (.type "ValueError") := by decide +kernel
theorem bt_KeyError : bootBuiltins "KeyError" = some (.type "KeyError") := by decide +kernel
theorem eqD_str (y z : Str) : eqD (.str y) (.str z) = decide (y = z) := by
  show PyData.eqv (.str y) (.str z) = _
  unfold PyData.eqv
  by_cases h : y = z
  · subst h; simp
  · simp [h]
theorem eqA_cons (a b : Dat) (as bs : List Dat) : PyData.eqvAll (toPys (a :: as)) (toPys (b :: bs)) = (eqD a b && PyData.eqvAll (toPys as) (toPys bs)) := by
  show PyData.eqvAll (toPy a :: toPys as) (toPy b :: toPys bs) = _
  rw [PyData.eqvAll]
  rfl
theorem eqA_nil : PyData.eqvAll (toPys []) (toPys []) = true := by
  show PyData.eqvAll [] [] = true
  rw [PyData.eqvAll]
theorem eqA_cn (a : Dat) (as : List Dat) : PyData.eqvAll (toPys (a :: as)) (toPys []) = false := by
  show PyData.eqvAll (toPy a :: toPys as) [] = false
  rw [PyData.eqvAll]
  all_goals first | rfl | (intros; simp_all)
theorem eqA_nc (a : Dat) (as : List Dat) : PyData.eqvAll (toPys []) (toPys (a :: as)) = false := by
  show PyData.eqvAll [] (toPy a :: toPys as) = false
  rw [PyData.eqvAll]
  all_goals first | rfl | (intros; simp_all)
theorem eqD_tup (as bs : List Dat) : eqD (.tup as) (.tup bs) = PyData.eqvAll (toPys as) (toPys bs) := by
  show PyData.eqv (.tuple (toPys as)) (.tuple (toPys bs)) = _
  rw [PyData.eqv]
theorem eqD_lst (as bs : List Dat) : eqD (.lst as) (.lst bs) = PyData.eqvAll (toPys as) (toPys bs) := by
  show PyData.eqv (.list (toPys as)) (.list (toPys bs)) = _
  rw [PyData.eqv]
/-- where f tells unlike things apart -/
theorem eqA_map {α : Type} [DecidableEq α] (f : α → Dat) (hf : ∀ a b, eqD (f a) (f b) = decide (a = b)) : ∀ as bs : List α, PyData.eqvAll (toPys (as.map f)) (toPys (bs.map f)) = decide (as = bs)
  | [], [] => eqA_nil
  | a :: as, [] => by rw [List.map_cons, List.map_nil, eqA_cn, decide_eq_false (by intro h; cases h)]
  | [], b :: bs => by rw [List.map_cons, List.map_nil, eqA_nc, decide_eq_false (by intro h; cases h)]
  | a :: as, b :: bs => by
    rw [List.map_cons, List.map_cons, eqA_cons, hf, eqA_map f hf as bs]
    by_cases h1 : a = b
    · subst h1
      by_cases h2 : as = bs
      · subst h2; simp
      · rw [decide_eq_true rfl, decide_eq_false h2, decide_eq_false (by intro h; cases h; exact h2 rfl)]; rfl
    · have n : ¬ (a :: as = b :: bs) := fun h => h1 (List.cons.inj h).1
      rw [decide_eq_false h1, decide_eq_false n]; rfl
theorem join_two (y a b : Str) : Txt.join y [a, b] = a ++ y ++ b := by
  refine sgs_ext ?_
  rw [sgs_app, sgs_app]
  show TL.tl (Txt.join y [a, b]) = TL.tl a ++ TL.tl y ++ TL.tl b
  rw [TL.join_eq, TL.tl_join]
  simp [TL.joinL, List.append_assoc]
end Kn
/-! KnAC: a, b = c, d by a tuple. -/
namespace Kn
open PySem PySem.Spec PyProof.Rows
open L2 hiding St
section
variable {X : Cx} {O : Own} {ρ : List Slot} {x : ExK} {a b : Expr} {pos : Pos} {D : SD}
/-- a, b = c, d where a name is held in a cell -/
theorem s1_parT (i j : Nat) {nx ny : Str} {px py pt : Pos} {kt1 k2 pt2} (h : AW X O ρ [a, b] x fun ss O' => ∃ s1 s2, ss = [s1, s2] ∧ D.nx ((ρ.set i s1).set j s2) O') (hN : X.N.Nodup) (hc : X.calm = true := by rfl) (hi : X.N[i]? = some nx := by rfl) (hj : X.N[j]? = some ny := by rfl)
    (hx : Loc X.env.scope nx := by first | exact .inl rfl | exact .inr rfl) (hfx : X.fn nx = true ∨ X.env.scope.names.lookup nx = some .local := by first | exact .inl rfl | exact .inr rfl)
    (hy : Loc X.env.scope ny := by first | exact .inl rfl | exact .inr rfl) (hfy : X.fn ny = true ∨ X.env.scope.names.lookup ny = some .local := by first | exact .inl rfl | exact .inr rfl)
    (hn : (assignEach [.Name nx px, .Name ny py] X.env).length = 2 := by rfl) (hst : (assignEach [.Name nx px, .Name ny py] X.env).findIdx? (·.1) = none := by rfl)
    (ha1 : (assignEach [.Name nx px, .Name ny py] X.env).map (·.2) = assign (.Name nx px) X.env :: (assignEach [.Name ny py] X.env).map (·.2) := by rfl) (ha2 : (assignEach [.Name ny py] X.env).map (·.2) = assign (.Name ny py) X.env :: (assignEach [] X.env).map (·.2) := by rfl)
    (hw : swappedStores [.Tuple [.Name nx px, .Name ny py] kt1 pt] (.Tuple [a, b] k2 pt2) X.env = pure none := by rfl)
    (hs : swapsWithSole [.Tuple [.Name nx px, .Name ny py] kt1 pt] (.Tuple [a, b] k2 pt2) pos.line X.env = pure false := by rfl)
    (h1 : (assignEach [.Tuple [.Name nx px, .Name ny py] kt1 pt] X.env).map (·.2) = [assign (.Tuple [.Name nx px, .Name ny py] kt1 pt) X.env] := by rfl) :
    S1 X O ρ (.Assign [.Tuple [.Name nx px, .Name ny py] kt1 pt] (.Tuple [a, b] k2 pt2) pos) x D := fun H0 σ H st tk E ok =>
  ws_of (ps_asg (pe_tup pa_w) (pg_tup hc (pgs_cons (pg_name hN hi hx hfx) (pgs_cons (pg_name hN hj hy hfy) pgs_nil ha2) ha1) hn hst) hs hw h1) (h H0 σ H st tk _ fun vs H' ss O' ⟨s1, s2, e1, q⟩ st' r => by
    subst e1
    cases r with
    | cons r1 r =>
      cases r with
      | cons r2 r =>
        cases r
        refine ⟨show 2 ≤ sizeLine by decide, fun t ht => ?_⟩
        have sm : ∀ xs, Same H' (upd H' t (.tup xs)) := fun xs => same_new ht
        exact ⟨t, _, rfl, .inl (.inl upd_same), rfl, _, _, rfl, _, _, rfl, rfl, ok.nx _ _ _ _ q (((st'.grow (sm _)).set (SlOk.mono (hid_same (sm _)) r1)).set (SlOk.mono (hid_same (sm _)) r2))⟩)
end
end Kn
/-! KnAD: slots classes, constants of a class, self.f += e, list.clear, x[i] of own lists walked from behind. -/
namespace Kn
open PySem PySem.Spec PyProof.Rows
open L2 hiding St
section
variable {X : Cx} {O : Own} {ρ : List Slot} {x : ExK} {k k' : Slot → Own → Prop} {kl kl' : List Slot → Own → Prop} {e a b c o : Expr} {es : List Expr} {pos p apos pos2 tpos : Pos} {D : SD} {g g' : Bool} {j n : Nat} {S : SpecT} {df : List Dat} {m f : Str}
/-! constants of a class -/
def ConD (K : PySem.W.Frag) (C : Addr) (f : Str) (d : Dat) : Prop := ∃ v u, Con K C f v u ∧ ∀ G, Rp K G v d
theorem ew_con {C : Addr} {d : Dat} (cd : ConD X.K C f d) (c : Cls X.K C) (h : EW X O ρ o x fun s O1 => InsAt O1 C f s ∧ k (.dat d) O1) (hb : attributeBase o f X.env (eval o X.env) = eval o X.env := by rfl) : EW X O ρ (.Attribute o f pos) x k := fun H0 σ H st tk Q q => by
  obtain ⟨v0, u0, hc, hr⟩ := cd
  refine we_of (pe_con pe_w hb) (h H0 σ H st tk _ fun v H1 s O1 ⟨hi, hk⟩ st1 r1 => ?_)
  obtain ⟨a, dx, fs, rfl, hHa, hl⟩ := ins_at hi st1 r1
  exact ⟨a, C, dx, fs, v0, u0, rfl, hHa, c, hc, hl, q v0 H1 _ O1 hk st1 (hr _)⟩
/-! self.f += e, numbers -/
theorem s1_fldaug {op : Operator} {rd : V → V → Hp → VK → Prop} {fi : Int → Int → Int} (hop : InOp X op rd) (hrd : ∀ i j H (Q : VK), Q (.int (fi i j)) H → rd (.int i) (.int j) H Q)
    (h : EW X O ρ o x fun s O1 => ∃ (q : Addr) (C dx : Addr) (fs : List (Str × Slot)) (i : Int), s = .own q ∧ O1 q = some (.ins C dx fs) ∧ Cls X.K C ∧ NoAttr X.K C f ∧ fs.lookup f = some (.dat (.int i)) ∧
      EW X O1 ρ e x fun t O2 => ∃ (j : Int) (dx' : Addr) (fs' : List (Str × Slot)), t = .dat (.int j) ∧ O2 q = some (.ins C dx' fs') ∧ fs'.length < 1000 ∧ D.nx ρ (up O2 q (.ins C dx' (putS f (.dat (.int (fi i j))) fs')))) :
    S1 X O ρ (.AugAssign (.Attribute o f tpos) op e pos) x D := fun H0 σ H st tk E ok => by
  refine ws_of (ps_fldaug pe_w pe_w hop) (h H0 σ H st tk _ fun v H1 s O1 hk st1 r1 => ?_)
  obtain ⟨q, C, dx, fs, i, rfl, hp, c, na, hl, hk⟩ := hk
  cases r1
  obtain ⟨ob, h1, fv, rfl, h2⟩ := st1.own.cell q _ hp
  obtain ⟨w, hw, rw⟩ := pairedF_lookup h2 hl
  refine ⟨q, C, dx, fv, w, rfl, h1, c, na, hw, ?_⟩
  refine hk _ σ H1 st1.top (takes_base tk st1.base) _ fun y H2 t O2 hq st2 r2 => ?_
  obtain ⟨j, dx', fs', rfl, hp2, hl2, hn⟩ := hq
  cases r2
  cases rw
  obtain ⟨ob2, h3, fv2, rfl, h4⟩ := st2.own.cell q _ hp2
  refine hrd _ _ _ _ ⟨dx', fv2, h3, by rw [paired_len h4]; exact hl2, ?_⟩
  exact ok.nx σ ρ _ _ hn ((st2.rebase st1.base).write hp2 ⟨_, rfl, pairedF_put (s := .dat (.int (fi i j))) (Rp.int _) h4⟩)
theorem s1_fldadd (h : EW X O ρ o x fun s O1 => ∃ (q : Addr) (C dx : Addr) (fs : List (Str × Slot)) (i : Int), s = .own q ∧ O1 q = some (.ins C dx fs) ∧ Cls X.K C ∧ NoAttr X.K C f ∧ fs.lookup f = some (.dat (.int i)) ∧
      EW X O1 ρ e x fun t O2 => ∃ (j : Int) (dx' : Addr) (fs' : List (Str × Slot)), t = .dat (.int j) ∧ O2 q = some (.ins C dx' fs') ∧ fs'.length < 1000 ∧ D.nx ρ (up O2 q (.ins C dx' (putS f (.dat (.int (i + j))) fs')))) :
    S1 X O ρ (.AugAssign (.Attribute o f tpos) .Add e pos) x D := s1_fldaug in_add (fun i j H Q h => ⟨i, j, rfl, rfl, h⟩) h
theorem s1_fldsub (h : EW X O ρ o x fun s O1 => ∃ (q : Addr) (C dx : Addr) (fs : List (Str × Slot)) (i : Int), s = .own q ∧ O1 q = some (.ins C dx fs) ∧ Cls X.K C ∧ NoAttr X.K C f ∧ fs.lookup f = some (.dat (.int i)) ∧
      EW X O1 ρ e x fun t O2 => ∃ (j : Int) (dx' : Addr) (fs' : List (Str × Slot)), t = .dat (.int j) ∧ O2 q = some (.ins C dx' fs') ∧ fs'.length < 1000 ∧ D.nx ρ (up O2 q (.ins C dx' (putS f (.dat (.int (i - j))) fs')))) :
    S1 X O ρ (.AugAssign (.Attribute o f tpos) .Sub e pos) x D := s1_fldaug in_sub (fun i j H Q h => ⟨i, j, rfl, rfl, h⟩) h
/-! list.clear -/
theorem mb_clear {q : Addr} {ss : List Slot} (hp : O q = some (.lst ss)) (h : k (.dat .non) (up O q (.lst []))) : MtB X "list.clear" (.own q) [] O k := ⟨_, mt_clear, fun H0 σ ρ H v vs st r pr Q qq => by
  obtain rfl : v = .ref q := r
  cases pr
  obtain ⟨ob, h1, xs, rfl, h2⟩ := st.own.cell q _ hp
  exact ⟨q, xs, rfl, rfl, h1, qq _ _ _ _ h (st.write hp ⟨[], rfl, .nil⟩) .non⟩⟩
/-! slots -/
theorem op_len {K : PySem.W.Frag} {G : Hp} {vs : List (Option V)} {ss : List (Option Slot)} (h : Paired (OpOk K G) vs ss) : vs.length = ss.length := paired_len h
/-- one slot stored -/
def putSl (i : Nat) (s : Slot) (ss : List (Option Slot)) : List (Option Slot) := (ss ++ List.replicate (i + 1 - ss.length) Option.none).set i (some s)
theorem op_none {K : PySem.W.Frag} {G : Hp} : ∀ n : Nat, Paired (OpOk K G) (List.replicate n none) (List.replicate n none)
  | 0 => .nil
  | n + 1 => .cons True.intro (op_none n)
theorem op_put {K : PySem.W.Frag} {G : Hp} {v : V} {s : Slot} (r : SlOk K G v s) (i : Nat) {vs : List (Option V)} {ss : List (Option Slot)} (h : Paired (OpOk K G) vs ss) : Paired (OpOk K G) (SlX.putS i v vs) (putSl i s ss) := by
  unfold SlX.putS putSl
  rw [op_len h]
  exact paired_set (F := OpOk K G) (x := some v) (y := some s) r i (paired_app h (op_none _))
theorem op_get {K : PySem.W.Frag} {G : Hp} {s : Slot} {i : Nat} {vs : List (Option V)} {ss : List (Option Slot)} (h : Paired (OpOk K G) vs ss) (hi : ss[i]? = some (some s)) : ∃ v, vs[i]? = some (some v) ∧ SlOk K G v s := by
  obtain ⟨o, h1, h2⟩ := paired_get h hi
  cases o with
  | none => exact h2.elim
  | some v => exact ⟨v, h1, h2⟩
theorem slt_of {K : PySem.W.Frag} {H : Hp} {O : Own} {q C dx : Addr} {ss : List (Option Slot)} (ok : OwnOk K O H) (hp : O q = some (.slt C dx ss)) : ∃ vs, SlX.Slt H q C dx vs ∧ dx ≠ q ∧ H dx = some (.xd []) ∧ Paired (OpOk K (hid O H)) vs ss := by
  obtain ⟨ob, h1, h2, h3, vs, rfl, h4⟩ := ok.cell q _ hp
  exact ⟨vs, .inr ⟨h1, hid_le _ _ h2⟩, h3, hid_le _ _ h2, h4⟩
theorem ew_slot {C q0 : Addr} {i : Nat} (c : SlX.SCls X.K C) (t : SlX.Slot1 X.K C f q0 i) (h : EW X O ρ o x fun s O1 => ∃ (q dx : Addr) (ss : List (Option Slot)) (s' : Slot), s = .own q ∧ O1 q = some (.slt C dx ss) ∧ ss[i]? = some (some s') ∧ k s' O1)
    (hb : attributeBase o f X.env (eval o X.env) = eval o X.env := by rfl) : EW X O ρ (.Attribute o f pos) x k := fun H0 σ H st tk Q q => by
  refine we_of (SlX.pe_sl pe_w hb) (h H0 σ H st tk _ fun v H1 s O1 hk st1 r1 => ?_)
  obtain ⟨q1, dx, ss, s', rfl, hp, hi, hk⟩ := hk
  cases r1
  obtain ⟨vs, h1, h2, h3, h4⟩ := slt_of st1.own hp
  obtain ⟨w, hw, rw⟩ := op_get h4 hi
  exact ⟨q1, C, dx, q0, vs, i, w, rfl, h1, c, t, hw, q w H1 s' O1 hk st1 rw⟩
theorem upd_id {H : Hp} {a : Addr} {o : HO} (h : H a = some o) : upd H a o = H := by
  funext b
  by_cases e : b = a
  · subst e; rw [upd_same, h]
  · rw [upd_ne e]
theorem s1_slot {C q0 : Addr} {i : Nat} (c : SlX.SCls X.K C) (t : SlX.Slot1 X.K C f q0 i) (h : EW X O ρ e x fun s O1 => EW X O1 ρ o x fun t O2 => ∃ (q dx : Addr) (ss : List (Option Slot)), t = .own q ∧ O2 q = some (.slt C dx ss) ∧ D.nx ρ (up O2 q (.slt C dx (putSl i s ss))))
    (hs : swapsWith e (some (.Attribute o f pos2)) pos.line X.env = pure false := by rfl) : S1 X O ρ (.Assign [.Attribute o f pos2] e pos) x D := fun H0 σ H st tk E ok => by
  refine ws_of (SlX.ps_sl pe_w pe_w hs) (h H0 σ H st tk _ fun v H1 s O1 hk st1 r1 => ?_)
  refine hk _ σ H1 st1.top (takes_base tk st1.base) _ fun w H2 t2 O2 hq st2 r2 => ?_
  obtain ⟨q, dx, ss, rfl, hp, hn⟩ := hq
  cases r2
  obtain ⟨ob, z1, z2, z3, vs, rfl, z4⟩ := st2.own.cell q _ hp
  have hd := hid_le _ _ z2
  refine ⟨q, C, dx, q0, vs, i, rfl, .inr ⟨z1, hd⟩, c, t, ?_⟩
  have e1 : SlX.slH H2 q C dx (SlX.putS i v vs) = upd H2 q (SlX.SlO q C dx (SlX.putS i v vs)) := by
    unfold SlX.slH
    rw [upd_id hd]
  rw [e1]
  exact ok.nx σ ρ _ _ hn ((st2.rebase st1.base).write hp ⟨z2, z3, _, rfl, op_put (st_slot r1 st2) i z4⟩)
end
end Kn
/-! KnAE: instances with slots made, their methods. -/
namespace Kn
open PySem PySem.Spec PyProof.Rows
open L2 hiding St
section
variable {X : Cx} {O : Own} {ρ : List Slot} {x : ExK} {k k' : Slot → Own → Prop} {kl kl' : List Slot → Own → Prop} {e a b c o : Expr} {es : List Expr} {pos p apos pos2 tpos : Pos} {D : SD} {g g' : Bool} {j n : Nat} {S : SpecT} {df : List Dat} {m f : Str}
def MakeSl (C : Addr) (S : SpecT) (df : List Dat) (x : ExK) (ρ : List Slot) (k : Slot → Own → Prop) (ss : List Slot) (O : Own) : Prop :=
  ∀ a dx, O a = none → O dx = none → dx ≠ a → S (.own a :: (ss ++ df.map .dat)) (up O a (.slt C dx [])) (kMake x ρ k a)
theorem inv_made_sl {pins : List (Addr × Obj)} {s : Shared} {σ : SV} {H : Hp} {C : Addr} (I : Inv X pins σ H s) :
    Inv X pins σ (upd (upd H s.heap.objs.size (.xd [])) (s.heap.objs.size + 1) (SlX.SlO (s.heap.objs.size + 1) C s.heap.objs.size [])) { s with heap := (s.heap.push PySem.W.emptyDict).push (PySem.W.instObj C s.heap.objs.size) } := by
  have I1 := Inv.made (C := C) I
  have nxd : s.heap.objs.size ≠ s.heap.objs.size + 1 := Nat.ne_of_lt (Nat.lt_succ_self _)
  have h : SlX.Slt (upd (upd H s.heap.objs.size (.own (s.heap.objs.size + 1))) (s.heap.objs.size + 1) (.ins C s.heap.objs.size [])) (s.heap.objs.size + 1) C s.heap.objs.size [] := .inl ⟨upd_same, rfl⟩
  obtain ⟨_, sl, mA, e0, r, _, _⟩ := SlX.slt_at I1 h
  have I2 := SlX.inv_slot (vs' := []) (t' := s.toks) I1 h (fun b o _ _ q => q) (fun m q => q) e0 (SlX.SlR.nil _)
  have e : SlX.slH (upd (upd H s.heap.objs.size (.own (s.heap.objs.size + 1))) (s.heap.objs.size + 1) (.ins C s.heap.objs.size [])) (s.heap.objs.size + 1) C s.heap.objs.size [] = upd (upd H s.heap.objs.size (.xd [])) (s.heap.objs.size + 1) (SlX.SlO (s.heap.objs.size + 1) C s.heap.objs.size []) := by
    funext b
    unfold SlX.slH
    by_cases h1 : b = s.heap.objs.size + 1
    · rw [h1, upd_same, upd_same]
    · by_cases h2 : b = s.heap.objs.size
      · rw [h2, upd_ne nxd, upd_ne nxd, upd_same, upd_same]
      · simp only [upd_ne h1, upd_ne h2]
  rw [e] at I2
  exact I2
theorem run_makeSl {C : Addr} {vs : List V} {us : List Value} {ss : List Slot} {pins : List (Addr × Obj)} {s : Shared} {σ : SV} {H0 H : Hp} {Q : VK} (M : MkC X.prog X.w X.K X.mg X.base n C S df) (hr : RoomB g (n + 1) X.A)
    (I : Inv X pins σ H s) (st : StOk X.K H0 O σ ρ H) (tk : Takes X (Wsem X.K H0 x)) (rv : Vals vs us) (pr : Paired (SlOk X.K (hid O H)) vs ss) (h : MakeSl C S df x ρ k ss O) (q : ∀ v H' s O', k s O' → StOk X.K H0 O' σ ρ H' → SlOk X.K (hid O' H') v s → Q v H') :
    wpAny (model X.prog X.w) X.A (call (.ref C) us) (EP X pins σ Q) X.xe s := by
  obtain ⟨f, fd, ps, ds, dvs, M, F, hb, hd, hdf⟩ := M
  have fx : H (s.heap.objs.size + 1) = none := I.hok.fresh (Nat.le_succ _)
  have fd0 : H s.heap.objs.size = none := I.hok.fresh (Nat.le_refl _)
  have nxd : s.heap.objs.size ≠ s.heap.objs.size + 1 := Nat.ne_of_lt (Nat.lt_succ_self _)
  have hq := h (s.heap.objs.size + 1) s.heap.objs.size (own_free st.own fx) (own_free st.own fd0) nxd
  have sm : Same H (upd H s.heap.objs.size (.xd [])) := same_new fd0
  have st1 := st.grow sm
  have fx1 : (upd H s.heap.objs.size (.xd [])) (s.heap.objs.size + 1) = none := by rw [upd_ne nxd.symm]; exact fx
  have cl : ClOk X.K (hid O (upd H s.heap.objs.size (.xd []))) (s.heap.objs.size + 1) (SlX.SlO (s.heap.objs.size + 1) C s.heap.objs.size []) (.slt C s.heap.objs.size []) := ⟨by rw [hid_none (own_free st.own fd0), upd_same], nxd, [], rfl, .nil⟩
  have st2 := st1.alloc (o := SlX.SlO (s.heap.objs.size + 1) C s.heap.objs.size []) (c := .slt C s.heap.objs.size []) fx1 cl
  have I2 := inv_made_sl (C := C) I
  have gm : Same (hid O H) (hid (up O (s.heap.objs.size + 1) (.slt C s.heap.objs.size [])) (upd (upd H s.heap.objs.size (.xd [])) (s.heap.objs.size + 1) (SlX.SlO (s.heap.objs.size + 1) C s.heap.objs.size []))) := fun b u hb => by
    obtain ⟨z1, z2⟩ := of_hid hb
    have nb := ne_of_none z2 fx
    have nd := ne_of_none z2 fd0
    rw [hid_none (by rw [up_ne nb]; exact z1), upd_ne nb, upd_ne nd]
    exact z2
  have r2 : Vals (V.ref (s.heap.objs.size + 1) :: (vs ++ dvs)) (Value.ref (s.heap.objs.size + 1) :: (us ++ ds)) := .cons rfl (rv.append hd)
  have sp : spS X.K S (V.ref (s.heap.objs.size + 1) :: (vs ++ dvs)) (upd (upd H s.heap.objs.size (.xd [])) (s.heap.objs.size + 1) (SlX.SlO (s.heap.objs.size + 1) C s.heap.objs.size [])) (fun v H2 => v = .non ∧ Q (.ref (s.heap.objs.size + 1)) H2) (fun cls d H' => Wsem X.K H0 x cls d σ H') :=
    ⟨_, .own (s.heap.objs.size + 1) :: (ss ++ df.map .dat), kMake x ρ k _, st2.own, .cons rfl (paired_app (pmap (fun _ _ z => SlOk.mono gm z) pr) (hdf _).paired), hq,
      fun v H' s' O' h1 h2 h3 h4 => by
        obtain ⟨rfl, h5⟩ := h1
        cases h4
        exact ⟨rfl, q _ H' _ O' h5 (st2.next h2 h3) rfl⟩, fun cls d e H' O' h1 h2 h3 h4 => ⟨e, ρ, O', h1, st2.next h2 h3, h4⟩⟩
  have hl : (Value.ref (s.heap.objs.size + 1) :: us ++ ds).length = ps.length := by
    have e := r2.length
    rw [spS_len F.len _ _ _ _ sp] at e
    exact e.symm
  refine wpAny_call (make_map (f := f) I.kIn M.makes M.init (beq_iff_eq.mp M.fn) (codeAny_mono (F.ok.run _ X.stack _ _ ⟨Value.ref (s.heap.objs.size + 1) :: us, []⟩ (Value.ref (s.heap.objs.size + 1) :: (us ++ ds)) _ _ _ (hr.r.make C us [])
    (I2.env0.make C us []) (hb _ (Value.ref (s.heap.objs.size + 1) :: us) I2.kIn hl) r2 sp) fun r s' hq' => ?_))
  cases r with
  | error e => exact tk e s' (XE.of_call I2 (fun _ _ _ h => h) hq')
  | ok fl =>
    cases fl with
    | ret u =>
      obtain ⟨v, H', I3, rv, ev, q3⟩ := I2.after hq'
      subst ev
      exact ⟨rv, ⟨V.ref (s.heap.objs.size + 1), H', I3, rfl, q3⟩⟩
    | next => exact False.elim hq'
    | brk => exact False.elim hq'
    | cont => exact False.elim hq'
theorem ew_makeSl {C : Addr} {nm : Str} (M : MkC X.prog X.w X.K X.mg X.base n C S df) (hm : X.mg nm = some (.ref C)) (hr : RoomB g j X.A) (h : AW X O ρ (e :: es) x (MakeSl C S df x ρ k)) (hj : n + 1 ≤ j := by decide)
    (hg : Gl X nm := by rfl) (hdb : (nm == ("__debug__" : Str)) = false := by decide) (he : starEach (e :: es) X.env = (false, eval e X.env) :: starEach es X.env := by rfl) (hpl : (backTo pos (starEach es X.env)).any (·.1) = false := by rfl) :
    EW X O ρ (.Call (.Name nm p) (e :: es) [] pos) x k := fun H0 σ H st tk Q q => ⟨fun pins s I => by
  refine wpAny_Call_Name_kw (ld_glob I hg hm ?_ hdb)
  refine PySem.W.callWith_K (h₀ := X.base) I.ok.mod.kin M.kp (thn ((pa_w (es := e :: es)).run pos pins s σ H (fun vs H1 => ∃ ss O1, StOk X.K H0 O1 σ ρ H1 ∧ Paired (SlOk X.K (hid O1 H1)) vs ss ∧ MakeSl C S df x ρ k ss O1) I (h H0 σ H st tk _ fun vs H1 ss O1 h1 st1 r1 => ⟨ss, O1, st1, r1, h1⟩)) fun us s1 hq => ?_) he hpl
  obtain ⟨vs, H1, I1, rv, ss, O1, st1, pr, hS⟩ := hq
  exact ⟨I1.kIn, run_makeSl M (hr.mono hj (fun e => e)) I1 st1 tk rv pr hS q⟩⟩
theorem ew_makeSl0 {C : Addr} {nm : Str} (M : MkC X.prog X.w X.K X.mg X.base n C S df) (hm : X.mg nm = some (.ref C)) (hr : RoomB g j X.A) (h : MakeSl C S df x ρ k [] O) (hj : n + 1 ≤ j := by decide)
    (hg : Gl X nm := by rfl) (hdb : (nm == ("__debug__" : Str)) = false := by decide) :
    EW X O ρ (.Call (.Name nm p) [] [] pos) x k := fun H0 σ H st tk Q q => ⟨fun pins s I => by
  refine wpAny_Call_Name_kw (ld_glob I hg hm ?_ hdb)
  exact PySem.W.callWith_K0 I.kIn M.kp (run_makeSl (us := []) (vs := []) (ss := []) M (hr.mono hj (fun e => e)) I st tk .nil .nil h q)⟩
/-! methods of an own cell with slots -/
def SltAt (O : Own) (C : Addr) : Slot → Prop
  | .own p => ∃ dx ss, O p = some (.slt C dx ss)
  | _ => False
theorem slt_at' {K : PySem.W.Frag} {H0 H : Hp} {O : Own} {σ : SV} {ρ : List Slot} {C : Addr} {s : Slot} {v : V} (h : SltAt O C s) (st : StOk K H0 O σ ρ H) (r : SlOk K (hid O H) v s) : ∃ a dx vs, v = .ref a ∧ SlX.Slt H a C dx vs := by
  cases s with
  | own p =>
    obtain ⟨dx, ss, hp⟩ := h
    obtain ⟨vs, h1, _⟩ := slt_of st.own hp
    exact ⟨p, dx, vs, r, h1⟩
  | unk => exact h.elim
  | dat d => exact h.elim
theorem ew_methSl {C : Addr} {pl : Sem Bool} (mc : MCal X.prog X.w X.K X.mg X.base g n C m S df) (c : SlX.SCls X.K C) (hr : RoomB g' j X.A)
    (h : EW X O ρ o x fun s O1 => SltAt O1 C s ∧ AW X O1 ρ (e :: es) x fun ss O2 => S (s :: (ss ++ df.map .dat)) O2 (kOut x ρ k)) (hj : n ≤ j := by decide) (hgg : g = true → g' = true := by first | exact fun _ => rfl | exact fun h => h | exact fun h => nomatch h)
    (hst : starEach (e :: es) X.env = (false, eval e X.env) :: starEach es X.env := by rfl) (hpl : (backTo pos (starEach es X.env)).any (·.1) = false := by rfl)
    (ht : eval (.Call (.Attribute o m apos) (e :: es) [] pos) X.env = (do
      let ov ← eval o X.env
      standAt apos.atName
      let (f, first) ← holding [ov] (getMethod ov m pl)
      callWith pos f first (backTo pos (starEach (e :: es) X.env)) (backToKw pos (keywordEach [] X.env))) := by rfl) :
    EW X O ρ (.Call (.Attribute o m apos) (e :: es) [] pos) x k := fun H0 σ H st tk Q q => ⟨fun pins s I => by
  obtain ⟨f, fd, ps, ds, dvs, hm, F, hb, hd, hdf⟩ := mc
  refine PySem.W.methodCall_KW (pl := pl) (thn ((pe_w (e := o)).run pins s σ H (fun v H1 => ∃ s1 O1, (SltAt O1 C s1 ∧ AW X O1 ρ (e :: es) x fun ss O2 => S (s1 :: (ss ++ df.map .dat)) O2 (kOut x ρ k)) ∧ StOk X.K H0 O1 σ ρ H1 ∧ SlOk X.K (hid O1 H1) v s1) I (h H0 σ H st tk _ fun v H1 s1 O1 hk st1 r1 => ⟨s1, O1, hk, st1, r1⟩)) fun u s1 hq => ?_) ht
  obtain ⟨v, H1, I1, rx, t, O1, ⟨hi, ha⟩, st1, r1⟩ := hq
  obtain ⟨a, dx, fs, rfl, hsl⟩ := slt_at' hi st1 r1
  cases rx
  refine SlX.getmethsl_ok I1 hsl c hm ?_
  refine PySem.W.callWith_K (first := [.ref a]) (h₀ := X.base) I1.ok.mod.kin hm.kp (thn ((pa_w (es := e :: es)).run pos pins s1 σ H1 (fun vs H2 => ∃ ss O2, StOk X.K (hid O1 H1) O2 σ ρ H2 ∧ Paired (SlOk X.K (hid O2 H2)) vs ss ∧ S (t :: (ss ++ df.map .dat)) O2 (kOut x ρ k)) I1 (ha _ σ H1 st1.top (takes_base tk st1.base) _ fun vs H2 ss O2 h2 st2 r2 => ⟨ss, O2, st2, r2, h2⟩)) fun us s2 hq => ?_) hst hpl
  obtain ⟨vs, H2, I2, rv, ss, O2, st2, pr, hS⟩ := hq
  exact ⟨I2.kIn, run_call (us := .ref a :: us) (vs := .ref a :: vs) (ss := t :: ss) F (hr.mono hj hgg) hb hd hdf I2 (st2.rebase st1.base) tk (.cons rfl rv) (.cons (st_slot r1 st2) pr) hS q⟩⟩
theorem ew_methSl0 {C : Addr} {pl : Sem Bool} (mc : MCal X.prog X.w X.K X.mg X.base g n C m S df) (c : SlX.SCls X.K C) (hr : RoomB g' j X.A)
    (h : EW X O ρ o x fun s O1 => SltAt O1 C s ∧ S (s :: df.map .dat) O1 (kOut x ρ k)) (hj : n ≤ j := by decide) (hgg : g = true → g' = true := by first | exact fun _ => rfl | exact fun h => h | exact fun h => nomatch h)
    (ht : eval (.Call (.Attribute o m apos) [] [] pos) X.env = (do
      let ov ← eval o X.env
      standAt apos.atName
      let (f, first) ← holding [ov] (getMethod ov m pl)
      callWith pos f first (backTo pos (starEach [] X.env)) (backToKw pos (keywordEach [] X.env))) := by rfl) :
    EW X O ρ (.Call (.Attribute o m apos) [] [] pos) x k := fun H0 σ H st tk Q q => ⟨fun pins s I => by
  obtain ⟨f, fd, ps, ds, dvs, hm, F, hb, hd, hdf⟩ := mc
  refine PySem.W.methodCall_KW (pl := pl) (thn ((pe_w (e := o)).run pins s σ H (fun v H1 => ∃ s1 O1, (SltAt O1 C s1 ∧ S (s1 :: df.map .dat) O1 (kOut x ρ k)) ∧ StOk X.K H0 O1 σ ρ H1 ∧ SlOk X.K (hid O1 H1) v s1) I (h H0 σ H st tk _ fun v H1 s1 O1 hk st1 r1 => ⟨s1, O1, hk, st1, r1⟩)) fun u s1 hq => ?_) ht
  obtain ⟨v, H1, I1, rx, t, O1, ⟨hi, hS⟩, st1, r1⟩ := hq
  obtain ⟨a, dx, fs, rfl, hsl⟩ := slt_at' hi st1 r1
  cases rx
  refine SlX.getmethsl_ok I1 hsl c hm ?_
  exact PySem.W.callWith_K0 (first := [.ref a]) I1.kIn hm.kp (run_call (us := [.ref a]) (vs := [.ref a]) (ss := [t]) F (hr.mono hj hgg) hb hd hdf I1 st1 tk (.cons rfl .nil) (.cons r1 .nil) hS q)⟩
end
end Kn
/-! KnAF: match of a text. -/
namespace Kn
open PySem PySem.Spec PyProof.Rows
open L2 hiding St
section
variable {X : Cx} {O : Own} {ρ : List Slot} {x : ExK} {k k' : Slot → Own → Prop} {e a b c o : Expr} {es : List Expr} {pos p apos pos2 tpos : Pos} {D : SD} {z y : Str} {cs : List MatchCase} {body : List Stmt}
/-- the cases that are left, the text z is asked -/
def MW (X : Cx) (z : Str) (O : Own) (ρ : List Slot) (cs : List MatchCase) (x : ExK) (D : SD) : Prop :=
  ∀ H0 σ H, StOk X.K H0 O σ ρ H → Takes X (Wsem X.K H0 x) → ∀ E, EndsOk X.K H0 D E → Bx (∀ (first : Bool) (pins : List (Addr × Obj)) (s : Shared) (u : Value), Inv X pins σ H s → RelV (.str z) u → wpAny (model X.prog X.w) X.A (matchCases cs X.env u first) (SP X pins E) X.xe s)
theorem s1_match (h : EW X O ρ e x fun s O1 => ∃ z, s = .dat (.str z) ∧ MW X z O1 ρ cs x D) : S1 X O ρ (.Match e cs pos) x D := fun H0 σ H st tk E ok => ⟨fun pins s I => by
  refine wpAny_Match (thn ((pe_w (e := e)).run pins s σ H (fun v H1 => ∃ z O1, v = .str z ∧ StOk X.K H0 O1 σ ρ H1 ∧ MW X z O1 ρ cs x D) I (h H0 σ H st tk _ fun v H1 s1 O1 ⟨z, e1, hm⟩ st1 r1 => by
    subst e1
    cases r1
    exact ⟨z, O1, rfl, st1, hm⟩)) fun u s1 hq => ?_)
  obtain ⟨v, H1, I1, rv, z, O1, rfl, st1, hm⟩ := hq
  exact (hm H0 σ H1 st1 tk E ok).r true pins s1 u I1 rv⟩
theorem mw_nil (h : D.nx ρ O) : MW X z O ρ [] x D := fun H0 σ H st tk E ok => ⟨fun first pins s u I r => wpAny_matchCases_nil ⟨σ, H, I, ok.nx σ ρ O H h st⟩⟩
theorem mw_any (h : SW X O ρ body x D) : MW X z O ρ [⟨.MatchAs none none pos, none, body⟩] x D := fun H0 σ H st tk E ok => ⟨fun first pins s u I r => by
  refine wpAny_matchCases_cons (wpAny_matchPattern_Capture ?_)
  exact wpAny_assignInOrder_none (pss_w.run pins s σ H E I (h H0 σ H st tk E ok))⟩
/-- one pattern that is a text -/
theorem one_text {pins : List (Addr × Obj)} {σ : SV} {H : Hp} {s : Shared} {u : Value} {j} {Q : Option (List (Str × Value)) → Shared → Prop} (I : Inv X pins σ H s) (r : RelV (.str z) u)
    (h1 : z = y → ∀ s', Inv X pins σ H s' → Q (some []) s') (h2 : z ≠ y → ∀ s', Inv X pins σ H s' → Q none s') : wpAny (model X.prog X.w) X.A (matchPattern (.MatchValue (.Constant (.str y) j p) pos) X.env u) Q X.xe s := by
  refine wpAny_matchPattern_Value (thn ((pe_str (X := X) (x := y) (j := j) (pos := p)).run pins s σ H (fun v H1 => v = .str y ∧ H1 = H) I ⟨rfl, rfl⟩) fun w s1 ⟨v, H1, I1, rv, ev, eH⟩ => ?_)
  subst ev eH
  refine thn (op_eq pins s1 σ H1 (.str z) (.str y) u w (fun v H2 => v = .bl (decide (z = y)) ∧ H2 = H1) I1 r rv ⟨rfl, ?_⟩) fun w2 s2 ⟨v2, H2, I2, rv2, ev, eH⟩ => ?_
  · refine ⟨?_, rfl⟩
    by_cases e : z = y <;> simp [e]
  · subst ev eH
    cases rv2
    refine wpAny_truthy_bool ?_
    by_cases e : z = y
    · rw [decide_eq_true e]; exact h1 e s2 I2
    · rw [decide_eq_false e]; exact h2 e s2 I2
theorem mw_val {j} (h1 : z = y → SW X O ρ body x D) (h2 : z ≠ y → MW X z O ρ cs x D) : MW X z O ρ (⟨.MatchValue (.Constant (.str y) j p) pos, none, body⟩ :: cs) x D := fun H0 σ H st tk E ok => ⟨fun first pins s u I r => by
  refine wpAny_matchCases_cons (one_text I r (fun e s' I' => ?_) fun e s' I' => ?_)
  · exact wpAny_assignInOrder_none (pss_w.run pins s' σ H E I' (h1 e H0 σ H st tk E ok))
  · exact (h2 e H0 σ H st tk E ok).r false pins s' u I' r⟩
/-- the texts of some patterns -/
inductive TxtPs : List Pattern → List Str → Prop
  | nil : TxtPs [] []
  | cons {y : Str} {j} {p pos : Pos} {ps : List Pattern} {ys : List Str} : TxtPs ps ys → TxtPs (.MatchValue (.Constant (.str y) j p) pos :: ps) (y :: ys)
theorem some_text {pins : List (Addr × Obj)} {σ : SV} {H : Hp} {u : Value} {Q : Option (List (Str × Value)) → Shared → Prop} (r : RelV (.str z) u) : ∀ {ps : List Pattern} {ys : List Str} {s : Shared}, TxtPs ps ys → Inv X pins σ H s →
    (z ∈ ys → ∀ s', Inv X pins σ H s' → Q (some []) s') → (z ∉ ys → ∀ s', Inv X pins σ H s' → Q none s') → wpAny (model X.prog X.w) X.A (matchFirst ps X.env u) Q X.xe s
  | _, _, s, .nil, I, h1, h2 => wpAny_matchFirst_nil (h2 (by simp) s I)
  | _, _, s, .cons (y := y) t, I, h1, h2 => by
    refine wpAny_matchFirst_cons (one_text I r (fun e s' I' => ?_) fun e s' I' => ?_)
    · exact h1 (by simp [e]) s' I'
    · exact some_text r t I' (fun m => h1 (List.mem_cons_of_mem _ m)) fun m => h2 (by simp [e, m])
theorem namesOfAll_txt {ps : List Pattern} {ys : List Str} (t : TxtPs ps ys) : ∀ f : Str → Option (Str × Value), (∀ n, f n = none) → (namesOfAll (ps.take 1)).filterMap f = [] := fun f hf => by
  have : ∀ l : List Str, l.filterMap f = [] := fun l => by
    induction l with
    | nil => rfl
    | cons a l ih => simp [hf, ih]
  exact this _
theorem mw_or {ps : List Pattern} {ys : List Str} (t : TxtPs ps ys) (h1 : z ∈ ys → SW X O ρ body x D) (h2 : z ∉ ys → MW X z O ρ cs x D) : MW X z O ρ (⟨.MatchOr ps pos, none, body⟩ :: cs) x D := fun H0 σ H st tk E ok => ⟨fun first pins s u I r => by
  refine wpAny_matchCases_cons (wpAny_matchPattern_Or (some_text r t I (fun e s' I' => ?_) fun e s' I' => ?_))
  · show wpAny _ _ (assignInOrder ((((namesOfAll (ps.take 1)).filterMap fun n => (([] : List (Str × Value)).lookup n).map (n, ·))).map fun (n, _) => bindName X.env n) ((((namesOfAll (ps.take 1)).filterMap fun n => (([] : List (Str × Value)).lookup n).map (n, ·))).map (·.2))) _ _ _
    rw [namesOfAll_txt t (fun n => (([] : List (Str × Value)).lookup n).map (n, ·)) (fun n => rfl)]
    exact wpAny_assignInOrder_none (pss_w.run pins s' σ H E I' (h1 e H0 σ H st tk E ok))
  · exact (h2 e H0 σ H st tk E ok).r false pins s' u I' r⟩
end
end Kn
/-! KnAG: star displays; a, *b as a target. -/
namespace Kn
open PySem PySem.Spec PyProof.Rows
open L2 hiding St
section
variable {X : Cx} {O : Own} {ρ : List Slot} {x : ExK} {kl kl' : List Slot → Own → Prop} {e a b c o : Expr} {es : List Expr} {pos p : Pos} {D : SD}
theorem aw_starL (h : EW X O ρ e x fun s O1 => ∃ ds, s = .dat (.lst ds) ∧ AW X O1 ρ es x fun ss O2 => kl (ds.map .dat ++ ss) O2) (hs : starEach (.Starred e p :: es) X.env = (true, eval e X.env) :: starEach es X.env := by rfl) : AW X O ρ (.Starred e p :: es) x kl := fun H0 σ H st tk Q q => by
  refine wa_of (StX.pa_star pe_w pa_w hs) (h H0 σ H st tk _ fun v H1 s O1 ⟨ds, e1, h1⟩ st1 r1 => ?_)
  subst e1
  cases r1 with
  | lst h2 h3 =>
    refine ⟨_, _, rfl, .inr (sql_at (hid_le _ _ h2)), h1 (hid O1 H1) σ H1 st1.top (takes_base tk st1.base) _ fun vs H2 ss O2 hk st2 r2 => ?_⟩
    exact q _ H2 _ O2 hk (st2.rebase st1.base) (paired_app (pmap (fun _ _ z => SlOk.mono st2.base z) h3.paired) r2)
theorem aw_starT (h : EW X O ρ e x fun s O1 => ∃ ds, s = .dat (.tup ds) ∧ AW X O1 ρ es x fun ss O2 => kl (ds.map .dat ++ ss) O2) (hs : starEach (.Starred e p :: es) X.env = (true, eval e X.env) :: starEach es X.env := by rfl) : AW X O ρ (.Starred e p :: es) x kl := fun H0 σ H st tk Q q => by
  refine wa_of (StX.pa_star pe_w pa_w hs) (h H0 σ H st tk _ fun v H1 s O1 ⟨ds, e1, h1⟩ st1 r1 => ?_)
  subst e1
  cases r1 with
  | tup h2 h3 =>
    refine ⟨_, _, rfl, .inl (sqt_mono hid_le h2), h1 (hid O1 H1) σ H1 st1.top (takes_base tk st1.base) _ fun vs H2 ss O2 hk st2 r2 => ?_⟩
    exact q _ H2 _ O2 hk (st2.rebase st1.base) (paired_app (pmap (fun _ _ z => SlOk.mono st2.base z) h3.paired) r2)
/-- what a, *b takes of a tuple -/
theorem unpack_star {pins : List (Addr × Obj)} {σ : SV} {H : Hp} {s : Shared} {l : Addr} {v0 : V} {vs : List V} {Q : List Value → Shared → Prop} (I : Inv X pins σ H s) (hc : X.calm = true) (hq : SqT X.K H l (v0 :: vs)) (hz : vs.length ≤ 16000)
    (h : ∀ D us s', H D = none → Inv X pins σ (upd H D (.lst vs)) s' → Vals [v0, .ref D] us → Q us s') : wpAny (model X.prog X.w) X.A (unpackItems (.ref l) 2 (some 1)) Q X.xe s := by
  obtain ⟨its, rv, ht, hz1⟩ := I.tuple hq
  cases rv with
  | cons r0 rr =>
  rename_i u0 ur
  have hll : ur.length ≤ 16000 := by rw [← rr.length]; exact hz
  have hsz : (u0 :: ur).toArray.size = ur.length + 1 := by simp
  have hlt : l ≠ s.heap.objs.size := by obtain ⟨o, ho, _⟩ := ht; exact Nat.ne_of_lt (Heap.lt_size ho)
  unfold unpackItems
  refine wpAny_bind (m := notIterableAtAll _) ?_
  unfold notIterableAtAll
  refine wpAny_bind (wpAny_specialOf ht.typeIs PySem.F.slot_tuple_iter.lookup (wpAny_pure ?_))
  simp only [Bool.false_eq_true, if_false]
  refine wpAny_bind (m := holding _ (pyIter _)) (wpAny_holding (iter_tuple ht ?_))
  refine wpAny_bind (m := holding _ (draw _ _)) (wpAny_holding (draw_tuple hlt 1 0 _ _ ⟨_, Heap.get?_push_size _ rfl, rfl, rfl⟩ (ht.push _) (by rw [hsz]; omega) fun h1 hit hsb => ?_))
  have ht1 : IsTup h1 l (u0 :: ur).toArray := (ht.push _).extBut hsb.extBut hlt
  rw [Nat.zero_add] at hit
  rw [List.drop_zero]
  have e1 : (List.take 1 (u0 :: ur).toArray.toList) = [u0] := rfl
  rw [e1, if_neg (show ¬ ([u0].length < 1) from fun z => Nat.lt_irrefl _ z)]
  obtain ⟨oi, hoi, _⟩ := id hit
  obtain ⟨ol, hol, _⟩ := id ht1
  refine wpAny_bind (m := holding _ (collect _)) (wpAny_holding (PySem.W.kun_collect (s := { s with heap := h1 }) (T := "tuple_iterator") (.inr (.inr (.inr rfl))) (Walks.tuple (A := X.A.in1) (I.ok.hd hc) s.heap.objs.size l hlt (u0 :: ur).toArray)
    (fun j u st => st.1.typeIs) (k := 1) (by rw [hsz]; omega) ⟨hit, ht1⟩ (Heap.lt_size hoi) (Heap.lt_size hol) (fun h2 tk hk => ?_) (by rw [hsz, sizeLine_eq]; omega)))
  have e2 : List.drop 1 (u0 :: ur).toArray.toList = ur := rfl
  rw [e2]
  have kp : ∀ b o, s.heap.get? b = some o → h2.get? b = some o := fun b o e => by
    have nb : b ≠ s.heap.objs.size := Nat.ne_of_lt (Heap.lt_size e)
    exact hk b o nb (hsb.extBut b o nb (Heap.get?_push_of_some _ e))
  have I2 : Inv X pins σ H { s with heap := h2, toks := tk } := I.kept kp
  show wpAny _ _ (if ur.length < 0 then _ else _) _ _ _
  rw [if_neg (Nat.not_lt_zero _)]
  refine wpAny_bind (m := newList _) (wpAny_newList ?_ (by show (List.take (ur.length - 0) ur).length ≤ sizeLine; rw [List.length_take, sizeLine_eq]; omega))
  have e3 : List.take (ur.length - 0) ur = ur := by rw [Nat.sub_zero, List.take_length]
  have e4 : List.drop (ur.length - 0) ur = [] := by rw [Nat.sub_zero, List.drop_length]
  show wpAny _ _ (pure ([u0] ++ [_] ++ List.drop (ur.length - 0) ur)) _ _ _
  rw [e4]
  show wpAny _ _ (pure [u0, _]) _ _ _
  refine wpAny_pure (h _ _ _ I2.fresh ?_ (.cons r0 (.cons rfl .nil)))
  have I3 := I2.lnew (t' := tk) rr (by rw [sizeLine_eq]; omega)
  rw [← e3] at I3
  exact I3
theorem gw_star1 {tgs tgs2 : List Expr} {kk : Nat} {d : Dat} {ds : List Dat} (h : GsW X O ρ tgs2 [.dat d, .dat (.lst ds)] x kl) (hz : ds.length ≤ 16000) (hc : X.calm = true := by rfl) (hn : (assignEach tgs X.env).length = 2 := by rfl)
    (hst : (assignEach tgs X.env).findIdx? (·.1) = some 1 := by rfl) (hm : (assignEach tgs X.env).map (·.2) = (assignEach tgs2 X.env).map (·.2) := by rfl) : GW X O ρ (.Tuple tgs kk pos) (.dat (.tup (d :: ds))) x kl := fun H0 σ H v st r tk Q q => by
  cases r with
  | tup h1 h2 =>
    cases h2 with
    | cons r0 rr =>
    rename_i v0 vs0
    refine ⟨fun pins s u I ru => ?_⟩
    cases ru
    rw [assign_Tuple]
    refine wpAny_bind (wpAny_standAt ?_)
    unfold unpack
    rw [hn, hst]
    refine wpAny_bind (wpAny_holding (unpack_star I hc (sqt_mono hid_le h1) (by rw [RpA.length rr]; exact hz) fun D us s' hD I' rv => ?_))
    have sm : Same H (upd H D (.lst vs0)) := same_new hD
    have st1 := st.grow sm
    have hO := own_free st.own hD
    rw [hm]
    refine (h H0 σ _ _ st1 (.cons (SlOk.mono (hid_same sm) (s := .dat d) r0) (.cons (Rp.lst (by rw [hid_none hO, upd_same]) (RpA.mono (hid_same sm) rr)) .nil)) tk Q q).r pins s' us I' rv
end
end Kn
/-! KnAH: [e for a in b for c in d]. -/
namespace Kn
open PySem PySem.Spec PyProof.Rows
open L2 hiding St
section
variable {X : Cx} {O : Own} {ρ : List Slot} {x : ExK} {k : Slot → Own → Prop} {tg iter tg1 iter1 : Expr} {pos : Pos} {D : SD}
theorem flat_take {α β : Type} (f : α → List β) : ∀ (l : List α) (i : Nat) (a : α), l[i]? = some a → (l.take (i + 1)).flatMap f = (l.take i).flatMap f ++ f a
  | [], i, a, h => by cases h
  | b :: l, 0, a, h => by cases h; simp
  | b :: l, i + 1, a, h => by
    rw [List.take_succ_cons, List.flatMap_cons, List.take_succ_cons, List.flatMap_cons, flat_take f l i a h, List.append_assoc]
theorem map_take {α β : Type} (f : α → β) : ∀ (l : List α) (i : Nat) (a : α), l[i]? = some a → (l.take (i + 1)).map f = (l.take i).map f ++ [f a]
  | [], i, a, h => by cases h
  | b :: l, 0, a, h => by cases h; simp
  | b :: l, i + 1, a, h => by
    rw [List.take_succ_cons, List.map_cons, List.take_succ_cons, List.map_cons, map_take f l i a h, List.cons_append]
theorem flat_len {α β : Type} (f : α → List β) : ∀ (l : List α) (i : Nat), ((l.take i).flatMap f).length ≤ (l.flatMap f).length
  | [], i => by simp
  | b :: l, 0 => by simp
  | b :: l, i + 1 => by
    rw [List.take_succ_cons, List.flatMap_cons, List.flatMap_cons, List.length_append, List.length_append]
    exact Nat.add_le_add_left (flat_len f l i) _
theorem tyes {σ : SV} {H : Hp} {P : Bool → Hp → Prop} (h : P true H) : tYes σ H P := h
theorem StOk.outer {K : PySem.W.Frag} {H0 H1 H2 : Hp} {O1 O2 : Own} {σ σ' : SV} {ρ ρ' : List Slot} (st1 : StOk K H0 O1 σ ρ H1) (st2 : StOk K (hid O1 H1) O2 σ' ρ' H2) : StOk K (hid O1 H1) O2 σ ρ H2 := ⟨st2.own, st2.base, pmap (fun _ _ z => EnvOk.mono st2.base z) st1.env⟩
theorem StOk.push {K : PySem.W.Frag} {H0 H : Hp} {O : Own} {σ : SV} {ρ : List Slot} {Dd : Addr} {acc : List Slot} {xs : List V} {u : V} {s : Slot} (st : StOk K H0 (up O Dd (.lst acc)) σ ρ H) (c : H Dd = some (.lst xs)) (c2 : Paired (SlOk K (hid (up O Dd (.lst acc)) H)) xs acc) (r : SlOk K (hid (up O Dd (.lst acc)) H) u s) :
    StOk K H0 (up O Dd (.lst (acc ++ [s]))) σ ρ (upd H Dd (.lst (xs ++ [u]))) := by
  have st6 := st.write (o := .lst (xs ++ [u])) (c := .lst (acc ++ [s])) up_at ⟨_, rfl, paired_app c2 (.cons r .nil)⟩
  rw [up_up] at st6
  exact st6
theorem ew_lc2 (own : List (Str × Nat)) (vs1 : List Nat) {elt : Expr} {scope : Scope} {T T1 : Dat → List Slot → List Slot → Prop} (hN : X.N.Nodup) (tg_ok : Tgt X scope (own.map (·.2)) tg T) (tg1_ok : Tgt X scope vs1 tg1 T1) (ok : BlkOk X.N X.env.scope scope own) (hv : ∀ i ∈ vs1, i ∈ own.map (·.2))
    (h : IW X O ρ tg iter x fun ds O1 => ∃ (α : Type) (l : List α) (ι : α → Dat) (F : α → List Dat), ds = l.map ι ∧ (l.flatMap F).length < sizeLine ∧ (∀ d ∈ l, ∃ ρ1, T (ι d) (wipeS ρ (own.map (·.2))) ρ1 ∧ ∀ Dd acc, O1 Dd = none → ∀ Y, Blk X scope Y → IW Y (up O1 Dd (.lst acc)) ρ1 tg1 iter1 noX fun es O2 => O2 = up O1 Dd (.lst acc) ∧
        ∃ g : Dat → Dat, F d = es.map g ∧ ∀ e ∈ es, ∃ ρ2, T1 e (wipeS ρ1 vs1) ρ2 ∧ ∀ acc' Z, Blk X scope Z → EW Z (up O1 Dd (.lst acc')) ρ2 elt noX fun s O3 => s = .dat (g e) ∧ O3 = up O1 Dd (.lst acc')) ∧
      ∀ p, O1 p = none → k (.own p) (up O1 p (.lst ((l.flatMap F).map .dat)))) (hc : X.calm = true := by rfl) (hs : ∀ x, foldedSetIterable iter X.env x = pure x := by intro _; rfl) (hs1 : ∀ env x, foldedSetIterable iter1 env x = pure x := by intro _ _; rfl) :
    EW X O ρ (.ListComp elt [⟨tg, iter, [], 0⟩, ⟨tg1, iter1, [], 0⟩] scope pos) x k := fun H0 σ H st tk Q q => by
  obtain ⟨g, ga, gb⟩ := tgt_run tg_ok
  obtain ⟨g1, g1a, g1b⟩ := tgt_run tg1_ok
  refine we_of (pe_lc2 (wi1 := fun σ H R => ∀ Y, Blk X scope Y → Wi Y tg1 iter1 σ H R) (te := fun σ H Q => ∀ Y, Blk X scope Y → We Y elt σ H Q) (vs1 := vs1) hc hN pi_w ok hv (fun s H C cl fp => ga _ ⟨s, H, C, cl, fp, rfl⟩) (fun s H C cl fp => pts_nil)
    (fun s H C cl fp => ⟨fun pins sh σ H5 R I hq => (hq _ ⟨s, H, C, cl, fp, rfl⟩).r pins sh I⟩) (fun s H C cl fp => g1a _ ⟨s, H, C, cl, fp, rfl⟩) (fun s H C cl fp => pts_nil) (fun s H C cl fp => ⟨fun pins sh σ H5 Q I hq => (hq _ ⟨s, H, C, cl, fp, rfl⟩).r pins sh I⟩) hs hs1) ?_
  refine h H0 σ H st tk _ fun J0 H1 ds0 O1 hds st1 it => ?_
  obtain ⟨α, ds, ι, F, rfl, hz, hb, hk⟩ := hds
  intro Dd hD
  have hOD : O1 Dd = none := own_free st1.own hD
  have gS : Same (hid O1 H1) (hid (up O1 Dd (.lst [])) (upd H1 Dd (.lst []))) := fun b o hb => by
    obtain ⟨z1, z2⟩ := of_hid hb
    have nb := ne_of_none z2 hD
    rw [hid_none (by rw [up_ne nb]; exact z1), upd_ne nb]
    exact z2
  refine ⟨fun i m H' => i + m = ds.length ∧ StOk X.K (hid O1 H1) (up O1 Dd (.lst (((ds.take i).flatMap F).map .dat))) σ ρ H', ⟨ds.length, by omega, ⟨?_, gS, pmap (fun _ _ z => EnvOk.mono gS z) st1.env⟩⟩, fun i m H' hW => ?_⟩
  · exact (st1.alloc (o := .lst []) (c := .lst []) hD ⟨[], rfl, .nil⟩).own
  obtain ⟨em, st'⟩ := hW
  obtain ⟨i1, i2⟩ := it _ H' st'.own st'.base i
  rw [List.getElem?_map] at i1 i2
  cases hd : ds[i]? with
  | none =>
    rw [hd] at i2
    have hi : ds.length ≤ i := List.getElem?_eq_none_iff.mp hd
    have e1 : ds.take i = ds := List.take_of_length_le hi
    rw [e1] at st'
    exact .inl ⟨i2 rfl, q _ H' _ _ (hk Dd hOD) (st'.rebase st1.base) rfl⟩
  | some d =>
    have hi : i < ds.length := (List.getElem?_eq_some_iff.mp hd).1
    rw [hd] at i1
    obtain ⟨go, g2⟩ := i1 (ι d) rfl
    obtain ⟨ρ1, ht, hb1⟩ := hb d (List.mem_of_getElem? hd)
    refine .inr ⟨go, fun H'' => StOk X.K (hid O1 H1) (up O1 Dd (.lst (((ds.take (i + 1)).flatMap F).map .dat))) σ ρ H'', fun H'' hN => ⟨m - 1, by omega, by omega, hN⟩, fun v H2 hy => ?_⟩
    obtain ⟨s1, r1⟩ := g2 v H2 hy
    have st2 := st'.grow s1
    refine gb (σ := σ) (st2.wipe (own.map (·.2))) r1 ht fun σ2 st3 hw => ⟨hw, ?_⟩
    refine tyes ?_
    dsimp only
    rw [if_pos rfl]
    intro Y hY
    obtain ⟨sY, HY, CY, clY, fpY, eY⟩ := id hY
    have eK : Y.K = X.K := by rw [eY]
    refine hb1 Dd _ hOD Y hY (hid O1 H1) σ2 H2 (by rw [eK]; exact st3) takes_no _ fun J1 H4 es O2 hes st4 it1 => ?_
    obtain ⟨rfl, gg, eF, he⟩ := hes
    rw [eK] at st4 it1
    have lz : ((ds.take i).flatMap F).length + es.length < sizeLine := by
      have z := flat_len F ds (i + 1)
      rw [flat_take F ds i d hd, List.length_append, eF, List.length_map] at z
      omega
    refine ⟨fun j n H5 => j + n = es.length ∧ StOk X.K (hid (up O1 Dd (.lst (((ds.take i).flatMap F).map .dat))) H4) (up O1 Dd (.lst (((ds.take i).flatMap F ++ (es.take j).map gg).map .dat))) σ2 ρ1 H5, ⟨es.length, by omega, by
      have z : (ds.take i).flatMap F ++ (es.take 0).map gg = (ds.take i).flatMap F := by simp
      rw [z]
      exact st4.top⟩, fun j n H5 hW1 => ?_⟩
    obtain ⟨en, st5⟩ := hW1
    obtain ⟨k1, k2⟩ := it1 _ H5 st5.own st5.base j
    cases he1 : es[j]? with
    | none =>
      have hj : es.length ≤ j := List.getElem?_eq_none_iff.mp he1
      refine .inl ⟨k2 he1, ?_⟩
      rw [List.take_of_length_le hj, ← eF, ← flat_take F ds i d hd] at st5
      exact st1.outer (st5.rebase st4.base)
    | some e =>
      have hj : j < es.length := (List.getElem?_eq_some_iff.mp he1).1
      obtain ⟨go1, g3⟩ := k1 e he1
      obtain ⟨ρ2, ht1, hb2⟩ := he e (List.mem_of_getElem? he1)
      refine .inr ⟨go1, fun H'' => StOk X.K (hid (up O1 Dd (.lst (((ds.take i).flatMap F).map .dat))) H4) (up O1 Dd (.lst (((ds.take i).flatMap F ++ (es.take (j + 1)).map gg).map .dat))) σ2 ρ1 H'', fun H'' hN => ⟨n - 1, by omega, by omega, hN⟩, fun v1 H6 hy1 => ?_⟩
      obtain ⟨s2, r2⟩ := g3 v1 H6 hy1
      have st6 := st5.grow s2
      refine g1b (σ := σ2) (st6.wipe vs1) r2 ht1 fun σ3 st7 hw1 => ⟨hw1, ?_⟩
      refine tyes ?_
      dsimp only
      rw [if_pos rfl]
      intro Z hZ
      obtain ⟨sZ, HZ, CZ, clZ, fpZ, eZ⟩ := id hZ
      have eKZ : Z.K = X.K := by rw [eZ]
      refine hb2 _ Z hZ _ σ3 H6 (by rw [eKZ]; exact st7) takes_no _ fun u H7 s7 O7 h7 st8 r8 => ?_
      obtain ⟨rfl, rfl⟩ := h7
      rw [eKZ] at st8 r8
      obtain ⟨o5, c1, xs5, rfl, c2⟩ := st8.own.cell Dd _ up_at
      have lx := paired_len c2
      rw [List.length_map, List.length_append, List.length_map, List.length_take] at lx
      refine ⟨xs5, c1, by omega, ?_⟩
      have st9 := st8.push c1 c2 r8
      have e9 : ((ds.take i).flatMap F ++ (es.take (j + 1)).map gg).map Slot.dat = ((ds.take i).flatMap F ++ (es.take j).map gg).map Slot.dat ++ [.dat (gg e)] := by
        rw [map_take gg es j e he1]; simp
      rw [← e9] at st9
      exact st4.outer (st9.rebase (Same.refl _))
end
end Kn
/-! KnAI: a list that may still change is walked (and stays); in it; frozen in a field. -/
namespace Kn
open PySem PySem.Spec PyProof.Rows
open L2 hiding St
def ItO (K : PySem.W.Frag) (J : It) (p : Addr) (ds fds : List Dat) : Prop := ∀ O H, OwnOk K O H → O p = some (.lst (ds.map .dat)) → ∀ i,
  (∀ d, fds[i]? = some d → J.go i H ∧ ∀ v H', J.yld i H v H' → Same H H' ∧ Rp K (hid O H') v d) ∧ (fds[i]? = none → J.stop i H)
theorem own_list {K : PySem.W.Frag} {O : Own} {H : Hp} {p : Addr} {ds : List Dat} (ok : OwnOk K O H) (hp : O p = some (.lst (ds.map .dat))) : ∃ xs, H p = some (.lst xs) ∧ RpA K (hid O H) xs ds := by
  obtain ⟨o, h1, xs, rfl, h2⟩ := ok.cell p _ hp
  exact ⟨xs, h1, RpA.of_paired h2⟩
theorem ito_list {K : PySem.W.Frag} {p : Addr} {ds : List Dat} : ItO K (Itl K p) p ds ds := fun O H ok hp i => by
  obtain ⟨xs, h1, r⟩ := own_list ok hp
  have hS : SqL K H p xs := sql_at h1
  refine ⟨fun d hd => ?_, fun hn => ⟨xs, hS, ?_⟩⟩
  · obtain ⟨v, e1, e2⟩ := r.get hd
    refine ⟨⟨xs, v, hS, e1⟩, fun v' H' hy => ?_⟩
    obtain ⟨rfl, hv⟩ := hy
    obtain rfl : v = v' := Option.some.inj (e1.symm.trans (hv xs hS))
    exact ⟨Same.refl _, e2⟩
  · rw [r.length]; exact List.getElem?_eq_none_iff.mp hn
theorem ito_rev {K : PySem.W.Frag} {p : Addr} {ds : List Dat} : ItO K (Itv K p ds.length) p ds ds.reverse := fun O H ok hp i => by
  obtain ⟨xs, h1, r⟩ := own_list ok hp
  have hS : SqL K H p xs := sql_at h1
  have hl := r.length
  refine ⟨fun d hd => ?_, fun hn => ?_⟩
  · have hi : i < ds.reverse.length := (List.getElem?_eq_some_iff.mp hd).1
    rw [List.length_reverse] at hi
    rw [List.getElem?_reverse hi] at hd
    obtain ⟨v, e1, e2⟩ := r.get hd
    refine ⟨⟨by omega, xs, v, hS, e1⟩, fun v' H' hy => ?_⟩
    obtain ⟨rfl, hv⟩ := hy
    obtain rfl : v = v' := Option.some.inj (e1.symm.trans (hv xs hS))
    exact ⟨Same.refl _, e2⟩
  · have h1 := List.getElem?_eq_none_iff.mp hn
    rw [List.length_reverse] at h1
    exact h1
section
variable {X : Cx} {O : Own} {ρ : List Slot} {x : ExK} {k : Slot → Own → Prop} {tg iter e : Expr} {pos p : Pos} {D : SD} {sts : List Stmt}
def IWO (X : Cx) (O : Own) (ρ : List Slot) (tg iter : Expr) (x : ExK) (k : Addr → List Dat → List Dat → Own → Prop) : Prop :=
  ∀ H0 σ H, StOk X.K H0 O σ ρ H → Takes X (Wsem X.K H0 x) → ∀ R : It → Hp → Prop, (∀ J H' p ds fds O', k p ds fds O' → StOk X.K H0 O' σ ρ H' → ItO X.K J p ds fds → R J H') → Wi X tg iter σ H R
theorem iwo_list {ko : Addr → List Dat → List Dat → Own → Prop} (h : EW X O ρ e x fun s O' => ∃ p ds, s = .own p ∧ O' p = some (.lst (ds.map .dat)) ∧ ko p ds ds O') : IWO X O ρ tg e x ko := fun H0 σ H st tk R q =>
  wi_of (pi_list pe_w) (h H0 σ H st tk _ fun v H' s O' ⟨p, ds, e1, hp, h1⟩ st' r => by
    subst e1
    cases r
    obtain ⟨xs, h2, h3⟩ := own_list st'.own hp
    exact ⟨_, rfl, ⟨_, sql_at h2⟩, q _ H' p ds ds O' h1 st' ito_list⟩)
theorem iwo_rev {ko : Addr → List Dat → List Dat → Own → Prop} (hm : X.mg "reversed" = none) (h : EW X O ρ e x fun s O' => ∃ p ds, s = .own p ∧ O' p = some (.lst (ds.map .dat)) ∧ ko p ds ds.reverse O') (hg : Gl X "reversed" := by rfl) (hs : starEach [e] X.env = [(false, eval e X.env)] := by rfl) :
    IWO X O ρ tg (.Call (.Name "reversed" p) [e] [] pos) x ko := fun H0 σ H st tk R q =>
  wi_of (pi_reversed hg hm pa_w hs) ((aw_cons (kl := fun ss O' => ∃ p ds, ss = [.own p] ∧ O' p = some (.lst (ds.map .dat)) ∧ ko p ds ds.reverse O') (h.mono fun s O1 ⟨p, ds, e1, hp, h1⟩ => aw_nil ⟨p, ds, by rw [e1], hp, h1⟩) hs) H0 σ H st tk _ fun vs H' ss O' ⟨p, ds, e1, hp, h1⟩ st' r => by
    subst e1
    cases r with
    | cons r1 r2 =>
      cases r2
      cases r1
      obtain ⟨xs, h2, h3⟩ := own_list st'.own hp
      refine ⟨_, xs, rfl, sql_at h2, ?_⟩
      have z := q (Itv X.K p ds.length) H' p ds ds.reverse O' h1 st' ito_rev
      rw [← h3.length] at z
      exact z)
theorem s1_forO {body : List Stmt} (hpo : PassesOwn (model X.prog X.w) X.A X.env X.xe)
    (h : IWO X O ρ tg iter x fun p es ds O1 => ∃ J : Nat → List Slot → Own → Prop, J 0 ρ O1 ∧ (∀ i ρ' O', J i ρ' O' → O' p = some (.lst (es.map .dat))) ∧
      (∀ i d ρ' O', J i ρ' O' → ds[i]? = some d → GW X O' ρ' tg (.dat d) x fun ρ2 O2 => SW X O2 ρ2 body x { nx := J (i + 1), rt := D.rt, bk := D.nx, ct := J (i + 1) }) ∧
      ∀ ρ' O', J ds.length ρ' O' → D.nx ρ' O')
    (hc : X.calm = true := by rfl) (hs : ∀ x, foldedSetIterable iter X.env x = pure x := by intro _; rfl) : S1 X O ρ (.For tg iter body [] pos) x D := fun H0 σ H st tk E ok => by
  refine ws_of (ps_for hpo hc pi_w pg_w pss_w hs) (h H0 σ H st tk _ fun J0 H1 p es ds O1 ⟨J, j0, jo, js, je⟩ st1 it => ?_)
  have tkB := takes_base tk st1.base
  have okB := ok.base st1.base
  refine ⟨fun i m σ' H' => i + m = ds.length ∧ ∃ ρ' O', J i ρ' O' ∧ StOk X.K (hid O1 H1) O' σ' ρ' H', ⟨ds.length, by omega, ρ, O1, j0, st1.top⟩, fun i m σ' H' hW => ?_⟩
  obtain ⟨em, ρ', O', hj, st'⟩ := hW
  obtain ⟨i1, i2⟩ := it O' H' st'.own (jo i ρ' O' hj) i
  cases hd : ds[i]? with
  | none =>
    have hi : ds.length ≤ i := List.getElem?_eq_none_iff.mp hd
    obtain rfl : i = ds.length := by omega
    exact .inl ⟨i2 hd, okB.nx σ' ρ' O' H' (je ρ' O' hj) st'⟩
  | some d =>
    have hi : i < ds.length := (List.getElem?_eq_some_iff.mp hd).1
    obtain ⟨g1, g2⟩ := i1 d hd
    refine .inr ⟨g1, fun σ'' H'' => ∃ ρ'' O'', J (i + 1) ρ'' O'' ∧ StOk X.K (hid O1 H1) O'' σ'' ρ'' H'', fun σ'' H'' hN => ⟨m - 1, by omega, by omega, hN⟩, fun v H2 hy => ?_⟩
    obtain ⟨s1, r1⟩ := g2 v H2 hy
    refine js i d ρ' O' hj hd (hid O1 H1) σ' H2 v (st'.grow s1) r1 tkB _ fun σ3 H3 ρ3 O3 h3 st3 => ?_
    exact h3 (hid O1 H1) σ3 H3 st3 tkB _ ⟨fun σ4 ρ4 O4 H4 q s => ⟨ρ4, O4, q, s⟩, okB.rt, okB.nx, fun σ4 ρ4 O4 H4 q s => ⟨ρ4, O4, q, s⟩⟩
/-! in, a list that may still change too -/
theorem ob_inA {s1 s2 : Slot} {d : Dat} {ds : List Dat} (hr : Room 0 X.A) (a1 : asD O s1 d) (a2 : asD O s2 (.lst ds)) (p1 : plain (.lst ds) = true) (p2 : plain d = true) (h1 : SeqAt.shaped (toPy (.lst ds)) = true) (h2 : SeqAt.shaped (toPy d) = true) (h : k (.dat (.bl ((toPys ds).any fun z => PyData.eqv z (toPy d)))) O) :
    OpB X (compareOp .In) s1 s2 O k := ⟨_, op_inD (by have := hr.un; omega), fun H0 σ ρ H v1 v2 st r1 r2 Q q => ⟨toPy d, toPys ds, Rp.dp p2 (asD_rp a1 st r1), Rp.dp p1 (asD_rp a2 st r2), h2, h1, q _ H _ O h st (.bl _)⟩⟩
/-! a list held by a field of a cell is frozen there -/
theorem StOk.slotfrz {K : PySem.W.Frag} {H0 H : Hp} {σ : SV} {q C dx p : Addr} {i : Nat} {ss : List (Option Slot)} {ds : List Dat} (st : StOk K H0 O σ ρ H) (hq : O q = some (.slt C dx ss)) (hi : ss[i]? = some (some (.own p))) (hp : O p = some (.lst (ds.map .dat))) :
    StOk K H0 (up (dn O p) q (.slt C dx (ss.set i (some (.dat (.lst ds)))))) σ ρ H := by
  have ne : q ≠ p := fun e => by rw [e, hp] at hq; cases hq
  obtain ⟨o, h1, h2, h3, vs, rfl, h4⟩ := st.own.cell q _ hq
  have g : Same (hid O H) (hid (up (dn O p) q (.slt C dx (ss.set i (some (.dat (.lst ds)))))) H) := fun b u hb => by
    obtain ⟨z1, z2⟩ := of_hid hb
    have nq : b ≠ q := fun e => by rw [e, hq] at z1; cases z1
    have np : b ≠ p := fun e => by rw [e, hp] at z1; cases z1
    rw [hid_none (by rw [up_ne nq, dn_ne np]; exact z1)]
    exact z2
  have r0 := st.own.lst hp
  have g2 : Same (hid (dn O p) H) (hid (dn O p) H) := Same.refl _
  obtain ⟨xs, hx, hr⟩ := own_list st.own hp
  have rl : Rp K (hid (up (dn O p) q (.slt C dx (ss.set i (some (.dat (.lst ds)))))) H) (.ref p) (.lst ds) := .lst (by rw [hid_none (by rw [up_ne ne.symm]; exact dn_at)]; exact hx) (RpA.mono g hr)
  refine ⟨⟨fun b c hb => ?_⟩, st.base.trans g, pmap (fun _ _ z => EnvOk.mono g z) st.env⟩
  by_cases e : b = q
  · subst e
    rw [up_at] at hb; cases hb
    refine ⟨_, h1, g _ _ h2, h3, vs, rfl, ?_⟩
    have h5 := pmap (fun _ _ z => OpOk.mono g z) h4
    obtain ⟨ov, w1, w2⟩ := paired_get h5 hi
    cases ov with
    | none => exact w2.elim
    | some v =>
      obtain rfl : v = .ref p := w2
      have z := paired_set (F := OpOk K (hid (up (dn O p) b (.slt C dx (ss.set i (some (.dat (.lst ds)))))) H)) (x := some (.ref p)) (y := some (.dat (.lst ds))) rl i h5
      have e1 : vs.set i (some (.ref p)) = vs := by
        apply List.ext_getElem?
        intro j
        by_cases hj : i = j
        · subst hj
          rw [List.getElem?_set_self (List.getElem?_eq_some_iff.mp w1).1, w1]
        · rw [List.getElem?_set_ne hj]
      rw [e1] at z
      exact z
  · rw [up_ne e] at hb
    by_cases e2 : b = p
    · subst e2; rw [dn_at] at hb; cases hb
    · rw [dn_ne e2] at hb
      obtain ⟨o, w1, w2⟩ := st.own.cell b c hb
      exact ⟨o, w1, ClOk.mono g w2⟩
theorem sw_slotfrz {q C dx p : Addr} (i : Nat) {ss : List (Option Slot)} {ds : List Dat} (hq : O q = some (.slt C dx ss)) (hi : ss[i]? = some (some (.own p))) (hp : O p = some (.lst (ds.map .dat)))
    (h : SW X (up (dn O p) q (.slt C dx (ss.set i (some (.dat (.lst ds)))))) ρ sts x D) : SW X O ρ sts x D := fun H0 σ H st tk E ok => h H0 σ H (st.slotfrz hq hi hp) tk E ok
end
end Kn
/-! KnAJ: what the written part holds of classes with slots, and of a class's constants; None among texts. -/
namespace Kn
open PySem PySem.Spec PyProof.Rows
open L2 hiding St
/-- an own class with slots by its name -/
structure SlsIn (K : PySem.W.Frag) (nm : Str) (C : Addr) : Prop where
  at_ : PySem.W.nsIn K mainGlobals nm = some (some (.ref C))
  sc : SlX.SCls K C
  mks : PySem.W.makesIn K C = true
  kp : PySem.W.keepIn K (.ref C) = true
def SlotIn (K : PySem.W.Frag) (C : Addr) (f : Str) (i : Nat) : Prop := ∃ p, SlX.Slot1 K C f p i
theorem slot_in {K : PySem.W.Frag} {C p : Addr} {f : Str} {i : Nat} (h1 : PySem.W.findIn K (.ref C) f = some (some (.ref p))) (h2 : PySem.W.specialIn K (.ref p) "__get__" = some (some (.builtin "member_descriptor.__get__"))) (h3 : PySem.W.takesIn K (.ref p) = some true)
    (h4 : PySem.W.typeIn K (.ref p) = some (.type "member_descriptor")) (h5 : PySem.W.slotIn K p C = some i) (h6 : i < 1000) : SlotIn K C f i := ⟨p, h1, h2, h3, h4, h5, h6⟩
/-- a tuple of texts that a class holds -/
def ConsIn (K : PySem.W.Frag) (C : Addr) (f : Str) (zs : List Str) : Prop := ∃ (a : Addr) (od : Option Addr) (its : Array Value) (n : Nat) (sl : Array (Option Value)), PySem.W.findIn K (.ref C) f = some (some (.ref a)) ∧ PySem.W.specialIn K (.ref a) "__get__" = some none ∧
  K.lookup a = some ⟨.type "tuple", od, .seq its n, sl⟩ ∧ its.size ≤ sizeLine ∧ strsOf its.toList = some zs ∧ PySem.W.copiedNames.contains f = false
theorem cons_in {K : PySem.W.Frag} {C : Addr} {f : Str} {zs : List Str} {a : Addr} {od : Option Addr} {its : Array Value} {n : Nat} {sl : Array (Option Value)} (h : PySem.W.findIn K (.ref C) f = some (some (.ref a))) (g : PySem.W.specialIn K (.ref a) "__get__" = some none)
    (l : K.lookup a = some ⟨.type "tuple", od, .seq its n, sl⟩) (z : its.size ≤ sizeLine) (e : strsOf its.toList = some zs) (c : PySem.W.copiedNames.contains f = false) : ConsIn K C f zs := ⟨a, od, its, n, sl, h, g, l, z, e, c⟩
theorem ConsIn.con {K : PySem.W.Frag} {C : Addr} {f : Str} {zs : List Str} (h : ConsIn K C f zs) : ConD K C f (.tup (zs.map .str)) := by
  obtain ⟨a, od, its, n, sl, h1, h2, h3, h4, h5, h6⟩ := h
  exact ⟨.ref a, .ref a, ⟨h1, rfl, h2, h6⟩, fun G => .tup (xs := zs.map V.str) (.inr ⟨_, its, n, h3, rfl, rfl, h4, vals_strsOf h5⟩) (strs_rp zs)⟩
section
variable {P : Program} {w : World} {K : PySem.W.Frag} {mg : Str → Option Value} {base : Heap} {k : Nat} {ps : List Str} {S : SpecT} {nm qual : Str} {C : Addr} {st : Stmt}
theorem mkc_ofS (I : SlsIn K nm C) (D : MethIn K C "__init__" qual st) (b : MBindsAs "__init__" qual st ps) (h : ∀ f fd, L2.Fun K "__init__" qual st f fd → Fn P w K mg base false k f fd ps S) : MkC P w K mg base k C S [] := by
  obtain ⟨f, fd, hm, F⟩ := D.ex
  exact ⟨f, fd, ps, [], [], ⟨I.mks, hm.at_, hm.fn, I.kp⟩, h f fd F, mbinds F b, .nil, fun _ => .nil⟩
end
/-! a word or None -/
def wdD : Option Str → Dat
  | none => .non
  | some z => .str z
def wdV : Option Str → V
  | none => .non
  | some z => .str z
theorem wd_rp {K : PySem.W.Frag} {G : Hp} {w : Option Str} {v : V} (h : Rp K G v (wdD w)) : v = wdV w := by
  cases w <;> (cases h; rfl)
section
variable {X : Cx} {O : Own} {k : Slot → Own → Prop}
theorem ob_eqW {w : Option Str} {z : Str} (h : k (.dat (.bl (decide (w = some z)))) O) : OpB X (compareOp .Eq) (.dat (wdD w)) (.dat (.str z)) O k := ⟨_, op_eq, fun H0 σ ρ H v1 v2 st r1 r2 Q q => by
  obtain rfl := wd_rp r1
  cases r2
  cases w with
  | none => exact ⟨rfl, q _ H _ O h st (by rw [show decide (wdV none = V.str z) = decide ((none : Option Str) = some z) by simp [wdV]]; exact .bl _)⟩
  | some y => exact ⟨rfl, q _ H _ O h st (by rw [show decide (wdV (some y) = V.str z) = decide (some y = some z) by simp [wdV]]; exact .bl _)⟩⟩
def inW (w : Option Str) (ws : List Str) : Bool := match w with
  | none => false
  | some z => ws.any (· == z)
theorem inV_wd {w : Option Str} {ws : List Str} : inV (wdV w) (ws.map V.str) = inW w ws := by
  cases w with
  | none =>
    induction ws with
    | nil => rfl
    | cons y ws ih =>
      show (eqV (.str y) .non || inV .non (ws.map V.str)) = false
      rw [show inV .non (ws.map V.str) = false from ih]; rfl
  | some z => exact inV_strs
theorem flat_wd {w : Option Str} : flatV (wdV w) = true := by cases w <;> rfl
theorem ob_inW {w : Option Str} {ws : List Str} (h : k (.dat (.bl (inW w ws))) O) : OpB X (compareOp .In) (.dat (wdD w)) (.dat (.tup (ws.map .str))) O k := ⟨_, op_in_seq, fun H0 σ ρ H v1 v2 st r1 r2 Q q => by
  obtain rfl := wd_rp r1
  cases r2 with
  | tup h1 h2 =>
    have e := rpa_strs h2
    subst e
    refine ⟨_, _, rfl, .inr (sqt_mono hid_le h1), flat_wd, all_flat ws, q _ H _ O h st ?_⟩
    rw [← inV_wd (w := w) (ws := ws)]; exact .bl _⟩
theorem ob_niW {w : Option Str} {ws : List Str} (h : k (.dat (.bl (!inW w ws))) O) : OpB X (compareOp .NotIn) (.dat (wdD w)) (.dat (.tup (ws.map .str))) O k := ⟨_, op_notIn_seq, fun H0 σ ρ H v1 v2 st r1 r2 Q q => by
  obtain rfl := wd_rp r1
  cases r2 with
  | tup h1 h2 =>
    have e := rpa_strs h2
    subst e
    refine ⟨_, _, rfl, .inr (sqt_mono hid_le h1), flat_wd, all_flat ws, q _ H _ O h st ?_⟩
    rw [← inV_wd (w := w) (ws := ws)]; exact .bl _⟩
end
end Kn
/-! KnAK: list.extend by a tuple. -/
namespace Kn
open PySem PySem.Spec PyProof.Rows
open L2 hiding St
section
variable {X : Cx} {O : Own} {k : Slot → Own → Prop}
def rExtT (K : PySem.W.Frag) : V → List V → Hp → VK → Prop := fun x vs H Q => ∃ (l b : Addr) (xs zs : List V), x = .ref l ∧ vs = [.ref b] ∧ H l = some (.lst xs) ∧ SqT K H b zs ∧ xs.length + zs.length ≤ sizeLine ∧ Q .non (upd H l (.lst (xs ++ zs)))
theorem mt_extendT : MtR X "list.extend" (rExtT X.K) := by
  intro pins s σ H x vs v us Q I rx rv h
  obtain ⟨l, b, xs, zs, rfl, rfl, hH, hB, hz, q⟩ := h
  cases rx
  obtain ⟨u, rfl, ru⟩ := rv.one
  cases ru
  obtain ⟨z, its, n, r, hl, e⟩ := I.lstM hH
  obtain ⟨its2, r2, ht, hz2⟩ := I.tuple hB
  obtain ⟨ob, hob, hc, n2, hd⟩ := id ht
  have hT : s.TypeIs (.ref b) "tuple" := ⟨ob, hob, hc⟩
  have hl2 := r2.length
  refine wpAny_call_entry PySem.F.slot_list_extend ⟨_, e, rfl⟩ PySem.F.entry_list_extend ?_ (PySem.F.args_list_extend_2 _ _)
  show wpAny _ _ (Builtin.List.listExtendWith (.ref l) (.ref b) .none) _ _ _
  unfold Builtin.List.listExtendWith
  refine wpAny_bind (wpAny_typeOf hT ?_)
  rw [if_pos (by simp)]
  refine wpAny_bind (wpAny_listItems hob hd ?_)
  refine wpAny_bind (wpAny_listItems e rfl ?_)
  have hlong : ¬ (!its.toArray.isEmpty && Builtin.List.listTooLong (its.toArray.size + its2.toArray.size)) = true := by
    rw [notLongL (by rw [List.size_toArray, List.size_toArray]; omega), Bool.and_false]; exact Bool.false_ne_true
  rw [if_neg hlong]
  refine wpAny_bind (PyProof.Rows.listUpdate_at e rfl ?_)
  exact wpAny_pure ⟨_, rfl, .non, _, I.lset (its' := its ++ its2) (t' := s.toks) hH e (by simp) (r.append r2) (by rw [List.length_append]; exact hz), rfl, q⟩
/-- .extend by a tuple -/
theorem mb_extendT {p : Addr} {ss : List Slot} {ds : List Dat} (hp : O p = some (.lst ss)) (hl : ss.length + ds.length ≤ sizeLine) (h : k (.dat .non) (up O p (.lst (ss ++ ds.map .dat)))) : MtB X "list.extend" (.own p) [.dat (.tup ds)] O k := ⟨_, mt_extendT, fun H0 σ ρ H v vs st r pr Q q => by
  obtain rfl : v = .ref p := r
  cases pr with
  | cons r1 pr =>
    cases pr
    obtain ⟨o, h1, xs, rfl, h2⟩ := st.own.cell p _ hp
    cases r1 with
    | tup h3 h4 => exact ⟨p, _, xs, _, rfl, rfl, h1, sqt_mono hid_le h3, by rw [paired_len h2, h4.length]; exact hl, q _ _ _ _ h (st.write hp ⟨_, rfl, paired_app h2 h4.paired⟩) .non⟩⟩
end
end Kn
/-! KnAL: a list turned round by a slice; pieces of lists of texts. -/
namespace Kn
open PySem PySem.Spec PyProof.Rows
open L2 hiding St
theorem RpA.reverse {K : PySem.W.Frag} {G : Hp} : ∀ {vs : List V} {ds : List Dat}, RpA K G vs ds → RpA K G vs.reverse ds.reverse
  | _, _, .nil => .nil
  | _, _, .cons h t => by
    rw [List.reverse_cons, List.reverse_cons]
    exact RpA.snoc h (RpA.reverse t)
section
variable {X : Cx} {O : Own} {ρ : List Slot} {x : ExK} {k : Slot → Own → Prop} {e : Expr} {pos : Pos}
theorem ew_rev {j : Nat} {p1 p2 p3 : Pos} (h : EW X O ρ e x fun s O1 => ∃ ds, s = .dat (.lst ds) ∧ k (.dat (.lst ds.reverse)) O1) : EW X O ρ (.Subscript e (.Slice none none (some (.UnaryOp .USub (.Constant (.int 1) j p1) p2)) p3) pos) x k := fun H0 σ H st tk Q q =>
  we_of (pe_revL pe_w) (h H0 σ H st tk _ fun v H1 s O1 ⟨ds, e1, h1⟩ st1 r1 => by
    subst e1
    cases r1 with
    | lst h2 h3 => exact ⟨_, _, rfl, sql_at (hid_le _ _ h2), fun p hp => q _ _ _ O1 h1 (st1.grow (same_new hp)) (.lst (by rw [hid_none (own_free st1.own hp), upd_same]) (RpA.mono (hid_same (same_new hp)) h3.reverse))⟩)
theorem s1_par3 (i j l : Nat) {D : SD} {a b c : Expr} {nx ny nz : Str} {px py pz pt : Pos} {kt1 k2 pt2} (h : AW X O ρ [a, b, c] x fun ss O' => ∃ s1 s2 s3, ss = [s1, s2, s3] ∧ D.nx (((ρ.set i s1).set j s2).set l s3) O') (hN : X.N.Nodup) (hc : X.calm = true := by rfl) (hi : X.N[i]? = some nx := by rfl) (hj : X.N[j]? = some ny := by rfl) (hl : X.N[l]? = some nz := by rfl)
    (hij : i ≠ j := by decide) (hil : i ≠ l := by decide) (hjl : j ≠ l := by decide)
    (hx : X.env.scope.names.lookup nx = some .local := by rfl) (hy : X.env.scope.names.lookup ny = some .local := by rfl) (hz : X.env.scope.names.lookup nz = some .local := by rfl)
    (hw : swappedStores [.Tuple [.Name nx px, .Name ny py, .Name nz pz] kt1 pt] (.Tuple [a, b, c] k2 pt2) X.env = pure (some [nx, ny, nz]) := by rfl)
    (hs : swapsWithSole [.Tuple [.Name nx px, .Name ny py, .Name nz pz] kt1 pt] (.Tuple [a, b, c] k2 pt2) pos.line X.env = pure false := by rfl) :
    S1 X O ρ (.Assign [.Tuple [.Name nx px, .Name ny py, .Name nz pz] kt1 pt] (.Tuple [a, b, c] k2 pt2) pos) x D := fun H0 σ H st tk E ok =>
  ws_of (ps_par3 hc hN hi hj hl hij hil hjl hx hy hz pa_w hw hs) (h H0 σ H st tk _ fun vs H' ss O' ⟨s1, s2, s3, e1, q⟩ st' r => by
    subst e1
    cases r with
    | cons r1 r =>
      cases r with
      | cons r2 r =>
        cases r with
        | cons r3 r =>
          cases r
          exact ⟨_, _, _, rfl, ok.nx _ _ O' H' q (((st'.set r1).set r2).set r3)⟩)
end
end Kn
/-! KnAM: sets of texts: put in, made of a list or a tuple, len. -/
namespace Kn
open PySem PySem.Spec PyProof.Rows
open L2 hiding St
/-- the unlike ones of some texts, as they come -/
def stS (acc : List Str) (v : Str) : List Str := if acc.any (· == v) = true then acc else acc ++ [v]
def ddS (xs : List Str) : List Str := xs.foldl stS []
theorem stS_any (acc : List Str) (v y : Str) : (stS acc v).any (· == y) = (acc.any (· == y) || decide (y = v)) := by
  unfold stS
  by_cases h : acc.any (· == v) = true
  · rw [if_pos h]
    by_cases e : y = v
    · subst e; rw [h]; rfl
    · rw [decide_eq_false e, Bool.or_false]
  · rw [if_neg h, List.any_append]
    congr 1
    show ((v == y) || false) = _
    rw [Bool.or_false]
    by_cases e : y = v
    · subst e; simp
    · rw [decide_eq_false e]
      exact beq_eq_false_iff_ne.mpr fun q => e q.symm
theorem stS_len (acc : List Str) (v : Str) : (stS acc v).length = if acc.any (· == v) = true then acc.length else acc.length + 1 := by
  unfold stS
  split <;> simp
theorem ddS_succ {xs : List Str} {i : Nat} (h : i < xs.length) : ddS (xs.take (i + 1)) = stS (ddS (xs.take i)) (xs.getD i Str.empty) := by
  unfold ddS
  have e : xs.take (i + 1) = xs.take i ++ [xs.getD i Str.empty] := by
    rw [List.take_add_one, List.getElem?_eq_getElem h]
    simp [List.getD_eq_getElem?_getD, List.getElem?_eq_getElem h]
  rw [e, List.foldl_append]; rfl
theorem ddS_le : ∀ (xs acc : List Str), (xs.foldl stS acc).length ≤ acc.length + xs.length
  | [], acc => Nat.le_refl _
  | x :: xs, acc => by
    have h1 := ddS_le xs (stS acc x)
    have h2 := stS_len acc x
    have h3 : (stS acc x).length ≤ acc.length + 1 := by rw [h2]; split <;> omega
    rw [List.foldl_cons, List.length_cons]; omega
theorem stS_mem {acc : List Str} {v y : Str} : y ∈ stS acc v ↔ y = v ∨ y ∈ acc := by
  unfold stS
  split
  · rename_i h
    obtain ⟨z, hz, e⟩ := List.any_eq_true.mp h
    have e : z = v := eq_of_beq e
    exact ⟨.inr, fun q => q.elim (fun q => q ▸ e ▸ hz) id⟩
  · rw [List.mem_append, List.mem_singleton]
    exact Or.comm
theorem any_is {acc : List Str} {v : Str} : acc.any (· == v) = true ↔ v ∈ acc := by
  rw [List.any_eq_true]
  exact ⟨fun ⟨z, hz, e⟩ => (eq_of_beq e : z = v) ▸ hz, fun h => ⟨v, h, beq_self_eq_true v⟩⟩
theorem stS_old {acc : List Str} {v : Str} (h : v ∈ acc) : stS acc v = acc := if_pos (any_is.mpr h)
theorem stS_new {acc : List Str} {v : Str} (h : v ∉ acc) : stS acc v = acc ++ [v] := if_neg fun q => h (any_is.mp q)
theorem ddS_snoc (xs : List Str) (v : Str) : ddS (xs ++ [v]) = stS (ddS xs) v := by
  show (xs ++ [v]).foldl stS [] = _
  rw [List.foldl_append]; rfl
end Kn
namespace KnS
open PySem PySem.Spec PyProof.Rows L2
open PySem.Froz (SD sObj TxOk addTx add_x add_ok is_str)
open Kn (stS ddS stS_mem stS_old stS_new ddS_snoc ddS_le stS_len)
theorem stS_nodup {acc : List Str} (h : acc.Nodup) (v : Str) : (stS acc v).Nodup := by
  by_cases q : v ∈ acc
  · rw [stS_old q]; exact h
  · rw [stS_new q]
    refine List.nodup_append.mpr ⟨h, List.pairwise_singleton _ _, fun a ha b hb e => q ?_⟩
    rw [← List.mem_singleton.mp hb, ← e]; exact ha
theorem foldS_nodup : ∀ (xs acc : List Str), acc.Nodup → (xs.foldl stS acc).Nodup
  | [], _, h => h
  | x :: xs, _, h => foldS_nodup xs _ (stS_nodup h x)
theorem ddS_nodup (xs : List Str) : (ddS xs).Nodup := foldS_nodup xs [] List.Pairwise.nil
/-! ### the object -/
/-- its table can be read in order -/
def Told (w : World) (t : SetTable) : Prop := Ris t.place.toList ∧ (w.params.followText "set-order" = true ∨ t.led = true)
/-- at a lies the set of just the texts l -/
def TxS (P : Program) (w : World) (h : Heap) (a : Addr) (l : List Str) : Prop := ∃ D : SD, h.get? a = some (sObj "set" D) ∧ TxOk P w D l ∧ l.Nodup ∧ Told w D.2.2
theorem Told.tail {w : World} {ep : Nat} {es : Array (Int × Value)} {t : SetTable} {b : Bool} (h : Told w t) : Told w (PySem.Froz.tailTx ep es t b).2.2 := by
  unfold PySem.Froz.tailTx
  split
  · exact ⟨relayAll_ris _ _ _, h.2.imp id fun q => (relayAll_led _ _ _).trans q⟩
  · exact h
theorem Told.add {w : World} {D : SD} (h : Told w D.2.2) (k : Int) (v : Value) : Told w (addTx k v D).2.2 := by
  have laid : Told w (layNew D.2.2 D.1 k v).2.1 := ⟨layNew_ris _ _ _ _ h.1, h.2.imp id fun q => (layNew_led _ _ _ _).trans q⟩
  refine Told.tail ?_
  split
  · exact laid
  · exact laid
theorem TxOk.reorder {P : Program} {w : World} {D : SD} {l l' : List Str} (h : TxOk P w D l) (p : l'.Perm l) : TxOk P w D l' := ⟨h.el, fun k => p.mem_iff.trans (h.mem k), h.sz.trans p.length_eq.symm, h.fit⟩
section
variable {P : Program} {w : World} {h h' : Heap} {a : Addr} {l : List Str}
theorem TxS.keep (R : TxS P w h a l) (k : ∀ o, h.get? a = some o → h'.get? a = some o) : TxS P w h' a l := R.imp fun _ ⟨at_, r⟩ => ⟨k _ at_, r⟩
theorem TxS.there (R : TxS P w h a l) : ∃ o, h.get? a = some o := R.imp' (fun D => sObj "set" D) fun _ => And.left
theorem TxS.nodup (R : TxS P w h a l) : l.Nodup := let ⟨_, _, _, r, _⟩ := R; r
/-- the new set, as the model makes it -/
def emptyS (w : World) : Obj := sObj "set" (#[], 0, .fresh 0 0 (!w.params.followText "set-order"))
theorem TxS.new (k : h.get? a = some (emptyS w)) : TxS P w h a [] := by
  refine ⟨_, k, PySem.Froz.TxOk.nil rfl, List.nodup_nil, List.Pairwise.nil, ?_⟩
  show _ ∨ (!w.params.followText "set-order") = true
  cases w.params.followText "set-order" <;> simp
end
section
variable {P : Program} {w : World} {A : Around} {E : Value → Shared → Prop} {s : Shared} {a : Addr} {l : List Str}
/-- a text that is in it already -/
theorem add_old {D : SD} {k : Str} {u : Tok} {Q : Bool → Shared → Prop} (at_ : s.heap.get? a = some (sObj "set" D)) (F : TxOk P w D l) (hk : k ∈ l) (few : l.length < scanBound) (q : Q false s) : wpAny (model P w) A (setAddHashed a (.str k u) (hashStr w k)) Q E s := by
  obtain ⟨es, ep, t⟩ := D
  have few' : es.size < scanBound := by rw [show es.size = l.length from F.sz]; exact few
  unfold setAddHashed setAddHashedIn
  apply wpAny_holding
  apply wpAny_bind
  refine wpAny_setState_of at_ rfl F.fit ?_
  dsimp only
  rw [byScan_of (knd := strKind P w) rfl few' F.el]
  unfold setAddByScan
  simp only [if_true]
  apply wpAny_bind
  apply wpAny_bind
  apply wpAny_rule
  apply wpAny_bind
  refine wpAny_setScan_of (knd := strKind P w) (k := k) (is_str k u) at_ rfl F.fit F.el ?_
  rcases met : List.findIdx? (fun e => (strKind P w).is k e.2) es.toList with _ | j
  · obtain ⟨e, he, z⟩ := (F.mem k).mp hk
    have no := List.findIdx?_eq_none_iff.mp met e he
    rw [z] at no
    cases no
  · rw [met]
    exact wpAny_pure (wpAny_pure q)
theorem add_any {k : Str} {u : Tok} {Q : Bool → Shared → Prop} (R : TxS P w s.heap a l) (few : l.length + 1 < scanBound) (q : ∀ (b : Bool) h', Heap.SameBut a s.heap h' → TxS P w h' a (stS l k) → Q b { s with heap := h' }) :
    wpAny (model P w) A (setAddHashed a (.str k u) (hashStr w k)) Q E s := by
  by_cases hk : k ∈ l
  · obtain ⟨D, at_, F, _⟩ := id R
    refine add_old at_ F hk (Nat.lt_of_succ_lt few) ?_
    have z := q false s.heap (Heap.SameBut.refl a s.heap)
    rw [stS_old hk] at z
    exact z R
  · obtain ⟨D, at_, F, nd, told⟩ := R
    refine add_x at_ F hk few (q true _ (Heap.SameBut.update ..) ?_)
    have nd' := stS_nodup nd k
    rw [stS_new hk] at nd' ⊢
    exact ⟨_, PySem.Froz.get_upd _ at_ rfl, TxOk.reorder (add_ok u F) (List.perm_append_singleton k l), nd', told.add _ _⟩
/-- the model's way to put one in -/
theorem put_in {k : Str} {u : Tok} {Q : Bool → Shared → Prop} (R : TxS P w s.heap a l) (few : l.length + 1 < scanBound) (q : ∀ (b : Bool) h', Heap.SameBut a s.heap h' → TxS P w h' a (stS l k) → Q b { s with heap := h', toks := s.toks + 1 }) :
    wpAny (model P w) A (setAdd a (.str k u)) Q E s := by
  unfold setAdd
  apply wpAny_holding
  apply wpAny_bind
  refine (strKind P w).pyHash (k := k) (is_str k u) ?_
  exact add_any (s := { s with toks := s.toks + 1 }) R few q
end
/-! ### set(x) -/
section
variable {P : Program} {w : World} {A : Around} {I : Addr} {fp wr : List Addr} {n : Nat} {Pv : Nat → Value → Prop} {St : Nat → Heap → Prop}
/-- the loop that fills it: done lies in it, rest is to come -/
theorem fill_loop (W : Walks P w A.in1 I fp wr n Pv St) {a : Addr} (out : a ∉ fp) {xs : List Str} (len : xs.length = n) (few : n + 1 < scanBound) (are : ∀ i v, Pv i v → ∃ c u, xs[i]? = some c ∧ v = .str c u) {R : Result → Shared → Prop} :
    ∀ (rest done : List Str) (s : Shared), done ++ rest = xs → St done.length s.heap → TxS P w s.heap a (ddS done) →
      (∀ h' tk, (∀ b o, b ≠ a → b ∉ wr → s.heap.get? b = some o → h'.get? b = some o) → TxS P w h' a (ddS xs) → R (.ok (.ret .none)) { s with heap := h', toks := tk }) →
      codeAny (model P w) A (.builtin "set.update.loop" ⟨[.ref a, .ref I], []⟩) R s := by
  intro rest
  have offW : ∀ {b}, b ∉ fp → b ∉ wr := fun h z => h (W.sub _ z)
  induction rest with
  | nil =>
    intro done s all st R1 fin
    rw [List.append_nil] at all
    subst all
    refine codeAny_builtin PyProof.Rows.F.entry_set_update_loop ?_
    rw [Around.under_plainId PyProof.Rows.F.plain_set_update_loop _]
    apply wpAny_bind
    rw [len] at st
    refine W.done s _ _ st fun h' tk keep => ?_
    exact wpAny_pure (fin h' tk (fun b o _ hb e => keep b o hb e) (R1.keep fun o e => keep a o (offW out) e))
  | cons c rest ih =>
    intro done s all st R1 fin
    have here : xs[done.length]? = some c := by rw [← all, List.getElem?_append_right (Nat.le_refl _), Nat.sub_self]; rfl
    have lt : done.length < n := by rw [← len]; exact (List.getElem?_eq_some_iff.mp here).1
    refine codeAny_builtin PyProof.Rows.F.entry_set_update_loop ?_
    rw [Around.under_plainId PyProof.Rows.F.plain_set_update_loop _]
    apply wpAny_bind
    refine W.item done.length s _ _ lt st fun v h1 tk1 pv st1 keep => ?_
    obtain ⟨c', u, at_, rfl⟩ := are _ _ pv
    obtain rfl : c = c' := Option.some.inj (here.symm.trans at_)
    have size : (ddS done).length ≤ 0 + done.length := ddS_le done []
    refine wpAny_bind (wpAny_holding (put_in (s := { s with heap := h1, toks := tk1 }) (R1.keep fun o e => keep a o (offW out) e) (by omega) fun _ h2 same R2 => ?_))
    rw [← ddS_snoc] at R2
    refine wpAny_pure ⟨plainId_quiet PyProof.Rows.F.plain_set_update_loop _, ih (done ++ [c]) _ (by rw [List.append_assoc]; exact all) ?_ R2 fun h3 tk3 keep3 R3 => ?_⟩
    · rw [List.length_append]
      exact W.frame _ h1 h2 st1 fun b hb o e => (same.2 b fun z => out (z ▸ hb)).trans e
    · exact fin h3 tk3 (fun b o nb hb e => keep3 b o nb hb ((same.2 b nb).trans (keep b o hb e))) R3
end
section
variable {P : Program} {w : World} {A : Around} {E : Value → Shared → Prop} {s : Shared}
theorem code_wants {c : Code} {Q1 : Value → Shared → Prop} (h : codeAny (model P w) A c (wants Q1 E) s) {R : Result → Shared → Prop} (ok : ∀ v t, Q1 v t → R (.ok (.ret v)) t) (bad : ∀ e t, E e t → R (.error e) t) : codeAny (model P w) A c R s :=
  codeAny_mono h fun r t q => match r, q with
    | .ok (.ret v), q => ok v t q
    | .error e, q => bad e t q
/-- set(x) is to make a new one and to fill it out of x -/
theorem set_made {x : Value} {Q : Value → Shared → Prop}
    (fill : ∀ B : Around, B.handled = A.handled → wpAny (model P w) B (Builtin.Frozenset.updateFrom "set.__init__" s.heap.objs.size x) (fun _ t => Q (.ref s.heap.objs.size) t) E { s with heap := s.heap.push (emptyS w) }) :
    wpAny (model P w) A (call (.type "set") [x]) Q E s := by
  have made := PySem.F.called_set.made
  have sub := PySem.F.called_set.sub
  have notType := PySem.F.called_set.notType
  have can := PySem.F.called_set.canCreate
  have args := PySem.F.typeCall_set_1 x
  have ⟨_, _, order⟩ := PySem.F.called_set.mro
  have new0 : (s.heap.push (emptyS w)).get? s.heap.objs.size = some (emptyS w) := Heap.get?_push_size _ rfl
  have isSet : Shared.TypeIs { s with heap := s.heap.push (emptyS w) } (.ref s.heap.objs.size) "set" := ⟨_, new0, rfl⟩
  apply wpAny_call
  apply codeAny_of_tree
  show wpAny _ _ (callAny (.type "set") _) _ _ _
  refine wpAny_pure ⟨Code.quiet_builtin _ (by decide +kernel), codeAny_builtin PySem.F.entry_type_call ?_⟩
  rw [Around.under_plain (weight_type_call_type "set" [x] []) rfl]
  repeat (any_goals (first | assumption | wp_step))
  refine code_wants (code_set_led1 x (E := E) (Q₁ := fun v t => v = .ref s.heap.objs.size ∧ t = { s with heap := s.heap.push (emptyS w) }) ⟨rfl, rfl⟩) (fun v t ⟨e1, e2⟩ => ?_) fun _ _ => id
  subst e1 e2
  have look := PySem.F.called_set.init.lookup
  have bound := PySem.F.called_set.init.bind (.ref s.heap.objs.size)
  repeat (any_goals (first | assumption | wp_step))
  refine code_wants (codeAny_call_builtin (R := wants (fun v t => v = .none ∧ Q (.ref s.heap.objs.size) t) E) PySem.F.called_set.init.plain PySem.F.entry_set_init (check_set_init_1 isSet ?_)) (fun v t ⟨e, q⟩ => ?_) fun _ _ => id
  · unfold Builtin.«set.__init__» noKeywords
    have f := fill A.in1.in1 (by simp)
    generalize Builtin.Frozenset.updateFrom = up at f ⊢
    wp_walk
    exact wpAny_mono f (fun _ t q => wpAny_pure ⟨rfl, q⟩) fun _ _ => id
  · subst e
    repeat (any_goals (first | assumption | wp_step))
/-- what is no set and no dict is walked -/
theorem walked {T : String} {a l : Addr} {Q : Unit → Shared → Prop} (is : s.TypeIs (.ref l) T) (no1 : isSubtype (.type T) (.type "set") = pure false) (no2 : isSubtype (.type T) (.type "frozenset") = pure false) (no3 : (Value.type T == .type "dict") = false)
    (h : wpAny (model P w) A (pyIter (.ref l)) (fun it t => codeAny (model P w) A (.builtin "set.update.loop" ⟨[.ref a, it], []⟩) (wants (fun _ t => Q () t) E) t) E s) : wpAny (model P w) A (Builtin.Frozenset.updateFrom "set.__init__" a (.ref l)) Q E s := by
  unfold Builtin.Frozenset.updateFrom
  generalize pyIter = it at h ⊢
  wp_walk
  refine wpAny_mono h (fun v t q => ?_) fun _ _ => id
  exact wpAny_bind (wpAny_runValue (code_wants q (fun _ _ q => wpAny_pure q) fun _ _ => id))
/-- set(texts), of what is walked by an iterator o -/
theorem set_filled {T : String} {l : Addr} {o : Obj} {xs : List Str} {fp : List Addr} {Pv : Nat → Value → Prop} {St : Nat → Heap → Prop} {Q : Value → Shared → Prop} (hh : A.handled = none) (no1 : isSubtype (.type T) (.type "set") = pure false) (no2 : isSubtype (.type T) (.type "frozenset") = pure false) (no3 : (Value.type T == .type "dict") = false)
    (is : s.TypeIs (.ref l) T) (iter : ∀ (B : Around) (Q' : Value → Shared → Prop), Q' (.ref (s.heap.objs.size + 1)) { s with heap := (s.heap.push (emptyS w)).push o } → wpAny (model P w) B (pyIter (.ref l)) Q' E { s with heap := s.heap.push (emptyS w) })
    (walk : ∀ B : Around, B.handled = none → Walks P w B (s.heap.objs.size + 1) fp [s.heap.objs.size + 1] xs.length Pv St) (st : St 0 ((s.heap.push (emptyS w)).push o)) (out : s.heap.objs.size ∉ fp) (few : xs.length + 1 < scanBound)
    (are : ∀ i v, Pv i v → ∃ c u, xs[i]? = some c ∧ v = .str c u) (q : ∀ h' tk, (∀ b u, s.heap.get? b = some u → h'.get? b = some u) → TxS P w h' s.heap.objs.size (ddS xs) → Q (.ref s.heap.objs.size) { s with heap := h', toks := tk }) :
    wpAny (model P w) A (call (.type "set") [.ref l]) Q E s := by
  refine set_made fun B hB => walked (T := T) ?_ no1 no2 no3 (iter B _ ?_)
  · obtain ⟨ob, at_, cl⟩ := is
    exact ⟨ob, Heap.get?_push_of_some _ at_, cl⟩
  · refine fill_loop (walk B.in1 (by simp [hB, hh])) out rfl few are xs [] _ rfl st (TxS.new ?_) fun h' tk keep R => ?_
    · exact Heap.get?_push_of_some _ (Heap.get?_push_size _ rfl)
    · refine q h' tk (fun b u e => keep b u ?_ ?_ (Heap.get?_push_of_some _ (Heap.get?_push_of_some _ e))) R
      · exact Nat.ne_of_lt (Heap.lt_size e)
      · rw [List.mem_singleton]
        exact Nat.ne_of_lt (Nat.lt_succ_of_lt (Heap.lt_size e))
theorem text_at {its : Array Value} {xs : List Str} (are : StrsAre its.toList xs) {i : Nat} {v : Value} (e : its[i]? = some v) : ∃ c u, xs[i]? = some c ∧ v = .str c u := by
  rw [← Array.getElem?_toList] at e
  generalize its.toList = vs at are e
  induction are generalizing i with
  | nil => cases e
  | cons c u _ ih =>
    rcases i with _ | i
    · cases e; exact ⟨c, u, rfl, rfl⟩
    · exact ih e
theorem set_list {l : Addr} {its : Array Value} {xs : List Str} {Q : Value → Shared → Prop} (hh : A.handled = none) (is : s.heap.IsList l its) (are : StrsAre its.toList xs) (few : xs.length + 1 < scanBound)
    (q : ∀ h' tk, (∀ b u, s.heap.get? b = some u → h'.get? b = some u) → TxS P w h' s.heap.objs.size (ddS xs) → Q (.ref s.heap.objs.size) { s with heap := h', toks := tk }) : wpAny (model P w) A (call (.type "set") [.ref l]) Q E s := by
  have size : xs.length = its.size := (StrsAre.len_eq are).symm.trans Array.length_toList
  have lt : l < s.heap.objs.size := let ⟨_, at_, _⟩ := is; Heap.lt_size at_
  have one : (s.heap.push (emptyS w)).objs.size = s.heap.objs.size + 1 := Heap.size_push ..
  have is1 : (s.heap.push (emptyS w)).IsList l its := is.push _
  refine set_filled (T := "list") (o := { cls := .type "list_iterator", data := .fields #[.ref l, .int 0 0] }) hh PySem.F.sub_list_set PySem.F.sub_list_frozenset (by decide) is.typeIs (fun B Q' q' => ?_) (fun B hB => size ▸ Walks.list hB _ l (Nat.ne_of_lt (Nat.lt_succ_of_lt lt)) its) ?_ ?_ few (fun i v => text_at are) q
  · refine wpAny_pyIter_list is1 ?_
    rw [one]
    exact q'
  · refine ⟨⟨_, (?_ : Heap.get? _ _ = some { cls := .type "list_iterator", data := .fields #[.ref l, .int 0 0] }), rfl, rfl⟩, is1.push _⟩
    show Heap.get? _ (s.heap.objs.size + 1) = _
    rw [← one]
    exact Heap.get?_push_size _ rfl
  · rw [List.mem_cons, List.mem_singleton, not_or]
    exact ⟨Nat.ne_of_lt (Nat.lt_succ_self _), Nat.ne_of_gt lt⟩
theorem set_tuple {l : Addr} {its : Array Value} {xs : List Str} {Q : Value → Shared → Prop} (hh : A.handled = none) (is : s.heap.IsTuple l its) (are : StrsAre its.toList xs) (few : xs.length + 1 < scanBound)
    (q : ∀ h' tk, (∀ b u, s.heap.get? b = some u → h'.get? b = some u) → TxS P w h' s.heap.objs.size (ddS xs) → Q (.ref s.heap.objs.size) { s with heap := h', toks := tk }) : wpAny (model P w) A (call (.type "set") [.ref l]) Q E s := by
  have size : xs.length = its.size := (StrsAre.len_eq are).symm.trans Array.length_toList
  have lt : l < s.heap.objs.size := let ⟨_, at_, _⟩ := is; Heap.lt_size at_
  have one : (s.heap.push (emptyS w)).objs.size = s.heap.objs.size + 1 := Heap.size_push ..
  have is1 : (s.heap.push (emptyS w)).IsTuple l its := is.push _
  refine set_filled (T := "tuple") (o := { cls := .type "tuple_iterator", data := .fields #[.ref l, .int 0 0] }) hh PySem.F.sub_tuple_set PySem.F.sub_tuple_frozenset (by decide) is.typeIs (fun B Q' q' => ?_) (fun B hB => size ▸ Walks.tuple hB _ l (Nat.ne_of_lt (Nat.lt_succ_of_lt lt)) its) ?_ ?_ few (fun i v => text_at are) q
  · refine wpAny_pyIter_tuple is1 ?_
    rw [one]
    exact q'
  · refine ⟨⟨_, (?_ : Heap.get? _ _ = some { cls := .type "tuple_iterator", data := .fields #[.ref l, .int 0 0] }), rfl, rfl⟩, is1.push _⟩
    show Heap.get? _ (s.heap.objs.size + 1) = _
    rw [← one]
    exact Heap.get?_push_size _ rfl
  · rw [List.mem_cons, List.mem_singleton, not_or]
    exact ⟨Nat.ne_of_lt (Nat.lt_succ_self _), Nat.ne_of_gt lt⟩
theorem len_set {a : Addr} {l : List Str} {Q : Value → Shared → Prop} (R : TxS P w s.heap a l) (few : l.length < 2 ^ 63) (q : Q (.int l.length (s.toks + 1)) { s with toks := s.toks + 1 + 1 }) : wpAny (model P w) A (call (.builtin "len") [.ref a]) Q E s := by
  obtain ⟨⟨es, ep, t⟩, at_, F, _⟩ := R
  have n : es.size = l.length := F.sz
  exact call_len_set at_ ⟨rfl, rfl, rfl⟩ rfl F.fit (by rw [n]; omega) (by rw [n]; exact q)
end
end KnS
namespace Kn
open PySem PySem.Spec PyProof.Rows
open L2 hiding St
open KnS
section
variable {X : Cx} {O : Own} {ρ : List Slot} {x : ExK} {k : Slot → Own → Prop} {a : Expr} {pos p p2 q0 : Pos}
theorem strs_of : ∀ {ys : List Str} {us : List Value}, Vals (ys.map V.str) us → StrsAre us ys
  | [], _, .nil => .nil
  | y :: _, _, .cons ⟨t, e⟩ r => by subst e; exact .cons y t (strs_of r)
theorem ew_lenSetOf {f : List Dat → Dat} {seq : ∀ {H : Hp} {O1 : Own} {v : V} {ys : List Str}, SlOk X.K (hid O1 H) v (.dat (f (ys.map .str))) → ∃ ad, v = .ref ad ∧ ∀ {pins : List (Addr × Obj)} {σ : SV} {s : Shared} {Q : Value → Shared → Prop}, Inv X pins σ H s → ys.length ≤ 1000 →
      (∀ h' tk, (∀ b u, s.heap.get? b = some u → h'.get? b = some u) → TxS X.prog X.w h' s.heap.objs.size (ddS ys) → Q (.ref s.heap.objs.size) { s with heap := h', toks := tk }) → wpAny (model X.prog X.w) X.A (call (.type "set") [.ref ad]) Q X.xe s}
    (hm : X.mg "len" = none) (hm2 : X.mg "set" = none) (h : EW X O ρ a x fun s O1 => ∃ ys : List Str, s = .dat (f (ys.map .str)) ∧ ys.length ≤ 1000 ∧ k (.dat (.int ((ddS ys).length : Int))) O1) (hg : Gl X "len" := by rfl) (hg2 : Gl X "set" := by rfl)
    (na : starEach [a] X.env = (false, eval a X.env) :: starEach [] X.env := by rfl) : EW X O ρ (.Call (.Name "len" p) [.Call (.Name "set" p2) [a] [] q0] [] pos) x k := fun H0 σ H st tk Q q => ⟨fun pins s I => by
  have arg := (pe_w (e := a)).run pins s σ H (fun v H1 => ∃ ys O1, StOk X.K H0 O1 σ ρ H1 ∧ SlOk X.K (hid O1 H1) v (.dat (f (ys.map .str))) ∧ ys.length ≤ 1000 ∧ k (.dat (.int ((ddS ys).length : Int))) O1) I
    (h H0 σ H st tk _ fun v H1 s1 O1 ⟨ys, e1, hl, hk⟩ st1 r1 => ⟨ys, O1, st1, e1 ▸ r1, hl, hk⟩)
  refine Call_ (ld_blt I hg hm boot_len (PyProof.Rows.callWith_builtin1 (PyProof.Rows.args_cons (Call_ (ld_blt I hg2 hm2 boot_set (PyProof.Rows.callWith_type1 (PyProof.Rows.args_cons (thn arg fun v s1 hq => PyProof.Rows.args_nil ?_) na) na rfl))) rfl) rfl rfl))
  obtain ⟨v0, H1, I1, rv, ys, O1, st1, r1, hl, hk⟩ := hq
  obtain ⟨ad, rfl, make⟩ := seq r1
  cases rv
  refine make I1 hl fun h' tk' keep R => PyProof.Rows.args_nil ?_
  have size : (ddS ys).length ≤ 0 + ys.length := ddS_le ys []
  have I2 : Inv X pins σ H1 { s1 with heap := h', toks := tk' } := I1.kept keep
  exact len_set R (by omega) ⟨.int (ddS ys).length, H1, I2.tok _, ⟨_, rfl⟩, q _ _ _ _ hk st1 (.int _)⟩⟩
theorem ew_lenSet (hm : X.mg "len" = none) (hm2 : X.mg "set" = none) (h : EW X O ρ a x fun s O1 => ∃ ys : List Str, s = .dat (.lst (ys.map .str)) ∧ ys.length ≤ 1000 ∧ k (.dat (.int ((ddS ys).length : Int))) O1) (hc : X.calm = true := by rfl) (hg : Gl X "len" := by rfl) (hg2 : Gl X "set" := by rfl)
    (na : starEach [a] X.env = (false, eval a X.env) :: starEach [] X.env := by rfl) : EW X O ρ (.Call (.Name "len" p) [.Call (.Name "set" p2) [a] [] q0] [] pos) x k := by
  refine ew_lenSetOf (f := .lst) (seq := fun {H O1 v ys} r => ?_) hm hm2 h hg hg2 na
  cases r with
  | lst h2 h3 =>
    cases rpa_strs h3
    refine ⟨_, rfl, fun {pins σ s Q} I hl q => ?_⟩
    obtain ⟨its, r, pl, _⟩ := I.list (sql_at (hid_le _ _ h2))
    exact set_list (I.ok.hd hc) pl.isList (by simpa using strs_of r) (by unfold scanBound; omega) q
theorem ew_lenSetT (hm : X.mg "len" = none) (hm2 : X.mg "set" = none) (h : EW X O ρ a x fun s O1 => ∃ ys : List Str, s = .dat (.tup (ys.map .str)) ∧ ys.length ≤ 1000 ∧ k (.dat (.int ((ddS ys).length : Int))) O1) (hc : X.calm = true := by rfl) (hg : Gl X "len" := by rfl) (hg2 : Gl X "set" := by rfl)
    (na : starEach [a] X.env = (false, eval a X.env) :: starEach [] X.env := by rfl) : EW X O ρ (.Call (.Name "len" p) [.Call (.Name "set" p2) [a] [] q0] [] pos) x k := by
  refine ew_lenSetOf (f := .tup) (seq := fun {H O1 v ys} r => ?_) hm hm2 h hg hg2 na
  cases r with
  | tup h2 h3 =>
    cases rpa_strs h3
    refine ⟨_, rfl, fun {pins σ s Q} I hl q => ?_⟩
    obtain ⟨its, r, pl, _⟩ := I.tuple (sqt_mono hid_le h2)
    exact set_tuple (I.ok.hd hc) pl (by simpa using strs_of r) (by unfold scanBound; omega) q
end
end Kn
/-! KnAN: a & b, ~a by own methods, which may raise. -/
namespace Kn
open PySem PySem.Spec PyProof.Rows
open L2 hiding St
theorem self_in {K : PySem.W.Frag} {m : Str} {C : Addr} (h1 : PySem.W.nsIn K mainGlobals m = some (some (.ref C))) (h2 : PySem.W.selfFirst K C = true) : ∃ C, PySem.W.nsIn K mainGlobals m = some (some (.ref C)) ∧ PySem.W.selfFirst K C = true := ⟨C, h1, h2⟩
section
variable {X : Cx} {O : Own} {ρ : List Slot} {x : ExK} {k : Slot → Own → Prop} {a b : Expr} {pos : Pos} {g g' : Bool} {j n : Nat} {S : SpecT} {m : Str}
theorem ew_binOwn {op : Operator} {C : Addr} (mc : MCal X.prog X.w X.K X.mg X.base g n C m S []) (hm : PySem.dunder op.info.2 = m) (hc : PySem.W.selfFirst X.K C = true) (hr : RoomB g' j X.A)
    (h : EW X O ρ a x fun s1 O1 => EW X O1 ρ b x fun s2 O2 => tySl O2 (.ref C) s1 ∧ tySl O2 (.ref C) s2 ∧ S [s1, s2] O2 (kOut x ρ k)) (hj : n ≤ j := by decide) (hgg : g = true → g' = true := by first | exact fun _ => rfl | exact fun h => h | exact fun h => nomatch h) :
    EW X O ρ (.BinOp a op b pos) x k := fun H0 σ H st tk Q q => by
  refine ⟨fun pins s I => ?_⟩
  refine wpAny_BinOp (bin pe_w pe_w I (two h st tk (Q := fun v1 v2 H2 => ∃ s1 s2 O2, StOk X.K H0 O2 σ ρ H2 ∧ SlOk X.K (hid O2 H2) v1 s1 ∧ SlOk X.K (hid O2 H2) v2 s2 ∧ tySl O2 (.ref C) s1 ∧ tySl O2 (.ref C) s2 ∧ S [s1, s2] O2 (kOut x ρ k)) fun v1 v2 s1 s2 O2 H2 hp st2 r1 r2 => ⟨s1, s2, O2, st2, r1, r2, hp.1, hp.2.1, hp.2.2⟩) fun v u sh z y H2 I2 rx ry hq => ?_)
  obtain ⟨s1, s2, O2, st2, r1, r2, t1, t2, hS⟩ := hq
  obtain ⟨f, fd, ps, ds, dvs, M, F, hb, hd, hdf⟩ := mc
  obtain ⟨ad, dx, fs, rfl, ha⟩ := ins_sl t1 st2 r1
  have L := looks_ty t2 st2 r2 I2 ry
  cases rx
  obtain ⟨ox, od, J⟩ := insAt_of I2 ha
  obtain ⟨mm, hF⟩ := I2.fr
  refine PySem.W.binop_K hF I2.ok.mod.kin J L hc (by rw [hm]; exact M.at_) M.fn ?_
  refine wpAny_mono (run_call (ss := [s1, s2]) F (hr.mono hj hgg) hb hd hdf I2 st2 tk (vs := [.ref ad, y]) (us := [.ref ad, u]) (.cons rfl (.cons ry .nil)) (.cons r1 (.cons r2 .nil)) hS q) (fun w s' zz => ?_) fun _ _ x => x
  obtain ⟨z', H', I', rz, qz⟩ := zz
  exact SlX.cmpback rz ⟨z', H', I', rz, qz⟩
theorem ew_invOwn {C : Addr} (mc : MCal X.prog X.w X.K X.mg X.base g n C "__invert__" S []) (hr : RoomB g' j X.A)
    (h : EW X O ρ a x fun s1 O1 => tySl O1 (.ref C) s1 ∧ S [s1] O1 (kOut x ρ k)) (hj : n ≤ j := by decide) (hgg : g = true → g' = true := by first | exact fun _ => rfl | exact fun h => h | exact fun h => nomatch h) :
    EW X O ρ (.UnaryOp .Invert a pos) x k := fun H0 σ H st tk Q q => by
  refine ⟨fun pins s I => ?_⟩
  refine UnaryOp_ (thn ((pe_w (e := a)).run pins s σ H (fun v1 H2 => ∃ s1 O2, StOk X.K H0 O2 σ ρ H2 ∧ SlOk X.K (hid O2 H2) v1 s1 ∧ tySl O2 (.ref C) s1 ∧ S [s1] O2 (kOut x ρ k)) I (h H0 σ H st tk _ fun v H1 s1 O1 h1 st1 r1 => ⟨s1, O1, st1, r1, h1.1, h1.2⟩)) fun v sh hq => ?_)
  obtain ⟨z, H2, I2, rx, s1, O2, st2, r1, t1, hS⟩ := hq
  obtain ⟨f, fd, ps, ds, dvs, M, F, hb, hd, hdf⟩ := mc
  obtain ⟨ad, dx, fs, rfl, ha⟩ := ins_sl t1 st2 r1
  cases rx
  obtain ⟨ox, od, J⟩ := insAt_of I2 ha
  obtain ⟨mm, hF⟩ := I2.fr
  refine PySem.W.ksp_inv hF I2.ok.mod.kin J M.at_ M.fn ?_
  exact run_call (ss := [s1]) F (hr.mono hj hgg) hb hd hdf I2 st2 tk (vs := [.ref ad]) (us := [.ref ad]) (.cons rfl .nil) (.cons r1 .nil) hS q
theorem rpa_ints {K : PySem.W.Frag} {G : Hp} : ∀ {vs : List V} {ns : List Int}, RpA K G vs (ns.map .int) → vs = ns.map V.int
  | _, [], h => by cases h; rfl
  | _, n :: ns, h => by
    cases h with
    | cons h1 h2 =>
      cases h1
      rw [rpa_ints h2]; rfl
/-- max of a list of ints -/
theorem cb_maxL {ns : List Int} (hc : X.calm = true) (hn : 0 < ns.length) (h : ∀ m, m ∈ ns → (∀ y, y ∈ ns → y ≤ m) → k (.dat (.int m)) O) : CaB X (.builtin "max") [.dat (.lst (ns.map .int))] O k := ⟨_, cr_max hc, fun H0 σ ρ H vs st pr Q q => by
  cases pr with
  | cons r1 pr =>
    cases pr
    cases r1 with
    | lst h1 h2 =>
      have e := rpa_ints h2
      subst e
      exact ⟨_, ns, rfl, sql_at (hid_le _ _ h1), hn, fun m m1 m2 => q _ H _ O (h m m1 m2) st (.int _)⟩⟩
end
end Kn
/-! KnAO: one token is out: e.replace(..) of written texts in a comprehension. -/
namespace KnX
open PySem PySem.Spec PyProof.Rows L2
/-! ### a program that gives a token out -/
def TkOut {α : Type} (t : Sem α) : Prop := ∀ (M : Model) (Γ : PySem.Ctx) (Q : α → Pos → Shared → Prop) (E : Value → Pos → Shared → Prop) (p : Pos) (s : Shared), Sem.wp M Γ t Q E p s → Sem.wp M Γ t (fun a p' s' => 1 ≤ s'.toks ∧ Q a p' s') E p s
theorem tk_bind {α β : Type} {m : Sem α} {f : α → Sem β} (h : TkOut m) : TkOut (m >>= f) := fun M Γ Q E p s w => by
  rw [Sem.wp_bind'] at w ⊢
  exact Sem.wp_mono M Γ m (fun a p' s' z => Sem.wp_mono M Γ _ (fun _ _ _ y => y) (fun _ _ _ y => y.2) p' s' (Sem.wp_toks M Γ 1 _ _ _ p' s' z.1 z.2)) (fun _ _ _ y => y) p s (h M Γ _ _ p s w)
theorem tk_then {α β : Type} {m : Sem α} {f : α → Sem β} (h : ∀ a, TkOut (f a)) : TkOut (m >>= f) := fun M Γ Q E p s w => by
  rw [Sem.wp_bind'] at w ⊢
  exact Sem.wp_mono M Γ m (fun a p' s' z => h a M Γ _ _ p' s' z) (fun _ _ _ y => y) p s w
theorem tk_str {env : Env} {c : Str} {j : Nat} {cp : Pos} : TkOut (eval (.Constant (.str c) j cp) env) := fun M Γ Q E p s w => ⟨Nat.le_add_left 1 s.toks, w⟩
theorem tk_op {env : Env} {a b : Expr} {op : Operator} {pos : Pos} (h : TkOut (eval a env)) : TkOut (eval (.BinOp a op b pos) env) := by
  rw [eval_BinOp]
  exact tk_bind h
theorem tk_list {env : Env} {e : Expr} {es : List Expr} {pos : Pos} (h : TkOut (eval e env)) (hs : starEach (e :: es) env = (false, eval e env) :: starEach es env := by rfl) : TkOut (eval (.List (e :: es) pos) env) := by
  rw [arm_eval_List, hs]
  refine tk_then fun _ => tk_bind ?_
  show TkOut (spliced ((false, eval e env) :: backTo pos (starEach es env)))
  rw [spliced]
  exact tk_bind h
theorem tk_set {env : Env} {e : Expr} {x : Str} {p' pos : Pos} (h : TkOut (eval e env)) (hs : swapsWith e (some (.Name x p')) pos.line env = pure false := by rfl) : TkOut (exec (.Assign [.Name x p'] e pos) env) := by
  rw [exec_Assign_Name env x p' e pos hs]
  exact tk_then fun _ => tk_bind h
theorem wpAny_tk {α : Type} {M : Model} {A : Around} {t : Sem α} {Q : α → Shared → Prop} {E : Value → Shared → Prop} {s : Shared} (h : TkOut t) (w : wpAny M A t Q E s) : wpAny M A t (fun a s' => 1 ≤ s'.toks ∧ Q a s') E s := fun Γ p hΓ => h M Γ _ _ p s (w Γ p hΓ)
section
variable {X : Cx}
/-- name = [..], where a token is out -/
theorem pst_setLc {i : Nat} {y : Str} {py : Pos} {elt tg iter : Expr} {ifs : List Expr} {scope : Scope} {own : List (Str × Nat)} {pos spos : Pos} {wi : TI} {g : TG} {tt : TT} {te : TE} (hc : X.calm = true) (hN : X.N.Nodup) (hy : X.N[i]? = some y) (hyl : X.env.scope.names.lookup y = some .local)
    (hsw : swapsWith (.ListComp elt [⟨tg, iter, ifs, 0⟩] scope pos) (some (.Name y py)) spos.line X.env = pure true) (pi : PI X tg iter wi) (ok : BlkOk X.N X.env.scope scope own) (plain : ∀ x, foldedSetIterable iter X.env x = pure x)
    (parts : ∀ Y, (∃ s H C cl fp, Y = X.blk s H scope (compEnvC scope cl C X.env) fp) → PG Y tg g ∧ PTs Y ifs tt ∧ PET Y elt te) : PST X (.Assign [.Name y py] (.ListComp elt [⟨tg, iter, ifs, 0⟩] scope pos) spos) (tAsg (tLc wi g tt te (own.map (·.2))) (gName i)) := fun pins s σ H D h0 I want =>
  set_from_comp rfl hsw (comp_calm 1 (Q := fun x H1 => gName i x σ H1 D.nx) lst_form hc hN h0 I pi ok plain (fun s H C cl fp => (parts _ ⟨s, H, C, cl, fp, rfl⟩).1) (fun s H C cl fp => (parts _ ⟨s, H, C, cl, fp, rfl⟩).2.1) (fun s H C cl fp pins t τ G Q k J q => (parts _ ⟨s, H, C, cl, fp, rfl⟩).2.2 pins t τ G Q k J q) want (out_name hN hy hyl))
/-- o.split("..", n), where o wants a token -/
theorem pet_split {o : Expr} {to : TE} {y : Str} {n : Int} {j0 j1 : Nat} {c0 c1 apos cpos : Pos} (ho : PET X o to) (hst : starEach [.Constant (.str y) j0 c0, .Constant (.int n) j1 c1] X.env = [(false, eval (.Constant (.str y) j0 c0) X.env), (false, eval (.Constant (.int n) j1 c1) X.env)])
    (hbase : attributeBase o "split" X.env (eval o X.env) = eval o X.env) (hline : (apos.endLine == cpos.line) = true) (hy : (y.length == 0) = false) (hn : -(2 ^ 63) ≤ n ∧ n < 2 ^ 63) :
    PET X (.Call (.Attribute o "split" apos) [.Constant (.str y) j0 c0, .Constant (.int n) j1 c1] [] cpos) (fun σ H Q => to σ H fun v H1 => ∃ z, v = .str z ∧ z.length + 2 ≤ sizeLine ∧ rNewStrs (Txt.splitMax z y n) H1 Q) := by
  intro pins s σ H Q h0 I want
  refine PySem.Call_method2 hbase hst hline (wpAny_mono (ho pins s σ H _ h0 I want) (fun u t got => ?_) fun _ _ => id)
  obtain ⟨v, H1, I1, r, z, rfl, size, q⟩ := got
  obtain ⟨tk, rfl⟩ := r
  refine ⟨"str", _, PySem.F.plainAttrs_str, PySem.F.slot_str_split, PySem.F.type_str_split, typeIs_str _ _ _, (fun _ e => by cases e), Calls.callWith_builtin rfl (Calls.evalArgs_plain (Calls.spliced_cons (Calls.Constant_str (Calls.spliced_cons ?_))))⟩
  refine (pe_int (X := X) (i := n)).run pins _ σ H1 (fun v H => v = .int n ∧ H = H1) (I1.tok _) ⟨rfl, rfl⟩ |> fun w => thn w fun u2 t2 ⟨_, H2, I2, r2, e1, e2⟩ => Calls.spliced_nil ?_
  subst e1 e2
  exact mt_splitMax pins t2 σ H2 (.str z) [.str y, .int n] _ _ Q I2 ⟨tk, rfl⟩ (.cons ⟨_, rfl⟩ (.cons r2 .nil)) ⟨z, y, n, rfl, rfl, hy, hn.1, hn.2, size, q⟩
theorem pet_ix {a b : Expr} {ta tb : TE} {pos : Pos} {r : R2} (hr : IxR X r) (ha : PET X a ta) (hb : PE X b tb) (plain : PlainIx b) : PET X (.Subscript a b pos) (tOp r ta tb) := fun pins s σ H Q h0 I want =>
  Subscript_ (wpAny_mono (ha pins s σ H _ h0 I want) (fun v t ⟨x, H1, I1, rx, q1⟩ => wpAny_mono (hb.run pins t σ H1 _ I1 q1) (fun u t2 ⟨y, H2, I2, ry, q2⟩ => hr a b pins t2 σ H2 x y v u Q I2 rx ry q2 (plain _ _)) fun _ _ => id) fun _ _ => id)
end
end KnX
namespace Kn
open PySem PySem.Spec PyProof.Rows KnX
open L2 hiding St
section
variable (X : Cx)
def WeT (e : Expr) : TE := fun σ H Q => Bx (∀ (pins : List (Addr × Obj)) (s : Shared), 1 ≤ s.toks → Inv X pins σ H s → wpAny (model X.prog X.w) X.A (eval e X.env) (EP X pins σ Q) X.xe s)
def WsT (st : Stmt) : TS := fun D σ H => Bx (∀ (pins : List (Addr × Obj)) (s : Shared), 1 ≤ s.toks → Inv X pins σ H s → wpAny (model X.prog X.w) X.A (exec st X.env) (SP X pins D) X.xe s)
def WssT (st : List Stmt) : TS := fun D σ H => Bx (∀ (pins : List (Addr × Obj)) (s : Shared), 1 ≤ s.toks → Inv X pins σ H s → wpAny (model X.prog X.w) X.A (execs st X.env) (SP X pins D) X.xe s)
def EWT (O : Own) (ρ : List Slot) (e : Expr) (x : ExK) (k : Slot → Own → Prop) : Prop :=
  ∀ H0 σ H, StOk X.K H0 O σ ρ H → Takes X (Wsem X.K H0 x) → ∀ Q : VK, (∀ v H' s O', k s O' → StOk X.K H0 O' σ ρ H' → SlOk X.K (hid O' H') v s → Q v H') → WeT X e σ H Q
def S1T (O : Own) (ρ : List Slot) (st : Stmt) (x : ExK) (D : SD) : Prop :=
  ∀ H0 σ H, StOk X.K H0 O σ ρ H → Takes X (Wsem X.K H0 x) → ∀ E, EndsOk X.K H0 D E → WsT X st E σ H
def SWT (O : Own) (ρ : List Slot) (st : List Stmt) (x : ExK) (D : SD) : Prop :=
  ∀ H0 σ H, StOk X.K H0 O σ ρ H → Takes X (Wsem X.K H0 x) → ∀ E, EndsOk X.K H0 D E → WssT X st E σ H
end
section
variable {X : Cx} {O : Own} {ρ : List Slot} {x : ExK} {k : Slot → Own → Prop} {a b e o iter tg : Expr} {es : List Expr} {pos apos cpos : Pos} {D : SD} {st0 : Stmt} {sts : List Stmt}
theorem pet_w {e : Expr} : PET X e (WeT X e) := fun pins s σ H Q h0 I h => h.r pins s h0 I
theorem wet_of {e : Expr} {t : TE} (h : PET X e t) {σ : SV} {H : Hp} {Q : VK} (q : t σ H Q) : WeT X e σ H Q := ⟨fun pins s h0 I => h pins s σ H Q h0 I q⟩
theorem wst_of {st : Stmt} {t : TS} (h : PST X st t) {σ : SV} {H : Hp} {D : Ends} (q : t D σ H) : WsT X st D σ H := ⟨fun pins s h0 I => h pins s σ H D h0 I q⟩
theorem ewt_of (h : EW X O ρ e x k) : EWT X O ρ e x k := fun H0 σ H st tk Q q => ⟨fun pins s h0 I => (h H0 σ H st tk Q q).r pins s I⟩
/-- the first row gives a token out: behind it it may be leant on -/
theorem sw_consO (ht : TkOut (exec st0 X.env)) (h : S1 X O ρ st0 x { D with nx := fun ρ' O' => SWT X O' ρ' sts x D }) : SW X O ρ (st0 :: sts) x D := fun H0 σ H st tk E ok => ⟨fun pins s I => by
  have h1 := (h H0 σ H st tk { E with nx := fun σ' H' => WssT X sts E σ' H' } ⟨fun σ' ρ' O' H' q s => q H0 σ' H' s tk E ok, ok.rt, ok.bk, ok.ct⟩).r pins s I
  refine wpAny_execs_cons (wpAny_mono (wpAny_tk ht h1) (fun f s1 q => ?_) fun _ _ z => z)
  obtain ⟨hk, q⟩ := q
  cases f with
  | next =>
    obtain ⟨σ', H', I', q⟩ := q
    exact q.r pins s1 hk I'
  | ret v => exact q
  | brk => exact q
  | cont => exact q⟩
theorem swt_cons (h : S1 X O ρ st0 x { D with nx := fun ρ' O' => SWT X O' ρ' sts x D }) : SWT X O ρ (st0 :: sts) x D := fun H0 σ H st tk E ok => ⟨fun pins s h0 I => by
  have h1 := (h H0 σ H st tk { E with nx := fun σ' H' => WssT X sts E σ' H' } ⟨fun σ' ρ' O' H' q s => q H0 σ' H' s tk E ok, ok.rt, ok.bk, ok.ct⟩).r pins s I
  refine wpAny_execs_cons (wpAny_mono (PySem.wpAny_toks_of h0 h1) (fun f s1 q => ?_) fun _ _ z => z.2)
  obtain ⟨hk, q⟩ := q
  cases f with
  | next =>
    obtain ⟨σ', H', I', q⟩ := q
    exact q.r pins s1 hk I'
  | ret v => exact q
  | brk => exact q
  | cont => exact q⟩
theorem swt_drop (h : S1T X O ρ st0 x { D with nx := fun ρ' O' => SW X O' ρ' sts x D }) : SWT X O ρ (st0 :: sts) x D := fun H0 σ H st tk E ok => ⟨fun pins s h0 I => by
  have h1 := (h H0 σ H st tk { E with nx := fun σ' H' => Wss X sts E σ' H' } ⟨fun σ' ρ' O' H' q s => q H0 σ' H' s tk E ok, ok.rt, ok.bk, ok.ct⟩).r pins s h0 I
  refine wpAny_execs_cons (wpAny_mono h1 (fun f s1 q => ?_) fun _ _ z => z)
  cases f with
  | next =>
    obtain ⟨σ', H', I', q⟩ := q
    exact q.r pins s1 I'
  | ret v => exact q
  | brk => exact q
  | cont => exact q⟩
/-- o.replace("..", "..") -/
theorem ewt_repl {y w : Str} {j0 j1 : Nat} {c0 c1 : Pos} (h : EWT X O ρ o x fun s O1 => ∃ z : Str, s = .dat (.str z) ∧ z.length + (z.length + 1) * w.length ≤ 16777216 ∧ k (.dat (.str (Txt.replace z y w))) O1) (hyz : (y == w) = false := by decide)
    (hst : starEach [.Constant (.str y) j0 c0, .Constant (.str w) j1 c1] X.env = [(false, eval (.Constant (.str y) j0 c0) X.env), (false, eval (.Constant (.str w) j1 c1) X.env)] := by rfl)
    (hbase : attributeBase o "replace" X.env (eval o X.env) = eval o X.env := by rfl) (hline : (apos.endLine == cpos.line) = true := by rfl) :
    EWT X O ρ (.Call (.Attribute o "replace" apos) [.Constant (.str y) j0 c0, .Constant (.str w) j1 c1] [] cpos) x k := fun H0 σ H st tk Q q =>
  wet_of (CwR.pet_replT pet_w hyz hst hbase hline) (h H0 σ H st tk _ fun v H1 s O1 ⟨z, e1, h1, h2⟩ st1 r1 => by
    subst e1
    cases r1
    exact ⟨z, rfl, h1, q _ H1 _ O1 h2 st1 (.str _)⟩)
/-- o.split(" ", 1) -/
theorem ewt_splitMax {y : Str} {n : Int} {j0 j1 : Nat} {c0 c1 : Pos} (h : EWT X O ρ o x fun s O1 => ∃ z : Str, s = .dat (.str z) ∧ z.length + 2 ≤ sizeLine ∧ k (.dat (.lst ((Txt.splitMax z y n).map .str))) O1) (hy : (y.length == 0) = false := by decide) (hn : -(2 ^ 63) ≤ n ∧ n < 2 ^ 63 := by decide)
    (hst : starEach [.Constant (.str y) j0 c0, .Constant (.int n) j1 c1] X.env = [(false, eval (.Constant (.str y) j0 c0) X.env), (false, eval (.Constant (.int n) j1 c1) X.env)] := by rfl) (hbase : attributeBase o "split" X.env (eval o X.env) = eval o X.env := by rfl) (hline : (apos.endLine == cpos.line) = true := by rfl) :
    EWT X O ρ (.Call (.Attribute o "split" apos) [.Constant (.str y) j0 c0, .Constant (.int n) j1 c1] [] cpos) x k := fun H0 σ H st tk Q q =>
  wet_of (pet_split pet_w hst hbase hline hy hn) (h H0 σ H st tk _ fun v H1 s O1 ⟨z, e1, h1, h2⟩ st1 r1 => by
    subst e1
    cases r1
    exact ⟨z, rfl, h1, fun p hp => q _ _ _ O1 h2 (st1.grow (same_new hp)) (.lst (by rw [hid_none (own_free st1.own hp), upd_same]) (strs_rp _))⟩)
theorem ewt_ix (h : EWT X O ρ a x fun s1 O1 => EW X O1 ρ b x fun s2 O2 => IxB X s1 s2 O2 k) (hs : PlainIx b := by intro _ _; rfl) : EWT X O ρ (.Subscript a b pos) x k := fun H0 σ H st tk Q q => by
  have main : IxR X (fun v1 v2 H2 Q => ∃ r, IxR X r ∧ r v1 v2 H2 Q) := fun value slice pins s σ H z y v u Q I rx ry ⟨r, ho, hr⟩ hs => ho value slice pins s σ H z y v u Q I rx ry hr hs
  refine wet_of (pet_ix main pet_w pe_w hs) (h H0 σ H st tk _ fun v1 H1 s1 O1 h1 st1 r1 => ?_)
  refine h1 (hid O1 H1) σ H1 st1.top (takes_base tk st1.base) _ fun v2 H2 s2 O2 ⟨r, ho, hr⟩ st2 r2 => ⟨r, ho, ?_⟩
  exact hr H0 σ ρ H2 v1 v2 (st2.rebase st1.base) (SlOk.mono st2.base r1) r2 Q q
theorem tlc_ofT {elt : Expr} {ifs : List Expr} {scope : Scope} {vs : List Nat} {T : Dat → List Slot → List Slot → Prop} {g : TG}
    (hg : ∀ {H0 H : Hp} {O : Own} {σ : SV} {ρ ρ' : List Slot} {v : V} {d : Dat} {Q : SV → Hp → Prop}, StOk X.K H0 O (wipe σ vs) ρ H → Rp X.K (hid O H) v d → T d ρ ρ' → (∀ σ', StOk X.K H0 O σ' ρ' H → wipe σ' vs = wipe σ vs → Q σ' H) → g v (wipe σ vs) H Q)
    (h : IW X O ρ tg iter x fun ds O1 => ds.length ≤ sizeLine ∧ ∃ J : Nat → List Slot → Own → Prop, J 0 [] O1 ∧
      (∀ i d acc O', J i acc O' → ds[i]? = some d → ∃ ρ', T d (wipeS ρ vs) ρ' ∧ ∀ Dd, O' Dd = none → ∀ Y, Blk X scope Y → TsW Y (up O' Dd (.lst acc)) ρ' ifs noX fun t O2 =>
        (t = true → ∀ Z, Blk X scope Z → EWT Z O2 ρ' elt noX fun s O3 => ∃ O4, O3 = up O4 Dd (.lst acc) ∧ O4 Dd = none ∧ J (i + 1) (acc ++ [s]) O4) ∧ (t = false → ∃ O4, O2 = up O4 Dd (.lst acc) ∧ O4 Dd = none ∧ J (i + 1) acc O4)) ∧
      ∀ acc O', J ds.length acc O' → ∀ p, O' p = none → k (.own p) (up O' p (.lst acc))) {H0 : Hp} {σ : SV} {H : Hp} {Q : VK} (st : StOk X.K H0 O σ ρ H) (tk : Takes X (Wsem X.K H0 x))
    (q : ∀ v H' s O', k s O' → StOk X.K H0 O' σ ρ H' → SlOk X.K (hid O' H') v s → Q v H') :
    tLc (Wi X tg iter) g (fun σ H Q => ∀ Y, Blk X scope Y → ∀ (pins : List (Addr × Obj)) (s : Shared), Inv Y pins σ H s →
      wpAny (model Y.prog Y.w) Y.A (forIn ifs true fun c r => if r = true then do let ok ← isTrue c Y.env (eval c Y.env); pure (ForInStep.yield ok) else pure (ForInStep.yield r)) (TP Y pins σ Q) Y.xe s)
      (fun σ H Q => ∀ Y, Blk X scope Y → WeT Y elt σ H Q) vs σ H Q := by
  refine h H0 σ H st tk _ fun J0 H1 ds O1 ⟨hz, J, j0, js, je⟩ st1 it => ?_
  intro Dd hD
  have hOD : O1 Dd = none := own_free st1.own hD
  have gS : Same (hid O1 H1) (hid (up O1 Dd (.lst [])) (upd H1 Dd (.lst []))) := fun b o hb => by
    obtain ⟨z1, z2⟩ := of_hid hb
    have nb := ne_of_none z2 hD
    rw [hid_none (by rw [up_ne nb]; exact z1), upd_ne nb]
    exact z2
  -- the store with the new list as a cell, over the greatest base
  refine ⟨fun i m H' => i + m = ds.length ∧ ∃ acc O', J i acc O' ∧ O' Dd = none ∧ acc.length ≤ i ∧ StOk X.K (hid O1 H1) (up O' Dd (.lst acc)) σ ρ H',
    ⟨ds.length, by omega, [], O1, j0, hOD, Nat.le_refl _, ⟨?_, gS, pmap (fun _ _ z => EnvOk.mono gS z) st1.env⟩⟩, fun i m H' hW => ?_⟩
  · exact (st1.alloc (o := .lst []) (c := .lst []) hD ⟨[], rfl, .nil⟩).own
  · obtain ⟨em, acc, O', hj, nD, hacc, st'⟩ := hW
    obtain ⟨i1, i2⟩ := it _ H' st'.own st'.base i
    cases hd : ds[i]? with
    | none =>
      have hi : ds.length ≤ i := List.getElem?_eq_none_iff.mp hd
      have ei : i = ds.length := by omega
      subst ei
      exact .inl ⟨i2 hd, q _ H' _ _ (je acc O' hj Dd nD) (st'.rebase st1.base) rfl⟩
    | some d =>
      have hi : i < ds.length := (List.getElem?_eq_some_iff.mp hd).1
      obtain ⟨g1, g2⟩ := i1 d hd
      obtain ⟨ρ', ht, hb⟩ := js i d acc O' hj hd
      have hb := hb Dd nD
      refine .inr ⟨g1, fun H'' => ∃ acc2 O2, J (i + 1) acc2 O2 ∧ O2 Dd = none ∧ acc2.length ≤ i + 1 ∧ StOk X.K (hid O1 H1) (up O2 Dd (.lst acc2)) σ ρ H'', fun H'' hN => ⟨m - 1, by omega, by omega, hN⟩, fun v H2 hy => ?_⟩
      obtain ⟨s1, r1⟩ := g2 v H2 hy
      have st2 := st'.grow s1
      refine hg (σ := σ) (st2.wipe vs) r1 ht fun σ' st3 hw => ⟨hw, fun Y hY pins s I => ?_⟩
      obtain ⟨sY, HY, CY, clY, fpY, eY⟩ := id hY
      have eK : Y.K = X.K := by rw [eY]
      have st3Y : StOk Y.K (hid O1 H1) (up O' Dd (.lst acc)) σ' ρ' H2 := by rw [eK]; exact st3
      refine (hb Y hY (hid O1 H1) σ' H2 st3Y takes_no _ fun t H3 O3 h3 st4 => ?_).r pins s I
      -- the way back to the outer names
      have env2 : Paired (EnvOk X.K (hid (up O' Dd (.lst acc)) H2)) σ ρ := st2.env
      cases t with
      | false =>
        obtain ⟨O4, e4, n4, j4⟩ := h3.2 rfl
        subst e4
        refine iteF ⟨acc, O4, j4, n4, by omega, ?_⟩
        rw [eK] at st4
        exact ⟨st4.own, st4.base, pmap (fun _ _ z => EnvOk.mono st4.base z) st1.env⟩
      | true =>
        refine iteT fun Z hZ => ?_
        obtain ⟨sZ, HZ, CZ, clZ, fpZ, eZ⟩ := id hZ
        have eKZ : Z.K = X.K := by rw [eZ]
        have eYZ : Z.K = Y.K := by rw [eZ, eY]
        refine (h3.1 rfl) Z hZ (hid O1 H1) σ' H3 (by rw [eYZ]; exact st4) takes_no _ fun u H5 s5 O5 h5 st5 r5 => ?_
        obtain ⟨O4, e4, n4, j4⟩ := h5
        subst e4
        rw [eKZ] at st5 r5
        obtain ⟨o5, c1, xs5, rfl, c2⟩ := st5.own.cell Dd _ up_at
        have lx : xs5.length = acc.length := paired_len c2
        have gw : Same (hid (up O4 Dd (.lst acc)) H5) (hid (up O4 Dd (.lst (acc ++ [s5]))) (upd H5 Dd (.lst (xs5 ++ [u])))) := by
          have := hid_write (H := H5) (o := .lst (xs5 ++ [u])) (c := .lst (acc ++ [s5])) (O := up O4 Dd (.lst acc)) up_at
          rw [up_up] at this
          exact this
        have st6 := st5.write (o := .lst (xs5 ++ [u])) (c := .lst (acc ++ [s5])) up_at ⟨_, rfl, paired_app c2 (.cons r5 .nil)⟩
        rw [up_up] at st6
        refine ⟨xs5, c1, by omega, acc ++ [s5], O4, j4, n4, by rw [List.length_append]; exact Nat.add_le_add_right hacc 1, ⟨st6.own, st6.base, pmap (fun _ _ z => EnvOk.mono st6.base z) st1.env⟩⟩
theorem s1t_setLc (own : List (Str × Nat)) (i : Nat) {nm : Str} {py spos : Pos} {elt : Expr} {ifs : List Expr} {scope : Scope} {T : Dat → List Slot → List Slot → Prop} (hN : X.N.Nodup) (tg_ok : Tgt X scope (own.map (·.2)) tg T) (ok : BlkOk X.N X.env.scope scope own)
    (h : IW X O ρ tg iter x fun ds O1 => ds.length ≤ sizeLine ∧ ∃ J : Nat → List Slot → Own → Prop, J 0 [] O1 ∧
      (∀ i d acc O', J i acc O' → ds[i]? = some d → ∃ ρ', T d (wipeS ρ (own.map (·.2))) ρ' ∧ ∀ Dd, O' Dd = none → ∀ Y, Blk X scope Y → TsW Y (up O' Dd (.lst acc)) ρ' ifs noX fun t O2 =>
        (t = true → ∀ Z, Blk X scope Z → EWT Z O2 ρ' elt noX fun s O3 => ∃ O4, O3 = up O4 Dd (.lst acc) ∧ O4 Dd = none ∧ J (i + 1) (acc ++ [s]) O4) ∧ (t = false → ∃ O4, O2 = up O4 Dd (.lst acc) ∧ O4 Dd = none ∧ J (i + 1) acc O4)) ∧
      ∀ acc O', J ds.length acc O' → ∀ p, O' p = none → D.nx (ρ.set i (.own p)) (up O' p (.lst acc))) (hc : X.calm = true := by rfl)
    (hy : X.N[i]? = some nm := by rfl) (hyl : X.env.scope.names.lookup nm = some .local := by rfl)
    (hsw : swapsWith (.ListComp elt [⟨tg, iter, ifs, 0⟩] scope pos) (some (.Name nm py)) spos.line X.env = pure true := by exact sw_true rfl rfl rfl (by decide +kernel)) (hs : ∀ x, foldedSetIterable iter X.env x = pure x := by intro _; rfl) :
    S1T X O ρ (.Assign [.Name nm py] (.ListComp elt [⟨tg, iter, ifs, 0⟩] scope pos) spos) x D := fun H0 σ H st tk E okE => by
  obtain ⟨g, g1, g2⟩ := tgt_run tg_ok
  exact wst_of (pst_setLc hc hN hy hyl hsw pi_w ok hs fun Y hY => ⟨g1 _ hY, ⟨fun pins sh σ H5 Q I hq => hq _ hY pins sh I⟩, fun pins sh σ H5 Q h0 I hq => (hq _ hY).r pins sh h0 I⟩)
    (tlc_ofT (k := fun s O' => D.nx (ρ.set i s) O') g2 h st tk fun v H' s O' hq st' r => okE.nx _ _ O' H' hq (st'.set r))
end
end Kn
namespace Lw
open PySem PySem.Spec PyProof.Rows
open L2 hiding St
open Kn
def topS (i : Nat) : Stmt := PySem.Challenge.pw_keptnomore_k20_questions_too_great.main.body.getD i (.Pass ⟨0, 0, 0, 0⟩)
abbrev s_wall : Stmt := topS 0
abbrev N_wall : List Str := ["k"]
theorem sc_wall : FnScope ["k"] ["k"] (defScope s_wall) := ⟨rfl, rfl, rfl, by decide +kernel, rfl, by decide +kernel, by decide +kernel⟩
abbrev s_split_words : Stmt := topS 3
abbrev N_split_words : List Str := ["row"]
theorem sc_split_words : FnScope ["row"] ["row"] (defScope s_split_words) := ⟨rfl, rfl, rfl, by decide +kernel, rfl, by decide +kernel, by decide +kernel⟩
abbrev s_is_made_of : Stmt := topS 4
abbrev N_is_made_of : List Str := ["value", "letters", "most", "sign"]
theorem sc_is_made_of : FnScope ["value", "letters", "most", "sign"] ["value", "letters", "most"] (defScope s_is_made_of) := ⟨rfl, rfl, rfl, by decide +kernel, rfl, by decide +kernel, by decide +kernel⟩
abbrev s_is_kind_name : Stmt := topS 5
abbrev N_is_kind_name : List Str := ["value"]
theorem sc_is_kind_name : FnScope ["value"] ["value"] (defScope s_is_kind_name) := ⟨rfl, rfl, rfl, by decide +kernel, rfl, by decide +kernel, by decide +kernel⟩
abbrev s_own_copy : Stmt := topS 6
abbrev N_own_copy : List Str := ["value", "one"]
theorem sc_own_copy : FnScope ["value", "one"] ["value"] (defScope s_own_copy) := ⟨rfl, rfl, rfl, by decide +kernel, rfl, by decide +kernel, by decide +kernel⟩
abbrev s_NoKinds_init : Stmt := inClass (topS 9) 0
abbrev N_NoKinds_init : List Str := ["self", "row"]
theorem sc_NoKinds_init : FnScope ["self", "row"] ["self", "row"] (defScope s_NoKinds_init) := ⟨rfl, rfl, rfl, by decide +kernel, rfl, by decide +kernel, by decide +kernel⟩
abbrev s_NoRules_init : Stmt := inClass (topS 10) 0
abbrev N_NoRules_init : List Str := ["self", "row"]
theorem sc_NoRules_init : FnScope ["self", "row"] ["self", "row"] (defScope s_NoRules_init) := ⟨rfl, rfl, rfl, by decide +kernel, rfl, by decide +kernel, by decide +kernel⟩
abbrev s_NoQuestion_init : Stmt := inClass (topS 11) 0
abbrev N_NoQuestion_init : List Str := ["self", "at"]
theorem sc_NoQuestion_init : FnScope ["self", "at"] ["self", "at"] (defScope s_NoQuestion_init) := ⟨rfl, rfl, rfl, by decide +kernel, rfl, by decide +kernel, by decide +kernel⟩
abbrev s_TooMany_init : Stmt := inClass (topS 12) 0
abbrev N_TooMany_init : List Str := ["self", "word"]
theorem sc_TooMany_init : FnScope ["self", "word"] ["self", "word"] (defScope s_TooMany_init) := ⟨rfl, rfl, rfl, by decide +kernel, rfl, by decide +kernel, by decide +kernel⟩
abbrev s_joined : Stmt := topS 17
abbrev N_joined : List Str := ["word", "parts", "found", "part"]
theorem sc_joined : FnScope ["word", "parts", "found", "part"] ["word", "parts"] (defScope s_joined) := ⟨rfl, rfl, rfl, by decide +kernel, rfl, by decide +kernel, by decide +kernel⟩
abbrev s_look_at_size : Stmt := topS 18
abbrev N_look_at_size : List Str := ["atoms", "deep"]
theorem sc_look_at_size : FnScope ["atoms", "deep"] ["atoms", "deep"] (defScope s_look_at_size) := ⟨rfl, rfl, rfl, by decide +kernel, rfl, by decide +kernel, by decide +kernel⟩
abbrev s_Frame_init : Stmt := inClass (topS 19) 1
abbrev N_Frame_init : List Str := ["self"]
theorem sc_Frame_init : FnScope ["self"] ["self"] (defScope s_Frame_init) := ⟨rfl, rfl, rfl, by decide +kernel, rfl, by decide +kernel, by decide +kernel⟩
abbrev s_Frame_add : Stmt := inClass (topS 19) 2
abbrev N_Frame_add : List Str := ["self", "part", "head"]
theorem sc_Frame_add : FnScope ["self", "part", "head"] ["self", "part"] (defScope s_Frame_add) := ⟨rfl, rfl, rfl, by decide +kernel, rfl, by decide +kernel, by decide +kernel⟩
abbrev s_Frame_end_group : Stmt := inClass (topS 19) 3
abbrev N_Frame_end_group : List Str := ["self"]
theorem sc_Frame_end_group : FnScope ["self"] ["self"] (defScope s_Frame_end_group) := ⟨rfl, rfl, rfl, by decide +kernel, rfl, by decide +kernel, by decide +kernel⟩
abbrev s_Frame_ended : Stmt := inClass (topS 19) 4
abbrev N_Frame_ended : List Str := ["self"]
theorem sc_Frame_ended : FnScope ["self"] ["self"] (defScope s_Frame_ended) := ⟨rfl, rfl, rfl, by decide +kernel, rfl, by decide +kernel, by decide +kernel⟩
abbrev s_Reader_init : Stmt := inClass (topS 20) 1
abbrev N_Reader_init : List Str := ["self", "words"]
theorem sc_Reader_init : FnScope ["self", "words"] ["self", "words"] (defScope s_Reader_init) := ⟨rfl, rfl, rfl, by decide +kernel, rfl, by decide +kernel, by decide +kernel⟩
abbrev s_Reader_refuse : Stmt := inClass (topS 20) 2
abbrev N_Reader_refuse : List Str := ["self"]
theorem sc_Reader_refuse : FnScope ["self"] ["self"] (defScope s_Reader_refuse) := ⟨rfl, rfl, rfl, by decide +kernel, rfl, by decide +kernel, by decide +kernel⟩
abbrev s_Reader_coming : Stmt := inClass (topS 20) 3
abbrev N_Reader_coming : List Str := ["self"]
theorem sc_Reader_coming : FnScope ["self"] ["self"] (defScope s_Reader_coming) := ⟨rfl, rfl, rfl, by decide +kernel, rfl, by decide +kernel, by decide +kernel⟩
abbrev s_Reader_pass_one : Stmt := inClass (topS 20) 4
abbrev N_Reader_pass_one : List Str := ["self", "allowed", "word"]
theorem sc_Reader_pass_one : FnScope ["self", "allowed", "word"] ["self", "allowed"] (defScope s_Reader_pass_one) := ⟨rfl, rfl, rfl, by decide +kernel, rfl, by decide +kernel, by decide +kernel⟩
abbrev s_Reader_pass_kind : Stmt := inClass (topS 20) 5
abbrev N_Reader_pass_kind : List Str := ["self", "word"]
theorem sc_Reader_pass_kind : FnScope ["self", "word"] ["self"] (defScope s_Reader_pass_kind) := ⟨rfl, rfl, rfl, by decide +kernel, rfl, by decide +kernel, by decide +kernel⟩
abbrev s_Reader_go_deeper : Stmt := inClass (topS 20) 6
abbrev N_Reader_go_deeper : List Str := ["self"]
theorem sc_Reader_go_deeper : FnScope ["self"] ["self"] (defScope s_Reader_go_deeper) := ⟨rfl, rfl, rfl, by decide +kernel, rfl, by decide +kernel, by decide +kernel⟩
abbrev s_Reader_read_atom : Stmt := inClass (topS 20) 7
abbrev N_Reader_read_atom : List Str := ["self"]
theorem sc_Reader_read_atom : FnScope ["self"] ["self"] (defScope s_Reader_read_atom) := ⟨rfl, rfl, rfl, by decide +kernel, rfl, by decide +kernel, by decide +kernel⟩
abbrev s_Reader_read_part : Stmt := inClass (topS 20) 8
abbrev N_Reader_read_part : List Str := ["self", "word", "atom"]
theorem sc_Reader_read_part : FnScope ["self", "word", "atom"] ["self"] (defScope s_Reader_read_part) := ⟨rfl, rfl, rfl, by decide +kernel, rfl, by decide +kernel, by decide +kernel⟩
abbrev s_Reader_add : Stmt := inClass (topS 20) 9
abbrev N_Reader_add : List Str := ["self", "part", "frame"]
theorem sc_Reader_add : FnScope ["self", "part", "frame"] ["self", "part"] (defScope s_Reader_add) := ⟨rfl, rfl, rfl, by decide +kernel, rfl, by decide +kernel, by decide +kernel⟩
abbrev s_Reader_read_between : Stmt := inClass (topS 20) 10
abbrev N_Reader_read_between : List Str := ["self", "word", "part"]
theorem sc_Reader_read_between : FnScope ["self", "word", "part"] ["self"] (defScope s_Reader_read_between) := ⟨rfl, rfl, rfl, by decide +kernel, rfl, by decide +kernel, by decide +kernel⟩
abbrev s_Reader_whole : Stmt := inClass (topS 20) 11
abbrev N_Reader_whole : List Str := ["self", "is_wanted"]
theorem sc_Reader_whole : FnScope ["self", "is_wanted"] ["self"] (defScope s_Reader_whole) := ⟨rfl, rfl, rfl, by decide +kernel, rfl, by decide +kernel, by decide +kernel⟩
abbrev s_shown_part : Stmt := topS 21
abbrev N_shown_part : List Str := ["part", "word", "needs"]
theorem sc_shown_part : FnScope ["part", "word", "needs"] ["part", "word"] (defScope s_shown_part) := ⟨rfl, rfl, rfl, by decide +kernel, rfl, by decide +kernel, by decide +kernel⟩
abbrev s_shown : Stmt := topS 22
abbrev N_shown : List Str := ["condition", "word", "piece"]
theorem sc_shown : FnScope ["condition", "word", "piece"] ["condition"] (defScope s_shown) := ⟨rfl, rfl, rfl, by decide +kernel, rfl, by decide +kernel, by decide +kernel⟩
abbrev s_depth_of : Stmt := topS 23
abbrev N_depth_of : List Str := ["condition", "word", "piece"]
theorem sc_depth_of : FnScope ["condition", "word", "piece"] ["condition"] (defScope s_depth_of) := ⟨rfl, rfl, rfl, by decide +kernel, rfl, by decide +kernel, by decide +kernel⟩
abbrev s_atoms_of : Stmt := topS 24
abbrev N_atoms_of : List Str := ["condition", "piece", "atom"]
theorem sc_atoms_of : FnScope ["condition", "piece", "atom"] ["condition"] (defScope s_atoms_of) := ⟨rfl, rfl, rfl, by decide +kernel, rfl, by decide +kernel, by decide +kernel⟩
abbrev s_QuestionReader_read_atom : Stmt := inClass (topS 28) 1
abbrev N_QuestionReader_read_atom : List Str := ["self", "word"]
theorem sc_QuestionReader_read_atom : FnScope ["self", "word"] ["self"] (defScope s_QuestionReader_read_atom) := ⟨rfl, rfl, rfl, by decide +kernel, rfl, by decide +kernel, by decide +kernel⟩
abbrev s_outers_of : Stmt := topS 29
abbrev N_outers_of : List Str := ["condition", "found", "word", "rest"]
theorem sc_outers_of : FnScope ["condition", "found", "word", "rest"] ["condition"] (defScope s_outers_of) := ⟨rfl, rfl, rfl, by decide +kernel, rfl, by decide +kernel, by decide +kernel⟩
abbrev s_Question_init : Stmt := inClass (topS 30) 0
abbrev N_Question_init : List Str := ["self", "tree"]
theorem sc_Question_init : FnScope ["self", "tree"] ["self", "tree"] (defScope s_Question_init) := ⟨rfl, rfl, rfl, by decide +kernel, rfl, by decide +kernel, by decide +kernel⟩
abbrev s_Question_read : Stmt := inClass (topS 30) 1
abbrev N_Question_read : List Str := ["cls", "text", "reader", "tree"]
theorem sc_Question_read : FnScope ["cls", "text", "reader", "tree"] ["cls", "text"] (defScope s_Question_read) := ⟨rfl, rfl, rfl, by decide +kernel, rfl, by decide +kernel, by decide +kernel⟩
abbrev s_Question_sized : Stmt := inClass (topS 30) 2
abbrev N_Question_sized : List Str := ["cls", "tree", "atoms", "deep", "found"]
theorem sc_Question_sized : FnScope ["cls", "tree", "atoms", "deep", "found"] ["cls", "tree", "atoms", "deep"] (defScope s_Question_sized) := ⟨rfl, rfl, rfl, by decide +kernel, rfl, by decide +kernel, by decide +kernel⟩
abbrev s_Question_made : Stmt := inClass (topS 30) 3
abbrev N_Question_made : List Str := ["cls", "tree"]
theorem sc_Question_made : FnScope ["cls", "tree"] ["cls", "tree"] (defScope s_Question_made) := ⟨rfl, rfl, rfl, by decide +kernel, rfl, by decide +kernel, by decide +kernel⟩
abbrev s_Question_str : Stmt := inClass (topS 30) 4
abbrev N_Question_str : List Str := ["self"]
theorem sc_Question_str : FnScope ["self"] ["self"] (defScope s_Question_str) := ⟨rfl, rfl, rfl, by decide +kernel, rfl, by decide +kernel, by decide +kernel⟩
abbrev s_Question_eq : Stmt := inClass (topS 30) 5
abbrev N_Question_eq : List Str := ["self", "other"]
theorem sc_Question_eq : FnScope ["self", "other"] ["self", "other"] (defScope s_Question_eq) := ⟨rfl, rfl, rfl, by decide +kernel, rfl, by decide +kernel, by decide +kernel⟩
abbrev s_Question_and : Stmt := inClass (topS 30) 6
abbrev N_Question_and : List Str := ["self", "other"]
theorem sc_Question_and : FnScope ["self", "other"] ["self", "other"] (defScope s_Question_and) := ⟨rfl, rfl, rfl, by decide +kernel, rfl, by decide +kernel, by decide +kernel⟩
abbrev s_Question_or : Stmt := inClass (topS 30) 7
abbrev N_Question_or : List Str := ["self", "other"]
theorem sc_Question_or : FnScope ["self", "other"] ["self", "other"] (defScope s_Question_or) := ⟨rfl, rfl, rfl, by decide +kernel, rfl, by decide +kernel, by decide +kernel⟩
abbrev s_Question_invert : Stmt := inClass (topS 30) 8
abbrev N_Question_invert : List Str := ["self"]
theorem sc_Question_invert : FnScope ["self"] ["self"] (defScope s_Question_invert) := ⟨rfl, rfl, rfl, by decide +kernel, rfl, by decide +kernel, by decide +kernel⟩
abbrev s_Question_need_kinds : Stmt := inClass (topS 30) 9
abbrev N_Question_need_kinds : List Str := ["self", "kinds"]
theorem sc_Question_need_kinds : FnScope ["self", "kinds"] ["self", "kinds"] (defScope s_Question_need_kinds) := ⟨rfl, rfl, rfl, by decide +kernel, rfl, by decide +kernel, by decide +kernel⟩
abbrev s_Question_picks : Stmt := inClass (topS 30) 10
abbrev N_Question_picks : List Str := ["self", "kinds", "tree"]
theorem sc_Question_picks : FnScope ["self", "kinds", "tree"] ["self", "kinds", "tree"] (defScope s_Question_picks) := ⟨rfl, rfl, rfl, by decide +kernel, rfl, by decide +kernel, by decide +kernel⟩
abbrev s_law_box : Stmt := topS 32
abbrev N_law_box : List Str := ["_law_script", "_law_k", "_law_own", "_law_cell", "_law_seed"]
theorem sc_law_box : FnScope ["_law_script", "_law_k", "_law_own", "_law_cell", "_law_seed"] ["_law_script", "_law_k", "_law_own"] (defScope s_law_box) := ⟨rfl, rfl, rfl, by decide +kernel, rfl, by decide +kernel, by decide +kernel⟩
abbrev s_law_take : Stmt := topS 33
abbrev N_law_take : List Str := ["_law_box_here", "_law_many", "_law_digit", "_law_raw"]
theorem sc_law_take : FnScope ["_law_box_here", "_law_many", "_law_digit", "_law_raw"] ["_law_box_here", "_law_many"] (defScope s_law_take) := ⟨rfl, rfl, rfl, by decide +kernel, rfl, by decide +kernel, by decide +kernel⟩
abbrev s_law_mixed : Stmt := topS 34
abbrev N_law_mixed : List Str := ["_law_box_here", "_law_items", "_law_left", "_law_found"]
theorem sc_law_mixed : FnScope ["_law_box_here", "_law_items", "_law_left", "_law_found"] ["_law_box_here", "_law_items"] (defScope s_law_mixed) := ⟨rfl, rfl, rfl, by decide +kernel, rfl, by decide +kernel, by decide +kernel⟩
abbrev s_law_pick : Stmt := topS 35
abbrev N_law_pick : List Str := ["_law_box_here", "_law_items"]
theorem sc_law_pick : FnScope ["_law_box_here", "_law_items"] ["_law_box_here", "_law_items"] (defScope s_law_pick) := ⟨rfl, rfl, rfl, by decide +kernel, rfl, by decide +kernel, by decide +kernel⟩
abbrev s_law_caps : Stmt := topS 36
abbrev N_law_caps : List Str := ["_law_box_here", "_law_many", "_law_letters", "_law_first", "_law_stem", "_law_k"]
theorem sc_law_caps : FnScope ["_law_box_here", "_law_many", "_law_letters", "_law_first", "_law_stem", "_law_k"] ["_law_box_here", "_law_many"] (defScope s_law_caps) := ⟨rfl, rfl, rfl, by decide +kernel, rfl, by decide +kernel, by decide +kernel⟩
abbrev s_law_bound : Stmt := topS 37
abbrev N_law_bound : List Str := ["_law_tree", "_law_word", "_law_text", "_law_needs"]
theorem sc_law_bound : FnScope ["_law_tree", "_law_word", "_law_text", "_law_needs"] ["_law_tree", "_law_word"] (defScope s_law_bound) := ⟨rfl, rfl, rfl, by decide +kernel, rfl, by decide +kernel, by decide +kernel⟩
abbrev s_law_shown : Stmt := topS 38
abbrev N_law_shown : List Str := ["_law_tree", "_law_word"]
theorem sc_law_shown : FnScope ["_law_tree", "_law_word"] ["_law_tree"] (defScope s_law_shown) := ⟨rfl, rfl, rfl, by decide +kernel, rfl, by decide +kernel, by decide +kernel⟩
abbrev s_law_written : Stmt := topS 39
abbrev N_law_written : List Str := ["_law_box_here", "_law_tree", "_law_word", "_law_one", "_law_two", "_law_some", "_law_part", "_law_text", "_law_found"]
theorem sc_law_written : FnScope ["_law_box_here", "_law_tree", "_law_word", "_law_one", "_law_two", "_law_some", "_law_part", "_law_text", "_law_found"] ["_law_box_here", "_law_tree"] (defScope s_law_written) := ⟨rfl, rfl, rfl, by decide +kernel, rfl, by decide +kernel, by decide +kernel⟩
abbrev s_law_closed : Stmt := topS 40
abbrev N_law_closed : List Str := ["_law_found"]
theorem sc_law_closed : FnScope ["_law_found"] ["_law_found"] (defScope s_law_closed) := ⟨rfl, rfl, rfl, by decide +kernel, rfl, by decide +kernel, by decide +kernel⟩
abbrev s_law_tokens : Stmt := topS 41
abbrev N_law_tokens : List Str := ["_law_tree"]
theorem sc_law_tokens : FnScope ["_law_tree"] ["_law_tree"] (defScope s_law_tokens) := ⟨rfl, rfl, rfl, by decide +kernel, rfl, by decide +kernel, by decide +kernel⟩
abbrev s_law_excess : Stmt := topS 42
abbrev N_law_excess : List Str := ["_law_tree", "_law_deep", "_law_atoms", "_law_outer", "_law_atom", "_law_some", "_law_word", "_law_is_so"]
theorem sc_law_excess : FnScope ["_law_tree", "_law_deep", "_law_atoms", "_law_outer", "_law_atom", "_law_some", "_law_word", "_law_is_so"] ["_law_tree", "_law_deep"] (defScope s_law_excess) := ⟨rfl, rfl, rfl, by decide +kernel, rfl, by decide +kernel, by decide +kernel⟩
abbrev s_law_question_read : Stmt := topS 43
abbrev N_law_question_read : List Str := ["_law_text", "_law_found", "e"]
theorem sc_law_question_read : FnScope ["_law_text", "_law_found", "e"] ["_law_text"] (defScope s_law_question_read) := ⟨rfl, rfl, rfl, by decide +kernel, rfl, by decide +kernel, by decide +kernel⟩
abbrev s_law_wish : Stmt := topS 44
abbrev N_law_wish : List Str := ["_law_box_here", "_law_caps_here", "_law_size", "_law_word", "_law_atom", "_law_form", "_law_left", "_law_one", "_law_other", "_law_tree"]
theorem sc_law_wish : FnScope ["_law_box_here", "_law_caps_here", "_law_size", "_law_word", "_law_atom", "_law_form", "_law_left", "_law_one", "_law_other", "_law_tree"] ["_law_box_here", "_law_caps_here", "_law_size"] (defScope s_law_wish) := ⟨rfl, rfl, rfl, by decide +kernel, rfl, by decide +kernel, by decide +kernel⟩
abbrev s_law_deeper : Stmt := topS 45
abbrev N_law_deeper : List Str := ["_law_box_here", "_law_found", "_law_text", "_law_deep", "_law_more", "_law_turn", "_law_word"]
theorem sc_law_deeper : FnScope ["_law_box_here", "_law_found", "_law_text", "_law_deep", "_law_more", "_law_turn", "_law_word"] ["_law_box_here", "_law_found"] (defScope s_law_deeper) := ⟨rfl, rfl, rfl, by decide +kernel, rfl, by decide +kernel, by decide +kernel⟩
abbrev s_law_far_right : Stmt := topS 46
abbrev N_law_far_right : List Str := ["_law_many", "_law_word", "_law_closed_here", "_law_text", "_law_due"]
theorem sc_law_far_right : FnScope ["_law_many", "_law_word", "_law_closed_here", "_law_text", "_law_due"] ["_law_many"] (defScope s_law_far_right) := ⟨rfl, rfl, rfl, by decide +kernel, rfl, by decide +kernel, by decide +kernel⟩
abbrev s_law : Stmt := topS 47
abbrev N_law : List Str := ["_law_script", "_law_k", "_law_box_here", "_law_caps_here", "_law_turn", "_law_tree", "_law_text", "_law_deep", "_law_excess_here", "_law_plain", "_law_more", "_law_found", "_law_many", "_law_outer", "_law_some", "_law_inner", "_law_unlike", "_law_a", "_law_b", "_law_word", "_law_same"]
theorem sc_law : FnScope ["_law_script", "_law_k", "_law_box_here", "_law_caps_here", "_law_turn", "_law_tree", "_law_text", "_law_deep", "_law_excess_here", "_law_plain", "_law_more", "_law_found", "_law_many", "_law_outer", "_law_some", "_law_inner", "_law_unlike", "_law_a", "_law_b", "_law_word", "_law_same"] ["_law_script"] (defScope s_law) := ⟨rfl, rfl, rfl, by decide +kernel, rfl, by decide +kernel, by decide +kernel⟩
def k_KIND_LETTERS : Str := "ABCDEFGHIJKLMNOPQRSTUVWXYZ"
def k_JOINING : List Str := ["and", "or"]
def k_OUTER_WORDS : List Str := ["parent", "above"]
structure Facts (K : PySem.W.Frag) : Prop where
  n_isinstance : PySem.W.nsIn K mainGlobals "isinstance" = some none
  n_str : PySem.W.nsIn K mainGlobals "str" = some none
  n_all : PySem.W.nsIn K mainGlobals "all" = some none
  n_len : PySem.W.nsIn K mainGlobals "len" = some none
  n_list : PySem.W.nsIn K mainGlobals "list" = some none
  n_tuple : PySem.W.nsIn K mainGlobals "tuple" = some none
  n_reversed : PySem.W.nsIn K mainGlobals "reversed" = some none
  n_max : PySem.W.nsIn K mainGlobals "max" = some none
  n_NotImplementedError : PySem.W.nsIn K mainGlobals "NotImplementedError" = some none
  n_int : PySem.W.nsIn K mainGlobals "int" = some none
  n_classmethod : PySem.W.nsIn K mainGlobals "classmethod" = some none
  n_abs : PySem.W.nsIn K mainGlobals "abs" = some none
  n_range : PySem.W.nsIn K mainGlobals "range" = some none
  n_set : PySem.W.nsIn K mainGlobals "set" = some none
  n_min : PySem.W.nsIn K mainGlobals "min" = some none
  d_wall : DefIn K "_wall" s_wall
  d_split_words : DefIn K "split_words" s_split_words
  d_is_made_of : DefIn K "is_made_of" s_is_made_of
  d_is_kind_name : DefIn K "is_kind_name" s_is_kind_name
  d_own_copy : DefIn K "own_copy" s_own_copy
  d_joined : DefIn K "joined" s_joined
  d_look_at_size : DefIn K "look_at_size" s_look_at_size
  d_shown_part : DefIn K "shown_part" s_shown_part
  d_shown : DefIn K "shown" s_shown
  d_depth_of : DefIn K "depth_of" s_depth_of
  d_atoms_of : DefIn K "atoms_of" s_atoms_of
  d_outers_of : DefIn K "outers_of" s_outers_of
  d_law_box : DefIn K "_law_box" s_law_box
  d_law_take : DefIn K "_law_take" s_law_take
  d_law_mixed : DefIn K "_law_mixed" s_law_mixed
  d_law_pick : DefIn K "_law_pick" s_law_pick
  d_law_caps : DefIn K "_law_caps" s_law_caps
  d_law_bound : DefIn K "_law_bound" s_law_bound
  d_law_shown : DefIn K "_law_shown" s_law_shown
  d_law_written : DefIn K "_law_written" s_law_written
  d_law_closed : DefIn K "_law_closed" s_law_closed
  d_law_tokens : DefIn K "_law_tokens" s_law_tokens
  d_law_excess : DefIn K "_law_excess" s_law_excess
  d_law_question_read : DefIn K "_law_question_read" s_law_question_read
  d_law_wish : DefIn K "_law_wish" s_law_wish
  d_law_deeper : DefIn K "_law_deeper" s_law_deeper
  d_law_far_right : DefIn K "_law_far_right" s_law_far_right
  d_law : DefIn K "law" s_law
  g_KIND_LETTERS : TextIn K "KIND_LETTERS" k_KIND_LETTERS
  g_MOST_ATOMS : IntIn K "MOST_ATOMS" 8
  g_MOST_DEEP : IntIn K "MOST_DEEP" 6
  g_JOINING : TextsIn K "JOINING" k_JOINING
  g_MOST_OUTER : IntIn K "MOST_OUTER" 2
  g_OUTER_WORDS : TextsIn K "OUTER_WORDS" k_OUTER_WORDS
  x_NoKinds : ∃ C B, ExcIn K "NoKinds" "NoKinds.__init__" "KeptError" s_NoKinds_init C B ∧ PySem.W.findIn K (.ref C) "row" = some none
  x_NoRules : ∃ C B, ExcIn K "NoRules" "NoRules.__init__" "KeptError" s_NoRules_init C B ∧ PySem.W.findIn K (.ref C) "row" = some none
  x_NoQuestion : ∃ C B, ExcIn K "NoQuestion" "NoQuestion.__init__" "KeptError" s_NoQuestion_init C B ∧ PySem.W.findIn K (.ref C) "at" = some none
  x_TooMany : ∃ C B, ExcIn K "TooMany" "TooMany.__init__" "KeptError" s_TooMany_init C B ∧ PySem.W.findIn K (.ref C) "word" = some none
  c_Frame : ∃ C, SlsIn K "Frame" C ∧ MethIn K C "__init__" "Frame.__init__" s_Frame_init ∧ MethIn K C "add" "Frame.add" s_Frame_add ∧ MethIn K C "end_group" "Frame.end_group" s_Frame_end_group ∧ MethIn K C "ended" "Frame.ended" s_Frame_ended ∧ SlotIn K C "groups" 0 ∧ SlotIn K C "heads" 1 ∧ SlotIn K C "parts" 2
  c_Reader : ∃ C, ClsIn K "Reader" C ∧ ConsIn K C "HEADS" ["not"] ∧ MethIn K C "__init__" "Reader.__init__" s_Reader_init ∧ MethIn K C "refuse" "Reader.refuse" s_Reader_refuse ∧ MethIn K C "coming" "Reader.coming" s_Reader_coming ∧ MethIn K C "pass_one" "Reader.pass_one" s_Reader_pass_one ∧ MethIn K C "pass_kind" "Reader.pass_kind" s_Reader_pass_kind ∧ MethIn K C "go_deeper" "Reader.go_deeper" s_Reader_go_deeper ∧ MethIn K C "read_atom" "Reader.read_atom" s_Reader_read_atom ∧ MethIn K C "read_part" "Reader.read_part" s_Reader_read_part ∧ MethIn K C "add" "Reader.add" s_Reader_add ∧ MethIn K C "read_between" "Reader.read_between" s_Reader_read_between ∧ MethIn K C "whole" "Reader.whole" s_Reader_whole ∧ PySem.W.findIn K (.ref C) "given" = some none ∧ PySem.W.findIn K (.ref C) "at" = some none ∧ PySem.W.findIn K (.ref C) "frames" = some none ∧ PySem.W.findIn K (.ref C) "atoms" = some none ∧ PySem.W.findIn K (.ref C) "deep" = some none ∧ PySem.W.findIn K (.ref C) "deepest" = some none ∧ PySem.W.findIn K (.ref C) "used" = some none
  c_QuestionReader : ∃ C, ClsIn K "QuestionReader" C ∧ ConsIn K C "HEADS" ["not", "parent", "above"] ∧ MethIn K C "read_atom" "QuestionReader.read_atom" s_QuestionReader_read_atom ∧ MethIn K C "__init__" "Reader.__init__" s_Reader_init ∧ MethIn K C "refuse" "Reader.refuse" s_Reader_refuse ∧ MethIn K C "coming" "Reader.coming" s_Reader_coming ∧ MethIn K C "pass_one" "Reader.pass_one" s_Reader_pass_one ∧ MethIn K C "pass_kind" "Reader.pass_kind" s_Reader_pass_kind ∧ MethIn K C "go_deeper" "Reader.go_deeper" s_Reader_go_deeper ∧ MethIn K C "read_part" "Reader.read_part" s_Reader_read_part ∧ MethIn K C "add" "Reader.add" s_Reader_add ∧ MethIn K C "read_between" "Reader.read_between" s_Reader_read_between ∧ MethIn K C "whole" "Reader.whole" s_Reader_whole ∧ PySem.W.findIn K (.ref C) "given" = some none ∧ PySem.W.findIn K (.ref C) "at" = some none ∧ PySem.W.findIn K (.ref C) "frames" = some none ∧ PySem.W.findIn K (.ref C) "atoms" = some none ∧ PySem.W.findIn K (.ref C) "deep" = some none ∧ PySem.W.findIn K (.ref C) "deepest" = some none ∧ PySem.W.findIn K (.ref C) "used" = some none
  c_Question : ∃ C, ClsIn K "Question" C ∧ MethIn K C "__init__" "Question.__init__" s_Question_init ∧ CMethIn K C "read" "Question.read" s_Question_read ∧ CMethIn K C "sized" "Question.sized" s_Question_sized ∧ CMethIn K C "made" "Question.made" s_Question_made ∧ MethIn K C "__str__" "Question.__str__" s_Question_str ∧ MethIn K C "__eq__" "Question.__eq__" s_Question_eq ∧ MethIn K C "__and__" "Question.__and__" s_Question_and ∧ MethIn K C "__or__" "Question.__or__" s_Question_or ∧ MethIn K C "__invert__" "Question.__invert__" s_Question_invert ∧ PySem.W.findIn K (.ref C) "tree" = some none ∧ PySem.W.findIn K (.ref C) "outers" = some none
  e_NoQuestion_KeptError : ∃ C C2, PySem.W.nsIn K mainGlobals "NoQuestion" = some (some (.ref C)) ∧ PySem.W.nsIn K mainGlobals "KeptError" = some (some (.ref C2)) ∧ PySem.W.subIn K (.ref C) (.ref C2) = some true
  e_NoQuestion_NoRules : ∃ C C2, PySem.W.nsIn K mainGlobals "NoQuestion" = some (some (.ref C)) ∧ PySem.W.nsIn K mainGlobals "NoRules" = some (some (.ref C2)) ∧ PySem.W.subIn K (.ref C) (.ref C2) = some false
  e_NoQuestion_NoKinds : ∃ C C2, PySem.W.nsIn K mainGlobals "NoQuestion" = some (some (.ref C)) ∧ PySem.W.nsIn K mainGlobals "NoKinds" = some (some (.ref C2)) ∧ PySem.W.subIn K (.ref C) (.ref C2) = some false
  e_NoQuestion_TooMany : ∃ C C2, PySem.W.nsIn K mainGlobals "NoQuestion" = some (some (.ref C)) ∧ PySem.W.nsIn K mainGlobals "TooMany" = some (some (.ref C2)) ∧ PySem.W.subIn K (.ref C) (.ref C2) = some false
  e_TooMany_NoQuestion : ∃ C C2, PySem.W.nsIn K mainGlobals "TooMany" = some (some (.ref C)) ∧ PySem.W.nsIn K mainGlobals "NoQuestion" = some (some (.ref C2)) ∧ PySem.W.subIn K (.ref C) (.ref C2) = some false
  e_cls_Question : ∃ C, PySem.W.nsIn K mainGlobals "Question" = some (some (.ref C)) ∧ PySem.W.isClsIn K C = true ∧ PySem.W.typeIn K (.ref C) = some (.type "type")
  e_cls_NoKinds : ∃ C, PySem.W.nsIn K mainGlobals "NoKinds" = some (some (.ref C)) ∧ PySem.W.isClsIn K C = true ∧ PySem.W.typeIn K (.ref C) = some (.type "type")
  e_cls_NoRules : ∃ C, PySem.W.nsIn K mainGlobals "NoRules" = some (some (.ref C)) ∧ PySem.W.isClsIn K C = true ∧ PySem.W.typeIn K (.ref C) = some (.type "type")
  e_cls_KeptError : ∃ C, PySem.W.nsIn K mainGlobals "KeptError" = some (some (.ref C)) ∧ PySem.W.isClsIn K C = true ∧ PySem.W.typeIn K (.ref C) = some (.type "type")
  e_cls_NoQuestion : ∃ C, PySem.W.nsIn K mainGlobals "NoQuestion" = some (some (.ref C)) ∧ PySem.W.isClsIn K C = true ∧ PySem.W.typeIn K (.ref C) = some (.type "type")
  e_cls_TooMany : ∃ C, PySem.W.nsIn K mainGlobals "TooMany" = some (some (.ref C)) ∧ PySem.W.isClsIn K C = true ∧ PySem.W.typeIn K (.ref C) = some (.type "type")
local macro_rules | `(tactic| walk_at "side") => `(tactic| first | rfl | decide | assumption | omega | (constructor <;> first | decide | omega) | (refine ⟨?_, ?_, ?_⟩ <;> first | decide | omega))
local macro_rules | `(tactic| walk_at "cell") => `(tactic| first | exact up_at | assumption | (rw [up_ne (by assumption)]; first | exact up_at | assumption) | (rw [up_ne (Ne.symm (by assumption))]; first | exact up_at | assumption))
local macro_rules | `(tactic| walk_at "ty") => `(tactic| first | exact rfl | exact ⟨rfl, _, by walk_at "cell"⟩)
local macro_rules | `(tactic| walk_at "ix") => `(tactic| first | refine ix_own (by walk_at "cell") (by rfl) ?_ | refine ix_lst (by rfl) ?_ | refine ix_tpl (by rfl) ?_ | refine ix_fro (by rfl) ?_)
local macro_rules | `(tactic| walk_at "op add") => `(tactic| first | refine ob_add ?_ | refine ob_cat (by walk_at "side") ?_ | refine ob_catL (by walk_at "side") ?_ | refine ob_catT (by walk_at "side") ?_)
local macro_rules | `(tactic| walk_at "op sub") => `(tactic| refine ob_sub ?_)
local macro_rules | `(tactic| walk_at "op mul") => `(tactic| first | refine ob_mul (.inr (by decide)) ?_ | refine ob_mul (.inl (by decide)) ?_ | refine ob_mul (.inl (by constructor <;> omega)) ?_ | refine ob_mul (.inr (by constructor <;> omega)) ?_ | refine ob_rep (by walk_at "side") (by walk_at "side") ?_ | refine ob_times (by walk_at "side") (by walk_at "side") ?_)
local macro_rules | `(tactic| walk_at "op mod") => `(tactic| refine ob_mod (by first | decide | omega) ?_)
local macro_rules | `(tactic| walk_at "op fdiv") => `(tactic| refine ob_fdiv (by first | decide | omega) ?_)
local macro_rules | `(tactic| walk_at "op pow") => `(tactic| refine ob_pow (by first | decide | (refine ⟨by decide, by decide, by omega⟩)) ?_)
local macro_rules | `(tactic| walk_at "cmp Gt") => `(tactic| refine ob_gt ?_)
local macro_rules | `(tactic| walk_at "cmp Lt") => `(tactic| refine ob_lt ?_)
local macro_rules | `(tactic| walk_at "cmp GtE") => `(tactic| refine ob_ge ?_)
local macro_rules | `(tactic| walk_at "cmp LtE") => `(tactic| refine ob_le ?_)
local macro_rules | `(tactic| walk_at "cmp Eq") => `(tactic| first | refine ob_eqI ?_ | refine ob_eqS ?_ | refine ob_eqB ?_)
local macro_rules | `(tactic| walk_at "cmp NotEq") => `(tactic| first | refine ob_neI ?_ | refine ob_neS ?_)
local macro_rules | `(tactic| walk_at "cmp Is") => `(tactic| refine ob_isN ?_)
local macro_rules | `(tactic| walk_at "cmp IsNot") => `(tactic| refine ob_isNotN ?_)
local macro_rules | `(tactic| walk_at "cmp In") => `(tactic| first | refine ob_inS ?_ | refine ob_inT ?_ | refine ob_inL ?_)
local macro_rules | `(tactic| walk_at "cmp NotIn") => `(tactic| first | refine ob_niS ?_ | refine ob_niT ?_ | refine ob_niL ?_)
local macro_rules | `(tactic| walk_at "cb len") => `(tactic| first | refine cb_lenL ?_ | refine cb_lenT ?_ | refine cb_lenF ?_ | refine cb_lenO (by walk_at "cell") ?_ | refine cb_lenS (by walk_at "side") ?_)
local macro_rules | `(tactic| walk_at "cb abs") => `(tactic| refine cb_abs ?_)
local macro_rules | `(tactic| walk_at "cb int") => `(tactic| refine cb_intB ?_)
local macro_rules | `(tactic| walk_at "cb max") => `(tactic| refine cb_max rfl ?_)
local macro_rules | `(tactic| walk_at "cb min") => `(tactic| refine cb_min rfl ?_)
local macro_rules | `(tactic| walk_at "cb str") => `(tactic| first | refine cb_strS ?_ | refine cb_strI (by walk_at "side") ?_)
local macro_rules | `(tactic| walk_at "cb tuple") => `(tactic| first | refine cb_tupL ?_ | refine cb_tupT ?_)
local macro_rules | `(tactic| walk_at "cb list") => `(tactic| first | refine cb_listL fun p hp => ?_ | refine cb_listT fun p hp => ?_)
local macro_rules | `(tactic| walk_at "m1 split") => `(tactic| refine m1_split (by first | rfl | decide) (by walk_at "side") ?_)
local macro_rules | `(tactic| walk_at "m1 partition") => `(tactic| refine m1_partition (by first | rfl | decide) (by walk_at "side") ?_)
local macro_rules | `(tactic| walk_at "m1 find") => `(tactic| refine m1_find ?_)
local macro_rules | `(tactic| walk_at "mb append") => `(tactic| refine mb_append (by walk_at "cell") (by walk_at "side") ?_)
local macro_rules | `(tactic| walk_at "b1") => `(tactic| exact fun _ _ _ _ _ _ us hl => match us, hl with | [_], _ => rfl)
local macro_rules | `(tactic| walk_at "b2") => `(tactic| exact fun _ _ _ _ _ _ us hl => match us, hl with | [_, _], _ => rfl)
local macro_rules | `(tactic| walk_at "b3") => `(tactic| exact fun _ _ _ _ _ _ us hl => match us, hl with | [_, _, _], _ => rfl)
local macro_rules | `(tactic| walk_at "b4") => `(tactic| exact fun _ _ _ _ _ _ us hl => match us, hl with | [_, _, _, _], _ => rfl)
local macro_rules | `(tactic| walk_at "blk") => `(tactic| first | exact ⟨rfl, by decide +kernel, by decide +kernel, by decide +kernel, by decide +kernel⟩ | (constructor <;> first | rfl | decide +kernel))
local macro_rules | `(tactic| walk_at "few") => `(tactic| first | decide | exact Nat.le_of_ble_eq_true rfl)
local macro_rules | `(tactic| walk_at "own") => `(tactic| (funext z_; simp only [Kn.up, Kn.dn]; (repeat' split) <;> first | rfl | (subst_vars; first | rfl | contradiction) | simp_all))
section
variable {P : Program} {w : World} {K : PySem.W.Frag} {mg : Str → Option Value} {base : Heap}
theorem fn_split_words (T : TopOf K mg) (Z : Facts K) {f : Addr} {fd : FuncData} (F : L2.Fun K "split_words" "split_words" s_split_words f fd) : Fn P w K mg base false 1 f fd ["row"] SplitS := by
  have sc := sc_split_words
  refine fn_mk F sc_split_words (fun ss O R h => by obtain ⟨z, rfl, _⟩ := h; rfl) fun cdv A outer s H E ss O R hr hpo h => ?_
  obtain ⟨z, rfl, hz, h⟩ := h
  refine sw_one ?_
  refine s1_ret ?_
  refine ew_if ?_
  refine tw_cmp ?_
  refine ew_var 0 ?_
  refine ew_str ?_
  walk_at "cmp NotEq"
  refine ⟨_, rfl, fun ht => ?_, fun ht => ?_⟩
  · refine ew_split ?_
    refine ew_var 0 ?_
    refine ⟨_, rfl, ?_⟩
    refine ew_str ?_
    refine m1_split (by decide +kernel) (Nat.le_trans (Nat.add_le_add_right hz 2) (by decide)) ?_
    have e : wordsS z = Txt.split z " " := if_neg (by simpa using ht)
    rw [← e]
    exact h
  · refine ew_lstD ?_
    refine aw_nil ?_
    refine ⟨[], rfl, by decide, ?_⟩
    have e : wordsS z = [] := if_pos (by simpa using ht)
    rw [e] at h
    exact h
theorem c_split_words (T : TopOf K mg) (Z : Facts K) : Cal P w K mg base false 1 "split_words" SplitS [] := cal_of T Z.d_split_words (by walk_at "b1") fun f fd F => fn_split_words T Z F
theorem fn_is_made_of (T : TopOf K mg) (Z : Facts K) {f : Addr} {fd : FuncData} (F : L2.Fun K "is_made_of" "is_made_of" s_is_made_of f fd) : Fn P w K mg base false 1 f fd ["value", "letters", "most"] MadeS := by
  have sc := sc_is_made_of
  refine fn_mk F sc_is_made_of (fun ss O R h => by obtain ⟨z, _, _, rfl, _⟩ := h; rfl) fun cdv A outer s H E ss O R hr hpo h => ?_
  obtain ⟨d, L, m, rfl, hd, h⟩ := h
  refine sw_one ?_
  refine s1_ret ?_
  refine ew_and ?_
  refine ew_callB (T.no Z.n_isinstance) bt_isinstance ?_
  refine aw_cons ?_
  refine ew_var 0 ?_
  refine aw_cons ?_
  refine ew_bltn (T.no Z.n_str) bt_str ?_
  refine aw_nil ?_
  refine cb_isTy (kit_str hd.1) ?_ hd.1
  refine ⟨_, rfl, fun hc => ?_, fun hc => ?_⟩
  · cases d with
    | str z =>
      have hz := hd.2 z rfl
      have hzl : z.length ≤ sizeLine := Nat.le_trans hz (by decide)
      refine ew_and ?_
      refine ew_chain ?_
      refine ew_int ?_
      refine ew_callB (T.no Z.n_len) bt_len ?_
      refine aw_cons ?_
      refine ew_var 0 ?_
      refine aw_nil ?_
      refine cb_lenS hzl ?_
      walk_at "cmp Lt"
      refine ⟨rfl, _, rfl, fun hc => ?_, fun hc => ?_⟩
      · refine ew_var 2 ?_
        walk_at "cmp LtE"
        refine ⟨_, rfl, fun hc2 => ?_, fun hc2 => ?_⟩
        · refine ew_one ?_
          refine ew_callB (T.no Z.n_all) bt_all ?_
          refine aw_cons ?_
          refine ew_map1 (sgs z) (fun c => .str ⟨#[c]⟩) (fun c => .bl (decide (c ∈ sgs L))) [("sign", 3)] sc.nd (.name (i := 3) (by decide) fun Y ⟨_, _, _, _, _, e⟩ => by subst e; exact pg_name (i := 3) sc.nd rfl (.inl rfl) (.inr rfl)) (blkOk_by (N := N_is_made_of) (sc := defScope s_is_made_of) (by decide +kernel)) (iw_str (ew_var 0 ⟨z, rfl, rfl, rfl⟩)) (by rw [← sgs_len]; exact hzl) (fun c hcm => ⟨_, rfl, fun O' Y hY => ?_⟩) ?_
          · obtain ⟨_, _, _, _, _, rfl⟩ := hY
            refine ew_cmp ?_
            refine ew_var 3 ?_
            refine ew_var 1 ?_
            walk_at "cmp In"
            exact ⟨rfl, rfl⟩
          · refine aw_nil ?_
            refine cb_allF rfl ?_
            have e : madeD (.str z) L m = (sgs z).all fun c => decide (c ∈ sgs L) := by
              have h1 : decide (0 < z.length) = true := by simpa using hc
              have h2 : decide (z.length ≤ m) = true := by simpa using hc2
              show (decide (0 < z.length) && (decide (z.length ≤ m) && _)) = _
              rw [h1, h2]; rfl
            rw [e] at h
            exact h
        · have e : madeD (.str z) L m = false := by
            have h2 : decide (z.length ≤ m) = false := by simpa using hc2
            show (decide (0 < z.length) && (decide (z.length ≤ m) && _)) = _
            rw [h2, Bool.false_and, Bool.and_false]
          rw [e] at h
          exact h
      · refine ⟨_, rfl, fun hc => ?_, fun hc2 => ?_⟩
        · exact absurd hc (by decide)
        · have e : madeD (.str z) L m = false := by
            have h2 : decide (0 < z.length) = false := by simpa using hc
            show (decide (0 < z.length) && (decide (z.length ≤ m) && _)) = _
            rw [h2, Bool.false_and]
          rw [e] at h
          exact h
    | _ => cases hc
  · cases d with
    | str z => cases hc
    | _ => exact h
theorem c_is_made_of (T : TopOf K mg) (Z : Facts K) : Cal P w K mg base false 1 "is_made_of" MadeS [] := cal_of T Z.d_is_made_of (by walk_at "b3") fun f fd F => fn_is_made_of T Z F
theorem fn_own_copy0 (T : TopOf K mg) (Z : Facts K) {f : Addr} {fd : FuncData} (F : L2.Fun K "own_copy" "own_copy" s_own_copy f fd) : Fn P w K mg base false 1 f fd ["value"] Own0S := by
  have sc := sc_own_copy
  refine fn_mk F sc_own_copy (fun ss O R h => by obtain ⟨z, rfl, _⟩ := h; rfl) fun cdv A outer s H E ss O R hr hpo h => ?_
  obtain ⟨d, rfl, hd, hl, hnt, h⟩ := h
  refine sw_cons ?_
  refine s1_if ?_
  refine tw_val ?_
  refine ew_callB (T.no Z.n_isinstance) bt_isinstance ?_
  refine aw_cons ?_
  refine ew_var 0 ?_
  refine aw_cons ?_
  refine ew_bltn (T.no Z.n_list) bt_list ?_
  refine aw_nil ?_
  refine cb_isTy (kit_lst hd) ?_ hd
  rw [hl]
  refine ⟨_, rfl, fun ht => ?_, fun ht => ?_⟩
  · cases ht
  · refine sw_nil ?_
    refine sw_one ?_
    refine s1_ret ?_
    refine ew_if ?_
    refine tw_val ?_
    refine ew_callB (T.no Z.n_isinstance) bt_isinstance ?_
    refine aw_cons ?_
    refine ew_var 0 ?_
    refine aw_cons ?_
    refine ew_bltn (T.no Z.n_tuple) bt_tuple ?_
    refine aw_nil ?_
    refine cb_isTy (kit_tup hd) ?_ hd
    rw [hnt]
    refine ⟨_, rfl, fun ht => ?_, fun ht => ?_⟩
    · cases ht
    · refine ew_var 0 ?_
      exact h
theorem c_own_copy0 (T : TopOf K mg) (Z : Facts K) : Cal P w K mg base false 1 "own_copy" Own0S [] := cal_of T Z.d_own_copy (by walk_at "b1") fun f fd F => fn_own_copy0 T Z F
/-- a scalar -/
def flatD (d : Dat) : Prop := tyName d ≠ "" ∧ isLstD d = false ∧ isTupD d = false
theorem fn_NoQuestion (T : TopOf K mg) (Z : Facts K) {C B : Addr} (X : ExcIn K "NoQuestion" "NoQuestion.__init__" "KeptError" s_NoQuestion_init C B) (nf : PySem.W.findIn K (.ref C) "at" = some none) {f : Addr} {fd : FuncData} (F : L2.Fun K "__init__" "NoQuestion.__init__" s_NoQuestion_init f fd) : Fn P w K mg base false 2 f fd ["self", "at"] (Ini1 flatD C "at") := by
  have sc := sc_NoQuestion_init
  refine fn_mk F sc_NoQuestion_init (fun ss O R h => by obtain ⟨a, d, rfl, _⟩ := h; rfl) fun cdv A outer s H E ss O R hr hpo h => ?_
  obtain ⟨a, d, rfl, hd, ha, h⟩ := h
  refine sw_cons ?_
  refine s1_expr ?_
  refine ew_kinit (X.ini T) ?_
  refine aw_cons ?_
  refine ew_var 0 ?_
  refine aw_cons ?_
  refine ew_str ?_
  refine aw_nil ?_
  refine ⟨a, C, _, rfl, by decide, X.a.oex, ha, ?_⟩
  refine sw_one ?_
  refine s1_ost ?_
  refine ew_call (c_own_copy0 T Z) hr ?_
  refine aw_cons ?_
  refine ew_var 1 ?_
  refine aw_nil ?_
  refine ⟨d, rfl, hd.1, hd.2.1, hd.2.2, ?_⟩
  refine ew_var 0 ?_
  exact ⟨a, C, rfl, X.a.oex, nf, .inl ⟨ha, fun dx nd => h dx nd⟩⟩
theorem xc_NoQuestion (T : TopOf K mg) (Z : Facts K) : ∃ C B, ExcIn K "NoQuestion" "NoQuestion.__init__" "KeptError" s_NoQuestion_init C B ∧ PySem.W.findIn K (.ref C) "at" = some none ∧ ExCls P w K mg base 2 "NoQuestion" C (Ini1 flatD C "at") := by
  obtain ⟨C, B, X, nf⟩ := Z.x_NoQuestion
  exact ⟨C, B, X, nf, xc_of T X (by walk_at "b2") fun f fd F => fn_NoQuestion T Z X nf F⟩
theorem fn_TooMany (T : TopOf K mg) (Z : Facts K) {C B : Addr} (X : ExcIn K "TooMany" "TooMany.__init__" "KeptError" s_TooMany_init C B) (nf : PySem.W.findIn K (.ref C) "word" = some none) {f : Addr} {fd : FuncData} (F : L2.Fun K "__init__" "TooMany.__init__" s_TooMany_init f fd) : Fn P w K mg base false 2 f fd ["self", "word"] (Ini1 flatD C "word") := by
  have sc := sc_TooMany_init
  refine fn_mk F sc_TooMany_init (fun ss O R h => by obtain ⟨a, d, rfl, _⟩ := h; rfl) fun cdv A outer s H E ss O R hr hpo h => ?_
  obtain ⟨a, d, rfl, hd, ha, h⟩ := h
  refine sw_cons ?_
  refine s1_expr ?_
  refine ew_kinit (X.ini T) ?_
  refine aw_cons ?_
  refine ew_var 0 ?_
  refine aw_cons ?_
  refine ew_str ?_
  refine aw_nil ?_
  refine ⟨a, C, _, rfl, by decide, X.a.oex, ha, ?_⟩
  refine sw_one ?_
  refine s1_ost ?_
  refine ew_call (c_own_copy0 T Z) hr ?_
  refine aw_cons ?_
  refine ew_var 1 ?_
  refine aw_nil ?_
  refine ⟨d, rfl, hd.1, hd.2.1, hd.2.2, ?_⟩
  refine ew_var 0 ?_
  exact ⟨a, C, rfl, X.a.oex, nf, .inl ⟨ha, fun dx nd => h dx nd⟩⟩
theorem xc_TooMany (T : TopOf K mg) (Z : Facts K) : ∃ C B, ExcIn K "TooMany" "TooMany.__init__" "KeptError" s_TooMany_init C B ∧ PySem.W.findIn K (.ref C) "word" = some none ∧ ExCls P w K mg base 2 "TooMany" C (Ini1 flatD C "word") := by
  obtain ⟨C, B, X, nf⟩ := Z.x_TooMany
  exact ⟨C, B, X, nf, xc_of T X (by walk_at "b2") fun f fd F => fn_TooMany T Z X nf F⟩
end
/-- the source of draws -/
def boxC (c s n : Int) : Cell := .lst [.dat (.int c), .dat (.int s), .dat (.int n)]
def isBox (b : Cell) : Prop := ∃ c s n, b = boxC c s n ∧ 0 ≤ c ∧ 1 ≤ s ∧ s ≤ 2147483629 ∧ 0 ≤ n
def Take : SpecT := fun ss O R => ∃ (p : Addr) (m : Int) (b : Cell), ss = [.own p, .dat (.int m)] ∧ O p = some b ∧ isBox b ∧ 1 ≤ m ∧ m < 1073741824 ∧ ∀ (d : Int) (b' : Cell), 0 ≤ d → d < m → isBox b' → R (.ret (.dat (.int d))) (up O p b')
def BoxS : SpecT := fun ss O R => ∃ (ns : List Int) (k o : Int), ss = [.dat (.fro (ns.map .int)), .dat (.int k), .dat (.int o)] ∧ 0 ≤ k ∧ k ≤ 1000 ∧ 0 ≤ o ∧ o ≤ 1000 ∧ ∀ p b, O p = none → isBox b → R (.ret (.own p)) (up O p b)
section
variable {P : Program} {w : World} {K : PySem.W.Frag} {mg : Str → Option Value} {base : Heap}
theorem fn_law_take {f : Addr} {fd : FuncData} (F : L2.Fun K "_law_take" "_law_take" s_law_take f fd) : Fn P w K mg base false 1 f fd ["_law_box_here", "_law_many"] Take := by
  have sc := sc_law_take
  refine fn_mk F sc_law_take (fun ss O R h => by obtain ⟨p, m, b, rfl, _⟩ := h; rfl) fun cdv A outer s H E ss O R hr hpo h => ?_
  obtain ⟨p, m, b, rfl, hp, hb, hm1, hm2, h⟩ := h
  obtain ⟨c, s0, n, rfl, hc, hs1, hs2, hn⟩ := hb
  have hp : O p = some (.lst [.dat (.int c), .dat (.int s0), .dat (.int n)]) := hp
  -- 0:_law_box_here 1:_law_many 2:_law_digit 3:_law_raw 4:_law_wide
  refine sw_cons ?_
  refine s1_if ?_
  refine tw_cmp ?_
  refine ew_ix ?_
  refine ew_var 0 ?_
  refine ew_int ?_
  walk_at "ix"
  refine ew_int ?_
  walk_at "cmp Gt"
  refine ⟨_, rfl, fun ht => ?_, fun ht => ?_⟩
  · refine sw_cons ?_
    refine s1_set 2 ?_ sc.nd
    refine ew_bin ?_
    refine ew_ix ?_
    refine ew_var 0 ?_
    refine ew_int ?_
    walk_at "ix"
    refine ew_var 1 ?_
    walk_at "op mod"
    refine sw_cons ?_
    refine s1_asg ?_
    refine ew_bin ?_
    refine ew_ix ?_
    refine ew_var 0 ?_
    refine ew_int ?_
    walk_at "ix"
    refine ew_var 1 ?_
    walk_at "op fdiv"
    refine gw_set ?_
    refine ew_var 0 ?_
    refine ew_int ?_
    refine ⟨_, _, _, _, rfl, rfl, by walk_at "cell", rfl, ?_⟩
    refine sw_one ?_
    refine s1_ret ?_
    refine ew_var 2 ?_
    show R (.ret _) (up O p _)
    exact h _ _ (Int.emod_nonneg _ (by omega)) (Int.emod_lt_of_pos _ (by omega)) ⟨c / m, s0, n, rfl, Int.ediv_nonneg hc (by omega), hs1, hs2, hn⟩
  · refine sw_nil ?_
    refine sw_cons ?_
    refine s1_asg ?_
    refine ew_bin ?_
    refine ew_ix ?_
    refine ew_var 0 ?_
    refine ew_int ?_
    walk_at "ix"
    refine ew_int ?_
    walk_at "op add"
    refine gw_set ?_
    refine ew_var 0 ?_
    refine ew_int ?_
    refine ⟨_, _, _, _, rfl, rfl, by walk_at "cell", rfl, ?_⟩
    refine sw_cons ?_
    refine s1_set 3 ?_ sc.nd
    refine ew_bin ?_
    refine ew_bin ?_
    refine ew_bin ?_
    refine ew_ix ?_
    refine ew_var 0 ?_
    refine ew_int ?_
    walk_at "ix"
    refine ew_bin ?_
    refine ew_int ?_
    refine ew_ix ?_
    refine ew_var 0 ?_
    refine ew_int ?_
    walk_at "ix"
    walk_at "op mul"
    walk_at "op add"
    refine ew_int ?_
    walk_at "op mul"
    refine ew_int ?_
    walk_at "op mod"
    refine sw_cons ?_
    refine s1_asg ?_
    refine ew_bin ?_
    refine ew_bin ?_
    refine ew_bin ?_
    refine ew_bin ?_
    refine ew_var 3 ?_
    refine ew_int ?_
    walk_at "op mul"
    refine ew_int ?_
    walk_at "op add"
    refine ew_int ?_
    walk_at "op mod"
    refine ew_int ?_
    walk_at "op add"
    refine gw_set ?_
    refine ew_var 0 ?_
    refine ew_int ?_
    refine ⟨_, _, _, _, rfl, rfl, by walk_at "cell", rfl, ?_⟩
    refine sw_one ?_
    refine s1_ret ?_
    refine ew_bin ?_
    refine ew_bin ?_
    refine ew_bin ?_
    refine ew_bin ?_
    refine ew_var 3 ?_
    refine ew_int ?_
    walk_at "op mul"
    refine ew_ix ?_
    refine ew_var 0 ?_
    refine ew_int ?_
    walk_at "ix"
    walk_at "op add"
    refine ew_int ?_
    walk_at "op fdiv"
    refine ew_var 1 ?_
    walk_at "op mod"
    show R (.ret _) (up (up O p _) p _)
    rw [up_up]
    refine h _ _ (Int.emod_nonneg _ (by omega)) (Int.emod_lt_of_pos _ (by omega)) ⟨c, _, n + 1, rfl, hc, ?_, ?_, by omega⟩ <;> omega
theorem c_law_take (T : TopOf K mg) (Z : Facts K) : Cal P w K mg base false 1 "_law_take" Take [] := cal_of T Z.d_law_take (by walk_at "b2") fun f fd F => fn_law_take F
theorem box_last {c k o : Int} (hc : 0 ≤ c) (hk : 0 ≤ k) (ho : 0 ≤ o) : isBox (boxC c ((c % 2147483629 * 48271 + 40692 * (k + 11 * o)) % 2147483629 + 1) 0) := ⟨c, _, 0, rfl, hc, by omega, by omega, by omega⟩
theorem box_zero {c k o : Int} (hk : 0 ≤ k) (ho : 0 ≤ o) : isBox (boxC 0 ((c % 2147483629 * 48271 + 40692 * (k + 11 * o)) % 2147483629 + 1) 0) := ⟨0, _, 0, rfl, by omega, by omega, by omega, by omega⟩
theorem at_int {ns : List Int} {k : Int} (h0 : 0 ≤ k) (h : k < (ns.length : Int)) : ∃ n, atI (ns.map Dat.int) k = some (.int n) := by
  obtain ⟨j, rfl⟩ := Int.eq_ofNat_of_zero_le h0
  have hj : j < ns.length := by omega
  exact ⟨ns[j], atI_nat (by rw [List.getElem?_map, List.getElem?_eq_getElem hj]; rfl)⟩
theorem fn_law_box (T : TopOf K mg) (Z : Facts K) {f : Addr} {fd : FuncData} (F : L2.Fun K "_law_box" "_law_box" s_law_box f fd) : Fn P w K mg base false 1 f fd ["_law_script", "_law_k", "_law_own"] BoxS := by
  have sc := sc_law_box
  refine fn_mk F sc_law_box (fun ss O R h => by obtain ⟨_, _, _, rfl, _⟩ := h; rfl) fun cdv A outer s H E ss O R hr hpo h => ?_
  obtain ⟨ns, k, o, rfl, hk, hk2, ho, ho2, h⟩ := h
  -- 0:_law_script 1:_law_k 2:_law_own 3:_law_cell 4:_law_seed
  have tail : ∀ (x : ExK) (c : Int) (ρ : List Slot) (s4 : Slot), 0 ≤ c → (∀ e ρ' O', x e ρ' O' ↔ x e ρ' O') → SW (cxOf (L2.CX P w) P w K mg base N_law_box "_law_box" (defScope s_law_box) f cdv A outer s H E) O [.dat (.fro (ns.map .int)), .dat (.int k), .dat (.int o), .dat (.int c), s4] ((defBody s_law_box).drop 2) x { nx := fun _ O' => R (.ret (.dat .non)) O', rt := fun z O' => R (.ret z) O' } := by
    intro x c ρ s4 hc _
    refine sw_cons ?_
    refine s1_set 4 ?_ sc.nd
    refine ew_bin ?_
    refine ew_bin ?_
    refine ew_bin ?_
    refine ew_bin ?_
    refine ew_bin ?_
    refine ew_var 3 ?_
    refine ew_int ?_
    walk_at "op mod"
    refine ew_int ?_
    walk_at "op mul"
    refine ew_bin ?_
    refine ew_int ?_
    refine ew_bin ?_
    refine ew_var 1 ?_
    refine ew_bin ?_
    refine ew_int ?_
    refine ew_var 2 ?_
    walk_at "op mul"
    walk_at "op add"
    walk_at "op mul"
    walk_at "op add"
    refine ew_int ?_
    walk_at "op mod"
    refine ew_int ?_
    walk_at "op add"
    refine sw_one ?_
    refine s1_ret ?_
    refine ew_lst ?_
    refine aw_cons ?_
    refine ew_ix ?_
    refine ew_lstD ?_
    refine aw_cons ?_
    refine ew_int ?_
    refine aw_cons ?_
    refine ew_var 3 ?_
    refine aw_nil ?_
    refine ⟨[_, _], rfl, by walk_at "few", ?_⟩
    refine ew_callTy (T.no Z.n_int) bt_int ?_
    refine aw_cons ?_
    refine ew_cmp ?_
    refine ew_var 3 ?_
    refine ew_bin ?_
    refine ew_int ?_
    refine ew_int ?_
    walk_at "op pow"
    walk_at "cmp GtE"
    refine aw_nil ?_
    walk_at "cb int"
    by_cases hb : (10 : Int) ^ (18 : Int).toNat ≤ c
    · rw [decide_eq_true hb]
      refine ix_lst (i := 1) (atI_nat (j := 1) rfl) ?_
      refine aw_cons ?_
      refine ew_var 4 ?_
      refine aw_cons ?_
      refine ew_int ?_
      refine aw_nil ?_
      refine ⟨by walk_at "few", fun p hp => ?_⟩
      exact h p _ hp (box_last hc hk ho)
    · rw [decide_eq_false hb]
      refine ix_lst (i := 0) (atI_nat (j := 0) rfl) ?_
      refine aw_cons ?_
      refine ew_var 4 ?_
      refine aw_cons ?_
      refine ew_int ?_
      refine aw_nil ?_
      refine ⟨by walk_at "few", fun p hp => ?_⟩
      exact h p _ hp (box_zero hk ho)
  refine sw_cons ?_
  refine s1_set 3 ?_ sc.nd
  refine ew_bin ?_
  refine ew_bin ?_
  refine ew_bin ?_
  refine ew_int ?_
  refine ew_var 1 ?_
  walk_at "op mul"
  refine ew_bin ?_
  refine ew_int ?_
  refine ew_var 2 ?_
  walk_at "op mul"
  walk_at "op add"
  refine ew_int ?_
  walk_at "op add"
  refine sw_cons ?_
  refine s1_if ?_
  refine tw_cmp ?_
  refine ew_var 1 ?_
  refine ew_callB (T.no Z.n_len) bt_len ?_
  refine aw_cons ?_
  refine ew_var 0 ?_
  refine aw_nil ?_
  walk_at "cb len"
  rw [List.length_map]
  walk_at "cmp Lt"
  refine ⟨_, rfl, fun ht => ?_, fun ht => ?_⟩
  · obtain ⟨n, hn⟩ := at_int hk (of_decide_eq_true ht)
    refine sw_one ?_
    refine s1_set 3 ?_ sc.nd
    refine ew_callB (T.no Z.n_abs) bt_abs ?_
    refine aw_cons ?_
    refine ew_ix ?_
    refine ew_var 0 ?_
    refine ew_var 1 ?_
    refine ix_fro hn ?_
    refine aw_nil ?_
    walk_at "cb abs"
    refine tail _ _ [] _ ?_ (fun _ _ _ => Iff.rfl)
    split <;> omega
  · refine sw_one ?_
    refine s1_if ?_
    refine tw_cmp ?_
    refine ew_callB (T.no Z.n_len) bt_len ?_
    refine aw_cons ?_
    refine ew_var 0 ?_
    refine aw_nil ?_
    walk_at "cb len"
    rw [List.length_map]
    refine ew_int ?_
    walk_at "cmp Gt"
    refine ⟨_, rfl, fun ht2 => ?_, fun ht2 => ?_⟩
    · have hl : 0 < (ns.length : Int) := of_decide_eq_true ht2
      obtain ⟨n, hn⟩ := at_int (ns := ns) (Int.emod_nonneg k (by omega)) (Int.emod_lt_of_pos k hl)
      refine sw_one ?_
      refine s1_set 3 ?_ sc.nd
      refine ew_bin ?_
      refine ew_var 3 ?_
      refine ew_bin ?_
      refine ew_bin ?_
      refine ew_callB (T.no Z.n_abs) bt_abs ?_
      refine aw_cons ?_
      refine ew_ix ?_
      refine ew_var 0 ?_
      refine ew_bin ?_
      refine ew_var 1 ?_
      refine ew_callB (T.no Z.n_len) bt_len ?_
      refine aw_cons ?_
      refine ew_var 0 ?_
      refine aw_nil ?_
      walk_at "cb len"
      rw [List.length_map]
      refine ob_mod hl ?_
      refine ix_fro hn ?_
      refine aw_nil ?_
      walk_at "cb abs"
      refine ew_int ?_
      walk_at "op mod"
      refine ew_int ?_
      walk_at "op mul"
      walk_at "op add"
      refine tail _ _ [] _ ?_ (fun _ _ _ => Iff.rfl)
      have := Int.emod_nonneg (if n < 0 then -n else n) (show (2147483629 : Int) ≠ 0 by decide)
      omega
    · refine sw_nil ?_
      refine tail _ _ [] _ ?_ (fun _ _ _ => Iff.rfl)
      omega
theorem c_law_box (T : TopOf K mg) (Z : Facts K) : Cal P w K mg base false 1 "_law_box" BoxS [] := cal_of T Z.d_law_box (by walk_at "b3") fun f fd F => fn_law_box T Z F
end
def capsL : Str := k_KIND_LETTERS
def KindS : SpecT := fun ss O R => ∃ d : Dat, ss = [.dat d] ∧ okD d ∧ R (.ret (.dat (.bl (madeD d capsL 4)))) O
theorem wordsS_len {z w : Str} (h : w ∈ wordsS z) : w.length ≤ z.length := by
  unfold wordsS at h
  split at h
  · cases h
  · exact word_len h
theorem wordsS_count (z : Str) : (wordsS z).length ≤ z.length + 1 := by
  unfold wordsS
  split
  · exact Nat.zero_le _
  · have := words_sum z
    omega
theorem flatD_int {i : Int} : flatD (.int i) := ⟨(show "int" ≠ "" by decide), rfl, rfl⟩
theorem sum_le {α : Type} {g : α → Nat} {b : Nat} : ∀ {l : List α}, (∀ a ∈ l, g a ≤ b) → (l.map g).sum ≤ l.length * b
  | [], _ => Nat.zero_le _
  | a :: l, h => by
    have h1 := h a List.mem_cons_self
    have h2 := sum_le fun c hc => h c (List.mem_cons_of_mem a hc)
    rw [List.map_cons, List.sum_cons, List.length_cons, Nat.succ_mul]
    omega
theorem empty_app {z : Str} : Str.empty ++ z = z := sgs_ext (by rw [sgs_app]; rfl)
theorem shaped_nil : SeqAt.shaped (toPy (.lst [])) = true := by decide +kernel
theorem fine_strs {ls : List Str} (h : ∀ y ∈ ls, sml y) : fine (.lst (ls.map .str)) = true := fines_map fun y hy => sml_b (h y hy)
theorem dep_strs {ls : List Str} : dep (.lst (ls.map .str)) ≤ 64 := by
  have := deps_map (f := Dat.str) (l := ls) (b := 0) fun y _ => Nat.le_refl 0
  rw [dep_lst]; omega
def MixS : SpecT := fun ss O R => ∃ (l : List Str) (p : Addr) (b : Cell), ss = [.own p, .dat (.lst (l.map .str))] ∧ O p = some b ∧ isBox b ∧ l.length ≤ 1000 ∧ (∀ y ∈ l, sml y) ∧
  ∀ (q : Addr) (b' : Cell) (l' : List Str), O q = none → isBox b' → l'.Perm l → R (.ret (.own q)) (up (up O p b') q (.lst ((l'.map .str).map .dat)))
def PickS : SpecT := fun ss O R => ∃ (p : Addr) (b : Cell) (ds : List Dat), ss = [.own p, .dat (.lst ds)] ∧ O p = some b ∧ isBox b ∧ 0 < ds.length ∧ ds.length ≤ 1000 ∧
  ∀ (d : Dat) (b' : Cell), d ∈ ds → isBox b' → R (.ret (.dat d)) (up O p b')
def okW (y : Str) : Prop := y.length ≤ 4 ∧ sml y
def okK (y : Str) : Prop := okW y ∧ madeOf y capsL 4 = true
def CapsS : SpecT := fun ss O R => ∃ (p : Addr) (b : Cell) (m : Int), ss = [.own p, .dat (.int m)] ∧ O p = some b ∧ isBox b ∧ 1 ≤ m ∧ m ≤ 6 ∧
  ∀ (b' : Cell) (ws : List Str), isBox b' → ws.length = m.toNat → (∀ y ∈ ws, okK y) → R (.ret (.dat (.lst (ws.map .str)))) (up O p b')
def TxtOk (z : Str) : Prop := z.length ≤ 5000 ∧ sml z
def LKindS : SpecT := fun ss O R => ∃ z : Str, ss = [.dat (.str z)] ∧ TxtOk z ∧ R (.ret (.dat (.bl (madeOf z capsL 4)))) O
def sixW : List Str := ["K", "KK", "KKK", "KKKK", "Q", "QK"]
def stemW : List Str := ["", "", "ZQZ", "A"]
theorem six_ok : (sixW.all fun y => decide (y.length ≤ 4) && smlB y && madeOf y capsL 4) = true := by decide +kernel
theorem stem_ok : (stemW.all fun y => decide (y.length ≤ 3) && smlB y) = true := by decide +kernel
theorem sml_of {z : Str} (h : smlB z = true) : sml z := fun c hc => by
  unfold smlB at h
  rw [Array.all_eq_true_iff_forall_mem] at h
  exact of_decide_eq_true (h c (Array.mem_toList_iff.mp hc))
theorem six_at {y : Str} (h : y ∈ sixW) : okK y := by
  have := List.all_eq_true.mp six_ok y h
  simp only [Bool.and_eq_true, decide_eq_true_eq] at this
  exact ⟨⟨this.1.1, sml_of this.1.2⟩, this.2⟩
theorem stem_at {y : Str} (h : y ∈ stemW) : y.length ≤ 3 ∧ sml y := by
  have := List.all_eq_true.mp stem_ok y h
  simp only [Bool.and_eq_true, decide_eq_true_eq] at this
  exact ⟨this.1, sml_of this.2⟩
theorem stem_caps : ∀ y ∈ stemW, ∀ c ∈ sgs y, c ∈ sgs capsL := by decide +kernel
theorem made_stem {stem : Str} {c : Nat} (h : stem ∈ stemW) (hc : c ∈ sgs capsL) : madeOf (stem ++ ⟨#[c]⟩) capsL 4 = true := by
  obtain ⟨h1, _⟩ := stem_at h
  have h2 := stem_caps stem h
  have e : (stem ++ (⟨#[c]⟩ : Str)).length = stem.length + 1 := by rw [len_app]; rfl
  unfold madeOf
  rw [e, decide_eq_true (show 0 < stem.length + 1 by omega), decide_eq_true (show stem.length + 1 ≤ 4 by omega), Bool.true_and, Bool.true_and, sgs_app, List.all_eq_true]
  intro x hx
  rcases List.mem_append.mp hx with q | q
  · exact decide_eq_true (h2 x q)
  · rw [List.mem_singleton.mp (show x ∈ [c] from q)]; exact decide_eq_true hc
theorem cap_at : ∀ j : Fin 26, ∃ c, (sgs capsL)[j.val]? = some c ∧ c < 0x110000 := by decide +kernel
theorem sml_one {c : Nat} (h : c < 0x110000) : sml ⟨#[c]⟩ := fun x hx => by rw [List.mem_singleton.mp (show x ∈ [c] from hx)]; exact h
theorem cut_map {α β : Type} {f : α → β} {l : List α} {lo hi : Option Int} : Kn.cutD (l.map f) lo hi = (Kn.cutD l lo hi).map f := by
  unfold Kn.cutD
  rw [List.length_map, ← List.map_drop, ← List.map_take]
def sgn (c : Nat) : Dat := .str ⟨#[c]⟩
theorem fine_sgn {z : Str} (h : sml z) {g : Nat → Bool} : fine (.lst (((sgs z).filter g).map sgn)) = true := fines_map fun c hc => by
  have h1 := h c (List.mem_filter.mp hc).1
  show smlB ⟨#[c]⟩ = true
  exact sml_b fun x hx => by rw [List.mem_singleton.mp (show x ∈ [c] from hx)]; exact h1
theorem dep_sgn {l : List Nat} : dep (.lst (l.map sgn)) ≤ 64 := by
  have := deps_map (f := sgn) (l := l) (b := 0) fun c _ => Nat.le_refl 0
  rw [dep_lst]; omega
theorem none_bad {z L : Str} : (((sgs z).filter fun c => !decide (c ∈ sgs L)).map sgn).isEmpty = (sgs z).all fun c => decide (c ∈ sgs L) := by
  rw [List.isEmpty_map]
  induction sgs z with
  | nil => rfl
  | cons a r ih =>
    rw [List.filter_cons, List.all_cons]
    by_cases h : a ∈ sgs L
    · rw [decide_eq_true h]; exact ih
    · rw [decide_eq_false h]; rfl
def okN (n : Nat) (y : Str) : Prop := y.length ≤ n ∧ sml y
theorem lit {z : Str} {n : Nat} (h : (decide (z.length ≤ n) && smlB z) = true) : okN n z := by
  obtain ⟨h1, h2⟩ := Bool.and_eq_true_iff.mp h
  exact ⟨of_decide_eq_true h1, sml_of h2⟩
theorem okN.app {m n : Nat} {y z : Str} (h : okN m y) (h' : okN n z) : okN (m + n) (y ++ z) := ⟨by rw [len_app]; exact Nat.add_le_add h.1 h'.1, sml_app h.2 h'.2⟩
theorem okN.up {m n : Nat} {y : Str} (h : okN m y) (hm : m ≤ n) : okN n y := ⟨Nat.le_trans h.1 hm, h.2⟩
theorem ob_catN {X : Cx} {O : Own} {k : Slot → Own → Prop} {y z : Str} {m n : Nat} (hy : okN m y) (hz : okN n z) (hl : m + n ≤ 100000) (h : k (.dat (.str (y ++ z))) O) : OpB X (binaryOp .Add) (.dat (.str y)) (.dat (.str z)) O k :=
  ob_cat (Nat.le_trans (Nat.add_le_add hy.1 hz.1) (Nat.le_trans hl (by decide))) h
theorem len1 {y z : Str} {m n : Nat} (h1 : y.length ≤ m) (h2 : z.length ≤ n) : (y ++ z).length ≤ m + n := by rw [len_app]; omega
theorem word_ok {z x : Str} (h : TxtOk z) (hx : x ∈ Txt.split z " ") : TxtOk x := ⟨Nat.le_trans (word_len hx) h.1, sml_word h.2 hx⟩
section
variable {P : Program} {w : World} {K : PySem.W.Frag} {mg : Str → Option Value} {base : Heap}
theorem fn_is_kind_name (T : TopOf K mg) (Z : Facts K) {f : Addr} {fd : FuncData} (F : L2.Fun K "is_kind_name" "is_kind_name" s_is_kind_name f fd) : Fn P w K mg base false (2) f fd ["value"] (KindS) := by
  have sc := sc_is_kind_name
  refine fn_mk F sc_is_kind_name (fun ss O R h => by first | (obtain ⟨_, rfl, _⟩ := h; rfl) | (obtain ⟨_, _, rfl, _⟩ := h; rfl) | (obtain ⟨_, _, _, rfl, _⟩ := h; rfl) | (obtain ⟨_, _, _, _, rfl, _⟩ := h; rfl) | (obtain ⟨_, _, _, _, _, rfl, _⟩ := h; rfl) | (obtain ⟨_, _, _, _, _, _, rfl, _⟩ := h; rfl) | (obtain ⟨_, _, _, _, _, _, _, rfl, _⟩ := h; rfl)) fun cdv A outer s H E ss O R hr hpo h => ?_
  obtain ⟨d, rfl, hd, h⟩ := h
  -- 0:value
  refine sw_one ?_
  refine s1_ret ?_
  refine ew_call (c_is_made_of T Z) hr ?_
  refine aw_cons ?_
  refine ew_var 0 ?_
  refine aw_cons ?_
  refine ew_glob (Z.g_KIND_LETTERS.glob T) ?_
  refine aw_cons ?_
  refine ew_int ?_
  refine aw_nil ?_
  refine ⟨d, _, 4, rfl, hd, ?_⟩
  exact h
theorem c_is_kind_name (T : TopOf K mg) (Z : Facts K) : Cal P w K mg base false (2) "is_kind_name" (KindS) [] := cal_of T Z.d_is_kind_name (by walk_at "b1") fun f fd F => fn_is_kind_name T Z F
theorem fn_law_mixed (T : TopOf K mg) (Z : Facts K) {f : Addr} {fd : FuncData} (F : L2.Fun K "_law_mixed" "_law_mixed" s_law_mixed f fd) : Fn P w K mg base false (2) f fd ["_law_box_here", "_law_items"] (MixS) := by
  have sc := sc_law_mixed
  refine fn_mk F sc_law_mixed (fun ss O R h => by first | (obtain ⟨_, rfl, _⟩ := h; rfl) | (obtain ⟨_, _, rfl, _⟩ := h; rfl) | (obtain ⟨_, _, _, rfl, _⟩ := h; rfl) | (obtain ⟨_, _, _, _, rfl, _⟩ := h; rfl) | (obtain ⟨_, _, _, _, _, rfl, _⟩ := h; rfl) | (obtain ⟨_, _, _, _, _, _, rfl, _⟩ := h; rfl) | (obtain ⟨_, _, _, _, _, _, _, rfl, _⟩ := h; rfl)) fun cdv A outer s H E ss O R hr hpo h => ?_
  obtain ⟨l, p, b, rfl, hp, hb, hl, hsm, h⟩ := h
  refine sw_drop ?_
  -- 0:_law_box_here 1:_law_items 2:_law_left 3:_law_found
  refine sw_cons ?_
  refine s1_par 2 3 ?_ sc.nd
  refine aw_cons ?_
  refine ew_callTy (T.no Z.n_list) bt_list ?_
  refine aw_cons ?_
  refine ew_var 1 ?_
  refine aw_nil ?_
  refine cb_listL fun L hL => ?_
  refine aw_cons ?_
  refine ew_lst ?_
  refine aw_nil ?_
  refine ⟨by decide, fun q hq => ?_⟩
  have hqO : O q = none := by
    have n : q ≠ L := fun e => by rw [e, up_at] at hq; cases hq
    rw [up_ne n] at hq; exact hq
  have nql : q ≠ L := fun e => by rw [e, up_at] at hq; cases hq
  have npL : p ≠ L := own_ne hp hL
  have npq : p ≠ q := own_ne hp hqO
  refine aw_nil ?_
  refine ⟨_, _, rfl, ?_⟩
  refine sw_cons ?_
  refine s1_while hpo (fun m ρ' O' => ∃ (b' : Cell) (ls es : List Str), ρ' = [.own p, .dat (.lst (l.map .str)), .own L, .own q] ∧ O' = up (up (up O p b') L (.lst ((ls.map .str).map .dat))) q (.lst ((es.map .str).map .dat)) ∧ isBox b' ∧ (es ++ ls).Perm l ∧ ls.length = m) ?_ fun m ρ2 O2 hj => ?_
  · refine ⟨l.length, b, l, [], rfl, ?_, hb, .refl _, rfl⟩
    rw [up_self hp]
    rfl
  · obtain ⟨b', ls, es, rfl, rfl, hb', hperm, hm⟩ := hj
    have hlen := hperm.length_eq
    rw [List.length_append] at hlen
    have hls : ∀ y ∈ ls, sml y := fun y hy => hsm y (hperm.mem_iff.mp (List.mem_append.mpr (.inr hy)))
    refine tw_cmp ?_
    refine ew_var 2 ?_
    refine ew_lstD ?_
    refine aw_nil ?_
    refine ⟨[], rfl, by walk_at "few", ?_⟩
    refine ob_neA (hr.r.mono (by decide)) (.own (ds := ls.map .str) (by rw [up_ne nql.symm]; exact up_at)) (.dat _) (fine_all _ (fine_strs hls)).1 rfl (shape_of (fine_strs hls) dep_strs) shaped_nil ?_
    rw [eqD_nil]
    refine ⟨_, rfl, fun ht => ?_, fun ht => ?_⟩
    · have hl0 : 0 < ls.length := by
        cases ls with
        | nil => cases ht
        | cons a r => exact Nat.succ_pos _
      refine sw_one ?_
      refine s1_expr ?_
      refine ew_append ?_
      refine ew_var 3 ?_
      refine ⟨?_, ?_⟩
      · exact ⟨rfl, _, up_at⟩
      refine ew_popAt ?_
      refine ew_var 2 ?_
      refine ⟨?_, ?_⟩
      · exact ⟨rfl, _, by rw [up_ne nql.symm]; exact up_at⟩
      refine ew_call (c_law_take T Z) hr ?_
      refine aw_cons ?_
      refine ew_var 0 ?_
      refine aw_cons ?_
      refine ew_callB (T.no Z.n_len) bt_len ?_
      refine aw_cons ?_
      refine ew_var 2 ?_
      refine aw_nil ?_
      refine cb_lenO (by rw [up_ne nql.symm]; exact up_at) ?_
      refine aw_nil ?_
      refine ⟨p, _, b', rfl, by rw [up_ne npq, up_ne npL]; exact up_at, hb', by rw [List.length_map, List.length_map]; omega, by rw [List.length_map, List.length_map]; omega, fun r b2 h0 h1 hb2 => ?_⟩
      rw [List.length_map, List.length_map] at h1
      obtain ⟨a, ha⟩ : ∃ a, ls[r.toNat]? = some a := ⟨_, List.getElem?_eq_getElem (by omega)⟩
      refine mb_popAt (j := r.toNat) (s := .dat (.str a)) (by rw [up_ne npL.symm, up_ne nql.symm]; exact up_at) (by constructor <;> omega) (by rw [List.length_map, List.length_map]; exact seq_at h0 h1) (by rw [List.getElem?_map, List.getElem?_map, ha]; rfl) ?_
      refine mb_append (by rw [up_ne nql, up_ne npq.symm]; exact up_at) (by rw [List.length_map, List.length_map]; exact Nat.lt_of_le_of_lt (show es.length ≤ 1000 by omega) (by decide)) ?_
      refine ⟨(ls.eraseIdx r.toNat).length, by rw [← hm, List.length_eraseIdx]; split <;> omega, b2, ls.eraseIdx r.toNat, es ++ [a], rfl, ?_, hb2, ?_, rfl⟩
      · rw [erase_map, erase_map, List.map_append, List.map_append]
        walk_at "own"
      · rw [List.append_assoc]
        exact ((rot_perm ha).append_left es).trans hperm
    · have els : ls = [] := by
        cases ls with
        | nil => rfl
        | cons a r => cases ht
      subst els
      rw [List.append_nil] at hperm
      refine sw_one ?_
      refine s1_ret ?_
      refine ew_var 3 ?_
      refine ⟨_, ?_, h q b' es hqO hb' hperm⟩
      exact Sub.ups (Sub.up (by rw [up_ne npL.symm]; exact hL))
theorem c_law_mixed (T : TopOf K mg) (Z : Facts K) : Cal P w K mg base false (2) "_law_mixed" (MixS) [] := cal_of T Z.d_law_mixed (by walk_at "b2") fun f fd F => fn_law_mixed T Z F
theorem fn_law_pick (T : TopOf K mg) (Z : Facts K) {f : Addr} {fd : FuncData} (F : L2.Fun K "_law_pick" "_law_pick" s_law_pick f fd) : Fn P w K mg base false (2) f fd ["_law_box_here", "_law_items"] (PickS) := by
  have sc := sc_law_pick
  refine fn_mk F sc_law_pick (fun ss O R h => by first | (obtain ⟨_, rfl, _⟩ := h; rfl) | (obtain ⟨_, _, rfl, _⟩ := h; rfl) | (obtain ⟨_, _, _, rfl, _⟩ := h; rfl) | (obtain ⟨_, _, _, _, rfl, _⟩ := h; rfl) | (obtain ⟨_, _, _, _, _, rfl, _⟩ := h; rfl) | (obtain ⟨_, _, _, _, _, _, rfl, _⟩ := h; rfl) | (obtain ⟨_, _, _, _, _, _, _, rfl, _⟩ := h; rfl)) fun cdv A outer s H E ss O R hr hpo h => ?_
  obtain ⟨p, b, ds, rfl, hp, hb, hl0, hl, h⟩ := h
  -- 0:_law_box_here 1:_law_items
  refine sw_one ?_
  refine s1_ret ?_
  refine ew_ix ?_
  refine ew_var 1 ?_
  refine ew_call (c_law_take T Z) hr ?_
  refine aw_cons ?_
  refine ew_var 0 ?_
  refine aw_cons ?_
  refine ew_callB (T.no Z.n_len) bt_len ?_
  refine aw_cons ?_
  refine ew_var 1 ?_
  refine aw_nil ?_
  walk_at "cb len"
  refine aw_nil ?_
  refine ⟨p, _, b, rfl, hp, hb, by omega, by omega, fun r b2 h0 h1 hb2 => ?_⟩
  obtain ⟨d, hd⟩ : ∃ d, ds[r.toNat]? = some d := ⟨_, List.getElem?_eq_getElem (by omega)⟩
  refine ix_lst (d := d) (by rw [show r = ((r.toNat : Nat) : Int) by omega]; exact atI_nat hd) ?_
  exact h d b2 (List.mem_of_getElem? hd) hb2
theorem c_law_pick (T : TopOf K mg) (Z : Facts K) : Cal P w K mg base false (2) "_law_pick" (PickS) [] := cal_of T Z.d_law_pick (by walk_at "b2") fun f fd F => fn_law_pick T Z F
theorem fn_law_caps (T : TopOf K mg) (Z : Facts K) {f : Addr} {fd : FuncData} (F : L2.Fun K "_law_caps" "_law_caps" s_law_caps f fd) : Fn P w K mg base false (3) f fd ["_law_box_here", "_law_many"] (CapsS) := by
  have sc := sc_law_caps
  refine fn_mk F sc_law_caps (fun ss O R h => by first | (obtain ⟨_, rfl, _⟩ := h; rfl) | (obtain ⟨_, _, rfl, _⟩ := h; rfl) | (obtain ⟨_, _, _, rfl, _⟩ := h; rfl) | (obtain ⟨_, _, _, _, rfl, _⟩ := h; rfl) | (obtain ⟨_, _, _, _, _, rfl, _⟩ := h; rfl) | (obtain ⟨_, _, _, _, _, _, rfl, _⟩ := h; rfl) | (obtain ⟨_, _, _, _, _, _, _, rfl, _⟩ := h; rfl)) fun cdv A outer s H E ss O R hr hpo h => ?_
  obtain ⟨p, b, m, rfl, hp, hb, hm0, hm1, h⟩ := h
  -- 0:_law_box_here 1:_law_many 2:_law_letters 3:_law_first 4:_law_stem 5:_law_k
  refine sw_cons ?_
  refine s1_asg ?_
  refine ew_tup ?_
  refine aw_cons ?_
  refine ew_str ?_
  refine aw_cons ?_
  refine ew_call (c_law_take T Z) hr ?_
  refine aw_cons ?_
  refine ew_var 0 ?_
  refine aw_cons ?_
  refine ew_int ?_
  refine aw_nil ?_
  refine ⟨p, _, b, rfl, hp, hb, by decide, by decide, fun first b1 hf0 hf1 hb1 => ?_⟩
  refine aw_nil ?_
  refine ⟨[_, _], rfl, by walk_at "few", ?_⟩
  refine gw_tup ?_
  refine gsw_cons ?_
  refine gw_name 2 ?_ sc.nd
  refine gsw_cons ?_
  refine gw_name 3 ?_ sc.nd
  refine gsw_nil ?_
  refine sw_cons ?_
  refine s1_if ?_
  refine tw_cmp ?_
  refine ew_call (c_law_take T Z) hr ?_
  refine aw_cons ?_
  refine ew_var 0 ?_
  refine aw_cons ?_
  refine ew_int ?_
  refine aw_nil ?_
  refine ⟨p, _, b1, rfl, up_at, hb1, by decide, by decide, fun form b2 ho0 ho1 hb2 => ?_⟩
  rw [up_up]
  refine ew_int ?_
  walk_at "cmp Eq"
  refine ⟨_, rfl, fun ht => ?_, fun ht => ?_⟩
  · refine sw_one ?_
    refine s1_ret ?_
    refine ew_frz ?_
    refine ew_call (c_law_mixed T Z) hr ?_
    refine aw_cons ?_
    refine ew_var 0 ?_
    refine aw_cons ?_
    refine ew_slice ?_
    refine ew_lstD ?_
    refine aw_cons ?_
    refine ew_str ?_
    refine aw_cons ?_
    refine ew_str ?_
    refine aw_cons ?_
    refine ew_str ?_
    refine aw_cons ?_
    refine ew_str ?_
    refine aw_cons ?_
    refine ew_str ?_
    refine aw_cons ?_
    refine ew_str ?_
    refine aw_nil ?_
    refine ⟨[_, _, _, _, _, _], rfl, by walk_at "few", ?_⟩
    refine ow_none ?_
    refine ow_some ?_
    refine ew_var 1 ?_
    refine ⟨_, rfl, ?_⟩
    refine sb_lst ?_
    rw [show ([Dat.str "K", .str "KK", .str "KKK", .str "KKKK", .str "Q", .str "QK"] : List Dat) = sixW.map .str from rfl, cut_map, cut_take (by omega)]
    refine aw_nil ?_
    refine ⟨sixW.take m.toNat, p, b2, rfl, up_at, hb2, by rw [List.length_take]; exact Nat.le_trans (Nat.min_le_right _ _) (by decide), fun y hy => (six_at (List.mem_of_mem_take hy)).1.2, fun q b3 l' hq hb3 hperm => ?_⟩
    have npq : p ≠ q := own_ne up_at hq
    rw [up_ne npq.symm] at hq
    rw [up_up]
    refine ⟨q, l'.map .str, rfl, up_at, ?_⟩
    rw [dn_up (by rw [up_ne npq.symm]; exact hq)]
    refine h b3 l' hb3 (by rw [hperm.length_eq, List.length_take]; show min m.toNat 6 = _; omega) fun y hy => six_at (List.mem_of_mem_take (hperm.mem_iff.mp hy))
  · refine sw_nil ?_
    refine sw_cons ?_
    refine s1_set 4 ?_ sc.nd
    refine ew_ix ?_
    refine ew_lstD ?_
    refine aw_cons ?_
    refine ew_str ?_
    refine aw_cons ?_
    refine ew_str ?_
    refine aw_cons ?_
    refine ew_str ?_
    refine aw_cons ?_
    refine ew_str ?_
    refine aw_nil ?_
    refine ⟨[_, _, _, _], rfl, by walk_at "few", ?_⟩
    refine ew_call (c_law_take T Z) hr ?_
    refine aw_cons ?_
    refine ew_var 0 ?_
    refine aw_cons ?_
    refine ew_int ?_
    refine aw_nil ?_
    refine ⟨p, _, b2, rfl, up_at, hb2, by decide, by decide, fun si b3 hs0 hs1 hb3 => ?_⟩
    rw [up_up]
    obtain ⟨stem, hst⟩ : ∃ y, stemW[si.toNat]? = some y := ⟨_, List.getElem?_eq_getElem (show si.toNat < 4 by omega)⟩
    obtain ⟨hsl, hss⟩ := stem_at (List.mem_of_getElem? hst)
    refine ix_lst (d := .str stem) (by rw [show si = ((si.toNat : Nat) : Int) by omega]; exact atI_nat (by show (stemW.map Dat.str)[si.toNat]? = _; rw [List.getElem?_map, hst]; rfl)) ?_
    refine sw_one ?_
    refine s1_ret ?_
    refine ew_frz ?_
    refine ew_call (c_law_mixed T Z) hr ?_
    refine aw_cons ?_
    refine ew_var 0 ?_
    refine aw_cons ?_
    refine ew_map1 (List.range m.toNat) (fun i => .int (0 + (i : Int))) (fun i => .str (stem ++ ⟨#[(sgs capsL).getD ((first + 5 * (0 + (i : Int))) % 26).toNat 0]⟩)) [("_law_k", 5)] sc.nd (.name (i := 5) (by decide) fun Y ⟨_, _, _, _, _, e⟩ => by subst e; exact pg_name (i := 5) sc.nd rfl (.inl rfl) (.inr rfl)) (blkOk_by (N := N_law_caps) (sc := defScope s_law_caps) (by decide +kernel)) (iw_range1 (T.no Z.n_range) (aw_cons (ew_var 1 (aw_nil ⟨m, rfl, by constructor <;> omega, rfl, rfl⟩)))) (by rw [List.length_range]; exact Nat.le_trans (show m.toNat ≤ 6 by omega) (by decide)) (fun i hi => ⟨_, rfl, fun O' Y hY => ?_⟩) ?_
    · obtain ⟨_, _, _, _, _, rfl⟩ := hY
      refine ew_bin ?_
      refine ew_var 4 ?_
      refine ew_ix ?_
      refine ew_var 2 ?_
      refine ew_bin ?_
      refine ew_bin ?_
      refine ew_var 3 ?_
      refine ew_bin ?_
      refine ew_int ?_
      refine ew_var 5 ?_
      walk_at "op mul"
      walk_at "op add"
      refine ew_int ?_
      walk_at "op mod"
      have j0 : 0 ≤ (first + 5 * (0 + (i : Int))) % 26 := Int.emod_nonneg _ (by decide)
      have j1 : (first + 5 * (0 + (i : Int))) % 26 < 26 := Int.emod_lt_of_pos _ (by decide)
      obtain ⟨c, hc, _⟩ := cap_at ⟨((first + 5 * (0 + (i : Int))) % 26).toNat, by omega⟩
      refine ix_sgn (c := c) (by decide +kernel) (by
        rw [show (first + 5 * (0 + (i : Int))) % 26 = ((((first + 5 * (0 + (i : Int))) % 26).toNat : Nat) : Int) by omega]
        exact atI_nat hc) ?_
      refine ob_cat (Nat.le_trans (Nat.add_le_add_right hsl _) (show 3 + 1 ≤ sizeLine by decide)) ?_
      refine ⟨?_, rfl⟩
      rw [show (sgs capsL).getD ((first + 5 * (0 + (i : Int))) % 26).toNat 0 = c from by rw [List.getD_eq_getElem?_getD, hc]; rfl]
    have e : ((List.range m.toNat).map fun i => Dat.str (stem ++ ⟨#[(sgs capsL).getD ((first + 5 * (0 + (i : Int))) % 26).toNat 0]⟩)) = ((List.range m.toNat).map fun i => (stem ++ ⟨#[(sgs capsL).getD ((first + 5 * (0 + ((i : Nat) : Int))) % 26).toNat 0]⟩ : Str)).map .str := by rw [List.map_map]; rfl
    rw [e]
    have hok : ∀ y ∈ ((List.range m.toNat).map fun i => (stem ++ ⟨#[(sgs capsL).getD ((first + 5 * (0 + ((i : Nat) : Int))) % 26).toNat 0]⟩ : Str)), okK y := fun y hy => by
      obtain ⟨i, hi, rfl⟩ := List.mem_map.mp hy
      have j0 : 0 ≤ (first + 5 * (0 + (i : Int))) % 26 := Int.emod_nonneg _ (by decide)
      have j1 : (first + 5 * (0 + (i : Int))) % 26 < 26 := Int.emod_lt_of_pos _ (by decide)
      obtain ⟨c, hc, hcs⟩ := cap_at ⟨((first + 5 * (0 + (i : Int))) % 26).toNat, by omega⟩
      rw [show (sgs capsL).getD ((first + 5 * (0 + (i : Int))) % 26).toNat 0 = c from by rw [List.getD_eq_getElem?_getD, hc]; rfl]
      exact ⟨⟨by rw [len_app]; exact Nat.add_le_add hsl (Nat.le_refl 1), sml_app hss (sml_one hcs)⟩, made_stem (List.mem_of_getElem? hst) (List.mem_of_getElem? hc)⟩
    generalize hgl : ((List.range m.toNat).map fun i => (stem ++ ⟨#[(sgs capsL).getD ((first + 5 * (0 + ((i : Nat) : Int))) % 26).toNat 0]⟩ : Str)) = caps at hok
    have hcl : caps.length = m.toNat := by rw [← hgl, List.length_map, List.length_range]
    refine aw_nil ?_
    refine ⟨caps, p, b3, rfl, up_at, hb3, by omega, fun y hy => (hok y hy).1.2, fun q b4 l' hq hb4 hperm => ?_⟩
    have npq : p ≠ q := own_ne up_at hq
    rw [up_ne npq.symm] at hq
    rw [up_up]
    refine ⟨q, l'.map .str, rfl, up_at, ?_⟩
    rw [dn_up (by rw [up_ne npq.symm]; exact hq)]
    exact h b4 l' hb4 (by rw [hperm.length_eq, hcl]) fun y hy => hok y (hperm.mem_iff.mp hy)
theorem c_law_caps (T : TopOf K mg) (Z : Facts K) : Cal P w K mg base false (3) "_law_caps" (CapsS) [] := cal_of T Z.d_law_caps (by walk_at "b2") fun f fd F => fn_law_caps T Z F
end
/-! conditions: what they are, how they are put together -/
inductive Cn where
  | aw (ws : List Str)
  | hd (w : Str) (c : Cn)
  | jn (w : Str) (cs : List Cn)
mutual
def cD : Cn → Dat
  | .aw ws => .tup (ws.map .str)
  | .hd w c => .tup [.str w, cD c]
  | .jn w cs => .tup [.str w, .tup (cDs cs)]
def cDs : List Cn → List Dat
  | [] => []
  | c :: cs => cD c :: cDs cs
end
theorem cDs_map : ∀ cs : List Cn, cDs cs = cs.map cD
  | [] => by rw [cDs]; rfl
  | c :: cs => by rw [cDs, cDs_map cs]; rfl
def atW : List Str := ["is", "root", "earlier", "later"]
def heW : List Str := ["not", "parent", "above"]
def joW : List Str := ["and", "or"]
def betW : List Str := ["and", "or", ")"]
/-- an atom of a question -/
def okAt (ws : List Str) : Prop := (∃ w k, ws = [w, k] ∧ w ∈ atW ∧ madeOf k capsL 4 = true) ∨ ws = (["root"] : List Str)
mutual
def WF : Cn → Prop
  | .aw ws => okAt ws
  | .hd w c => w ∈ heW ∧ WF c
  | .jn w cs => w ∈ joW ∧ WFs cs
def WFs : List Cn → Prop
  | [] => True
  | c :: cs => WF c ∧ WFs cs
end
theorem WFs_all : ∀ {cs : List Cn}, WFs cs ↔ ∀ c ∈ cs, WF c
  | [] => by rw [WFs]; simp
  | c :: cs => by rw [WFs, WFs_all (cs := cs)]; simp
def wordC : Cn → Str
  | .aw ws => ws.headD ""
  | .hd w _ => w
  | .jn w _ => w
/-- what a part gives to parts joined by w -/
def partsOf (w : Str) : Cn → List Cn
  | .jn w' cs => if w' = w then cs else [.jn w' cs]
  | c => [c]
def joinC (w : Str) (cs : List Cn) : Cn := match cs with
  | [c] => c
  | cs => .jn w (cs.flatMap (partsOf w))
mutual
def sz : Cn → Nat
  | .aw _ => 1
  | .hd _ c => 1 + sz c
  | .jn _ cs => 1 + szs cs
def szs : List Cn → Nat
  | [] => 0
  | c :: cs => sz c + szs cs
end
theorem szs_sum : ∀ cs : List Cn, szs cs = (cs.map sz).sum
  | [] => by rw [szs]; rfl
  | c :: cs => by rw [szs, szs_sum cs]; rfl
theorem szs_app (a b : List Cn) : szs (a ++ b) = szs a + szs b := by rw [szs_sum, szs_sum, szs_sum, List.map_append, List.sum_append]
theorem sz_pos : ∀ c : Cn, 1 ≤ sz c
  | .aw _ => by rw [sz]; exact Nat.le_refl 1
  | .hd _ c => by rw [sz]; omega
  | .jn _ cs => by rw [sz]; omega
theorem szs_len (cs : List Cn) : cs.length ≤ szs cs := by
  induction cs with
  | nil => exact Nat.zero_le _
  | cons c cs ih =>
    have := sz_pos c
    rw [szs, List.length_cons]; omega
theorem szs_parts (w : Str) (c : Cn) : szs (partsOf w c) ≤ sz c := by
  cases c with
  | aw ws => show szs [_] ≤ _; rw [szs, szs]; omega
  | hd v c => show szs [_] ≤ _; rw [szs, szs]; omega
  | jn v cs =>
    show szs (if v = w then cs else [.jn v cs]) ≤ _
    split
    · rw [sz]; omega
    · rw [szs, szs]; omega
theorem szs_flat (w : Str) (cs : List Cn) : szs (cs.flatMap (partsOf w)) ≤ szs cs := by
  induction cs with
  | nil => exact Nat.le_refl _
  | cons c cs ih =>
    rw [List.flatMap_cons, szs_app, szs]
    have := szs_parts w c
    omega
theorem sz_join (w : Str) (cs : List Cn) : sz (joinC w cs) ≤ 1 + szs cs := by
  unfold joinC
  split
  · rename_i c
    rw [szs, szs]; omega
  · rw [sz]
    have := szs_flat w cs
    omega
theorem WF_parts {w : Str} {c : Cn} (h : WF c) : ∀ d ∈ partsOf w c, WF d := by
  cases c with
  | aw ws => intro d hd; rw [List.mem_singleton.mp hd]; exact h
  | hd v c => intro d hd; rw [List.mem_singleton.mp hd]; exact h
  | jn v cs =>
    show ∀ d ∈ (if v = w then cs else [.jn v cs]), WF d
    split
    · rw [WF] at h
      exact WFs_all.mp h.2
    · intro d hd; rw [List.mem_singleton.mp hd]; exact h
theorem WF_join {w : Str} {cs : List Cn} (hw : w ∈ joW) (h : ∀ c ∈ cs, WF c) : WF (joinC w cs) := by
  unfold joinC
  split
  · rename_i c
    exact h c (List.mem_singleton.mpr rfl)
  · rw [WF]
    refine ⟨hw, WFs_all.mpr fun d hd => ?_⟩
    obtain ⟨c, hc, hd⟩ := List.mem_flatMap.mp hd
    exact WF_parts (h c hc) d hd
/-! what is read within parentheses -/
structure FS where
  groups : List Cn
  parts : List Cn
  heads : List Str
def FS.new : FS := ⟨[], [], []⟩
def FS.add (s : FS) (c : Cn) : FS := ⟨s.groups, s.parts ++ [s.heads.foldr .hd c], []⟩
def FS.endG (s : FS) : FS := ⟨s.groups ++ [joinC "and" s.parts], [], s.heads⟩
def FS.ended (s : FS) : Cn := joinC "or" s.endG.groups
/-- a reader -/
structure RS where
  given : List Str
  «at» : Nat
  below : List FS
  top : FS
  atoms : Nat
  deep : Int
  deepest : Int
  used : List Str
def RS.new (ws : List Str) : RS := ⟨ws, 0, [], FS.new, 0, 0, 0, []⟩
def RS.cur (s : RS) : Option Str := s.given[s.at]?
def RS.next (s : RS) : RS := { s with «at» := s.at + 1 }
def RS.deeper (s : RS) : RS := { s with deep := s.deep + 1, deepest := if s.deep + 1 > s.deepest then s.deep + 1 else s.deepest }
def RS.push (s : RS) : RS := { s with below := s.below ++ [s.top], top := FS.new }
def RS.head (s : RS) (w : Str) : RS := { s with atoms := s.atoms + (if w = "not" then 0 else 1), top := { s.top with heads := s.top.heads ++ [w] } }
def RS.add (s : RS) (c : Cn) : RS := { s with deep := s.deep - (s.top.heads.length : Int), top := s.top.add c }
def RS.atom (s : RS) (c : Cn) : RS := RS.add { s with atoms := s.atoms + 1 } c
def RS.use (s : RS) (k : Str) : RS := { s with used := s.used ++ [k] }
def kindW (w : Option Str) : Bool := match w with
  | none => false
  | some k => madeOf k capsL 4
/-- an atom read: the index at which it shows that there is none, or the atom and the reader behind it -/
def RS.readA (s : RS) : Except Nat (Cn × RS) := if inW s.cur atW = true then (if s.cur = some ("root" : Str) then .ok (.aw ["root"], s.next) else
  if kindW s.next.cur = true then .ok (.aw [s.cur.getD "", s.next.cur.getD ""], (s.next.next).use (s.next.cur.getD "")) else .error (s.at + 1)) else .error s.at
def RS.readP (s : RS) : Except Nat (Bool × RS) := if s.cur = some ("(" : Str) then .ok (false, s.next.deeper.push) else
  if inW s.cur heW = true then .ok (false, s.next.deeper.head (s.cur.getD "")) else
  match s.readA with
  | .error i => .error i
  | .ok (c, s') => .ok (true, s'.atom c)
def RS.close (s : RS) : RS := match s.below.getLast? with
  | none => s
  | some t => RS.add { s with below := s.below.dropLast, top := t, deep := s.deep - 1 } s.top.ended
def RS.readB (s : RS) : Except Nat (Bool × RS) := if inW s.cur betW = true then
  (if s.cur = some (")" : Str) then (if s.below = [] then .error s.at else .ok (false, s.next.close)) else
   if s.cur = some ("or" : Str) then .ok (true, { s.next with top := s.top.endG }) else .ok (true, s.next)) else .error s.at
def RS.goes (wanted : Bool) (s : RS) : Bool := wanted || s.cur.isSome || decide (1 < s.below.length + 1)
def RS.run : Nat → Bool → RS → Except Nat RS
  | 0, _, s => .error s.at
  | n + 1, wanted, s => if RS.goes wanted s = true then (if wanted = true then (match s.readP with
      | .error i => .error i
      | .ok (b, s') => RS.run n (!b) s') else (match s.readB with
      | .error i => .error i
      | .ok (b, s') => RS.run n b s')) else .ok s
/-! the word of a condition, the parts of what is joined -/
section
variable {X : Cx} {O : Own} {k : Slot → Own → Prop}
theorem ix_word {c : Cn} (hc : WF c) (h : k (.dat (.str (wordC c))) O) : IxB X (.dat (cD c)) (.dat (.int 0)) O k := by
  cases c with
  | aw ws =>
    rw [WF] at hc
    rw [cD]
    rcases hc with ⟨w, z, rfl, _⟩ | rfl
    · exact ix_tpl rfl h
    · exact ix_tpl rfl h
  | hd w c => rw [cD]; exact ix_tpl rfl h
  | jn w cs => rw [cD]; exact ix_tpl rfl h
theorem jo_is {w : Str} (h : w ∈ joW) : w = "and" ∨ w = "or" := by simpa [joW] using h
theorem jo_at {w z : Str} {ws : List Str} (hw : w ∈ joW) (h : okAt ws) (e : wordC (.aw ws) = w) : False := by
  have key : ∀ v ∈ atW, v ∉ joW := by decide +kernel
  rcases h with ⟨v, k, rfl, hv, _⟩ | rfl
  · exact key v hv (by rw [show v = w from e]; exact hw)
  · exact key "root" (by decide +kernel) (by rw [show ("root" : Str) = w from e]; exact hw)
theorem jn_of {w : Str} {c : Cn} (hw : w ∈ joW) (hc : WF c) (e : wordC c = w) : ∃ cs, c = .jn w cs := by
  cases c with
  | aw ws => exact (jo_at (z := w) hw (by rw [WF] at hc; exact hc) e).elim
  | hd v c =>
    rw [WF] at hc
    have key : ∀ v ∈ heW, v ∉ joW := by decide +kernel
    exact (key v hc.1 (by rw [show v = w from e]; exact hw)).elim
  | jn v cs =>
    obtain rfl : v = w := e
    exact ⟨cs, rfl⟩
theorem parts_jn {w : Str} {cs : List Cn} : partsOf w (.jn w cs) = cs := if_pos rfl
theorem parts_ne {w : Str} {c : Cn} (h : wordC c ≠ w) : partsOf w c = [c] := by
  cases c with
  | aw ws => rfl
  | hd v c => rfl
  | jn v cs => exact if_neg h
end
def dC (c : Cn) : Slot := .dat (cD c)
def JoinS : SpecT := fun ss O R => ∃ (w : Str) (cs : List Cn), ss = [.dat (.str w), .dat (.lst (cs.map cD))] ∧ w ∈ joW ∧ (∀ c ∈ cs, WF c) ∧ szs cs ≤ 1000000 ∧ R (.ret (.dat (cD (joinC w cs)))) O
theorem flat_szs (w : Str) (cs : List Cn) (i : Nat) : ((cs.take i).flatMap (partsOf w)).length ≤ szs cs := by
  have h1 := szs_flat w cs
  have h2 := flat_len (partsOf w) cs i
  have h3 := szs_len (cs.flatMap (partsOf w))
  omega
theorem joinC_ne {w : Str} {cs : List Cn} (h : cs.length ≠ 1) : joinC w cs = .jn w (cs.flatMap (partsOf w)) := by
  unfold joinC
  split
  · exact absurd rfl h
  · rfl
section
variable {P : Program} {w : World} {K : PySem.W.Frag} {mg : Str → Option Value} {base : Heap}
theorem fn_joined (T : TopOf K mg) (Z : Facts K) {f : Addr} {fd : FuncData} (F : L2.Fun K "joined" "joined" s_joined f fd) : Fn P w K mg base false (1) f fd ["word", "parts"] (JoinS) := by
  have sc := sc_joined
  refine fn_mk F sc_joined (fun ss O R h => by first | (obtain ⟨_, rfl, _⟩ := h; rfl) | (obtain ⟨_, _, rfl, _⟩ := h; rfl) | (obtain ⟨_, _, _, rfl, _⟩ := h; rfl) | (obtain ⟨_, _, _, _, rfl, _⟩ := h; rfl) | (obtain ⟨_, _, _, _, _, rfl, _⟩ := h; rfl) | (obtain ⟨_, _, _, _, _, _, rfl, _⟩ := h; rfl) | (obtain ⟨_, _, _, _, _, _, _, rfl, _⟩ := h; rfl)) fun cdv A outer s H E ss O R hr hpo h => ?_
  obtain ⟨w0, cs, rfl, hw0, hcs, hsz, h⟩ := h
  refine sw_drop ?_
  -- 0:word 1:parts 2:found 3:part
  refine sw_cons ?_
  refine s1_if ?_
  refine tw_cmp ?_
  refine ew_callB (T.no Z.n_len) bt_len ?_
  refine aw_cons ?_
  refine ew_var 1 ?_
  refine aw_nil ?_
  walk_at "cb len"
  refine ew_int ?_
  walk_at "cmp Eq"
  refine ⟨_, rfl, fun ht => ?_, fun ht => ?_⟩
  · refine sw_one ?_
    refine s1_ret ?_
    refine ew_ix ?_
    refine ew_var 1 ?_
    refine ew_int ?_
    
    obtain ⟨c, rfl⟩ : ∃ c, cs = [c] := by
      cases cs with
      | nil => simp at ht
      | cons c r => cases r with
        | nil => exact ⟨c, rfl⟩
        | cons d r => simp at ht; omega
    refine ix_lst (d := cD c) rfl ?_
    exact ⟨O, .refl, h⟩
  · have hl1 : cs.length ≠ 1 := by
      intro e
      rw [List.length_map, e] at ht
      simp at ht
    refine sw_nil ?_
    refine sw_cons ?_
    refine s1_set 2 ?_ sc.nd
    refine ew_lst ?_
    refine aw_nil ?_
    refine ⟨by decide, fun p hp => ?_⟩
    refine sw_cons ?_
    refine s1_for hpo ?_
    refine iw_list (ew_var 1 ⟨cs.map cD, rfl, ?_⟩)
    refine ⟨fun i ρ' O' => ∃ s4, ρ' = [.dat (.str w0), .dat (.lst (cs.map cD)), .own p, s4] ∧ O' = up O p (.lst (((cs.take i).flatMap (partsOf w0)).map dC)), ?_, ?_, ?_⟩
    · exact ⟨_, rfl, rfl⟩
    · intro i d ρ2 O2 hj hd
      obtain ⟨s4, rfl, rfl⟩ := hj
      rw [List.getElem?_map] at hd
      obtain ⟨c, hc, rfl⟩ : ∃ c, cs[i]? = some c ∧ cD c = d := by
        cases e : cs[i]? with
        | none => rw [e] at hd; cases hd
        | some c => rw [e] at hd; exact ⟨c, rfl, Option.some.inj hd⟩
      have hcw := hcs c (List.mem_of_getElem? hc)
      have hft := flat_take (partsOf w0) cs i c hc
      have hle := flat_szs w0 cs i
      have hle2 := flat_szs w0 cs (i + 1)
      refine gw_name 3 ?_ sc.nd
      refine sw_one ?_
      refine s1_if ?_
      refine tw_cmp ?_
      refine ew_ix ?_
      refine ew_var 3 ?_
      refine ew_int ?_
      refine ix_word hcw ?_
      refine ew_var 0 ?_
      walk_at "cmp Eq"
      refine ⟨_, rfl, fun ht => ?_, fun ht => ?_⟩
      · obtain ⟨ds, rfl⟩ := jn_of hw0 hcw (of_decide_eq_true ht)
        refine sw_one ?_
        refine s1_expr ?_
        refine ew_extend ?_
        refine ew_var 2 ?_
        refine ⟨?_, ?_⟩
        · walk_at "ty"
        refine ew_ix ?_
        refine ew_var 3 ?_
        refine ew_int ?_
        
        rw [cD]
        refine ix_tpl (d := .tup (cDs ds)) rfl ?_
        
        refine mb_extendT up_at ?_ ?_
        · rw [parts_jn] at hft
          rw [hft, List.length_append] at hle2
          rw [cDs_map, List.length_map, List.length_map]
          exact Nat.le_trans (Nat.le_trans hle2 hsz) (by decide)
        refine ⟨_, rfl, ?_⟩
        rw [up_up, hft, parts_jn, cDs_map, List.map_append, List.map_map]
        rfl
      · refine sw_one ?_
        refine s1_expr ?_
        refine ew_append ?_
        refine ew_var 2 ?_
        refine ⟨?_, ?_⟩
        · walk_at "ty"
        refine ew_var 3 ?_
        
        refine mb_append up_at ?_ ?_
        · rw [List.length_map]
          exact Nat.lt_of_le_of_lt (Nat.le_trans hle hsz) (by decide)
        refine ⟨_, rfl, ?_⟩
        rw [up_up, hft, parts_ne (of_decide_eq_false ht), List.map_append]
        rfl
    · intro ρ2 O2 hj
      obtain ⟨s4, rfl, rfl⟩ := hj
      rw [List.length_map, List.take_length]
      refine sw_frz 2 (ds := (cs.flatMap (partsOf w0)).map cD) (by rw [List.map_map]; exact up_at) ?_
      refine sw_one ?_
      refine s1_ret ?_
      refine ew_tup ?_
      refine aw_cons ?_
      refine ew_var 0 ?_
      refine aw_cons ?_
      refine ew_callTy (T.no Z.n_tuple) bt_tuple ?_
      refine aw_cons ?_
      refine ew_var 2 ?_
      refine aw_nil ?_
      walk_at "cb tuple"
      refine aw_nil ?_
      refine ⟨[_, _], rfl, by walk_at "few", ?_⟩
      rw [joinC_ne hl1, cD, cDs_map] at h
      rw [dn_up hp]
      exact ⟨O, .refl, h⟩
theorem c_joined (T : TopOf K mg) (Z : Facts K) : Cal P w K mg base false (1) "joined" (JoinS) [] := cal_of T Z.d_joined (by walk_at "b2") fun f fd F => fn_joined T Z F
end
/-! the cells of a frame -/
section
variable {X : Cx} {O : Own} {ρ : List Slot} {x : ExK} {k : Slot → Own → Prop} {o : Expr} {apos cpos : Pos}
theorem ew_clear (h : EW X O ρ o x fun s O1 => TyS "list" O1 s ∧ MtB X "list.clear" s [] O1 k) (hbase : attributeBase o "clear" X.env (eval o X.env) = eval o X.env := by rfl) (hline : (apos.endLine == cpos.line) = true := by rfl) :
    EW X O ρ (.Call (.Attribute o "clear" apos) [] [] cpos) x k := ew_bm0 PySem.F.plainAttrs_list PySem.F.slot_list_clear PySem.F.type_list_clear h hbase hline
end
structure Fr where
  f : Addr
  dx : Addr
  g : Addr
  h : Addr
  p : Addr
def Fr.keys (A : Fr) : List Addr := [A.f, A.g, A.h, A.p]
def sS (z : Str) : Slot := .dat (.str z)
structure FrAt (C : Addr) (O : Own) (A : Fr) (s : FS) : Prop where
  f : O A.f = some (.slt C A.dx [some (.own A.g), some (.own A.h), some (.own A.p)])
  g : O A.g = some (.lst (s.groups.map dC))
  h : O A.h = some (.lst (s.heads.map sS))
  p : O A.p = some (.lst (s.parts.map dC))
  nd : A.keys.Nodup
/-- all cells but some stay -/
def But (ks : List Addr) (O O' : Own) : Prop := ∀ b c, b ∉ ks → O b = some c → O' b = some c
theorem But.refl {ks : List Addr} {O : Own} : But ks O O := fun _ _ _ h => h
theorem But.trans {ks : List Addr} {O O1 O2 : Own} (h : But ks O O1) (h' : But ks O1 O2) : But ks O O2 := fun b c n e => h' b c n (h b c n e)
theorem But.up {ks : List Addr} {O O1 : Own} {p : Addr} {c : Cell} (h : But ks O O1) (hp : p ∈ ks ∨ O p = none) : But ks O (Kn.up O1 p c) := fun b d n e => by
  have ne : b ≠ p := fun z => by
    subst z
    rcases hp with q | q
    · exact n q
    · rw [q] at e; cases e
  rw [up_ne ne]; exact h b d n e
theorem But.dn {ks : List Addr} {O O1 : Own} {p : Addr} (h : But ks O O1) (hp : p ∈ ks ∨ O p = none) : But ks O (Kn.dn O1 p) := fun b d n e => by
  have ne : b ≠ p := fun z => by
    subst z
    rcases hp with q | q
    · exact n q
    · rw [q] at e; cases e
  rw [dn_ne ne]; exact h b d n e
theorem But.more {ks ls : List Addr} {O O' : Own} (h : But ks O O') (m : ∀ b ∈ ks, b ∈ ls) : But ls O O' := fun b c n e => h b c (fun z => n (m b z)) e
theorem nd4 {a b c d : Addr} (h : [a, b, c, d].Nodup) : a ≠ b ∧ a ≠ c ∧ a ≠ d ∧ b ≠ c ∧ b ≠ d ∧ c ≠ d := by
  simp only [List.nodup_cons, List.mem_cons, List.not_mem_nil, or_false, not_or] at h
  exact ⟨h.1.1, h.1.2.1, h.1.2.2, h.2.1.1, h.2.1.2, h.2.2.1⟩
theorem nd4_of {a b c d : Addr} (h : a ≠ b ∧ a ≠ c ∧ a ≠ d ∧ b ≠ c ∧ b ≠ d ∧ c ≠ d) : [a, b, c, d].Nodup := by
  obtain ⟨h1, h2, h3, h4, h5, h6⟩ := h
  simp [h1, h2, h3, h4, h5, h6]
def FInitS (K : PySem.W.Frag) : SpecT := fun ss O R => ∃ (f C dx : Addr), ss = [.own f] ∧ clsAt K "Frame" C ∧ O f = some (.slt C dx []) ∧
  ∀ A O', A.f = f → FrAt C O' A FS.new → But [f] O O' → O A.g = none → O A.h = none → O A.p = none → R (.ret (.dat .non)) O'
def FAddS (K : PySem.W.Frag) : SpecT := fun ss O R => ∃ (C : Addr) (A : Fr) (s : FS) (c : Cn), ss = [.own A.f, .dat (cD c)] ∧ clsAt K "Frame" C ∧ FrAt C O A s ∧ s.parts.length ≤ 1000000 ∧ s.heads.length ≤ 1000000 ∧
  ∀ O', FrAt C O' A (s.add c) → But A.keys O O' → R (.ret (.dat .non)) O'
def FEndGS (K : PySem.W.Frag) : SpecT := fun ss O R => ∃ (C : Addr) (A : Fr) (s : FS), ss = [.own A.f] ∧ clsAt K "Frame" C ∧ FrAt C O A s ∧ (∀ c ∈ s.parts, WF c) ∧ szs s.parts ≤ 1000000 ∧ s.groups.length ≤ 1000000 ∧
  ∀ A' O', A'.f = A.f → A'.g = A.g → A'.h = A.h → (A'.p = A.p ∨ O A'.p = none) → FrAt C O' A' s.endG → But A.keys O O' → R (.ret (.dat .non)) O'
def FEndedS (K : PySem.W.Frag) : SpecT := fun ss O R => ∃ (C : Addr) (A : Fr) (s : FS), ss = [.own A.f] ∧ clsAt K "Frame" C ∧ FrAt C O A s ∧ (∀ c ∈ s.parts, WF c) ∧ szs s.parts ≤ 1000000 ∧ (∀ c ∈ s.groups, WF c) ∧ szs s.groups ≤ 400000 ∧ szs s.parts ≤ 400000 ∧
  ∀ O', But A.keys O O' → R (.ret (.dat (cD s.ended))) O'
theorem foldr_take {β : Type} (g : Str → β → β) (b : β) (l : List Str) (i : Nat) (a : Str) (h : l.reverse[i]? = some a) : (l.reverse.take (i + 1)).foldl (fun c z => g z c) b = g a ((l.reverse.take i).foldl (fun c z => g z c) b) := by
  rw [List.take_add_one, h, List.foldl_append]; rfl
section
variable {P : Program} {w : World} {K : PySem.W.Frag} {mg : Str → Option Value} {base : Heap}
theorem fn_Frame_init (T : TopOf K mg) (Z : Facts K) {f : Addr} {fd : FuncData} (F : L2.Fun K "__init__" "Frame.__init__" s_Frame_init f fd) : Fn P w K mg base false (1) f fd ["self"] (FInitS K) := by
  have sc := sc_Frame_init
  refine fn_mk F sc_Frame_init (fun ss O R h => by first | (obtain ⟨_, rfl, _⟩ := h; rfl) | (obtain ⟨_, _, rfl, _⟩ := h; rfl) | (obtain ⟨_, _, _, rfl, _⟩ := h; rfl) | (obtain ⟨_, _, _, _, rfl, _⟩ := h; rfl) | (obtain ⟨_, _, _, _, _, rfl, _⟩ := h; rfl) | (obtain ⟨_, _, _, _, _, _, rfl, _⟩ := h; rfl) | (obtain ⟨_, _, _, _, _, _, _, rfl, _⟩ := h; rfl)) fun cdv A outer s H E ss O R hr hpo h => ?_
  obtain ⟨fa, C, dx, rfl, hC, hf, h⟩ := h
  obtain ⟨C', I_Frame, mI, mAdd, mEndG, mEnded, ⟨q0, t_groups⟩, ⟨q1, t_heads⟩, ⟨q2, t_parts⟩⟩ := Z.c_Frame
  obtain rfl := at_inj hC I_Frame.at_
  -- 0:self
  refine sw_cons ?_
  refine s1_slot I_Frame.sc t_groups ?_
  refine ew_lst ?_
  refine aw_nil ?_
  refine ⟨by decide, fun g hg => ?_⟩
  have n1 : fa ≠ g := own_ne hf hg
  refine ew_var 0 ?_
  refine ⟨fa, dx, [], rfl, by rw [up_ne n1]; exact hf, ?_⟩
  refine sw_cons ?_
  refine s1_slot I_Frame.sc t_parts ?_
  refine ew_lst ?_
  refine aw_nil ?_
  refine ⟨by decide, fun p hp => ?_⟩
  have n2 : p ≠ fa := fun e => by rw [e, up_at] at hp; cases hp
  have hp1 := hp
  rw [up_ne n2] at hp1
  have n3 : p ≠ g := fun e => by rw [e, up_at] at hp1; cases hp1
  rw [up_ne n3] at hp1
  refine ew_var 0 ?_
  refine ⟨fa, dx, _, rfl, by rw [up_ne n2.symm]; exact up_at, ?_⟩
  refine sw_one ?_
  refine s1_slot I_Frame.sc t_heads ?_
  refine ew_lst ?_
  refine aw_nil ?_
  refine ⟨by decide, fun hh hhn => ?_⟩
  have n4 : hh ≠ fa := fun e => by rw [e, up_at] at hhn; cases hhn
  have hh1 := hhn
  rw [up_ne n4] at hh1
  have n5 : hh ≠ p := fun e => by rw [e, up_at] at hh1; cases hh1
  rw [up_ne n5, up_ne n4] at hh1
  have n6 : hh ≠ g := fun e => by rw [e, up_at] at hh1; cases hh1
  rw [up_ne n6] at hh1
  refine ew_var 0 ?_
  refine ⟨fa, dx, _, rfl, by rw [up_ne n4.symm]; exact up_at, ?_⟩
  refine h ⟨fa, dx, g, hh, p⟩ _ rfl ⟨up_at, ?_, ?_, ?_, nd4_of ⟨n1, n4.symm, n2.symm, n6.symm, n3.symm, n5⟩⟩ ?_ hg hh1 hp1
  · show Kn.up _ _ _ g = _
    rw [up_ne n1.symm, up_ne n6.symm, up_ne n1.symm, up_ne n3.symm, up_ne n1.symm]; exact up_at
  · show Kn.up _ _ _ hh = _
    rw [up_ne n4]; exact up_at
  · show Kn.up _ _ _ p = _
    rw [up_ne n2, up_ne n5.symm, up_ne n2]; exact up_at
  · exact (((((But.refl.up (.inr hg)).up (.inl (by simp))).up (.inr hp1)).up (.inl (by simp))).up (.inr hh1)).up (.inl (by simp))
theorem fn_Frame_add (T : TopOf K mg) (Z : Facts K) {f : Addr} {fd : FuncData} (F : L2.Fun K "add" "Frame.add" s_Frame_add f fd) : Fn P w K mg base false (1) f fd ["self", "part"] (FAddS K) := by
  have sc := sc_Frame_add
  refine fn_mk F sc_Frame_add (fun ss O R h => by first | (obtain ⟨_, rfl, _⟩ := h; rfl) | (obtain ⟨_, _, rfl, _⟩ := h; rfl) | (obtain ⟨_, _, _, rfl, _⟩ := h; rfl) | (obtain ⟨_, _, _, _, rfl, _⟩ := h; rfl) | (obtain ⟨_, _, _, _, _, rfl, _⟩ := h; rfl) | (obtain ⟨_, _, _, _, _, _, rfl, _⟩ := h; rfl) | (obtain ⟨_, _, _, _, _, _, _, rfl, _⟩ := h; rfl)) fun cdv A outer s H E ss O R hr hpo h => ?_
  obtain ⟨C, A, s0, c0, rfl, hC, hA, hz, hz2, h⟩ := h
  obtain ⟨C', I_Frame, mI, mAdd, mEndG, mEnded, ⟨q0, t_groups⟩, ⟨q1, t_heads⟩, ⟨q2, t_parts⟩⟩ := Z.c_Frame
  obtain rfl := at_inj hC I_Frame.at_
  obtain ⟨n1, n2, n3, n4, n5, n6⟩ := nd4 hA.nd
  -- 0:self 1:part 2:head
  refine sw_cons ?_
  refine s1_forO hpo ?_
  refine iwo_rev (T.no Z.n_reversed) ?_
  refine ew_slot I_Frame.sc t_heads ?_
  refine ew_var 0 ?_
  refine ⟨A.f, A.dx, _, _, rfl, hA.f, rfl, ?_⟩
  refine ⟨A.h, s0.heads.map .str, rfl, by rw [List.map_map]; exact hA.h, ?_⟩
  refine ⟨fun i ρ' O' => ∃ s2, ρ' = [.own A.f, .dat (cD ((s0.heads.reverse.take i).foldl (fun c z => Cn.hd z c) c0)), s2] ∧ O' = O, ?_, ?_, ?_, ?_⟩
  · exact ⟨_, rfl, rfl⟩
  · intro i ρ2 O2 hj
    obtain ⟨s2, rfl, rfl⟩ := hj
    rw [List.map_map]; exact hA.h
  · intro i d ρ2 O2 hj hd
    obtain ⟨s2, rfl, rfl⟩ := hj
    rw [← List.map_reverse, List.getElem?_map] at hd
    obtain ⟨z, hz3, rfl⟩ : ∃ z, s0.heads.reverse[i]? = some z ∧ Dat.str z = d := by
      cases e : s0.heads.reverse[i]? with
      | none => rw [e] at hd; cases hd
      | some z => rw [e] at hd; exact ⟨z, rfl, Option.some.inj hd⟩
    refine gw_name 2 ?_ sc.nd
    refine sw_one ?_
    refine s1_set 1 ?_ sc.nd
    refine ew_tup ?_
    refine aw_cons ?_
    refine ew_var 2 ?_
    refine aw_cons ?_
    refine ew_var 1 ?_
    refine aw_nil ?_
    refine ⟨[_, _], rfl, by walk_at "few", ?_⟩
    refine ⟨.dat (.str z), ?_, rfl⟩
    rw [foldr_take Cn.hd c0 s0.heads i z hz3, cD]
    rfl
  · intro ρ2 O2 hj
    obtain ⟨s2, rfl, rfl⟩ := hj
    rw [List.length_reverse, List.length_map]
    have e1 : s0.heads.reverse.take s0.heads.length = s0.heads.reverse := by rw [← List.length_reverse, List.take_length]
    rw [e1, List.foldl_reverse]
    refine sw_cons ?_
    refine s1_expr ?_
    refine ew_clear ?_
    refine ew_slot I_Frame.sc t_heads ?_
    refine ew_var 0 ?_
    refine ⟨A.f, A.dx, _, _, rfl, hA.f, rfl, ?_⟩
    refine ⟨?_, ?_⟩
    · exact ⟨rfl, _, hA.h⟩
    refine mb_clear hA.h ?_
    refine sw_one ?_
    refine s1_expr ?_
    refine ew_append ?_
    refine ew_slot I_Frame.sc t_parts ?_
    refine ew_var 0 ?_
    refine ⟨A.f, A.dx, _, _, rfl, by rw [up_ne n2]; exact hA.f, rfl, ?_⟩
    refine ⟨?_, ?_⟩
    · exact ⟨rfl, _, by rw [up_ne n6.symm]; exact hA.p⟩
    refine ew_var 1 ?_
    refine mb_append (by rw [up_ne n6.symm]; exact hA.p) (by rw [List.length_map]; exact Nat.lt_of_le_of_lt hz (by decide)) ?_
    refine h _ ⟨?_, ?_, ?_, ?_, hA.nd⟩ ((But.refl.up (.inl (by simp [Fr.keys]))).up (.inl (by simp [Fr.keys])))
    · rw [up_ne n3, up_ne n2]; exact hA.f
    · rw [up_ne n5, up_ne n4]; exact hA.g
    · rw [up_ne n6]; exact up_at
    · rw [up_at]
      show _ = some (Cell.lst ((s0.parts ++ [_]).map dC))
      rw [List.map_append]; rfl
theorem fn_Frame_end_group (T : TopOf K mg) (Z : Facts K) {f : Addr} {fd : FuncData} (F : L2.Fun K "end_group" "Frame.end_group" s_Frame_end_group f fd) : Fn P w K mg base false (2) f fd ["self"] (FEndGS K) := by
  have sc := sc_Frame_end_group
  refine fn_mk F sc_Frame_end_group (fun ss O R h => by first | (obtain ⟨_, rfl, _⟩ := h; rfl) | (obtain ⟨_, _, rfl, _⟩ := h; rfl) | (obtain ⟨_, _, _, rfl, _⟩ := h; rfl) | (obtain ⟨_, _, _, _, rfl, _⟩ := h; rfl) | (obtain ⟨_, _, _, _, _, rfl, _⟩ := h; rfl) | (obtain ⟨_, _, _, _, _, _, rfl, _⟩ := h; rfl) | (obtain ⟨_, _, _, _, _, _, _, rfl, _⟩ := h; rfl)) fun cdv A outer s H E ss O R hr hpo h => ?_
  obtain ⟨C, A, s0, rfl, hC, hA, hw, hz, hz2, h⟩ := h
  obtain ⟨C', I_Frame, mI, mAdd, mEndG, mEnded, ⟨q0, t_groups⟩, ⟨q1, t_heads⟩, ⟨q2, t_parts⟩⟩ := Z.c_Frame
  obtain rfl := at_inj hC I_Frame.at_
  obtain ⟨n1, n2, n3, n4, n5, n6⟩ := nd4 hA.nd
  refine sw_slotfrz 2 (ds := s0.parts.map cD) hA.f rfl (by rw [List.map_map]; exact hA.p) ?_
  -- 0:self
  refine sw_cons ?_
  refine s1_expr ?_
  refine ew_append ?_
  refine ew_slot I_Frame.sc t_groups ?_
  refine ew_var 0 ?_
  refine ⟨A.f, A.dx, _, _, rfl, up_at, rfl, ?_⟩
  refine ⟨?_, ?_⟩
  · exact ⟨rfl, _, by rw [up_ne n1.symm, dn_ne n5]; exact hA.g⟩
  refine ew_call (c_joined T Z) hr ?_
  refine aw_cons ?_
  refine ew_str ?_
  refine aw_cons ?_
  refine ew_slot I_Frame.sc t_parts ?_
  refine ew_var 0 ?_
  refine ⟨A.f, A.dx, _, _, rfl, up_at, rfl, ?_⟩
  refine aw_nil ?_
  refine ⟨"and", s0.parts, rfl, by decide +kernel, hw, hz, ?_⟩
  refine mb_append (by rw [up_ne n1.symm, dn_ne n5]; exact hA.g) (by rw [List.length_map]; exact Nat.lt_of_le_of_lt hz2 (by decide)) ?_
  refine sw_one ?_
  refine s1_slot I_Frame.sc t_parts ?_
  refine ew_lst ?_
  refine aw_nil ?_
  refine ⟨by decide, fun p hp => ?_⟩
  have m1 : p ≠ A.g := fun e => by rw [e, up_at] at hp; cases hp
  rw [up_ne m1] at hp
  have m2 : p ≠ A.f := fun e => by rw [e, up_at] at hp; cases hp
  rw [up_ne m2] at hp
  have m3 : p ≠ A.h := fun e => by rw [e, dn_ne n6, hA.h] at hp; cases hp
  refine ew_var 0 ?_
  refine ⟨A.f, A.dx, _, rfl, by rw [up_ne m2.symm, up_ne n1]; exact up_at, ?_⟩
  have hpp : p = A.p ∨ O p = none := by
    by_cases e : p = A.p
    · exact .inl e
    · exact .inr (by rw [dn_ne e] at hp; exact hp)
  have hpk : p ∈ A.keys ∨ O p = none := hpp.imp (fun e => by rw [e]; simp [Fr.keys]) fun e => e
  refine h ⟨A.f, A.dx, A.g, A.h, p⟩ _ rfl rfl rfl hpp ⟨up_at, ?_, ?_, ?_, nd4_of ⟨n1, n2, m2.symm, n4, m1.symm, m3.symm⟩⟩ ?_
  · show Kn.up _ _ _ A.g = _
    rw [up_ne n1.symm, up_ne m1.symm, up_at]
    show _ = some (Cell.lst ((s0.groups ++ [_]).map dC))
    rw [List.map_append]; rfl
  · show Kn.up _ _ _ A.h = _
    rw [up_ne n2.symm, up_ne m3.symm, up_ne n4.symm, up_ne n2.symm, dn_ne n6]; exact hA.h
  · show Kn.up _ _ _ p = _
    rw [up_ne m2]; exact up_at
  · exact ((((But.refl.dn (.inl (by simp [Fr.keys]))).up (.inl (by simp [Fr.keys]))).up (.inl (by simp [Fr.keys]))).up hpk).up (.inl (by simp [Fr.keys]))
theorem fn_Frame_ended (T : TopOf K mg) (Z : Facts K) {f : Addr} {fd : FuncData} (F : L2.Fun K "ended" "Frame.ended" s_Frame_ended f fd) : Fn P w K mg base false (3) f fd ["self"] (FEndedS K) := by
  have sc := sc_Frame_ended
  refine fn_mk F sc_Frame_ended (fun ss O R h => by first | (obtain ⟨_, rfl, _⟩ := h; rfl) | (obtain ⟨_, _, rfl, _⟩ := h; rfl) | (obtain ⟨_, _, _, rfl, _⟩ := h; rfl) | (obtain ⟨_, _, _, _, rfl, _⟩ := h; rfl) | (obtain ⟨_, _, _, _, _, rfl, _⟩ := h; rfl) | (obtain ⟨_, _, _, _, _, _, rfl, _⟩ := h; rfl) | (obtain ⟨_, _, _, _, _, _, _, rfl, _⟩ := h; rfl)) fun cdv A outer s H E ss O R hr hpo h => ?_
  obtain ⟨C, A, s0, rfl, hC, hA, hw, hz, hwg, hzg, hzp, h⟩ := h
  obtain ⟨C', I_Frame, mI, mAdd, mEndG, mEnded, ⟨q0, t_groups⟩, ⟨q1, t_heads⟩, ⟨q2, t_parts⟩⟩ := Z.c_Frame
  obtain rfl := at_inj hC I_Frame.at_
  have mc : MCal P w K mg base false 2 C "end_group" (FEndGS K) [] := mcal_of mEndG (by walk_at "b1") fun f fd F => fn_Frame_end_group T Z F
  -- 0:self
  refine sw_cons ?_
  refine s1_expr ?_
  refine ew_methSl0 mc I_Frame.sc hr ?_
  refine ew_var 0 ?_
  refine ⟨⟨_, _, hA.f⟩, C, A, s0, rfl, hC, hA, hw, hz, Nat.le_trans (szs_len _) (Nat.le_trans hzg (by decide)), fun A' O' e1 e2 e3 hn hA' hb => ?_⟩
  rw [← e1]
  obtain ⟨n1, n2, n3, n4, n5, n6⟩ := nd4 hA'.nd
  refine sw_slotfrz 0 (ds := s0.endG.groups.map cD) hA'.f rfl (by rw [List.map_map]; exact hA'.g) ?_
  refine sw_one ?_
  refine s1_ret ?_
  refine ew_call (c_joined T Z) hr ?_
  refine aw_cons ?_
  refine ew_str ?_
  refine aw_cons ?_
  refine ew_slot I_Frame.sc t_groups ?_
  refine ew_var 0 ?_
  refine ⟨A'.f, A'.dx, _, _, rfl, up_at, rfl, ?_⟩
  refine aw_nil ?_
  have hj := sz_join "and" s0.parts
  refine ⟨"or", s0.endG.groups, rfl, by decide +kernel, fun c hc => ?_, ?_, ?_⟩
  · rcases List.mem_append.mp hc with q | q
    · exact hwg c q
    · rw [List.mem_singleton.mp q]; exact WF_join (by decide +kernel) hw
  · show szs (s0.groups ++ [_]) ≤ _
    rw [szs_app, szs, szs]; omega
  refine h _ ((hb.dn (.inl ?_)).up (.inl ?_))
  · rw [e2]; simp [Fr.keys]
  · rw [e1]; simp [Fr.keys]
end
/-! the cells of a reader -/
theorem paired_mem {α β : Type} {F F' : α → β → Prop} : ∀ {xs : List α} {ys : List β}, Paired F xs ys → (∀ x ∈ xs, ∀ y, F x y → F' x y) → Paired F' xs ys
  | _, _, .nil, _ => .nil
  | _, _, .cons h t, m => .cons (m _ (by simp) _ h) (paired_mem t fun x hx => m x (List.mem_cons_of_mem _ hx))
theorem paired_snoc {α β : Type} {F : α → β → Prop} : ∀ {xs : List α} {ys : List β} {y : β}, Paired F xs (ys ++ [y]) → ∃ xs' x, xs = xs' ++ [x] ∧ Paired F xs' ys ∧ F x y
  | _, [], y, h => by
    cases h with
    | cons h t => cases t; exact ⟨[], _, rfl, .nil, h⟩
  | _, z :: ys, y, h => by
    cases h with
    | cons h t =>
      obtain ⟨xs', x, rfl, h1, h2⟩ := paired_snoc t
      exact ⟨_ :: xs', x, rfl, .cons h h1, h2⟩
theorem FrAt.but {C : Addr} {O O' : Own} {A : Fr} {s : FS} {ks : List Addr} (h : FrAt C O A s) (b : But ks O O') (n : ∀ k ∈ A.keys, k ∉ ks) : FrAt C O' A s :=
  ⟨b _ _ (n _ (by simp [Fr.keys])) h.f, b _ _ (n _ (by simp [Fr.keys])) h.g, b _ _ (n _ (by simp [Fr.keys])) h.h, b _ _ (n _ (by simp [Fr.keys])) h.p, h.nd⟩
def rdF (s : RS) (pf pu : Addr) : List (Str × Slot) := [("given", .dat (.lst (s.given.map .str))), ("at", .dat (.int (s.at : Int))), ("frames", .own pf), ("atoms", .dat (.int (s.atoms : Int))), ("deep", .dat (.int s.deep)), ("deepest", .dat (.int s.deepest)), ("used", .own pu)]
structure Nm where
  r : Addr
  dx : Addr
  pf : Addr
  pu : Addr
  Bs : List Fr
  A : Fr
def Nm.keys (N : Nm) : List Addr := [N.r, N.pf, N.pu] ++ (N.Bs.flatMap Fr.keys ++ N.A.keys)
structure Rd (C CF : Addr) (O0 O : Own) (N : Nm) (s : RS) : Prop where
  rd : O N.r = some (.ins C N.dx (rdF s N.pf N.pu))
  fr : O N.pf = some (.lst ((N.Bs.map fun B => Slot.own B.f) ++ [.own N.A.f]))
  us : O N.pu = some (.lst (s.used.map sS))
  top : FrAt CF O N.A s.top
  bel : Paired (FrAt CF O) N.Bs s.below
  nd : N.keys.Nodup
  sub : Sub O0 O
  new : ∀ k ∈ N.keys, O0 k = none
section
variable {C CF : Addr} {O0 O O' : Own} {N : Nm} {s s' : RS} {ks : List Addr}
theorem Nm.mr : N.r ∈ N.keys := by simp [Nm.keys]
theorem Nm.mf : N.pf ∈ N.keys := by simp [Nm.keys]
theorem Nm.mu : N.pu ∈ N.keys := by simp [Nm.keys]
theorem Nm.mA {k : Addr} (h : k ∈ N.A.keys) : k ∈ N.keys := by simp [Nm.keys, h]
theorem Nm.mB {B : Fr} {k : Addr} (hB : B ∈ N.Bs) (h : k ∈ B.keys) : k ∈ N.keys := by
  unfold Nm.keys
  exact List.mem_append.mpr (.inr (List.mem_append.mpr (.inl (List.mem_flatMap.mpr ⟨B, hB, h⟩))))
theorem Rd.but (h : Rd C CF O0 O N s) (b : But ks O O') (n : ∀ k ∈ N.keys, k ∉ ks) (z : ∀ k ∈ ks, O0 k = none) : Rd C CF O0 O' N s :=
  ⟨b _ _ (n _ Nm.mr) h.rd, b _ _ (n _ Nm.mf) h.fr, b _ _ (n _ Nm.mu) h.us, h.top.but b fun k q => n k (Nm.mA q), paired_mem h.bel fun B hB t q => q.but b fun k r => n k (Nm.mB hB r), h.nd,
   fun p c e => b p c (fun q => by rw [z p q] at e; cases e) (h.sub p c e), h.new⟩
theorem Rd.cell (h : Rd C CF O0 O N s) {k : Addr} (hk : k ∈ N.keys) : O k ≠ none := by
  unfold Nm.keys at hk
  rcases List.mem_append.mp hk with q | q
  · simp only [List.mem_cons, List.not_mem_nil, or_false] at q
    rcases q with rfl | rfl | rfl
    · rw [h.rd]; simp
    · rw [h.fr]; simp
    · rw [h.us]; simp
  · have key : ∀ {A : Fr} {t : FS}, FrAt CF O A t → k ∈ A.keys → O k ≠ none := fun {A t} hA q => by
      simp only [Fr.keys, List.mem_cons, List.not_mem_nil, or_false] at q
      rcases q with rfl | rfl | rfl | rfl
      · rw [hA.f]; simp
      · rw [hA.g]; simp
      · rw [hA.h]; simp
      · rw [hA.p]; simp
    rcases List.mem_append.mp q with q | q
    · obtain ⟨B, hB, hk⟩ := List.mem_flatMap.mp q
      have : ∀ {Bs : List Fr} {ts : List FS}, Paired (FrAt CF O) Bs ts → B ∈ Bs → O k ≠ none := fun {Bs ts} hp => by
        induction hp with
        | nil => intro hB; cases hB
        | cons hA t ih =>
          intro hB
          rcases List.mem_cons.mp hB with rfl | hB
          · exact key hA hk
          · exact ih hB
      exact this h.bel hB
    · exact key h.top q
/-- three parts of the keys -/
theorem Rd.parts (h : Rd C CF O0 O N s) : (N.r ≠ N.pf ∧ N.r ≠ N.pu ∧ N.pf ≠ N.pu) ∧ (∀ k ∈ N.Bs.flatMap Fr.keys ++ N.A.keys, k ≠ N.r ∧ k ≠ N.pf ∧ k ≠ N.pu) ∧ (∀ k ∈ N.A.keys, k ∉ N.Bs.flatMap Fr.keys) := by
  have nd := h.nd
  unfold Nm.keys at nd
  rw [List.nodup_append] at nd
  obtain ⟨n1, n2, n3⟩ := nd
  rw [List.nodup_append] at n2
  simp only [List.nodup_cons, List.mem_cons, List.not_mem_nil, or_false, not_or] at n1
  refine ⟨⟨n1.1.1, n1.1.2, n1.2.1⟩, fun k hk => ⟨fun e => n3 N.r (by simp) k hk e.symm, fun e => n3 N.pf (by simp) k hk e.symm, fun e => n3 N.pu (by simp) k hk e.symm⟩, fun k hk q => n2.2.2 k q k hk rfl⟩
/-- all of it but the reader's own cell -/
theorem Rd.upR (h : Rd C CF O0 O N s) (hb : s'.below = s.below) (ht : s'.top = s.top) (hu : s'.used = s.used) : Rd C CF O0 (up O N.r (.ins C N.dx (rdF s' N.pf N.pu))) N s' := by
  obtain ⟨⟨m1, m2, m3⟩, m4, m5⟩ := h.parts
  have b : But [N.r] O (up O N.r (.ins C N.dx (rdF s' N.pf N.pu))) := But.refl.up (.inl (by simp))
  have nA : ∀ k ∈ N.A.keys, k ∉ [N.r] := fun k q => by simp [(m4 k (List.mem_append.mpr (.inr q))).1]
  refine ⟨up_at, b _ _ (by simp [m1.symm]) h.fr, by rw [hu]; exact b _ _ (by simp [m2.symm]) h.us, by rw [ht]; exact h.top.but b nA, by
    rw [hb]
    exact paired_mem h.bel fun B hB t q => q.but b fun k r => by simp [(m4 k (List.mem_append.mpr (.inl (List.mem_flatMap.mpr ⟨B, hB, r⟩)))).1], h.nd, fun p c e => ?_, h.new⟩
  have ne : p ≠ N.r := fun q => by rw [q, h.new _ Nm.mr] at e; cases e
  rw [up_ne ne]; exact h.sub p c e
theorem Rd.upU (h : Rd C CF O0 O N s) (k : Str) : Rd C CF O0 (up O N.pu (.lst ((s.used ++ [k]).map sS))) N (s.use k) := by
  obtain ⟨⟨m1, m2, m3⟩, m4, m5⟩ := h.parts
  have b : But [N.pu] O (up O N.pu (.lst ((s.used ++ [k]).map sS))) := But.refl.up (.inl (by simp))
  have nA : ∀ k ∈ N.A.keys, k ∉ [N.pu] := fun k q => by simp [(m4 k (List.mem_append.mpr (.inr q))).2.2]
  refine ⟨b _ _ (by simp [m2]) h.rd, b _ _ (by simp [m3]) h.fr, up_at, h.top.but b nA, paired_mem h.bel fun B hB t q => q.but b fun k r => by simp [(m4 k (List.mem_append.mpr (.inl (List.mem_flatMap.mpr ⟨B, hB, r⟩)))).2.2], h.nd, fun p c e => ?_, h.new⟩
  have ne : p ≠ N.pu := fun q => by rw [q, h.new _ Nm.mu] at e; cases e
  rw [up_ne ne]; exact h.sub p c e
/-- the top frame is another one -/
theorem Rd.upT (h : Rd C CF O0 O N s) {A' : Fr} {t' : FS} (hA : FrAt CF O' A' t') (b : But N.A.keys O O') (hf : A'.f = N.A.f) (hk : ∀ k ∈ A'.keys, k ∈ N.A.keys ∨ O k = none) : Rd C CF O0 O' { N with A := A' } { s with top := t' } := by
  obtain ⟨⟨m1, m2, m3⟩, m4, m5⟩ := h.parts
  have ne : ∀ k ∈ N.A.keys, k ≠ N.r ∧ k ≠ N.pf ∧ k ≠ N.pu := fun k q => m4 k (List.mem_append.mpr (.inr q))
  have out : ∀ k ∈ A'.keys, k ∉ [N.r, N.pf, N.pu] ++ N.Bs.flatMap Fr.keys := fun k q z => by
    rcases hk k q with w | w
    · rcases List.mem_append.mp z with z | z
      · simp only [List.mem_cons, List.not_mem_nil, or_false] at z
        obtain ⟨w1, w2, w3⟩ := ne k w
        rcases z with z | z | z
        · exact w1 z
        · exact w2 z
        · exact w3 z
      · exact m5 k w z
    · refine h.cell (k := k) ?_ w
      unfold Nm.keys
      rcases List.mem_append.mp z with z | z
      · exact List.mem_append.mpr (.inl z)
      · exact List.mem_append.mpr (.inr (List.mem_append.mpr (.inl z)))
  refine ⟨b _ _ (fun q => (ne _ q).1 rfl) h.rd, by show O' N.pf = _; rw [hf]; exact b _ _ (fun q => (ne _ q).2.1 rfl) h.fr, b _ _ (fun q => (ne _ q).2.2 rfl) h.us, hA, paired_mem h.bel fun B hB t q => q.but b fun k r w => m5 k w (List.mem_flatMap.mpr ⟨B, hB, r⟩), ?_, fun p c e => ?_, fun k hk' => ?_⟩
  · have nd := h.nd
    unfold Nm.keys at nd ⊢
    rw [← List.append_assoc] at nd ⊢
    rw [List.nodup_append] at nd ⊢
    exact ⟨nd.1, hA.nd, fun a ha c hc e => out c hc (by rw [← e]; exact ha)⟩
  · exact b p c (fun q => by rw [h.new _ (Nm.mA q)] at e; cases e) (h.sub p c e)
  · unfold Nm.keys at hk'
    rw [← List.append_assoc] at hk'
    rcases List.mem_append.mp hk' with q | q
    · refine h.new k ?_
      unfold Nm.keys
      rw [← List.append_assoc]
      exact List.mem_append.mpr (.inl q)
    · rcases hk k q with w | w
      · exact h.new k (Nm.mA w)
      · exact h.sub.none w
/-- a frame more -/
theorem Rd.upP (h : Rd C CF O0 O N s) {B : Fr} (hB : FrAt CF O' B FS.new) (b : But [] O O') (hk : ∀ k ∈ B.keys, O k = none) : Rd C CF O0 (up O' N.pf (.lst (((N.Bs ++ [N.A]).map fun B => Slot.own B.f) ++ [.own B.f]))) { N with Bs := N.Bs ++ [N.A], A := B } s.push := by
  obtain ⟨⟨m1, m2, m3⟩, m4, m5⟩ := h.parts
  have h' : Rd C CF O0 O' N s := h.but b (fun k _ q => nomatch q) (fun k q => nomatch q)
  have out : ∀ k ∈ B.keys, k ∉ N.keys := fun k q z => h.cell z (hk k q)
  have b2 : But [N.pf] O' (up O' N.pf (.lst (((N.Bs ++ [N.A]).map fun B => Slot.own B.f) ++ [.own B.f]))) := But.refl.up (.inl (by simp))
  have nf : ∀ k ∈ N.Bs.flatMap Fr.keys ++ N.A.keys, k ∉ [N.pf] := fun k q => by simp [(m4 k q).2.1]
  refine ⟨b2 _ _ (by simp [m1]) h'.rd, up_at, b2 _ _ (by simp [m3.symm]) h'.us, hB.but b2 fun k q z => out k q (by rw [List.mem_singleton.mp z]; exact Nm.mf), ?_, ?_, fun p c e => ?_, fun k hk' => ?_⟩
  · exact paired_app (paired_mem h'.bel fun B hB t q => q.but b2 fun k r => nf k (List.mem_append.mpr (.inl (List.mem_flatMap.mpr ⟨B, hB, r⟩)))) (.cons (h'.top.but b2 fun k r => nf k (List.mem_append.mpr (.inr r))) .nil)
  · have nd := h.nd
    have ek : ([N.r, N.pf, N.pu] ++ ((N.Bs ++ [N.A]).flatMap Fr.keys ++ B.keys)) = N.keys ++ B.keys := by simp [Nm.keys, List.flatMap_append]
    show ([N.r, N.pf, N.pu] ++ ((N.Bs ++ [N.A]).flatMap Fr.keys ++ B.keys)).Nodup
    rw [ek, List.nodup_append]
    exact ⟨nd, hB.nd, fun a ha c hc e => out c hc (by rw [← e]; exact ha)⟩
  · have ne : p ≠ N.pf := fun q => by rw [q, h.new _ Nm.mf] at e; cases e
    rw [up_ne ne]; exact h'.sub p c e
  · have ek : ([N.r, N.pf, N.pu] ++ ((N.Bs ++ [N.A]).flatMap Fr.keys ++ B.keys)) = N.keys ++ B.keys := by simp [Nm.keys, List.flatMap_append]
    have hk2 : k ∈ ([N.r, N.pf, N.pu] ++ ((N.Bs ++ [N.A]).flatMap Fr.keys ++ B.keys)) := hk'
    rw [ek] at hk2
    rcases List.mem_append.mp hk2 with q | q
    · exact h.new k q
    · exact h.sub.none (hk k q)
/-- a frame less -/
theorem Rd.upQ (h : Rd C CF O0 O N s) {bs : List FS} {t : FS} (e : s.below = bs ++ [t]) : ∃ Bs B, N.Bs = Bs ++ [B] ∧ Rd C CF O0 (up O N.pf (.lst ((Bs ++ [B]).map fun B => Slot.own B.f))) { N with Bs := Bs, A := B } { s with below := bs, top := t } ∧
    FrAt CF (up O N.pf (.lst ((Bs ++ [B]).map fun B => Slot.own B.f))) N.A s.top ∧ ∀ k ∈ ({ N with Bs := Bs, A := B } : Nm).keys, k ∉ N.A.keys := by
  obtain ⟨⟨m1, m2, m3⟩, m4, m5⟩ := h.parts
  have hb := h.bel
  rw [e] at hb
  obtain ⟨Bs, B, eB, hbs, hB⟩ := paired_snoc hb
  have b2 : But [N.pf] O (up O N.pf (.lst ((Bs ++ [B]).map fun B => Slot.own B.f))) := But.refl.up (.inl (by simp))
  have nf : ∀ k ∈ N.Bs.flatMap Fr.keys ++ N.A.keys, k ∉ [N.pf] := fun k q => by simp [(m4 k q).2.1]
  have ek : N.keys = ({ N with Bs := Bs, A := B } : Nm).keys ++ N.A.keys := by simp [Nm.keys, eB, List.flatMap_append]
  have nd := h.nd
  rw [ek, List.nodup_append] at nd
  refine ⟨Bs, B, eB, ⟨b2 _ _ (by simp [m1]) h.rd, by rw [up_at, List.map_append]; rfl, b2 _ _ (by simp [m3.symm]) h.us, hB.but b2 fun k r => nf k ?_, paired_mem hbs fun B' hB' t q => q.but b2 fun k r => nf k ?_, nd.1, fun p c e => ?_, fun k hk' => h.new k (by rw [ek]; exact List.mem_append.mpr (.inl hk'))⟩, h.top.but b2 fun k r => nf k (List.mem_append.mpr (.inr r)), fun k hk z => nd.2.2 k hk k z rfl⟩
  · rw [eB, List.flatMap_append]; simp [r]
  · rw [eB, List.flatMap_append]
    exact List.mem_append.mpr (.inl (List.mem_append.mpr (.inl (List.mem_flatMap.mpr ⟨B', hB', r⟩))))
  · have ne : p ≠ N.pf := fun q => by rw [q, h.new _ Nm.mf] at e; cases e
    rw [up_ne ne]; exact h.sub p c e
end
/-! the reader's class -/
structure RdC (K : PySem.W.Frag) (C : Addr) : Prop where
  cl : Cls K C
  given : NoAttr K C "given"
  nat : NoAttr K C "at"
  frames : NoAttr K C "frames"
  atoms : NoAttr K C "atoms"
  deep : NoAttr K C "deep"
  deepest : NoAttr K C "deepest"
  used : NoAttr K C "used"
section
variable {K : PySem.W.Frag} {C CF : Addr} {O0 O O' : Own} {N : Nm} {s s' : RS} {k : Slot → Own → Prop}
theorem Rd.fgiven (h : Rd C CF O0 O N s) (c : RdC K C) (hk : k (.dat (.lst (s.given.map .str))) O) : FldB K "given" (.own N.r) O k := ⟨C, N.dx, _, _, h.rd, c.cl, c.given, rfl, hk⟩
theorem Rd.fat (h : Rd C CF O0 O N s) (c : RdC K C) (hk : k (.dat (.int (s.at : Int))) O) : FldB K "at" (.own N.r) O k := ⟨C, N.dx, _, _, h.rd, c.cl, c.nat, rfl, hk⟩
theorem Rd.fframes (h : Rd C CF O0 O N s) (c : RdC K C) (hk : k (.own N.pf) O) : FldB K "frames" (.own N.r) O k := ⟨C, N.dx, _, _, h.rd, c.cl, c.frames, rfl, hk⟩
theorem Rd.fatoms (h : Rd C CF O0 O N s) (c : RdC K C) (hk : k (.dat (.int (s.atoms : Int))) O) : FldB K "atoms" (.own N.r) O k := ⟨C, N.dx, _, _, h.rd, c.cl, c.atoms, rfl, hk⟩
theorem Rd.fdeep (h : Rd C CF O0 O N s) (c : RdC K C) (hk : k (.dat (.int s.deep)) O) : FldB K "deep" (.own N.r) O k := ⟨C, N.dx, _, _, h.rd, c.cl, c.deep, rfl, hk⟩
theorem Rd.fdeepest (h : Rd C CF O0 O N s) (c : RdC K C) (hk : k (.dat (.int s.deepest)) O) : FldB K "deepest" (.own N.r) O k := ⟨C, N.dx, _, _, h.rd, c.cl, c.deepest, rfl, hk⟩
theorem Rd.fused (h : Rd C CF O0 O N s) (c : RdC K C) (hk : k (.own N.pu) O) : FldB K "used" (.own N.r) O k := ⟨C, N.dx, _, _, h.rd, c.cl, c.used, rfl, hk⟩
theorem put_next {pf pu : Addr} : putS "at" (.dat (.int ((s.at : Int) + 1))) (rdF s pf pu) = rdF s.next pf pu := rfl
theorem put_deep {pf pu : Addr} {d : Int} : putS "deep" (.dat (.int d)) (rdF s pf pu) = rdF { s with deep := d } pf pu := rfl
theorem put_deepest {pf pu : Addr} {d : Int} : putS "deepest" (.dat (.int d)) (rdF s pf pu) = rdF { s with deepest := d } pf pu := rfl
theorem put_atoms {pf pu : Addr} {n : Nat} : putS "atoms" (.dat (.int ((s.atoms : Int) + (n : Int)))) (rdF s pf pu) = rdF { s with atoms := s.atoms + n } pf pu := rfl
end
/-- the exception for a word -/
def noQ (K : PySem.W.Frag) (R : Out → Own → Prop) (i : Nat) (O0 : Own) : Prop := ∀ C', clsAt K "NoQuestion" C' → R (.exc (.own C' [("at", .int (i : Int))])) O0
/-- a reader of questions -/
structure RdQ (K : PySem.W.Frag) (C CF : Addr) (O0 O : Own) (N : Nm) (s : RS) : Prop where
  hC : clsAt K "QuestionReader" C
  hF : clsAt K "Frame" CF
  r : Rd C CF O0 O N s
section
variable {P : Program} {w : World} {K : PySem.W.Frag} {mg : Str → Option Value} {base : Heap}
theorem rdc (Z : Facts K) {C : Addr} (hC : clsAt K "QuestionReader" C) : RdC K C := by
  obtain ⟨C', I_QuestionReader, cHEADS, mAtom, mI, mRefuse, mComing, mPassOne, mPassKind, mDeeper, mPart, mAdd, mBetween, mWhole, n1, n2, n3, n4, n5, n6, n7⟩ := Z.c_QuestionReader
  obtain rfl := at_inj hC I_QuestionReader.at_
  exact ⟨I_QuestionReader.ins.cl, n1, n2, n3, n4, n5, n6, n7⟩
end
def RefuseS (K : PySem.W.Frag) : SpecT := fun ss O R => ∃ (N : Nm) (C CF : Addr) (O0 : Own) (s : RS), ss = [.own N.r] ∧ RdQ K C CF O0 O N s ∧ noQ K R s.at O0
def ComingS (K : PySem.W.Frag) : SpecT := fun ss O R => ∃ (N : Nm) (C CF : Addr) (O0 : Own) (s : RS), ss = [.own N.r] ∧ RdQ K C CF O0 O N s ∧ R (.ret (.dat (wdD s.cur))) O
def PassOneS (K : PySem.W.Frag) : SpecT := fun ss O R => ∃ (N : Nm) (al : List Str) (C CF : Addr) (O0 : Own) (s : RS), ss = [.own N.r, .dat (.tup (al.map .str))] ∧ RdQ K C CF O0 O N s ∧
  (inW s.cur al = true → ∀ O', RdQ K C CF O0 O' N s.next → R (.ret (.dat (wdD s.cur))) O') ∧ (inW s.cur al = false → noQ K R s.at O0)
def PassKindS (K : PySem.W.Frag) : SpecT := fun ss O R => ∃ (N : Nm) (C CF : Addr) (O0 : Own) (s : RS), ss = [.own N.r] ∧ RdQ K C CF O0 O N s ∧ (∀ z ∈ s.given, z.length ≤ 100000) ∧ s.used.length ≤ 1000000 ∧
  (∀ z, s.cur = some z → madeOf z capsL 4 = true → ∀ O', RdQ K C CF O0 O' N (s.next.use z) → R (.ret (.dat (.str z))) O') ∧ (kindW s.cur = false → noQ K R s.at O0)
def DeeperS (K : PySem.W.Frag) : SpecT := fun ss O R => ∃ (N : Nm) (C CF : Addr) (O0 : Own) (s : RS), ss = [.own N.r] ∧ RdQ K C CF O0 O N s ∧ ∀ O', RdQ K C CF O0 O' N s.deeper → R (.ret (.dat .non)) O'
def RAddS (K : PySem.W.Frag) : SpecT := fun ss O R => ∃ (N : Nm) (c : Cn) (C CF : Addr) (O0 : Own) (s : RS), ss = [.own N.r, .dat (cD c)] ∧ RdQ K C CF O0 O N s ∧ s.top.parts.length ≤ 1000000 ∧ s.top.heads.length ≤ 1000000 ∧
  ∀ O', RdQ K C CF O0 O' N (s.add c) → R (.ret (.dat .non)) O'
def ReadAS (K : PySem.W.Frag) : SpecT := fun ss O R => ∃ (N : Nm) (C CF : Addr) (O0 : Own) (s : RS), ss = [.own N.r] ∧ RdQ K C CF O0 O N s ∧ (∀ z ∈ s.given, z.length ≤ 100000) ∧ s.used.length ≤ 1000000 ∧
  (∀ c s', s.readA = .ok (c, s') → ∀ O', RdQ K C CF O0 O' N s' → R (.ret (.dat (cD c))) O') ∧ (∀ i, s.readA = .error i → noQ K R i O0)
theorem coming_at (s : RS) : (s.at < s.given.length ∧ ∃ z, s.cur = some z ∧ atI (s.given.map Dat.str) (s.at : Int) = some (.str z)) ∨ (¬ s.at < s.given.length ∧ s.cur = none) := by
  by_cases h : s.at < s.given.length
  · refine .inl ⟨h, s.given[s.at], List.getElem?_eq_getElem h, atI_nat (by rw [List.getElem?_map, List.getElem?_eq_getElem h]; rfl)⟩
  · exact .inr ⟨h, List.getElem?_eq_none_iff.mpr (by omega)⟩
section
variable {P : Program} {w : World} {K : PySem.W.Frag} {mg : Str → Option Value} {base : Heap}
theorem fn_Reader_refuse (T : TopOf K mg) (Z : Facts K) {f : Addr} {fd : FuncData} (F : L2.Fun K "refuse" "Reader.refuse" s_Reader_refuse f fd) : Fn P w K mg base false (4) f fd ["self"] (RefuseS K) := by
  have sc := sc_Reader_refuse
  refine fn_mk F sc_Reader_refuse (fun ss O R h => by first | (obtain ⟨_, rfl, _⟩ := h; rfl) | (obtain ⟨_, _, rfl, _⟩ := h; rfl) | (obtain ⟨_, _, _, rfl, _⟩ := h; rfl) | (obtain ⟨_, _, _, _, rfl, _⟩ := h; rfl) | (obtain ⟨_, _, _, _, _, rfl, _⟩ := h; rfl) | (obtain ⟨_, _, _, _, _, _, rfl, _⟩ := h; rfl) | (obtain ⟨_, _, _, _, _, _, _, rfl, _⟩ := h; rfl)) fun cdv A outer s H E ss O R hr hpo h => ?_
  obtain ⟨N, C, CF, O0, s0, rfl, hR, hx⟩ := h
  have rc := rdc Z hR.hC
  obtain ⟨CQ, BQ, X_NoQuestion, nfq⟩ := Z.x_NoQuestion
  have xcQ : ExCls P w K mg base 2 "NoQuestion" CQ (Ini1 flatD CQ "at") := xc_of T X_NoQuestion (by walk_at "b2") fun f fd F => fn_NoQuestion T Z X_NoQuestion nfq F
  refine sw_drop ?_
  -- 0:self
  refine sw_one ?_
  refine s1_raise xcQ hr ?_
  refine aw_cons ?_
  refine ew_fld ?_
  refine ew_var 0 ?_
  refine hR.r.fat rc ?_
  refine aw_nil ?_
  exact raised1 flatD_int ⟨O0, hR.r.sub, hx CQ X_NoQuestion.a.at_⟩
theorem fn_Reader_coming (T : TopOf K mg) (Z : Facts K) {f : Addr} {fd : FuncData} (F : L2.Fun K "coming" "Reader.coming" s_Reader_coming f fd) : Fn P w K mg base false (1) f fd ["self"] (ComingS K) := by
  have sc := sc_Reader_coming
  refine fn_mk F sc_Reader_coming (fun ss O R h => by first | (obtain ⟨_, rfl, _⟩ := h; rfl) | (obtain ⟨_, _, rfl, _⟩ := h; rfl) | (obtain ⟨_, _, _, rfl, _⟩ := h; rfl) | (obtain ⟨_, _, _, _, rfl, _⟩ := h; rfl) | (obtain ⟨_, _, _, _, _, rfl, _⟩ := h; rfl) | (obtain ⟨_, _, _, _, _, _, rfl, _⟩ := h; rfl) | (obtain ⟨_, _, _, _, _, _, _, rfl, _⟩ := h; rfl)) fun cdv A outer s H E ss O R hr hpo h => ?_
  obtain ⟨N, C, CF, O0, s0, rfl, hR, h⟩ := h
  have rc := rdc Z hR.hC
  have hca := coming_at s0
  -- 0:self
  refine sw_one ?_
  refine s1_ret ?_
  refine ew_if ?_
  refine tw_cmp ?_
  refine ew_fld ?_
  refine ew_var 0 ?_
  refine hR.r.fat rc ?_
  refine ew_callB (T.no Z.n_len) bt_len ?_
  refine aw_cons ?_
  refine ew_fld ?_
  refine ew_var 0 ?_
  refine hR.r.fgiven rc ?_
  refine aw_nil ?_
  walk_at "cb len"
  walk_at "cmp Lt"
  refine ⟨_, rfl, fun ht => ?_, fun ht => ?_⟩
  · have ht1 := of_decide_eq_true ht
    rw [List.length_map] at ht1
    obtain ⟨z, hz, hat⟩ : ∃ z, s0.cur = some z ∧ atI (s0.given.map Dat.str) (s0.at : Int) = some (.str z) := by
      rcases hca with ⟨_, q⟩ | ⟨q, _⟩
      · exact q
      · omega
    refine ew_ix ?_
    refine ew_fld ?_
    refine ew_var 0 ?_
    refine hR.r.fgiven rc ?_
    refine ew_fld ?_
    refine ew_var 0 ?_
    refine hR.r.fat rc ?_
    refine ix_lst hat ?_
    rw [hz] at h
    exact h
  · refine ew_non ?_
    have hn : s0.cur = none := by
      have ht1 := of_decide_eq_false ht
      rw [List.length_map] at ht1
      rcases hca with ⟨q, _⟩ | ⟨_, q⟩
      · omega
      · exact q
    rw [hn] at h
    exact h
theorem fn_Reader_go_deeper (T : TopOf K mg) (Z : Facts K) {f : Addr} {fd : FuncData} (F : L2.Fun K "go_deeper" "Reader.go_deeper" s_Reader_go_deeper f fd) : Fn P w K mg base false (1) f fd ["self"] (DeeperS K) := by
  have sc := sc_Reader_go_deeper
  refine fn_mk F sc_Reader_go_deeper (fun ss O R h => by first | (obtain ⟨_, rfl, _⟩ := h; rfl) | (obtain ⟨_, _, rfl, _⟩ := h; rfl) | (obtain ⟨_, _, _, rfl, _⟩ := h; rfl) | (obtain ⟨_, _, _, _, rfl, _⟩ := h; rfl) | (obtain ⟨_, _, _, _, _, rfl, _⟩ := h; rfl) | (obtain ⟨_, _, _, _, _, _, rfl, _⟩ := h; rfl) | (obtain ⟨_, _, _, _, _, _, _, rfl, _⟩ := h; rfl)) fun cdv A outer s H E ss O R hr hpo h => ?_
  obtain ⟨N, C, CF, O0, s0, rfl, hR, h⟩ := h
  have rc := rdc Z hR.hC
  -- 0:self
  refine sw_cons ?_
  refine s1_fldadd ?_
  refine ew_var 0 ?_
  refine ⟨N.r, C, N.dx, _, _, rfl, hR.r.rd, rc.cl, rc.deep, rfl, ?_⟩
  refine ew_int ?_
  refine ⟨1, N.dx, _, rfl, hR.r.rd, Nat.le_of_ble_eq_true rfl, ?_⟩
  rw [put_deep]
  have hR1 := hR.r.upR (s' := { s0 with deep := s0.deep + 1 }) rfl rfl rfl
  refine sw_one ?_
  refine s1_fld ?_
  refine ew_callB (T.no Z.n_max) bt_max ?_
  refine aw_cons ?_
  refine ew_fld ?_
  refine ew_var 0 ?_
  refine hR1.fdeepest rc ?_
  refine aw_cons ?_
  refine ew_fld ?_
  refine ew_var 0 ?_
  refine hR1.fdeep rc ?_
  refine aw_nil ?_
  walk_at "cb max"
  refine ew_var 0 ?_
  refine ⟨N.r, C, N.dx, _, rfl, hR1.rd, rc.cl, rc.deepest, Nat.le_of_ble_eq_true rfl, ?_⟩
  rw [put_deepest]
  exact h _ ⟨hR.hC, hR.hF, hR1.upR (s' := s0.deeper) rfl rfl rfl⟩
theorem m_refuse (T : TopOf K mg) (Z : Facts K) {C : Addr} (hC : clsAt K "QuestionReader" C) : MCal P w K mg base false 4 C "refuse" (RefuseS K) [] := by
  obtain ⟨C', I_QuestionReader, cHEADS, mAtom, mI, mRefuse, mComing, mPassOne, mPassKind, mDeeper, mPart, mAdd, mBetween, mWhole, n1, n2, n3, n4, n5, n6, n7⟩ := Z.c_QuestionReader
  obtain rfl := at_inj hC I_QuestionReader.at_
  exact mcal_of mRefuse (by walk_at "b1") fun f fd F => fn_Reader_refuse T Z F
theorem m_coming (T : TopOf K mg) (Z : Facts K) {C : Addr} (hC : clsAt K "QuestionReader" C) : MCal P w K mg base false 1 C "coming" (ComingS K) [] := by
  obtain ⟨C', I_QuestionReader, cHEADS, mAtom, mI, mRefuse, mComing, mPassOne, mPassKind, mDeeper, mPart, mAdd, mBetween, mWhole, n1, n2, n3, n4, n5, n6, n7⟩ := Z.c_QuestionReader
  obtain rfl := at_inj hC I_QuestionReader.at_
  exact mcal_of mComing (by walk_at "b1") fun f fd F => fn_Reader_coming T Z F
theorem m_deeper (T : TopOf K mg) (Z : Facts K) {C : Addr} (hC : clsAt K "QuestionReader" C) : MCal P w K mg base false 1 C "go_deeper" (DeeperS K) [] := by
  obtain ⟨C', I_QuestionReader, cHEADS, mAtom, mI, mRefuse, mComing, mPassOne, mPassKind, mDeeper, mPart, mAdd, mBetween, mWhole, n1, n2, n3, n4, n5, n6, n7⟩ := Z.c_QuestionReader
  obtain rfl := at_inj hC I_QuestionReader.at_
  exact mcal_of mDeeper (by walk_at "b1") fun f fd F => fn_Reader_go_deeper T Z F
theorem fn_Reader_pass_one (T : TopOf K mg) (Z : Facts K) {f : Addr} {fd : FuncData} (F : L2.Fun K "pass_one" "Reader.pass_one" s_Reader_pass_one f fd) : Fn P w K mg base false (5) f fd ["self", "allowed"] (PassOneS K) := by
  have sc := sc_Reader_pass_one
  refine fn_mk F sc_Reader_pass_one (fun ss O R h => by first | (obtain ⟨_, rfl, _⟩ := h; rfl) | (obtain ⟨_, _, rfl, _⟩ := h; rfl) | (obtain ⟨_, _, _, rfl, _⟩ := h; rfl) | (obtain ⟨_, _, _, _, rfl, _⟩ := h; rfl) | (obtain ⟨_, _, _, _, _, rfl, _⟩ := h; rfl) | (obtain ⟨_, _, _, _, _, _, rfl, _⟩ := h; rfl) | (obtain ⟨_, _, _, _, _, _, _, rfl, _⟩ := h; rfl)) fun cdv A outer s H E ss O R hr hpo h => ?_
  obtain ⟨N, al, C, CF, O0, s0, rfl, hR, h, hx⟩ := h
  have rc := rdc Z hR.hC
  -- 0:self 1:allowed 2:word
  refine sw_cons ?_
  refine s1_set 2 ?_ sc.nd
  refine ew_meth0 (m_coming T Z hR.hC) rc.cl hr ?_
  refine ew_var 0 ?_
  refine ⟨⟨_, _, hR.r.rd, rfl⟩, N, C, CF, O0, s0, rfl, hR, ?_⟩
  refine sw_cons ?_
  refine s1_if ?_
  refine tw_cmp ?_
  refine ew_var 2 ?_
  refine ew_var 1 ?_
  refine ob_niW ?_
  refine ⟨_, rfl, fun ht => ?_, fun ht => ?_⟩
  · have hn : inW s0.cur al = false := by simpa using ht
    refine sw_one ?_
    refine s1_expr ?_
    refine ew_meth0 (m_refuse T Z hR.hC) rc.cl hr ?_
    refine ew_var 0 ?_
    exact ⟨⟨_, _, hR.r.rd, rfl⟩, N, C, CF, O0, s0, rfl, hR, hx hn⟩
  · have hi : inW s0.cur al = true := by simpa using ht
    refine sw_nil ?_
    refine sw_cons ?_
    refine s1_fldadd ?_
    refine ew_var 0 ?_
    refine ⟨N.r, C, N.dx, _, _, rfl, hR.r.rd, rc.cl, rc.nat, rfl, ?_⟩
    refine ew_int ?_
    refine ⟨1, N.dx, _, rfl, hR.r.rd, Nat.le_of_ble_eq_true rfl, ?_⟩
    rw [put_next]
    refine sw_one ?_
    refine s1_ret ?_
    refine ew_var 2 ?_
    exact h hi _ ⟨hR.hC, hR.hF, hR.r.upR (s' := s0.next) rfl rfl rfl⟩
theorem fn_Reader_pass_kind (T : TopOf K mg) (Z : Facts K) {f : Addr} {fd : FuncData} (F : L2.Fun K "pass_kind" "Reader.pass_kind" s_Reader_pass_kind f fd) : Fn P w K mg base false (5) f fd ["self"] (PassKindS K) := by
  have sc := sc_Reader_pass_kind
  refine fn_mk F sc_Reader_pass_kind (fun ss O R h => by first | (obtain ⟨_, rfl, _⟩ := h; rfl) | (obtain ⟨_, _, rfl, _⟩ := h; rfl) | (obtain ⟨_, _, _, rfl, _⟩ := h; rfl) | (obtain ⟨_, _, _, _, rfl, _⟩ := h; rfl) | (obtain ⟨_, _, _, _, _, rfl, _⟩ := h; rfl) | (obtain ⟨_, _, _, _, _, _, rfl, _⟩ := h; rfl) | (obtain ⟨_, _, _, _, _, _, _, rfl, _⟩ := h; rfl)) fun cdv A outer s H E ss O R hr hpo h => ?_
  obtain ⟨N, C, CF, O0, s0, rfl, hR, hgl, hul, h, hx⟩ := h
  have rc := rdc Z hR.hC
  -- 0:self 1:word
  refine sw_cons ?_
  refine s1_set 1 ?_ sc.nd
  refine ew_meth0 (m_coming T Z hR.hC) rc.cl hr ?_
  refine ew_var 0 ?_
  refine ⟨⟨_, _, hR.r.rd, rfl⟩, N, C, CF, O0, s0, rfl, hR, ?_⟩
  have hok : okD (wdD s0.cur) := by
    cases e : s0.cur with
    | none => exact ⟨by decide, fun y q => by cases q⟩
    | some z => exact okD_str (hgl z (List.mem_of_getElem? e))
  have hkd : madeD (wdD s0.cur) capsL 4 = kindW s0.cur := by cases s0.cur <;> rfl
  refine sw_cons ?_
  refine s1_if ?_
  refine tw_not ?_
  refine tw_val ?_
  refine ew_call (c_is_kind_name T Z) hr ?_
  refine aw_cons ?_
  refine ew_var 1 ?_
  refine aw_nil ?_
  refine ⟨_, rfl, hok, ?_⟩
  rw [hkd]
  refine ⟨_, rfl, fun ht => ?_, fun ht => ?_⟩
  · have hn : kindW s0.cur = false := by simpa using ht
    refine sw_one ?_
    refine s1_expr ?_
    refine ew_meth0 (m_refuse T Z hR.hC) rc.cl hr ?_
    refine ew_var 0 ?_
    exact ⟨⟨_, _, hR.r.rd, rfl⟩, N, C, CF, O0, s0, rfl, hR, hx hn⟩
  · obtain ⟨z, hz, hk⟩ : ∃ z, s0.cur = some z ∧ madeOf z capsL 4 = true := by
      cases e : s0.cur with
      | none => rw [e] at ht; cases ht
      | some z => rw [e] at ht; exact ⟨z, rfl, by simpa [kindW] using ht⟩
    rw [hz]
    refine sw_nil ?_
    refine sw_cons ?_
    refine s1_fldadd ?_
    refine ew_var 0 ?_
    refine ⟨N.r, C, N.dx, _, _, rfl, hR.r.rd, rc.cl, rc.nat, rfl, ?_⟩
    refine ew_int ?_
    refine ⟨1, N.dx, _, rfl, hR.r.rd, Nat.le_of_ble_eq_true rfl, ?_⟩
    rw [put_next]
    have hR1 := hR.r.upR (s' := s0.next) rfl rfl rfl
    refine sw_cons ?_
    refine s1_expr ?_
    refine ew_append ?_
    refine ew_fld ?_
    refine ew_var 0 ?_
    refine hR1.fused rc ?_
    refine ⟨?_, ?_⟩
    · exact ⟨rfl, _, hR1.us⟩
    refine ew_var 1 ?_
    refine mb_append hR1.us (by rw [List.length_map]; exact Nat.lt_of_le_of_lt hul (by decide)) ?_
    have e1 : (s0.next.used.map sS ++ [Slot.dat (wdD (some z))]) = (s0.next.used ++ [z]).map sS := by rw [List.map_append]; rfl
    rw [e1]
    refine sw_one ?_
    refine s1_ret ?_
    refine ew_var 1 ?_
    exact h z hz hk _ ⟨hR.hC, hR.hF, hR1.upU z⟩
theorem fn_Reader_add (T : TopOf K mg) (Z : Facts K) {f : Addr} {fd : FuncData} (F : L2.Fun K "add" "Reader.add" s_Reader_add f fd) : Fn P w K mg base false (2) f fd ["self", "part"] (RAddS K) := by
  have sc := sc_Reader_add
  refine fn_mk F sc_Reader_add (fun ss O R h => by first | (obtain ⟨_, rfl, _⟩ := h; rfl) | (obtain ⟨_, _, rfl, _⟩ := h; rfl) | (obtain ⟨_, _, _, rfl, _⟩ := h; rfl) | (obtain ⟨_, _, _, _, rfl, _⟩ := h; rfl) | (obtain ⟨_, _, _, _, _, rfl, _⟩ := h; rfl) | (obtain ⟨_, _, _, _, _, _, rfl, _⟩ := h; rfl) | (obtain ⟨_, _, _, _, _, _, _, rfl, _⟩ := h; rfl)) fun cdv A outer s H E ss O R hr hpo h => ?_
  obtain ⟨N, c0, C, CF, O0, s0, rfl, hR, hp1, hp2, h⟩ := h
  have rc := rdc Z hR.hC
  obtain ⟨CF', I_Frame, mI, mAdd, mEndG, mEnded, ⟨q0, t_groups⟩, ⟨q1, t_heads⟩, ⟨q2, t_parts⟩⟩ := Z.c_Frame
  obtain rfl := at_inj hR.hF I_Frame.at_
  have mc : MCal P w K mg base false 1 CF "add" (FAddS K) [] := mcal_of mAdd (by walk_at "b2") fun f fd F => fn_Frame_add T Z F
  have hlast : atI ((N.Bs.map fun B => Slot.own B.f) ++ [.own N.A.f]) (-1) = some (.own N.A.f) := atI_last _ _
  -- 0:self 1:part 2:frame
  refine sw_cons ?_
  refine s1_set 2 ?_ sc.nd
  refine ew_ix ?_
  refine ew_fld ?_
  refine ew_var 0 ?_
  refine hR.r.fframes rc ?_
  refine ew_un ?_
  refine ew_int ?_
  refine ou_neg ?_
  refine ix_own hR.r.fr hlast ?_
  refine sw_cons ?_
  refine s1_fldsub ?_
  refine ew_var 0 ?_
  refine ⟨N.r, C, N.dx, _, _, rfl, hR.r.rd, rc.cl, rc.deep, rfl, ?_⟩
  refine ew_callB (T.no Z.n_len) bt_len ?_
  refine aw_cons ?_
  refine ew_slot I_Frame.sc t_heads ?_
  refine ew_var 2 ?_
  refine ⟨N.A.f, N.A.dx, _, _, rfl, hR.r.top.f, rfl, ?_⟩
  refine aw_nil ?_
  refine cb_lenO hR.r.top.h ?_
  rw [List.length_map]
  refine ⟨_, N.dx, _, rfl, hR.r.rd, Nat.le_of_ble_eq_true rfl, ?_⟩
  rw [put_deep]
  have hR1 := hR.r.upR (s' := { s0 with deep := s0.deep - (s0.top.heads.length : Int) }) rfl rfl rfl
  refine sw_one ?_
  refine s1_expr ?_
  refine ew_methSl mc I_Frame.sc hr ?_
  refine ew_var 2 ?_
  refine ⟨⟨_, _, hR1.top.f⟩, ?_⟩
  refine aw_cons ?_
  refine ew_var 1 ?_
  refine aw_nil ?_
  refine ⟨CF, N.A, s0.top, c0, rfl, hR.hF, hR1.top, hp1, hp2, fun O' hA' hb => ?_⟩
  exact h _ ⟨hR.hC, hR.hF, hR1.upT hA' hb rfl fun k q => .inl q⟩
theorem m_pass_one (T : TopOf K mg) (Z : Facts K) {C : Addr} (hC : clsAt K "QuestionReader" C) : MCal P w K mg base false 5 C "pass_one" (PassOneS K) [] := by
  obtain ⟨C', I_QuestionReader, cHEADS, mAtom, mI, mRefuse, mComing, mPassOne, mPassKind, mDeeper, mPart, mAdd, mBetween, mWhole, n1, n2, n3, n4, n5, n6, n7⟩ := Z.c_QuestionReader
  obtain rfl := at_inj hC I_QuestionReader.at_
  exact mcal_of mPassOne (by walk_at "b2") fun f fd F => fn_Reader_pass_one T Z F
theorem m_pass_kind (T : TopOf K mg) (Z : Facts K) {C : Addr} (hC : clsAt K "QuestionReader" C) : MCal P w K mg base false 5 C "pass_kind" (PassKindS K) [] := by
  obtain ⟨C', I_QuestionReader, cHEADS, mAtom, mI, mRefuse, mComing, mPassOne, mPassKind, mDeeper, mPart, mAdd, mBetween, mWhole, n1, n2, n3, n4, n5, n6, n7⟩ := Z.c_QuestionReader
  obtain rfl := at_inj hC I_QuestionReader.at_
  exact mcal_of mPassKind (by walk_at "b1") fun f fd F => fn_Reader_pass_kind T Z F
theorem m_add (T : TopOf K mg) (Z : Facts K) {C : Addr} (hC : clsAt K "QuestionReader" C) : MCal P w K mg base false 2 C "add" (RAddS K) [] := by
  obtain ⟨C', I_QuestionReader, cHEADS, mAtom, mI, mRefuse, mComing, mPassOne, mPassKind, mDeeper, mPart, mAdd, mBetween, mWhole, n1, n2, n3, n4, n5, n6, n7⟩ := Z.c_QuestionReader
  obtain rfl := at_inj hC I_QuestionReader.at_
  exact mcal_of mAdd (by walk_at "b2") fun f fd F => fn_Reader_add T Z F
theorem fn_QuestionReader_read_atom (T : TopOf K mg) (Z : Facts K) {f : Addr} {fd : FuncData} (F : L2.Fun K "read_atom" "QuestionReader.read_atom" s_QuestionReader_read_atom f fd) : Fn P w K mg base false (6) f fd ["self"] (ReadAS K) := by
  have sc := sc_QuestionReader_read_atom
  refine fn_mk F sc_QuestionReader_read_atom (fun ss O R h => by first | (obtain ⟨_, rfl, _⟩ := h; rfl) | (obtain ⟨_, _, rfl, _⟩ := h; rfl) | (obtain ⟨_, _, _, rfl, _⟩ := h; rfl) | (obtain ⟨_, _, _, _, rfl, _⟩ := h; rfl) | (obtain ⟨_, _, _, _, _, rfl, _⟩ := h; rfl) | (obtain ⟨_, _, _, _, _, _, rfl, _⟩ := h; rfl) | (obtain ⟨_, _, _, _, _, _, _, rfl, _⟩ := h; rfl)) fun cdv A outer s H E ss O R hr hpo h => ?_
  obtain ⟨N, C, CF, O0, s0, rfl, hR, hgl, hul, h, hx⟩ := h
  have rc := rdc Z hR.hC
  -- 0:self 1:word
  refine sw_cons ?_
  refine s1_set 1 ?_ sc.nd
  refine ew_meth (m_pass_one T Z hR.hC) rc.cl hr ?_
  refine ew_var 0 ?_
  refine ⟨⟨_, _, hR.r.rd, rfl⟩, ?_⟩
  refine aw_cons ?_
  refine ew_tup ?_
  refine aw_cons ?_
  refine ew_str ?_
  refine aw_cons ?_
  refine ew_str ?_
  refine aw_cons ?_
  refine ew_str ?_
  refine aw_cons ?_
  refine ew_str ?_
  refine aw_nil ?_
  refine ⟨[_, _, _, _], rfl, by walk_at "few", ?_⟩
  refine aw_nil ?_
  refine ⟨N, atW, C, CF, O0, s0, rfl, hR, fun hi O1 hR1 => ?_, fun hn => hx _ (if_neg (by rw [hn]; simp))⟩
  refine sw_one ?_
  refine s1_ret ?_
  refine ew_if ?_
  refine tw_cmp ?_
  refine ew_var 1 ?_
  refine ew_str ?_
  refine ob_eqW ?_
  refine ⟨_, rfl, fun ht => ?_, fun ht => ?_⟩
  · refine ew_tup ?_
    refine aw_cons ?_
    refine ew_str ?_
    refine aw_nil ?_
    refine ⟨[_], rfl, by walk_at "few", ?_⟩
    have e := of_decide_eq_true ht
    refine h (.aw ["root"]) s0.next ?_ _ hR1
    unfold RS.readA
    rw [if_pos hi, if_pos e]
  · have e := of_decide_eq_false ht
    refine ew_tup ?_
    refine aw_cons ?_
    refine ew_var 1 ?_
    refine aw_cons ?_
    refine ew_meth0 (m_pass_kind T Z hR1.hC) rc.cl hr ?_
    refine ew_var 0 ?_
    refine ⟨⟨_, _, hR1.r.rd, rfl⟩, N, C, CF, O0, s0.next, rfl, hR1, hgl, hul, fun z hz hk O2 hR2 => ?_, fun hn => hx _ ?_⟩
    rotate_left
    · unfold RS.readA
      rw [if_pos hi, if_neg e, if_neg (by rw [hn]; simp)]
      rfl
    obtain ⟨y, hy⟩ : ∃ y, s0.cur = some y := by
      cases q : s0.cur with
      | none => rw [q] at hi; cases hi
      | some y => exact ⟨y, rfl⟩
    rw [hy]
    refine aw_nil ?_
    refine ⟨[_, _], rfl, by walk_at "few", ?_⟩
    refine h (.aw [y, z]) (s0.next.next.use z) ?_ _ hR2
    unfold RS.readA
    rw [if_pos hi, if_neg e, hz, hy]
    exact if_pos hk
end
/-! how great a reader grows -/
def szF (t : FS) : Nat := szs t.groups + szs t.parts + t.heads.length
def okF (t : FS) : Prop := (∀ c ∈ t.groups, WF c) ∧ (∀ c ∈ t.parts, WF c) ∧ ∀ z ∈ t.heads, z ∈ heW
def sumF (ts : List FS) : Nat := (ts.map szF).sum
structure Bd (s : RS) : Prop where
  len : s.given.length ≤ 100000
  gl : ∀ z ∈ s.given, z.length ≤ 100000
  ul : s.used.length ≤ s.at
  al : s.at ≤ s.given.length
  wt : szF s.top + sumF s.below ≤ 2 * s.at
  wf : okF s.top
  wb : ∀ t ∈ s.below, okF t
  bl : s.below.length ≤ s.at
theorem okF_new : okF FS.new := ⟨fun c h => (nomatch h), fun c h => (nomatch h), fun c h => (nomatch h)⟩
theorem bd_new {ws : List Str} (h1 : ws.length ≤ 100000) (h2 : ∀ z ∈ ws, z.length ≤ 100000) : Bd (RS.new ws) := ⟨h1, h2, Nat.le_refl 0, Nat.zero_le _, by show szF FS.new + sumF [] ≤ 0; decide, okF_new, fun t h => (nomatch h), Nat.le_refl 0⟩
theorem sz_heads (c : Cn) : ∀ hs : List Str, sz (hs.foldr .hd c) = hs.length + sz c
  | [] => by simp
  | h :: hs => by
    rw [List.foldr_cons, sz, sz_heads c hs, List.length_cons]; omega
theorem WF_heads {c : Cn} (hc : WF c) : ∀ {hs : List Str}, (∀ z ∈ hs, z ∈ heW) → WF (hs.foldr .hd c)
  | [], _ => hc
  | h :: hs, m => by
    rw [List.foldr_cons, WF]
    exact ⟨m h (by simp), WF_heads hc fun z hz => m z (List.mem_cons_of_mem _ hz)⟩
theorem szF_add (t : FS) (c : Cn) : szF (t.add c) = szF t + sz c := by
  show szs t.groups + szs (t.parts ++ [t.heads.foldr Cn.hd c]) + 0 = szs t.groups + szs t.parts + t.heads.length + sz c
  rw [szs_app, szs, szs, sz_heads]; omega
theorem okF_add {t : FS} {c : Cn} (h : okF t) (hc : WF c) : okF (t.add c) := by
  refine ⟨h.1, fun d hd => ?_, fun z hz => nomatch hz⟩
  rcases List.mem_append.mp hd with q | q
  · exact h.2.1 d q
  · rw [List.mem_singleton.mp q]; exact WF_heads hc h.2.2
theorem szF_endG (t : FS) : szF t.endG ≤ szF t + 1 := by
  show szs (t.groups ++ [joinC "and" t.parts]) + szs [] + t.heads.length ≤ szs t.groups + szs t.parts + t.heads.length + 1
  have := sz_join "and" t.parts
  have e0 : szs [] = 0 := by rw [szs]
  have e1 : ∀ c, szs [c] = sz c := fun c => by rw [szs, szs]; omega
  rw [szs_app, e1, e0]; omega
theorem okF_endG {t : FS} (h : okF t) : okF t.endG := by
  refine ⟨fun d hd => ?_, fun z hz => (nomatch hz), h.2.2⟩
  rcases List.mem_append.mp hd with q | q
  · exact h.1 d q
  · rw [List.mem_singleton.mp q]; exact WF_join (by decide +kernel) h.2.1
theorem sz_ended (t : FS) : sz t.ended ≤ szF t + 2 := by
  have h1 := sz_join "or" t.endG.groups
  have h2 := szF_endG t
  have h3 : szs t.endG.groups ≤ szF t.endG := by
    show szs t.endG.groups ≤ szs t.endG.groups + _ + _
    omega
  show sz (joinC "or" t.endG.groups) ≤ _
  omega
theorem WF_ended {t : FS} (h : okF t) : WF t.ended := WF_join (by decide +kernel) (okF_endG h).1
theorem cur_lt {s : RS} {z : Str} (h : s.cur = some z) : s.at < s.given.length := (List.getElem?_eq_some_iff.mp h).1
theorem inW_some {w : Option Str} {ws : List Str} (h : inW w ws = true) : ∃ z, w = some z ∧ z ∈ ws := by
  cases w with
  | none => cases h
  | some z =>
    have h : ws.any (· == z) = true := h
    rw [List.any_eq_true] at h
    obtain ⟨y, hy, e⟩ := h
    exact ⟨z, rfl, by rw [← eq_of_beq e]; exact hy⟩
theorem readA_ok {s s' : RS} {c : Cn} (h : s.readA = .ok (c, s')) : (c = .aw ["root"] ∧ s.cur = some ("root" : Str) ∧ s' = s.next) ∨ (∃ w k, c = .aw [w, k] ∧ s.cur = some w ∧ w ∈ atW ∧ w ≠ "root" ∧ s.next.cur = some k ∧ madeOf k capsL 4 = true ∧ s' = s.next.next.use k) := by
  unfold RS.readA at h
  split at h
  · rename_i hi
    obtain ⟨w, hw, hm⟩ := inW_some hi
    split at h
    · rename_i e
      cases h
      exact .inl ⟨rfl, e, rfl⟩
    · rename_i e
      split at h
      · rename_i hk
        cases hn : s.next.cur with
        | none => rw [hn] at hk; cases hk
        | some k =>
          rw [hn, hw] at h
          cases h
          rw [hn] at hk
          exact .inr ⟨w, k, rfl, hw, hm, fun q => e (by rw [hw, q]), rfl, hk, rfl⟩
      · cases h
  · cases h
theorem bd_atom {s s' : RS} {c : Cn} (b : Bd s) (h : s.readA = .ok (c, s')) : Bd (s'.atom c) ∧ s.at < (s'.atom c).at ∧ (s'.atom c).given = s.given := by
  have key : ∀ s1 : RS, s1.given = s.given → s1.top = s.top → s1.below = s.below → s.at < s1.at → s1.at ≤ s.given.length → s1.used.length ≤ s1.at → WF c → sz c = 1 → Bd (s1.atom c) ∧ s.at < (s1.atom c).at ∧ (s1.atom c).given = s.given := by
    intro s1 e1 e2 e3 h1 h2 h3 hw hz
    have e1' : (s1.atom c).given = s1.given := rfl
    have e2' : (s1.atom c).at = s1.at := rfl
    have e3' : (s1.atom c).top = s1.top.add c := rfl
    have e4' : (s1.atom c).below = s1.below := rfl
    have e5' : (s1.atom c).used = s1.used := rfl
    refine ⟨⟨by rw [e1', e1]; exact b.len, by rw [e1', e1]; exact b.gl, by rw [e5', e2']; exact h3, by rw [e1', e2', e1]; exact h2, ?_, by rw [e3', e2]; exact okF_add b.wf hw, by rw [e4', e3]; exact b.wb, by rw [e4', e3, e2']; exact Nat.le_trans b.bl (Nat.le_of_lt h1)⟩, by rw [e2']; exact h1, by rw [e1', e1]⟩
    rw [e3', e4', e2', e2, e3, szF_add, hz]
    have := b.wt
    omega
  rcases readA_ok h with ⟨rfl, hc, rfl⟩ | ⟨w, k, rfl, hc, hw, _, hn, hk, rfl⟩
  · have := cur_lt hc
    refine key s.next rfl rfl rfl (Nat.lt_succ_self _) this ?_ (by rw [WF]; exact .inr rfl) (by rw [sz])
    exact Nat.le_succ_of_le b.ul
  · have h2 := cur_lt hn
    have h1 := cur_lt hc
    refine key (s.next.next.use k) rfl rfl rfl (show s.at < s.at + 1 + 1 by omega) h2 ?_ (by rw [WF]; exact .inl ⟨w, k, rfl, hw, hk⟩) (by rw [sz])
    show (s.used ++ [k]).length ≤ s.at + 1 + 1
    have := b.ul
    rw [List.length_append, List.length_singleton]; omega
theorem bd_readP {s s' : RS} {b : Bool} (hb : Bd s) (h : s.readP = .ok (b, s')) : Bd s' ∧ s.at < s'.at ∧ s'.given = s.given := by
  unfold RS.readP at h
  split at h
  · rename_i e
    cases h
    have h1 := cur_lt e
    refine ⟨⟨hb.len, hb.gl, Nat.le_succ_of_le hb.ul, h1, ?_, okF_new, fun t ht => ?_, by show (s.below ++ [s.top]).length ≤ s.at + 1; rw [List.length_append]; exact Nat.succ_le_succ hb.bl⟩, Nat.lt_succ_self _, rfl⟩
    · show szF FS.new + sumF (s.below ++ [s.top]) ≤ 2 * (s.at + 1)
      have := hb.wt
      have e0 : szF FS.new = 0 := rfl
      unfold sumF at this ⊢
      rw [List.map_append, List.sum_append, e0]
      simp only [List.map_cons, List.map_nil, List.sum_cons, List.sum_nil]
      omega
    · rcases List.mem_append.mp ht with q | q
      · exact hb.wb t q
      · rw [List.mem_singleton.mp q]; exact hb.wf
  · split at h
    · rename_i e1 e2
      obtain ⟨w, hw, hm⟩ := inW_some e2
      rw [hw] at h
      cases h
      have h1 := cur_lt hw
      refine ⟨⟨hb.len, hb.gl, Nat.le_succ_of_le hb.ul, h1, ?_, ⟨hb.wf.1, hb.wf.2.1, fun z hz => ?_⟩, hb.wb, Nat.le_succ_of_le hb.bl⟩, Nat.lt_succ_self _, rfl⟩
      · show szs s.top.groups + szs s.top.parts + (s.top.heads ++ [w]).length + sumF s.below ≤ 2 * (s.at + 1)
        have h0 : szs s.top.groups + szs s.top.parts + s.top.heads.length + sumF s.below ≤ 2 * s.at := hb.wt
        rw [List.length_append, List.length_singleton]; omega
      · rcases List.mem_append.mp hz with q | q
        · exact hb.wf.2.2 z q
        · rw [List.mem_singleton.mp q]; exact hm
    · split at h
      · cases h
      · rename_i c s1 hA
        cases h
        exact bd_atom hb hA
theorem close_of {s : RS} {bs : List FS} {t : FS} (e : s.below = bs ++ [t]) : s.close = RS.add { s with below := bs, top := t, deep := s.deep - 1 } s.top.ended := by
  unfold RS.close
  have : s.below.getLast? = some t := by rw [e]; simp
  rw [this]
  show RS.add { s with below := s.below.dropLast, top := t, deep := s.deep - 1 } s.top.ended = _
  rw [e, List.dropLast_concat]
theorem snoc_of {α : Type} {l : List α} (h : l ≠ []) : ∃ bs t, l = bs ++ [t] := ⟨l.dropLast, l.getLast h, (List.dropLast_concat_getLast h).symm⟩
theorem bd_readB {s s' : RS} {b : Bool} (hb : Bd s) (h : s.readB = .ok (b, s')) : Bd s' ∧ s.at < s'.at ∧ s'.given = s.given := by
  unfold RS.readB at h
  split at h
  · rename_i hi
    obtain ⟨w, hw, hm⟩ := inW_some hi
    have h1 := cur_lt hw
    split at h
    · split at h
      · cases h
      · rename_i hne
        cases h
        obtain ⟨bs, t, e⟩ := snoc_of hne
        rw [close_of (s := s.next) e]
        have hwt := hb.wt
        rw [e] at hwt
        unfold sumF at hwt
        rw [List.map_append, List.sum_append] at hwt
        simp only [List.map_cons, List.map_nil, List.sum_cons, List.sum_nil] at hwt
        have hse := sz_ended s.top
        have ht := hb.wb t (by rw [e]; simp)
        refine ⟨⟨hb.len, hb.gl, Nat.le_succ_of_le hb.ul, h1, ?_, okF_add ht (WF_ended hb.wf), fun u hu => hb.wb u (by rw [e]; exact List.mem_append.mpr (.inl hu)), by
          have := hb.bl
          rw [e, List.length_append, List.length_singleton] at this
          show bs.length ≤ s.at + 1
          omega⟩, Nat.lt_succ_self _, rfl⟩
        show szF (t.add s.top.ended) + sumF bs ≤ 2 * (s.at + 1)
        rw [szF_add]
        unfold sumF
        omega
    · split at h
      · cases h
        refine ⟨⟨hb.len, hb.gl, Nat.le_succ_of_le hb.ul, h1, ?_, okF_endG hb.wf, hb.wb, Nat.le_succ_of_le hb.bl⟩, Nat.lt_succ_self _, rfl⟩
        show szF s.top.endG + sumF s.below ≤ 2 * (s.at + 1)
        have := szF_endG s.top
        have := hb.wt
        omega
      · cases h
        exact ⟨⟨hb.len, hb.gl, Nat.le_succ_of_le hb.ul, h1, Nat.le_trans hb.wt (by show 2 * s.at ≤ 2 * (s.at + 1); omega), hb.wf, hb.wb, Nat.le_succ_of_le hb.bl⟩, Nat.lt_succ_self _, rfl⟩
  · cases h
theorem FrAt.addH {C : Addr} {O : Own} {A : Fr} {t : FS} (h : FrAt C O A t) (z : Str) : FrAt C (up O A.h (.lst (t.heads.map sS ++ [.dat (.str z)]))) A { t with heads := t.heads ++ [z] } := by
  obtain ⟨m1, m2, m3, m4, m5, m6⟩ := nd4 h.nd
  refine ⟨by rw [up_ne m2]; exact h.f, by rw [up_ne m4]; exact h.g, ?_, by rw [up_ne m6.symm]; exact h.p, h.nd⟩
  rw [up_at]
  show _ = some (Cell.lst ((t.heads ++ [z]).map sS))
  rw [List.map_append]; rfl
theorem Bd.small {s : RS} (b : Bd s) : s.top.parts.length ≤ 400000 ∧ s.top.heads.length ≤ 400000 ∧ s.used.length ≤ 400000 ∧ szs s.top.parts ≤ 400000 ∧ szs s.top.groups ≤ 400000 ∧ s.below.length ≤ 400000 := by
  have h1 := b.wt
  have h2 := b.al
  have h3 := b.len
  have h4 := b.ul
  have h5 := szs_len s.top.parts
  have h6 := b.bl
  have h0 : szs s.top.groups + szs s.top.parts + s.top.heads.length + sumF s.below ≤ 2 * s.at := h1
  omega
def ReadPS (K : PySem.W.Frag) : SpecT := fun ss O R => ∃ (N : Nm) (C CF : Addr) (O0 : Own) (s : RS), ss = [.own N.r] ∧ RdQ K C CF O0 O N s ∧ Bd s ∧
  (∀ b s', s.readP = .ok (b, s') → ∀ N' O', N'.r = N.r → RdQ K C CF O0 O' N' s' → R (.ret (.dat (.bl b))) O') ∧ (∀ i, s.readP = .error i → noQ K R i O0)
def ReadBS (K : PySem.W.Frag) : SpecT := fun ss O R => ∃ (N : Nm) (C CF : Addr) (O0 : Own) (s : RS), ss = [.own N.r] ∧ RdQ K C CF O0 O N s ∧ Bd s ∧
  (∀ b s', s.readB = .ok (b, s') → ∀ N' O', N'.r = N.r → RdQ K C CF O0 O' N' s' → R (.ret (.dat (.bl b))) O') ∧ (∀ i, s.readB = .error i → noQ K R i O0)
theorem readP_par {s : RS} (h : s.cur = some ("(" : Str)) : s.readP = .ok (false, s.next.deeper.push) := if_pos h
theorem readP_head {s : RS} {z : Str} (h0 : ¬ s.cur = some ("(" : Str)) (h : s.cur = some z) (hz : inW s.cur heW = true) : s.readP = .ok (false, s.next.deeper.head z) := by
  unfold RS.readP
  rw [if_neg h0, if_pos hz, h]; rfl
theorem readP_atom {s s' : RS} {c : Cn} (h0 : ¬ s.cur = some ("(" : Str)) (hz : inW s.cur heW = false) (h : s.readA = .ok (c, s')) : s.readP = .ok (true, s'.atom c) := by
  unfold RS.readP
  rw [if_neg h0, if_neg (by rw [hz]; simp), h]
theorem readP_err {s : RS} {i : Nat} (h0 : ¬ s.cur = some ("(" : Str)) (hz : inW s.cur heW = false) (h : s.readA = .error i) : s.readP = .error i := by
  unfold RS.readP
  rw [if_neg h0, if_neg (by rw [hz]; simp), h]
theorem put_back {s : RS} {pf pu : Addr} : putS "at" (.dat (.int (((s.at + 1 : Nat) : Int) - 1))) (rdF s.next pf pu) = rdF s pf pu := by
  have e : (((s.at + 1 : Nat) : Int) - 1) = (s.at : Int) := by omega
  rw [e]; rfl
theorem put_atoms1 {s : RS} {pf pu : Addr} : putS "atoms" (.dat (.int ((s.atoms : Int) + 1))) (rdF s pf pu) = rdF { s with atoms := s.atoms + 1 } pf pu := rfl
section
variable {P : Program} {w : World} {K : PySem.W.Frag} {mg : Str → Option Value} {base : Heap}
theorem m_atom (T : TopOf K mg) (Z : Facts K) {C : Addr} (hC : clsAt K "QuestionReader" C) : MCal P w K mg base false 6 C "read_atom" (ReadAS K) [] := by
  obtain ⟨C', I_QuestionReader, cHEADS, mAtom, mI, mRefuse, mComing, mPassOne, mPassKind, mDeeper, mPart, mAdd, mBetween, mWhole, n1, n2, n3, n4, n5, n6, n7⟩ := Z.c_QuestionReader
  obtain rfl := at_inj hC I_QuestionReader.at_
  exact mcal_of mAtom (by walk_at "b1") fun f fd F => fn_QuestionReader_read_atom T Z F
theorem fn_Reader_read_part (T : TopOf K mg) (Z : Facts K) {f : Addr} {fd : FuncData} (F : L2.Fun K "read_part" "Reader.read_part" s_Reader_read_part f fd) : Fn P w K mg base false (7) f fd ["self"] (ReadPS K) := by
  have sc := sc_Reader_read_part
  refine fn_mk F sc_Reader_read_part (fun ss O R h => by first | (obtain ⟨_, rfl, _⟩ := h; rfl) | (obtain ⟨_, _, rfl, _⟩ := h; rfl) | (obtain ⟨_, _, _, rfl, _⟩ := h; rfl) | (obtain ⟨_, _, _, _, rfl, _⟩ := h; rfl) | (obtain ⟨_, _, _, _, _, rfl, _⟩ := h; rfl) | (obtain ⟨_, _, _, _, _, _, rfl, _⟩ := h; rfl) | (obtain ⟨_, _, _, _, _, _, _, rfl, _⟩ := h; rfl)) fun cdv A outer s H E ss O R hr hpo h => ?_
  obtain ⟨N, C, CF, O0, s0, rfl, hR, hB, h, hx⟩ := h
  have rc := rdc Z hR.hC
  obtain ⟨hp1, hp2, hp3, hp4, hp5, hp6⟩ := hB.small
  obtain ⟨CF', I_Frame, mFI, mFAdd, mFEndG, mFEnded, ⟨q0, t_groups⟩, ⟨q1, t_heads⟩, ⟨q2, t_parts⟩⟩ := Z.c_Frame
  obtain rfl := at_inj hR.hF I_Frame.at_
  have mk_Frame : MkC P w K mg base 1 CF (FInitS K) [] := mkc_ofS I_Frame mFI (by walk_at "b1") fun f fd F => fn_Frame_init T Z F
  have cH : ConD K C "HEADS" (.tup (heW.map .str)) := by
    obtain ⟨C', I_QuestionReader, cHEADS, mAtom, mI, mRefuse, mComing, mPassOne, mPassKind, mDeeper, mPart, mAdd, mBetween, mWhole, n1, n2, n3, n4, n5, n6, n7⟩ := Z.c_QuestionReader
    obtain rfl := at_inj hR.hC I_QuestionReader.at_
    exact cHEADS.con
  -- 0:self 1:word 2:atom
  refine sw_cons ?_
  refine s1_set 1 ?_ sc.nd
  refine ew_meth0 (m_coming T Z hR.hC) rc.cl hr ?_
  refine ew_var 0 ?_
  refine ⟨⟨_, _, hR.r.rd, rfl⟩, N, C, CF, O0, s0, rfl, hR, ?_⟩
  refine sw_cons ?_
  refine s1_if ?_
  refine tw_cmp ?_
  refine ew_var 1 ?_
  refine ew_str ?_
  refine ob_eqW ?_
  refine ⟨_, rfl, fun ht => ?_, fun ht => ?_⟩
  · have hpar := readP_par (of_decide_eq_true ht)
    refine sw_cons ?_
    refine s1_fldadd ?_
    refine ew_var 0 ?_
    refine ⟨N.r, C, N.dx, _, _, rfl, hR.r.rd, rc.cl, rc.nat, rfl, ?_⟩
    refine ew_int ?_
    refine ⟨1, N.dx, _, rfl, hR.r.rd, Nat.le_of_ble_eq_true rfl, ?_⟩
    rw [put_next]
    have hR1 : RdQ K C CF O0 _ N s0.next := ⟨hR.hC, hR.hF, hR.r.upR (s' := s0.next) rfl rfl rfl⟩
    refine sw_cons ?_
    refine s1_expr ?_
    refine ew_meth0 (m_deeper T Z hR.hC) rc.cl hr ?_
    refine ew_var 0 ?_
    refine ⟨⟨_, _, hR1.r.rd, rfl⟩, N, C, CF, O0, s0.next, rfl, hR1, fun O2 hR2 => ?_⟩
    refine sw_cons ?_
    refine s1_expr ?_
    refine ew_append ?_
    refine ew_fld ?_
    refine ew_var 0 ?_
    refine hR2.r.fframes rc ?_
    refine ⟨?_, ?_⟩
    · exact ⟨rfl, _, hR2.r.fr⟩
    refine ew_makeSl0 mk_Frame (T.is I_Frame.at_) hr ?_
    intro a dx ha hdx hne
    refine ⟨a, CF, dx, rfl, hR.hF, up_at, fun B O3 e1 hBn hb n1 n2 n3 => ⟨rfl, ?_⟩⟩
    subst e1
    have hb0 : But [] O2 O3 := fun b c _ e => hb b c (by
      intro q
      rw [List.mem_singleton.mp q, ha] at e; cases e) (by
      have nb : b ≠ B.f := fun q => by rw [q, ha] at e; cases e
      rw [up_ne nb]; exact e)
    have nw : ∀ k ∈ B.keys, O2 k = none := fun k hk => by
      simp only [Fr.keys, List.mem_cons, List.not_mem_nil, or_false] at hk
      have back : ∀ {q : Addr}, (up O2 B.f (.slt CF dx [])) q = none → O2 q = none := fun {q} e => by
        have nq : q ≠ B.f := fun z => by rw [z, up_at] at e; cases e
        rw [up_ne nq] at e; exact e
      rcases hk with rfl | rfl | rfl | rfl
      · exact ha
      · exact back n1
      · exact back n2
      · exact back n3
    have hP := hR2.r.upP hBn hb0 nw
    
    refine mb_append (hb0 _ _ (fun q => nomatch q) hR2.r.fr) ?_ ?_
    · have hl : N.Bs.length = s0.below.length := paired_len hR2.r.bel
      rw [List.length_append, List.length_map, hl]
      exact Nat.lt_of_le_of_lt (Nat.succ_le_succ hp6) (by decide)
    have e2 : ((N.Bs.map fun B => Slot.own B.f) ++ [.own N.A.f]) ++ [Slot.own B.f] = ((N.Bs ++ [N.A]).map fun B => Slot.own B.f) ++ [.own B.f] := by rw [List.map_append]; rfl
    rw [e2]
    refine sw_one ?_
    refine s1_ret ?_
    refine ew_bl ?_
    exact h _ _ hpar { N with Bs := N.Bs ++ [N.A], A := B } _ rfl ⟨hR.hC, hR.hF, hP⟩
  · have hnp : ¬ s0.cur = some ("(" : Str) := of_decide_eq_false ht
    refine sw_nil ?_
    refine sw_cons ?_
    refine s1_if ?_
    refine tw_cmp ?_
    refine ew_var 1 ?_
    refine ew_con cH rc.cl ?_
    refine ew_var 0 ?_
    refine ⟨⟨_, _, hR.r.rd, rfl⟩, ?_⟩
    refine ob_inW ?_
    refine ⟨_, rfl, fun ht => ?_, fun ht => ?_⟩
    · obtain ⟨z, hz, hzm⟩ := inW_some ht
      have hhead := readP_head hnp hz ht
      rw [hz]
      refine sw_cons ?_
      refine s1_fldadd ?_
      refine ew_var 0 ?_
      refine ⟨N.r, C, N.dx, _, _, rfl, hR.r.rd, rc.cl, rc.nat, rfl, ?_⟩
      refine ew_int ?_
      refine ⟨1, N.dx, _, rfl, hR.r.rd, Nat.le_of_ble_eq_true rfl, ?_⟩
      rw [put_next]
      have hR1 : RdQ K C CF O0 _ N s0.next := ⟨hR.hC, hR.hF, hR.r.upR (s' := s0.next) rfl rfl rfl⟩
      refine sw_cons ?_
      refine s1_expr ?_
      refine ew_meth0 (m_deeper T Z hR.hC) rc.cl hr ?_
      refine ew_var 0 ?_
      refine ⟨⟨_, _, hR1.r.rd, rfl⟩, N, C, CF, O0, s0.next, rfl, hR1, fun O2 hR2 => ?_⟩
      refine sw_cons ?_
      refine s1_fldadd ?_
      refine ew_var 0 ?_
      refine ⟨N.r, C, N.dx, _, _, rfl, hR2.r.rd, rc.cl, rc.atoms, rfl, ?_⟩
      refine ew_callTy (T.no Z.n_int) bt_int ?_
      refine aw_cons ?_
      refine ew_cmp ?_
      refine ew_var 1 ?_
      refine ew_str ?_
      refine ob_neS ?_
      refine aw_nil ?_
      walk_at "cb int"
      have ei : (if (!decide (z = "not")) = true then (1 : Int) else 0) = (((if z = "not" then 0 else 1 : Nat)) : Int) := by
        by_cases q : z = "not" <;> simp [q]
      rw [ei]
      refine ⟨_, N.dx, _, rfl, hR2.r.rd, Nat.le_of_ble_eq_true rfl, ?_⟩
      rw [put_atoms]
      have hR3 := hR2.r.upR (s' := { s0.next.deeper with atoms := s0.next.deeper.atoms + (if z = "not" then 0 else 1) }) rfl rfl rfl
      refine sw_cons ?_
      refine s1_expr ?_
      refine ew_append ?_
      refine ew_slot I_Frame.sc t_heads ?_
      refine ew_ix ?_
      refine ew_fld ?_
      refine ew_var 0 ?_
      refine hR3.fframes rc ?_
      refine ew_un ?_
      refine ew_int ?_
      refine ou_neg ?_
      refine ix_own hR3.fr (atI_last _ _) ?_
      refine ⟨N.A.f, N.A.dx, _, _, rfl, hR3.top.f, rfl, ?_⟩
      refine ⟨?_, ?_⟩
      · exact ⟨rfl, _, hR3.top.h⟩
      refine ew_var 1 ?_
      
      refine mb_append hR3.top.h (by rw [List.length_map]; exact Nat.lt_of_le_of_lt hp2 (by decide)) ?_
      refine sw_one ?_
      refine s1_ret ?_
      refine ew_bl ?_
      exact h _ _ hhead _ _ rfl ⟨hR.hC, hR.hF, hR3.upT (hR3.top.addH z) (But.refl.up (.inl (by simp [Fr.keys]))) rfl fun k q => .inl q⟩
    · refine sw_nil ?_
      refine sw_cons ?_
      refine s1_set 2 ?_ sc.nd
      refine ew_meth0 (m_atom T Z hR.hC) rc.cl hr ?_
      refine ew_var 0 ?_
      refine ⟨⟨_, _, hR.r.rd, rfl⟩, N, C, CF, O0, s0, rfl, hR, hB.gl, Nat.le_trans hp3 (by decide), fun c s1 hA O1 hR1 => ?_, fun i hi => hx i (readP_err hnp ht hi)⟩
      have hok := readP_atom hnp ht hA
      have etop : s1.top = s0.top := by
        rcases readA_ok hA with ⟨_, _, rfl⟩ | ⟨_, _, _, _, _, _, _, _, rfl⟩ <;> rfl
      refine sw_cons ?_
      refine s1_fldadd ?_
      refine ew_var 0 ?_
      refine ⟨N.r, C, N.dx, _, _, rfl, hR1.r.rd, rc.cl, rc.atoms, rfl, ?_⟩
      refine ew_int ?_
      refine ⟨1, N.dx, _, rfl, hR1.r.rd, Nat.le_of_ble_eq_true rfl, ?_⟩
      rw [put_atoms1]
      have hR2 : RdQ K C CF O0 _ N { s1 with atoms := s1.atoms + 1 } := ⟨hR.hC, hR.hF, hR1.r.upR (s' := { s1 with atoms := s1.atoms + 1 }) rfl rfl rfl⟩
      refine sw_cons ?_
      refine s1_expr ?_
      refine ew_meth (m_add T Z hR.hC) rc.cl hr ?_
      refine ew_var 0 ?_
      refine ⟨⟨_, _, hR2.r.rd, rfl⟩, ?_⟩
      refine aw_cons ?_
      refine ew_var 2 ?_
      refine aw_nil ?_
      refine ⟨N, c, C, CF, O0, _, rfl, hR2, by show s1.top.parts.length ≤ _; rw [etop]; omega, by show s1.top.heads.length ≤ _; rw [etop]; omega, fun O3 hR3 => ?_⟩
      refine sw_one ?_
      refine s1_ret ?_
      refine ew_bl ?_
      exact h _ _ hok _ _ rfl hR3
end
theorem readB_err {s : RS} (h : inW s.cur betW = false) : s.readB = .error s.at := if_neg (by show ¬ inW s.cur betW = true; rw [h]; simp)
theorem readB_no {s : RS} (h : inW s.cur betW = true) (h1 : s.cur = some (")" : Str)) (h2 : s.below = []) : s.readB = .error s.at := by
  unfold RS.readB
  rw [if_pos h, if_pos h1, if_pos h2]
theorem readB_par {s : RS} (h : inW s.cur betW = true) (h1 : s.cur = some (")" : Str)) (h2 : s.below ≠ []) : s.readB = .ok (false, s.next.close) := by
  unfold RS.readB
  rw [if_pos h, if_pos h1, if_neg h2]
theorem readB_or {s : RS} (h : inW s.cur betW = true) (h1 : ¬ s.cur = some (")" : Str)) (h2 : s.cur = some ("or" : Str)) : s.readB = .ok (true, { s.next with top := s.top.endG }) := by
  unfold RS.readB
  rw [if_pos h, if_neg h1, if_pos h2]
theorem readB_and {s : RS} (h : inW s.cur betW = true) (h1 : ¬ s.cur = some (")" : Str)) (h2 : ¬ s.cur = some ("or" : Str)) : s.readB = .ok (true, s.next) := by
  unfold RS.readB
  rw [if_pos h, if_neg h1, if_neg h2]
section
variable {P : Program} {w : World} {K : PySem.W.Frag} {mg : Str → Option Value} {base : Heap}
theorem fn_Reader_read_between (T : TopOf K mg) (Z : Facts K) {f : Addr} {fd : FuncData} (F : L2.Fun K "read_between" "Reader.read_between" s_Reader_read_between f fd) : Fn P w K mg base false (6) f fd ["self"] (ReadBS K) := by
  have sc := sc_Reader_read_between
  refine fn_mk F sc_Reader_read_between (fun ss O R h => by first | (obtain ⟨_, rfl, _⟩ := h; rfl) | (obtain ⟨_, _, rfl, _⟩ := h; rfl) | (obtain ⟨_, _, _, rfl, _⟩ := h; rfl) | (obtain ⟨_, _, _, _, rfl, _⟩ := h; rfl) | (obtain ⟨_, _, _, _, _, rfl, _⟩ := h; rfl) | (obtain ⟨_, _, _, _, _, _, rfl, _⟩ := h; rfl) | (obtain ⟨_, _, _, _, _, _, _, rfl, _⟩ := h; rfl)) fun cdv A outer s H E ss O R hr hpo h => ?_
  obtain ⟨N, C, CF, O0, s0, rfl, hR, hB, h, hx⟩ := h
  have rc := rdc Z hR.hC
  obtain ⟨hp1, hp2, hp3, hp4, hp5, hp6⟩ := hB.small
  obtain ⟨CF', I_Frame, mFI, mFAdd, mFEndG, mFEnded, ⟨q0, t_groups⟩, ⟨q1, t_heads⟩, ⟨q2, t_parts⟩⟩ := Z.c_Frame
  obtain rfl := at_inj hR.hF I_Frame.at_
  have mcE : MCal P w K mg base false 3 CF "ended" (FEndedS K) [] := mcal_of mFEnded (by walk_at "b1") fun f fd F => fn_Frame_ended T Z F
  have mcG : MCal P w K mg base false 2 CF "end_group" (FEndGS K) [] := mcal_of mFEndG (by walk_at "b1") fun f fd F => fn_Frame_end_group T Z F
  -- 0:self 1:word 2:part
  refine sw_cons ?_
  refine s1_set 1 ?_ sc.nd
  refine ew_meth (m_pass_one T Z hR.hC) rc.cl hr ?_
  refine ew_var 0 ?_
  refine ⟨⟨_, _, hR.r.rd, rfl⟩, ?_⟩
  refine aw_cons ?_
  refine ew_tup ?_
  refine aw_cons ?_
  refine ew_str ?_
  refine aw_cons ?_
  refine ew_str ?_
  refine aw_cons ?_
  refine ew_str ?_
  refine aw_nil ?_
  refine ⟨[_, _, _], rfl, by walk_at "few", ?_⟩
  refine aw_nil ?_
  refine ⟨N, betW, C, CF, O0, s0, rfl, hR, fun hi O1 hR1 => ?_, fun hn => hx _ (readB_err hn)⟩
  refine sw_cons ?_
  refine s1_if ?_
  refine tw_cmp ?_
  refine ew_var 1 ?_
  refine ew_str ?_
  refine ob_eqW ?_
  refine ⟨_, rfl, fun ht => ?_, fun ht => ?_⟩
  · have e := of_decide_eq_true ht
    refine sw_cons ?_
    refine s1_if ?_
    refine tw_cmp ?_
    refine ew_callB (T.no Z.n_len) bt_len ?_
    refine aw_cons ?_
    refine ew_fld ?_
    refine ew_var 0 ?_
    refine hR1.r.fframes rc ?_
    refine aw_nil ?_
    
    refine cb_lenO hR1.r.fr ?_
    have hl : N.Bs.length = s0.below.length := paired_len hR1.r.bel
    rw [List.length_append, List.length_map, hl]
    refine ew_int ?_
    walk_at "cmp Eq"
    refine ⟨_, rfl, fun ht => ?_, fun ht => ?_⟩
    · have hnil : s0.below = [] := by
        have := of_decide_eq_true ht
        rw [List.length_singleton] at this
        exact List.length_eq_zero_iff.mp (by omega)
      refine sw_cons ?_
      refine s1_fldsub ?_
      refine ew_var 0 ?_
      refine ⟨N.r, C, N.dx, _, _, rfl, hR1.r.rd, rc.cl, rc.nat, rfl, ?_⟩
      refine ew_int ?_
      refine ⟨1, N.dx, _, rfl, hR1.r.rd, Nat.le_of_ble_eq_true rfl, ?_⟩
      have hR2 : RdQ K C CF O0 _ N s0 := ⟨hR.hC, hR.hF, hR1.r.upR (s' := s0) rfl rfl rfl⟩
      have epb : putS "at" (.dat (.int ((s0.next.at : Int) - 1))) (rdF s0.next N.pf N.pu) = rdF s0 N.pf N.pu := put_back
      rw [epb]
      refine sw_one ?_
      refine s1_expr ?_
      refine ew_meth0 (m_refuse T Z hR.hC) rc.cl hr ?_
      refine ew_var 0 ?_
      exact ⟨⟨_, _, hR2.r.rd, rfl⟩, N, C, CF, O0, s0, rfl, hR2, hx _ (readB_no hi e hnil)⟩
    · have hne : s0.below ≠ [] := fun q => by
        have := of_decide_eq_false ht
        rw [q] at this
        exact this rfl
      have hok := readB_par hi e hne
      obtain ⟨bs, t, eb⟩ := snoc_of hne
      rw [close_of (s := s0.next) eb] at hok
      obtain ⟨Bs, B, eBs, hQ, hAQ, hdis⟩ := hR1.r.upQ (s := s0.next) eb
      have hokt : okF t := hB.wb t (by rw [eb]; simp)
      have hwt : szF t ≤ 400000 := by
        have h1 := hB.wt
        have h2 := hB.al
        have h3 := hB.len
        rw [eb] at h1
        unfold sumF at h1
        rw [List.map_append, List.sum_append] at h1
        simp only [List.map_cons, List.map_nil, List.sum_cons, List.sum_nil] at h1
        omega
      refine sw_nil ?_
      refine sw_cons ?_
      refine s1_set 2 ?_ sc.nd
      refine ew_methSl0 mcE I_Frame.sc hr ?_
      refine ew_pop ?_
      refine ew_fld ?_
      refine ew_var 0 ?_
      refine hR1.r.fframes rc ?_
      refine ⟨⟨rfl, _, hR1.r.fr⟩, ?_⟩
      refine mb_pop hR1.r.fr ?_
      rw [eBs]
      refine ⟨⟨_, _, hAQ.f⟩, CF, N.A, s0.top, rfl, hR.hF, hAQ, hB.wf.2.1, Nat.le_trans hp4 (by decide), hB.wf.1, hp5, hp4, fun O3 hb => ?_⟩
      have hR3 := hQ.but hb hdis fun k q => hR1.r.new k (Nm.mA q)
      refine sw_cons ?_
      refine s1_fldsub ?_
      refine ew_var 0 ?_
      refine ⟨N.r, C, N.dx, _, _, rfl, hR3.rd, rc.cl, rc.deep, rfl, ?_⟩
      refine ew_int ?_
      refine ⟨1, N.dx, _, rfl, hR3.rd, Nat.le_of_ble_eq_true rfl, ?_⟩
      rw [put_deep]
      have hR4 := hR3.upR (s' := { s0.next with below := bs, top := t, deep := s0.next.deep - 1 }) rfl rfl rfl
      have hR5 : RdQ K C CF O0 _ { N with Bs := Bs, A := B } { s0.next with below := bs, top := t, deep := s0.next.deep - 1 } := ⟨hR.hC, hR.hF, hR4⟩
      refine sw_cons ?_
      refine s1_expr ?_
      refine ew_meth (m_add T Z hR.hC) rc.cl hr ?_
      refine ew_var 0 ?_
      refine ⟨⟨_, _, hR5.r.rd, rfl⟩, ?_⟩
      refine aw_cons ?_
      refine ew_var 2 ?_
      refine aw_nil ?_
      refine ⟨{ N with Bs := Bs, A := B }, s0.top.ended, C, CF, O0, _, rfl, hR5, ?_, ?_, fun O6 hR6 => ?_⟩
      · show t.parts.length ≤ _
        have := szs_len t.parts
        have h0 : szs t.groups + szs t.parts + t.heads.length ≤ 400000 := hwt
        omega
      · show t.heads.length ≤ _
        have h0 : szs t.groups + szs t.parts + t.heads.length ≤ 400000 := hwt
        omega
      refine sw_one ?_
      refine s1_ret ?_
      refine ew_bl ?_
      exact h _ _ hok { N with Bs := Bs, A := B } _ rfl hR6
  · have e := of_decide_eq_false ht
    refine sw_nil ?_
    refine sw_cons ?_
    refine s1_if ?_
    refine tw_cmp ?_
    refine ew_var 1 ?_
    refine ew_str ?_
    refine ob_eqW ?_
    refine ⟨_, rfl, fun ht => ?_, fun ht => ?_⟩
    · have hok := readB_or hi e (of_decide_eq_true ht)
      refine sw_one ?_
      refine s1_expr ?_
      refine ew_methSl0 mcG I_Frame.sc hr ?_
      refine ew_ix ?_
      refine ew_fld ?_
      refine ew_var 0 ?_
      refine hR1.r.fframes rc ?_
      refine ew_un ?_
      refine ew_int ?_
      refine ou_neg ?_
      refine ix_own hR1.r.fr (atI_last _ _) ?_
      refine ⟨⟨_, _, hR1.r.top.f⟩, CF, N.A, s0.top, rfl, hR.hF, hR1.r.top, hB.wf.2.1, Nat.le_trans hp4 (by decide), Nat.le_trans (szs_len _) (Nat.le_trans hp5 (by decide)), fun A' O' e1 e2 e3 hn hA' hb => ?_⟩
      have hR2 := hR1.r.upT hA' hb e1 (fun k hk => by
        simp only [Fr.keys, List.mem_cons, List.not_mem_nil, or_false] at hk
        rcases hk with rfl | rfl | rfl | rfl
        · exact .inl (by rw [e1]; simp [Fr.keys])
        · exact .inl (by rw [e2]; simp [Fr.keys])
        · exact .inl (by rw [e3]; simp [Fr.keys])
        · exact hn.imp (fun q => by rw [q]; simp [Fr.keys]) fun q => q)
      refine sw_one ?_
      refine s1_ret ?_
      refine ew_bl ?_
      exact h _ _ hok { N with A := A' } _ rfl ⟨hR.hC, hR.hF, hR2⟩
    · have hok := readB_and hi e (of_decide_eq_false ht)
      refine sw_nil ?_
      refine sw_one ?_
      refine s1_ret ?_
      refine ew_bl ?_
      exact h _ _ hok N _ rfl hR1
end
def RInitS (K : PySem.W.Frag) : SpecT := fun ss O R => ∃ (r C CF dx : Addr) (O0 : Own) (ws : List Str), ss = [.own r, .dat (.lst (ws.map .str))] ∧ clsAt K "QuestionReader" C ∧ clsAt K "Frame" CF ∧ O r = some (.ins C dx []) ∧ Sub O0 O ∧ O0 r = none ∧
  ∀ N O', N.r = r → RdQ K C CF O0 O' N (RS.new ws) → R (.ret (.dat .non)) O'
def WholeS (K : PySem.W.Frag) : SpecT := fun ss O R => ∃ (N : Nm) (C CF : Addr) (O0 : Own) (s : RS), ss = [.own N.r] ∧ RdQ K C CF O0 O N s ∧ Bd s ∧
  (∀ s', RS.run (s.given.length + 1) true s = .ok s' → Bd s' → ∀ O' dx' pf' pu', Sub O0 O' → O' N.r = some (.ins C dx' (rdF s' pf' pu')) → R (.ret (.dat (cD s'.top.ended))) O') ∧ (∀ i, RS.run (s.given.length + 1) true s = .error i → noQ K R i O0)
theorem run_stop {n : Nat} {b : Bool} {s : RS} (h : RS.goes b s = false) : RS.run (n + 1) b s = .ok s := by
  rw [RS.run, if_neg (by rw [h]; simp)]
theorem run_part {n : Nat} {s : RS} : RS.run (n + 1) true s = (match s.readP with | .error i => .error i | .ok (b, s') => RS.run n (!b) s') := by
  rw [RS.run, if_pos (show RS.goes true s = true from rfl), if_pos rfl]
  try (cases s.readP <;> rfl)
theorem run_betw {n : Nat} {s : RS} (h : RS.goes false s = true) : RS.run (n + 1) false s = (match s.readB with | .error i => .error i | .ok (b, s') => RS.run n b s') := by
  rw [RS.run, if_pos h, if_neg (by simp)]
  try (cases s.readB <;> rfl)
section
variable {P : Program} {w : World} {K : PySem.W.Frag} {mg : Str → Option Value} {base : Heap}
theorem m_part (T : TopOf K mg) (Z : Facts K) {C : Addr} (hC : clsAt K "QuestionReader" C) : MCal P w K mg base false 7 C "read_part" (ReadPS K) [] := by
  obtain ⟨C', I_QuestionReader, cHEADS, mAtom, mI, mRefuse, mComing, mPassOne, mPassKind, mDeeper, mPart, mAdd, mBetween, mWhole, n1, n2, n3, n4, n5, n6, n7⟩ := Z.c_QuestionReader
  obtain rfl := at_inj hC I_QuestionReader.at_
  exact mcal_of mPart (by walk_at "b1") fun f fd F => fn_Reader_read_part T Z F
theorem m_between (T : TopOf K mg) (Z : Facts K) {C : Addr} (hC : clsAt K "QuestionReader" C) : MCal P w K mg base false 6 C "read_between" (ReadBS K) [] := by
  obtain ⟨C', I_QuestionReader, cHEADS, mAtom, mI, mRefuse, mComing, mPassOne, mPassKind, mDeeper, mPart, mAdd, mBetween, mWhole, n1, n2, n3, n4, n5, n6, n7⟩ := Z.c_QuestionReader
  obtain rfl := at_inj hC I_QuestionReader.at_
  exact mcal_of mBetween (by walk_at "b1") fun f fd F => fn_Reader_read_between T Z F
theorem fn_Reader_init (T : TopOf K mg) (Z : Facts K) {f : Addr} {fd : FuncData} (F : L2.Fun K "__init__" "Reader.__init__" s_Reader_init f fd) : Fn P w K mg base false (3) f fd ["self", "words"] (RInitS K) := by
  have sc := sc_Reader_init
  refine fn_mk F sc_Reader_init (fun ss O R h => by first | (obtain ⟨_, rfl, _⟩ := h; rfl) | (obtain ⟨_, _, rfl, _⟩ := h; rfl) | (obtain ⟨_, _, _, rfl, _⟩ := h; rfl) | (obtain ⟨_, _, _, _, rfl, _⟩ := h; rfl) | (obtain ⟨_, _, _, _, _, rfl, _⟩ := h; rfl) | (obtain ⟨_, _, _, _, _, _, rfl, _⟩ := h; rfl) | (obtain ⟨_, _, _, _, _, _, _, rfl, _⟩ := h; rfl)) fun cdv A outer s H E ss O R hr hpo h => ?_
  obtain ⟨r, C, CF, dx, O0, ws, rfl, hC, hF, hO, hsub, hr0, h⟩ := h
  have rc := rdc Z hC
  obtain ⟨CF', I_Frame, mFI, mFAdd, mFEndG, mFEnded, ⟨q0, t_groups⟩, ⟨q1, t_heads⟩, ⟨q2, t_parts⟩⟩ := Z.c_Frame
  obtain rfl := at_inj hF I_Frame.at_
  have mk_Frame : MkC P w K mg base 1 CF (FInitS K) [] := mkc_ofS I_Frame mFI (by walk_at "b1") fun f fd F => fn_Frame_init T Z F
  -- 0:self 1:words
  refine sw_cons ?_
  refine s1_fld ?_
  refine ew_var 1 ?_
  refine ew_var 0 ?_
  refine ⟨r, C, dx, _, rfl, hO, rc.cl, rc.given, Nat.le_of_ble_eq_true rfl, ?_⟩
  refine sw_cons ?_
  refine s1_fld ?_
  refine ew_int ?_
  refine ew_var 0 ?_
  refine ⟨r, C, dx, _, rfl, up_at, rc.cl, rc.nat, Nat.le_of_ble_eq_true rfl, ?_⟩
  rw [up_up]
  refine sw_cons ?_
  refine s1_fld ?_
  refine ew_lst ?_
  refine aw_cons ?_
  refine ew_makeSl0 mk_Frame (T.is I_Frame.at_) hr ?_
  intro a adx ha hadx hne
  refine ⟨a, CF, adx, rfl, hF, up_at, fun B O3 e1 hBn hb n1 n2 n3 => ⟨rfl, ?_⟩⟩
  subst e1
  have nrB : r ≠ B.f := fun q => by rw [← q, up_at] at ha; cases ha
  have hO3 := hb r _ (by simp [nrB]) (by rw [up_ne nrB]; exact up_at)
  refine aw_nil ?_
  refine ⟨Nat.le_of_ble_eq_true rfl, fun pf hpf => ?_⟩
  have nrp : r ≠ pf := own_ne hO3 hpf
  refine ew_var 0 ?_
  refine ⟨r, C, dx, _, rfl, by rw [up_ne nrp]; exact hO3, rc.cl, rc.frames, Nat.le_of_ble_eq_true rfl, ?_⟩
  refine sw_cons ?_
  refine s1_fld ?_
  refine ew_int ?_
  refine ew_var 0 ?_
  refine ⟨r, C, dx, _, rfl, up_at, rc.cl, rc.atoms, Nat.le_of_ble_eq_true rfl, ?_⟩
  rw [up_up]
  refine sw_cons ?_
  refine s1_fld ?_
  refine ew_int ?_
  refine ew_var 0 ?_
  refine ⟨r, C, dx, _, rfl, up_at, rc.cl, rc.deep, Nat.le_of_ble_eq_true rfl, ?_⟩
  rw [up_up]
  refine sw_cons ?_
  refine s1_fld ?_
  refine ew_int ?_
  refine ew_var 0 ?_
  refine ⟨r, C, dx, _, rfl, up_at, rc.cl, rc.deepest, Nat.le_of_ble_eq_true rfl, ?_⟩
  rw [up_up]
  refine sw_one ?_
  refine s1_fld ?_
  refine ew_lst ?_
  refine aw_nil ?_
  refine ⟨by decide, fun pu hpu => ?_⟩
  have nru : pu ≠ r := fun q => by rw [q, up_at] at hpu; cases hpu
  refine ew_var 0 ?_
  refine ⟨r, C, dx, _, rfl, by rw [up_ne nru.symm]; exact up_at, rc.cl, rc.used, Nat.le_of_ble_eq_true rfl, ?_⟩
  rw [up_ne nru] at hpu
  have nup : pu ≠ pf := fun q => by rw [q, up_at] at hpu; cases hpu
  rw [up_ne nup] at hpu
  have back : ∀ {q : Addr} {c : Cell}, O q = some c → q ≠ r → O3 q = some c := fun {q c} e nq => by
    have h1 : (up O r (.ins C dx (putS "at" (.dat (.int 0)) (putS "given" (.dat (.lst (ws.map .str))) [])))) q = some c := by rw [up_ne nq]; exact e
    have nqB : q ≠ B.f := fun z => by rw [← z, h1] at ha; cases ha
    exact hb q c (by simp [nqB]) (by rw [up_ne nqB]; exact h1)
  have fresh : ∀ {q : Addr}, O3 q = none → O0 q = none := fun {q} e => by
    cases e0 : O0 q with
    | none => rfl
    | some c =>
      have nq : q ≠ r := fun z => by rw [z, hr0] at e0; cases e0
      rw [back (hsub _ _ e0) nq] at e; cases e
  have freshB : ∀ {q : Addr}, (up O r (.ins C dx (putS "at" (.dat (.int 0)) (putS "given" (.dat (.lst (ws.map .str))) [])))) q = none → O0 q = none := fun {q} e => by
    have nq : q ≠ r := fun z => by rw [z, up_at] at e; cases e
    rw [up_ne nq] at e
    exact hsub.none e
  have freshB2 : ∀ {q : Addr}, (up (up O r (.ins C dx (putS "at" (.dat (.int 0)) (putS "given" (.dat (.lst (ws.map .str))) [])))) B.f (.slt CF adx [])) q = none → O0 q = none := fun {q} e => by
    have nq : q ≠ B.f := fun z => by rw [z, up_at] at e; cases e
    rw [up_ne nq] at e
    exact freshB e
  have cB : ∀ k ∈ B.keys, O3 k ≠ none := fun k hk => by
    simp only [Fr.keys, List.mem_cons, List.not_mem_nil, or_false] at hk
    rcases hk with rfl | rfl | rfl | rfl
    · rw [hBn.f]; simp
    · rw [hBn.g]; simp
    · rw [hBn.h]; simp
    · rw [hBn.p]; simp
  have nB : ∀ k ∈ B.keys, k ≠ r ∧ k ≠ pf ∧ k ≠ pu := fun k hk => by
    refine ⟨fun q => ?_, fun q => cB k hk (by rw [q]; exact hpf), fun q => cB k hk (by rw [q]; exact hpu)⟩
    subst q
    simp only [Fr.keys, List.mem_cons, List.not_mem_nil, or_false] at hk
    have nn : (up (up O k (.ins C dx (putS "at" (.dat (.int 0)) (putS "given" (.dat (.lst (ws.map .str))) [])))) B.f (.slt CF adx [])) k ≠ none := by
      rw [up_ne nrB, up_at]; simp
    rcases hk with e | e | e | e
    · exact nrB e
    · exact nn (by rw [e]; rw [e] at n1; exact n1)
    · exact nn (by rw [e]; rw [e] at n2; exact n2)
    · exact nn (by rw [e]; rw [e] at n3; exact n3)
  refine h ⟨r, dx, pf, pu, [], B⟩ _ rfl ⟨hC, hF, ?_⟩
  refine ⟨by rw [up_at]; rfl, ?_, ?_, ?_, .nil, ?_, ?_, ?_⟩
  · show Kn.up _ _ _ pf = _
    rw [up_ne nrp.symm, up_ne nup.symm, up_ne nrp.symm]; exact up_at
  · show Kn.up _ _ _ pu = _
    rw [up_ne nru]; exact up_at
  · refine hBn.but (ks := [r, pf, pu]) ?_ fun k hk => by
      obtain ⟨z1, z2, z3⟩ := nB k hk
      simp [z1, z2, z3]
    exact (((But.refl.up (.inl (by simp))).up (.inl (by simp))).up (.inl (by simp))).up (.inl (by simp))
  · show ([r, pf, pu] ++ ([] ++ B.keys)).Nodup
    rw [List.nil_append, List.nodup_append]
    refine ⟨by simp [nrp, nru.symm, nup.symm], hBn.nd, fun x hx y hy e => ?_⟩
    obtain ⟨z1, z2, z3⟩ := nB y hy
    simp only [List.mem_cons, List.not_mem_nil, or_false] at hx
    rcases hx with rfl | rfl | rfl
    · exact z1 e.symm
    · exact z2 e.symm
    · exact z3 e.symm
  · intro q c e
    have nq : q ≠ r := fun z => by rw [z, hr0] at e; cases e
    have h3 := back (hsub _ _ e) nq
    have nqf : q ≠ pf := own_ne h3 hpf
    have nqu : q ≠ pu := own_ne h3 hpu
    rw [up_ne nq, up_ne nqu, up_ne nq, up_ne nqf]; exact h3
  · intro k hk
    have hk : k ∈ [r, pf, pu] ++ ([] ++ B.keys) := hk
    rcases List.mem_append.mp hk with q | q
    · simp only [List.mem_cons, List.not_mem_nil, or_false] at q
      rcases q with rfl | rfl | rfl
      · exact hr0
      · exact fresh hpf
      · exact fresh hpu
    · rw [List.nil_append] at q
      simp only [Fr.keys, List.mem_cons, List.not_mem_nil, or_false] at q
      rcases q with rfl | rfl | rfl | rfl
      · exact freshB ha
      · exact freshB2 n1
      · exact freshB2 n2
      · exact freshB2 n3
end
theorem goes_off {wn : Bool} {s : RS} (h : RS.goes wn s = false) : wn = false ∧ s.cur = none ∧ s.below = [] := by
  unfold RS.goes at h
  simp only [Bool.or_eq_false_iff, decide_eq_false_iff_not] at h
  refine ⟨h.1.1, ?_, ?_⟩
  · cases e : s.cur with
    | none => rfl
    | some z => rw [e] at h; exact absurd h.1.2 (by simp)
  · exact List.length_eq_zero_iff.mp (by omega)
section
variable {P : Program} {w : World} {K : PySem.W.Frag} {mg : Str → Option Value} {base : Heap}
theorem fn_Reader_whole (T : TopOf K mg) (Z : Facts K) {f : Addr} {fd : FuncData} (F : L2.Fun K "whole" "Reader.whole" s_Reader_whole f fd) : Fn P w K mg base false (8) f fd ["self"] (WholeS K) := by
  have sc := sc_Reader_whole
  refine fn_mk F sc_Reader_whole (fun ss O R h => by first | (obtain ⟨_, rfl, _⟩ := h; rfl) | (obtain ⟨_, _, rfl, _⟩ := h; rfl) | (obtain ⟨_, _, _, rfl, _⟩ := h; rfl) | (obtain ⟨_, _, _, _, rfl, _⟩ := h; rfl) | (obtain ⟨_, _, _, _, _, rfl, _⟩ := h; rfl) | (obtain ⟨_, _, _, _, _, _, rfl, _⟩ := h; rfl) | (obtain ⟨_, _, _, _, _, _, _, rfl, _⟩ := h; rfl)) fun cdv A outer s H E ss O R hr hpo h => ?_
  obtain ⟨N, C, CF, O0, s0, rfl, hR, hB, h, hx⟩ := h
  have rc := rdc Z hR.hC
  obtain ⟨CF', I_Frame, mFI, mFAdd, mFEndG, mFEnded, ⟨q0, t_groups⟩, ⟨q1, t_heads⟩, ⟨q2, t_parts⟩⟩ := Z.c_Frame
  obtain rfl := at_inj hR.hF I_Frame.at_
  have mcE : MCal P w K mg base false 3 CF "ended" (FEndedS K) [] := mcal_of mFEnded (by walk_at "b1") fun f fd F => fn_Frame_ended T Z F
  -- 0:self 1:is_wanted
  refine sw_cons ?_
  refine s1_set 1 ?_ sc.nd
  refine ew_bl ?_
  refine sw_cons ?_
  refine s1_while hpo (fun m ρ' O' => ∃ wn s' N', ρ' = [.own N.r, .dat (.bl wn)] ∧ N'.r = N.r ∧ RdQ K C CF O0 O' N' s' ∧ Bd s' ∧ s'.given = s0.given ∧ s0.given.length ≤ m + s'.at ∧ RS.run (m + 1) wn s' = RS.run (s0.given.length + 1) true s0) ?_ fun m ρ2 O2 hj => ?_
  · exact ⟨s0.given.length, true, s0, N, rfl, rfl, hR, hB, rfl, Nat.le_add_right _ _, rfl⟩
  · obtain ⟨wn, s1, N1, rfl, eN, hR1, hB1, eg, hm, hrun⟩ := hj
    rw [← eN]
    have hl : N1.Bs.length = s1.below.length := paired_len hR1.r.bel
    refine TW.mono (kt := fun t O' => O' = O2 ∧ t = RS.goes wn s1) ?_ fun t O' e12 => ?_
    · refine tw_w ?_
      refine tww_or ?_
      refine tw_truth ?_
      refine ew_var 1 ?_
      refine ⟨fun ht => ⟨rfl, by rw [ht]; rfl⟩, fun ht => ?_⟩
      subst ht
      refine tww_or ?_
      refine tw_cmp ?_
      refine ew_meth0 (m_coming T Z hR1.hC) rc.cl hr ?_
      refine ew_var 0 ?_
      refine ⟨⟨_, _, hR1.r.rd, rfl⟩, N1, C, CF, O0, s1, rfl, hR1, ?_⟩
      refine ew_non ?_
      refine ob_isNotN ?_
      refine ⟨_, rfl, fun ht => ?_, fun ht => ?_⟩
      · refine ⟨rfl, ?_⟩
        cases e : s1.cur with
        | none => rw [e] at ht; cases ht
        | some z => unfold RS.goes; rw [e]; rfl
      · have e : s1.cur = none := by
          cases e : s1.cur with
          | none => rfl
          | some z => rw [e] at ht; cases ht
        refine tww_or1 ?_
        refine tw_cmp ?_
        refine ew_callB (T.no Z.n_len) bt_len ?_
        refine aw_cons ?_
        refine ew_fld ?_
        refine ew_var 0 ?_
        refine hR1.r.fframes rc ?_
        refine aw_nil ?_
        refine cb_lenO hR1.r.fr ?_
        refine ew_int ?_
        refine ob_gt ?_
        refine ⟨_, rfl, rfl, ?_⟩
        unfold RS.goes
        rw [e, List.length_append, List.length_map, hl]
        show decide ((1 : Int) < ((s1.below.length + 1 : Nat) : Int)) = decide (1 < s1.below.length + 1)
        exact decide_eq_decide.mpr (by omega)
    · obtain ⟨rfl, rfl⟩ := e12
      refine ⟨fun hg => ?_, fun hg => ?_⟩
      · refine sw_one ?_
        refine s1_set 1 ?_ sc.nd
        refine ew_if ?_
        refine tw_truth ?_
        refine ew_var 1 ?_
        refine ⟨fun hw => ?_, fun hw => ?_⟩
        · subst hw
          rw [run_part] at hrun
          refine ew_notv ?_
          refine ew_meth0 (m_part T Z hR1.hC) rc.cl hr ?_
          refine ew_var 0 ?_
          refine ⟨⟨_, _, hR1.r.rd, rfl⟩, N1, C, CF, O0, s1, rfl, hR1, hB1, fun b s2 hP N2 O3 e2 hR2 => ?_, fun i hi => hx i ?_⟩
          · rw [hP] at hrun
            obtain ⟨hB2, hlt, hgv⟩ := bd_readP hB1 hP
            have h2 := hB2.al
            rw [hgv, eg] at h2
            obtain ⟨m', rfl⟩ : ∃ m', m = m' + 1 := ⟨m - 1, by omega⟩
            exact ⟨_, rfl, m', Nat.lt_succ_self _, !b, s2, N2, by rw [eN]; rfl, by rw [e2, eN], hR2, hB2, by rw [hgv, eg], by omega, hrun⟩
          · rw [hi] at hrun; exact hrun.symm
        · subst hw
          rw [run_betw hg] at hrun
          refine ew_meth0 (m_between T Z hR1.hC) rc.cl hr ?_
          refine ew_var 0 ?_
          refine ⟨⟨_, _, hR1.r.rd, rfl⟩, N1, C, CF, O0, s1, rfl, hR1, hB1, fun b s2 hP N2 O3 e2 hR2 => ?_, fun i hi => hx i ?_⟩
          · rw [hP] at hrun
            obtain ⟨hB2, hlt, hgv⟩ := bd_readB hB1 hP
            have h2 := hB2.al
            rw [hgv, eg] at h2
            obtain ⟨m', rfl⟩ : ∃ m', m = m' + 1 := ⟨m - 1, by omega⟩
            exact ⟨m', Nat.lt_succ_self _, b, s2, N2, by rw [eN]; rfl, by rw [e2, eN], hR2, hB2, by rw [hgv, eg], by omega, hrun⟩
          · rw [hi] at hrun; exact hrun.symm
      · obtain ⟨rfl, hcur, hbel⟩ := goes_off hg
        rw [run_stop hg] at hrun
        have hBs : N1.Bs = [] := List.length_eq_zero_iff.mp (by rw [hl, hbel]; rfl)
        have hfr := hR1.r.fr
        rw [hBs] at hfr
        obtain ⟨hp1, hp2, hp3, hp4, hp5, hp6⟩ := hB1.small
        refine sw_one ?_
        refine s1_ret ?_
        refine ew_methSl0 mcE I_Frame.sc hr ?_
        refine ew_ix ?_
        refine ew_fld ?_
        refine ew_var 0 ?_
        refine hR1.r.fframes rc ?_
        refine ew_int ?_
        refine ix_own (s := .own N1.A.f) hfr rfl ?_
        refine ⟨⟨_, _, hR1.r.top.f⟩, CF, N1.A, s1.top, rfl, hR.hF, hR1.r.top, hB1.wf.2.1, Nat.le_trans hp4 (by decide), hB1.wf.1, hp5, hp4, fun O3 hb => ?_⟩
        obtain ⟨m1, m4, m5⟩ := hR1.r.parts
        refine h s1 hrun.symm hB1 O3 N1.dx N1.pf N1.pu (fun p c e => hb p c (fun q => by rw [hR1.r.new _ (Nm.mA q)] at e; cases e) (hR1.r.sub p c e)) ?_
        rw [← eN]
        exact hb _ _ (fun q => (m4 _ (List.mem_append.mpr (.inr q))).1 rfl) hR1.r.rd
end
/-! the atoms of a condition, in the order of the text; an outer one ahead of those within it -/
mutual
def atomsC : Cn → List Cn
  | .aw ws => [.aw ws]
  | .hd w c => if w = "not" then atomsC c else .hd w c :: atomsC c
  | .jn _ cs => atomsCs cs
def atomsCs : List Cn → List Cn
  | [] => []
  | c :: cs => atomsC c ++ atomsCs cs
end
theorem atomsCs_flat : ∀ cs : List Cn, atomsCs cs = cs.flatMap atomsC
  | [] => by rw [atomsCs]; rfl
  | c :: cs => by rw [atomsCs, atomsCs_flat cs]; rfl
mutual
def hgt : Cn → Nat
  | .aw _ => 1
  | .hd _ c => 1 + hgt c
  | .jn _ cs => 1 + hgts cs
def hgts : List Cn → Nat
  | [] => 0
  | c :: cs => max (hgt c) (hgts cs)
end
theorem hgt_pos : ∀ c : Cn, 1 ≤ hgt c
  | .aw _ => by rw [hgt]; exact Nat.le_refl 1
  | .hd _ c => by rw [hgt]; omega
  | .jn _ cs => by rw [hgt]; omega
theorem hgts_mem : ∀ {cs : List Cn} {c : Cn}, c ∈ cs → hgt c ≤ hgts cs
  | d :: cs, c, h => by
    rw [hgts]
    rcases List.mem_cons.mp h with rfl | h
    · exact Nat.le_max_left _ _
    · exact Nat.le_trans (hgts_mem h) (Nat.le_max_right _ _)
theorem szs_mem : ∀ {cs : List Cn} {c : Cn}, c ∈ cs → sz c ≤ szs cs
  | d :: cs, c, h => by
    rw [szs]
    rcases List.mem_cons.mp h with rfl | h
    · omega
    · have := szs_mem h; omega
mutual
theorem atomsC_len : ∀ c : Cn, (atomsC c).length ≤ sz c
  | .aw _ => by rw [atomsC, sz]; exact Nat.le_refl 1
  | .hd w c => by
    have := atomsC_len c
    rw [atomsC, sz]
    split
    · omega
    · rw [List.length_cons]; omega
  | .jn _ cs => by
    have := atomsCs_len cs
    rw [atomsC, sz]; omega
theorem atomsCs_len : ∀ cs : List Cn, (atomsCs cs).length ≤ szs cs
  | [] => by rw [atomsCs]; exact Nat.zero_le _
  | c :: cs => by
    have := atomsC_len c
    have := atomsCs_len cs
    rw [atomsCs, szs, List.length_append]; omega
end
theorem jn_of2 {c : Cn} (hc : WF c) (h : wordC c ∈ joW) : ∃ v cs, c = .jn v cs := by
  obtain ⟨cs, e⟩ := jn_of h hc rfl
  exact ⟨_, cs, e⟩
theorem hd_of {c : Cn} (hc : WF c) (h : wordC c ∈ heW) : ∃ d, c = .hd (wordC c) d := by
  have k1 : ∀ v ∈ atW, v ∉ heW := by decide +kernel
  have k2 : ∀ v ∈ joW, v ∉ heW := by decide +kernel
  cases c with
  | aw ws =>
    rw [WF] at hc
    rcases hc with ⟨v, k, rfl, hv, _⟩ | rfl
    · exact (k1 v hv h).elim
    · exact (k1 "root" (by decide +kernel) h).elim
  | hd v d => exact ⟨d, rfl⟩
  | jn v cs => rw [WF] at hc; exact (k2 v hc.1 h).elim
theorem hd_of2 {c : Cn} (hc : WF c) (h : wordC c ∈ heW) : ∃ v d, c = .hd v d := by
  obtain ⟨d, e⟩ := hd_of hc h
  exact ⟨_, d, e⟩
theorem aw_of {c : Cn} (hc : WF c) (h1 : wordC c ∉ joW) (h2 : wordC c ∉ heW) : ∃ ws, c = .aw ws := by
  cases c with
  | aw ws => exact ⟨ws, rfl⟩
  | hd v d => rw [WF] at hc; exact (h2 hc.1).elim
  | jn v cs => rw [WF] at hc; exact (h1 hc.1).elim
def AtomsS (n : Nat) : SpecT := fun ss O R => ∃ c : Cn, ss = [.dat (cD c)] ∧ WF c ∧ hgt c ≤ n ∧ sz c ≤ 1000000 ∧ R (.ret (.dat (.lst ((atomsC c).map cD)))) O
theorem zero_atoms_of {ss : List Slot} {O : Own} {R : Out → Own → Prop} (h : AtomsS 0 ss O R) : False := by
  obtain ⟨c, _, _, h0, _⟩ := h
  have := hgt_pos c
  omega
section
variable {P : Program} {w : World} {K : PySem.W.Frag} {mg : Str → Option Value} {base : Heap}
theorem fn_atoms_of (T : TopOf K mg) (Z : Facts K) : ∀ (n : Nat) {f : Addr} {fd : FuncData} (F : L2.Fun K "atoms_of" "atoms_of" s_atoms_of f fd), Fn P w K mg base false (n + 1) f fd ["condition"] (AtomsS n)
  | 0, f, fd, F => by
    refine fn_mk F sc_atoms_of (fun ss O R h => by first | (obtain ⟨_, rfl, _⟩ := h; rfl) | (obtain ⟨_, _, rfl, _⟩ := h; rfl) | (obtain ⟨_, _, _, rfl, _⟩ := h; rfl) | (obtain ⟨_, _, _, _, rfl, _⟩ := h; rfl)) fun cdv A outer s H E ss O R hr hpo h => ?_
    exact (zero_atoms_of h).elim
  | n + 1, f, fd, F => by
    have cr : Cal P w K mg base false (n + 1) "atoms_of" (AtomsS n) [] := cal_of T Z.d_atoms_of (by walk_at "b1") fun f fd F => fn_atoms_of T Z n F
    have sc := sc_atoms_of
    refine fn_mk F sc_atoms_of (fun ss O R h => by first | (obtain ⟨_, rfl, _⟩ := h; rfl) | (obtain ⟨_, _, rfl, _⟩ := h; rfl) | (obtain ⟨_, _, _, rfl, _⟩ := h; rfl) | (obtain ⟨_, _, _, _, rfl, _⟩ := h; rfl)) fun cdv A outer s H E ss O R hr hpo h => ?_
    obtain ⟨c, rfl, hw, hn, hz, h⟩ := h
    -- 0:condition 1:piece 2:atom
    refine sw_one ?_
    refine s1_match ?_
    refine ew_ix ?_
    refine ew_var 0 ?_
    refine ew_int ?_
    refine ix_word hw ?_
    refine ⟨wordC c, rfl, ?_⟩
    refine mw_or (ys := ["and", "or"]) (by repeat constructor) (fun ht => ?_) fun ht => ?_
    · have hwj : wordC c ∈ joW := ht
      obtain ⟨v, cs, rfl⟩ := jn_of2 hw hwj
      refine sw_one ?_
      refine s1_ret ?_
      refine ew_frz ?_
      rw [WF] at hw
      have hcs := WFs_all.mp hw.2
      rw [hgt] at hn
      rw [sz] at hz
      rw [atomsC] at h
      refine ew_lc2 (T := fun d ρ ρ' => ρ' = ρ.set 1 (.dat d)) (T1 := fun d ρ ρ' => ρ' = ρ.set 2 (.dat d)) [("piece", 1), ("atom", 2)] [2] sc.nd (.name (i := 1) (by decide) fun Y ⟨_, _, _, _, _, e⟩ => by subst e; exact pg_name (i := 1) sc.nd rfl (.inl rfl) (.inr rfl)) (.name (i := 2) (by decide) fun Y ⟨_, _, _, _, _, e⟩ => by subst e; exact pg_name (i := 2) sc.nd rfl (.inl rfl) (.inr rfl)) (blkOk_by (N := N_atoms_of) (sc := defScope s_atoms_of) (by decide +kernel)) (by decide) ?_
      refine iw_tup ?_
      refine ew_ix ?_
      refine ew_var 0 ?_
      refine ew_int ?_
      rw [cD]
      refine ix_tpl (d := .tup (cDs cs)) rfl ?_
      have hlen := atomsCs_len cs
      refine ⟨_, rfl, Cn, cs, cD, fun d => (atomsC d).map cD, cDs_map cs, ?_, fun d hd => ⟨_, rfl, fun Dd acc hDd Y hY => ?_⟩, fun p hp => ?_⟩
      · rw [← List.map_flatMap, List.length_map, ← atomsCs_flat]
        exact Nat.lt_of_le_of_lt (Nat.le_trans hlen (show szs cs ≤ 1000000 by omega)) (by decide)
      · obtain ⟨_, _, _, _, _, rfl⟩ := hY
        refine iw_list ?_
        refine ew_call cr hr ?_ (hj := by omega)
        refine aw_cons ?_
        refine ew_var 1 ?_
        refine aw_nil ?_
        refine ⟨d, rfl, hcs d hd, Nat.le_trans (hgts_mem hd) (by omega), Nat.le_trans (szs_mem hd) (by omega), ?_⟩
        refine ⟨_, rfl, rfl, id, by rw [List.map_id], fun e he => ⟨_, rfl, fun acc' Z' hZ => ?_⟩⟩
        obtain ⟨_, _, _, _, _, rfl⟩ := hZ
        refine ew_var 2 ?_
        exact ⟨rfl, rfl⟩
      · refine ⟨p, _, rfl, up_at, ?_⟩
        rw [dn_up hp, ← List.map_flatMap, ← atomsCs_flat]
        exact h
    · have hnj : wordC c ∉ joW := ht
      refine mw_val (fun ht => ?_) fun ht => ?_
      · obtain ⟨v, d, rfl⟩ := hd_of2 hw (by rw [ht]; decide +kernel)
        obtain rfl : v = "not" := ht
        rw [WF] at hw
        rw [hgt] at hn
        rw [sz] at hz
        rw [atomsC, if_pos rfl] at h
        refine sw_one ?_
        refine s1_ret ?_
        refine ew_call cr hr ?_ (hj := by omega)
        refine aw_cons ?_
        refine ew_ix ?_
        refine ew_var 0 ?_
        refine ew_int ?_
        
        rw [cD]
        refine ix_tpl (d := cD d) rfl ?_
        refine aw_nil ?_
        refine ⟨d, rfl, hw.2, by omega, by omega, ?_⟩
        exact h
      · have hnn := ht
        refine mw_or (ys := ["parent", "above"]) (by repeat constructor) (fun ht => ?_) fun ht => ?_
        · obtain ⟨v, d, rfl⟩ := hd_of2 hw (by
            have : ∀ v ∈ (["parent", "above"] : List Str), v ∈ heW := by decide +kernel
            exact this _ ht)
          rw [WF] at hw
          rw [hgt] at hn
          rw [sz] at hz
          rw [atomsC, if_neg (show ¬ v = "not" from hnn)] at h
          have hlen := atomsC_len d
          refine sw_one ?_
          refine s1_ret ?_
          refine ew_lstD ?_
          refine aw_cons ?_
          refine ew_var 0 ?_
          refine aw_starL ?_
          refine ew_call cr hr ?_ (hj := by omega)
          refine aw_cons ?_
          refine ew_ix ?_
          refine ew_var 0 ?_
          refine ew_int ?_
          
          have ed : cD (.hd v d) = .tup [.str v, cD d] := by rw [cD]
          rw [ed]
          refine ix_tpl (d := cD d) rfl ?_
          refine aw_nil ?_
          refine ⟨d, rfl, hw.2, by omega, by omega, ?_⟩
          refine ⟨_, rfl, ?_⟩
          refine aw_nil ?_
          refine ⟨cD (.hd v d) :: (atomsC d).map cD, by rw [← ed, List.append_nil]; rfl, ?_, ?_⟩
          · rw [List.length_cons, List.length_map]
            exact Nat.le_trans (Nat.succ_le_succ (Nat.le_trans hlen (show sz d ≤ 1000000 by omega))) (by decide)
          exact h
        · have hno := ht
          refine mw_any ?_
          refine sw_one ?_
          refine s1_ret ?_
          refine ew_lstD ?_
          refine aw_cons ?_
          refine ew_var 0 ?_
          refine aw_nil ?_
          refine ⟨[cD c], rfl, Nat.le_of_ble_eq_true rfl, ?_⟩
          have hnh : wordC c ∉ heW := fun q => by
            have : ∀ v ∈ heW, v = "not" ∨ v ∈ (["parent", "above"] : List Str) := by decide +kernel
            rcases this _ q with e | e
            · exact hnn e
            · exact hno e
          obtain ⟨ws, rfl⟩ := aw_of hw hnj hnh
          rw [atomsC] at h
          exact h
theorem c_atoms_of (T : TopOf K mg) (Z : Facts K) (n : Nat) : Cal P w K mg base false (n + 1) "atoms_of" (AtomsS n) [] := cal_of T Z.d_atoms_of (by walk_at "b1") fun f fd F => fn_atoms_of T Z n F
end
/-- the exception for too many of something -/
def manyX (K : PySem.W.Frag) (R : Out → Own → Prop) (z : Str) (O : Own) : Prop := ∀ C', clsAt K "TooMany" C' → R (.exc (.own C' [("word", .str z)])) O
theorem flatD_str {z : Str} : flatD (.str z) := ⟨(show "str" ≠ "" by decide), rfl, rfl⟩
def SizeS (K : PySem.W.Frag) : SpecT := fun ss O R => ∃ (a d : Int), ss = [.dat (.int a), .dat (.int d)] ∧ (a ≤ 8 → d ≤ 6 → R (.ret (.dat .non)) O) ∧ (8 < a → manyX K R "atoms" O) ∧ (a ≤ 8 → 6 < d → manyX K R "deep" O)
section
variable {P : Program} {w : World} {K : PySem.W.Frag} {mg : Str → Option Value} {base : Heap}
theorem fn_look_at_size (T : TopOf K mg) (Z : Facts K) {f : Addr} {fd : FuncData} (F : L2.Fun K "look_at_size" "look_at_size" s_look_at_size f fd) : Fn P w K mg base false (4) f fd ["atoms", "deep"] (SizeS K) := by
  have sc := sc_look_at_size
  refine fn_mk F sc_look_at_size (fun ss O R h => by first | (obtain ⟨_, rfl, _⟩ := h; rfl) | (obtain ⟨_, _, rfl, _⟩ := h; rfl) | (obtain ⟨_, _, _, rfl, _⟩ := h; rfl) | (obtain ⟨_, _, _, _, rfl, _⟩ := h; rfl) | (obtain ⟨_, _, _, _, _, rfl, _⟩ := h; rfl) | (obtain ⟨_, _, _, _, _, _, rfl, _⟩ := h; rfl) | (obtain ⟨_, _, _, _, _, _, _, rfl, _⟩ := h; rfl)) fun cdv A outer s H E ss O R hr hpo h => ?_
  obtain ⟨a, d, rfl, h, h1, h2⟩ := h
  obtain ⟨CT, BT, X_TooMany, nfT⟩ := Z.x_TooMany
  have xcT : ExCls P w K mg base 2 "TooMany" CT (Ini1 flatD CT "word") := xc_of T X_TooMany (by walk_at "b2") fun f fd F => fn_TooMany T Z X_TooMany nfT F
  -- 0:atoms 1:deep
  refine sw_cons ?_
  refine s1_if ?_
  refine tw_cmp ?_
  refine ew_var 0 ?_
  refine ew_glob (Z.g_MOST_ATOMS.glob T) ?_
  walk_at "cmp Gt"
  refine ⟨_, rfl, fun ht => ?_, fun ht => ?_⟩
  · refine sw_one ?_
    refine s1_raise xcT hr ?_
    refine aw_cons ?_
    refine ew_str ?_
    refine aw_nil ?_
    exact raised1 flatD_str (h1 (of_decide_eq_true ht) CT X_TooMany.a.at_)
  · have ha : a ≤ 8 := by have := of_decide_eq_false ht; omega
    refine sw_nil ?_
    refine sw_one ?_
    refine s1_if ?_
    refine tw_cmp ?_
    refine ew_var 1 ?_
    refine ew_glob (Z.g_MOST_DEEP.glob T) ?_
    walk_at "cmp Gt"
    refine ⟨_, rfl, fun ht => ?_, fun ht => ?_⟩
    · refine sw_one ?_
      refine s1_raise xcT hr ?_
      refine aw_cons ?_
      refine ew_str ?_
      refine aw_nil ?_
      exact raised1 flatD_str (h2 ha (of_decide_eq_true ht) CT X_TooMany.a.at_)
    · refine sw_nil ?_
      exact h ha (by have := of_decide_eq_false ht; omega)
theorem c_look_at_size (T : TopOf K mg) (Z : Facts K) : Cal P w K mg base false (4) "look_at_size" (SizeS K) [] := cal_of T Z.d_look_at_size (by walk_at "b2") fun f fd F => fn_look_at_size T Z F
end
/-! conditions as data that can be compared -/
theorem caps_small : ∀ c ∈ sgs capsL, c < 0x110000 := by decide +kernel
theorem sml_made {z : Str} {m : Nat} (h : madeOf z capsL m = true) : sml z := fun c hc => by
  unfold madeOf at h
  simp only [Bool.and_eq_true, List.all_eq_true, decide_eq_true_eq] at h
  exact caps_small c (h.2.2 c hc)
theorem w_small : (["is", "root", "earlier", "later", "not", "parent", "above", "and", "or"] : List Str).all smlB = true := by decide +kernel
theorem w_at {w : Str} (h : w ∈ atW ∨ w ∈ heW ∨ w ∈ joW) : smlB w = true := by
  have key := List.all_eq_true.mp w_small
  rcases h with h | h | h
  · have : ∀ v ∈ atW, v ∈ (["is", "root", "earlier", "later", "not", "parent", "above", "and", "or"] : List Str) := by decide +kernel
    exact key w (this w h)
  · have : ∀ v ∈ heW, v ∈ (["is", "root", "earlier", "later", "not", "parent", "above", "and", "or"] : List Str) := by decide +kernel
    exact key w (this w h)
  · have : ∀ v ∈ joW, v ∈ (["is", "root", "earlier", "later", "not", "parent", "above", "and", "or"] : List Str) := by decide +kernel
    exact key w (this w h)
theorem fine_tup (ds : List Dat) : fine (.tup ds) = fines ds := rfl
theorem fines_cons (d : Dat) (ds : List Dat) : fines (d :: ds) = (fine d && fines ds) := rfl
theorem fine_str (z : Str) : fine (.str z) = smlB z := rfl
mutual
theorem fine_cD : ∀ {c : Cn}, WF c → fine (cD c) = true
  | .aw ws, h => by
    rw [WF] at h
    rw [cD, fine_tup]
    rcases h with ⟨w, k, rfl, hw, hk⟩ | rfl
    · show (smlB w && (smlB k && true)) = true
      rw [w_at (.inl hw), sml_b (sml_made hk)]; rfl
    · decide +kernel
  | .hd w c, h => by
    rw [WF] at h
    have := fine_cD h.2
    rw [cD, fine_tup, fines_cons, fines_cons, this, fine_str, w_at (.inr (.inl h.1))]; rfl
  | .jn w cs, h => by
    rw [WF] at h
    have := fines_cD h.2
    rw [cD, fine_tup, fines_cons, fines_cons, fine_tup, this, fine_str, w_at (.inr (.inr h.1))]; rfl
theorem fines_cD : ∀ {cs : List Cn}, WFs cs → fines (cDs cs) = true
  | [], _ => by rw [cDs]; rfl
  | c :: cs, h => by
    rw [WFs] at h
    rw [cDs, fines_cons, fine_cD h.1, fines_cD h.2]; rfl
end
theorem deps_cons (d : Dat) (ds : List Dat) : deps (d :: ds) = max (dep d) (deps ds) := rfl
theorem deps_nil : deps [] = 0 := rfl
theorem dep_str (z : Str) : dep (.str z) = 0 := rfl
mutual
theorem dep_cD : ∀ c : Cn, dep (cD c) ≤ 2 * hgt c
  | .aw ws => by
    have : deps (ws.map Dat.str) ≤ 0 := deps_map fun w _ => Nat.le_refl 0
    rw [cD, dep_tup, hgt]; omega
  | .hd w c => by
    have := dep_cD c
    rw [cD, dep_tup, deps_cons, deps_cons, deps_nil, dep_str, hgt]; omega
  | .jn w cs => by
    have := deps_cD cs
    rw [cD, dep_tup, deps_cons, deps_cons, deps_nil, dep_str, dep_tup, hgt]; omega
theorem deps_cD : ∀ cs : List Cn, deps (cDs cs) ≤ 2 * hgts cs
  | [] => by rw [cDs, deps_nil]; exact Nat.zero_le _
  | c :: cs => by
    have := dep_cD c
    have := deps_cD cs
    rw [cDs, deps_cons, hgts]; omega
end
section
variable {X : Cx} {O : Own} {ρ : List Slot} {x : ExK} {kl : List Slot → Own → Prop} {k : Slot → Own → Prop} {pos : Pos}
def unstar1 : Expr → Expr
  | .Starred e _ => e
  | e => e
theorem gw_starU {tgs : List Expr} {kk : Nat} {d : Dat} {ds : List Dat} (h : GsW X O ρ (tgs.map unstar1) [.dat d, .dat (.lst ds)] x kl) (hz : ds.length ≤ 16000) (hc : X.calm = true := by rfl) (hn : (assignEach tgs X.env).length = 2 := by rfl)
    (hst : (assignEach tgs X.env).findIdx? (·.1) = some 1 := by rfl) (hm : (assignEach tgs X.env).map (·.2) = (assignEach (tgs.map unstar1) X.env).map (·.2) := by rfl) : GW X O ρ (.Tuple tgs kk pos) (.dat (.tup (d :: ds))) x kl := gw_star1 h hz hc hn hst hm
theorem ob_niA {s1 s2 : Slot} {d : Dat} {ds : List Dat} (hr : Room 0 X.A) (a1 : asD O s1 d) (a2 : asD O s2 (.lst ds)) (p1 : plain (.lst ds) = true) (p2 : plain d = true) (h1 : SeqAt.shaped (toPy (.lst ds)) = true) (h2 : SeqAt.shaped (toPy d) = true) (h : k (.dat (.bl (!((toPys ds).any fun z => PyData.eqv z (toPy d))))) O) :
    OpB X (compareOp .NotIn) s1 s2 O k := ⟨_, op_notInD (by have := hr.un; omega), fun H0 σ ρ H v1 v2 st r1 r2 Q q => ⟨toPy d, toPys ds, Rp.dp p2 (asD_rp a1 st r1), Rp.dp p1 (asD_rp a2 st r2), h2, h1, q _ H _ O h st (.bl _)⟩⟩
end
def inC (acc : List Cn) (d : Cn) : Bool := (toPys (acc.map cD)).any fun z => PyData.eqv z (toPy (cD d))
def outStep (acc : List Cn) (a : Cn) : List Cn := match a with
  | .hd _ d => if inC acc d = true then acc else acc ++ [d]
  | _ => acc
def outC (c : Cn) : List Cn := (atomsC c).foldl outStep []
/-- one of the atoms of a condition -/
def AtOk (n : Nat) (a : Cn) : Prop := WF a ∧ hgt a ≤ n ∧ ((∃ ws, a = .aw ws) ∨ ∃ w d, a = .hd w d ∧ w ≠ "not")
theorem AtOk.up {m n : Nat} {a : Cn} (h : AtOk m a) (e : m ≤ n) : AtOk n a := ⟨h.1, Nat.le_trans h.2.1 e, h.2.2⟩
mutual
theorem atomsC_ok : ∀ {c : Cn}, WF c → ∀ a ∈ atomsC c, AtOk (hgt c) a
  | .aw ws, h, a, ha => by
    rw [atomsC] at ha
    rw [List.mem_singleton.mp ha]
    exact ⟨h, Nat.le_refl _, .inl ⟨ws, rfl⟩⟩
  | .hd w c, h, a, ha => by
    have h0 := h
    rw [WF] at h
    have hh : hgt c ≤ hgt (.hd w c) := by rw [hgt]; omega
    rw [atomsC] at ha
    split at ha
    · exact (atomsC_ok h.2 a ha).up hh
    · rename_i hw
      rcases List.mem_cons.mp ha with rfl | ha
      · exact ⟨h0, Nat.le_refl _, .inr ⟨w, c, rfl, hw⟩⟩
      · exact (atomsC_ok h.2 a ha).up hh
  | .jn w cs, h, a, ha => by
    rw [WF] at h
    rw [atomsC] at ha
    exact (atomsCs_ok h.2 a ha).up (by rw [hgt]; omega)
theorem atomsCs_ok : ∀ {cs : List Cn}, WFs cs → ∀ a ∈ atomsCs cs, AtOk (hgts cs) a
  | [], _, a, ha => by rw [atomsCs] at ha; cases ha
  | c :: cs, h, a, ha => by
    rw [WFs] at h
    rw [atomsCs] at ha
    rcases List.mem_append.mp ha with q | q
    · exact (atomsC_ok h.1 a q).up (by rw [hgts]; exact Nat.le_max_left _ _)
    · exact (atomsCs_ok h.2 a q).up (by rw [hgts]; exact Nat.le_max_right _ _)
end
/-- the outer conditions gathered so far -/
theorem out_ok {n : Nat} : ∀ {l : List Cn} {acc : List Cn}, (∀ a ∈ l, AtOk n a) → (∀ d ∈ acc, WF d ∧ hgt d ≤ n) → (∀ d ∈ l.foldl outStep acc, WF d ∧ hgt d ≤ n) ∧ (l.foldl outStep acc).length ≤ acc.length + l.length
  | [], acc, _, h => ⟨h, Nat.le_refl _⟩
  | a :: l, acc, hl, h => by
    have ha := hl a (by simp)
    have key : (∀ d ∈ outStep acc a, WF d ∧ hgt d ≤ n) ∧ (outStep acc a).length ≤ acc.length + 1 := by
      rcases ha.2.2 with ⟨ws, rfl⟩ | ⟨w, d, rfl, _⟩
      · exact ⟨h, Nat.le_succ _⟩
      · have hw := ha.1
        rw [WF] at hw
        have hh := ha.2.1
        rw [hgt] at hh
        show (∀ e ∈ (if inC acc d = true then acc else acc ++ [d]), _) ∧ (if inC acc d = true then acc else acc ++ [d]).length ≤ _
        split
        · exact ⟨h, Nat.le_succ _⟩
        · refine ⟨fun e he => ?_, by rw [List.length_append]; exact Nat.le_refl _⟩
          rcases List.mem_append.mp he with q | q
          · exact h e q
          · rw [List.mem_singleton.mp q]; exact ⟨hw.2, by omega⟩
    obtain ⟨h1, h2⟩ := out_ok (l := l) (acc := outStep acc a) (fun b hb => hl b (List.mem_cons_of_mem _ hb)) key.1
    refine ⟨h1, Nat.le_trans h2 ?_⟩
    have := key.2
    rw [List.length_cons]; omega
def OutS : SpecT := fun ss O R => ∃ c : Cn, ss = [.dat (cD c)] ∧ WF c ∧ hgt c ≤ 25 ∧ sz c ≤ 1000000 ∧ R (.ret (.dat (.tup ((outC c).map cD)))) O
/-- what stands behind the word of an atom -/
def restD : Cn → List Dat
  | .aw ws => (ws.drop 1).map .str
  | .hd _ c => [cD c]
  | .jn _ cs => [.tup (cDs cs)]
theorem cD_word {a : Cn} (h : WF a) : cD a = .tup (.str (wordC a) :: restD a) := by
  cases a with
  | aw ws =>
    rw [WF] at h
    rw [cD]
    rcases h with ⟨w, k, rfl, _⟩ | rfl
    · rfl
    · rfl
  | hd w c => rw [cD]; rfl
  | jn w cs => rw [cD]; rfl
theorem rest_len {a : Cn} (h : WF a) : (restD a).length ≤ 16000 := by
  cases a with
  | aw ws =>
    rw [WF] at h
    rcases h with ⟨w, k, rfl, _⟩ | rfl
    · exact Nat.le_of_ble_eq_true rfl
    · exact Nat.le_of_ble_eq_true rfl
  | hd w c => exact Nat.le_of_ble_eq_true rfl
  | jn w cs => exact Nat.le_of_ble_eq_true rfl
theorem foldl_take {α β : Type} (f : β → α → β) (b : β) (l : List α) (i : Nat) (a : α) (h : l[i]? = some a) : (l.take (i + 1)).foldl f b = f ((l.take i).foldl f b) a := by
  rw [List.take_add_one, h, List.foldl_append]; rfl
theorem shaped_cs {n : Nat} {cs : List Cn} (h : ∀ d ∈ cs, WF d ∧ hgt d ≤ n) (hn : n ≤ 25) : fine (.lst (cs.map cD)) = true ∧ dep (.lst (cs.map cD)) ≤ 64 := by
  refine ⟨fines_map fun d hd => fine_cD (h d hd).1, ?_⟩
  have := deps_map (f := cD) (l := cs) (b := 50) fun d hd => Nat.le_trans (dep_cD d) (by have := (h d hd).2; omega)
  rw [dep_lst]; omega
section
variable {P : Program} {w : World} {K : PySem.W.Frag} {mg : Str → Option Value} {base : Heap}
theorem fn_outers_of (T : TopOf K mg) (Z : Facts K) {f : Addr} {fd : FuncData} (F : L2.Fun K "outers_of" "outers_of" s_outers_of f fd) : Fn P w K mg base false (27) f fd ["condition"] (OutS) := by
  have sc := sc_outers_of
  refine fn_mk F sc_outers_of (fun ss O R h => by first | (obtain ⟨_, rfl, _⟩ := h; rfl) | (obtain ⟨_, _, rfl, _⟩ := h; rfl) | (obtain ⟨_, _, _, rfl, _⟩ := h; rfl) | (obtain ⟨_, _, _, _, rfl, _⟩ := h; rfl) | (obtain ⟨_, _, _, _, _, rfl, _⟩ := h; rfl) | (obtain ⟨_, _, _, _, _, _, rfl, _⟩ := h; rfl) | (obtain ⟨_, _, _, _, _, _, _, rfl, _⟩ := h; rfl)) fun cdv A outer s H E ss O R hr hpo h => ?_
  obtain ⟨c, rfl, hw, hg, hz, h⟩ := h
  refine sw_drop ?_
  have hat := fun a ha => (atomsC_ok hw a ha).up hg
  have hlen := atomsC_len c
  -- 0:condition 1:found 2:word 3:rest
  refine sw_cons ?_
  refine s1_set 1 ?_ sc.nd
  refine ew_lst ?_
  refine aw_nil ?_
  refine ⟨by decide, fun p hp => ?_⟩
  refine sw_cons ?_
  refine s1_for hpo ?_
  refine iw_list ?_
  refine ew_call (c_atoms_of T Z 25) hr ?_
  refine aw_cons ?_
  refine ew_var 0 ?_
  refine aw_nil ?_
  refine ⟨c, rfl, hw, hg, hz, ?_⟩
  refine ⟨_, rfl, ?_⟩
  refine ⟨fun i ρ' O' => ∃ s2 s3, ρ' = [.dat (cD c), .own p, s2, s3] ∧ O' = up O p (.lst ((((atomsC c).take i).foldl outStep []).map dC)), ?_, ?_, ?_⟩
  · exact ⟨_, _, rfl, rfl⟩
  · intro i d ρ2 O2 hj hd
    obtain ⟨s2, s3, rfl, rfl⟩ := hj
    rw [List.getElem?_map] at hd
    obtain ⟨a, ha, rfl⟩ : ∃ a, (atomsC c)[i]? = some a ∧ cD a = d := by
      cases e : (atomsC c)[i]? with
      | none => rw [e] at hd; cases hd
      | some a => rw [e] at hd; exact ⟨a, rfl, Option.some.inj hd⟩
    have hao := hat a (List.mem_of_getElem? ha)
    have hft := foldl_take outStep [] (atomsC c) i a ha
    obtain ⟨hacc, hal⟩ := out_ok (n := 25) (l := (atomsC c).take i) (acc := []) (fun b hb => hat b (List.mem_of_mem_take hb)) (fun d hd => nomatch hd)
    generalize ((atomsC c).take i).foldl outStep [] = acc at hft hacc hal
    have hstar := rest_len hao.1
    rw [cD_word hao.1]
    refine gw_starU ?_ hstar
    refine gsw_cons ?_
    refine gw_name 2 ?_ sc.nd
    refine gsw_cons ?_
    refine gw_name 3 ?_ sc.nd
    refine gsw_nil ?_
    refine sw_one ?_
    refine s1_if ?_
    refine tw_w ?_
    refine tww_and ?_
    refine tw_cmp ?_
    refine ew_var 2 ?_
    refine ew_glob (Z.g_OUTER_WORDS.glob T) ?_
    refine ob_inT (ws := k_OUTER_WORDS) ?_
    refine ⟨_, rfl, fun ht => ?_, fun ht => ?_⟩
    · obtain ⟨v, d, rfl, hv⟩ : ∃ v d, a = .hd v d ∧ v ≠ "not" := by
        rcases hao.2.2 with ⟨ws, rfl⟩ | q
        · exfalso
          have h1 := hao.1
          rw [WF] at h1
          have k1 : ∀ v ∈ atW, (k_OUTER_WORDS.any (· == v)) = false := by decide +kernel
          have k2 : wordC (.aw ws) ∈ atW := by
            rcases h1 with ⟨v, k, rfl, hv, _⟩ | rfl
            · exact hv
            · decide +kernel
          rw [k1 _ k2] at ht; cases ht
        · exact q
      have hd1 := hao.1
      rw [WF] at hd1
      have hd2 := hao.2.1
      rw [hgt] at hd2
      obtain ⟨f1, f2⟩ := shaped_cs hacc (Nat.le_refl 25)
      have g1 := fine_cD hd1.2
      have g2 : dep (cD d) ≤ 64 := Nat.le_trans (dep_cD d) (by omega)
      refine tww_and1 ?_
      refine tw_cmp ?_
      refine ew_ix ?_
      refine ew_var 3 ?_
      refine ew_int ?_
      refine ix_lst (d := cD d) rfl ?_
      refine ew_var 1 ?_
      refine ob_niA (hr.r.mono (by decide)) (.dat _) (.own (ds := acc.map cD) (by rw [List.map_map]; exact up_at)) (fine_all _ f1).1 (fine_all _ g1).1 (shape_of f1 f2) (shape_of g1 g2) ?_
      refine ⟨_, rfl, fun ht => ?_, fun ht => ?_⟩
      · have hni : inC acc d = false := by simpa [inC] using ht
        refine sw_one ?_
        refine s1_expr ?_
        refine ew_append ?_
        refine ew_var 1 ?_
        refine ⟨?_, ?_⟩
        · walk_at "ty"
        refine ew_ix ?_
        refine ew_var 3 ?_
        refine ew_int ?_
        refine ix_lst (d := cD d) rfl ?_
        
        refine mb_append up_at ?_ ?_
        · rw [List.length_map]
          rw [List.length_take] at hal
          exact Nat.lt_of_le_of_lt (show acc.length ≤ 1000000 by simp at hal; omega) (by decide)
        refine ⟨_, _, rfl, ?_⟩
        rw [up_up, hft]
        show _ = up O p (.lst ((if inC acc d = true then acc else acc ++ [d]).map dC))
        rw [if_neg (by rw [hni]; simp), List.map_append]; rfl
      · have hni : inC acc d = true := by simpa [inC] using ht
        refine sw_nil ?_
        refine ⟨_, _, rfl, ?_⟩
        rw [hft]
        show _ = up O p (.lst ((if inC acc d = true then acc else acc ++ [d]).map dC))
        rw [if_pos hni]
    · refine ⟨fun hb => ?_, fun hb => ?_⟩
      · exact absurd hb (by decide)
      · refine sw_nil ?_
        refine ⟨_, _, rfl, ?_⟩
        rw [hft]
        rcases hao.2.2 with ⟨ws, rfl⟩ | ⟨v, d, rfl, hv⟩
        · rfl
        · exfalso
          have h1 := hao.1
          rw [WF] at h1
          have k1 : ∀ v ∈ heW, v = "not" ∨ (k_OUTER_WORDS.any (· == v)) = true := by decide +kernel
          rcases k1 v h1.1 with e | e
          · exact hv e
          · rw [show wordC (.hd v d) = v from rfl, e] at ht; cases ht
  · intro ρ2 O2 hj
    obtain ⟨s2, s3, rfl, rfl⟩ := hj
    rw [List.length_map, List.take_length]
    refine sw_frz 1 (ds := (outC c).map cD) (by rw [List.map_map]; exact up_at) ?_
    refine sw_one ?_
    refine s1_ret ?_
    refine ew_callTy (T.no Z.n_tuple) bt_tuple ?_
    refine aw_cons ?_
    refine ew_var 1 ?_
    refine aw_nil ?_
    walk_at "cb tuple"
    rw [dn_up hp]
    exact ⟨O, .refl, h⟩
theorem c_outers_of (T : TopOf K mg) (Z : Facts K) : Cal P w K mg base false (27) "outers_of" (OutS) [] := cal_of T Z.d_outers_of (by walk_at "b1") fun f fd F => fn_outers_of T Z F
end
/-- a question -/
def fsQ (c : Cn) : List (Str × Dat) := [("tree", cD c), ("outers", .tup ((outC c).map cD))]
def insQ (C : Addr) (c : Cn) : Dat := .ins C (fsQ c)
def QInitS (K : PySem.W.Frag) : SpecT := fun ss O R => ∃ (r C dx : Addr) (c : Cn), ss = [.own r, .dat (cD c)] ∧ clsAt K "Question" C ∧ O r = some (.ins C dx []) ∧ WF c ∧ hgt c ≤ 25 ∧ sz c ≤ 1000000 ∧
  R (.ret (.dat .non)) (up O r (.ins C dx ((fsQ c).map fun q => (q.1, .dat q.2))))
def SizedS (K : PySem.W.Frag) : SpecT := fun ss O R => ∃ (C : Addr) (c : Cn) (a d : Int), ss = [.dat (.cls C), .dat (cD c), .dat (.int a), .dat (.int d)] ∧ clsAt K "Question" C ∧ WF c ∧ sz c ≤ 1000000 ∧ (a ≤ 8 → d ≤ 6 → hgt c ≤ 25) ∧
  (8 < a → manyX K R "atoms" O) ∧ (a ≤ 8 → 6 < d → manyX K R "deep" O) ∧ (a ≤ 8 → d ≤ 6 → 2 < (outC c).length → manyX K R "outer" O) ∧ (a ≤ 8 → d ≤ 6 → (outC c).length ≤ 2 → R (.ret (.dat (insQ C c))) O)
section
variable {P : Program} {w : World} {K : PySem.W.Frag} {mg : Str → Option Value} {base : Heap}
theorem fn_Question_init (T : TopOf K mg) (Z : Facts K) {f : Addr} {fd : FuncData} (F : L2.Fun K "__init__" "Question.__init__" s_Question_init f fd) : Fn P w K mg base false (28) f fd ["self", "tree"] (QInitS K) := by
  have sc := sc_Question_init
  refine fn_mk F sc_Question_init (fun ss O R h => by first | (obtain ⟨_, rfl, _⟩ := h; rfl) | (obtain ⟨_, _, rfl, _⟩ := h; rfl) | (obtain ⟨_, _, _, rfl, _⟩ := h; rfl) | (obtain ⟨_, _, _, _, rfl, _⟩ := h; rfl) | (obtain ⟨_, _, _, _, _, rfl, _⟩ := h; rfl) | (obtain ⟨_, _, _, _, _, _, rfl, _⟩ := h; rfl) | (obtain ⟨_, _, _, _, _, _, _, rfl, _⟩ := h; rfl)) fun cdv A outer s H E ss O R hr hpo h => ?_
  obtain ⟨r, C, dx, c, rfl, hC, hO, hw, hg, hz, h⟩ := h
  obtain ⟨C', I_Question, mI, mRead, mSized, mMade, mStr, mEq, mAnd, mOr, mInv, n1, n2⟩ := Z.c_Question
  obtain rfl := at_inj hC I_Question.at_
  -- 0:self 1:tree
  refine sw_cons ?_
  refine s1_fld ?_
  refine ew_var 1 ?_
  refine ew_var 0 ?_
  refine ⟨r, C, dx, _, rfl, hO, I_Question.ins.cl, n1, Nat.le_of_ble_eq_true rfl, ?_⟩
  refine sw_one ?_
  refine s1_fld ?_
  refine ew_call (c_outers_of T Z) hr ?_
  refine aw_cons ?_
  refine ew_var 1 ?_
  refine aw_nil ?_
  refine ⟨c, rfl, hw, hg, hz, ?_⟩
  refine ew_var 0 ?_
  refine ⟨r, C, dx, _, rfl, up_at, I_Question.ins.cl, n2, Nat.le_of_ble_eq_true rfl, ?_⟩
  rw [up_up]
  exact h
theorem fn_Question_sized (T : TopOf K mg) (Z : Facts K) {f : Addr} {fd : FuncData} (F : L2.Fun K "sized" "Question.sized" s_Question_sized f fd) : Fn P w K mg base false (30) f fd ["cls", "tree", "atoms", "deep"] (SizedS K) := by
  have sc := sc_Question_sized
  refine fn_mk F sc_Question_sized (fun ss O R h => by first | (obtain ⟨_, rfl, _⟩ := h; rfl) | (obtain ⟨_, _, rfl, _⟩ := h; rfl) | (obtain ⟨_, _, _, rfl, _⟩ := h; rfl) | (obtain ⟨_, _, _, _, rfl, _⟩ := h; rfl) | (obtain ⟨_, _, _, _, _, rfl, _⟩ := h; rfl) | (obtain ⟨_, _, _, _, _, _, rfl, _⟩ := h; rfl) | (obtain ⟨_, _, _, _, _, _, _, rfl, _⟩ := h; rfl)) fun cdv A outer s H E ss O R hr hpo h => ?_
  obtain ⟨C, c, a, d, rfl, hC, hw, hz, hg, h1, h2, h3, h⟩ := h
  obtain ⟨C', I_Question, mI, mRead, mSized, mMade, mStr, mEq, mAnd, mOr, mInv, n1, n2⟩ := Z.c_Question
  obtain rfl := at_inj hC I_Question.at_
  obtain ⟨CT, BT, X_TooMany, nfT⟩ := Z.x_TooMany
  have xcT : ExCls P w K mg base 2 "TooMany" CT (Ini1 flatD CT "word") := xc_of T X_TooMany (by walk_at "b2") fun f fd F => fn_TooMany T Z X_TooMany nfT F
  have mk_Question : MkC P w K mg base 28 C (QInitS K) [] := mkc_of I_Question mI (by walk_at "b2") fun f fd F => fn_Question_init T Z F
  -- 0:cls 1:tree 2:atoms 3:deep 4:found
  refine sw_cons ?_
  refine s1_expr ?_
  refine ew_call (c_look_at_size T Z) hr ?_
  refine aw_cons ?_
  refine ew_var 2 ?_
  refine aw_cons ?_
  refine ew_var 3 ?_
  refine aw_nil ?_
  refine ⟨a, d, rfl, fun ha hd => ?_, fun ha => h1 ha, fun ha hd => h2 ha hd⟩
  refine sw_cons ?_
  refine s1_set 4 ?_ sc.nd
  refine ew_frzI ?_
  refine ew_make mk_Question (T.is I_Question.at_) hr ?_
  refine aw_cons ?_
  refine ew_var 1 ?_
  refine aw_nil ?_
  refine fun r dx hr0 hdx hne => ⟨r, C, dx, c, rfl, hC, up_at, hw, hg ha hd, hz, ?_⟩
  refine ⟨rfl, r, C, dx, fsQ c, rfl, up_at, ?_⟩
  rw [up_up, dn_up hr0]
  refine sw_cons ?_
  refine s1_if ?_
  refine tw_cmp ?_
  refine ew_callB (T.no Z.n_len) bt_len ?_
  refine aw_cons ?_
  refine ew_fld ?_
  refine ew_var 4 ?_
  refine ⟨.tup ((outC c).map cD), I_Question.ins.cl, n2, rfl, ?_⟩
  refine aw_nil ?_
  
  refine cb_lenT ?_
  rw [List.length_map]
  refine ew_glob (Z.g_MOST_OUTER.glob T) ?_
  walk_at "cmp Gt"
  refine ⟨_, rfl, fun ht => ?_, fun ht => ?_⟩
  · have hl : 2 < (outC c).length := by have := of_decide_eq_true ht; omega
    refine sw_one ?_
    refine s1_raise xcT hr ?_
    refine aw_cons ?_
    refine ew_str ?_
    refine aw_nil ?_
    exact raised1 flatD_str (h3 ha hd hl CT X_TooMany.a.at_)
  · have hl : (outC c).length ≤ 2 := by have := of_decide_eq_false ht; omega
    refine sw_nil ?_
    refine sw_one ?_
    refine s1_ret ?_
    refine ew_var 4 ?_
    exact h ha hd hl
end
/-! how deep the text of a condition is; how high it is -/
def isJ : Cn → Bool
  | .jn _ _ => true
  | _ => false
def isOr : Cn → Bool
  | .jn w _ => decide (w = "or")
  | _ => false
def b2n (b : Bool) : Nat := if b = true then 1 else 0
mutual
def dpt : Cn → Nat
  | .aw _ => 0
  | .hd _ c => 1 + dpt c + b2n (isJ c)
  | .jn w cs => dpts (decide (w = "and")) cs
def dpts (b : Bool) : List Cn → Nat
  | [] => 0
  | c :: cs => max (dpt c + b2n (b && isOr c)) (dpts b cs)
end
def cdp (c : Cn) : Nat := dpt c + b2n (isJ c)
mutual
def NF : Cn → Prop
  | .aw _ => True
  | .hd _ c => NF c
  | .jn w cs => NFs w cs
def NFs (w : Str) : List Cn → Prop
  | [] => True
  | c :: cs => (NF c ∧ ∀ ds, c ≠ .jn w ds) ∧ NFs w cs
end
theorem NFs_all {w : Str} : ∀ {cs : List Cn}, NFs w cs ↔ ∀ c ∈ cs, NF c ∧ ∀ ds, c ≠ .jn w ds
  | [] => by rw [NFs]; simp
  | c :: cs => by rw [NFs, NFs_all (cs := cs)]; simp
theorem dpts_mem {b : Bool} : ∀ {cs : List Cn} {c : Cn}, c ∈ cs → dpt c + b2n (b && isOr c) ≤ dpts b cs
  | d :: cs, c, h => by
    rw [dpts]
    rcases List.mem_cons.mp h with rfl | h
    · exact Nat.le_max_left _ _
    · exact Nat.le_trans (dpts_mem h) (Nat.le_max_right _ _)
theorem dpts_le {b : Bool} {n : Nat} : ∀ {cs : List Cn}, (∀ c ∈ cs, dpt c + b2n (b && isOr c) ≤ n) → dpts b cs ≤ n
  | [], _ => by rw [dpts]; exact Nat.zero_le _
  | c :: cs, h => by
    rw [dpts]
    exact Nat.max_le.mpr ⟨h c (by simp), dpts_le fun d hd => h d (List.mem_cons_of_mem _ hd)⟩
theorem hgts_le {n : Nat} : ∀ {cs : List Cn}, (∀ c ∈ cs, hgt c ≤ n) → hgts cs ≤ n
  | [], _ => by rw [hgts]; exact Nat.zero_le _
  | c :: cs, h => by
    rw [hgts]
    exact Nat.max_le.mpr ⟨h c (by simp), hgts_le fun d hd => h d (List.mem_cons_of_mem _ hd)⟩
/-- the height of a normal condition -/
def top3 : Cn → Nat
  | .jn w _ => if w = "or" then 3 else 2
  | _ => 1
theorem top3_or {ds : List Cn} : top3 (.jn "or" ds) = 3 := by
  show (if (("or" : Str) = "or") then 3 else 2) = 3
  exact if_pos rfl
theorem top3_and {ds : List Cn} : top3 (.jn "and" ds) = 2 := by
  show (if (("and" : Str) = "or") then 3 else 2) = 2
  exact if_neg (by decide +kernel)
theorem or_in_and {ds : List Cn} : b2n (decide (("and" : Str) = "and") && isOr (.jn "or" ds)) = 1 := by
  show b2n (decide (("and" : Str) = "and") && decide (("or" : Str) = "or")) = 1
  decide +kernel
theorem top3_le (c : Cn) : top3 c ≤ 1 + 2 * b2n (isJ c) := by
  cases c with
  | jn w cs =>
    show (if w = "or" then 3 else 2) ≤ 1 + 2 * 1
    split <;> omega
  | aw ws => exact Nat.le_refl 1
  | hd w c => exact Nat.le_refl 1
mutual
theorem hgt_le : ∀ {c : Cn}, WF c → NF c → hgt c ≤ 3 * dpt c + top3 c
  | .aw _, _, _ => by rw [hgt]; show 1 ≤ _ + 1; omega
  | .hd w c, h, n => by
    rw [WF] at h
    rw [NF] at n
    have h1 := hgt_le h.2 n
    have h2 := top3_le c
    have h3 : b2n (isJ c) ≤ 1 := by unfold b2n; split <;> omega
    rw [hgt, dpt]
    show _ ≤ _ + 1
    omega
  | .jn w cs, h, n => by
    rw [WF] at h
    rw [NF] at n
    have hs := hgts_bound h.2 n h.1
    rw [hgt, dpt]
    show 1 + hgts cs ≤ 3 * dpts (decide (w = "and")) cs + (if w = "or" then 3 else 2)
    exact hs
theorem hgts_bound : ∀ {w : Str} {cs : List Cn}, WFs cs → NFs w cs → w ∈ joW → 1 + hgts cs ≤ 3 * dpts (decide (w = "and")) cs + (if w = "or" then 3 else 2)
  | w, [], _, _, hw => by
    rw [hgts]
    split <;> omega
  | w, c :: cs, h, n, hw => by
    rw [WFs] at h
    rw [NFs] at n
    have h1 := hgt_le h.1 n.1.1
    have h2 := hgts_bound h.2 n.2 hw
    have hc : 1 + hgt c ≤ 3 * (dpt c + b2n (decide (w = "and") && isOr c)) + (if w = "or" then 3 else 2) := by
      rcases jo_is hw with rfl | rfl
      · rw [if_neg (show ¬ (("and" : Str) = "or") by decide +kernel)]
        cases c with
        | aw ws => have e : top3 (.aw ws) = 1 := rfl; omega
        | hd v d => have e : top3 (.hd v d) = 1 := rfl; omega
        | jn v ds =>
          have hv := h.1
          rw [WF] at hv
          rcases jo_is hv.1 with rfl | rfl
          · exact absurd rfl (n.1.2 ds)
          · have e := top3_or (ds := ds)
            rw [or_in_and]; omega
      · rw [if_pos rfl]
        cases c with
        | aw ws => have e : top3 (.aw ws) = 1 := rfl; omega
        | hd v d => have e : top3 (.hd v d) = 1 := rfl; omega
        | jn v ds =>
          have hv := h.1
          rw [WF] at hv
          rcases jo_is hv.1 with rfl | rfl
          · have e := top3_and (ds := ds)
            omega
          · exact absurd rfl (n.1.2 ds)
    rw [hgts, dpts]
    rcases Nat.le_total (hgt c) (hgts cs) with q | q
    · rw [Nat.max_eq_right q]
      have := Nat.le_max_right (dpt c + b2n (decide (w = "and") && isOr c)) (dpts (decide (w = "and")) cs)
      omega
    · rw [Nat.max_eq_left q]
      have := Nat.le_max_left (dpt c + b2n (decide (w = "and") && isOr c)) (dpts (decide (w = "and")) cs)
      omega
end
/-! what was read is as deep as the reader says, at most -/
theorem parts_ok {w : Str} {n : Nat} {c : Cn} (hn : NF c) (hd : cdp c ≤ n) : ∀ x ∈ partsOf w c, NF x ∧ (∀ ds, x ≠ .jn w ds) ∧ dpt x + b2n (decide (w = "and") && isOr x) ≤ n := by
  have hb : ∀ x : Cn, b2n (decide (w = "and") && isOr x) ≤ b2n (isJ x) := fun x => by
    cases x with
    | aw ws => show b2n (_ && false) ≤ _; rw [Bool.and_false]; exact Nat.le_refl 0
    | hd v d => show b2n (_ && false) ≤ _; rw [Bool.and_false]; exact Nat.le_refl 0
    | jn v ds => show _ ≤ 1; unfold b2n; split <;> omega
  cases c with
  | aw ws =>
    intro x hx
    rw [List.mem_singleton.mp hx]
    exact ⟨hn, fun ds e => (nomatch e), Nat.le_trans (Nat.add_le_add_left (hb _) _) hd⟩
  | hd v d =>
    intro x hx
    rw [List.mem_singleton.mp hx]
    exact ⟨hn, fun ds e => (nomatch e), Nat.le_trans (Nat.add_le_add_left (hb _) _) hd⟩
  | jn v ds =>
    show ∀ x ∈ (if v = w then ds else [.jn v ds]), _
    split
    · rename_i e
      subst e
      intro x hx
      rw [NF] at hn
      obtain ⟨h1, h2⟩ := NFs_all.mp hn x hx
      refine ⟨h1, h2, Nat.le_trans (dpts_mem hx) ?_⟩
      unfold cdp at hd
      rw [dpt] at hd
      omega
    · rename_i e
      intro x hx
      rw [List.mem_singleton.mp hx]
      exact ⟨hn, fun ds' q => e (by injection q), Nat.le_trans (Nat.add_le_add_left (hb _) _) hd⟩
theorem join_ok {w : Str} {n : Nat} {cs : List Cn} (h : ∀ c ∈ cs, NF c ∧ cdp c ≤ n) : NF (joinC w cs) ∧ dpt (joinC w cs) ≤ n := by
  unfold joinC
  split
  · rename_i c
    obtain ⟨h1, h2⟩ := h c (List.mem_singleton.mpr rfl)
    exact ⟨h1, Nat.le_trans (Nat.le_add_right _ _) h2⟩
  · have key : ∀ x ∈ cs.flatMap (partsOf w), NF x ∧ (∀ ds, x ≠ .jn w ds) ∧ dpt x + b2n (decide (w = "and") && isOr x) ≤ n := fun x hx => by
      obtain ⟨c, hc, hx⟩ := List.mem_flatMap.mp hx
      exact parts_ok (h c hc).1 (h c hc).2 x hx
    rw [NF, dpt]
    exact ⟨NFs_all.mpr fun x hx => ⟨(key x hx).1, (key x hx).2.1⟩, dpts_le fun x hx => (key x hx).2.2⟩
/-- the same for or: its parts stand there without parentheses -/
theorem join_or {n : Nat} {cs : List Cn} (h : ∀ c ∈ cs, NF c ∧ dpt c ≤ n) : NF (joinC "or" cs) ∧ dpt (joinC "or" cs) ≤ n := by
  have ef : decide (("or" : Str) = "and") = false := by decide +kernel
  have hb : ∀ x : Cn, b2n (decide (("or" : Str) = "and") && isOr x) = 0 := fun x => by rw [ef]; rfl
  unfold joinC
  split
  · rename_i c
    exact h c (List.mem_singleton.mpr rfl)
  · have key : ∀ x ∈ cs.flatMap (partsOf "or"), NF x ∧ (∀ ds, x ≠ .jn "or" ds) ∧ dpt x ≤ n := fun x hx => by
      obtain ⟨c, hc, hx⟩ := List.mem_flatMap.mp hx
      obtain ⟨hn, hd⟩ := h c hc
      cases c with
      | aw ws => rw [List.mem_singleton.mp hx]; exact ⟨hn, fun ds e => (nomatch e), hd⟩
      | hd v d => rw [List.mem_singleton.mp hx]; exact ⟨hn, fun ds e => (nomatch e), hd⟩
      | jn v ds =>
        have hx : x ∈ (if v = "or" then ds else [.jn v ds]) := hx
        split at hx
        · rename_i e
          subst e
          rw [NF] at hn
          rw [dpt] at hd
          obtain ⟨h1, h2⟩ := NFs_all.mp hn x hx
          have h3 := dpts_mem (b := decide (("or" : Str) = "and")) (cs := ds) (c := x) hx
          exact ⟨h1, h2, by omega⟩
        · rename_i e
          rw [List.mem_singleton.mp hx]
          exact ⟨hn, fun ds' q => e (by injection q), hd⟩
    rw [NF, dpt]
    exact ⟨NFs_all.mpr fun x hx => ⟨(key x hx).1, (key x hx).2.1⟩, dpts_le fun x hx => by rw [hb]; exact (key x hx).2.2⟩
theorem heads_ok (c : Cn) : ∀ hs : List Str, cdp (hs.foldr .hd c) = hs.length + cdp c
  | [] => by simp
  | h :: hs => by
    have := heads_ok c hs
    show dpt (.hd h (hs.foldr .hd c)) + b2n false = _
    unfold cdp at this
    rw [dpt, List.length_cons]
    show 1 + dpt _ + b2n (isJ _) + 0 = _
    unfold cdp
    omega
theorem NF_heads {c : Cn} (hc : NF c) : ∀ hs : List Str, NF (hs.foldr .hd c)
  | [] => hc
  | h :: hs => by
    rw [List.foldr_cons, NF]
    exact NF_heads hc hs
/-- a frame whose parts stand B deep, in a text at most D deep -/
def DpF (B D : Int) (t : FS) : Prop := (∀ c ∈ t.parts, NF c ∧ B + (cdp c : Int) ≤ D) ∧ ∀ c ∈ t.groups, NF c ∧ B + (dpt c : Int) ≤ D
def sumH (ts : List FS) : Int := ((ts.map fun t => t.heads.length + 1).sum : Nat)
structure Dp (s : RS) : Prop where
  deep : s.deep = sumH s.below + (s.top.heads.length : Int)
  most : s.deep ≤ s.deepest
  top : DpF (sumH s.below) s.deepest s.top
  bel : ∀ bs t r, s.below = bs ++ t :: r → DpF (sumH bs) s.deepest t
theorem DpF.more {B D D' : Int} {t : FS} (h : DpF B D t) (e : D ≤ D') : DpF B D' t := ⟨fun c hc => ⟨(h.1 c hc).1, Int.le_trans (h.1 c hc).2 e⟩, fun c hc => ⟨(h.2 c hc).1, Int.le_trans (h.2 c hc).2 e⟩⟩
theorem dp_add {B D : Int} {t : FS} {c : Cn} (h : DpF B D t) (hn : NF c) (hc : B + (t.heads.length : Int) + (cdp c : Int) ≤ D) : DpF B D (t.add c) := by
  refine ⟨fun d hd => ?_, h.2⟩
  rcases List.mem_append.mp hd with q | q
  · exact h.1 d q
  · rw [List.mem_singleton.mp q]
    refine ⟨NF_heads hn _, ?_⟩
    rw [heads_ok]
    omega
theorem dp_endG {B D : Int} {t : FS} (h : DpF B D t) (hB : B ≤ D) : DpF B D t.endG := by
  refine ⟨fun d hd => (nomatch hd), fun d hd => ?_⟩
  rcases List.mem_append.mp hd with q | q
  · exact h.2 d q
  · rw [List.mem_singleton.mp q]
    obtain ⟨h1, h2⟩ := join_ok (w := "and") (n := (D - B).toNat) (cs := t.parts) fun c hc => ⟨(h.1 c hc).1, by have := (h.1 c hc).2; omega⟩
    exact ⟨h1, by omega⟩
theorem dp_ended {B D : Int} {t : FS} (h : DpF B D t) (hB : B ≤ D) : NF t.ended ∧ B + (dpt t.ended : Int) ≤ D := by
  have hg := dp_endG h hB
  obtain ⟨h1, h2⟩ := join_or (n := (D - B).toNat) (cs := t.endG.groups) fun c hc => ⟨(hg.2 c hc).1, by have := (hg.2 c hc).2; omega⟩
  refine ⟨h1, ?_⟩
  have h2 : dpt t.ended ≤ (D - B).toNat := h2
  omega
theorem sumH_snoc (bs : List FS) (t : FS) : sumH (bs ++ [t]) = sumH bs + ((t.heads.length : Int) + 1) := by
  unfold sumH
  rw [List.map_append, List.sum_append]
  simp only [List.map_cons, List.map_nil, List.sum_cons, List.sum_nil]
  omega
theorem sumH_nn (bs : List FS) : 0 ≤ sumH bs := Int.natCast_nonneg _
theorem dp_new (ws : List Str) : Dp (RS.new ws) := ⟨rfl, Int.le_refl _, ⟨fun c h => (nomatch h), fun c h => (nomatch h)⟩, fun bs t r e => by
  have e : [] = bs ++ t :: r := e
  cases bs <;> cases e⟩
theorem snoc_split {α : Type} {l bs r : List α} {t u : α} (e : l ++ [u] = bs ++ t :: r) : (bs = l ∧ t = u ∧ r = []) ∨ ∃ r', r = r' ++ [u] ∧ l = bs ++ t :: r' := by
  by_cases hr : r = []
  · subst hr
    have := List.append_inj' e rfl
    exact .inl ⟨this.1.symm, by have h := this.2; injection h with h1 h2; exact h1.symm, rfl⟩
  · obtain ⟨r', v, rfl⟩ := snoc_of hr
    have e2 : l ++ [u] = (bs ++ t :: r') ++ [v] := by rw [e]; simp
    have := List.append_inj' e2 rfl
    have hv : u = v := by have h := this.2; injection h with h1 h2
    exact .inr ⟨r', by rw [hv], this.1⟩
theorem dp_atom {s s' : RS} {c : Cn} (d : Dp s) (h : s.readA = .ok (c, s')) : Dp (s'.atom c) := by
  have key : ∀ s1 : RS, s1.top = s.top → s1.below = s.below → s1.deep = s.deep → s1.deepest = s.deepest → NF c → cdp c = 0 → Dp (s1.atom c) := by
    intro s1 e1 e2 e3 e4 hn hz
    have a1 : (s1.atom c).deep = s1.deep - (s1.top.heads.length : Int) := rfl
    have a2 : (s1.atom c).below = s1.below := rfl
    have a3 : (s1.atom c).top = s1.top.add c := rfl
    have a4 : (s1.atom c).deepest = s1.deepest := rfl
    have d1 := d.deep
    have d2 := d.most
    refine ⟨?_, ?_, ?_, ?_⟩
    · rw [a1, a2, a3, e1, e2, e3]
      show _ = sumH s.below + (0 : Int)
      omega
    · rw [a1, a4, e1, e3, e4]; omega
    · rw [a2, a3, a4, e1, e2, e4]
      exact dp_add d.top hn (by rw [hz]; omega)
    · rw [a2, a4, e2, e4]; exact d.bel
  rcases readA_ok h with ⟨rfl, _, rfl⟩ | ⟨w, k, rfl, _, _, _, _, _, rfl⟩
  · exact key s.next rfl rfl rfl rfl (by rw [NF]; trivial) (by unfold cdp; rw [dpt]; rfl)
  · exact key _ rfl rfl rfl rfl (by rw [NF]; trivial) (by unfold cdp; rw [dpt]; rfl)
theorem dp_deeper {s : RS} (d : Dp s) : s.deepest ≤ s.next.deeper.deepest ∧ s.deep + 1 ≤ s.next.deeper.deepest := by
  show s.deepest ≤ (if s.deep + 1 > s.deepest then s.deep + 1 else s.deepest) ∧ s.deep + 1 ≤ (if s.deep + 1 > s.deepest then s.deep + 1 else s.deepest)
  split <;> omega
theorem dp_readP {s s' : RS} {b : Bool} (d : Dp s) (h : s.readP = .ok (b, s')) : Dp s' := by
  obtain ⟨m1, m2⟩ := dp_deeper d
  have d1 := d.deep
  unfold RS.readP at h
  split at h
  · cases h
    refine ⟨?_, m2, ⟨fun c h => (nomatch h), fun c h => (nomatch h)⟩, fun bs t r e => ?_⟩
    · show s.deep + 1 = sumH (s.below ++ [s.top]) + (0 : Int)
      rw [sumH_snoc]; omega
    · have e : s.below ++ [s.top] = bs ++ t :: r := e
      rcases snoc_split e with ⟨rfl, rfl, _⟩ | ⟨r', _, e⟩
      · exact d.top.more m1
      · exact (d.bel bs t r' e).more m1
  · split at h
    · rename_i e2
      obtain ⟨w, hw, hm⟩ := inW_some e2
      rw [hw] at h
      cases h
      refine ⟨?_, m2, ⟨(d.top.more m1).1, (d.top.more m1).2⟩, fun bs t r e => (d.bel bs t r e).more m1⟩
      show s.deep + 1 = sumH s.below + (((s.top.heads ++ [w]).length : Nat) : Int)
      rw [List.length_append, List.length_singleton]; omega
    · split at h
      · cases h
      · rename_i c s1 hA
        cases h
        exact dp_atom d hA
theorem dp_readB {s s' : RS} {b : Bool} (d : Dp s) (hh : s.top.heads = []) (h : s.readB = .ok (b, s')) : Dp s' ∧ (b = false → s'.top.heads = []) := by
  have d1 := d.deep
  have d2 := d.most
  have nn := sumH_nn s.below
  have hl : s.top.heads.length = 0 := by rw [hh]; rfl
  have hB : sumH s.below ≤ s.deepest := by omega
  unfold RS.readB at h
  split at h
  · split at h
    · split at h
      · cases h
      · rename_i hne
        cases h
        obtain ⟨bs, t, e⟩ := snoc_of hne
        rw [close_of (s := s.next) e]
        have hs := sumH_snoc bs t
        rw [← e] at hs
        obtain ⟨q1, q2⟩ := dp_ended d.top hB
        have ht := d.bel bs t [] e
        have hc : b2n (isJ s.top.ended) ≤ 1 := by unfold b2n; split <;> omega
        refine ⟨⟨?_, ?_, ?_, fun bs' t' r e' => ?_⟩, fun _ => rfl⟩
        · show s.deep - 1 - (t.heads.length : Int) = sumH bs + (0 : Int)
          omega
        · show s.deep - 1 - (t.heads.length : Int) ≤ s.deepest
          omega
        · refine dp_add ht q1 ?_
          show sumH bs + (t.heads.length : Int) + (cdp s.top.ended : Int) ≤ s.deepest
          unfold cdp
          omega
        · have e' : bs = bs' ++ t' :: r := e'
          exact d.bel bs' t' (r ++ [t]) (by rw [e, e']; simp)
    · split at h
      · cases h
        exact ⟨⟨d1, d2, dp_endG d.top hB, d.bel⟩, fun e => (nomatch e)⟩
      · cases h
        exact ⟨⟨d1, d2, d.top, d.bel⟩, fun e => (nomatch e)⟩
  · cases h
theorem readP_heads {s s' : RS} (h : s.readP = .ok (true, s')) : s'.top.heads = [] := by
  unfold RS.readP at h
  split at h
  · cases h
  · split at h
    · cases h
    · split at h
      · cases h
      · cases h; rfl
/-- what the reader ends with -/
theorem run_ok : ∀ {n : Nat} {wn : Bool} {s s' : RS}, Bd s → Dp s → (wn = false → s.top.heads = []) → RS.run n wn s = .ok s' → Bd s' ∧ Dp s' ∧ s'.below = [] ∧ s'.top.heads = []
  | 0, wn, s, s', _, _, _, h => by rw [RS.run] at h; cases h
  | n + 1, wn, s, s', hb, hd, hh, h => by
    cases hg : RS.goes wn s with
    | false =>
      rw [run_stop hg] at h
      cases h
      obtain ⟨e1, _, e3⟩ := goes_off hg
      exact ⟨hb, hd, e3, hh e1⟩
    | true =>
      cases wn with
      | true =>
        rw [run_part] at h
        cases hp : s.readP with
        | error i => rw [hp] at h; cases h
        | ok q =>
          obtain ⟨b, s1⟩ := q
          rw [hp] at h
          refine run_ok (bd_readP hb hp).1 (dp_readP hd hp) (fun e => ?_) h
          have : b = true := by cases b <;> first | rfl | cases e
          subst this
          exact readP_heads hp
      | false =>
        rw [run_betw hg] at h
        cases hp : s.readB with
        | error i => rw [hp] at h; cases h
        | ok q =>
          obtain ⟨b, s1⟩ := q
          rw [hp] at h
          obtain ⟨d1, d2⟩ := dp_readB hd (hh rfl) hp
          exact run_ok (bd_readB hb hp).1 d1 d2 h
theorem ended_hgt {s : RS} (hb : Bd s) (hd : Dp s) (he : s.below = []) (h6 : s.deepest ≤ 6) : WF s.top.ended ∧ hgt s.top.ended ≤ 25 ∧ sz s.top.ended ≤ 1000000 := by
  have hw := WF_ended hb.wf
  have ht := hd.top
  rw [he] at ht
  have hm := hd.most
  have h1 := hd.deep
  rw [he] at h1
  have e0 : sumH [] = 0 := rfl
  obtain ⟨n1, n2⟩ := dp_ended ht (by omega)
  have h3 := hgt_le hw n1
  have h4 := top3_le s.top.ended
  have h5 : b2n (isJ s.top.ended) ≤ 1 := by unfold b2n; split <;> omega
  have h7 := sz_ended s.top
  have h8 := hb.wt
  have h9 := hb.al
  have h10 := hb.len
  rw [e0] at n2
  exact ⟨hw, by omega, by omega⟩
def runQ (z : Str) : Except Nat RS := RS.run ((wordsS z).length + 1) true (RS.new (wordsS z))
def QReadS (K : PySem.W.Frag) : SpecT := fun ss O R => ∃ (C : Addr) (z : Str), ss = [.dat (.cls C), .dat (.str z)] ∧ clsAt K "Question" C ∧ z.length ≤ 90000 ∧ (∀ i, runQ z = .error i → noQ K R i O) ∧
  ∀ s', runQ z = .ok s' → (8 < s'.atoms → manyX K R "atoms" O) ∧ (s'.atoms ≤ 8 → 6 < s'.deepest → manyX K R "deep" O) ∧ (s'.atoms ≤ 8 → s'.deepest ≤ 6 → 2 < (outC s'.top.ended).length → manyX K R "outer" O) ∧
    (s'.atoms ≤ 8 → s'.deepest ≤ 6 → (outC s'.top.ended).length ≤ 2 → R (.ret (.dat (insQ C s'.top.ended))) O)
section
variable {P : Program} {w : World} {K : PySem.W.Frag} {mg : Str → Option Value} {base : Heap}
theorem cm_sized (T : TopOf K mg) (Z : Facts K) {C : Addr} (hC : clsAt K "Question" C) : CMCal P w K mg base false 30 C "sized" (SizedS K) [] := by
  obtain ⟨C', I_Question, mI, mRead, mSized, mMade, mStr, mEq, mAnd, mOr, mInv, n1, n2⟩ := Z.c_Question
  obtain rfl := at_inj hC I_Question.at_
  exact cmcal_of I_Question mSized (by walk_at "b4") fun f fd F => fn_Question_sized T Z F
theorem fn_Question_read (T : TopOf K mg) (Z : Facts K) {f : Addr} {fd : FuncData} (F : L2.Fun K "read" "Question.read" s_Question_read f fd) : Fn P w K mg base false (31) f fd ["cls", "text"] (QReadS K) := by
  have sc := sc_Question_read
  refine fn_mk F sc_Question_read (fun ss O R h => by first | (obtain ⟨_, rfl, _⟩ := h; rfl) | (obtain ⟨_, _, rfl, _⟩ := h; rfl) | (obtain ⟨_, _, _, rfl, _⟩ := h; rfl) | (obtain ⟨_, _, _, _, rfl, _⟩ := h; rfl) | (obtain ⟨_, _, _, _, _, rfl, _⟩ := h; rfl) | (obtain ⟨_, _, _, _, _, _, rfl, _⟩ := h; rfl) | (obtain ⟨_, _, _, _, _, _, _, rfl, _⟩ := h; rfl)) fun cdv A outer s H E ss O R hr hpo h => ?_
  obtain ⟨C, z, rfl, hC, hz, hx, h⟩ := h
  obtain ⟨CR, I_QuestionReader, cHEADS, mAtom, mI, mRefuse, mComing, mPassOne, mPassKind, mDeeper, mPart, mAdd, mBetween, mWhole, n1, n2, n3, n4, n5, n6, n7⟩ := Z.c_QuestionReader
  obtain ⟨CF, I_Frame, mFI, mFAdd, mFEndG, mFEnded, ⟨q0, t_groups⟩, ⟨q1, t_heads⟩, ⟨q2, t_parts⟩⟩ := Z.c_Frame
  have mk_QuestionReader : MkC P w K mg base 3 CR (RInitS K) [] := mkc_of I_QuestionReader mI (by walk_at "b2") fun f fd F => fn_Reader_init T Z F
  have mcW : MCal P w K mg base false 8 CR "whole" (WholeS K) [] := mcal_of mWhole (by walk_at "b1") fun f fd F => fn_Reader_whole T Z F
  refine sw_drop ?_
  -- 0:cls 1:text 2:reader 3:tree
  refine sw_cons ?_
  refine s1_set 2 ?_ sc.nd
  refine ew_make mk_QuestionReader (T.is I_QuestionReader.at_) hr ?_
  refine aw_cons ?_
  refine ew_call (c_split_words T Z) hr ?_
  refine aw_cons ?_
  refine ew_var 1 ?_
  refine aw_nil ?_
  refine ⟨z, rfl, Nat.le_trans hz (by decide), ?_⟩
  refine aw_nil ?_
  refine fun r dx hr0 hdx hne => ⟨r, CR, CF, dx, O, wordsS z, rfl, I_QuestionReader.at_, I_Frame.at_, up_at, Sub.up hr0, hr0, fun N O1 eN hR => ⟨rfl, ?_⟩⟩
  have hws : (wordsS z).length ≤ 100000 := Nat.le_trans (wordsS_count z) (Nat.le_trans (Nat.add_le_add_right hz 1) (by decide))
  have hwl : ∀ x ∈ wordsS z, x.length ≤ 100000 := fun x hx => Nat.le_trans (wordsS_len hx) (Nat.le_trans hz (by decide))
  rw [← eN]
  refine sw_cons ?_
  refine s1_set 3 ?_ sc.nd
  refine ew_meth0 mcW I_QuestionReader.ins.cl hr ?_
  refine ew_var 2 ?_
  refine ⟨⟨_, _, hR.r.rd, rfl⟩, N, CR, CF, O, RS.new (wordsS z), rfl, hR, bd_new hws hwl, fun s' hrun hB' O2 dx' pf' pu' hsub hcell => ?_, fun i hi C' hC' => ⟨O, .refl, hx i hi C' hC'⟩⟩
  obtain ⟨k1, k2, k3, k4⟩ := h s' hrun
  obtain ⟨b1, d1, bl, hd1⟩ := run_ok (wn := true) (bd_new hws hwl) (dp_new _) (fun _ => rfl) hrun
  refine sw_one ?_
  refine s1_ret ?_
  refine ew_cmeth (cm_sized T Z hC) hr ?_
  refine ew_var 0 ?_
  refine ⟨rfl, ?_⟩
  refine aw_cons ?_
  refine ew_var 3 ?_
  refine aw_cons ?_
  refine ew_fld ?_
  refine ew_var 2 ?_
  refine ⟨CR, dx', _, _, hcell, I_QuestionReader.ins.cl, n4, rfl, ?_⟩
  refine aw_cons ?_
  refine ew_fld ?_
  refine ew_var 2 ?_
  refine ⟨CR, dx', _, _, hcell, I_QuestionReader.ins.cl, n6, rfl, ?_⟩
  refine aw_nil ?_
  have hwf := WF_ended b1.wf
  have hsz : sz s'.top.ended ≤ 1000000 := by
    have h1 := sz_ended s'.top
    have h2 := b1.wt
    have h3 := b1.al
    have h4 := b1.len
    omega
  refine ⟨C, s'.top.ended, (s'.atoms : Int), s'.deepest, rfl, hC, hwf, hsz, fun _ h6 => (ended_hgt b1 d1 bl h6).2.1, fun h8 C' hC' => ⟨O, hsub, k1 (by omega) C' hC'⟩, fun h8 h6 C' hC' => ⟨O, hsub, k2 (by omega) h6 C' hC'⟩, fun h8 h6 h2 C' hC' => ⟨O, hsub, k3 (by omega) h6 h2 C' hC'⟩, fun h8 h6 h2 => ?_⟩
  exact ⟨O, hsub, k4 (by omega) h6 h2⟩
end
/-! the text of a condition -/
def needP (w : Str) (c : Cn) : Bool := (decide (wordC c = "or") || (decide (wordC c = "and") && !k_JOINING.any (· == w))) && !decide (w = "or")
def need1 (w : Str) (c : Cn) : Bool := decide (wordC c = "or") || (decide (wordC c = "and") && !k_JOINING.any (· == w))
def parP (w : Str) (c : Cn) (t : Str) : Str := if needP w c = true then "( " ++ t ++ " )" else t
mutual
def shwC : Cn → Str
  | .aw ws => Txt.join " " ws
  | .hd w c => w ++ " " ++ parP w c (shwC c)
  | .jn w cs => Txt.join (" " ++ w ++ " ") (shwCs w cs)
def shwCs (w : Str) : List Cn → List Str
  | [] => []
  | c :: cs => parP w c (shwC c) :: shwCs w cs
end
theorem shwCs_map (w : Str) : ∀ cs : List Cn, shwCs w cs = cs.map fun c => parP w c (shwC c)
  | [] => by rw [shwCs]; rfl
  | c :: cs => by rw [shwCs, shwCs_map w cs]; rfl
theorem parP_len (w : Str) (c : Cn) (t : Str) : (parP w c t).length ≤ t.length + 4 := by
  unfold parP
  split
  · rw [len_app, len_app, show (Str.ofString "( ").length = 2 by decide +kernel, show (Str.ofString " )").length = 2 by decide +kernel]; omega
  · omega
theorem sep_len {w : Str} (h : w ∈ joW) : ((" " : Str) ++ w ++ " ").length ≤ 5 := by
  rcases jo_is h with rfl | rfl <;> decide +kernel
theorem join_lt (y : Str) (ws : List Str) : (Txt.join y ws).length ≤ (ws.map (·.length)).sum + ws.length * y.length := by
  by_cases h : ws = []
  · subst h; exact Nat.zero_le _
  · have := join_len y ws h; omega
theorem atW_len : ∀ w ∈ atW, w.length ≤ 7 := by decide +kernel
theorem heW_len : ∀ w ∈ heW, w.length ≤ 6 := by decide +kernel
mutual
theorem shwC_len : ∀ {c : Cn}, WF c → (shwC c).length + 9 ≤ 22 * sz c
  | .aw ws, h => by
    rw [WF] at h
    rw [shwC, sz]
    have := join_lt " " ws
    have e1 : (Str.ofString " ").length = 1 := by decide +kernel
    rcases h with ⟨w, k, rfl, hw, hk⟩ | rfl
    · have h1 := atW_len w hw
      obtain ⟨_, h2, _⟩ := madeOf_pos hk
      simp only [List.map_cons, List.map_nil, List.sum_cons, List.sum_nil, List.length_cons, List.length_nil] at this
      rw [e1] at this
      omega
    · have e2 : (Str.ofString "root").length = 4 := by decide +kernel
      simp only [List.map_cons, List.map_nil, List.sum_cons, List.sum_nil, List.length_cons, List.length_nil] at this
      rw [e1, e2] at this
      omega
  | .hd w c, h => by
    rw [WF] at h
    have h1 := shwC_len h.2
    have h2 := heW_len w h.1
    have h3 := parP_len w c (shwC c)
    rw [shwC, sz, len_app, len_app, show (Str.ofString " ").length = 1 by decide +kernel]
    omega
  | .jn w cs, h => by
    rw [WF] at h
    have h1 := shwCs_len w h.2
    have h2 := sep_len h.1
    have h3 := join_lt (" " ++ w ++ " ") (shwCs w cs)
    have h4 : (shwCs w cs).length = cs.length := by rw [shwCs_map, List.length_map]
    rw [h4] at h3
    have h5 := Nat.mul_le_mul_left cs.length h2
    rw [shwC, sz]
    omega
theorem shwCs_len (w : Str) : ∀ {cs : List Cn}, WFs cs → ((shwCs w cs).map (·.length)).sum + 5 * cs.length ≤ 22 * szs cs
  | [], _ => by rw [shwCs, szs]; exact Nat.le_refl _
  | c :: cs, h => by
    rw [WFs] at h
    have h1 := shwC_len h.1
    have h2 := shwCs_len w h.2
    have h3 := parP_len w c (shwC c)
    rw [shwCs, szs, List.map_cons, List.sum_cons, List.length_cons]
    omega
end
def ShownS (n : Nat) : SpecT := fun ss O R => ∃ c : Cn, ss = [.dat (cD c)] ∧ WF c ∧ hgt c ≤ n ∧ sz c ≤ 700000 ∧ R (.ret (.dat (.str (shwC c)))) O
def ShPartS (n : Nat) : SpecT := fun ss O R => ∃ (c : Cn) (w : Str), ss = [.dat (cD c), .dat (.str w)] ∧ WF c ∧ hgt c ≤ n ∧ sz c ≤ 700000 ∧ R (.ret (.dat (.str (parP w c (shwC c))))) O
theorem zero_shown {ss : List Slot} {O : Own} {R : Out → Own → Prop} (h : ShownS 0 ss O R) : False := by
  obtain ⟨c, _, _, h0, _⟩ := h
  have := hgt_pos c
  omega
section
variable {P : Program} {w : World} {K : PySem.W.Frag} {mg : Str → Option Value} {base : Heap}
theorem fn_shown_part (T : TopOf K mg) (Z : Facts K) (n : Nat) (cr : Cal P w K mg base false (2 * n + 2) "shown" (ShownS n) []) {f : Addr} {fd : FuncData} (F : L2.Fun K "shown_part" "shown_part" s_shown_part f fd) : Fn P w K mg base false (2 * n + 3) f fd ["part", "word"] (ShPartS n) := by
  have sc := sc_shown_part
  refine fn_mk F sc_shown_part (fun ss O R h => by first | (obtain ⟨_, rfl, _⟩ := h; rfl) | (obtain ⟨_, _, rfl, _⟩ := h; rfl) | (obtain ⟨_, _, _, rfl, _⟩ := h; rfl) | (obtain ⟨_, _, _, _, rfl, _⟩ := h; rfl) | (obtain ⟨_, _, _, _, _, rfl, _⟩ := h; rfl) | (obtain ⟨_, _, _, _, _, _, rfl, _⟩ := h; rfl) | (obtain ⟨_, _, _, _, _, _, _, rfl, _⟩ := h; rfl)) fun cdv A outer s H E ss O R hr hpo h => ?_
  obtain ⟨c, w0, rfl, hw, hn, hz, h⟩ := h
  have hlen := shwC_len hw
  have hl2 : (shwC c).length + 9 ≤ 22 * 700000 := by omega
  -- 0:part 1:word 2:needs
  refine sw_cons ?_
  refine s1_set 2 (ew_ev (d := .bl (need1 w0 c)) (ev_or (ew_cmp (ew_ix (ew_var 0 (ew_int (ix_word hw (ew_str (ob_eqS ⟨rfl, rfl⟩))))))) fun _ => ew_one (ev_and (ew_cmp (ew_ix (ew_var 0 (ew_int (ix_word hw (ew_str (ob_eqS ⟨rfl, rfl⟩))))))) fun _ => ew_one (ew_cmp (ew_var 1 (ew_glob (Z.g_JOINING.glob T) (ob_niT ⟨rfl, rfl⟩)))))) ?_) sc.nd
  refine sw_one ?_
  refine s1_ret ?_
  refine ew_if ?_
  refine tw_w ?_
  refine tww_and ?_
  refine tw_truth ?_
  refine ew_var 2 ?_
  refine ⟨fun ht => ?_, fun ht => ?_⟩
  · have hx1 : need1 w0 c = true := ht
    refine tww_and1 ?_
    refine tw_cmp ?_
    refine ew_var 1 ?_
    refine ew_str ?_
    walk_at "cmp NotEq"
    refine ⟨_, rfl, fun ht => ?_, fun ht => ?_⟩
    · have ep : parP w0 c (shwC c) = "( " ++ shwC c ++ " )" := if_pos (by show (need1 w0 c && _) = true; rw [hx1]; exact ht)
      rw [ep] at h
      have q1 : (Str.ofString "( ").length = 2 := by decide +kernel
      have q2 : (Str.ofString " )").length = 2 := by decide +kernel
      refine ew_joined ?_
      refine ew_str ?_
      refine ⟨_, rfl, by rw [empty_app]; exact Nat.le_of_ble_eq_true rfl, ?_⟩
      refine ew_fmt ?_
      refine ew_call cr (hj := by omega) hr ?_
      refine aw_cons ?_
      refine ew_var 0 ?_
      refine aw_nil ?_
      refine ⟨c, rfl, hw, hn, hz, ?_⟩
      refine .inl ⟨_, rfl, Nat.le_trans (show (shwC c).length ≤ 22 * 700000 by omega) (by decide), ?_⟩
      refine ⟨_, rfl, by rw [empty_app, len_app, q1]; exact Nat.le_trans (show 2 + (shwC c).length ≤ 22 * 700000 by omega) (by decide), ?_⟩
      refine ew_str ?_
      refine ⟨_, rfl, by rw [empty_app, len_app, len_app, q1, q2]; exact Nat.le_trans (show 2 + (shwC c).length + 2 ≤ 22 * 700000 by omega) (by decide), ?_⟩
      rw [empty_app]
      exact h
    · have ep : parP w0 c (shwC c) = shwC c := if_neg (by show ¬ (need1 w0 c && _) = true; rw [hx1, Bool.true_and, ht]; decide)
      rw [ep] at h
      refine ew_call cr (hj := by omega) hr ?_
      refine aw_cons ?_
      refine ew_var 0 ?_
      refine aw_nil ?_
      refine ⟨c, rfl, hw, hn, hz, ?_⟩
      exact h
  · have hx1 : need1 w0 c = false := ht
    have ep : parP w0 c (shwC c) = shwC c := if_neg (by show ¬ (need1 w0 c && _) = true; rw [hx1, Bool.false_and]; decide)
    rw [ep] at h
    refine ⟨fun hb => ?_, fun hb => ?_⟩
    · exact absurd hb (by decide)
    · refine ew_call cr (hj := by omega) hr ?_
      refine aw_cons ?_
      refine ew_var 0 ?_
      refine aw_nil ?_
      refine ⟨c, rfl, hw, hn, hz, ?_⟩
      exact h
theorem c_shown_part (T : TopOf K mg) (Z : Facts K) (n : Nat) (cr : Cal P w K mg base false (2 * n + 2) "shown" (ShownS n) []) : Cal P w K mg base false (2 * n + 3) "shown_part" (ShPartS n) [] := cal_of T Z.d_shown_part (by walk_at "b2") fun f fd F => fn_shown_part T Z n cr F
theorem word_in {c : Cn} (h : WF c) : wordC c ∈ joW ∨ wordC c ∈ heW ∨ wordC c ∈ atW := by
  cases c with
  | aw ws =>
    rw [WF] at h
    rcases h with ⟨w, k, rfl, hw, _⟩ | rfl
    · exact .inr (.inr hw)
    · exact .inr (.inr (show (Str.ofString "root") ∈ atW by decide +kernel))
  | hd v c => rw [WF] at h; exact .inr (.inl h.1)
  | jn v cs => rw [WF] at h; exact .inl h.1
theorem word_no {c : Cn} (h : WF c) {ws : List Str} (k1 : ∀ v ∈ ws, v ∉ joW ∧ v ∉ heW ∧ v ∉ atW) (q : wordC c ∈ ws) : False := by
  obtain ⟨a1, a2, a3⟩ := k1 _ q
  rcases word_in h with e | e | e
  · exact a1 e
  · exact a2 e
  · exact a3 e
theorem atm_len {ws : List Str} (h : okAt ws) : (ws.map (·.length)).sum + ws.length * 1 ≤ 20 := by
  rcases h with ⟨w, k, rfl, hw, hk⟩ | rfl
  · have h1 := atW_len w hw
    obtain ⟨_, h2, _⟩ := madeOf_pos hk
    simp only [List.map_cons, List.map_nil, List.sum_cons, List.sum_nil, List.length_cons, List.length_nil]
    omega
  · decide +kernel
theorem fn_shown (T : TopOf K mg) (Z : Facts K) : ∀ (n : Nat) {f : Addr} {fd : FuncData} (F : L2.Fun K "shown" "shown" s_shown f fd), Fn P w K mg base false (2 * n + 2) f fd ["condition"] (ShownS n)
  | 0, f, fd, F => by
    refine fn_mk F sc_shown (fun ss O R h => by first | (obtain ⟨_, rfl, _⟩ := h; rfl) | (obtain ⟨_, _, rfl, _⟩ := h; rfl) | (obtain ⟨_, _, _, rfl, _⟩ := h; rfl) | (obtain ⟨_, _, _, _, rfl, _⟩ := h; rfl)) fun cdv A outer s H E ss O R hr hpo h => ?_
    exact (zero_shown h).elim
  | n + 1, f, fd, F => by
    have cr : Cal P w K mg base false (2 * n + 2) "shown" (ShownS n) [] := cal_of T Z.d_shown (by walk_at "b1") fun f fd F => fn_shown T Z n F
    have sc := sc_shown
    refine fn_mk F sc_shown (fun ss O R h => by first | (obtain ⟨_, rfl, _⟩ := h; rfl) | (obtain ⟨_, _, rfl, _⟩ := h; rfl) | (obtain ⟨_, _, _, rfl, _⟩ := h; rfl) | (obtain ⟨_, _, _, _, rfl, _⟩ := h; rfl)) fun cdv A outer s H E ss O R hr hpo h => ?_
    have cp : Cal P w K mg base false (2 * n + 3) "shown_part" (ShPartS n) [] := c_shown_part T Z n cr
    obtain ⟨c, rfl, hw, hn, hz, h⟩ := h
    have hlen := shwC_len hw
    have hl2 : (shwC c).length + 9 ≤ 22 * 700000 := by omega
    -- 0:condition 1:word 2:piece
    refine sw_cons ?_
    refine s1_set 1 ?_ sc.nd
    refine ew_ix ?_
    refine ew_var 0 ?_
    refine ew_int ?_
    refine ix_word hw ?_
    refine sw_one ?_
    refine s1_match ?_
    refine ew_var 1 ?_
    refine ⟨wordC c, rfl, ?_⟩
    refine mw_or (ys := ["and", "or"]) (by repeat constructor) (fun ht => ?_) fun ht => ?_
    · have hwj : wordC c ∈ joW := ht
      obtain ⟨v, cs, rfl⟩ := jn_of2 hw hwj
      have hsl := sep_len hwj
      rw [WF] at hw
      have hcs := WFs_all.mp hw.2
      have hsum := shwCs_len v hw.2
      rw [hgt] at hn
      rw [sz] at hz
      rw [shwC] at h
      have e1 : cD (.jn v cs) = .tup [.str v, .tup (cDs cs)] := by rw [cD]
      have q1 : (Str.ofString " ").length = 1 := by decide +kernel
      have hvl : v.length ≤ 5 := by
        have : ∀ y ∈ joW, y.length ≤ 5 := by decide +kernel
        exact this v hwj
      refine sw_one ?_
      refine s1_ret ?_
      refine ew_join ?_
      refine ew_joined ?_
      refine ew_str ?_
      refine ⟨_, rfl, by rw [empty_app, q1]; exact Nat.le_of_ble_eq_true rfl, ?_⟩
      refine ew_fmt ?_
      refine ew_var 1 ?_
      refine .inl ⟨_, rfl, Nat.le_trans hvl (by decide), ?_⟩
      refine ⟨_, rfl, by rw [empty_app, len_app, q1]; exact Nat.le_trans (Nat.add_le_add_left hvl 1) (by decide), ?_⟩
      refine ew_str ?_
      refine ⟨_, rfl, by rw [empty_app, len_app, len_app, q1]; exact Nat.le_trans (Nat.add_le_add_right (Nat.add_le_add_left hvl 1) 1) (by decide), ?_⟩
      refine ⟨_, rfl, ?_⟩
      refine ew_map1 cs cD (fun c => .str (parP v c (shwC c))) [("piece", 2)] sc.nd (.name (i := 2) (by decide) fun Y ⟨_, _, _, _, _, e⟩ => by subst e; exact pg_name (i := 2) sc.nd rfl (.inl rfl) (.inr rfl)) (blkOk_by (N := N_shown) (sc := defScope s_shown) (by decide +kernel)) (iw_tup (ew_ix (ew_var (s := .dat (cD (.jn v cs))) 0 (ew_int (by rw [e1]; exact ix_tpl (d := .tup (cDs cs)) rfl ⟨_, rfl, cDs_map cs, rfl⟩))))) (Nat.le_trans (Nat.le_trans (szs_len cs) (show szs cs ≤ 700000 by omega)) (by decide)) (fun d hd => ⟨_, rfl, fun O' Y hY => ?_⟩) ?_
      · obtain ⟨_, _, _, _, _, rfl⟩ := hY
        refine ew_call cp hr ?_ (hj := by omega)
        refine aw_cons ?_
        refine ew_var 2 ?_
        refine aw_cons ?_
        refine ew_var 1 ?_
        refine aw_nil ?_
        refine ⟨d, v, rfl, hcs d hd, Nat.le_trans (hgts_mem hd) (by omega), Nat.le_trans (szs_mem hd) (by omega), ?_⟩
        exact ⟨rfl, rfl⟩
      rw [show (cs.map fun c => Dat.str (parP v c (shwC c))) = (shwCs v cs).map .str from by rw [shwCs_map, List.map_map]; rfl]
      
      refine m1_join (by
        rw [empty_app]
        have h4 : (shwCs v cs).length = cs.length := by rw [shwCs_map, List.length_map]
        have h5 := Nat.mul_le_mul_left cs.length hsl
        rw [h4]; omega) ?_
      rw [empty_app]
      exact h
    · have hnj : wordC c ∉ joW := ht
      refine mw_or (ys := ["not", "parent", "above"]) (by repeat constructor) (fun ht => ?_) fun ht => ?_
      · have hwh : wordC c ∈ heW := ht
        obtain ⟨v, d, rfl⟩ := hd_of2 hw hwh
        rw [WF] at hw
        rw [hgt] at hn
        rw [sz] at hz
        rw [shwC] at h
        have e1 : cD (.hd v d) = .tup [.str v, cD d] := by rw [cD]
        have q1 : (Str.ofString " ").length = 1 := by decide +kernel
        have hvl : v.length ≤ 6 := heW_len v hwh
        have hdl := shwC_len hw.2
        have hpl := parP_len v d (shwC d)
        refine sw_one ?_
        refine s1_ret ?_
        refine ew_joined ?_
        refine ew_fmt ?_
        refine ew_var 1 ?_
        refine .inl ⟨_, rfl, Nat.le_trans hvl (by decide), ?_⟩
        refine ⟨_, rfl, by rw [empty_app]; exact Nat.le_trans hvl (by decide), ?_⟩
        refine ew_str ?_
        refine ⟨_, rfl, by rw [empty_app, len_app, q1]; exact Nat.le_trans (Nat.add_le_add_right hvl 1) (by decide), ?_⟩
        refine ew_fmt ?_
        refine ew_call cp hr ?_ (hj := by omega)
        refine aw_cons ?_
        refine ew_ix ?_
        refine ew_var 0 ?_
        refine ew_int ?_
        
        rw [e1]
        refine ix_tpl (d := cD d) rfl ?_
        refine aw_cons ?_
        refine ew_var 1 ?_
        refine aw_nil ?_
        refine ⟨d, v, rfl, hw.2, by omega, by omega, ?_⟩
        refine .inl ⟨_, rfl, Nat.le_trans (show (parP v d (shwC d)).length ≤ 22 * 700000 by omega) (by decide), ?_⟩
        refine ⟨_, rfl, by rw [empty_app, len_app, len_app, q1]; exact Nat.le_trans (show v.length + 1 + (parP v d (shwC d)).length ≤ 22 * 700000 + 10 by omega) (by decide), ?_⟩
        rw [empty_app]
        exact h
      · have hnh : wordC c ∉ heW := ht
        refine mw_or (ys := ["then", "next"]) (by repeat constructor) (fun ht => ?_) fun ht => ?_
        · exact (word_no hw (by decide +kernel) ht).elim
        · refine mw_val (fun ht => ?_) fun ht => ?_
          · exact (word_no hw (ws := ["count"]) (by decide +kernel) (by rw [ht]; exact List.mem_singleton.mpr rfl)).elim
          · obtain ⟨ws, rfl⟩ := aw_of hw hnj hnh
            rw [WF] at hw
            rw [shwC] at h
            have hal := atm_len hw
            have e1 : cD (.aw ws) = .tup (ws.map .str) := by rw [cD]
            refine mw_any ?_
            refine sw_one ?_
            refine s1_ret ?_
            refine ew_join ?_
            refine ew_str ?_
            refine ⟨_, rfl, ?_⟩
            refine ew_var 0 ?_
            
            rw [e1]
            refine m1_joinT (by rw [show (Str.ofString " ").length = 1 by decide +kernel]; omega) ?_
            exact h
theorem c_shown (T : TopOf K mg) (Z : Facts K) (n : Nat) : Cal P w K mg base false (2 * n + 2) "shown" (ShownS n) [] := cal_of T Z.d_shown (by walk_at "b1") fun f fd F => fn_shown T Z n F
def QStrS (K : PySem.W.Frag) : SpecT := fun ss O R => ∃ (C : Addr) (c : Cn), ss = [.dat (insQ C c)] ∧ clsAt K "Question" C ∧ WF c ∧ hgt c ≤ 25 ∧ sz c ≤ 700000 ∧ R (.ret (.dat (.str (shwC c)))) O
theorem fn_Question_str (T : TopOf K mg) (Z : Facts K) {f : Addr} {fd : FuncData} (F : L2.Fun K "__str__" "Question.__str__" s_Question_str f fd) : Fn P w K mg base false (53) f fd ["self"] (QStrS K) := by
  have sc := sc_Question_str
  refine fn_mk F sc_Question_str (fun ss O R h => by first | (obtain ⟨_, rfl, _⟩ := h; rfl) | (obtain ⟨_, _, rfl, _⟩ := h; rfl) | (obtain ⟨_, _, _, rfl, _⟩ := h; rfl) | (obtain ⟨_, _, _, _, rfl, _⟩ := h; rfl) | (obtain ⟨_, _, _, _, _, rfl, _⟩ := h; rfl) | (obtain ⟨_, _, _, _, _, _, rfl, _⟩ := h; rfl) | (obtain ⟨_, _, _, _, _, _, _, rfl, _⟩ := h; rfl)) fun cdv A outer s H E ss O R hr hpo h => ?_
  obtain ⟨C, c, rfl, hC, hw, hg, hz, h⟩ := h
  obtain ⟨C', I_Question, mI, mRead, mSized, mMade, mStr, mEq, mAnd, mOr, mInv, n1, n2⟩ := Z.c_Question
  obtain rfl := at_inj hC I_Question.at_
  -- 0:self
  refine sw_one ?_
  refine s1_ret ?_
  refine ew_callTy (T.no Z.n_str) bt_str ?_
  refine aw_cons ?_
  refine ew_call (c_shown T Z 25) hr ?_
  refine aw_cons ?_
  refine ew_fld ?_
  refine ew_var 0 ?_
  refine ⟨cD c, I_Question.ins.cl, n1, rfl, ?_⟩
  refine aw_nil ?_
  refine ⟨c, rfl, hw, hg, hz, ?_⟩
  refine aw_nil ?_
  walk_at "cb str"
  exact h
end
/-! the law's own trees of conditions -/
inductive Tr where
  | aw (ws : List Str)
  | hd (w : Str) (t : Tr)
  | j2 (w : Str) (a b : Tr)
def tD : Tr → Dat
  | .aw ws => .tup (ws.map .str)
  | .hd w t => .tup [.str w, tD t]
  | .j2 w a b => .tup [.str w, tD a, tD b]
def wordT : Tr → Str
  | .aw ws => ws.headD ""
  | .hd w _ => w
  | .j2 w _ _ => w
def WT : Tr → Prop
  | .aw ws => okAt ws
  | .hd w t => w ∈ heW ∧ WT t
  | .j2 w a b => w ∈ joW ∧ WT a ∧ WT b
def htT : Tr → Nat
  | .aw _ => 1
  | .hd _ t => 1 + htT t
  | .j2 _ a b => 1 + max (htT a) (htT b)
def szT : Tr → Nat
  | .aw _ => 1
  | .hd _ t => 1 + szT t
  | .j2 _ a b => 1 + szT a + szT b
theorem htT_pos (t : Tr) : 1 ≤ htT t := by cases t <;> rw [htT] <;> omega
theorem szT_pos (t : Tr) : 1 ≤ szT t := by cases t <;> rw [szT] <;> omega
def needT (w : Str) (t : Tr) : Bool := (decide (wordT t = "or") && !decide (w = "or")) || (decide (wordT t = "and") && !joW.any (· == w))
def bndT (w : Str) (t : Tr) (z : Str) : Str := if needT w t = true then "( " ++ z ++ " )" else z
def shwT : Tr → Str
  | .aw ws => Txt.join " " ws
  | .hd w t => w ++ " " ++ bndT w t (shwT t)
  | .j2 w a b => bndT w a (shwT a) ++ " " ++ w ++ " " ++ bndT w b (shwT b)
section
variable {X : Cx} {O : Own} {k : Slot → Own → Prop}
theorem ix_wordT {t : Tr} (hc : WT t) (h : k (.dat (.str (wordT t))) O) : IxB X (.dat (tD t)) (.dat (.int 0)) O k := by
  cases t with
  | aw ws =>
    rw [WT] at hc
    rw [tD]
    rcases hc with ⟨w, z, rfl, _⟩ | rfl
    · exact ix_tpl rfl h
    · exact ix_tpl rfl h
  | hd w c => rw [tD]; exact ix_tpl rfl h
  | j2 w a b => rw [tD]; exact ix_tpl rfl h
end
theorem wordT_in {t : Tr} (h : WT t) : wordT t ∈ joW ∨ wordT t ∈ heW ∨ wordT t ∈ atW := by
  cases t with
  | aw ws =>
    rw [WT] at h
    rcases h with ⟨w, k, rfl, hw, _⟩ | rfl
    · exact .inr (.inr hw)
    · exact .inr (.inr (show (Str.ofString "root") ∈ atW by decide +kernel))
  | hd v c => rw [WT] at h; exact .inr (.inl h.1)
  | j2 v a b => rw [WT] at h; exact .inl h.1
theorem any_mem {ws : List Str} {z : Str} : ws.any (· == z) = true ↔ z ∈ ws := by
  rw [List.any_eq_true]
  exact ⟨fun ⟨x, h1, h2⟩ => by rw [← eq_of_beq h2]; exact h1, fun h => ⟨z, h, beq_self_eq_true z⟩⟩
theorem any_no {ws : List Str} {z : Str} : ws.any (· == z) = false ↔ z ∉ ws := by
  rw [← any_mem]; cases ws.any (· == z) <;> simp
theorem atW_jo : ∀ v ∈ atW, v ∉ joW := by decide +kernel
theorem atW_he : ∀ v ∈ atW, v ∉ heW := by decide +kernel
theorem heW_jo : ∀ v ∈ heW, v ∉ joW := by decide +kernel
theorem aw_word {ws : List Str} (h : okAt ws) : ws.headD "" ∈ atW := by
  rcases h with ⟨w, k, rfl, hw, _⟩ | rfl
  · exact hw
  · decide +kernel
theorem j2_of {t : Tr} (h : WT t) (e : wordT t ∈ joW) : ∃ w a b, t = .j2 w a b := by
  cases t with
  | aw ws => rw [WT] at h; exact (atW_jo _ (aw_word h) e).elim
  | hd v c => rw [WT] at h; exact (heW_jo v h.1 e).elim
  | j2 v a b => exact ⟨v, a, b, rfl⟩
theorem hdT_of {t : Tr} (h : WT t) (e : wordT t ∈ heW) : ∃ w a, t = .hd w a := by
  cases t with
  | aw ws => rw [WT] at h; exact (atW_he _ (aw_word h) e).elim
  | hd v c => exact ⟨v, c, rfl⟩
  | j2 v a b => rw [WT] at h; exact (heW_jo v e h.1).elim
theorem awT_of {t : Tr} (h : WT t) (e1 : wordT t ∉ joW) (e2 : wordT t ∉ heW) : ∃ ws, t = .aw ws := by
  cases t with
  | aw ws => exact ⟨ws, rfl⟩
  | hd v c => rw [WT] at h; exact (e2 h.1).elim
  | j2 v a b => rw [WT] at h; exact (e1 h.1).elim
theorem wordT_no {t : Tr} (h : WT t) {ws : List Str} (k1 : ∀ v ∈ ws, v ∉ joW ∧ v ∉ heW ∧ v ∉ atW) (q : wordT t ∈ ws) : False := by
  obtain ⟨a1, a2, a3⟩ := k1 _ q
  rcases wordT_in h with e | e | e
  · exact a1 e
  · exact a2 e
  · exact a3 e
/-! the letters of the texts -/
theorem capsL_small : ∀ c ∈ sgs capsL, c < 0x110000 := by decide +kernel
theorem made_sml {k : Str} {m : Nat} (h : madeOf k capsL m = true) : sml k := fun c hc => capsL_small c ((madeOf_pos h).2.2 c hc)
theorem atW_sml : (atW.all smlB) = true := by decide +kernel
theorem joW_ok : ∀ w ∈ joW, okN 3 w := by
  intro w hw
  rcases jo_is hw with rfl | rfl
  · exact lit (by decide +kernel)
  · exact lit (by decide +kernel)
theorem heW_ok : ∀ w ∈ heW, okN 6 w := by
  intro w hw
  have : (heW.all fun y => decide (y.length ≤ 6) && smlB y) = true := by decide +kernel
  exact lit (List.all_eq_true.mp this w hw)
theorem sml_joinS {ws : List Str} (h : ∀ x ∈ ws, sml x) : sml (Txt.join " " ws) := fun c hc => by
  rcases mem_joined.mp hc with ⟨x, hx, hc⟩ | ⟨_, hc⟩
  · exact h x hx c hc
  · exact sml_of (z := " ") (by decide +kernel) c hc
theorem atm_ok {ws : List Str} (h : okAt ws) : okN 13 (Txt.join " " ws) := by
  refine ⟨?_, sml_joinS fun x hx => ?_⟩
  · have e1 : (Str.ofString " ").length = 1 := by decide +kernel
    have := join_lt " " ws
    rw [e1] at this
    rcases h with ⟨w, k, rfl, hw, hk⟩ | rfl
    · have h1 := atW_len w hw
      obtain ⟨_, h2, _⟩ := madeOf_pos hk
      simp only [List.map_cons, List.map_nil, List.sum_cons, List.sum_nil, List.length_cons, List.length_nil] at this
      omega
    · decide +kernel
  · rcases h with ⟨w, k, rfl, hw, hk⟩ | rfl
    · rcases List.mem_cons.mp hx with rfl | hx
      · exact sml_of (List.all_eq_true.mp atW_sml _ hw)
      · rw [List.mem_singleton.mp hx]; exact made_sml hk
    · rw [List.mem_singleton.mp hx]; exact sml_of (by decide +kernel)
theorem sp_ok : okN 1 " " := lit (by decide +kernel)
theorem op_ok : okN 2 "( " := lit (by decide +kernel)
theorem cl_ok : okN 2 " )" := lit (by decide +kernel)
theorem bndT_ok {w : Str} {t : Tr} {z : Str} {n : Nat} (h : okN n z) : okN (n + 4) (bndT w t z) := by
  unfold bndT
  split
  · exact ((op_ok.app h).app cl_ok).up (by omega)
  · exact h.up (by omega)
theorem shwT_ok : ∀ {t : Tr}, WT t → okN (17 * szT t) (shwT t)
  | .aw ws, h => by
    rw [WT] at h
    rw [shwT, szT]
    exact (atm_ok h).up (by decide)
  | .hd w t, h => by
    rw [WT] at h
    rw [shwT, szT]
    exact ((((heW_ok w h.1).app sp_ok).app (bndT_ok (shwT_ok h.2))).up (by omega))
  | .j2 w a b, h => by
    rw [WT] at h
    rw [shwT, szT]
    exact (((((bndT_ok (shwT_ok h.2.1)).app sp_ok).app (joW_ok w h.1)).app sp_ok).app (bndT_ok (shwT_ok h.2.2))).up (by omega)
def LShownS (n : Nat) : SpecT := fun ss O R => ∃ t : Tr, ss = [.dat (tD t)] ∧ WT t ∧ htT t ≤ n ∧ szT t ≤ 150 ∧ R (.ret (.dat (.str (shwT t)))) O
def LBoundS (n : Nat) : SpecT := fun ss O R => ∃ (t : Tr) (w : Str), ss = [.dat (tD t), .dat (.str w)] ∧ WT t ∧ htT t ≤ n ∧ szT t ≤ 150 ∧ R (.ret (.dat (.str (bndT w t (shwT t))))) O
theorem zero_law_shown {ss : List Slot} {O : Own} {R : Out → Own → Prop} (h : LShownS 0 ss O R) : False := by
  obtain ⟨c, _, _, h0, _⟩ := h
  have := htT_pos c
  omega
section
variable {P : Program} {w : World} {K : PySem.W.Frag} {mg : Str → Option Value} {base : Heap}
theorem fn_law_bound (T : TopOf K mg) (Z : Facts K) (n : Nat) (cr : Cal P w K mg base false (2 * n + 2) "_law_shown" (LShownS n) []) {f : Addr} {fd : FuncData} (F : L2.Fun K "_law_bound" "_law_bound" s_law_bound f fd) : Fn P w K mg base false (2 * n + 3) f fd ["_law_tree", "_law_word"] (LBoundS n) := by
  have sc := sc_law_bound
  refine fn_mk F sc_law_bound (fun ss O R h => by first | (obtain ⟨_, rfl, _⟩ := h; rfl) | (obtain ⟨_, _, rfl, _⟩ := h; rfl) | (obtain ⟨_, _, _, rfl, _⟩ := h; rfl) | (obtain ⟨_, _, _, _, rfl, _⟩ := h; rfl) | (obtain ⟨_, _, _, _, _, rfl, _⟩ := h; rfl) | (obtain ⟨_, _, _, _, _, _, rfl, _⟩ := h; rfl) | (obtain ⟨_, _, _, _, _, _, _, rfl, _⟩ := h; rfl)) fun cdv A outer s H E ss O R hr hpo h => ?_
  obtain ⟨t, w0, rfl, hw, hn, hz, h⟩ := h
  have hs := shwT_ok hw
  have hs : okN 2600 (shwT t) := hs.up (by omega)
  -- 0:_law_tree 1:_law_word 2:_law_text 3:_law_needs
  refine sw_cons ?_
  refine s1_set 2 ?_ sc.nd
  refine ew_call cr (hj := by omega) hr ?_
  refine aw_cons ?_
  refine ew_var 0 ?_
  refine aw_nil ?_
  refine ⟨t, rfl, hw, hn, hz, ?_⟩
  refine sw_cons ?_
  refine s1_set 3 (ew_ev (d := .bl (needT w0 t)) (ev_or (ev_and (ew_cmp (ew_ix (ew_var 0 (ew_int (ix_wordT hw (ew_str (ob_eqS ⟨rfl, rfl⟩))))))) fun _ => ew_one (ew_cmp (ew_var 1 (ew_str (ob_neS ⟨rfl, rfl⟩))))) fun _ => ew_one (ev_and (ew_cmp (ew_ix (ew_var 0 (ew_int (ix_wordT hw (ew_str (ob_eqS ⟨rfl, rfl⟩))))))) fun _ => ew_one (ew_cmp (ew_var 1 (ew_tup (aw_cons (ew_str (aw_cons (ew_str (aw_nil ⟨[_, _], rfl, by walk_at "few", ob_niT (ws := joW) ⟨rfl, rfl⟩⟩)))))))))) ?_) sc.nd
  refine sw_one ?_
  refine s1_ret ?_
  refine ew_if ?_
  refine tw_truth ?_
  refine ew_var 3 ?_
  refine ⟨fun ht => ?_, fun ht => ?_⟩
  · have ep : bndT w0 t (shwT t) = "( " ++ shwT t ++ " )" := if_pos ht
    rw [ep] at h
    refine ew_bin ?_
    refine ew_bin ?_
    refine ew_str ?_
    refine ew_var 2 ?_
    refine ob_catN op_ok hs (by decide) ?_
    refine ew_str ?_
    refine ob_catN (op_ok.app hs) cl_ok (by decide) ?_
    exact h
  · have ep : bndT w0 t (shwT t) = shwT t := if_neg (by rw [show needT w0 t = false from ht]; decide)
    rw [ep] at h
    refine ew_var 2 ?_
    exact h
theorem c_law_bound (T : TopOf K mg) (Z : Facts K) (n : Nat) (cr : Cal P w K mg base false (2 * n + 2) "_law_shown" (LShownS n) []) : Cal P w K mg base false (2 * n + 3) "_law_bound" (LBoundS n) [] := cal_of T Z.d_law_bound (by walk_at "b2") fun f fd F => fn_law_bound T Z n cr F
theorem fn_law_shown (T : TopOf K mg) (Z : Facts K) : ∀ (n : Nat) {f : Addr} {fd : FuncData} (F : L2.Fun K "_law_shown" "_law_shown" s_law_shown f fd), Fn P w K mg base false (2 * n + 2) f fd ["_law_tree"] (LShownS n)
  | 0, f, fd, F => by
    refine fn_mk F sc_law_shown (fun ss O R h => by first | (obtain ⟨_, rfl, _⟩ := h; rfl) | (obtain ⟨_, _, rfl, _⟩ := h; rfl) | (obtain ⟨_, _, _, rfl, _⟩ := h; rfl) | (obtain ⟨_, _, _, _, rfl, _⟩ := h; rfl)) fun cdv A outer s H E ss O R hr hpo h => ?_
    exact (zero_law_shown h).elim
  | n + 1, f, fd, F => by
    have cr : Cal P w K mg base false (2 * n + 2) "_law_shown" (LShownS n) [] := cal_of T Z.d_law_shown (by walk_at "b1") fun f fd F => fn_law_shown T Z n F
    have sc := sc_law_shown
    refine fn_mk F sc_law_shown (fun ss O R h => by first | (obtain ⟨_, rfl, _⟩ := h; rfl) | (obtain ⟨_, _, rfl, _⟩ := h; rfl) | (obtain ⟨_, _, _, rfl, _⟩ := h; rfl) | (obtain ⟨_, _, _, _, rfl, _⟩ := h; rfl)) fun cdv A outer s H E ss O R hr hpo h => ?_
    have cp : Cal P w K mg base false (2 * n + 3) "_law_bound" (LBoundS n) [] := c_law_bound T Z n cr
    obtain ⟨t, rfl, hw, hn, hz, h⟩ := h
    -- 0:_law_tree 1:_law_word
    refine sw_cons ?_
    refine s1_set 1 ?_ sc.nd
    refine ew_ix ?_
    refine ew_var 0 ?_
    refine ew_int ?_
    refine ix_wordT hw ?_
    refine sw_cons ?_
    refine s1_if ?_
    refine tw_cmp ?_
    refine ew_var 1 ?_
    refine ew_tup ?_
    refine aw_cons ?_
    refine ew_str ?_
    refine aw_cons ?_
    refine ew_str ?_
    refine aw_nil ?_
    refine ⟨[_, _], rfl, by walk_at "few", ?_⟩
    refine ob_inT (ws := joW) ?_
    refine ⟨_, rfl, fun ht => ?_, fun ht => ?_⟩
    · have hwj : wordT t ∈ joW := any_mem.mp ht
      obtain ⟨v, a, b, rfl⟩ := j2_of hw hwj
      rw [WT] at hw
      rw [htT] at hn
      rw [szT] at hz
      rw [shwT] at h
      have e1 : tD (.j2 v a b) = .tup [.str v, tD a, tD b] := by rw [tD]
      have ha : okN (17 * szT a + 4) (bndT v a (shwT a)) := bndT_ok (shwT_ok hw.2.1)
      have hb : okN (17 * szT b + 4) (bndT v b (shwT b)) := bndT_ok (shwT_ok hw.2.2)
      have hv := joW_ok v hw.1
      refine sw_one ?_
      refine s1_ret ?_
      refine ew_bin ?_
      refine ew_bin ?_
      refine ew_bin ?_
      refine ew_bin ?_
      refine ew_call cp hr ?_ (hj := by omega)
      refine aw_cons ?_
      refine ew_ix ?_
      refine ew_var 0 ?_
      refine ew_int ?_
      
      try rw [e1]
      refine ix_tpl (d := tD a) rfl ?_
      refine aw_cons ?_
      refine ew_var 1 ?_
      refine aw_nil ?_
      refine ⟨a, v, rfl, hw.2.1, by omega, by omega, ?_⟩
      refine ew_str ?_
      refine ob_catN ha sp_ok (by omega) ?_
      refine ew_var 1 ?_
      refine ob_catN (ha.app sp_ok) hv (by omega) ?_
      refine ew_str ?_
      refine ob_catN ((ha.app sp_ok).app hv) sp_ok (by omega) ?_
      refine ew_call cp hr ?_ (hj := by omega)
      refine aw_cons ?_
      refine ew_ix ?_
      refine ew_var 0 ?_
      refine ew_int ?_
      
      try rw [e1]
      refine ix_tpl (d := tD b) rfl ?_
      refine aw_cons ?_
      refine ew_var 1 ?_
      refine aw_nil ?_
      refine ⟨b, v, rfl, hw.2.2, by omega, by omega, ?_⟩
      refine ob_catN (((ha.app sp_ok).app hv).app sp_ok) hb (by omega) ?_
      exact h
    · have hnj : wordT t ∉ joW := any_no.mp ht
      refine sw_nil ?_
      refine sw_cons ?_
      refine s1_if ?_
      refine tw_cmp ?_
      refine ew_var 1 ?_
      refine ew_tup ?_
      refine aw_cons ?_
      refine ew_str ?_
      refine aw_cons ?_
      refine ew_str ?_
      refine aw_cons ?_
      refine ew_str ?_
      refine aw_nil ?_
      refine ⟨[_, _, _], rfl, by walk_at "few", ?_⟩
      refine ob_inT (ws := heW) ?_
      refine ⟨_, rfl, fun ht => ?_, fun ht => ?_⟩
      · have hwh : wordT t ∈ heW := any_mem.mp ht
        obtain ⟨v, a, rfl⟩ := hdT_of hw hwh
        rw [WT] at hw
        rw [htT] at hn
        rw [szT] at hz
        rw [shwT] at h
        have e1 : tD (.hd v a) = .tup [.str v, tD a] := by rw [tD]
        have ha : okN (17 * szT a + 4) (bndT v a (shwT a)) := bndT_ok (shwT_ok hw.2)
        have hv := heW_ok v hw.1
        refine sw_one ?_
        refine s1_ret ?_
        refine ew_bin ?_
        refine ew_bin ?_
        refine ew_var 1 ?_
        refine ew_str ?_
        refine ob_catN hv sp_ok (by omega) ?_
        refine ew_call cp hr ?_ (hj := by omega)
        refine aw_cons ?_
        refine ew_ix ?_
        refine ew_var 0 ?_
        refine ew_int ?_
        
        try rw [e1]
        refine ix_tpl (d := tD a) rfl ?_
        refine aw_cons ?_
        refine ew_var 1 ?_
        refine aw_nil ?_
        refine ⟨a, v, rfl, hw.2, by omega, by omega, ?_⟩
        refine ob_catN (hv.app sp_ok) ha (by omega) ?_
        exact h
      · have hnh : wordT t ∉ heW := any_no.mp ht
        refine sw_nil ?_
        refine sw_cons ?_
        refine s1_if ?_
        refine tw_cmp ?_
        refine ew_var 1 ?_
        refine ew_tup ?_
        refine aw_cons ?_
        refine ew_str ?_
        refine aw_cons ?_
        refine ew_str ?_
        refine aw_nil ?_
        refine ⟨[_, _], rfl, by walk_at "few", ?_⟩
        refine ob_inT (ws := ["then", "next"]) ?_
        refine ⟨_, rfl, fun ht => ?_, fun ht => ?_⟩
        · exact (wordT_no hw (ws := ["then", "next"]) (by decide +kernel) (any_mem.mp ht)).elim
        · refine sw_nil ?_
          refine sw_cons ?_
          refine s1_if ?_
          refine tw_cmp ?_
          refine ew_var 1 ?_
          refine ew_str ?_
          walk_at "cmp Eq"
          refine ⟨_, rfl, fun ht => ?_, fun ht => ?_⟩
          · exact (wordT_no hw (ws := ["count"]) (by decide +kernel) (by rw [of_decide_eq_true ht]; exact List.mem_singleton.mpr rfl)).elim
          · obtain ⟨ws, rfl⟩ := awT_of hw hnj hnh
            rw [WT] at hw
            rw [shwT] at h
            have hal := atm_len hw
            have e1 : tD (.aw ws) = .tup (ws.map .str) := by rw [tD]
            refine sw_nil ?_
            refine sw_one ?_
            refine s1_ret ?_
            refine ew_join ?_
            refine ew_str ?_
            refine ⟨_, rfl, ?_⟩
            refine ew_var 0 ?_
            
            try rw [e1]
            refine m1_joinT (by rw [show (Str.ofString " ").length = 1 by decide +kernel]; omega) ?_
            exact h
theorem c_law_shown (T : TopOf K mg) (Z : Facts K) (n : Nat) : Cal P w K mg base false (2 * n + 2) "_law_shown" (LShownS n) [] := cal_of T Z.d_law_shown (by walk_at "b1") fun f fd F => fn_law_shown T Z n F
end
/-! what is written of a tree -/
def qD (q : Str × Nat) : Dat := .tup [.str q.1, .int (q.2 : Int)]
def clsQ (q : Str × Nat) : Str × Nat := ("( " ++ q.1 ++ " )", q.2 + 1)
def hdQ (w : Str) (q : Str × Nat) : Str × Nat := (w ++ " " ++ q.1, q.2 + 1)
def j2Q (w : Str) (p q : Str × Nat) : Str × Nat := (p.1 ++ " " ++ w ++ " " ++ q.1, max p.2 q.2)
def inH (t : Tr) (q : Str × Nat) : Str × Nat := if joW.any (· == wordT t) = true then clsQ q else q
def inJ (w : Str) (t : Tr) (q : Str × Nat) : Str × Nat := if (decide (w = "and") && decide (wordT t = "or")) = true then clsQ q else q
inductive Wr : Tr → Str × Nat → Prop
  | aw {ws : List Str} : Wr (.aw ws) (Txt.join " " ws, 0)
  | hd {w : Str} {t : Tr} {q : Str × Nat} : Wr t q → Wr (.hd w t) (hdQ w (inH t q))
  | j2 {w : Str} {a b : Tr} {p q : Str × Nat} : Wr a p → Wr b q → Wr (.j2 w a b) (j2Q w (inJ w a p) (inJ w b q))
  | cl {t : Tr} {q : Str × Nat} : Wr t q → Wr t (clsQ q)
/-- bounds of what is written -/
def qOk (n : Nat) (q : Str × Nat) : Prop := okN (17 * n) q.1 ∧ q.2 ≤ 3 * n
theorem clsQ_ok {n : Nat} {q : Str × Nat} (h : okN n q.1) : okN (n + 4) (clsQ q).1 := ((op_ok.app h).app cl_ok).up (by omega)
theorem inH_ok {n : Nat} {t : Tr} {q : Str × Nat} (h : okN n q.1) : okN (n + 4) (inH t q).1 ∧ (inH t q).2 ≤ q.2 + 1 := by
  unfold inH
  split
  · exact ⟨clsQ_ok h, Nat.le_refl _⟩
  · exact ⟨h.up (by omega), by omega⟩
theorem inJ_ok {n : Nat} {w : Str} {t : Tr} {q : Str × Nat} (h : okN n q.1) : okN (n + 4) (inJ w t q).1 ∧ (inJ w t q).2 ≤ q.2 + 1 := by
  unfold inJ
  split
  · exact ⟨clsQ_ok h, Nat.le_refl _⟩
  · exact ⟨h.up (by omega), by omega⟩
def ClosedS : SpecT := fun ss O R => ∃ q : Str × Nat, ss = [.dat (qD q)] ∧ okN 3000 q.1 ∧ R (.ret (.dat (qD (clsQ q)))) O
def WrS (n : Nat) : SpecT := fun ss O R => ∃ (p : Addr) (b : Cell) (t : Tr), ss = [.own p, .dat (tD t)] ∧ O p = some b ∧ isBox b ∧ WT t ∧ htT t ≤ n ∧ szT t ≤ 150 ∧
  ∀ (b' : Cell) (q : Str × Nat), isBox b' → Wr t q → okN (17 * szT t) q.1 → q.2 ≤ 3 * szT t → R (.ret (.dat (qD q))) (up O p b')
theorem zero_law_written {ss : List Slot} {O : Own} {R : Out → Own → Prop} (h : WrS 0 ss O R) : False := by
  obtain ⟨_, _, c, _, _, _, _, h0, _⟩ := h
  have := htT_pos c
  omega
/-- an atom that begins with root is root alone -/
def AT : Tr → Prop
  | .aw ws => ws.headD "" = ("root" : Str) → ws = (["root"] : List Str)
  | .hd _ t => AT t
  | .j2 _ a b => AT a ∧ AT b
def sixA : List Str := ["is", "is", "earlier", "later", "later", "root"]
theorem sixA_in : ∀ w ∈ sixA, w ∈ atW := by decide +kernel
def WishS (n : Nat) : SpecT := fun ss O R => ∃ (p : Addr) (b : Cell) (caps : List Str) (s : Int), ss = [.own p, .dat (.lst (caps.map .str)), .dat (.int s)] ∧ O p = some b ∧ isBox b ∧ 1 ≤ caps.length ∧ caps.length ≤ 6 ∧ (∀ y ∈ caps, okK y) ∧ 1 ≤ s ∧ s ≤ (n : Int) ∧ n ≤ 20 ∧
  ∀ (b' : Cell) (t : Tr), isBox b' → WT t → AT t → htT t ≤ 2 * s.toNat → szT t + 2 ≤ 4 * s.toNat → R (.ret (.dat (tD t))) (up O p b')
theorem zero_law_wish {ss : List Slot} {O : Own} {R : Out → Own → Prop} (h : WishS 0 ss O R) : False := by
  obtain ⟨_, _, _, s, _, _, _, _, _, _, h1, h2, _⟩ := h
  omega
section
variable {P : Program} {w : World} {K : PySem.W.Frag} {mg : Str → Option Value} {base : Heap}
theorem fn_law_wish (T : TopOf K mg) (Z : Facts K) : ∀ (n : Nat) {f : Addr} {fd : FuncData} (F : L2.Fun K "_law_wish" "_law_wish" s_law_wish f fd), Fn P w K mg base false (n + 4) f fd ["_law_box_here", "_law_caps_here", "_law_size"] (WishS n)
  | 0, f, fd, F => by
    refine fn_mk F sc_law_wish (fun ss O R h => by first | (obtain ⟨_, rfl, _⟩ := h; rfl) | (obtain ⟨_, _, rfl, _⟩ := h; rfl) | (obtain ⟨_, _, _, rfl, _⟩ := h; rfl) | (obtain ⟨_, _, _, _, rfl, _⟩ := h; rfl)) fun cdv A outer s H E ss O R hr hpo h => ?_
    exact (zero_law_wish h).elim
  | n + 1, f, fd, F => by
    have cr : Cal P w K mg base false (n + 4) "_law_wish" (WishS n) [] := cal_of T Z.d_law_wish (by walk_at "b3") fun f fd F => fn_law_wish T Z n F
    have sc := sc_law_wish
    refine fn_mk F sc_law_wish (fun ss O R h => by first | (obtain ⟨_, rfl, _⟩ := h; rfl) | (obtain ⟨_, _, rfl, _⟩ := h; rfl) | (obtain ⟨_, _, _, rfl, _⟩ := h; rfl) | (obtain ⟨_, _, _, _, rfl, _⟩ := h; rfl)) fun cdv A outer s H E ss O R hr hpo h => ?_
    obtain ⟨p, b, caps, s, rfl, hp, hb, hc1, hc6, hck, hs1, hsn, hn20, h⟩ := h
    -- 0:_law_box_here 1:_law_caps_here 2:_law_size 3:_law_word 4:_law_atom 5:_law_form 6:_law_left 7:_law_one 8:_law_other 9:_law_tree
    refine sw_cons ?_
    refine s1_if ?_
    refine tw_cmp ?_
    refine ew_var 2 ?_
    refine ew_int ?_
    walk_at "cmp Eq"
    refine ⟨_, rfl, fun ht => ?_, fun ht => ?_⟩
    · obtain rfl : s = 1 := of_decide_eq_true ht
      refine sw_cons ?_
      refine s1_set 3 ?_ sc.nd
      refine ew_call (c_law_pick T Z) hr ?_ (hj := by omega)
      refine aw_cons ?_
      refine ew_var 0 ?_
      refine aw_cons ?_
      refine ew_lstD ?_
      refine aw_cons ?_
      refine ew_str ?_
      refine aw_cons ?_
      refine ew_str ?_
      refine aw_cons ?_
      refine ew_str ?_
      refine aw_cons ?_
      refine ew_str ?_
      refine aw_cons ?_
      refine ew_str ?_
      refine aw_cons ?_
      refine ew_str ?_
      refine aw_nil ?_
      refine ⟨[_, _, _, _, _, _], rfl, by walk_at "few", ?_⟩
      refine aw_nil ?_
      refine ⟨p, b, sixA.map .str, rfl, hp, hb, by decide, by decide, fun d b1 hd hb1 => ?_⟩
      obtain ⟨w0, hw0, rfl⟩ := List.mem_map.mp hd
      have hwa := sixA_in w0 hw0
      refine sw_cons ?_
      refine s1_set 4 ?_ sc.nd
      refine EW.mono (k := fun s O' => ∃ (ws : List Str) (b2 : Cell), s = .dat (tD (.aw ws)) ∧ okAt ws ∧ AT (.aw ws) ∧ isBox b2 ∧ O' = up O p b2) ?_ ?_
      · refine ew_if ?_
        refine tw_cmp ?_
        refine ew_var 3 ?_
        refine ew_str ?_
        walk_at "cmp Eq"
        refine ⟨_, rfl, fun ht => ?_, fun ht => ?_⟩
        · refine ew_tup ?_
          refine aw_cons ?_
          refine ew_str ?_
          refine aw_nil ?_
          refine ⟨[_], rfl, by walk_at "few", ?_⟩
          exact ⟨["root"], b1, by rw [tD]; rfl, .inr rfl, fun _ => rfl, hb1, rfl⟩
        · refine ew_tup ?_
          refine aw_cons ?_
          refine ew_var 3 ?_
          refine aw_cons ?_
          refine ew_call (c_law_pick T Z) hr ?_ (hj := by omega)
          refine aw_cons ?_
          refine ew_var 0 ?_
          refine aw_cons ?_
          refine ew_var 1 ?_
          refine aw_nil ?_
          refine ⟨p, b1, caps.map .str, rfl, up_at, hb1, by rw [List.length_map]; omega, by rw [List.length_map]; omega, fun d b2 hd2 hb2 => ?_⟩
          obtain ⟨k0, hk0, rfl⟩ := List.mem_map.mp hd2
          rw [up_up]
          refine aw_nil ?_
          refine ⟨[_, _], rfl, by walk_at "few", ?_⟩
          exact ⟨[w0, k0], b2, by rw [tD]; rfl, .inl ⟨w0, k0, rfl, hwa, (hck k0 hk0).2⟩, fun e => absurd e (of_decide_eq_false (by assumption)), hb2, rfl⟩
      intro s4 O4 ⟨ws, b2, e4, hok, hat, hb2, eO⟩
      subst e4 eO
      refine sw_one ?_
      refine s1_ret ?_
      refine ew_if ?_
      refine tw_cmp ?_
      refine ew_call (c_law_take T Z) hr ?_ (hj := by omega)
      refine aw_cons ?_
      refine ew_var 0 ?_
      refine aw_cons ?_
      refine ew_int ?_
      refine aw_nil ?_
      refine ⟨p, _, b2, rfl, up_at, hb2, by decide, by decide, fun u b3 hu0 hu1 hb3 => ?_⟩
      rw [up_up]
      refine ew_int ?_
      walk_at "cmp Eq"
      refine ⟨_, rfl, fun ht => ?_, fun ht => ?_⟩
      · refine ew_tup ?_
        refine aw_cons ?_
        refine ew_str ?_
        refine aw_cons ?_
        refine ew_var 4 ?_
        refine aw_nil ?_
        refine ⟨[_, _], rfl, by walk_at "few", ?_⟩
        have e1 : Dat.tup [.str "not", tD (.aw ws)] = tD (.hd "not" (.aw ws)) := rfl
        try rw [e1]
        exact h b3 _ hb3 (by rw [WT]; exact ⟨by decide +kernel, by rw [WT]; exact hok⟩) hat (by rw [htT, htT]; decide) (by rw [szT, szT]; decide)
      · refine ew_var 4 ?_
        exact h b3 _ hb3 (by rw [WT]; exact hok) hat (by rw [htT]; decide) (by rw [szT]; decide)
    · have hs2 : 2 ≤ s := by have := of_decide_eq_false ht; omega
      refine sw_nil ?_
      refine sw_cons ?_
      refine s1_set 5 ?_ sc.nd
      refine ew_call (c_law_take T Z) hr ?_ (hj := by omega)
      refine aw_cons ?_
      refine ew_var 0 ?_
      refine aw_cons ?_
      refine ew_int ?_
      refine aw_nil ?_
      refine ⟨p, _, b, rfl, hp, hb, by decide, by decide, fun form b1 hf0 hf1 hb1 => ?_⟩
      refine sw_cons ?_
      refine s1_if ?_
      refine tw_cmp ?_
      refine ew_var 5 ?_
      refine ew_int ?_
      walk_at "cmp Eq"
      refine ⟨_, rfl, fun ht => ?_, fun ht => ?_⟩
      · refine sw_one ?_
        refine s1_ret ?_
        refine ew_tup ?_
        refine aw_cons ?_
        refine ew_ix ?_
        refine ew_lstD ?_
        refine aw_cons ?_
        refine ew_str ?_
        refine aw_cons ?_
        refine ew_str ?_
        refine aw_nil ?_
        refine ⟨[_, _], rfl, by walk_at "few", ?_⟩
        refine ew_call (c_law_take T Z) hr ?_ (hj := by omega)
        refine aw_cons ?_
        refine ew_var 0 ?_
        refine aw_cons ?_
        refine ew_int ?_
        refine aw_nil ?_
        refine ⟨p, _, b1, rfl, up_at, hb1, by decide, by decide, fun v b2 hv0 hv1 hb2 => ?_⟩
        rw [up_up]
        
        obtain ⟨w0, hw0, hwh⟩ : ∃ w0, (["parent", "above"] : List Str)[v.toNat]? = some w0 ∧ w0 ∈ heW := by
          have : v = 0 ∨ v = 1 := by omega
          rcases this with rfl | rfl
          · exact ⟨"parent", rfl, by decide +kernel⟩
          · exact ⟨"above", rfl, by decide +kernel⟩
        refine ix_lst (d := .str w0) (by
          rw [show v = ((v.toNat : Nat) : Int) by omega]
          exact atI_nat (by
            show ((["parent", "above"] : List Str).map Dat.str)[v.toNat]? = _
            rw [List.getElem?_map, hw0]; rfl)) ?_
        refine aw_cons ?_
        refine ew_call cr hr ?_ (hj := by omega)
        refine aw_cons ?_
        refine ew_var 0 ?_
        refine aw_cons ?_
        refine ew_var 1 ?_
        refine aw_cons ?_
        refine ew_bin ?_
        refine ew_var 2 ?_
        refine ew_int ?_
        walk_at "op sub"
        refine aw_nil ?_
        refine ⟨p, b2, caps, s - 1, rfl, up_at, hb2, hc1, hc6, hck, by omega, by omega, by omega, fun b3 t hb3 hw hat ht0 hz => ?_⟩
        rw [up_up]
        refine aw_nil ?_
        refine ⟨[_, _], rfl, by walk_at "few", ?_⟩
        have e1 : Dat.tup [.str w0, tD t] = tD (.hd w0 t) := rfl
        try rw [e1]
        exact h b3 _ hb3 (by rw [WT]; exact ⟨hwh, hw⟩) hat (by rw [htT]; omega) (by rw [szT]; omega)
      · refine sw_nil ?_
        refine sw_cons ?_
        refine s1_set 6 ?_ sc.nd
        refine ew_bin ?_
        refine ew_int ?_
        refine ew_call (c_law_take T Z) hr ?_ (hj := by omega)
        refine aw_cons ?_
        refine ew_var 0 ?_
        refine aw_cons ?_
        refine ew_bin ?_
        refine ew_var 2 ?_
        refine ew_int ?_
        walk_at "op sub"
        refine aw_nil ?_
        refine ⟨p, _, b1, rfl, up_at, hb1, by omega, by omega, fun v b2 hv0 hv1 hb2 => ?_⟩
        rw [up_up]
        walk_at "op add"
        refine sw_cons ?_
        refine s1_par 7 8 ?_ sc.nd
        refine aw_cons ?_
        refine ew_call cr hr ?_ (hj := by omega)
        refine aw_cons ?_
        refine ew_var 0 ?_
        refine aw_cons ?_
        refine ew_var 1 ?_
        refine aw_cons ?_
        refine ew_var 6 ?_
        refine aw_nil ?_
        refine ⟨p, b2, caps, 1 + v, rfl, up_at, hb2, hc1, hc6, hck, by omega, by omega, by omega, fun b3 t1 hb3 hw1 hat1 ht1 hz1 => ?_⟩
        rw [up_up]
        refine aw_cons ?_
        refine ew_call cr hr ?_ (hj := by omega)
        refine aw_cons ?_
        refine ew_var 0 ?_
        refine aw_cons ?_
        refine ew_var 1 ?_
        refine aw_cons ?_
        refine ew_bin ?_
        refine ew_var 2 ?_
        refine ew_var 6 ?_
        walk_at "op sub"
        refine aw_nil ?_
        refine ⟨p, b3, caps, s - (1 + v), rfl, up_at, hb3, hc1, hc6, hck, by omega, by omega, by omega, fun b4 t2 hb4 hw2 hat2 ht2 hz2 => ?_⟩
        rw [up_up]
        refine aw_nil ?_
        refine ⟨_, _, rfl, ?_⟩
        refine sw_cons ?_
        refine s1_set 9 ?_ sc.nd
        refine ew_tup ?_
        refine aw_cons ?_
        refine ew_ix ?_
        refine ew_lstD ?_
        refine aw_cons ?_
        refine ew_str ?_
        refine aw_cons ?_
        refine ew_str ?_
        refine aw_nil ?_
        refine ⟨[_, _], rfl, by walk_at "few", ?_⟩
        refine ew_bin ?_
        refine ew_var 5 ?_
        refine ew_int ?_
        walk_at "op sub"
        
        have hf : form - 1 = 0 ∨ form - 1 = 1 := by
          have : form ≠ 0 := of_decide_eq_false (by assumption)
          omega
        obtain ⟨w0, hw0, hwh⟩ : ∃ w0, (["and", "or"] : List Str)[(form - 1).toNat]? = some w0 ∧ w0 ∈ joW := by
          rcases hf with e | e
          · rw [e]; exact ⟨"and", rfl, by decide +kernel⟩
          · rw [e]; exact ⟨"or", rfl, by decide +kernel⟩
        refine ix_lst (d := .str w0) (by
          rw [show form - 1 = (((form - 1).toNat : Nat) : Int) by omega]
          exact atI_nat (by
            show ((["and", "or"] : List Str).map Dat.str)[(form - 1).toNat]? = _
            rw [List.getElem?_map, hw0]; rfl)) ?_
        refine aw_cons ?_
        refine ew_var 7 ?_
        refine aw_cons ?_
        refine ew_var 8 ?_
        refine aw_nil ?_
        refine ⟨[_, _, _], rfl, by walk_at "few", ?_⟩
        refine sw_one ?_
        refine s1_ret ?_
        refine ew_if ?_
        refine tw_cmp ?_
        refine ew_call (c_law_take T Z) hr ?_ (hj := by omega)
        refine aw_cons ?_
        refine ew_var 0 ?_
        refine aw_cons ?_
        refine ew_int ?_
        refine aw_nil ?_
        refine ⟨p, _, b4, rfl, up_at, hb4, by decide, by decide, fun u b5 hu0 hu1 hb5 => ?_⟩
        rw [up_up]
        have e1 : Dat.tup [.str w0, tD t1, tD t2] = tD (.j2 w0 t1 t2) := rfl
        have hW : WT (.j2 w0 t1 t2) := by rw [WT]; exact ⟨hwh, hw1, hw2⟩
        refine ew_int ?_
        walk_at "cmp Eq"
        refine ⟨_, rfl, fun ht => ?_, fun ht => ?_⟩
        · refine ew_tup ?_
          refine aw_cons ?_
          refine ew_str ?_
          refine aw_cons ?_
          refine ew_var 9 ?_
          refine aw_nil ?_
          refine ⟨[_, _], rfl, by walk_at "few", ?_⟩
          try rw [e1]
          have e2 : Dat.tup [.str "not", tD (.j2 w0 t1 t2)] = tD (.hd "not" (.j2 w0 t1 t2)) := rfl
          rw [e2]
          exact h b5 _ hb5 (by rw [WT]; exact ⟨by decide +kernel, hW⟩) ⟨hat1, hat2⟩ (by rw [htT, htT]; omega) (by rw [szT, szT]; omega)
        · refine ew_var 9 ?_
          try rw [e1]
          exact h b5 _ hb5 hW ⟨hat1, hat2⟩ (by rw [htT]; omega) (by rw [szT]; omega)
theorem c_law_wish (T : TopOf K mg) (Z : Facts K) (n : Nat) : Cal P w K mg base false (n + 4) "_law_wish" (WishS n) [] := cal_of T Z.d_law_wish (by walk_at "b3") fun f fd F => fn_law_wish T Z n F
end
/-! the word at which a text is no question: the reader and the law's own look -/
def outR : Except Nat RS → Option Nat
  | .error i => some i
  | .ok _ => none
structure Sim (ws : List Str) (F : Option Nat) (i dp : Nat) (wn : Bool) : Prop where
  ex : ∃ (s : RS) (n : Nat), s.given = ws ∧ s.at = i ∧ s.below.length = dp ∧ i ≤ ws.length ∧ ws.length < i + n ∧ outR (RS.run n wn s) = F
theorem inW_yes {w : Str} {ws : List Str} (h : w ∈ ws) : inW (some w) ws = true := any_mem.mpr h
theorem inW_not {w : Str} {ws : List Str} (h : w ∉ ws) : inW (some w) ws = false := any_no.mpr h
theorem sim_new (ws : List Str) : Sim ws (outR (RS.run (ws.length + 1) true (RS.new ws))) 0 0 true := ⟨RS.new ws, ws.length + 1, rfl, rfl, rfl, Nat.zero_le _, by omega, rfl⟩
section
variable {ws : List Str} {F : Option Nat} {i dp : Nat} {w : Str}
theorem fuel_of {i n l : Nat} (h1 : i ≤ l) (h2 : l < i + n) : ∃ m, n = m + 1 := ⟨n - 1, by omega⟩
theorem sim_open (h : Sim ws F i dp true) (hi : ws[i]? = some ("(" : Str)) : Sim ws F (i + 1) (dp + 1) true := by
  obtain ⟨s, n, rfl, rfl, rfl, h1, h2, h3⟩ := h
  obtain ⟨m, rfl⟩ := fuel_of h1 h2
  have hl := (List.getElem?_eq_some_iff.mp hi).1
  have e : s.readP = .ok (false, s.next.deeper.push) := if_pos (show s.cur = some ("(" : Str) from hi)
  rw [run_part, e] at h3
  exact ⟨s.next.deeper.push, m, rfl, rfl, by show (s.below ++ [s.top]).length = _; rw [List.length_append]; rfl, hl, by omega, h3⟩
theorem op_he : ("(" : Str) ∉ heW := by decide +kernel
theorem op_at : ("(" : Str) ∉ atW := by decide +kernel
theorem cur_ne {s : RS} {w : Str} (hi : s.cur = some w) (h : w ≠ "(") : ¬ s.cur = some ("(" : Str) := fun e => h (by rw [hi] at e; cases e; rfl)
theorem sim_head (h : Sim ws F i dp true) (hi : ws[i]? = some w) (hw : w ∈ heW) : Sim ws F (i + 1) dp true := by
  obtain ⟨s, n, rfl, rfl, rfl, h1, h2, h3⟩ := h
  obtain ⟨m, rfl⟩ := fuel_of h1 h2
  have hl := (List.getElem?_eq_some_iff.mp hi).1
  have hc : s.cur = some w := hi
  have e : s.readP = .ok (false, s.next.deeper.head w) := by
    unfold RS.readP
    rw [if_neg (cur_ne hc (fun q => op_he (q ▸ hw))), hc, if_pos (inW_yes hw)]; rfl
  rw [run_part, e] at h3
  exact ⟨s.next.deeper.head w, m, rfl, rfl, rfl, hl, by omega, h3⟩
theorem read_atom_of {s : RS} (hc : s.cur = some w) (hw : w ∈ atW) : s.readP = (match s.readA with | .error i => .error i | .ok (c, s') => .ok (true, s'.atom c)) := by
  unfold RS.readP
  rw [if_neg (cur_ne hc (fun q => op_at (q ▸ hw))), hc, if_neg (by rw [inW_not (atW_he w hw)]; decide)]
  try (cases s.readA <;> rfl)
theorem sim_root (h : Sim ws F i dp true) (hi : ws[i]? = some ("root" : Str)) : Sim ws F (i + 1) dp false := by
  obtain ⟨s, n, rfl, rfl, rfl, h1, h2, h3⟩ := h
  obtain ⟨m, rfl⟩ := fuel_of h1 h2
  have hl := (List.getElem?_eq_some_iff.mp hi).1
  have hc : s.cur = some ("root" : Str) := hi
  have e0 : s.readA = .ok (.aw ["root"], s.next) := by
    unfold RS.readA
    rw [hc, if_pos (inW_yes (by decide +kernel)), if_pos rfl]
  have e : s.readP = .ok (true, s.next.atom (.aw ["root"])) := by
    rw [read_atom_of hc (by decide +kernel), e0]
  rw [run_part, e] at h3
  exact ⟨s.next.atom (.aw ["root"]), m, rfl, rfl, rfl, hl, by omega, h3⟩
theorem sim_kind {k : Str} (h : Sim ws F i dp true) (hi : ws[i]? = some w) (hw : w ∈ atW) (hr : w ≠ "root") (hk : ws[i + 1]? = some k) (hm : madeOf k capsL 4 = true) : Sim ws F (i + 2) dp false := by
  obtain ⟨s, n, rfl, rfl, rfl, h1, h2, h3⟩ := h
  obtain ⟨m, rfl⟩ := fuel_of h1 h2
  have hl := (List.getElem?_eq_some_iff.mp hk).1
  have hc : s.cur = some w := hi
  have hn : s.next.cur = some k := hk
  have e0 : s.readA = .ok (.aw [w, k], (s.next.next).use k) := by
    unfold RS.readA
    rw [hc, hn, if_pos (inW_yes hw), if_neg (fun e => hr (by cases e; rfl)), if_pos (show kindW (some k) = true from hm)]; rfl
  have e : s.readP = .ok (true, ((s.next.next).use k).atom (.aw [w, k])) := by
    rw [read_atom_of hc hw, e0]
  rw [run_part, e] at h3
  exact ⟨((s.next.next).use k).atom (.aw [w, k]), m, rfl, rfl, rfl, hl, by omega, h3⟩
theorem sim_nokind (h : Sim ws F i dp true) (hi : ws[i]? = some w) (hw : w ∈ atW) (hr : w ≠ "root") (hm : kindW ws[i + 1]? = false) : F = some (i + 1) := by
  obtain ⟨s, n, rfl, rfl, rfl, h1, h2, h3⟩ := h
  obtain ⟨m, rfl⟩ := fuel_of h1 h2
  have hc : s.cur = some w := hi
  have hn : kindW s.next.cur = false := hm
  have e0 : s.readA = .error (s.at + 1) := by
    unfold RS.readA
    rw [hc, if_pos (inW_yes hw), if_neg (fun e => hr (by cases e; rfl)), if_neg (by rw [hn]; decide)]
  have e : s.readP = .error (s.at + 1) := by
    rw [read_atom_of hc hw, e0]
  rw [run_part, e] at h3
  exact h3.symm
theorem sim_no (h : Sim ws F i dp true) (hi : ws[i]? = some w) (h4 : w ≠ "(") (h5 : w ∉ heW) (h6 : w ∉ atW) : F = some i := by
  obtain ⟨s, n, rfl, rfl, rfl, h1, h2, h3⟩ := h
  obtain ⟨m, rfl⟩ := fuel_of h1 h2
  have hc : s.cur = some w := hi
  have e0 : s.readA = .error s.at := by
    unfold RS.readA
    rw [hc, if_neg (by rw [inW_not h6]; decide)]
  have e : s.readP = .error s.at := by
    unfold RS.readP
    rw [if_neg (cur_ne hc h4), hc, if_neg (by rw [inW_not h5]; decide), e0]
  rw [run_part, e] at h3
  exact h3.symm
theorem goes_on {s : RS} (hc : s.cur = some w) : RS.goes false s = true := by
  unfold RS.goes
  rw [hc]; rfl
theorem sim_close {d : Nat} (h : Sim ws F i (d + 1) false) (hi : ws[i]? = some (")" : Str)) : Sim ws F (i + 1) d false := by
  obtain ⟨s, n, rfl, rfl, hb, h1, h2, h3⟩ := h
  obtain ⟨m, rfl⟩ := fuel_of h1 h2
  have hl := (List.getElem?_eq_some_iff.mp hi).1
  have hc : s.cur = some (")" : Str) := hi
  have hne : s.below ≠ [] := fun e => by rw [e] at hb; cases hb
  have e : s.readB = .ok (false, s.next.close) := by
    unfold RS.readB
    rw [hc, if_pos (inW_yes (by decide +kernel)), if_pos rfl, if_neg hne]
  rw [run_betw (goes_on hc), e] at h3
  obtain ⟨bs, t, eb⟩ := snoc_of hne
  have e2 := close_of (s := s.next) eb
  rw [e2] at h3
  rw [eb, List.length_append] at hb
  exact ⟨RS.add { s.next with below := bs, top := t, deep := s.next.deep - 1 } s.next.top.ended, m, rfl, rfl, by show bs.length = d; have hb : bs.length + 1 = d + 1 := hb; omega, hl, by omega, h3⟩
theorem sim_join (h : Sim ws F i dp false) (hi : ws[i]? = some w) (hw : w ∈ joW) : Sim ws F (i + 1) dp true := by
  obtain ⟨s, n, rfl, rfl, rfl, h1, h2, h3⟩ := h
  obtain ⟨m, rfl⟩ := fuel_of h1 h2
  have hl := (List.getElem?_eq_some_iff.mp hi).1
  have hc : s.cur = some w := hi
  rw [run_betw (goes_on hc)] at h3
  rcases jo_is hw with rfl | rfl
  · have e : s.readB = .ok (true, s.next) := by
      unfold RS.readB
      rw [hc, if_pos (inW_yes (by decide +kernel)), if_neg (fun e => absurd (Option.some.inj e) (by decide +kernel)), if_neg (fun e => absurd (Option.some.inj e) (by decide +kernel))]
    rw [e] at h3
    exact ⟨s.next, m, rfl, rfl, rfl, hl, by omega, h3⟩
  · have e : s.readB = .ok (true, { s.next with top := s.top.endG }) := by
      unfold RS.readB
      rw [hc, if_pos (inW_yes (by decide +kernel)), if_neg (fun e => absurd (Option.some.inj e) (by decide +kernel)), if_pos rfl]
    rw [e] at h3
    exact ⟨{ s.next with top := s.top.endG }, m, rfl, rfl, rfl, hl, by omega, h3⟩
theorem sim_nob (h : Sim ws F i dp false) (hi : ws[i]? = some w) (hw : w ∉ joW) (hc0 : w = ")" → dp = 0) : F = some i := by
  obtain ⟨s, n, rfl, rfl, rfl, h1, h2, h3⟩ := h
  obtain ⟨m, rfl⟩ := fuel_of h1 h2
  have hc : s.cur = some w := hi
  rw [run_betw (goes_on hc)] at h3
  have e : s.readB = .error s.at := by
    unfold RS.readB
    by_cases q : w = ")"
    · subst q
      rw [hc, if_pos (inW_yes (by decide +kernel)), if_pos rfl, if_pos (List.length_eq_zero_iff.mp (hc0 rfl))]
    · rw [hc, if_neg]
      rw [inW_not]
      · decide
      · intro hm
        rcases List.mem_cons.mp hm with e | hm
        · exact hw (by rw [e]; decide +kernel)
        rcases List.mem_cons.mp hm with e | hm
        · exact hw (by rw [e]; decide +kernel)
        exact q (List.mem_singleton.mp hm)
  rw [e] at h3
  exact h3.symm
theorem sim_end {wn : Bool} (h : Sim ws F i dp wn) (hi : ws.length ≤ i) : F = if wn = true ∨ 0 < dp then some ws.length else none := by
  obtain ⟨s, n, rfl, rfl, rfl, h1, h2, h3⟩ := h
  obtain ⟨m, rfl⟩ := fuel_of h1 h2
  have hl : s.at = s.given.length := Nat.le_antisymm h1 hi
  have hc : s.cur = none := List.getElem?_eq_none_iff.mpr hi
  cases wn with
  | true =>
    have e0 : s.readA = .error s.at := by
      unfold RS.readA
      rw [hc]; rfl
    have e : s.readP = .error s.at := by
      unfold RS.readP
      rw [if_neg (by rw [hc]; exact fun e => nomatch e), e0, hc]; rfl
    rw [run_part, e] at h3
    rw [if_pos (.inl rfl), ← h3, hl]; rfl
  | false =>
    by_cases hb : 0 < s.below.length
    · have hg : RS.goes false s = true := by
        unfold RS.goes
        rw [decide_eq_true (show 1 < s.below.length + 1 by omega)]; simp
      have e : s.readB = .error s.at := by
        unfold RS.readB
        rw [hc]; rfl
      rw [run_betw hg, e] at h3
      rw [if_pos (.inr hb), ← h3, hl]; rfl
    · have hg : RS.goes false s = false := by
        unfold RS.goes
        rw [hc, decide_eq_false (show ¬ 1 < s.below.length + 1 by omega)]; rfl
      rw [run_stop hg] at h3
      rw [if_neg (by rintro (e | e); cases e; exact hb e), ← h3]; rfl
end
/-! what the law tells of a text -/
def dueT (s : RS) : Dat := if 8 < s.atoms then .tup [.str "many", .str "atoms"] else if 6 < s.deepest then .tup [.str "many", .str "deep"] else
  if 2 < (outC s.top.ended).length then .tup [.str "many", .str "outer"] else .tup [.str "text", .str (shwC s.top.ended)]
def dueQ (z : Str) : Dat := match runQ z with
  | .error i => .tup [.str "word", .int (i : Int)]
  | .ok s => dueT s
def QrS : SpecT := fun ss O R => ∃ z : Str, ss = [.dat (.str z)] ∧ z.length ≤ 90000 ∧ R (.ret (.dat (dueQ z))) O
/-- what was read, and is not too great -/
theorem read_ok {z : Str} {s : RS} (hz : z.length ≤ 90000) (h : runQ z = .ok s) (h6 : s.deepest ≤ 6) : WF s.top.ended ∧ hgt s.top.ended ≤ 25 ∧ sz s.top.ended ≤ 700000 := by
  have hws : (wordsS z).length ≤ 100000 := Nat.le_trans (wordsS_count z) (Nat.le_trans (Nat.add_le_add_right hz 1) (by decide))
  have hwl : ∀ x ∈ wordsS z, x.length ≤ 100000 := fun x hx => Nat.le_trans (wordsS_len hx) (Nat.le_trans hz (by decide))
  obtain ⟨b1, d1, bl, hd1⟩ := run_ok (wn := true) (bd_new hws hwl) (dp_new _) (fun _ => rfl) h
  obtain ⟨q1, q2, _⟩ := ended_hgt b1 d1 bl h6
  have h1 := sz_ended s.top
  have h2 := b1.wt
  have h3 := b1.al
  have h4 := b1.len
  exact ⟨q1, q2, by omega⟩
/-- what the reading of a question asks, by what is due -/
theorem qread_by {K : PySem.W.Frag} {C : Addr} {z : Str} {O : Own} {R : Out → Own → Prop} (hC : clsAt K "Question" C) (hz : z.length ≤ 90000) (h1 : ∀ i, runQ z = .error i → noQ K R i O)
    (h2 : ∀ zz : Str, dueQ z = .tup [.str "many", .str zz] → manyX K R zz O)
    (h3 : ∀ s, runQ z = .ok s → dueQ z = .tup [.str "text", .str (shwC s.top.ended)] → s.deepest ≤ 6 → R (.ret (.dat (insQ C s.top.ended))) O) : QReadS K [.dat (.cls C), .dat (.str z)] O R := by
  refine ⟨C, z, rfl, hC, hz, h1, fun s hs => ⟨fun a1 => ?_, fun a1 a2 => ?_, fun a1 a2 a3 => ?_, fun a1 a2 a3 => ?_⟩⟩
  · refine h2 _ ?_
    unfold dueQ; rw [hs]; show dueT s = _; unfold dueT; rw [if_pos a1]
  · refine h2 _ ?_
    unfold dueQ; rw [hs]; show dueT s = _; unfold dueT; rw [if_neg (by omega), if_pos a2]
  · refine h2 _ ?_
    unfold dueQ; rw [hs]; show dueT s = _; unfold dueT; rw [if_neg (by omega), if_neg (by omega), if_pos a3]
  · refine h3 s hs ?_ a2
    unfold dueQ; rw [hs]; show dueT s = _; unfold dueT; rw [if_neg (by omega), if_neg (by omega), if_neg (by omega)]
section
variable {P : Program} {w : World} {K : PySem.W.Frag} {mg : Str → Option Value} {base : Heap}
theorem cm_qread (T : TopOf K mg) (Z : Facts K) {C : Addr} (hC : clsAt K "Question" C) : CMCal P w K mg base false 31 C "read" (QReadS K) [] := by
  obtain ⟨C', I_Question, mI, mRead, mSized, mMade, mStr, mEq, mAnd, mOr, mInv, n1, n2⟩ := Z.c_Question
  obtain rfl := at_inj hC I_Question.at_
  exact cmcal_of I_Question mRead (by walk_at "b2") fun f fd F => fn_Question_read T Z F
end
section
variable {P : Program} {w : World} {K : PySem.W.Frag} {mg : Str → Option Value} {base : Heap}
theorem fn_law_closed (T : TopOf K mg) (Z : Facts K) {f : Addr} {fd : FuncData} (F : L2.Fun K "_law_closed" "_law_closed" s_law_closed f fd) : Fn P w K mg base false (1) f fd ["_law_found"] (ClosedS) := by
  have sc := sc_law_closed
  refine fn_mk F sc_law_closed (fun ss O R h => by first | (obtain ⟨_, rfl, _⟩ := h; rfl) | (obtain ⟨_, _, rfl, _⟩ := h; rfl) | (obtain ⟨_, _, _, rfl, _⟩ := h; rfl) | (obtain ⟨_, _, _, _, rfl, _⟩ := h; rfl) | (obtain ⟨_, _, _, _, _, rfl, _⟩ := h; rfl) | (obtain ⟨_, _, _, _, _, _, rfl, _⟩ := h; rfl) | (obtain ⟨_, _, _, _, _, _, _, rfl, _⟩ := h; rfl)) fun cdv A outer s H E ss O R hr hpo h => ?_
  obtain ⟨q, rfl, hq, h⟩ := h
  -- 0:_law_found
  refine sw_one ?_
  refine s1_ret ?_
  refine ew_tup ?_
  refine aw_cons ?_
  refine ew_bin ?_
  refine ew_bin ?_
  refine ew_str ?_
  refine ew_ix ?_
  refine ew_var 0 ?_
  refine ew_int ?_
  refine ix_tpl (d := .str q.1) rfl ?_
  refine ob_catN op_ok hq (by decide) ?_
  refine ew_str ?_
  refine ob_catN (op_ok.app hq) cl_ok (by decide) ?_
  refine aw_cons ?_
  refine ew_bin ?_
  refine ew_ix ?_
  refine ew_var 0 ?_
  refine ew_int ?_
  refine ix_tpl (d := .int (q.2 : Int)) rfl ?_
  refine ew_int ?_
  walk_at "op add"
  refine aw_nil ?_
  refine ⟨[_, _], rfl, by walk_at "few", ?_⟩
  have e : qD (clsQ q) = .tup [.str ("( " ++ q.1 ++ " )"), .int ((q.2 : Int) + 1)] := by unfold qD clsQ; rw [Int.natCast_add]; rfl
  rw [e] at h
  exact h
theorem c_law_closed (T : TopOf K mg) (Z : Facts K) : Cal P w K mg base false (1) "_law_closed" (ClosedS) [] := cal_of T Z.d_law_closed (by walk_at "b1") fun f fd F => fn_law_closed T Z F
theorem fn_law_written (T : TopOf K mg) (Z : Facts K) : ∀ (n : Nat) {f : Addr} {fd : FuncData} (F : L2.Fun K "_law_written" "_law_written" s_law_written f fd), Fn P w K mg base false (n + 6) f fd ["_law_box_here", "_law_tree"] (WrS n)
  | 0, f, fd, F => by
    refine fn_mk F sc_law_written (fun ss O R h => by first | (obtain ⟨_, rfl, _⟩ := h; rfl) | (obtain ⟨_, _, rfl, _⟩ := h; rfl) | (obtain ⟨_, _, _, rfl, _⟩ := h; rfl) | (obtain ⟨_, _, _, _, rfl, _⟩ := h; rfl)) fun cdv A outer s H E ss O R hr hpo h => ?_
    exact (zero_law_written h).elim
  | n + 1, f, fd, F => by
    have cr : Cal P w K mg base false (n + 6) "_law_written" (WrS n) [] := cal_of T Z.d_law_written (by walk_at "b2") fun f fd F => fn_law_written T Z n F
    have sc := sc_law_written
    refine fn_mk F sc_law_written (fun ss O R h => by first | (obtain ⟨_, rfl, _⟩ := h; rfl) | (obtain ⟨_, _, rfl, _⟩ := h; rfl) | (obtain ⟨_, _, _, rfl, _⟩ := h; rfl) | (obtain ⟨_, _, _, _, rfl, _⟩ := h; rfl)) fun cdv A outer s H E ss O R hr hpo h => ?_
    obtain ⟨p, b, t, rfl, hp, hb, hw, hn, hz, h⟩ := h
    -- 0:_law_box_here 1:_law_tree 2:_law_word 3:_law_one 4:_law_two 5:_law_some 6:_law_part 7:_law_text 8:_law_found
    refine sw_cons ?_
    refine s1_set 2 ?_ sc.nd
    refine ew_ix ?_
    refine ew_var 1 ?_
    refine ew_int ?_
    refine ix_wordT hw ?_
    refine sw_cons ?_
    refine s1_if ?_
    refine tw_cmp ?_
    refine ew_var 2 ?_
    refine ew_tup ?_
    refine aw_cons ?_
    refine ew_str ?_
    refine aw_cons ?_
    refine ew_str ?_
    refine aw_nil ?_
    refine ⟨[_, _], rfl, by walk_at "few", ?_⟩
    refine ob_inT (ws := joW) ?_
    refine ⟨_, rfl, fun ht => ?_, fun ht => ?_⟩
    · have hwj : wordT t ∈ joW := any_mem.mp ht
      obtain ⟨v, a, c, rfl⟩ := j2_of hw hwj
      rw [WT] at hw
      rw [htT] at hn
      rw [szT] at hz h
      have e1 : tD (.j2 v a c) = .tup [.str v, tD a, tD c] := by rw [tD]
      have hv := joW_ok v hw.1
      refine sw_cons ?_
      refine s1_par 3 4 ?_ sc.nd
      refine aw_cons ?_
      refine ew_call cr hr ?_ (hj := by omega)
      refine aw_cons ?_
      refine ew_var 0 ?_
      refine aw_cons ?_
      refine ew_ix ?_
      refine ew_var 1 ?_
      refine ew_int ?_
      
      try rw [e1]
      refine ix_tpl (d := tD a) rfl ?_
      refine aw_nil ?_
      refine ⟨p, b, a, rfl, hp, hb, hw.2.1, by omega, by omega, fun b1 q1 hb1 hr1 ho1 hd1 => ?_⟩
      refine aw_cons ?_
      refine ew_call cr hr ?_ (hj := by omega)
      refine aw_cons ?_
      refine ew_var 0 ?_
      refine aw_cons ?_
      refine ew_ix ?_
      refine ew_var 1 ?_
      refine ew_int ?_
      
      try rw [e1]
      refine ix_tpl (d := tD c) rfl ?_
      refine aw_nil ?_
      refine ⟨p, b1, c, rfl, up_at, hb1, hw.2.2, by omega, by omega, fun b2 q2 hb2 hr2 ho2 hd2 => ?_⟩
      rw [up_up]
      refine aw_nil ?_
      refine ⟨_, _, rfl, ?_⟩
      refine sw_cons ?_
      refine s1_set 5 ?_ sc.nd
      refine ew_lstD ?_
      refine aw_cons ?_
      refine ew_tup ?_
      refine aw_cons ?_
      refine ew_ix ?_
      refine ew_var 1 ?_
      refine ew_int ?_
      
      try rw [e1]
      refine ix_tpl (d := tD a) rfl ?_
      refine aw_cons ?_
      refine ew_var 3 ?_
      refine aw_nil ?_
      refine ⟨[_, _], rfl, by walk_at "few", ?_⟩
      refine aw_cons ?_
      refine ew_tup ?_
      refine aw_cons ?_
      refine ew_ix ?_
      refine ew_var 1 ?_
      refine ew_int ?_
      
      try rw [e1]
      refine ix_tpl (d := tD c) rfl ?_
      refine aw_cons ?_
      refine ew_var 4 ?_
      refine aw_nil ?_
      refine ⟨[_, _], rfl, by walk_at "few", ?_⟩
      refine aw_nil ?_
      refine ⟨[_, _], rfl, by walk_at "few", ?_⟩
      refine sw_cons ?_
      refine s1_setMap1 [(a, q1), (c, q2)] (fun e : Tr × Str × Nat => .tup [tD e.1, qD e.2]) (fun e => qD (inJ v e.1 e.2)) [("_law_part", 6), ("_law_text", 7)] 5 sc.nd (.two (i := 6) (j := 7) (by decide) (by decide) fun Y ⟨_, _, _, _, _, e⟩ => by subst e; exact pg_tup rfl (pgs_cons (pg_name (i := 6) sc.nd rfl (.inl rfl) (.inr rfl)) (pgs_cons (pg_name (i := 7) sc.nd rfl (.inl rfl) (.inr rfl)) pgs_nil))) (blkOk_by (N := N_law_written) (sc := defScope s_law_written) (by decide +kernel)) (iw_list (ew_var 5 ⟨_, rfl, rfl, rfl⟩)) (show 2 ≤ sizeLine by decide) (fun e he => ⟨_, ⟨_, _, rfl, rfl⟩, fun O' Y hY => ?_⟩) (fun q hq => ?_)
      · obtain ⟨_, _, _, _, _, rfl⟩ := hY
        have hwe : WT e.1 ∧ okN 2700 e.2.1 := by
          rcases List.mem_cons.mp he with rfl | he
          · exact ⟨hw.2.1, ho1.up (by omega)⟩
          rw [List.mem_singleton.mp he]
          exact ⟨hw.2.2, ho2.up (by omega)⟩
        refine ew_if ?_
        refine tw_tv (t := decide (v = "and") && decide (wordT e.1 = "or")) (tv_w (tvw_and (tw_cmp (ew_var 2 (ew_str (ob_eqS ⟨_, rfl, rfl, rfl⟩)))) fun _ => tvw_and1 (tw_cmp (ew_ix (ew_var 6 (ew_int (ix_wordT hwe.1 (ew_str (ob_eqS ⟨_, rfl, rfl, rfl⟩))))))))) ?_
        refine ⟨fun ht => ?_, fun ht => ?_⟩
        · refine ew_call (c_law_closed T Z) hr ?_ (hj := by omega)
          refine aw_cons ?_
          refine ew_var 7 ?_
          refine aw_nil ?_
          refine ⟨e.2, rfl, hwe.2.up (by decide), ?_⟩
          rw [show inJ v e.1 e.2 = clsQ e.2 from if_pos ht]
          exact ⟨rfl, rfl⟩
        · refine ew_var 7 ?_
          rw [show inJ v e.1 e.2 = e.2 from if_neg (by rw [ht]; decide)]
          exact ⟨rfl, rfl⟩
      have npq : p ≠ q := own_ne up_at hq
      refine sw_frz 5 (ds := [qD (inJ v a q1), qD (inJ v c q2)]) (by rw [up_at]; rfl) ?_
      rw [dn_up hq]
      obtain ⟨o1, i1⟩ := inJ_ok (w := v) (t := a) ho1
      obtain ⟨o2, i2⟩ := inJ_ok (w := v) (t := c) ho2
      generalize hg1 : inJ v a q1 = r1 at o1 i1
      generalize hg2 : inJ v c q2 = r2 at o2 i2
      have hfin : Wr (.j2 v a c) (j2Q v r1 r2) := by rw [← hg1, ← hg2]; exact .j2 hr1 hr2
      have hfo : okN (17 * (1 + szT a + szT c) - 4) (j2Q v r1 r2).1 := ((((o1.app sp_ok).app hv).app sp_ok).app o2).up (by omega)
      have hfd : (j2Q v r1 r2).2 + 2 ≤ 3 * (1 + szT a + szT c) := by
        show max r1.2 r2.2 + 2 ≤ _
        omega
      have efin : qD (j2Q v r1 r2) = .tup [.str (r1.1 ++ " " ++ v ++ " " ++ r2.1), .int (if (r2.2 : Int) > (r1.2 : Int) then (r2.2 : Int) else (r1.2 : Int))] := by
        unfold qD j2Q
        have : ((max r1.2 r2.2 : Nat) : Int) = (if (r2.2 : Int) > (r1.2 : Int) then (r2.2 : Int) else (r1.2 : Int)) := by
          split <;> omega
        rw [this]
      refine sw_one ?_
      refine s1_set 8 ?_ sc.nd
      refine ew_tup ?_
      refine aw_cons ?_
      refine ew_bin ?_
      refine ew_bin ?_
      refine ew_bin ?_
      refine ew_bin ?_
      refine ew_ix ?_
      refine ew_ix ?_
      refine ew_var 5 ?_
      refine ew_int ?_
      refine ix_lst (d := qD r1) rfl ?_
      refine ew_int ?_
      refine ix_tpl (d := .str r1.1) rfl ?_
      refine ew_str ?_
      refine ob_catN o1 sp_ok (by omega) ?_
      refine ew_var 2 ?_
      refine ob_catN (o1.app sp_ok) hv (by omega) ?_
      refine ew_str ?_
      refine ob_catN ((o1.app sp_ok).app hv) sp_ok (by omega) ?_
      refine ew_ix ?_
      refine ew_ix ?_
      refine ew_var 5 ?_
      refine ew_int ?_
      refine ix_lst (d := qD r2) rfl ?_
      refine ew_int ?_
      refine ix_tpl (d := .str r2.1) rfl ?_
      refine ob_catN (((o1.app sp_ok).app hv).app sp_ok) o2 (by omega) ?_
      refine aw_cons ?_
      refine ew_callB (T.no Z.n_max) bt_max ?_
      refine aw_cons ?_
      refine ew_ix ?_
      refine ew_ix ?_
      refine ew_var 5 ?_
      refine ew_int ?_
      refine ix_lst (d := qD r1) rfl ?_
      refine ew_int ?_
      refine ix_tpl (d := .int (r1.2 : Int)) rfl ?_
      refine aw_cons ?_
      refine ew_ix ?_
      refine ew_ix ?_
      refine ew_var 5 ?_
      refine ew_int ?_
      refine ix_lst (d := qD r2) rfl ?_
      refine ew_int ?_
      refine ix_tpl (d := .int (r2.2 : Int)) rfl ?_
      refine aw_nil ?_
      walk_at "cb max"
      refine aw_nil ?_
      refine ⟨[_, _], rfl, by walk_at "few", ?_⟩
      refine sw_one ?_
      refine s1_ret ?_
      refine ew_if ?_
      refine tw_cmp ?_
      refine ew_call (c_law_take T Z) hr ?_ (hj := by omega)
      refine aw_cons ?_
      refine ew_var 0 ?_
      refine aw_cons ?_
      refine ew_int ?_
      refine aw_nil ?_
      refine ⟨p, _, b2, rfl, up_at, hb2, by decide, by decide, fun u b3 hu0 hu1 hb3 => ?_⟩
      rw [up_up]
      refine ew_int ?_
      walk_at "cmp Eq"
      refine ⟨_, rfl, fun ht => ?_, fun ht => ?_⟩
      · refine ew_call (c_law_closed T Z) hr ?_ (hj := by omega)
        refine aw_cons ?_
        refine ew_var 8 ?_
        refine aw_nil ?_
        refine ⟨j2Q v r1 r2, (show [Slot.dat (.tup _)] = [Slot.dat (qD _)] by rw [efin]; rfl), hfo.up (by omega), ?_⟩
        exact h b3 _ hb3 (.cl hfin) ((clsQ_ok hfo).up (by omega)) (by show (j2Q v r1 r2).2 + 1 ≤ _; omega)
      · refine ew_var 8 ?_
        have h := h b3 _ hb3 hfin (hfo.up (by omega)) (by omega)
        rw [efin] at h
        exact h
    · have hnj : wordT t ∉ joW := any_no.mp ht
      refine sw_one ?_
      refine s1_if ?_
      refine tw_cmp ?_
      refine ew_var 2 ?_
      refine ew_tup ?_
      refine aw_cons ?_
      refine ew_str ?_
      refine aw_cons ?_
      refine ew_str ?_
      refine aw_cons ?_
      refine ew_str ?_
      refine aw_nil ?_
      refine ⟨[_, _, _], rfl, by walk_at "few", ?_⟩
      refine ob_inT (ws := heW) ?_
      refine ⟨_, rfl, fun ht => ?_, fun ht => ?_⟩
      · have hwh : wordT t ∈ heW := any_mem.mp ht
        obtain ⟨v, a, rfl⟩ := hdT_of hw hwh
        rw [WT] at hw
        rw [htT] at hn
        rw [szT] at hz h
        have e1 : tD (.hd v a) = .tup [.str v, tD a] := by rw [tD]
        have hv := heW_ok v hw.1
        refine sw_cons ?_
        refine s1_set 7 ?_ sc.nd
        refine ew_call cr hr ?_ (hj := by omega)
        refine aw_cons ?_
        refine ew_var 0 ?_
        refine aw_cons ?_
        refine ew_ix ?_
        refine ew_var 1 ?_
        refine ew_int ?_
        
        try rw [e1]
        refine ix_tpl (d := tD a) rfl ?_
        refine aw_nil ?_
        refine ⟨p, b, a, rfl, hp, hb, hw.2, by omega, by omega, fun b1 q1 hb1 hr1 ho1 hd1 => ?_⟩
        refine sw_cons ?_
        refine s1_set 7 ?_ sc.nd
        refine ew_ev (d := (qD (inH a q1))) ?_ ?_
        · refine ew_if ?_
          refine tw_cmp ?_
          refine ew_ix ?_
          refine ew_ix ?_
          refine ew_var 1 ?_
          refine ew_int ?_
          
          try rw [e1]
          refine ix_tpl (d := tD a) rfl ?_
          refine ew_int ?_
          refine ix_wordT hw.2 ?_
          refine ew_tup ?_
          refine aw_cons ?_
          refine ew_str ?_
          refine aw_cons ?_
          refine ew_str ?_
          refine aw_nil ?_
          refine ⟨[_, _], rfl, by walk_at "few", ?_⟩
          refine ob_inT (ws := joW) ?_
          refine ⟨_, rfl, fun ht => ?_, fun ht => ?_⟩
          · refine ew_call (c_law_closed T Z) hr ?_ (hj := by omega)
            refine aw_cons ?_
            refine ew_var 7 ?_
            refine aw_nil ?_
            refine ⟨q1, rfl, ho1.up (by omega), ?_⟩
            rw [show inH a q1 = clsQ q1 from if_pos ht]
            exact ⟨rfl, rfl⟩
          · refine ew_var 7 ?_
            rw [show inH a q1 = q1 from if_neg (by rw [show joW.any (· == wordT a) = false from ht]; decide)]
            exact ⟨rfl, rfl⟩
        obtain ⟨o1, i1⟩ := inH_ok (t := a) ho1
        generalize hg1 : inH a q1 = r1 at o1 i1
        have hfin : Wr (.hd v a) (hdQ v r1) := by rw [← hg1]; exact .hd hr1
        have hfo : okN (17 * (1 + szT a) - 4) (hdQ v r1).1 := ((hv.app sp_ok).app o1).up (by omega)
        have hfd : (hdQ v r1).2 + 1 ≤ 3 * (1 + szT a) := by
          show r1.2 + 1 + 1 ≤ _
          omega
        have efin : qD (hdQ v r1) = .tup [.str (v ++ " " ++ r1.1), .int ((r1.2 : Int) + 1)] := by unfold qD hdQ; rw [Int.natCast_add]; rfl
        refine sw_one ?_
        refine s1_set 8 ?_ sc.nd
        refine ew_tup ?_
        refine aw_cons ?_
        refine ew_bin ?_
        refine ew_bin ?_
        refine ew_var 2 ?_
        refine ew_str ?_
        refine ob_catN hv sp_ok (by omega) ?_
        refine ew_ix ?_
        refine ew_var 7 ?_
        refine ew_int ?_
        refine ix_tpl (d := .str r1.1) rfl ?_
        refine ob_catN (hv.app sp_ok) o1 (by omega) ?_
        refine aw_cons ?_
        refine ew_bin ?_
        refine ew_ix ?_
        refine ew_var 7 ?_
        refine ew_int ?_
        refine ix_tpl (d := .int (r1.2 : Int)) rfl ?_
        refine ew_int ?_
        walk_at "op add"
        refine aw_nil ?_
        refine ⟨[_, _], rfl, by walk_at "few", ?_⟩
        refine sw_one ?_
        refine s1_ret ?_
        refine ew_if ?_
        refine tw_cmp ?_
        refine ew_call (c_law_take T Z) hr ?_ (hj := by omega)
        refine aw_cons ?_
        refine ew_var 0 ?_
        refine aw_cons ?_
        refine ew_int ?_
        refine aw_nil ?_
        refine ⟨p, _, b1, rfl, up_at, hb1, by decide, by decide, fun u b3 hu0 hu1 hb3 => ?_⟩
        rw [up_up]
        refine ew_int ?_
        walk_at "cmp Eq"
        refine ⟨_, rfl, fun ht => ?_, fun ht => ?_⟩
        · refine ew_call (c_law_closed T Z) hr ?_ (hj := by omega)
          refine aw_cons ?_
          refine ew_var 8 ?_
          refine aw_nil ?_
          refine ⟨hdQ v r1, (show [Slot.dat (.tup _)] = [Slot.dat (qD _)] by rw [efin]; rfl), hfo.up (by omega), ?_⟩
          exact h b3 _ hb3 (.cl hfin) ((clsQ_ok hfo).up (by omega)) (by show (hdQ v r1).2 + 1 ≤ _; omega)
        · refine ew_var 8 ?_
          have h := h b3 _ hb3 hfin (hfo.up (by omega)) (by omega)
          rw [efin] at h
          exact h
      · have hnh : wordT t ∉ heW := any_no.mp ht
        obtain ⟨ws, rfl⟩ := awT_of hw hnj hnh
        rw [WT] at hw
        rw [htT] at hn
        rw [szT] at h
        have hfo := atm_ok hw
        have hfin : Wr (.aw ws) (Txt.join " " ws, 0) := .aw
        refine sw_one ?_
        refine s1_set 8 ?_ sc.nd
        refine ew_tup ?_
        refine aw_cons ?_
        refine ew_call (c_law_shown T Z 1) hr ?_ (hj := by omega)
        refine aw_cons ?_
        refine ew_var 1 ?_
        refine aw_nil ?_
        refine ⟨.aw ws, rfl, hw, Nat.le_refl 1, by rw [szT]; decide, ?_⟩
        refine aw_cons ?_
        refine ew_int ?_
        refine aw_nil ?_
        refine ⟨[_, _], rfl, by walk_at "few", ?_⟩
        refine sw_one ?_
        refine s1_ret ?_
        refine ew_if ?_
        refine tw_cmp ?_
        refine ew_call (c_law_take T Z) hr ?_ (hj := by omega)
        refine aw_cons ?_
        refine ew_var 0 ?_
        refine aw_cons ?_
        refine ew_int ?_
        refine aw_nil ?_
        refine ⟨p, _, b, rfl, hp, hb, by decide, by decide, fun u b3 hu0 hu1 hb3 => ?_⟩
        refine ew_int ?_
        walk_at "cmp Eq"
        refine ⟨_, rfl, fun ht => ?_, fun ht => ?_⟩
        · refine ew_call (c_law_closed T Z) hr ?_ (hj := by omega)
          refine aw_cons ?_
          refine ew_var 8 ?_
          refine aw_nil ?_
          refine ⟨(Txt.join " " ws, 0), rfl, hfo.up (by decide), ?_⟩
          exact h b3 _ hb3 (.cl hfin) ((clsQ_ok hfo).up (by decide)) (by show 0 + 1 ≤ 3 * 1; decide)
        · refine ew_var 8 ?_
          exact h b3 _ hb3 hfin (hfo.up (by decide)) (by show 0 ≤ 3 * 1; decide)
theorem c_law_written (T : TopOf K mg) (Z : Facts K) (n : Nat) : Cal P w K mg base false (n + 6) "_law_written" (WrS n) [] := cal_of T Z.d_law_written (by walk_at "b2") fun f fd F => fn_law_written T Z n F
end
section
variable {P : Program} {w : World} {K : PySem.W.Frag} {mg : Str → Option Value} {base : Heap}
theorem fn_law_question_read (T : TopOf K mg) (Z : Facts K) {f : Addr} {fd : FuncData} (F : L2.Fun K "_law_question_read" "_law_question_read" s_law_question_read f fd) : Fn P w K mg base false (60) f fd ["_law_text"] (QrS) := by
  have sc := sc_law_question_read
  refine fn_mk F sc_law_question_read (fun ss O R h => by first | (obtain ⟨_, rfl, _⟩ := h; rfl) | (obtain ⟨_, _, rfl, _⟩ := h; rfl) | (obtain ⟨_, _, _, rfl, _⟩ := h; rfl) | (obtain ⟨_, _, _, _, rfl, _⟩ := h; rfl) | (obtain ⟨_, _, _, _, _, rfl, _⟩ := h; rfl) | (obtain ⟨_, _, _, _, _, _, rfl, _⟩ := h; rfl) | (obtain ⟨_, _, _, _, _, _, _, rfl, _⟩ := h; rfl)) fun cdv A outer s H E ss O R hr hpo h => ?_
  obtain ⟨z, rfl, hz, h⟩ := h
  obtain ⟨C, I, mI, mRead, mSized, mMade, mS, mEq, mAnd, mOr, mInv, n1, n2⟩ := Z.c_Question
  obtain ⟨CN, BN, XN, nfN⟩ := Z.x_NoQuestion
  obtain ⟨CT, BT, XT, nfT⟩ := Z.x_TooMany
  obtain ⟨CK, BK, XK, nfK⟩ := Z.x_NoKinds
  obtain ⟨CR, BR, XR, nfR⟩ := Z.x_NoRules
  obtain ⟨c1, c2, a1, a2, sTN⟩ := Z.e_TooMany_NoQuestion
  obtain rfl := at_inj a1 XT.a.at_
  obtain rfl := at_inj a2 XN.a.at_
  obtain ⟨c3, c4, a3, a4, sNK⟩ := Z.e_NoQuestion_NoKinds
  obtain rfl := at_inj a3 XN.a.at_
  obtain rfl := at_inj a4 XK.a.at_
  obtain ⟨c5, c6, a5, a6, sNR⟩ := Z.e_NoQuestion_NoRules
  obtain rfl := at_inj a5 XN.a.at_
  obtain rfl := at_inj a6 XR.a.at_
  obtain ⟨c7, a7, e1, e2⟩ := Z.e_cls_NoQuestion
  obtain rfl := at_inj a7 XN.a.at_
  obtain ⟨cK, aK, k1, k2⟩ := Z.e_cls_NoKinds
  obtain rfl := at_inj aK XK.a.at_
  obtain ⟨cR, aR, t1, t2⟩ := Z.e_cls_NoRules
  obtain rfl := at_inj aR XR.a.at_
  have exmF : PySem.W.exmOne K (.ref c1) (.ref c7) = some false := PySem.W.exm_ref XN.xf.exC XN.xf.hdC XN.a.oex.tyC sTN
  have nNK : Value.ref c7 ≠ .ref cK := fun e => by
    cases e
    rw [XN.own] at sNK; cases sNK
  have nNR : Value.ref c7 ≠ .ref cR := fun e => by
    cases e
    rw [XN.own] at sNR; cases sNR
  have kAny : PySem.W.kitAny K (.ref c7) [.ref cR, .ref cK] = some false := L2.kitAny_cons (kit_of_sub nNR t1 t2 sNR) (fun _ => L2.kitAny_cons (kit_of_sub nNK k1 k2 sNK) (fun _ => rfl) fun e => by cases e) fun e => by cases e
  -- 0:_law_text 1:_law_found 2:e
  refine sw_cons ?_
  refine s1_set 1 (ew_tup (aw_cons (ew_str (aw_nil ⟨[_], rfl, by walk_at "few", ?_⟩)))) sc.nd
  refine sw_cons ?_
  refine s1_try [⟨.ref c7, some 2, _, _⟩, ⟨.ref c1, some 2, _, _⟩] sc.nd (.cons ⟨rfl, by decide, .inl (T.is XN.a.at_)⟩ ⟨rfl, rfl⟩ (.cons ⟨rfl, by decide, .inl (T.is XT.a.at_)⟩ ⟨rfl, rfl⟩ .nil)) fun pn xe hpo2 => ?_
  refine sw_one ?_
  refine s1_set 1 ?_ sc.nd
  refine ew_tup ?_
  refine aw_cons ?_
  refine ew_str ?_
  refine aw_cons ?_
  refine ew_callTy (T.no Z.n_str) bt_str ?_
  refine aw_cons ?_
  refine ew_cmeth (cm_qread T Z I.at_) hr ?_
  refine ew_cls (T.is I.at_) ?_
  refine ⟨rfl, ?_⟩
  refine aw_cons ?_
  refine ew_var 0 ?_
  refine aw_nil ?_
  refine qread_by I.at_ hz (fun i hi C' hC' => ?_) (fun zz hzz C' hC' => ?_) fun s' hs' hd h6 => ?_
  · obtain rfl := at_inj XN.a.at_ hC'
    have e : dueQ z = .tup [.str "word", .int (i : Int)] := by unfold dueQ; rw [hi]
    rw [e] at h
    refine ⟨true, XN.exm, fun _ => ?_, fun e => by cases e⟩
    intro a dd oe pn2 hzc hf ha
    refine sw_one ?_
    refine s1_set 1 ?_ sc.nd
    refine ew_if ?_
    refine tw_w ?_
    refine tww_and ?_
    refine tw_val ?_
    refine ew_callB (T.no Z.n_isinstance) bt_isinstance ?_
    refine aw_cons ?_
    refine ew_var 2 ?_
    refine aw_cons ?_
    refine ew_cls (T.is XN.bat) ?_
    refine aw_nil ?_
    refine cb_isE XN.ec hzc hf XN.kit ?_
    refine ⟨_, rfl, fun ht => ?_, fun ht => by cases ht⟩
    refine tww_and1 ?_
    refine tw_not ?_
    refine tw_val ?_
    refine ew_callB (T.no Z.n_isinstance) bt_isinstance ?_
    refine aw_cons ?_
    refine ew_var 2 ?_
    refine aw_cons ?_
    refine ew_tup ?_
    refine aw_cons ?_
    refine ew_cls (T.is XR.a.at_) ?_
    refine aw_cons ?_
    refine ew_cls (T.is XK.a.at_) ?_
    refine aw_nil ?_
    refine ⟨[_, _], rfl, by walk_at "few", ?_⟩
    refine aw_nil ?_
    refine cb_isET (Cs := [cR, cK]) XN.ec hzc hf kAny ?_
    refine ⟨_, rfl, fun ht => ?_, fun ht => by cases ht⟩
    refine ew_tup ?_
    refine aw_cons ?_
    refine ew_str ?_
    refine aw_cons ?_
    refine ew_exf XN.xf nfN hzc hf ?_
    refine ew_var 2 ?_
    refine ⟨_, _, rfl, rfl, ?_⟩
    refine aw_nil ?_
    refine ⟨[_, _], rfl, by walk_at "few", ?_⟩
    refine sw_one ?_
    refine s1_ret ?_
    refine ew_var 1 ?_
    exact h
  · obtain rfl := at_inj XT.a.at_ hC'
    rw [hzz] at h
    refine ⟨false, exmF, fun e => (by cases e), fun _ => ⟨true, XT.exm, fun _ => ?_, fun e => by cases e⟩⟩
    intro a dd oe pn2 hzc hf ha
    refine sw_one ?_
    refine s1_set 1 ?_ sc.nd
    refine ew_tup ?_
    refine aw_cons ?_
    refine ew_str ?_
    refine aw_cons ?_
    refine ew_exf XT.xf nfT hzc hf ?_
    refine ew_var 2 ?_
    refine ⟨_, _, rfl, rfl, ?_⟩
    refine aw_nil ?_
    refine ⟨[_, _], rfl, by walk_at "few", ?_⟩
    refine sw_one ?_
    refine s1_ret ?_
    refine ew_var 1 ?_
    exact h
  · rw [hd] at h
    refine aw_nil ?_
    obtain ⟨r1, r2, r3⟩ := read_ok hz hs' h6
    obtain ⟨f0, fd0, hm0, F0⟩ := mS.ex
    refine cb_strOwn hm0.at_ hm0.fn (fn_Question_str T Z F0) (mbinds F0 (fun _ _ _ _ _ _ us hl => match us, hl with | [_], _ => rfl)) (hr.r.mono (by decide)) rfl ⟨C, s'.top.ended, rfl, I.at_, r1, r2, r3, ?_⟩
    refine ⟨_, rfl, ?_⟩
    refine aw_nil ?_
    refine ⟨[_, _], rfl, by walk_at "few", ?_⟩
    refine sw_one ?_
    refine s1_ret ?_
    refine ew_var 1 ?_
    exact h
theorem c_law_question_read (T : TopOf K mg) (Z : Facts K) : Cal P w K mg base false (60) "_law_question_read" (QrS) [] := cal_of T Z.d_law_question_read (by walk_at "b1") fun f fd F => fn_law_question_read T Z F
end
/-! what is written is read as the tree says -/
def valG (gs : List (List Cn)) : Cn := joinC "or" (gs.map (joinC "and"))
def hN (w : Str) : Nat := if w = "not" then 0 else 1
inductive Rg : List Str → List (List Cn) → Nat → Nat → Prop
  | aw {ws : List Str} : okAt ws → (ws.headD "" = ("root" : Str) → ws = (["root"] : List Str)) → Rg ws [[.aw ws]] 0 1
  | hd {w : Str} {ks : List Str} {c : Cn} {d n : Nat} : w ∈ heW → Rg ks [[c]] d n → Rg (w :: ks) [[.hd w c]] (d + 1) (n + hN w)
  | cl {ks : List Str} {gs : List (List Cn)} {d n : Nat} : Rg ks gs d n → Rg (("(" : Str) :: (ks ++ [(")" : Str)])) [[valG gs]] (d + 1) n
  | an {ks ls : List Str} {us vs : List Cn} {d e m n : Nat} : Rg ks [us] d m → Rg ls [vs] e n → Rg (ks ++ ("and" : Str) :: ls) [us ++ vs] (max d e) (m + n)
  | oo {ks ls : List Str} {gs hs : List (List Cn)} {d e m n : Nat} : Rg ks gs d m → Rg ls hs e n → Rg (ks ++ ("or" : Str) :: ls) (gs ++ hs) (max d e) (m + n)
def effG : List (List Cn) → FS → FS
  | [], t => t
  | [us], t => us.foldl FS.add t
  | us :: v :: r, t => effG (v :: r) (us.foldl FS.add t).endG
theorem Rg.ne {ks : List Str} {gs : List (List Cn)} {d n : Nat} (h : Rg ks gs d n) : gs ≠ [] ∧ (∀ us ∈ gs, us ≠ []) ∧ ks ≠ [] := by
  induction h with
  | aw h _ =>
    refine ⟨by simp, fun us hu => by rw [List.mem_singleton.mp hu]; simp, ?_⟩
    rcases h with ⟨w, k, rfl, _⟩ | rfl <;> simp
  | hd _ _ _ => exact ⟨by simp, fun us hu => by rw [List.mem_singleton.mp hu]; simp, by simp⟩
  | cl _ _ => exact ⟨by simp, fun us hu => by rw [List.mem_singleton.mp hu]; simp, by simp⟩
  | @an _ _ us vs _ _ _ _ _ _ i1 i2 => exact ⟨by simp, fun x hx => by rw [List.mem_singleton.mp hx]; have := i1.2.1 us (by simp); simp [this], by simp⟩
  | oo _ _ i1 i2 => exact ⟨by simp [i1.1], fun us hu => (List.mem_append.mp hu).elim (i1.2.1 us) (i2.2.1 us), by simp⟩
theorem eff_app : ∀ {gs hs : List (List Cn)} {t : FS}, gs ≠ [] → hs ≠ [] → effG (gs ++ hs) t = effG hs (effG gs t).endG
  | [us], [], t, _, h => absurd rfl h
  | [us], v :: r, t, _, _ => rfl
  | us :: u2 :: r, hs, t, _, h => by
    show effG ((u2 :: r) ++ hs) (us.foldl FS.add t).endG = _
    rw [eff_app (by simp) h]; rfl
theorem fold_add : ∀ {us : List Cn} {G P : List Cn}, us.foldl FS.add ⟨G, P, []⟩ = ⟨G, P ++ us, []⟩
  | [], G, P => by rw [List.append_nil]; rfl
  | u :: us, G, P => by
    show us.foldl FS.add ⟨G, P ++ [u], []⟩ = _
    rw [fold_add]; simp
theorem eff_end : ∀ {gs : List (List Cn)} {G : List Cn}, gs ≠ [] → (effG gs ⟨G, [], []⟩).endG.groups = G ++ gs.map (joinC "and")
  | [us], G, _ => by
    show (us.foldl FS.add ⟨G, [], []⟩).endG.groups = _
    rw [fold_add]; rfl
  | us :: v :: r, G, _ => by
    show (effG (v :: r) (us.foldl FS.add ⟨G, [], []⟩).endG).endG.groups = _
    rw [fold_add]
    show (effG (v :: r) ⟨G ++ [joinC "and" ([] ++ us)], [], []⟩).endG.groups = _
    rw [eff_end (by simp), List.nil_append]; simp
theorem eff_val {gs : List (List Cn)} (h : gs ≠ []) : (effG gs FS.new).ended = valG gs := by
  show joinC "or" (effG gs ⟨[], [], []⟩).endG.groups = _
  rw [eff_end h]; rfl
/-- behind the reading of a part -/
structure Aft (s s' : RS) (ks : List Str) (gs : List (List Cn)) (d n : Nat) : Prop where
  gv : s'.given = s.given
  at_ : s'.at = s.at + ks.length
  bl : s'.below = s.below
  tp : s'.top = effG gs s.top
  am : s'.atoms = s.atoms + n
  dp : s'.deep = s.deep - (s.top.heads.length : Int)
  ds : s'.deepest = max s.deepest (s.deep + d)
theorem fold_heads : ∀ {us : List Cn} {t : FS}, us ≠ [] → (us.foldl FS.add t).heads = []
  | [u], t, _ => rfl
  | u :: v :: r, t, _ => by
    show ((v :: r).foldl FS.add (t.add u)).heads = []
    exact fold_heads (by simp)
theorem eff_heads : ∀ {gs : List (List Cn)} {t : FS}, gs ≠ [] → (∀ us ∈ gs, us ≠ []) → (effG gs t).heads = []
  | [us], t, _, h => fold_heads (h us (by simp))
  | us :: v :: r, t, _, h => by
    show (effG (v :: r) _).heads = []
    exact eff_heads (by simp) fun u hu => h u (List.mem_cons_of_mem _ hu)
theorem deeper_max {s : RS} : s.deeper.deepest = max s.deepest (s.deep + 1) := by
  show (if s.deep + 1 > s.deepest then s.deep + 1 else s.deepest) = _
  split <;> omega
theorem cur_at {s : RS} {pre post : List Str} {k : Str} (hg : s.given = pre ++ k :: post) (ha : s.at = pre.length) : s.cur = some k := by
  unfold RS.cur
  rw [hg, ha, List.getElem?_append_right (Nat.le_refl _), Nat.sub_self]; rfl
theorem rg_read {ks : List Str} {gs : List (List Cn)} {d n : Nat} (h : Rg ks gs d n) : ∀ {s : RS} {pre post : List Str}, s.given = pre ++ (ks ++ post) → s.at = pre.length → s.deep ≤ s.deepest → ((∃ c, gs = [[c]]) ∨ s.top.heads = []) →
    ∃ (st : Nat) (s' : RS), st ≤ ks.length ∧ Aft s s' ks gs d n ∧ ∀ m, RS.run (m + st) true s = RS.run m false s' := by
  induction h with
  | @aw ws h hat =>
    intro s pre post hg ha hd _
    rcases h with ⟨w, k, rfl, hw, hk⟩ | rfl
    · have hc : s.cur = some w := cur_at hg ha
      have hn : s.next.cur = some k := cur_at (s := s.next) (pre := pre ++ [w]) (post := post) (by show s.given = _; rw [hg]; simp) (by show s.at + 1 = _; rw [ha]; simp)
      by_cases hr : w = "root"
      · exact absurd (congrArg List.length (hat hr)) (by rw [List.length_cons, List.length_cons]; simp)
      · have e0 : s.readA = .ok (.aw [w, k], (s.next.next).use k) := by
          unfold RS.readA
          rw [hc, hn, if_pos (inW_yes hw), if_neg (fun e => hr (by cases e; rfl)), if_pos (show kindW (some k) = true from hk)]; rfl
        have e : s.readP = .ok (true, ((s.next.next).use k).atom (.aw [w, k])) := by
          rw [read_atom_of hc hw, e0]
        refine ⟨1, ((s.next.next).use k).atom (.aw [w, k]), by rw [List.length_cons]; omega, ⟨rfl, rfl, rfl, rfl, rfl, rfl, ?_⟩, fun m => by rw [run_part, e]; rfl⟩
        show s.deepest = max s.deepest (s.deep + (0 : Int))
        omega
    · have hc : s.cur = some ("root" : Str) := cur_at hg ha
      have e0 : s.readA = .ok (.aw ["root"], s.next) := by
        unfold RS.readA
        rw [hc, if_pos (inW_yes (by decide +kernel)), if_pos rfl]
      have e : s.readP = .ok (true, s.next.atom (.aw ["root"])) := by
        rw [read_atom_of hc (by decide +kernel), e0]
      refine ⟨1, s.next.atom (.aw ["root"]), by decide, ⟨rfl, rfl, rfl, rfl, rfl, rfl, ?_⟩, fun m => by rw [run_part, e]; rfl⟩
      show s.deepest = max s.deepest (s.deep + (0 : Int))
      omega
  | @hd w ks c d n hw _ ih =>
    intro s pre post hg ha hd _
    have hc : s.cur = some w := cur_at hg ha
    have e : s.readP = .ok (false, s.next.deeper.head w) := by
      unfold RS.readP
      rw [if_neg (cur_ne hc (fun q => op_he (q ▸ hw))), hc, if_pos (inW_yes hw)]; rfl
    have hm : (s.next.deeper.head w).deepest = max s.deepest (s.deep + 1) := deeper_max (s := s.next)
    have hdp : (s.next.deeper.head w).deep = s.deep + 1 := rfl
    obtain ⟨st, s', hst, a, hr⟩ := ih (s := s.next.deeper.head w) (pre := pre ++ [w]) (post := post) (by show s.given = _; rw [hg]; simp) (by show s.at + 1 = _; rw [ha]; simp) (by rw [hm, hdp]; omega) (.inl ⟨c, rfl⟩)
    refine ⟨st + 1, s', by rw [List.length_cons]; omega, ⟨a.gv, ?_, a.bl, ?_, ?_, ?_, ?_⟩, fun m => ?_⟩
    · rw [a.at_, List.length_cons]
      show s.at + 1 + ks.length = _
      omega
    · rw [a.tp]
      show FS.add ⟨s.top.groups, s.top.parts, s.top.heads ++ [w]⟩ c = FS.add s.top (.hd w c)
      unfold FS.add
      rw [List.foldr_append]; rfl
    · rw [a.am]
      show s.atoms + (if w = "not" then 0 else 1) + n = s.atoms + (n + hN w)
      unfold hN
      omega
    · rw [a.dp, hdp]
      show s.deep + 1 - (((s.top.heads ++ [w]).length : Nat) : Int) = _
      rw [List.length_append, List.length_singleton]; omega
    · rw [a.ds, hm, hdp]
      show max (max s.deepest (s.deep + 1)) (s.deep + 1 + (d : Int)) = max s.deepest (s.deep + ((d + 1 : Nat) : Int))
      omega
    · rw [← Nat.add_assoc, run_part, e]
      exact hr m
  | @cl ks gs d n hR ih =>
    intro s pre post hg ha hd _
    have hc : s.cur = some ("(" : Str) := cur_at hg ha
    have e : s.readP = .ok (false, s.next.deeper.push) := if_pos hc
    have hm : s.next.deeper.push.deepest = max s.deepest (s.deep + 1) := deeper_max (s := s.next)
    have hdp : s.next.deeper.push.deep = s.deep + 1 := rfl
    obtain ⟨st, s', hst, a, hr⟩ := ih (s := s.next.deeper.push) (pre := pre ++ [("(" : Str)]) (post := (")" : Str) :: post) (by show s.given = _; rw [hg]; simp) (by show s.at + 1 = _; rw [ha]; simp) (by rw [hm, hdp]; omega) (.inr rfl)
    have hc2 : s'.cur = some (")" : Str) := cur_at (pre := pre ++ ("(" : Str) :: ks) (post := post) (by rw [a.gv]; show s.given = _; rw [hg]; simp) (by
      rw [a.at_]; show s.at + 1 + ks.length = _
      rw [ha, List.length_append, List.length_cons]; omega)
    have hbl : s'.below = s.below ++ [s.top] := a.bl
    have hne : s'.below ≠ [] := by rw [hbl]; simp
    have e2 : s'.readB = .ok (false, s'.next.close) := by
      unfold RS.readB
      rw [hc2, if_pos (inW_yes (by decide +kernel)), if_pos rfl, if_neg hne]
    have e3 := close_of (s := s'.next) (bs := s.below) (t := s.top) hbl
    have hv : s'.next.top.ended = valG gs := by
      show s'.top.ended = _
      rw [a.tp]
      exact eff_val hR.ne.1
    rw [hv] at e3
    have hd1 : s'.deep = s.deep + 1 := by
      rw [a.dp, hdp]
      show s.deep + 1 - ((([] : List Str).length : Nat) : Int) = _
      simp
    refine ⟨1 + st + 1, s'.next.close, by rw [List.length_cons, List.length_append, List.length_singleton]; omega, ?_, fun m => ?_⟩
    · rw [e3]
      refine ⟨a.gv, ?_, rfl, rfl, ?_, ?_, ?_⟩
      · show s'.at + 1 = s.at + (("(" : Str) :: (ks ++ [(")" : Str)])).length
        rw [a.at_, List.length_cons, List.length_append, List.length_singleton]
        show s.at + 1 + ks.length + 1 = _
        omega
      · show s'.atoms = _
        rw [a.am]; rfl
      · show s'.deep - 1 - (s.top.heads.length : Int) = _
        rw [hd1]; omega
      · show s'.deepest = _
        rw [a.ds, hm, hdp]
        omega
    · rw [show m + (1 + st + 1) = (m + 1 + st) + 1 by omega, run_part, e]
      show RS.run (m + 1 + st) true s.next.deeper.push = _
      rw [hr (m + 1), run_betw (goes_on hc2), e2]
  | @an ks ls us vs d e m n hR1 hR2 i1 i2 =>
    intro s pre post hg ha hd hh0
    have hh : s.top.heads = [] := by
      rcases hh0 with ⟨c, hc⟩ | hh0
      · exact absurd hc (by
        have h1 := hR1.ne.2.1 us (by simp)
        have h2 := hR2.ne.2.1 vs (by simp)
        intro q
        have q2 : us ++ vs = [c] := by injection q
        have q3 := congrArg List.length q2
        rw [List.length_append, List.length_singleton] at q3
        have := List.length_pos_iff.mpr h1
        have := List.length_pos_iff.mpr h2
        omega)
      · exact hh0
    obtain ⟨st, s1, hst, a, hr⟩ := i1 (s := s) (pre := pre) (post := ("and" : Str) :: (ls ++ post)) (by rw [hg]; simp) ha hd (.inr hh)
    have hc2 : s1.cur = some ("and" : Str) := cur_at (pre := pre ++ ks) (post := ls ++ post) (by rw [a.gv, hg]; simp) (by rw [a.at_, ha, List.length_append])
    have e2 : s1.readB = .ok (true, s1.next) := by
      unfold RS.readB
      rw [hc2, if_pos (inW_yes (by decide +kernel)), if_neg (fun e => absurd (Option.some.inj e) (by decide +kernel)), if_neg (fun e => absurd (Option.some.inj e) (by decide +kernel))]
    have hh1 : s1.top.heads = [] := by rw [a.tp]; exact eff_heads hR1.ne.1 hR1.ne.2.1
    have hd0 : s1.deep = s.deep := by rw [a.dp, hh]; simp
    have hd1 : s1.deep ≤ s1.deepest := by rw [hd0, a.ds]; omega
    obtain ⟨st2, s2, hst2, b, hr2⟩ := i2 (s := s1.next) (pre := pre ++ (ks ++ [("and" : Str)])) (post := post) (by show s1.given = _; rw [a.gv, hg]; simp) (by
      show s1.at + 1 = _
      rw [a.at_, ha, List.length_append, List.length_append, List.length_singleton]; omega) hd1 (.inr hh1)
    refine ⟨st + 1 + st2, s2, by rw [List.length_append, List.length_cons]; omega, ⟨b.gv.trans a.gv, ?_, b.bl.trans a.bl, ?_, ?_, ?_, ?_⟩, fun m => ?_⟩
    · rw [b.at_]
      show s1.at + 1 + ls.length = _
      rw [a.at_, List.length_append, List.length_cons]; omega
    · rw [b.tp]
      show effG [vs] s1.top = _
      rw [a.tp]
      show vs.foldl FS.add (us.foldl FS.add s.top) = (us ++ vs).foldl FS.add s.top
      rw [List.foldl_append]
    · rw [b.am]
      show s1.atoms + n = _
      rw [a.am]; omega
    · rw [b.dp]
      show s1.deep - ((s1.top.heads.length : Nat) : Int) = _
      rw [hh1, hh, hd0]
    · rw [b.ds]
      show max s1.deepest (s1.deep + (e : Int)) = _
      rw [a.ds, hd0]
      omega
    · rw [show m + (st + 1 + st2) = (m + st2 + 1) + st by omega, hr (m + st2 + 1), run_betw (goes_on hc2), e2]
      exact hr2 m
  | @oo ks ls gs hs d e m n hR1 hR2 i1 i2 =>
    intro s pre post hg ha hd hh0
    have hh : s.top.heads = [] := by
      rcases hh0 with ⟨c, hc⟩ | hh0
      · exact absurd hc (by
        have h1 := List.length_pos_iff.mpr hR1.ne.1
        have h2 := List.length_pos_iff.mpr hR2.ne.1
        intro q
        have q3 := congrArg List.length q
        rw [List.length_append, List.length_singleton] at q3
        omega)
      · exact hh0
    obtain ⟨st, s1, hst, a, hr⟩ := i1 (s := s) (pre := pre) (post := ("or" : Str) :: (ls ++ post)) (by rw [hg]; simp) ha hd (.inr hh)
    have hc2 : s1.cur = some ("or" : Str) := cur_at (pre := pre ++ ks) (post := ls ++ post) (by rw [a.gv, hg]; simp) (by rw [a.at_, ha, List.length_append])
    have e2 : s1.readB = .ok (true, { s1.next with top := s1.top.endG }) := by
      unfold RS.readB
      rw [hc2, if_pos (inW_yes (by decide +kernel)), if_neg (fun e => absurd (Option.some.inj e) (by decide +kernel)), if_pos rfl]
    have hh1 : s1.top.heads = [] := by rw [a.tp]; exact eff_heads hR1.ne.1 hR1.ne.2.1
    have hd0 : s1.deep = s.deep := by rw [a.dp, hh]; simp
    have hd1 : s1.deep ≤ s1.deepest := by rw [hd0, a.ds]; omega
    obtain ⟨st2, s2, hst2, b, hr2⟩ := i2 (s := { s1.next with top := s1.top.endG }) (pre := pre ++ (ks ++ [("or" : Str)])) (post := post) (by show s1.given = _; rw [a.gv, hg]; simp) (by
      show s1.at + 1 = _
      rw [a.at_, ha, List.length_append, List.length_append, List.length_singleton]; omega) hd1 (.inr hh1)
    refine ⟨st + 1 + st2, s2, by rw [List.length_append, List.length_cons]; omega, ⟨b.gv.trans a.gv, ?_, b.bl.trans a.bl, ?_, ?_, ?_, ?_⟩, fun m => ?_⟩
    · rw [b.at_]
      show s1.at + 1 + ls.length = _
      rw [a.at_, List.length_append, List.length_cons]; omega
    · rw [b.tp]
      show effG hs s1.top.endG = _
      rw [a.tp, eff_app hR1.ne.1 hR2.ne.1]
    · rw [b.am]
      show s1.atoms + n = _
      rw [a.am]; omega
    · rw [b.dp]
      show s1.deep - ((s1.top.heads.length : Nat) : Int) = _
      rw [hh1, hh, hd0]
    · rw [b.ds]
      show max s1.deepest (s1.deep + (e : Int)) = _
      rw [a.ds, hd0]
      omega
    · rw [show m + (st + 1 + st2) = (m + st2 + 1) + st by omega, hr (m + st2 + 1), run_betw (goes_on hc2), e2]
      exact hr2 m
/-! the condition that a tree tells; its texts -/
def norm : Tr → Cn
  | .aw ws => .aw ws
  | .hd w t => .hd w (norm t)
  | .j2 w a b => joinC w [norm a, norm b]
def cntT : Tr → Nat
  | .aw _ => 1
  | .hd w t => cntT t + hN w
  | .j2 _ a b => cntT a + cntT b
theorem flat_ne {w : Str} {us : List Cn} (h : us.length ≠ 1) : partsOf w (joinC w us) = us.flatMap (partsOf w) := by
  rw [joinC_ne h]
  exact parts_jn
theorem parts_join {w : Str} {us : List Cn} : partsOf w (joinC w us) = us.flatMap (partsOf w) := by
  by_cases h : us.length = 1
  · obtain ⟨c, rfl⟩ : ∃ c, us = [c] := by
      cases us with
      | nil => cases h
      | cons c r => cases r with
        | nil => exact ⟨c, rfl⟩
        | cons d r => simp at h
    show partsOf w c = [c].flatMap (partsOf w)
    simp
  · exact flat_ne h
theorem join_split2 {w : Str} {us vs : List Cn} (h1 : us ≠ []) (h2 : vs ≠ []) : joinC w (us ++ vs) = joinC w [joinC w us, joinC w vs] := by
  have l1 := List.length_pos_iff.mpr h1
  have l2 := List.length_pos_iff.mpr h2
  rw [joinC_ne (by rw [List.length_append]; omega), joinC_ne (by simp)]
  simp only [List.flatMap_append, List.flatMap_cons, List.flatMap_nil, List.append_nil, parts_join]
theorem join2_word {w : Str} {x y : Cn} : joinC w [x, y] = .jn w (partsOf w x ++ partsOf w y) := by
  rw [joinC_ne (by simp)]; simp
theorem word_norm {t : Tr} : wordC (norm t) = wordT t := by
  cases t with
  | aw ws => rfl
  | hd w t => rfl
  | j2 w a b =>
    rw [norm, join2_word]; rfl
theorem app_assoc (a b c : Str) : a ++ b ++ c = a ++ (b ++ c) := sgs_ext (by simp [sgs_app])
theorem join_cons {y a : Str} {ks : List Str} (h : ks ≠ []) : Txt.join y (a :: ks) = a ++ y ++ Txt.join y ks := by
  rw [TL.join_eq, TL.join_eq]
  cases ks with
  | nil => exact absurd rfl h
  | cons b r => rfl
theorem txt_one (y a : Str) : Txt.join y [a] = a := by rw [TL.join_eq]; rfl
theorem join_app {y : Str} : ∀ {ks ls : List Str}, ks ≠ [] → ls ≠ [] → Txt.join y (ks ++ ls) = Txt.join y ks ++ y ++ Txt.join y ls
  | [a], ls, _, h => by
    rw [List.singleton_append, join_cons h, txt_one]
  | a :: b :: r, ls, _, h => by
    show Txt.join y (a :: ((b :: r) ++ ls)) = _
    rw [join_cons (by simp), join_app (ks := b :: r) (by simp) h, join_cons (ks := b :: r) (by simp), app_assoc, app_assoc, app_assoc, app_assoc, app_assoc]
/-- a word: not empty, and no blank in it -/
def gw (k : Str) : Prop := 32 ∉ TL.tl k ∧ k ≠ ""
theorem gw_of {k : Str} (h : (!(sgs k).contains 32 && decide (k ≠ "")) = true) : gw k := by
  obtain ⟨h1, h2⟩ := Bool.and_eq_true_iff.mp h
  refine ⟨fun q => ?_, of_decide_eq_true h2⟩
  have : (sgs k).contains 32 = true := List.contains_iff_mem.mpr q
  rw [this] at h1; cases h1
theorem caps_nosp : ∀ c ∈ sgs capsL, c ≠ 32 := by decide +kernel
theorem gw_kind {k : Str} {m : Nat} (h : madeOf k capsL m = true) : gw k := by
  obtain ⟨h1, _, h3⟩ := madeOf_pos h
  exact ⟨fun q => caps_nosp 32 (h3 32 q) rfl, fun e => by rw [e] at h1; exact absurd h1 (by decide +kernel)⟩
theorem gw_list : (["is", "root", "earlier", "later", "not", "parent", "above", "and", "or", "(", ")"] : List Str).all (fun k => !(sgs k).contains 32 && decide (k ≠ "")) = true := by decide +kernel
theorem gw_in {k : Str} (h : k ∈ (["is", "root", "earlier", "later", "not", "parent", "above", "and", "or", "(", ")"] : List Str)) : gw k := gw_of (List.all_eq_true.mp gw_list k h)
theorem gw_atm {ws : List Str} (h : okAt ws) : ∀ k ∈ ws, gw k := by
  rcases h with ⟨w, k, rfl, hw, hk⟩ | rfl
  · intro x hx
    rcases List.mem_cons.mp hx with rfl | hx
    · have : ∀ v ∈ atW, v ∈ (["is", "root", "earlier", "later", "not", "parent", "above", "and", "or", "(", ")"] : List Str) := by decide +kernel
      exact gw_in (this _ hw)
    · rw [List.mem_singleton.mp hx]; exact gw_kind hk
  · intro x hx
    rw [List.mem_singleton.mp hx]; exact gw_in (by decide +kernel)
theorem gw_he {w : Str} (h : w ∈ heW) : gw w := by
  have : ∀ v ∈ heW, v ∈ (["is", "root", "earlier", "later", "not", "parent", "above", "and", "or", "(", ")"] : List Str) := by decide +kernel
  exact gw_in (this _ h)
theorem op_txt : Str.ofString "( " = Str.ofString "(" ++ Str.ofString " " := by decide +kernel
theorem cl_txt : Str.ofString " )" = Str.ofString " " ++ Str.ofString ")" := by decide +kernel
theorem txt_cl {ks : List Str} (h : ks ≠ []) : Txt.join " " (("(" : Str) :: (ks ++ [(")" : Str)])) = "( " ++ Txt.join " " ks ++ " )" := by
  rw [join_cons (by simp), join_app h (by simp), txt_one, op_txt, cl_txt, app_assoc, app_assoc, app_assoc, app_assoc]
theorem valG_one {us : List Cn} : valG [us] = joinC "and" us := rfl
theorem valG_unit {c : Cn} : valG [[c]] = c := rfl
/-- a part that was written is read as its tree says -/
structure Wd (t : Tr) (q : Str × Nat) : Prop where
  ex : ∃ (ks : List Str) (gs : List (List Cn)), Rg ks gs q.2 (cntT t) ∧ q.1 = Txt.join " " ks ∧ (∀ k ∈ ks, gw k) ∧ valG gs = norm t ∧ (wordT t ∉ joW → ∃ c, gs = [[c]]) ∧ (wordT t ≠ "or" → ∃ us, gs = [us])
theorem wd_cl {t : Tr} {q : Str × Nat} (h : Wd t q) : Wd t (clsQ q) := by
  obtain ⟨ks, gs, h1, h2, h3, h4, _⟩ := h
  refine ⟨("(" : Str) :: (ks ++ [(")" : Str)]), [[valG gs]], .cl h1, ?_, ?_, h4, fun _ => ⟨_, rfl⟩, fun _ => ⟨_, rfl⟩⟩
  · show "( " ++ q.1 ++ " )" = _
    rw [txt_cl h1.ne.2.2, h2]
  · intro k hk
    rcases List.mem_cons.mp hk with rfl | hk
    · exact gw_in (by decide +kernel)
    · rcases List.mem_append.mp hk with hk | hk
      · exact h3 k hk
      · rw [List.mem_singleton.mp hk]; exact gw_in (by decide +kernel)
/-- in parentheses, where its word is one of some -/
theorem wd_unit {t : Tr} {q : Str × Nat} (h : Wd t q) : ∃ (ks : List Str) (c : Cn), Rg ks [[c]] (inH t q).2 (cntT t) ∧ (inH t q).1 = Txt.join " " ks ∧ (∀ k ∈ ks, gw k) ∧ c = norm t := by
  unfold inH
  split
  · obtain ⟨ks, gs, h1, h2, h3, h4, h5, h6⟩ := wd_cl h
    rename_i hj
    obtain ⟨ks0, gs0, g1, g2, g3, g4, _⟩ := h
    refine ⟨("(" : Str) :: (ks0 ++ [(")" : Str)]), valG gs0, .cl g1, ?_, ?_, g4⟩
    · show "( " ++ q.1 ++ " )" = _
      rw [txt_cl g1.ne.2.2, g2]
    · intro k hk
      rcases List.mem_cons.mp hk with rfl | hk
      · exact gw_in (by decide +kernel)
      · rcases List.mem_append.mp hk with hk | hk
        · exact g3 k hk
        · rw [List.mem_singleton.mp hk]; exact gw_in (by decide +kernel)
  · rename_i hj
    obtain ⟨ks, gs, h1, h2, h3, h4, h5, h6⟩ := h
    obtain ⟨c, rfl⟩ := h5 (any_no.mp (by cases e : joW.any (· == wordT t) with | false => rfl | true => exact absurd e hj))
    exact ⟨ks, c, h1, h2, h3, h4⟩
theorem wd_in {w : Str} {t : Tr} {q : Str × Nat} (h : Wd t q) : Wd t (inJ w t q) ∧ (w = "and" → ∃ (ks : List Str) (us : List Cn), Rg ks [us] (inJ w t q).2 (cntT t) ∧ (inJ w t q).1 = Txt.join " " ks ∧ (∀ k ∈ ks, gw k) ∧ valG [us] = norm t) := by
  unfold inJ
  split
  · obtain ⟨ks0, gs0, g1, g2, g3, g4, _⟩ := h.ex
    refine ⟨wd_cl h, fun _ => ⟨("(" : Str) :: (ks0 ++ [(")" : Str)]), [valG gs0], .cl g1, ?_, ?_, g4⟩⟩
    · show "( " ++ q.1 ++ " )" = _
      rw [txt_cl g1.ne.2.2, g2]
    · intro k hk
      rcases List.mem_cons.mp hk with rfl | hk
      · exact gw_in (by decide +kernel)
      · rcases List.mem_append.mp hk with hk | hk
        · exact g3 k hk
        · rw [List.mem_singleton.mp hk]; exact gw_in (by decide +kernel)
  · rename_i hj
    refine ⟨h, fun hw => ?_⟩
    obtain ⟨ks, gs, h1, h2, h3, h4, h5, h6⟩ := h
    obtain ⟨us, rfl⟩ := h6 (fun e => hj (by rw [hw, e]; decide +kernel))
    exact ⟨ks, us, h1, h2, h3, h4⟩
theorem wr_read {t : Tr} {q : Str × Nat} (h : Wr t q) : WT t → AT t → Wd t q := by
  induction h with
  | @aw ws =>
    intro hw ha
    rw [WT] at hw
    exact ⟨ws, [[.aw ws]], .aw hw ha, rfl, gw_atm hw, rfl, fun _ => ⟨_, rfl⟩, fun _ => ⟨_, rfl⟩⟩
  | @hd w t q _ ih =>
    intro hw ha
    rw [WT] at hw
    obtain ⟨ks, c, h1, h2, h3, h4⟩ := wd_unit (ih hw.2 ha)
    refine ⟨w :: ks, [[.hd w c]], .hd hw.1 h1, ?_, ?_, ?_, fun _ => ⟨_, rfl⟩, fun _ => ⟨_, rfl⟩⟩
    · show w ++ " " ++ (inH t q).1 = _
      rw [join_cons h1.ne.2.2, h2]
    · intro k hk
      rcases List.mem_cons.mp hk with rfl | hk
      · exact gw_he hw.1
      · exact h3 k hk
    · rw [valG_unit, h4, norm]
  | @j2 w a b p q _ _ i1 i2 =>
    intro hw ha
    rw [WT] at hw
    obtain ⟨⟨ks, gs, h1, h2, h3, h4, _⟩, hA⟩ := wd_in (w := w) (i1 hw.2.1 ha.1)
    obtain ⟨⟨ls, hs, g1, g2, g3, g4, _⟩, hB⟩ := wd_in (w := w) (i2 hw.2.2 ha.2)
    have mem : ∀ {ks ls : List Str} {w : Str}, (∀ k ∈ ks, gw k) → (∀ k ∈ ls, gw k) → gw w → ∀ k ∈ ks ++ w :: ls, gw k := fun m1 m2 m3 k hk => by
      rcases List.mem_append.mp hk with hk | hk
      · exact m1 k hk
      · rcases List.mem_cons.mp hk with rfl | hk
        · exact m3
        · exact m2 k hk
    have txt : ∀ {ks ls : List Str} {w x y : Str}, ks ≠ [] → ls ≠ [] → x = Txt.join " " ks → y = Txt.join " " ls → x ++ " " ++ w ++ " " ++ y = Txt.join " " (ks ++ w :: ls) := fun m1 m2 m3 m4 => by
      rw [join_app m1 (by simp), join_cons m2, m3, m4, app_assoc, app_assoc, app_assoc, app_assoc, app_assoc]
    rcases jo_is hw.1 with rfl | rfl
    · obtain ⟨ks, us, h1, h2, h3, h4⟩ := hA rfl
      obtain ⟨ls, vs, g1, g2, g3, g4⟩ := hB rfl
      refine ⟨ks ++ ("and" : Str) :: ls, [us ++ vs], .an h1 g1, txt h1.ne.2.2 g1.ne.2.2 h2 g2, mem h3 g3 (gw_in (by decide +kernel)), ?_, fun e => absurd (show (Str.ofString "and") ∈ joW by decide +kernel) e, fun _ => ⟨_, rfl⟩⟩
      have e1 : joinC "and" us = norm a := h4
      have e2 : joinC "and" vs = norm b := g4
      rw [valG_one, join_split2 (h1.ne.2.1 us (by simp)) (g1.ne.2.1 vs (by simp)), e1, e2, norm]
    · refine ⟨ks ++ ("or" : Str) :: ls, gs ++ hs, .oo h1 g1, txt h1.ne.2.2 g1.ne.2.2 h2 g2, mem h3 g3 (gw_in (by decide +kernel)), ?_, fun e => absurd (show (Str.ofString "or") ∈ joW by decide +kernel) e, fun e => absurd rfl e⟩
      unfold valG at h4 g4 ⊢
      rw [List.map_append, join_split2 (by simp [h1.ne.1]) (by simp [g1.ne.1]), h4, g4, norm]
  | cl _ ih => exact fun hw ha => wd_cl (ih hw ha)
theorem words_join {ks : List Str} (h : ks ≠ []) (hg : ∀ k ∈ ks, gw k) : wordsS (Txt.join " " ks) = ks := by
  have e : Txt.split (Txt.join " " ks) " " = ks := TL.split_join (y := " ") (s := 32) (S := []) (by decide +kernel) (by decide +kernel) h fun p hp => (hg p hp).1
  unfold wordsS
  rw [if_neg, e]
  intro q
  rw [q] at e
  have e2 : Txt.split (Str.ofString "") " " = [Str.ofString ""] := by decide +kernel
  rw [e2] at e
  exact (hg "" (by rw [← e]; exact List.mem_singleton.mpr rfl)).2 rfl
theorem run_read {ks : List Str} {gs : List (List Cn)} {d n : Nat} (h : Rg ks gs d n) (hg : ∀ k ∈ ks, gw k) : ∃ s, runQ (Txt.join " " ks) = .ok s ∧ s.top.ended = valG gs ∧ s.atoms = n ∧ s.deepest = (d : Int) := by
  obtain ⟨st, s', hst, a, hr⟩ := rg_read h (s := RS.new ks) (pre := []) (post := []) (by simp; rfl) rfl (Int.le_refl _) (.inr rfl)
  unfold runQ
  rw [words_join h.ne.2.2 hg]
  obtain ⟨m, hm⟩ : ∃ m, ks.length + 1 = m + 1 + st := ⟨ks.length - st, by omega⟩
  have hgv : s'.given = ks := a.gv
  have hc : s'.cur = none := by
    unfold RS.cur
    rw [hgv, a.at_]
    exact List.getElem?_eq_none_iff.mpr (by show ks.length ≤ 0 + ks.length; omega)
  have hgo : RS.goes false s' = false := by
    unfold RS.goes
    have : s'.below = [] := a.bl
    rw [hc, this]; rfl
  refine ⟨s', by rw [hm, hr (m + 1), run_stop hgo], ?_, ?_, ?_⟩
  · rw [a.tp]; exact eff_val h.ne.1
  · rw [a.am]; show 0 + n = n; omega
  · rw [a.ds]; show max (0 : Int) (0 + (d : Int)) = d; omega
theorem told_run {t : Tr} {q : Str × Nat} (h : Wr t q) (hw : WT t) (ha : AT t) : ∃ s, runQ q.1 = .ok s ∧ s.top.ended = norm t ∧ s.atoms = cntT t ∧ s.deepest = (q.2 : Int) := by
  obtain ⟨ks, gs, h1, h2, h3, h4, _⟩ := wr_read h hw ha
  obtain ⟨s, r1, r2, r3, r4⟩ := run_read h1 h3
  exact ⟨s, by rw [h2]; exact r1, by rw [r2, h4], r3, r4⟩
/-! the text of the condition that a tree tells is the tree's own text -/
theorem need_eq {w : Str} {t : Tr} (hw : w ∈ joW ∨ w ∈ heW) : needP w (norm t) = needT w t := by
  unfold needP needT
  rw [word_norm, show k_JOINING = joW from rfl]
  rcases hw with h | h
  · have e : joW.any (· == w) = true := any_mem.mpr h
    rw [e]
    cases decide (wordT t = "or") <;> cases decide (wordT t = "and") <;> cases decide (w = "or") <;> rfl
  · have e : joW.any (· == w) = false := any_no.mpr (heW_jo w h)
    have e2 : decide (w = "or") = false := decide_eq_false fun q => heW_jo w h (by rw [q]; decide +kernel)
    rw [e, e2]
    cases decide (wordT t = "or") <;> cases decide (wordT t = "and") <;> rfl
theorem par_eq {w z : Str} {t : Tr} (hw : w ∈ joW ∨ w ∈ heW) : parP w (norm t) z = bndT w t z := by
  unfold parP bndT
  rw [need_eq hw]
theorem parts_pos (w : Str) : ∀ t : Tr, partsOf w (norm t) ≠ []
  | .aw ws => by rw [norm]; intro q; cases q
  | .hd v t => by rw [norm]; intro q; cases q
  | .j2 v a b => by
    rw [norm, join2_word]
    show (if v = w then _ else _) ≠ []
    split
    · have := parts_pos v a
      simp [this]
    · intro q; cases q
theorem bnd_same {w z : Str} {t : Tr} (hw : w ∈ joW) (e : wordT t = w) : bndT w t z = z := by
  unfold bndT
  rw [if_neg]
  unfold needT
  rw [e, any_mem.mpr hw]
  cases decide (w = "or") <;> cases decide (w = "and") <;> decide
theorem parts_txt {w : Str} {t : Tr} (hw : w ∈ joW) (ih : shwC (norm t) = shwT t) : Txt.join (" " ++ w ++ " ") ((partsOf w (norm t)).map fun c => parP w c (shwC c)) = bndT w t (shwT t) := by
  by_cases e : wordT t = w
  · rw [bnd_same hw e, ← ih]
    have e2 : wordC (norm t) = w := by rw [word_norm, e]
    cases t with
    | aw ws => rw [norm]; show Txt.join _ [parP w (.aw ws) (shwC (.aw ws))] = _; rw [txt_one]; exact (par_eq (t := .aw ws) (.inl hw)).trans (bnd_same hw e)
    | hd v t => rw [norm]; show Txt.join _ [parP w (.hd v (norm t)) (shwC (.hd v (norm t)))] = _; rw [txt_one]; exact (par_eq (t := .hd v t) (.inl hw)).trans (bnd_same hw e)
    | j2 v a b =>
      obtain rfl : v = w := e
      rw [norm, join2_word, parts_jn, shwC, shwCs_map]
  · rw [parts_ne (by rw [word_norm]; exact e)]
    show Txt.join _ [parP w (norm t) (shwC (norm t))] = _
    rw [txt_one, par_eq (.inl hw), ih]
theorem shw_norm : ∀ {t : Tr}, WT t → shwC (norm t) = shwT t
  | .aw ws, _ => by rw [norm, shwC, shwT]
  | .hd w t, h => by
    rw [WT] at h
    rw [norm, shwC, shwT, par_eq (.inr h.1), shw_norm h.2]
  | .j2 w a b, h => by
    rw [WT] at h
    rw [norm, join2_word, shwC, shwT, shwCs_map, List.map_append, join_app (by simp [parts_pos]) (by simp [parts_pos]), parts_txt h.1 (shw_norm h.2.1), parts_txt h.1 (shw_norm h.2.2)]
    simp only [app_assoc]
/-! the shortest text of a tree is one that is written -/
def dT : Tr → Nat
  | .aw _ => 0
  | .hd w t => (inH t (shwT t, dT t)).2 + 1
  | .j2 w a b => max (inJ w a (shwT a, dT a)).2 (inJ w b (shwT b, dT b)).2
theorem wr_shw : ∀ {t : Tr}, WT t → Wr t (shwT t, dT t)
  | .aw ws, _ => by rw [shwT, dT]; exact .aw
  | .hd w t, h => by
    rw [WT] at h
    have i := Wr.hd (w := w) (wr_shw h.2)
    have e : (inH t (shwT t, dT t)).1 = bndT w t (shwT t) := by
      unfold inH bndT needT
      have hno : joW.any (· == w) = false := any_no.mpr (heW_jo w h.1)
      have hor : decide (w = "or") = false := decide_eq_false fun q => heW_jo w h.1 (by rw [q]; decide +kernel)
      rw [hno, hor]
      have e3 : joW.any (· == wordT t) = (decide (wordT t = "or") && !false || decide (wordT t = "and") && !false) := by
        by_cases q : wordT t ∈ joW
        · rw [any_mem.mpr q]
          rcases jo_is q with e | e
          · rw [e]; decide +kernel
          · rw [e]; decide +kernel
        · rw [any_no.mpr q, decide_eq_false (fun e => q (by rw [e]; decide +kernel)), decide_eq_false (fun e => q (by rw [e]; decide +kernel))]; rfl
      rw [← e3]
      split <;> rfl
    rw [shwT, dT, ← e]
    exact i
  | .j2 w a b, h => by
    rw [WT] at h
    have i := Wr.j2 (w := w) (wr_shw h.2.1) (wr_shw h.2.2)
    have e : ∀ t : Tr, (inJ w t (shwT t, dT t)).1 = bndT w t (shwT t) := fun t => by
      unfold inJ bndT needT
      rw [any_mem.mpr h.1]
      have e3 : (decide (w = "and") && decide (wordT t = "or")) = (decide (wordT t = "or") && !decide (w = "or") || decide (wordT t = "and") && !true) := by
        rcases jo_is h.1 with rfl | rfl
        · rw [show decide ((Str.ofString "and") = "and") = true by decide +kernel, show decide ((Str.ofString "and") = "or") = false by decide +kernel]
          cases decide (wordT t = "or") <;> cases decide (wordT t = "and") <;> rfl
        · rw [show decide ((Str.ofString "or") = "and") = false by decide +kernel, show decide ((Str.ofString "or") = "or") = true by decide +kernel]
          cases decide (wordT t = "or") <;> cases decide (wordT t = "and") <;> rfl
      rw [← e3]
      split <;> rfl
    rw [shwT, dT, ← e a, ← e b]
    exact i
/-- unlike conditions have unlike texts -/
theorem shw_inj {t u : Tr} (h1 : WT t) (h2 : AT t) (h3 : WT u) (h4 : AT u) : shwT t = shwT u ↔ norm t = norm u := by
  constructor
  · intro e
    obtain ⟨s, r1, r2, _⟩ := told_run (wr_shw h1) h1 h2
    obtain ⟨s', q1, q2, _⟩ := told_run (wr_shw h3) h3 h4
    rw [show (shwT t, dT t).1 = (shwT u, dT u).1 from e, q1] at r1
    cases r1
    rw [← r2, q2]
  · intro e
    rw [← shw_norm h1, ← shw_norm h3, e]
/-! conditions as data -/
theorem eqD_st (x : Str) (ds : List Dat) : eqD (.str x) (.tup ds) = false := by
  show PyData.eqv (.str x) (.tuple (toPys ds)) = _
  rw [PyData.eqv]
  all_goals first | rfl | (intros; simp_all)
theorem eqD_ts (x : Str) (ds : List Dat) : eqD (.tup ds) (.str x) = false := by
  show PyData.eqv (.tuple (toPys ds)) (.str x) = _
  rw [PyData.eqv]
  all_goals first | rfl | (intros; simp_all)
theorem eqA_tk {as bs : List Dat} (h : PyData.eqvAll (toPys as) (toPys bs) = true) : as.length = bs.length := by
  induction as generalizing bs with
  | nil =>
    cases bs with
    | nil => rfl
    | cons b bs => rw [eqA_nc] at h; cases h
  | cons a as ih =>
    cases bs with
    | nil => rw [eqA_cn] at h; cases h
    | cons b bs =>
      rw [eqA_cons] at h
      rw [List.length_cons, List.length_cons, ih (Bool.and_eq_true_iff.mp h).2]
theorem cD_tup (c : Cn) : ∃ ds, cD c = .tup ds := by cases c <;> rw [cD] <;> exact ⟨_, rfl⟩
theorem eqA_two {a b c d : Dat} : PyData.eqvAll (toPys [a, b]) (toPys [c, d]) = (eqD a c && eqD b d) := by
  rw [eqA_cons, eqA_cons, eqA_nil, Bool.and_true]
theorem aw_not {ws : List Str} {w : Str} {d : Dat} (hd : ∃ ds, d = .tup ds) : eqD (.tup (ws.map .str)) (.tup [.str w, d]) = false := by
  obtain ⟨ds, rfl⟩ := hd
  rw [eqD_tup]
  cases h : PyData.eqvAll (toPys (ws.map .str)) (toPys [.str w, .tup ds]) with
  | false => rfl
  | true =>
    have hl := eqA_tk h
    rw [List.length_map] at hl
    obtain ⟨a, b, rfl⟩ : ∃ a b, ws = [a, b] := by
      cases ws with
      | nil => cases hl
      | cons a r => cases r with
        | nil => cases hl
        | cons b r => cases r with
          | nil => exact ⟨a, b, rfl⟩
          | cons c r => simp at hl
    rw [show [a, b].map Dat.str = [.str a, .str b] from rfl, eqA_two, eqD_st, Bool.and_false] at h
    cases h
theorem not_aw {ws : List Str} {w : Str} {d : Dat} (hd : ∃ ds, d = .tup ds) : eqD (.tup [.str w, d]) (.tup (ws.map .str)) = false := by
  obtain ⟨ds, rfl⟩ := hd
  rw [eqD_tup]
  cases h : PyData.eqvAll (toPys [.str w, .tup ds]) (toPys (ws.map .str)) with
  | false => rfl
  | true =>
    have hl := eqA_tk h
    rw [List.length_map] at hl
    obtain ⟨a, b, rfl⟩ : ∃ a b, ws = [a, b] := by
      cases ws with
      | nil => cases hl
      | cons a r => cases r with
        | nil => cases hl
        | cons b r => cases r with
          | nil => exact ⟨a, b, rfl⟩
          | cons c r => simp at hl
    rw [show [a, b].map Dat.str = [.str a, .str b] from rfl, eqA_two, eqD_ts, Bool.and_false] at h
    cases h
mutual
theorem eq_cD : ∀ {c d : Cn}, WF c → WF d → (eqD (cD c) (cD d) = true ↔ c = d)
  | .aw ws, d, hc, hd => by
    cases d with
    | aw vs =>
      rw [cD, cD, eqD_tup, eqA_map Dat.str (fun a b => eqD_str a b)]
      simp
    | hd w d => rw [cD, cD, aw_not (cD_tup d)]; simp
    | jn w ds => rw [cD, cD, aw_not ⟨_, rfl⟩]; simp
  | .hd w c, d, hc, hd => by
    rw [WF] at hc
    cases d with
    | aw vs => rw [cD, cD, not_aw (cD_tup c)]; simp
    | hd v d =>
      rw [WF] at hd
      have ih := eq_cD hc.2 hd.2
      rw [cD, cD, eqD_tup, eqA_two, eqD_str, Bool.and_eq_true, ih, decide_eq_true_eq]
      constructor
      · rintro ⟨rfl, rfl⟩; rfl
      · intro e; cases e; exact ⟨rfl, rfl⟩
    | jn v ds =>
      rw [WF] at hd
      rw [cD, cD, eqD_tup, eqA_two, eqD_str, Bool.and_eq_true, decide_eq_true_eq]
      constructor
      · rintro ⟨rfl, _⟩; exact absurd hd.1 (heW_jo _ hc.1)
      · intro e; cases e
  | .jn w cs, d, hc, hd => by
    rw [WF] at hc
    cases d with
    | aw vs => rw [cD, cD, not_aw ⟨_, rfl⟩]; simp
    | hd v d =>
      rw [WF] at hd
      rw [cD, cD, eqD_tup, eqA_two, eqD_str, Bool.and_eq_true, decide_eq_true_eq]
      constructor
      · rintro ⟨rfl, _⟩; exact absurd hc.1 (heW_jo _ hd.1)
      · intro e; cases e
    | jn v ds =>
      rw [WF] at hd
      have ih := eq_cDs hc.2 hd.2
      rw [cD, cD, eqD_tup, eqA_two, eqD_str, eqD_tup, Bool.and_eq_true, ih, decide_eq_true_eq]
      constructor
      · rintro ⟨rfl, rfl⟩; rfl
      · intro e; cases e; exact ⟨rfl, rfl⟩
theorem eq_cDs : ∀ {cs ds : List Cn}, WFs cs → WFs ds → (PyData.eqvAll (toPys (cDs cs)) (toPys (cDs ds)) = true ↔ cs = ds)
  | [], ds, hc, hd => by
    cases ds with
    | nil => rw [cDs, eqA_nil]; simp
    | cons d ds => rw [cDs, cDs, eqA_nc]; simp
  | c :: cs, ds, hc, hd => by
    rw [WFs] at hc
    cases ds with
    | nil => rw [cDs, cDs, eqA_cn]; simp
    | cons d ds =>
      rw [WFs] at hd
      have i1 := eq_cD hc.1 hd.1
      have i2 := eq_cDs hc.2 hd.2
      rw [cDs, cDs, eqA_cons, Bool.and_eq_true, i1, i2]
      constructor
      · rintro ⟨rfl, rfl⟩; rfl
      · intro e; cases e; exact ⟨rfl, rfl⟩
end
theorem WF_norm : ∀ {t : Tr}, WT t → WF (norm t)
  | .aw ws, h => by rw [WT] at h; rw [norm, WF]; exact h
  | .hd w t, h => by rw [WT] at h; rw [norm, WF]; exact ⟨h.1, WF_norm h.2⟩
  | .j2 w a b, h => by
    rw [WT] at h
    rw [norm]
    refine WF_join h.1 fun c hc => ?_
    rcases List.mem_cons.mp hc with rfl | hc
    · exact WF_norm h.2.1
    · rw [List.mem_singleton.mp hc]; exact WF_norm h.2.2
theorem eq_norm {t u : Tr} (h1 : WT t) (h2 : AT t) (h3 : WT u) (h4 : AT u) : eqD (cD (norm t)) (cD (norm u)) = decide (shwT t = shwT u) := by
  by_cases e : shwT t = shwT u
  · rw [decide_eq_true e]
    exact (eq_cD (WF_norm h1) (WF_norm h3)).mpr ((shw_inj h1 h2 h3 h4).mp e)
  · rw [decide_eq_false e]
    cases q : eqD (cD (norm t)) (cD (norm u)) with
    | false => rfl
    | true => exact absurd ((shw_inj h1 h2 h3 h4).mpr ((eq_cD (WF_norm h1) (WF_norm h3)).mp q)) e
/-! atoms, outer conditions -/
def tokT : Tr → List Tr
  | .aw ws => [.aw ws]
  | .hd w t => if w = "not" then tokT t else .hd w t :: tokT t
  | .j2 _ a b => tokT a ++ tokT b
def innT : Tr → Option Tr
  | .hd _ u => some u
  | _ => none
theorem tok_cnt : ∀ t : Tr, (tokT t).length = cntT t
  | .aw ws => rfl
  | .hd w t => by
    have := tok_cnt t
    rw [tokT, cntT]
    unfold hN
    split
    · rw [this]; rfl
    · rw [List.length_cons, this]
  | .j2 w a b => by rw [tokT, cntT, List.length_append, tok_cnt a, tok_cnt b]
theorem atoms_parts (w : Str) (c : Cn) : (partsOf w c).flatMap atomsC = atomsC c := by
  cases c with
  | aw ws => show [_].flatMap atomsC = _; simp
  | hd v c => show [_].flatMap atomsC = _; simp
  | jn v cs =>
    show (if v = w then cs else [.jn v cs]).flatMap atomsC = _
    split
    · rw [atomsC, atomsCs_flat]
    · simp
theorem atoms_norm : ∀ t : Tr, atomsC (norm t) = (tokT t).map norm
  | .aw ws => by rw [norm, tokT, atomsC]; rfl
  | .hd w t => by
    rw [norm, tokT, atomsC, atoms_norm t]
    split
    · rfl
    · rw [List.map_cons, norm]
  | .j2 w a b => by rw [norm, join2_word, atomsC, atomsCs_flat, List.flatMap_append, atoms_parts, atoms_parts, atoms_norm a, atoms_norm b, tokT, List.map_append]
def stC (acc : List Cn) (d : Cn) : List Cn := if inC acc d = true then acc else acc ++ [d]
theorem out_step (acc : List Cn) (t : Tr) : outStep acc (norm t) = match innT t with | some u => stC acc (norm u) | none => acc := by
  cases t with
  | aw ws => rfl
  | hd w t => rfl
  | j2 w a b => rw [norm, join2_word]; rfl
theorem out_fold : ∀ (ts : List Tr) (acc : List Cn), (ts.map norm).foldl outStep acc = ((ts.filterMap innT).map norm).foldl stC acc
  | [], acc => rfl
  | t :: ts, acc => by
    rw [List.map_cons, List.foldl_cons, out_step, out_fold ts]
    cases h : innT t with
    | none => rw [List.filterMap_cons_none h]
    | some u => rw [List.filterMap_cons_some h, List.map_cons, List.foldl_cons]
theorem in_acc {acc : List Tr} {u : Tr} (h1 : WT u) (h2 : AT u) : (∀ v ∈ acc, WT v ∧ AT v) → inC (acc.map norm) (norm u) = (acc.map shwT).any (· == shwT u) := by
  induction acc with
  | nil => intro _; rfl
  | cons v acc ih =>
    intro h
    obtain ⟨g1, g2⟩ := h v (by simp)
    have e := eq_norm g1 g2 h1 h2
    have i := ih fun x hx => h x (List.mem_cons_of_mem _ hx)
    unfold inC at i ⊢
    show (PyData.eqv (toPy (cD (norm v))) (toPy (cD (norm u))) || _) = ((shwT v == shwT u) || _)
    rw [show PyData.eqv (toPy (cD (norm v))) (toPy (cD (norm u))) = decide (shwT v = shwT u) from e]
    have : (shwT v == shwT u) = decide (shwT v = shwT u) := by
      by_cases q : shwT v = shwT u <;> simp [q]
    rw [this]
    exact congrArg _ i
theorem out_len : ∀ (us acc : List Tr), (∀ v ∈ us, WT v ∧ AT v) → (∀ v ∈ acc, WT v ∧ AT v) → ((us.map norm).foldl stC (acc.map norm)).length = ((us.map shwT).foldl stS (acc.map shwT)).length
  | [], acc, _, _ => by simp
  | u :: us, acc, h, ha => by
    obtain ⟨g1, g2⟩ := h u (by simp)
    rw [List.map_cons, List.foldl_cons, List.map_cons, List.foldl_cons]
    unfold stC stS
    rw [in_acc g1 g2 ha]
    have hr := fun x hx => h x (List.mem_cons_of_mem u hx)
    split
    · exact out_len us acc hr ha
    · have := out_len us (acc ++ [u]) hr (fun v hv => by
        rcases List.mem_append.mp hv with q | q
        · exact ha v q
        · rw [List.mem_singleton.mp q]; exact ⟨g1, g2⟩)
      rw [List.map_append, List.map_append] at this
      exact this
theorem tok_ok : ∀ {t : Tr}, WT t → AT t → ∀ v ∈ tokT t, WT v ∧ AT v ∧ szT v ≤ szT t ∧ htT v ≤ htT t
  | .aw ws, h, ha, v, hv => by rw [tokT] at hv; rw [List.mem_singleton.mp hv]; exact ⟨h, ha, Nat.le_refl _, Nat.le_refl _⟩
  | .hd w t, h, ha, v, hv => by
    have h0 := h
    rw [WT] at h
    rw [tokT] at hv
    split at hv
    · obtain ⟨a, b, c, d⟩ := tok_ok h.2 ha v hv
      exact ⟨a, b, by rw [szT]; omega, by rw [htT]; omega⟩
    · rcases List.mem_cons.mp hv with rfl | hv
      · exact ⟨h0, ha, Nat.le_refl _, Nat.le_refl _⟩
      · obtain ⟨a, b, c, d⟩ := tok_ok h.2 ha v hv
        exact ⟨a, b, by rw [szT]; omega, by rw [htT]; omega⟩
  | .j2 w a b, h, ha, v, hv => by
    rw [WT] at h
    rw [tokT] at hv
    rcases List.mem_append.mp hv with hv | hv
    · obtain ⟨p, q, c, d⟩ := tok_ok h.2.1 ha.1 v hv
      exact ⟨p, q, by rw [szT]; omega, by rw [htT]; omega⟩
    · obtain ⟨p, q, c, d⟩ := tok_ok h.2.2 ha.2 v hv
      exact ⟨p, q, by rw [szT]; omega, by rw [htT]; omega⟩
theorem inn_ok {t : Tr} (h : WT t) (ha : AT t) : ∀ v ∈ (tokT t).filterMap innT, WT v ∧ AT v ∧ szT v ≤ szT t ∧ htT v ≤ htT t := fun v hv => by
  obtain ⟨u, hu, e⟩ := List.mem_filterMap.mp hv
  obtain ⟨g1, g2, g3, g4⟩ := tok_ok h ha u hu
  cases u with
  | aw ws => cases e
  | hd w x =>
    cases e
    rw [WT] at g1
    exact ⟨g1.2, g2, by rw [szT] at g3; omega, by rw [htT] at g4; omega⟩
  | j2 w a b => cases e
/-- the texts of the outer conditions -/
def outT (t : Tr) : List Str := ((tokT t).filterMap innT).map shwT
theorem out_norm {t : Tr} (h : WT t) (ha : AT t) : (outC (norm t)).length = (ddS (outT t)).length := by
  unfold outC ddS outT
  rw [atoms_norm, out_fold]
  exact out_len _ [] (fun v hv => ⟨(inn_ok h ha v hv).1, (inn_ok h ha v hv).2.1⟩) (fun v hv => nomatch hv)
/-- what there is too much of -/
def excT (t : Tr) (d : Nat) : Option Str := if 8 < cntT t then some "atoms" else if 6 < d then some "deep" else if 2 < (ddS (outT t)).length then some "outer" else none
def dueW (t : Tr) : Option Str → Dat
  | some z => .tup [.str "many", .str z]
  | none => .tup [.str "text", .str (shwT t)]
theorem due_told {t u : Tr} {q : Str × Nat} (h : Wr u q) (hu : WT u) (au : AT u) (ht : WT t) (at_ : AT t) (e1 : norm u = norm t) (e2 : cntT u = cntT t) : dueQ q.1 = dueW t (excT t q.2) := by
  obtain ⟨s, r1, r2, r3, r4⟩ := told_run h hu au
  unfold dueQ
  rw [r1]
  show dueT s = _
  unfold dueT excT
  rw [r2, r3, r4, e1, e2, out_norm ht at_, shw_norm ht]
  split
  · rfl
  · by_cases q6 : 6 < q.2
    · rw [if_pos (show (6 : Int) < (q.2 : Int) by omega), if_pos q6]; rfl
    · rw [if_neg (show ¬ (6 : Int) < (q.2 : Int) by omega), if_neg q6]
      split <;> rfl
def TokS (n : Nat) : SpecT := fun ss O R => ∃ t : Tr, ss = [.dat (tD t)] ∧ WT t ∧ htT t ≤ n ∧ szT t ≤ 150 ∧ R (.ret (.dat (.lst ((tokT t).map tD)))) O
theorem zero_law_tokens {ss : List Slot} {O : Own} {R : Out → Own → Prop} (h : TokS 0 ss O R) : False := by
  obtain ⟨c, _, _, h0, _⟩ := h
  have := htT_pos c
  omega
theorem tok_len : ∀ t : Tr, (tokT t).length ≤ szT t
  | .aw ws => Nat.le_refl 1
  | .hd w t => by
    have := tok_len t
    rw [tokT, szT]
    split
    · omega
    · rw [List.length_cons]; omega
  | .j2 w a b => by
    have := tok_len a
    have := tok_len b
    rw [tokT, szT, List.length_append]; omega
theorem jo_word {t : Tr} (h : WT t) : joW.any (· == wordT t) = match t with | .j2 _ _ _ => true | _ => false := by
  cases t with
  | aw ws => rw [WT] at h; exact any_no.mpr (atW_jo _ (aw_word h))
  | hd w t => rw [WT] at h; exact any_no.mpr (heW_jo _ h.1)
  | j2 w a b => rw [WT] at h; exact any_mem.mpr h.1
section
variable {P : Program} {w : World} {K : PySem.W.Frag} {mg : Str → Option Value} {base : Heap}
theorem fn_law_tokens (T : TopOf K mg) (Z : Facts K) : ∀ (n : Nat) {f : Addr} {fd : FuncData} (F : L2.Fun K "_law_tokens" "_law_tokens" s_law_tokens f fd), Fn P w K mg base false (n + 1) f fd ["_law_tree"] (TokS n)
  | 0, f, fd, F => by
    refine fn_mk F sc_law_tokens (fun ss O R h => by first | (obtain ⟨_, rfl, _⟩ := h; rfl) | (obtain ⟨_, _, rfl, _⟩ := h; rfl) | (obtain ⟨_, _, _, rfl, _⟩ := h; rfl) | (obtain ⟨_, _, _, _, rfl, _⟩ := h; rfl)) fun cdv A outer s H E ss O R hr hpo h => ?_
    exact (zero_law_tokens h).elim
  | n + 1, f, fd, F => by
    have cr : Cal P w K mg base false (n + 1) "_law_tokens" (TokS n) [] := cal_of T Z.d_law_tokens (by walk_at "b1") fun f fd F => fn_law_tokens T Z n F
    have sc := sc_law_tokens
    refine fn_mk F sc_law_tokens (fun ss O R h => by first | (obtain ⟨_, rfl, _⟩ := h; rfl) | (obtain ⟨_, _, rfl, _⟩ := h; rfl) | (obtain ⟨_, _, _, rfl, _⟩ := h; rfl) | (obtain ⟨_, _, _, _, rfl, _⟩ := h; rfl)) fun cdv A outer s H E ss O R hr hpo h => ?_
    obtain ⟨t, rfl, hw, hn, hz, h⟩ := h
    -- 0:_law_tree
    refine sw_cons ?_
    refine s1_if ?_
    refine tw_cmp ?_
    refine ew_ix ?_
    refine ew_var 0 ?_
    refine ew_int ?_
    refine ix_wordT hw ?_
    refine ew_tup ?_
    refine aw_cons ?_
    refine ew_str ?_
    refine aw_cons ?_
    refine ew_str ?_
    refine aw_nil ?_
    refine ⟨[_, _], rfl, by walk_at "few", ?_⟩
    refine ob_inT (ws := joW) ?_
    refine ⟨_, rfl, fun ht => ?_, fun ht => ?_⟩
    · have hwj : wordT t ∈ joW := any_mem.mp ht
      obtain ⟨v, a, b, rfl⟩ := j2_of hw hwj
      rw [WT] at hw
      rw [htT] at hn
      rw [szT] at hz
      rw [tokT, List.map_append] at h
      have e1 : tD (.j2 v a b) = .tup [.str v, tD a, tD b] := by rw [tD]
      have la := tok_len a
      have lb := tok_len b
      refine sw_one ?_
      refine s1_ret ?_
      refine ew_bin ?_
      refine ew_call cr hr ?_ (hj := by omega)
      refine aw_cons ?_
      refine ew_ix ?_
      refine ew_var 0 ?_
      refine ew_int ?_
      
      refine ix_tpl (d := tD a) (by first | rfl | (rw [e1]; rfl)) ?_
      refine aw_nil ?_
      refine ⟨a, rfl, hw.2.1, by omega, by omega, ?_⟩
      refine ew_call cr hr ?_ (hj := by omega)
      refine aw_cons ?_
      refine ew_ix ?_
      refine ew_var 0 ?_
      refine ew_int ?_
      
      refine ix_tpl (d := tD b) (by first | rfl | (rw [e1]; rfl)) ?_
      refine aw_nil ?_
      refine ⟨b, rfl, hw.2.2, by omega, by omega, ?_⟩
      refine ob_catL (by rw [List.length_map, List.length_map]; exact Nat.le_trans (show _ ≤ 400 by omega) (by decide)) ?_
      exact h
    · have hnj : wordT t ∉ joW := any_no.mp ht
      refine sw_nil ?_
      refine sw_cons ?_
      refine s1_if ?_
      refine tw_cmp ?_
      refine ew_ix ?_
      refine ew_var 0 ?_
      refine ew_int ?_
      refine ix_wordT hw ?_
      refine ew_tup ?_
      refine aw_cons ?_
      refine ew_str ?_
      refine aw_cons ?_
      refine ew_str ?_
      refine aw_cons ?_
      refine ew_str ?_
      refine aw_nil ?_
      refine ⟨[_, _, _], rfl, by walk_at "few", ?_⟩
      refine ob_inT (ws := heW) ?_
      refine ⟨_, rfl, fun ht => ?_, fun ht => ?_⟩
      · have hwh : wordT t ∈ heW := any_mem.mp ht
        obtain ⟨v, a, rfl⟩ := hdT_of hw hwh
        have hw0 := hw
        rw [WT] at hw
        rw [htT] at hn
        rw [szT] at hz
        have la := tok_len a
        have e1 : tD (.hd v a) = .tup [.str v, tD a] := by rw [tD]
        refine sw_one ?_
        refine s1_ret ?_
        refine ew_bin ?_
        refine ew_bin ?_
        refine ew_lstD ?_
        refine aw_cons ?_
        refine ew_var 0 ?_
        refine aw_nil ?_
        refine ⟨[_], rfl, by walk_at "few", ?_⟩
        refine ew_callTy (T.no Z.n_int) bt_int ?_
        refine aw_cons ?_
        refine ew_cmp ?_
        refine ew_ix ?_
        refine ew_var 0 ?_
        refine ew_int ?_
        refine ix_wordT hw0 ?_
        refine ew_str ?_
        walk_at "cmp NotEq"
        refine aw_nil ?_
        refine cb_intB ?_
        
        have er : (List.replicate (if (!decide (wordT (.hd v a) = "not")) = true then (1 : Int) else 0).toNat [tD (.hd v a)]).flatten = (if v = "not" then [] else [tD (.hd v a)]) := by
          show (List.replicate (if (!decide (v = "not")) = true then (1 : Int) else 0).toNat [tD (.hd v a)]).flatten = _
          by_cases q : v = "not"
          · rw [decide_eq_true q, if_pos q]; rfl
          · rw [decide_eq_false q, if_neg q]; rfl
        refine ob_rep (by split <;> decide) (by split <;> first | exact (show 1 * 1 ≤ sizeLine by decide) | exact (show 1 * 0 ≤ sizeLine by decide)) ?_
        rw [er]
        refine ew_call cr hr ?_ (hj := by omega)
        refine aw_cons ?_
        refine ew_ix ?_
        refine ew_var 0 ?_
        refine ew_int ?_
        
        refine ix_tpl (d := tD a) (by first | rfl | (rw [e1]; rfl)) ?_
        refine aw_nil ?_
        refine ⟨a, rfl, hw.2, by omega, by omega, ?_⟩
        
        refine ob_catL (by
          rw [List.length_map]
          have : (if v = "not" then [] else [tD (.hd v a)]).length ≤ 1 := by split <;> simp
          exact Nat.le_trans (show _ ≤ 400 by omega) (by decide)) ?_
        have e2 : (if v = "not" then [] else [tD (.hd v a)]) ++ (tokT a).map tD = (tokT (.hd v a)).map tD := by
          rw [tokT]
          split <;> rfl
        rw [e2]
        exact h
      · have hnh : wordT t ∉ heW := any_no.mp ht
        obtain ⟨ws, rfl⟩ := awT_of hw hnj hnh
        refine sw_nil ?_
        refine sw_one ?_
        refine s1_ret ?_
        refine ew_lstD ?_
        refine aw_cons ?_
        refine ew_var 0 ?_
        refine aw_nil ?_
        refine ⟨[_], rfl, by walk_at "few", ?_⟩
        exact h
theorem c_law_tokens (T : TopOf K mg) (Z : Facts K) (n : Nat) : Cal P w K mg base false (n + 1) "_law_tokens" (TokS n) [] := cal_of T Z.d_law_tokens (by walk_at "b1") fun f fd F => fn_law_tokens T Z n F
end
def oS : Option Str → Dat
  | none => .non
  | some z => .str z
def ouW : List Str := ["parent", "above"]
def shI : Tr → Str
  | .hd _ x => shwT x
  | _ => ""
/-- an atom, as the tokens are -/
def isTok : Tr → Prop
  | .aw _ => True
  | .hd w _ => w ≠ "not"
  | .j2 _ _ _ => False
theorem tok_is : ∀ t : Tr, ∀ v ∈ tokT t, isTok v
  | .aw ws, v, hv => by rw [tokT] at hv; rw [List.mem_singleton.mp hv]; trivial
  | .hd w t, v, hv => by
    rw [tokT] at hv
    split at hv
    · exact tok_is t v hv
    · rename_i hw
      rcases List.mem_cons.mp hv with rfl | hv
      · exact hw
      · exact tok_is t v hv
  | .j2 w a b, v, hv => by
    rw [tokT] at hv
    exact (List.mem_append.mp hv).elim (tok_is a v) (tok_is b v)
theorem he_ou : ∀ w ∈ heW, w ≠ "not" → w ∈ ouW := by decide +kernel
theorem at_ou : ∀ w ∈ atW, w ∉ ouW := by decide +kernel
theorem inn_of {v : Tr} (h : WT v) (hi : isTok v) : (ouW.any (· == wordT v) = true → ∃ w x, v = .hd w x ∧ innT v = some x) ∧ (ouW.any (· == wordT v) = false → innT v = none) := by
  cases v with
  | aw ws =>
    rw [WT] at h
    have e : ouW.any (· == wordT (.aw ws)) = false := any_no.mpr (at_ou _ (aw_word h))
    exact ⟨fun q => (by rw [e] at q; cases q), fun _ => rfl⟩
  | hd w x =>
    rw [WT] at h
    have e : ouW.any (· == wordT (.hd w x)) = true := any_mem.mpr (he_ou w h.1 hi)
    exact ⟨fun _ => ⟨w, x, rfl, rfl⟩, fun q => (by rw [e] at q; cases q)⟩
  | j2 w a b => exact hi.elim
theorem out_list : ∀ {us : List Tr}, (∀ v ∈ us, WT v ∧ isTok v) → (us.filter fun v => ouW.any (· == wordT v)).map shI = (us.filterMap innT).map shwT
  | [], _ => rfl
  | v :: us, h => by
    obtain ⟨g1, g2⟩ := h v (by simp)
    obtain ⟨a1, a2⟩ := inn_of g1 g2
    have ih := out_list fun x hx => h x (List.mem_cons_of_mem v hx)
    cases e : ouW.any (· == wordT v) with
    | true =>
      obtain ⟨w, x, rfl, hx⟩ := a1 e
      rw [List.filter_cons_of_pos (by simpa using e), List.filterMap_cons_some hx, List.map_cons, List.map_cons, ih]; rfl
    | false => rw [List.filter_cons_of_neg (p := fun v => ouW.any (· == wordT v)) (show ¬ (ouW.any (· == wordT v)) = true by rw [e]; decide), List.filterMap_cons_none (a2 e), ih]
def ExcS : SpecT := fun ss O R => ∃ (t : Tr) (d : Nat), ss = [.dat (tD t), .dat (.int (d : Int))] ∧ WT t ∧ AT t ∧ htT t ≤ 45 ∧ szT t ≤ 150 ∧ R (.ret (.dat (oS (excT t d)))) O
def bxL (t : Tr) (d : Nat) : List (Str × Bool) := [("atoms", decide (((cntT t : Nat) : Int) > 8)), ("deep", decide ((d : Int) > 6)), ("outer", decide ((((ddS (outT t)).length : Nat) : Int) > 2))]
def bxD (q : Str × Bool) : Dat := .tup [.str q.1, .bl q.2]
theorem exc_first (t : Tr) (d : Nat) : atI ((((bxL t d).filter fun q => q.2).map fun q => Dat.str q.1) ++ [Dat.non]) 0 = some (oS (excT t d)) := by
  unfold bxL excT
  by_cases h1 : 8 < cntT t
  · rw [if_pos h1, decide_eq_true (show ((cntT t : Nat) : Int) > 8 by omega)]; exact atI_nat (j := 0) rfl
  · rw [if_neg h1, decide_eq_false (show ¬ ((cntT t : Nat) : Int) > 8 by omega)]
    by_cases h2 : 6 < d
    · rw [if_pos h2, decide_eq_true (show (d : Int) > 6 by omega)]; exact atI_nat (j := 0) rfl
    · rw [if_neg h2, decide_eq_false (show ¬ (d : Int) > 6 by omega)]
      by_cases h3 : 2 < (ddS (outT t)).length
      · rw [if_pos h3, decide_eq_true (show (((ddS (outT t)).length : Nat) : Int) > 2 by omega)]; exact atI_nat (j := 0) rfl
      · rw [if_neg h3, decide_eq_false (show ¬ (((ddS (outT t)).length : Nat) : Int) > 2 by omega)]; exact atI_nat (j := 0) rfl
section
variable {P : Program} {w : World} {K : PySem.W.Frag} {mg : Str → Option Value} {base : Heap}
theorem fn_law_excess (T : TopOf K mg) (Z : Facts K) {f : Addr} {fd : FuncData} (F : L2.Fun K "_law_excess" "_law_excess" s_law_excess f fd) : Fn P w K mg base false (100) f fd ["_law_tree", "_law_deep"] (ExcS) := by
  have sc := sc_law_excess
  refine fn_mk F sc_law_excess (fun ss O R h => by first | (obtain ⟨_, rfl, _⟩ := h; rfl) | (obtain ⟨_, _, rfl, _⟩ := h; rfl) | (obtain ⟨_, _, _, rfl, _⟩ := h; rfl) | (obtain ⟨_, _, _, _, rfl, _⟩ := h; rfl) | (obtain ⟨_, _, _, _, _, rfl, _⟩ := h; rfl) | (obtain ⟨_, _, _, _, _, _, rfl, _⟩ := h; rfl) | (obtain ⟨_, _, _, _, _, _, _, rfl, _⟩ := h; rfl)) fun cdv A outer s H E ss O R hr hpo h => ?_
  obtain ⟨t, d, rfl, hw, hat, hn, hz, h⟩ := h
  have htl := tok_len t
  -- 0:_law_tree 1:_law_deep 2:_law_atoms 3:_law_outer 4:_law_atom 5:_law_some 6:_law_word 7:_law_is_so
  refine sw_cons ?_
  refine s1_set 2 ?_ sc.nd
  refine ew_call (c_law_tokens T Z 45) hr ?_
  refine aw_cons ?_
  refine ew_var 0 ?_
  refine aw_nil ?_
  refine ⟨t, rfl, hw, hn, hz, ?_⟩
  refine sw_cons ?_
  refine s1_set 3 ?_ sc.nd
  refine ew_lenSet (T.no Z.n_len) (T.no Z.n_set) ?_
  refine ew_map (tokT t) tD (fun v => .str (shI v)) (fun v => ouW.any (· == wordT v)) [("_law_atom", 4)] sc.nd (.name (i := 4) (by decide) fun Y ⟨_, _, _, _, _, e⟩ => by subst e; exact pg_name (i := 4) sc.nd rfl (.inl rfl) (.inr rfl)) (blkOk_by (N := N_law_excess) (sc := defScope s_law_excess) (by decide +kernel)) (iw_list (ew_var 2 ⟨_, rfl, rfl, rfl⟩)) (Nat.le_trans (Nat.le_trans htl hz) (by decide)) (fun v hv => ⟨_, rfl, fun O' Y hY => ?_⟩) ?_
  · obtain ⟨_, _, _, _, _, rfl⟩ := hY
    obtain ⟨g1, g2, g3, g4⟩ := tok_ok hw hat v hv
    have g5 := tok_is t v hv
    refine ⟨tsw_one ?_, fun hq => ?_⟩
    · refine tw_cmp ?_
      refine ew_ix ?_
      refine ew_var 4 ?_
      refine ew_int ?_
      refine ix_wordT g1 ?_
      refine ew_tup ?_
      refine aw_cons ?_
      refine ew_str ?_
      refine aw_cons ?_
      refine ew_str ?_
      refine aw_nil ?_
      refine ⟨[_, _], rfl, by walk_at "few", ?_⟩
      refine ob_inT (ws := ouW) ?_
      exact ⟨_, rfl, rfl, rfl⟩
    · obtain ⟨w0, x, rfl, _⟩ := (inn_of g1 g5).1 hq
      rw [WT] at g1
      rw [szT] at g3
      rw [htT] at g4
      refine ew_call (c_law_shown T Z 45) hr ?_
      refine aw_cons ?_
      refine ew_ix ?_
      refine ew_var 4 ?_
      refine ew_int ?_
      refine ix_tpl (d := tD x) (by first | rfl | (rw [tD]; rfl)) ?_
      refine aw_nil ?_
      refine ⟨x, rfl, g1.2, by omega, by omega, ?_⟩
      exact ⟨rfl, rfl⟩
  have eo : ((tokT t).filter fun v => ouW.any (· == wordT v)).map (fun v => Dat.str (shI v)) = (outT t).map .str := by
    have := out_list (us := tokT t) fun v hv => ⟨(tok_ok hw hat v hv).1, tok_is t v hv⟩
    unfold outT
    rw [← this, List.map_map]; rfl
  rw [eo]
  have hol : (outT t).length ≤ 150 := by
    unfold outT
    rw [List.length_map]
    exact Nat.le_trans (List.length_filterMap_le _ _) (by omega)
  refine ⟨outT t, rfl, by omega, ?_⟩
  refine sw_cons ?_
  refine s1_set 5 ?_ sc.nd
  refine ew_lstD ?_
  refine aw_cons ?_
  refine ew_tup ?_
  refine aw_cons ?_
  refine ew_str ?_
  refine aw_cons ?_
  refine ew_cmp ?_
  refine ew_callB (T.no Z.n_len) bt_len ?_
  refine aw_cons ?_
  refine ew_var 2 ?_
  refine aw_nil ?_
  refine cb_lenL ?_
  refine ew_int ?_
  
  rw [List.length_map, tok_cnt]
  refine ob_gt ?_
  refine aw_nil ?_
  refine ⟨[_, _], rfl, by walk_at "few", ?_⟩
  refine aw_cons ?_
  refine ew_tup ?_
  refine aw_cons ?_
  refine ew_str ?_
  refine aw_cons ?_
  refine ew_cmp ?_
  refine ew_var 1 ?_
  refine ew_int ?_
  walk_at "cmp Gt"
  refine aw_nil ?_
  refine ⟨[_, _], rfl, by walk_at "few", ?_⟩
  refine aw_cons ?_
  refine ew_tup ?_
  refine aw_cons ?_
  refine ew_str ?_
  refine aw_cons ?_
  refine ew_cmp ?_
  refine ew_var 3 ?_
  refine ew_int ?_
  walk_at "cmp Gt"
  refine aw_nil ?_
  refine ⟨[_, _], rfl, by walk_at "few", ?_⟩
  refine aw_nil ?_
  refine ⟨[_, _, _], rfl, by walk_at "few", ?_⟩
  refine sw_one ?_
  refine s1_ret ?_
  refine ew_ix ?_
  refine ew_bin ?_
  refine ew_map (bxL t d) bxD (fun q => .str q.1) (fun q => q.2) [("_law_word", 6), ("_law_is_so", 7)] sc.nd (.two (i := 6) (j := 7) (by decide) (by decide) fun Y ⟨_, _, _, _, _, e⟩ => by subst e; exact pg_tup rfl (pgs_cons (pg_name (i := 6) sc.nd rfl (.inl rfl) (.inr rfl)) (pgs_cons (pg_name (i := 7) sc.nd rfl (.inl rfl) (.inr rfl)) pgs_nil))) (blkOk_by (N := N_law_excess) (sc := defScope s_law_excess) (by decide +kernel)) (iw_list (ew_var 5 ⟨_, rfl, rfl, rfl⟩)) (show 3 ≤ sizeLine by decide) (fun q hq => ⟨_, ⟨_, _, rfl, rfl⟩, fun O' Y hY => ?_⟩) ?_
  · obtain ⟨_, _, _, _, _, rfl⟩ := hY
    refine ⟨tsw_one ?_, fun _ => ?_⟩
    · refine tw_val ?_
      refine ew_var 7 ?_
      exact ⟨_, rfl, rfl, rfl⟩
    · refine ew_var 6 ?_
      exact ⟨rfl, rfl⟩
  refine ew_lstD ?_
  refine aw_cons ?_
  refine ew_non ?_
  refine aw_nil ?_
  refine ⟨[_], rfl, by walk_at "few", ?_⟩
  
  refine ob_catL (by
    rw [List.length_map]
    exact Nat.le_trans (Nat.add_le_add_right (Nat.le_trans (List.length_filter_le _ _) (show (bxL t d).length ≤ 3 from Nat.le_refl 3)) 1) (by decide)) ?_
  refine ew_int ?_
  refine ix_lst (exc_first t d) ?_
  exact h
theorem c_law_excess (T : TopOf K mg) (Z : Facts K) : Cal P w K mg base false (100) "_law_excess" (ExcS) [] := cal_of T Z.d_law_excess (by walk_at "b2") fun f fd F => fn_law_excess T Z F
end
/-! how deep the text of a tree is -/
theorem isJ_norm {t : Tr} (h : WT t) : isJ (norm t) = joW.any (· == wordT t) := by
  rw [jo_word h]
  cases t with
  | aw ws => rfl
  | hd w t => rfl
  | j2 w a b => rw [norm, join2_word]; rfl
theorem isOr_norm {t : Tr} (h : WT t) : isOr (norm t) = decide (wordT t = "or") := by
  cases t with
  | aw ws =>
    rw [WT] at h
    exact (decide_eq_false fun e => atW_jo _ (aw_word h) (by rw [show ws.headD "" = "or" from e]; decide +kernel)).symm
  | hd w t =>
    rw [WT] at h
    exact (decide_eq_false fun e => heW_jo _ h.1 (by rw [show w = "or" from e]; decide +kernel)).symm
  | j2 w a b => rw [norm, join2_word]; rfl
theorem dpts_app {b : Bool} : ∀ {cs ds : List Cn}, dpts b (cs ++ ds) = max (dpts b cs) (dpts b ds)
  | [], ds => by rw [dpts]; simp
  | c :: cs, ds => by rw [List.cons_append, dpts, dpts, dpts_app]; omega
theorem inH_d {t : Tr} {z : Str} {d : Nat} : (inH t (z, d)).2 = d + b2n (joW.any (· == wordT t)) := by
  unfold inH b2n
  split <;> rfl
theorem inJ_d {w : Str} {t : Tr} {z : Str} {d : Nat} : (inJ w t (z, d)).2 = d + b2n (decide (w = "and") && decide (wordT t = "or")) := by
  unfold inJ b2n
  split <;> rfl
theorem parts_dpt {w : Str} {t : Tr} (hw : w ∈ joW) (h : WT t) : dpts (decide (w = "and")) (partsOf w (norm t)) = dpt (norm t) + b2n (decide (w = "and") && decide (wordT t = "or")) := by
  by_cases e : wordT t = w
  · have e0 : (decide (w = "and") && decide (wordT t = "or")) = false := by
      rw [e]
      rcases jo_is hw with rfl | rfl <;> decide +kernel
    rw [e0]
    cases t with
    | aw ws =>
      rw [WT] at h
      exact absurd hw (by rw [← e]; exact atW_jo _ (aw_word h))
    | hd v t =>
      rw [WT] at h
      exact absurd hw (by rw [← e]; exact heW_jo _ h.1)
    | j2 v a b =>
      obtain rfl : v = w := e
      rw [norm, join2_word, parts_jn, dpt]; rfl
  · rw [parts_ne (by rw [word_norm]; exact e), dpts, dpts, isOr_norm h]; omega
theorem dpt_norm : ∀ {t : Tr}, WT t → dpt (norm t) = dT t
  | .aw ws, _ => by rw [norm, dpt, dT]
  | .hd w t, h => by
    rw [WT] at h
    rw [norm, dpt, dT, inH_d, dpt_norm h.2, isJ_norm h.2]; omega
  | .j2 w a b, h => by
    rw [WT] at h
    rw [norm, join2_word, dpt, dpts_app, parts_dpt h.1 h.2.1, parts_dpt h.1 h.2.2, dpt_norm h.2.1, dpt_norm h.2.2, dT, inJ_d, inJ_d]
/-- the shortest text is no deeper than any -/
theorem dT_le {t u : Tr} {q : Str × Nat} (h : Wr u q) (hu : WT u) (au : AT u) (hz : q.1.length ≤ 90000) (ht : WT t) (e : norm u = norm t) : dT t ≤ q.2 := by
  obtain ⟨s, r1, r2, r3, r4⟩ := told_run h hu au
  have hws : (wordsS q.1).length ≤ 100000 := Nat.le_trans (wordsS_count q.1) (Nat.le_trans (Nat.add_le_add_right hz 1) (by decide))
  have hwl : ∀ x ∈ wordsS q.1, x.length ≤ 100000 := fun x hx => Nat.le_trans (wordsS_len hx) (Nat.le_trans hz (by decide))
  obtain ⟨b1, d1, bl, hd1⟩ := run_ok (wn := true) (bd_new hws hwl) (dp_new _) (fun _ => rfl) r1
  have htp := d1.top
  have hm := d1.most
  have h1 := d1.deep
  rw [bl] at htp h1
  have e0 : sumH [] = 0 := rfl
  rw [e0] at htp h1
  obtain ⟨_, n2⟩ := dp_ended htp (by omega)
  rw [r2, e, dpt_norm ht, r4] at n2
  omega
theorem exc_none {t : Tr} {d e : Nat} (h : excT t d = none) (he : e ≤ d) : excT t e = none := by
  unfold excT at h ⊢
  split at h
  · cases h
  · split at h
    · cases h
    · split at h
      · cases h
      · rename_i h1 h2 h3
        rw [if_neg h1, if_neg (by omega), if_neg h3]
theorem exc_deep {t : Tr} {d : Nat} (h : excT t d = none) : d ≤ 6 := by
  unfold excT at h
  split at h
  · cases h
  · split at h
    · cases h
    · omega
/-- a question is read from what was written, where nothing is too much -/
theorem read_made {K : PySem.W.Frag} {C : Addr} {t u : Tr} {q : Str × Nat} {O : Own} {R : Out → Own → Prop} (hC : clsAt K "Question" C) (h : Wr u q) (hu : WT u) (au : AT u) (ht : WT t) (at_ : AT t) (e1 : norm u = norm t) (e2 : cntT u = cntT t) (hz : q.1.length ≤ 90000)
    (hx : excT t q.2 = none) (k : hgt (norm t) ≤ 25 → R (.ret (.dat (insQ C (norm t)))) O) : QReadS K [.dat (.cls C), .dat (.str q.1)] O R := by
  have hdue := due_told h hu au ht at_ e1 e2
  obtain ⟨s, r1, r2, r3, r4⟩ := told_run h hu au
  rw [hx] at hdue
  have hd6 := exc_deep hx
  refine qread_by hC hz (fun i hi => ?_) (fun zz hzz => ?_) fun s' hs' _ _ => ?_
  · rw [r1] at hi; cases hi
  · rw [hdue] at hzz
    have : (Str.ofString "text") = "many" := by injection hzz with h1; injection h1 with h2; injection h2
    exact absurd this (by decide +kernel)
  · rw [r1] at hs'
    cases hs'
    obtain ⟨_, g2, _⟩ := read_ok hz r1 (by omega)
    rw [r2, e1] at g2 ⊢
    exact k g2
theorem ht_sz : ∀ t : Tr, htT t ≤ szT t
  | .aw ws => Nat.le_refl 1
  | .hd w t => by have := ht_sz t; rw [htT, szT]; omega
  | .j2 w a b => by have := ht_sz a; have := ht_sz b; rw [htT, szT]; omega
/-! what is due, as data that is compared -/
theorem dueW_two (t : Tr) (d : Nat) (h : sml (shwT t)) : ∃ a b, dueW t (excT t d) = .tup [.str a, .str b] ∧ smlB a = true ∧ smlB b = true := by
  unfold excT
  split
  · exact ⟨_, _, rfl, by decide +kernel, by decide +kernel⟩
  · split
    · exact ⟨_, _, rfl, by decide +kernel, by decide +kernel⟩
    · split
      · exact ⟨_, _, rfl, by decide +kernel, by decide +kernel⟩
      · exact ⟨_, _, rfl, by decide +kernel, sml_b h⟩
theorem ob_neSame {X : Cx} {O : Own} {k : Slot → Own → Prop} {t : Tr} {d : Nat} (hr : Room 0 X.A) (hs : sml (shwT t)) (h : k (.dat (.bl false)) O) : OpB X (compareOp .NotEq) (.dat (dueW t (excT t d))) (.dat (dueW t (excT t d))) O k := by
  obtain ⟨a, b, e, h1, h2⟩ := dueW_two t d hs
  rw [e]
  have hf : fine (.tup [.str a, .str b]) = true := by
    show (smlB a && (smlB b && true)) = true
    rw [h1, h2]; rfl
  refine ob_ne hr (fine_all _ hf).1 (fine_all _ hf).1 (shape_of hf (show 0 + 1 ≤ 64 by decide)) (shape_of hf (show 0 + 1 ≤ 64 by decide)) ?_
  rw [eqD_tup, eqA_two, eqD_str, eqD_str, decide_eq_true rfl, decide_eq_true rfl]
  exact h
def QEqS (K : PySem.W.Frag) : SpecT := fun ss O R => ∃ (C : Addr) (c : Cn) (d : Dat), ss = [.dat (insQ C c), .dat d] ∧ clsAt K "Question" C ∧ WF c ∧ hgt c ≤ 25 ∧
  ((∃ c', d = insQ C c' ∧ WF c' ∧ hgt c' ≤ 25 ∧ R (.ret (.dat (.bl (eqD (cD c) (cD c'))))) O) ∨ (tyName d ≠ "" ∧ PySem.W.kitOne K (.type (tyName d)) (.ref C) = some false ∧ R (.ret (.dat (.bl false))) O))
theorem shape_cD {c : Cn} (h : WF c) (h2 : hgt c ≤ 25) : SeqAt.shaped (toPy (cD c)) = true := shape_of (fine_cD h) (Nat.le_trans (dep_cD c) (by omega))
section
variable {P : Program} {w : World} {K : PySem.W.Frag} {mg : Str → Option Value} {base : Heap}
theorem fn_Question_eq (T : TopOf K mg) (Z : Facts K) {f : Addr} {fd : FuncData} (F : L2.Fun K "__eq__" "Question.__eq__" s_Question_eq f fd) : Fn P w K mg base false (1) f fd ["self", "other"] (QEqS K) := by
  have sc := sc_Question_eq
  refine fn_mk F sc_Question_eq (fun ss O R h => by first | (obtain ⟨_, rfl, _⟩ := h; rfl) | (obtain ⟨_, _, rfl, _⟩ := h; rfl) | (obtain ⟨_, _, _, rfl, _⟩ := h; rfl) | (obtain ⟨_, _, _, _, rfl, _⟩ := h; rfl) | (obtain ⟨_, _, _, _, _, rfl, _⟩ := h; rfl) | (obtain ⟨_, _, _, _, _, _, rfl, _⟩ := h; rfl) | (obtain ⟨_, _, _, _, _, _, _, rfl, _⟩ := h; rfl)) fun cdv A outer s H E ss O R hr hpo h => ?_
  obtain ⟨C, c, d, rfl, hC, hw, hg, h⟩ := h
  obtain ⟨C', I_Question, mI, mRead, mSized, mMade, mS, mEq, mAnd, mOr, mInv, n1, n2⟩ := Z.c_Question
  obtain rfl := at_inj hC I_Question.at_
  obtain ⟨t, tv, hsl, hkit, hyes, hno⟩ : ∃ (t : Bool) (tv : Value), isSl K O tv (.dat d) ∧ PySem.W.kitOne K tv (.ref C) = some t ∧ (t = true → ∃ c', d = insQ C c' ∧ WF c' ∧ hgt c' ≤ 25 ∧ R (.ret (.dat (.bl (eqD (cD c) (cD c'))))) O) ∧ (t = false → R (.ret (.dat (.bl false))) O) := by
    rcases h with ⟨c', rfl, h1, h2, h⟩ | ⟨hp, hk, h⟩
    · exact ⟨true, .ref C, .inr ⟨C, I_Question.ins, rfl, rfl⟩, kit_self, fun _ => ⟨c', rfl, h1, h2, h⟩, fun e => (by cases e)⟩
    · exact ⟨false, _, .inl ⟨d, rfl, hp, rfl⟩, hk, fun e => (by cases e), fun _ => h⟩
  -- 0:self 1:other
  refine sw_one ?_
  refine s1_ret ?_
  refine ew_and ?_
  refine ew_callB (T.no Z.n_isinstance) bt_isinstance ?_
  refine aw_cons ?_
  refine ew_var 1 ?_
  refine aw_cons ?_
  refine ew_cls (T.is I_Question.at_) ?_
  refine aw_nil ?_
  refine cb_isC hkit hsl ?_
  refine ⟨_, rfl, fun ht => ?_, fun ht => ?_⟩
  · obtain ⟨c', rfl, hw', hg', h⟩ := hyes ht
    refine ew_one ?_
    refine ew_cmp ?_
    refine ew_fld ?_
    refine ew_var 0 ?_
    refine ⟨cD c, I_Question.ins.cl, n1, rfl, ?_⟩
    refine ew_fld ?_
    refine ew_var 1 ?_
    refine ⟨cD c', I_Question.ins.cl, n1, rfl, ?_⟩
    refine ob_eq (hr.r.mono (by decide)) (fine_all _ (fine_cD hw)).1 (fine_all _ (fine_cD hw')).1 (shape_cD hw hg) (shape_cD hw' hg') ?_
    exact h
  · subst ht; exact hno rfl
theorem eqc_Question (T : TopOf K mg) (Z : Facts K) {C : Addr} (hC : clsAt K "Question" C) : EqC P w K mg base 1 C (QEqS K) := by
  obtain ⟨C', I, mI, mRead, mSized, mMade, mS, mEq, mAnd, mOr, mInv, n1, n2⟩ := Z.c_Question
  obtain rfl := at_inj hC I.at_
  exact eqc_of I mEq (fun _ _ _ _ _ _ us hl => match us, hl with | [_, _], _ => rfl) fun f fd F => fn_Question_eq T Z F
end
/-! a text of which one knows what is read -/
structure Dx (t : Tr) (z : Str) (d : Nat) (one : Prop) : Prop where
  ex : ∃ (ks : List Str) (gs : List (List Cn)), Rg ks gs d (cntT t) ∧ z = Txt.join " " ks ∧ (∀ k ∈ ks, gw k) ∧ valG gs = norm t ∧ (one → ∃ c, gs = [[c]])
theorem dx_wr {t : Tr} {q : Str × Nat} {one : Prop} (h : Wr t q) (hw : WT t) (ha : AT t) (ho : ¬ one) : Dx t q.1 q.2 one := by
  obtain ⟨ks, gs, h1, h2, h3, h4, _⟩ := (wr_read h hw ha).ex
  exact ⟨ks, gs, h1, h2, h3, h4, fun q => absurd q ho⟩
theorem dx_one {t : Tr} {z : Str} {d : Nat} {one two : Prop} (h : Dx t z d one) (g : two → one) : Dx t z d two := by
  obtain ⟨ks, gs, h1, h2, h3, h4, h5⟩ := h.ex
  exact ⟨ks, gs, h1, h2, h3, h4, fun q => h5 (g q)⟩
theorem dx_cl {t : Tr} {z : Str} {d : Nat} {one two : Prop} (h : Dx t z d one) : Dx t ("( " ++ z ++ " )") (d + 1) two := by
  obtain ⟨ks, gs, h1, h2, h3, h4, _⟩ := h.ex
  refine ⟨("(" : Str) :: (ks ++ [(")" : Str)]), [[valG gs]], .cl h1, ?_, ?_, h4, fun _ => ⟨_, rfl⟩⟩
  · rw [txt_cl h1.ne.2.2, h2]
  · intro k hk
    rcases List.mem_cons.mp hk with rfl | hk
    · exact gw_in (by decide +kernel)
    · rcases List.mem_append.mp hk with hk | hk
      · exact h3 k hk
      · rw [List.mem_singleton.mp hk]; exact gw_in (by decide +kernel)
theorem dx_hd {t : Tr} {z w : Str} {d : Nat} {one two : Prop} (h : Dx t z d one) (ho : one) (hw : w ∈ heW) : Dx (.hd w t) (w ++ " " ++ z) (d + 1) two := by
  obtain ⟨ks, gs, h1, h2, h3, h4, h5⟩ := h.ex
  obtain ⟨c, rfl⟩ := h5 ho
  refine ⟨w :: ks, [[.hd w c]], .hd hw h1, ?_, ?_, ?_, fun _ => ⟨_, rfl⟩⟩
  · rw [join_cons h1.ne.2.2, h2]
  · intro k hk
    rcases List.mem_cons.mp hk with rfl | hk
    · exact gw_he hw
    · exact h3 k hk
  · rw [valG_unit] at h4 ⊢
    rw [h4, norm]
theorem dx_due {t : Tr} {z : Str} {d : Nat} {one : Prop} (h : Dx t z d one) (hw : WT t) (ha : AT t) : dueQ z = dueW t (excT t d) := by
  obtain ⟨ks, gs, h1, h2, h3, h4, _⟩ := h.ex
  obtain ⟨s, r1, r2, r3, r4⟩ := run_read h1 h3
  rw [← h2] at r1
  unfold dueQ
  rw [r1]
  show dueT s = _
  unfold dueT excT
  rw [r2, r3, r4, h4, out_norm hw ha, shw_norm hw]
  split
  · rfl
  · by_cases q6 : 6 < d
    · rw [if_pos (show (6 : Int) < (d : Int) by omega), if_pos q6]; rfl
    · rw [if_neg (show ¬ (6 : Int) < (d : Int) by omega), if_neg q6]
      split <;> rfl
def sixD : List Str := ["not", "(", "(", "not", "above", "parent"]
theorem sixD_in : ∀ w ∈ sixD, w ≠ "(" → w ∈ heW := by decide +kernel
theorem sixD_h : ∀ w ∈ sixD, w ≠ "(" → (if (["above", "parent"] : List Str).any (· == w) = true then (1 : Int) else 0) = ((hN w : Nat) : Int) := by decide +kernel
def DeepS : SpecT := fun ss O R => ∃ (p : Addr) (b : Cell) (t : Tr) (q : Str × Nat), ss = [.own p, .dat (qD q)] ∧ O p = some b ∧ isBox b ∧ WT t ∧ AT t ∧ Wr t q ∧ okN 260 q.1 ∧
  ∀ (b' : Cell) (t' : Tr) (z : Str) (d m : Nat), isBox b' → Dx t' z d False → WT t' → AT t' → cntT t' = cntT t + m → okN 400 z → R (.ret (.dat (.tup [.str z, .int (d : Int), .int (m : Int)]))) (up O p b')
section
variable {P : Program} {w : World} {K : PySem.W.Frag} {mg : Str → Option Value} {base : Heap}
theorem fn_law_deeper (T : TopOf K mg) (Z : Facts K) {f : Addr} {fd : FuncData} (F : L2.Fun K "_law_deeper" "_law_deeper" s_law_deeper f fd) : Fn P w K mg base false (3) f fd ["_law_box_here", "_law_found"] (DeepS) := by
  have sc := sc_law_deeper
  refine fn_mk F sc_law_deeper (fun ss O R h => by first | (obtain ⟨_, rfl, _⟩ := h; rfl) | (obtain ⟨_, _, rfl, _⟩ := h; rfl) | (obtain ⟨_, _, _, rfl, _⟩ := h; rfl) | (obtain ⟨_, _, _, _, rfl, _⟩ := h; rfl) | (obtain ⟨_, _, _, _, _, rfl, _⟩ := h; rfl) | (obtain ⟨_, _, _, _, _, _, rfl, _⟩ := h; rfl) | (obtain ⟨_, _, _, _, _, _, _, rfl, _⟩ := h; rfl)) fun cdv A outer s H E ss O R hr hpo h => ?_
  obtain ⟨p, b, t, q, rfl, hp, hb, hw, hat, hq, hz, h⟩ := h
  -- 0:_law_box_here 1:_law_found 2:_law_text 3:_law_deep 4:_law_more 5:_law_turn 6:_law_word
  refine sw_cons ?_
  refine s1_par3 2 3 4 ?_ sc.nd
  refine aw_cons ?_
  refine ew_ix ?_
  refine ew_var 1 ?_
  refine ew_int ?_
  refine ix_tpl (d := .str q.1) rfl ?_
  refine aw_cons ?_
  refine ew_ix ?_
  refine ew_var 1 ?_
  refine ew_int ?_
  refine ix_tpl (d := .int (q.2 : Int)) rfl ?_
  refine aw_cons ?_
  refine ew_int ?_
  refine aw_nil ?_
  refine ⟨_, _, _, rfl, ?_⟩
  refine sw_cons ?_
  refine s1_for hpo ?_
  refine iw_range1 (T.no Z.n_range) ?_
  refine aw_cons ?_
  refine ew_call (c_law_take T Z) hr ?_
  refine aw_cons ?_
  refine ew_var 0 ?_
  refine aw_cons ?_
  refine ew_int ?_
  refine aw_nil ?_
  refine ⟨p, 9, b, rfl, hp, hb, by decide, by decide, fun v b0 hv0 hv1 hb0 => ?_⟩
  refine aw_nil ?_
  refine ⟨v, rfl, by constructor <;> omega, ?_⟩
  refine ⟨fun i ρ' O' => ∃ (b' : Cell) (t' : Tr) (z : Str) (d m : Nat) (s5 s6 : Slot), ρ' = [.own p, .dat (qD q), .dat (.str z), .dat (.int (d : Int)), .dat (.int (m : Int)), s5, s6] ∧ O' = up O p b' ∧ isBox b' ∧ Dx t' z d (0 < i) ∧ WT t' ∧ AT t' ∧ cntT t' = cntT t + m ∧ okN (260 + 12 * min i 8) z, ?_, ?_, ?_⟩
  · exact ⟨b0, t, q.1, q.2, 0, _, _, rfl, rfl, hb0, dx_wr hq hw hat (Nat.lt_irrefl 0), hw, hat, rfl, hz⟩
  · intro i d ρ2 O2 hj hd
    obtain ⟨b1, t1, z, dd, m, s5, s6, rfl, rfl, hb1, hx, hw1, hat1, hc1, hz1⟩ := hj
    obtain ⟨hi, hd'⟩ := rangeD_at hd
    have e0 : (0 : Int) + (i : Int) = (i : Int) := by omega
    rw [e0] at hd'
    subst hd'
    refine gw_name 5 ?_ sc.nd
    refine sw_cons ?_
    refine s1_set 6 ?_ sc.nd
    refine ew_call (c_law_pick T Z) hr ?_
    refine aw_cons ?_
    refine ew_var 0 ?_
    refine aw_cons ?_
    refine ew_lstD ?_
    refine aw_cons ?_
    refine ew_str ?_
    refine aw_cons ?_
    refine ew_str ?_
    refine aw_cons ?_
    refine ew_str ?_
    refine aw_cons ?_
    refine ew_str ?_
    refine aw_cons ?_
    refine ew_str ?_
    refine aw_cons ?_
    refine ew_str ?_
    refine aw_nil ?_
    refine ⟨[_, _, _, _, _, _], rfl, by walk_at "few", ?_⟩
    refine aw_nil ?_
    refine ⟨p, b1, sixD.map .str, rfl, up_at, hb1, by decide, by decide, fun d2 b2 hd2 hb2 => ?_⟩
    obtain ⟨w0, hw0, rfl⟩ := List.mem_map.mp hd2
    rw [up_up]
    have hz1' : okN 360 z := hz1.up (by omega)
    refine sw_cons ?_
    refine s1_set 2 ?_ sc.nd
    refine ew_ev (d := (.str (if (decide (w0 = "(") || decide ((i : Int) = 0)) = true then "( " ++ z ++ " )" else z))) ?_ ?_
    · refine ew_if ?_
      refine tw_tv (t := (decide (w0 = "(") || decide ((i : Int) = 0))) (tv_w (tvw_or (tw_cmp (ew_var 6 (ew_str (by first | exact ob_eqS ⟨_, rfl, rfl, rfl⟩ | exact ob_eqI ⟨_, rfl, rfl, rfl⟩ | exact ob_eqB ⟨_, rfl, rfl, rfl⟩)))) fun hq => (tvw_or1 (tw_cmp (ew_var 5 (ew_int (by first | exact ob_eqS ⟨_, rfl, rfl, rfl⟩ | exact ob_eqI ⟨_, rfl, rfl, rfl⟩ | exact ob_eqB ⟨_, rfl, rfl, rfl⟩))))))) ?_
      refine ⟨fun ht => ?_, fun ht => ?_⟩
      · refine ew_bin ?_
        refine ew_bin ?_
        refine ew_str ?_
        refine ew_var 2 ?_
        refine ob_catN op_ok hz1 (by omega) ?_
        refine ew_str ?_
        refine ob_catN (op_ok.app hz1) cl_ok (by omega) ?_
        rw [if_pos ht]
        exact ⟨rfl, rfl⟩
      · refine ew_var 2 ?_
        rw [if_neg (by rw [ht]; decide)]
        exact ⟨rfl, rfl⟩
    obtain ⟨z1, ez1⟩ : ∃ z1 : Str, z1 = (if (decide (w0 = "(") || decide ((i : Int) = 0)) = true then "( " ++ z ++ " )" else z) := ⟨_, rfl⟩
    rw [← ez1]
    obtain ⟨d1, ed1⟩ : ∃ d1 : Nat, d1 = dd + (if (decide (w0 = "(") || decide ((i : Int) = 0)) = true then 1 else 0) := ⟨_, rfl⟩
    have hx1 : Dx t1 z1 d1 (0 < i + 1) := by
      rw [ez1, ed1]
      by_cases hc : (decide (w0 = "(") || decide ((i : Int) = 0)) = true
      · rw [if_pos hc, if_pos hc]; exact dx_cl hx
      · rw [if_neg hc, if_neg hc]
        refine dx_one hx fun _ => ?_
        have h2 : ¬ (i : Int) = 0 := fun q => hc (by rw [decide_eq_true q, Bool.or_true])
        omega
    have hi8 : i < 8 := by omega
    have ho1 : okN (264 + 12 * i) z1 := by
      rw [show min i 8 = i by omega] at hz1
      rw [ez1]
      split
      · exact ((op_ok.app hz1).app cl_ok).up (by omega)
      · exact hz1.up (by omega)
    have ed : (dd : Int) + (if (decide (w0 = "(") || decide ((i : Int) = 0)) = true then 1 else 0) = ((d1 : Nat) : Int) := by
      rw [ed1]
      split <;> rfl
    obtain ⟨m1, em1⟩ : ∃ m1 : Nat, m1 = m + (if w0 = "(" then 0 else hN w0) := ⟨_, rfl⟩
    have em : (m : Int) + (if (["above", "parent"] : List Str).any (· == w0) = true then 1 else 0) = ((m1 : Nat) : Int) := by
      rw [em1]
      by_cases hc : w0 = "("
      · rw [if_pos hc, hc, if_neg (by decide +kernel)]; rfl
      · rw [if_neg hc, sixD_h w0 hw0 hc]; rfl
    refine sw_cons ?_
    refine s1_par 3 4 ?_ sc.nd
    refine aw_cons ?_
    refine ew_bin ?_
    refine ew_var 3 ?_
    refine ew_callTy (T.no Z.n_int) bt_int ?_
    refine aw_cons ?_
    refine ew_ev (d := (.bl (decide (w0 = "(") || decide ((i : Int) = 0)))) (ev_or (ew_cmp (ew_var 6 (ew_str (by first | exact ob_eqS ⟨rfl, rfl⟩ | exact ob_eqI ⟨rfl, rfl⟩ | exact ob_eqB ⟨rfl, rfl⟩)))) fun _ => (ew_one (ew_cmp (ew_var 5 (ew_int (by first | exact ob_eqS ⟨rfl, rfl⟩ | exact ob_eqI ⟨rfl, rfl⟩ | exact ob_eqB ⟨rfl, rfl⟩)))))) ?_
    refine aw_nil ?_
    refine cb_intB ?_
    
    walk_at "op add"
    rw [ed]
    refine aw_cons ?_
    refine ew_bin ?_
    refine ew_var 4 ?_
    refine ew_callTy (T.no Z.n_int) bt_int ?_
    refine aw_cons ?_
    refine ew_ev (d := (.bl ((["above", "parent"] : List Str).any (· == w0)))) (ew_cmp (ew_var 6 (ew_tup (aw_cons (ew_str (aw_cons (ew_str (aw_nil ⟨[_, _], rfl, by walk_at "few", (by first | exact ob_inS ⟨rfl, rfl⟩ | exact ob_inT (ws := ["above", "parent"]) ⟨rfl, rfl⟩ | exact ob_inL (ws := ["above", "parent"]) ⟨rfl, rfl⟩)⟩)))))))) ?_
    refine aw_nil ?_
    refine cb_intB ?_
    
    walk_at "op add"
    rw [em]
    refine aw_nil ?_
    refine ⟨_, _, rfl, ?_⟩
    refine sw_one ?_
    refine s1_if ?_
    refine tw_tv (t := (!decide (w0 = "("))) (tw_cmp (ew_var 6 (ew_str (by first | exact ob_neS ⟨_, rfl, rfl, rfl⟩ | exact ob_neI ⟨_, rfl, rfl, rfl⟩)))) ?_
    refine ⟨fun ht => ?_, fun ht => ?_⟩
    · have hne : w0 ≠ "(" := fun q => by rw [decide_eq_true q] at ht; cases ht
      have hwh := sixD_in w0 hw0 hne
      have hwo := heW_ok w0 hwh
      refine sw_one ?_
      refine s1_par 2 3 ?_ sc.nd
      refine aw_cons ?_
      refine ew_bin ?_
      refine ew_bin ?_
      refine ew_var 6 ?_
      refine ew_str ?_
      refine ob_catN hwo sp_ok (by omega) ?_
      refine ew_var 2 ?_
      refine ob_catN (hwo.app sp_ok) ho1 (by omega) ?_
      refine aw_cons ?_
      refine ew_bin ?_
      refine ew_var 3 ?_
      refine ew_int ?_
      walk_at "op add"
      refine aw_nil ?_
      refine ⟨_, _, rfl, ?_⟩
      refine ⟨b2, .hd w0 t1, w0 ++ " " ++ z1, d1 + 1, m1, _, _, rfl, rfl, hb2, dx_hd hx1 (Nat.succ_pos i) hwh, by rw [WT]; exact ⟨hwh, hw1⟩, hat1, ?_, ((hwo.app sp_ok).app ho1).up (by omega)⟩
      rw [em1, if_neg hne, cntT, hc1]; omega
    · have hne : w0 = "(" := by
        by_cases q : w0 = "("
        · exact q
        · rw [decide_eq_false q] at ht; cases ht
      refine sw_nil ?_
      refine ⟨b2, t1, z1, d1, m1, _, _, rfl, rfl, hb2, hx1, hw1, hat1, ?_, ho1.up (by omega)⟩
      rw [em1, if_pos hne, hc1]; rfl
  · intro ρ2 O2 hj
    obtain ⟨b1, t1, z, dd, m, s5, s6, rfl, rfl, hb1, hx, hw1, hat1, hc1, hz1⟩ := hj
    refine sw_one ?_
    refine s1_ret ?_
    refine ew_tup ?_
    refine aw_cons ?_
    refine ew_var 2 ?_
    refine aw_cons ?_
    refine ew_var 3 ?_
    refine aw_cons ?_
    refine ew_var 4 ?_
    refine aw_nil ?_
    refine ⟨[_, _, _], rfl, by walk_at "few", ?_⟩
    exact h b1 t1 z dd m hb1 (dx_one hx fun q => q.elim) hw1 hat1 hc1 (hz1.up (by omega))
theorem c_law_deeper (T : TopOf K mg) (Z : Facts K) : Cal P w K mg base false (3) "_law_deeper" (DeepS) [] := cal_of T Z.d_law_deeper (by walk_at "b2") fun f fd F => fn_law_deeper T Z F
end
/-! far too deep -/
def ansQ (z : Str) : Nat := match runQ z with | .error i => 100 + i | .ok s => if 8 < s.atoms then 0 else if 6 < s.deepest then 1 else 2
def wordD (i : Nat) : Dat := .tup [.str "word", .int (i : Int)]
def manyD (z : Str) : Dat := .tup [.str "many", .str z]
theorem ans_word {z : Str} {i : Nat} (h : ansQ z = 100 + i) : dueQ z = wordD i := by
  unfold ansQ at h
  unfold dueQ
  cases hq : runQ z with
  | error j =>
    rw [hq] at h
    have : j = i := by
      have h : 100 + j = 100 + i := h
      omega
    rw [this]; rfl
  | ok s =>
    rw [hq] at h
    have h : (if 8 < s.atoms then 0 else if 6 < s.deepest then 1 else 2) = 100 + i := h
    split at h
    · omega
    · split at h <;> omega
theorem ans_atoms {z : Str} (h : ansQ z = 0) : dueQ z = manyD "atoms" := by
  unfold ansQ at h
  unfold dueQ
  cases hq : runQ z with
  | error j =>
    rw [hq] at h
    have h : 100 + j = 0 := h
    omega
  | ok s =>
    rw [hq] at h
    have h : (if 8 < s.atoms then 0 else if 6 < s.deepest then 1 else 2) = 0 := h
    show dueT s = _
    unfold dueT
    split at h
    · rename_i h8; rw [if_pos h8]; rfl
    · split at h <;> omega
theorem ans_deep {z : Str} (h : ansQ z = 1) : dueQ z = manyD "deep" := by
  unfold ansQ at h
  unfold dueQ
  cases hq : runQ z with
  | error j =>
    rw [hq] at h
    have h : 100 + j = 1 := h
    omega
  | ok s =>
    rw [hq] at h
    have h : (if 8 < s.atoms then 0 else if 6 < s.deepest then 1 else 2) = 1 := h
    show dueT s = _
    unfold dueT
    split at h
    · omega
    · rename_i h8
      split at h
      · rename_i h6; rw [if_neg h8, if_pos h6]; rfl
      · omega
def farL : List Str := ["not ", "( ", "not ( ", "parent not "]
def farC (w : Str) : Int := Txt.count w "(" * 20
def farZ (w : Str) : Str := timesS w 20 ++ "root" ++ timesS " )" (farC w)
def farD (w : Str) : Str := if w = "parent not " then "atoms" else "deep"
theorem far_c : ∀ w ∈ farL, (-1000 < farC w ∧ farC w < 1000) ∧ w.length ≤ 1000 := by decide +kernel
theorem far_1 : ∀ w ∈ farL, ansQ (farZ w) = (if w = "parent not " then 0 else 1) := by decide +kernel
theorem far_2 : ∀ w ∈ farL, ansQ (farZ w ++ " )") = 100 + (Txt.split (farZ w) " ").length := by decide +kernel
theorem far_3 : ∀ w ∈ farL, ansQ (timesS w 20) = 100 + ((Txt.split (timesS w 20) " ").length - 1) ∧ 1 ≤ (Txt.split (timesS w 20) " ").length := by decide +kernel
theorem far_l : ∀ w ∈ farL, (Txt.split (farZ w) " ").length ≤ 90001 ∧ (Txt.split (timesS w 20) " ").length - 1 ≤ 90001 := by decide +kernel
theorem far_n : ∀ w ∈ farL, (decide ((timesS w 20).length ≤ 300) && smlB (timesS w 20) && decide ((timesS " )" (farC w)).length ≤ 300) && smlB (timesS " )" (farC w))) = true := by decide +kernel
theorem far_p : ∀ w ∈ farL, ∃ c, atI w.cps.toList 0 = some c ∧ (Str.mk #[c] = "p" ↔ w = "parent not ") := by
  intro w hw
  have : w = "not " ∨ w = "( " ∨ w = "not ( " ∨ w = "parent not " := by
    rcases List.mem_cons.mp hw with h | hw
    · exact .inl h
    rcases List.mem_cons.mp hw with h | hw
    · exact .inr (.inl h)
    rcases List.mem_cons.mp hw with h | hw
    · exact .inr (.inr (.inl h))
    exact .inr (.inr (.inr (List.mem_singleton.mp hw)))
  rcases this with rfl | rfl | rfl | rfl
  · exact ⟨110, by decide +kernel, by decide +kernel⟩
  · exact ⟨40, by decide +kernel, by decide +kernel⟩
  · exact ⟨110, by decide +kernel, by decide +kernel⟩
  · exact ⟨112, by decide +kernel, by decide +kernel⟩
theorem far_due {w : Str} (h : w ∈ farL) : dueQ (farZ w) = manyD (farD w) := by
  have h1 := far_1 w h
  unfold farD
  split at h1
  · rename_i e; rw [if_pos e]; exact ans_atoms h1
  · rename_i e; rw [if_neg e]; exact ans_deep h1
/-! pairs that are compared -/
theorem ob_neMany {X : Cx} {O : Own} {k : Slot → Own → Prop} {a b c d : Str} (hr : Room 0 X.A) (ha : smlB a = true) (hb : smlB b = true) (hc : smlB c = true) (hd : smlB d = true) (h : k (.dat (.bl (!(decide (a = c) && decide (b = d))))) O) : OpB X (compareOp .NotEq) (.dat (.tup [.str a, .str b])) (.dat (.tup [.str c, .str d])) O k := by
  have hf : ∀ {x y : Str}, smlB x = true → smlB y = true → fine (.tup [.str x, .str y]) = true := fun hx hy => by
    show (smlB _ && (smlB _ && true)) = true
    rw [hx, hy]; rfl
  refine ob_ne hr (fine_all _ (hf ha hb)).1 (fine_all _ (hf hc hd)).1 (shape_of (hf ha hb) (show 0 + 1 ≤ 64 by decide)) (shape_of (hf hc hd) (show 0 + 1 ≤ 64 by decide)) ?_
  rw [eqD_tup, eqA_two, eqD_str, eqD_str]
  exact h
theorem ob_eqMany {X : Cx} {O : Own} {k : Slot → Own → Prop} {a b c d : Str} (hr : Room 0 X.A) (ha : smlB a = true) (hb : smlB b = true) (hc : smlB c = true) (hd : smlB d = true) (h : k (.dat (.bl (decide (a = c) && decide (b = d)))) O) : OpB X (compareOp .Eq) (.dat (.tup [.str a, .str b])) (.dat (.tup [.str c, .str d])) O k := by
  have hf : ∀ {x y : Str}, smlB x = true → smlB y = true → fine (.tup [.str x, .str y]) = true := fun hx hy => by
    show (smlB _ && (smlB _ && true)) = true
    rw [hx, hy]; rfl
  refine ob_eq hr (fine_all _ (hf ha hb)).1 (fine_all _ (hf hc hd)).1 (shape_of (hf ha hb) (show 0 + 1 ≤ 64 by decide)) (shape_of (hf hc hd) (show 0 + 1 ≤ 64 by decide)) ?_
  rw [eqD_tup, eqA_two, eqD_str, eqD_str]
  exact h
theorem eqD_int2 (i j : Int) : eqD (.int i) (.int j) = decide (i = j) := by
  unfold eqD
  show PyData.eqv (.int i) (.int j) = _
  unfold PyData.eqv
  by_cases h : i = j
  · subst h; simp
  · simp [h]
theorem ob_neWord {X : Cx} {O : Own} {k : Slot → Own → Prop} {i : Nat} (hr : Room 0 X.A) (hi : i ≤ 90001) (h : k (.dat (.bl false)) O) : OpB X (compareOp .NotEq) (.dat (wordD i)) (.dat (.tup [.str "word", .int (i : Int)])) O k := by
  have hf : fine (wordD i) = true := by
    show (fine (.str "word") && (fine (.int (i : Int)) && true)) = true
    rw [fine_nat (by omega) (by omega), show fine (.str "word") = true by decide +kernel]; rfl
  refine ob_ne hr (fine_all _ hf).1 (fine_all _ hf).1 (shape_of hf (show 0 + 1 ≤ 64 by decide)) (shape_of hf (show 0 + 1 ≤ 64 by decide)) ?_
  unfold wordD
  rw [eqD_tup, eqA_two, eqD_str, decide_eq_true rfl, eqD_int2, decide_eq_true rfl]
  exact h
theorem m1_count {X : Cx} {O : Own} {k : Slot → Own → Prop} {z y : Str} (h : k (.dat (.int (Txt.count z y))) O) : M1B X "str.count" z (.dat (.str y)) O k := ⟨_, mt_count, fun H0 σ ρ H v st r Q q => by
  cases r
  exact ⟨z, y, rfl, rfl, q _ H _ O h st (.int _)⟩⟩
def FarS : SpecT := fun ss O R => ∃ n : Int, ss = [.dat (.int n)] ∧ n = 20 ∧ R (.ret (.dat (.bl true))) O
section
variable {P : Program} {w : World} {K : PySem.W.Frag} {mg : Str → Option Value} {base : Heap}
theorem fn_law_far_right (T : TopOf K mg) (Z : Facts K) {f : Addr} {fd : FuncData} (F : L2.Fun K "_law_far_right" "_law_far_right" s_law_far_right f fd) : Fn P w K mg base false (61) f fd ["_law_many"] (FarS) := by
  have sc := sc_law_far_right
  refine fn_mk F sc_law_far_right (fun ss O R h => by first | (obtain ⟨_, rfl, _⟩ := h; rfl) | (obtain ⟨_, _, rfl, _⟩ := h; rfl) | (obtain ⟨_, _, _, rfl, _⟩ := h; rfl) | (obtain ⟨_, _, _, _, rfl, _⟩ := h; rfl) | (obtain ⟨_, _, _, _, _, rfl, _⟩ := h; rfl) | (obtain ⟨_, _, _, _, _, _, rfl, _⟩ := h; rfl) | (obtain ⟨_, _, _, _, _, _, _, rfl, _⟩ := h; rfl)) fun cdv A outer s H E ss O R hr hpo h => ?_
  obtain ⟨_, rfl, rfl, h⟩ := h
  -- 0:_law_many 1:_law_word 2:_law_closed_here 3:_law_text 4:_law_due
  refine sw_cons ?_
  refine s1_for hpo ?_
  refine iw_tup (ew_tup (aw_cons (ew_str (aw_cons (ew_str (aw_cons (ew_str (aw_cons (ew_str (aw_nil ⟨farL.map .str, rfl, by walk_at "few", _, rfl, ?_⟩))))))))))
  refine ⟨fun i ρ' O' => ∃ s1 s2 s3 s4 : Slot, ρ' = [.dat (.int 20), s1, s2, s3, s4] ∧ O' = O, ?_, ?_, ?_⟩
  · exact ⟨_, _, _, _, rfl, rfl⟩
  · intro i d ρ2 O2 hj hd
    obtain ⟨s1, s2, s3, s4, rfl, rfl⟩ := hj
    obtain ⟨w0, hw0, rfl⟩ := List.mem_map.mp (List.mem_of_getElem? hd)
    have hc := far_c w0 hw0
    have hn := far_n w0 hw0
    simp only [Bool.and_eq_true, decide_eq_true_eq] at hn
    obtain ⟨⟨⟨n1, n2⟩, n3⟩, n4⟩ := hn
    have o1 : okN 300 (timesS w0 20) := ⟨n1, sml_of n2⟩
    have o2 : okN 300 (timesS " )" (farC w0)) := ⟨n3, sml_of n4⟩
    have o0 : okN 4 "root" := lit (by decide +kernel)
    have oz : okN 604 (farZ w0) := ((o1.app o0).app o2).up (by decide)
    have oz2 : okN 606 (farZ w0 ++ " )") := oz.app cl_ok
    obtain ⟨cp, hcp, hcpe⟩ := far_p w0 hw0
    obtain ⟨f31, f32⟩ := far_3 w0 hw0
    refine gw_name 1 ?_ sc.nd
    refine sw_cons ?_
    refine s1_set 2 ?_ sc.nd
    refine ew_bin ?_
    refine ew_m1 PySem.F.slot_str_count PySem.F.type_str_count ?_
    refine ew_var 1 ?_
    refine ⟨_, rfl, ?_⟩
    refine ew_str ?_
    refine m1_count ?_
    refine ew_var 0 ?_
    refine ob_mul (.inr (by decide)) ?_
    refine sw_cons ?_
    refine s1_set 3 ?_ sc.nd
    refine ew_bin ?_
    refine ew_bin ?_
    refine ew_bin ?_
    refine ew_var 1 ?_
    refine ew_var 0 ?_
    refine ob_times (n := 20) (by decide) hc.2 ?_
    refine ew_str ?_
    refine ob_catN o1 o0 (by decide) ?_
    refine ew_bin ?_
    refine ew_str ?_
    refine ew_var 2 ?_
    refine ob_times (n := farC w0) ⟨hc.1.2, hc.1.1⟩ (by decide +kernel) ?_
    refine ob_catN (o1.app o0) o2 (by decide) ?_
    refine sw_cons ?_
    refine s1_set 4 ?_ sc.nd
    refine ew_tup ?_
    refine aw_cons ?_
    refine ew_str ?_
    refine aw_cons ?_
    refine ew_ev (d := (.str (farD w0))) ?_ ?_
    · refine ew_if ?_
      refine tw_cmp ?_
      refine ew_ix ?_
      refine ew_var 1 ?_
      refine ew_int ?_
      refine ix_sgn (Nat.le_trans hc.2 (by decide)) hcp ?_
      refine ew_str ?_
      refine ob_eqS ?_
      refine ⟨_, rfl, fun ht => ?_, fun ht => ?_⟩
      · refine ew_str ?_
        rw [show farD w0 = "atoms" from if_pos (hcpe.mp (of_decide_eq_true ht))]
        exact ⟨rfl, rfl⟩
      · refine ew_str ?_
        rw [show farD w0 = "deep" from if_neg fun q => of_decide_eq_false ht (hcpe.mpr q)]
        exact ⟨rfl, rfl⟩
    refine aw_nil ?_
    refine ⟨[_, _], rfl, by walk_at "few", ?_⟩
    refine sw_cons ?_
    refine s1_if ?_
    refine tw_w ?_
    refine tww_or ?_
    refine tw_cmp ?_
    refine ew_call (c_law_question_read T Z) hr ?_
    refine aw_cons ?_
    refine ew_var 3 ?_
    refine aw_nil ?_
    refine ⟨farZ w0, rfl, Nat.le_trans oz.1 (by decide), ?_⟩
    rw [far_due hw0]
    refine ew_var 4 ?_
    
    refine ob_neMany (hr.r.mono (by decide)) (by decide +kernel) (by unfold farD; split <;> decide +kernel) (by decide +kernel) (by unfold farD; split <;> decide +kernel) ?_
    rw [decide_eq_true rfl, decide_eq_true rfl]
    refine ⟨_, rfl, fun ht => ?_, fun ht => ?_⟩
    · exact absurd ht (by decide)
    · refine tww_or1 ?_
      refine tw_cmp ?_
      refine ew_call (c_law_question_read T Z) hr ?_
      refine aw_cons ?_
      refine ew_bin ?_
      refine ew_var 3 ?_
      refine ew_str ?_
      refine ob_catN (oz.up (by decide : 604 ≤ 604)) cl_ok (by decide) ?_
      refine aw_nil ?_
      refine ⟨farZ w0 ++ " )", rfl, Nat.le_trans oz2.1 (by decide), ?_⟩
      rw [ans_word (far_2 w0 hw0)]
      refine ew_tup ?_
      refine aw_cons ?_
      refine ew_str ?_
      refine aw_cons ?_
      refine ew_callB (T.no Z.n_len) bt_len ?_
      refine aw_cons ?_
      refine ew_split ?_
      refine ew_var 3 ?_
      refine ⟨_, rfl, ?_⟩
      refine ew_str ?_
      refine m1_split (by decide +kernel) (Nat.le_trans (Nat.add_le_add_right oz.1 2) (by decide)) ?_
      refine aw_nil ?_
      
      refine cb_lenL ?_
      rw [List.length_map]
      refine aw_nil ?_
      refine ⟨[_, _], rfl, by walk_at "few", ?_⟩
      refine ob_neWord (hr.r.mono (by decide)) (far_l w0 hw0).1 ?_
      refine ⟨_, rfl, fun ht => ?_, fun ht => ?_⟩
      · exact absurd ht (by decide)
      · refine sw_nil ?_
        refine sw_one ?_
        refine s1_if ?_
        refine tw_cmp ?_
        refine ew_call (c_law_question_read T Z) hr ?_
        refine aw_cons ?_
        refine ew_bin ?_
        refine ew_var 1 ?_
        refine ew_var 0 ?_
        refine ob_times (n := 20) (by decide) hc.2 ?_
        refine aw_nil ?_
        refine ⟨timesS w0 20, rfl, Nat.le_trans o1.1 (by decide), ?_⟩
        rw [ans_word f31]
        refine ew_tup ?_
        refine aw_cons ?_
        refine ew_str ?_
        refine aw_cons ?_
        refine ew_bin ?_
        refine ew_callB (T.no Z.n_len) bt_len ?_
        refine aw_cons ?_
        refine ew_split ?_
        refine ew_bin ?_
        refine ew_var 1 ?_
        refine ew_var 0 ?_
        refine ob_times (n := 20) (by decide) hc.2 ?_
        refine ⟨_, rfl, ?_⟩
        refine ew_str ?_
        refine m1_split (by decide +kernel) (Nat.le_trans (Nat.add_le_add_right o1.1 2) (by decide)) ?_
        refine aw_nil ?_
        
        refine cb_lenL ?_
        rw [List.length_map]
        refine ew_int ?_
        
        walk_at "op sub"
        rw [show (((Txt.split (timesS w0 20) " ").length : Nat) : Int) - 1 = (((Txt.split (timesS w0 20) " ").length - 1 : Nat) : Int) by omega]
        refine aw_nil ?_
        refine ⟨[_, _], rfl, by walk_at "few", ?_⟩
        refine ob_neWord (hr.r.mono (by decide)) (far_l w0 hw0).2 ?_
        refine ⟨_, rfl, fun ht => ?_, fun ht => ?_⟩
        · exact absurd ht (by decide)
        · refine sw_nil ?_
          exact ⟨_, _, _, _, rfl, rfl⟩
  · intro ρ2 O2 hj
    obtain ⟨s1, s2, s3, s4, rfl, rfl⟩ := hj
    refine sw_one ?_
    refine s1_ret ?_
    refine ew_bl ?_
    exact h
theorem c_law_far_right (T : TopOf K mg) (Z : Facts K) : Cal P w K mg base false (61) "_law_far_right" (FarS) [] := cal_of T Z.d_law_far_right (by walk_at "b1") fun f fd F => fn_law_far_right T Z F
end
/-! the first word struck -/
theorem splitMax_app {a b : Str} (h : 32 ∉ TL.tl a) : Txt.splitMax (a ++ " " ++ b) " " 1 = [a, b] := by
  have hp := TL.partition_app (y := " ") (s := 32) (S := []) (by decide +kernel) (a := a) (b := b) h
  generalize hx : a ++ (" " : Str) ++ b = x at hp ⊢
  have hl : (1 : Nat) ≤ x.length := by
    rw [← hx, TL.len_tl, TL.tl_append, TL.tl_append, List.length_append, List.length_append, show (TL.tl (" " : Str)).length = 1 by decide +kernel]; omega
  have e1 : (" " : Str).length = 1 := by decide +kernel
  have hk := TL.kind_ok (x := x) (y := " ") (by decide +kernel)
  unfold Txt.partition at hp
  unfold Txt.splitMax
  rw [if_neg (by rw [e1, decide_eq_false (by omega), decide_eq_false hk]; decide)]
  have hlim : limitOf x 1 = 1 := by unfold limitOf; rw [if_neg (by decide)]; rfl
  rw [hlim]
  have hlen := StrLaws.occ_length_le x " " 0 x.length 1
  cases ho : Builtin.Str.occurrences x " " 0 x.length 1 with
  | nil =>
    rw [ho] at hp
    have h2 : Str.empty = (" " : Str) := congrArg (fun q => q.2.1) hp
    exact absurd h2 (by decide +kernel)
  | cons i r =>
    rw [ho] at hp hlen
    have hr : r = [] := by
      cases r with
      | nil => rfl
      | cons j r => rw [List.length_cons, List.length_cons] at hlen; omega
    subst hr
    rw [if_neg (by simp)]
    unfold Builtin.Str.partsBetween
    have h1 := congrArg (fun q => q.1) hp
    have h2 := congrArg (fun q => q.2.2) hp
    show [Builtin.Str.strSub x 0 i, Builtin.Str.strSub x (i + (" " : Str).length) x.length] = _
    rw [show Builtin.Str.strSub x 0 i = a from h1, show Builtin.Str.strSub x (i + (" " : Str).length) x.length = b from h2]
/-! signs struck -/
theorem repl_free {x y z : Str} {c : Nat} (hy : 1 ≤ y.length) (h1 : c ∈ TL.tl y) (h2 : c ∉ TL.tl x) : Txt.replace x y z = x := by
  refine TL.ext_tl ?_
  have e := StrLaws.replace_list (x := x) (y := y) (z := z) hy
  show (Txt.replace x y z).cps.toList = x.cps.toList
  rw [e]
  have := StrLaws.repl_none (y := y.cps.toList) (z := z.cps.toList) (L := x.cps.toList) (a := 0) fun k _ q => h2 (by
    have h3 : c ∈ (x.cps.toList.drop k).take y.cps.toList.length := by rw [q]; exact h1
    exact List.mem_of_mem_drop (List.mem_of_mem_take h3))
  rw [List.drop_zero] at this
  exact this
theorem repl_cut {p r y : Str} (hy : 1 ≤ y.length) (h1 : ∀ k, k < (TL.tl p).length → ¬ ((TL.tl p ++ (TL.tl y ++ TL.tl r)).drop k).take (TL.tl y).length = TL.tl y) (h2 : ∀ k, ¬ ((TL.tl r).drop k).take (TL.tl y).length = TL.tl y) :
    Txt.replace (p ++ y ++ r) y Str.empty = p ++ r := by
  refine TL.ext_tl ?_
  have e := StrLaws.replace_list (x := p ++ y ++ r) (y := y) (z := Str.empty) hy
  show (Txt.replace (p ++ y ++ r) y Str.empty).cps.toList = TL.tl (p ++ r)
  rw [e]
  show StrLaws.replL (TL.tl y) [] (TL.tl (p ++ y ++ r)) = TL.tl (p ++ r)
  rw [TL.tl_append, TL.tl_append, TL.tl_append, List.append_assoc]
  have hyl : 1 ≤ (TL.tl y).length := by rw [← TL.len_tl]; exact hy
  generalize TL.tl p = P at h1 ⊢
  generalize TL.tl r = R at h1 h2 ⊢
  generalize TL.tl y = Y at h1 h2 hyl ⊢
  have c := StrLaws.repl_copy (y := Y) (z := []) (L := P ++ (Y ++ R)) P.length 0 (fun k _ hk => h1 k (by omega)) (by rw [List.length_append]; omega)
  rw [List.drop_zero, Nat.zero_add, List.take_left, List.drop_left] at c
  rw [c]
  congr 1
  cases Y with
  | nil => exact absurd hyl (by decide)
  | cons d Y =>
    show StrLaws.replL (d :: Y) [] (d :: (Y ++ R)) = R
    rw [StrLaws.replL_hit (by simp) (by show ((d :: Y) ++ R).take _ = _; rw [List.take_left])]
    show [] ++ StrLaws.replL (d :: Y) [] (((d :: Y) ++ R).drop (d :: Y).length) = R
    rw [List.drop_left, List.nil_append]
    have := StrLaws.repl_none (y := d :: Y) (z := []) (L := R) (a := 0) fun k _ => h2 k
    rw [List.drop_zero] at this
    exact this
/-! sets of texts: as many as there are unlike ones -/
theorem stS_mem {acc : List Str} {v x : Str} : x ∈ stS acc v ↔ x ∈ acc ∨ x = v := by
  unfold stS
  split
  · rename_i h
    constructor
    · exact .inl
    · rintro (h2 | rfl)
      · exact h2
      · exact any_mem.mp h
  · rw [List.mem_append, List.mem_singleton]
theorem stS_nodup {acc : List Str} {v : Str} (h : acc.Nodup) : (stS acc v).Nodup := by
  unfold stS
  split
  · exact h
  · rename_i hv
    rw [List.nodup_append]
    refine ⟨h, by simp, fun a ha b hb => ?_⟩
    rw [List.mem_singleton.mp hb]
    intro e
    exact hv (any_mem.mpr (e ▸ ha))
theorem fold_mem {x : Str} : ∀ {l acc : List Str}, x ∈ l.foldl stS acc ↔ x ∈ acc ∨ x ∈ l
  | [], acc => by simp
  | v :: l, acc => by
    rw [List.foldl_cons, fold_mem, stS_mem, List.mem_cons, or_assoc]
theorem fold_nodup : ∀ {l acc : List Str}, acc.Nodup → (l.foldl stS acc).Nodup
  | [], acc, h => h
  | v :: l, acc, h => by
    rw [List.foldl_cons]
    exact fold_nodup (stS_nodup h)
theorem ddS_same {l m : List Str} (h : ∀ x, x ∈ l ↔ x ∈ m) : (ddS l).length = (ddS m).length := by
  refine ((List.perm_ext_iff_of_nodup (fold_nodup (l := l) (acc := []) (by simp)) (fold_nodup (l := m) (acc := []) (by simp))).mpr fun x => ?_).length_eq
  rw [fold_mem, fold_mem, h x]
theorem perm_of_map {α : Type} {f : α → Str} {xs ys : List Str} (h : xs.Perm ys) : ∀ {l : List α}, ys = l.map f → ∃ m : List α, m.Perm l ∧ xs = m.map f := by
  induction h with
  | nil =>
    intro l e
    cases l with
    | nil => exact ⟨[], .nil, rfl⟩
    | cons a l => cases e
  | @cons x xs ys _ ih =>
    intro l e
    cases l with
    | nil => cases e
    | cons a l =>
      rw [List.map_cons] at e
      injection e with e1 e2
      obtain ⟨m, h1, h2⟩ := ih e2
      exact ⟨a :: m, .cons a h1, by rw [List.map_cons, e1, h2]⟩
  | swap x y l0 =>
    intro l e
    cases l with
    | nil => cases e
    | cons a l =>
      cases l with
      | nil => cases e
      | cons b l =>
        rw [List.map_cons, List.map_cons] at e
        injection e with e1 e2
        injection e2 with e2 e3
        exact ⟨b :: a :: l, .swap a b l, by rw [List.map_cons, List.map_cons, e1, e2, e3]⟩
  | trans _ _ i1 i2 =>
    intro l e
    obtain ⟨m, h1, h2⟩ := i2 e
    obtain ⟨m2, h3, h4⟩ := i1 h2
    exact ⟨m2, h3.trans h1, h4⟩
theorem app_nil (z : Str) : z ++ Str.empty = z := sgs_ext (by rw [sgs_app]; exact List.append_nil _)
/-! the five texts with outer conditions -/
structure El where
  t : Tr
  z : Str
  d : Nat
def isT (A : Str) : Tr := .aw (["is", A] : List Str)
def els (A B : Str) : List El := [⟨.hd "parent" (isT A), "parent is " ++ A, 1⟩, ⟨.hd "above" (isT B), "above is " ++ B, 1⟩, ⟨.hd "above" (isT A), "above is " ++ A, 1⟩,
  ⟨.hd "parent" (isT B), "parent ( is " ++ B ++ " )", 2⟩, ⟨.hd "parent" (.hd "above" (.aw (["root"] : List Str))), "parent above root", 2⟩]
def innS (z : Str) : List Str := Txt.splitMax (Txt.replace (Txt.replace z "( " "") " )" "") " " 1
structure ElOk (e : El) : Prop where
  wr : Wr e.t (e.z, e.d)
  wt : WT e.t
  at_ : AT e.t
  cn : 2 ≤ cntT e.t
  dd : e.d ≤ 2
  tx : okN 20 e.z
  r1 : (Txt.replace e.z "( " "").length ≤ 40
  inn : ∃ x, innS e.z = [x, shI e.t]
  sh : okN 20 (shI e.t)
  out : outT e.t = shI e.t :: (if shI e.t = "above root" then (["root"] : List Str) else [])
theorem shw_is (A : Str) : shwT (isT A) = "is " ++ A := by
  rw [isT, shwT, join_cons (by simp), txt_one, show ("is " : Str) = "is" ++ " " by decide +kernel]
theorem okK_free {A : Str} (h : okK A) : (40 ∉ TL.tl A) ∧ (41 ∉ TL.tl A) ∧ 32 ∉ TL.tl A := by
  have h1 := (madeOf_pos h.2).2.2
  have h2 : ∀ c ∈ sgs capsL, c ≠ 40 ∧ c ≠ 41 ∧ c ≠ 32 := by decide +kernel
  exact ⟨fun q => (h2 _ (h1 _ q)).1 rfl, fun q => (h2 _ (h1 _ q)).2.1 rfl, fun q => (h2 _ (h1 _ q)).2.2 rfl⟩
theorem okK_ok {A : Str} (h : okK A) : okN 4 A := ⟨h.1.1, h.1.2⟩
theorem is_at {A : Str} (h : okK A) : okAt (["is", A] : List Str) := .inl ⟨"is", A, rfl, by decide +kernel, h.2⟩
theorem is_wt {A : Str} (h : okK A) : WT (isT A) := by rw [isT, WT]; exact is_at h
theorem is_AT (A : Str) : AT (isT A) := fun e => absurd (show (Str.ofString "is") = "root" from e) (by decide +kernel)
theorem is_wr (A : Str) : Wr (isT A) ("is " ++ A, 0) := by
  have h := Wr.aw (ws := (["is", A] : List Str))
  have e := shw_is A
  rw [isT, shwT] at e
  rw [e] at h
  exact h
theorem is_ne (A : Str) : "is " ++ A ≠ ("above root" : Str) := fun e => by
  have h := congrArg (fun z : Str => (TL.tl z).head?) e
  simp only [TL.tl_append, show TL.tl ("is " : Str) = [105, 115, 32] by decide +kernel, show TL.tl ("above root" : Str) = [97, 98, 111, 118, 101, 32, 114, 111, 111, 116] by decide +kernel] at h
  simp at h
theorem hd_wr {w A : Str} : Wr (.hd w (isT A)) (w ++ " " ++ ("is " ++ A), 1) := by
  have h := Wr.hd (w := w) (is_wr A)
  have e : inH (isT A) ("is " ++ A, 0) = ("is " ++ A, 0) := if_neg (by show ¬ joW.any (· == (Str.ofString "is")) = true; decide +kernel)
  rw [e] at h
  exact h
theorem hd_wr2 {w A : Str} : Wr (.hd w (isT A)) (w ++ " " ++ ("( " ++ ("is " ++ A) ++ " )"), 2) := by
  have h := Wr.hd (w := w) (Wr.cl (is_wr A))
  have e : inH (isT A) (clsQ ("is " ++ A, 0)) = clsQ ("is " ++ A, 0) := if_neg (by show ¬ joW.any (· == (Str.ofString "is")) = true; decide +kernel)
  rw [e] at h
  exact h
theorem out_is {w A : Str} (hw : w ≠ "not") : outT (.hd w (isT A)) = ["is " ++ A] := by
  unfold outT
  rw [tokT, if_neg hw, isT, tokT]
  show [shwT (isT A)] = _
  rw [shw_is]
theorem cnt_is {w A : Str} (hw : w ≠ "not") : cntT (.hd w (isT A)) = 2 := by
  rw [← tok_cnt, tokT, if_neg hw, isT, tokT]; rfl
theorem inn_app {p A : Str} (h0 : 32 ∉ TL.tl p) (h1 : 40 ∉ TL.tl p) (h2 : 41 ∉ TL.tl p) (h : okK A) : innS (p ++ " " ++ ("is " ++ A)) = [p, "is " ++ A] ∧ Txt.replace (p ++ " " ++ ("is " ++ A)) "( " "" = p ++ " " ++ ("is " ++ A) := by
  obtain ⟨a1, a2, a3⟩ := okK_free h
  have m : ∀ c, c ∉ TL.tl p → c ∉ TL.tl (" " : Str) → c ∉ TL.tl ("is " : Str) → c ∉ TL.tl A → c ∉ TL.tl (p ++ " " ++ ("is " ++ A)) := fun c q1 q2 q3 q4 q => by
    rw [TL.tl_append, TL.tl_append, TL.tl_append] at q
    rcases List.mem_append.mp q with q | q
    · rcases List.mem_append.mp q with q | q
      · exact q1 q
      · exact q2 q
    · rcases List.mem_append.mp q with q | q
      · exact q3 q
      · exact q4 q
  have e1 : Txt.replace (p ++ " " ++ ("is " ++ A)) "( " "" = p ++ " " ++ ("is " ++ A) := repl_free (c := 40) (by decide +kernel) (by decide +kernel) (m 40 h1 (by decide +kernel) (by decide +kernel) a1)
  refine ⟨?_, e1⟩
  unfold innS
  rw [e1, repl_free (c := 41) (by decide +kernel) (by decide +kernel) (m 41 h2 (by decide +kernel) (by decide +kernel) a2)]
  exact splitMax_app h0
theorem inn_cut {A : Str} (h : okK A) : innS ("parent ( is " ++ A ++ " )") = (["parent", "is " ++ A] : List Str) ∧ Txt.replace ("parent ( is " ++ A ++ " )") "( " "" = "parent is " ++ A ++ " )" := by
  obtain ⟨a1, a2, a3⟩ := okK_free h
  have e0 : ("" : Str) = Str.empty := by decide +kernel
  have z1 : "parent ( is " ++ A ++ " )" = ("parent " : Str) ++ "( " ++ ("is " ++ A ++ " )") := by
    rw [show ("parent ( is " : Str) = "parent " ++ ("( " ++ "is ") by decide +kernel]
    simp only [app_assoc]
  have z2 : "parent " ++ ("is " ++ A ++ " )") = ("parent is " ++ A) ++ " )" ++ Str.empty := by
    rw [app_nil, show ("parent is " : Str) = "parent " ++ "is " by decide +kernel]
    simp only [app_assoc]
  have y1 : TL.tl ("( " : Str) = [40, 32] := by decide +kernel
  have y2 : TL.tl (" )" : Str) = [32, 41] := by decide +kernel
  have e1 : Txt.replace ("parent ( is " ++ A ++ " )") "( " Str.empty = "parent " ++ ("is " ++ A ++ " )") := by
    rw [z1]
    refine repl_cut (by decide +kernel) (fun k hk q => ?_) fun k q => ?_
    · rw [y1] at q
      have := TL.free_of (s := 40) (S := [32]) (p := TL.tl ("parent " : Str)) (q := [40, 32] ++ TL.tl ("is " ++ A ++ " )")) (by decide +kernel) k hk
      unfold TL.pre at this
      rw [beq_eq_false_iff_ne] at this
      exact this q
    · rw [y1] at q
      have h40 : 40 ∈ (TL.tl ("is " ++ A ++ " )")) := List.mem_of_mem_drop (List.mem_of_mem_take (by rw [q]; simp))
      rw [TL.tl_append, TL.tl_append] at h40
      rcases List.mem_append.mp h40 with h40 | h40
      · rcases List.mem_append.mp h40 with h40 | h40
        · exact absurd h40 (by decide +kernel)
        · exact a1 h40
      · exact absurd h40 (by decide +kernel)
  have e2 : Txt.replace ("parent " ++ ("is " ++ A ++ " )")) " )" Str.empty = "parent is " ++ A := by
    rw [z2, repl_cut (by decide +kernel) (fun k hk q => ?_) (fun k q => ?_), app_nil]
    · rw [y2] at q
      have hP : 41 ∉ TL.tl ("parent is " ++ A) := fun m => by
        rw [TL.tl_append] at m
        rcases List.mem_append.mp m with m | m
        · exact absurd m (by decide +kernel)
        · exact a2 m
      generalize TL.tl ("parent is " ++ A) = P at hk q hP
      have g : (P ++ ([32, 41] ++ TL.tl Str.empty))[k + 1]? = some 41 := by
        have g1 : (List.take [32, 41].length (List.drop k (P ++ ([32, 41] ++ TL.tl Str.empty))))[1]? = some 41 := by rw [q]; rfl
        rw [List.getElem?_take, if_pos (by decide), List.getElem?_drop] at g1
        exact g1
      by_cases c : k + 1 < P.length
      · rw [List.getElem?_append_left c] at g
        exact hP (List.mem_of_getElem? g)
      · have c2 : k + 1 = P.length := by omega
        rw [c2, List.getElem?_append_right (Nat.le_refl _), Nat.sub_self] at g
        cases g
    · rw [y2, show TL.tl Str.empty = [] from rfl, List.drop_nil] at q
      cases q
  have e3 : "parent " ++ ("is " ++ A ++ " )") = "parent is " ++ A ++ " )" := by rw [z2, app_nil]
  refine ⟨?_, by rw [e0, e1, e3]⟩
  unfold innS
  rw [e0, e1, e2, show ("parent is " : Str) = "parent" ++ (" " ++ "is ") by decide +kernel]
  have := splitMax_app (a := "parent") (b := "is " ++ A) (by decide +kernel)
  rw [show "parent" ++ (" " ++ "is ") ++ A = "parent" ++ " " ++ ("is " ++ A) by simp only [app_assoc]]
  exact this
theorem el_is {w z A : Str} (hw : w ∈ heW) (hn : w ≠ "not") (hf : w.length ≤ 6 ∧ sml w ∧ 32 ∉ TL.tl w ∧ 40 ∉ TL.tl w ∧ 41 ∉ TL.tl w) (h : okK A) (e : z = w ++ " " ++ ("is " ++ A)) : ElOk ⟨.hd w (isT A), z, 1⟩ := by
  subst e
  obtain ⟨f1, f2, f3, f4, f5⟩ := hf
  obtain ⟨i1, i2⟩ := inn_app f3 f4 f5 h
  have o1 : okN 7 ("is " ++ A) := (lit (n := 3) (by decide +kernel)).app (okK_ok h)
  have o2 : okN 20 (w ++ " " ++ ("is " ++ A)) := ((okN.app (okN.app (m := 6) (n := 1) (y := w) ⟨f1, f2⟩ sp_ok) o1)).up (by decide)
  have es : shI (.hd w (isT A)) = "is " ++ A := shw_is A
  refine ⟨hd_wr, by rw [WT]; exact ⟨hw, is_wt h⟩, is_AT A, by rw [cnt_is hn]; exact Nat.le_refl 2, Nat.le_succ 1, o2, ?_, ⟨w, by rw [es]; exact i1⟩, by rw [es]; exact o1.up (by decide), ?_⟩
  · show (Txt.replace (w ++ " " ++ ("is " ++ A)) "( " "").length ≤ 40
    rw [i2]; exact Nat.le_trans o2.1 (by decide)
  · show outT (.hd w (isT A)) = _
    rw [es, if_neg (is_ne A), out_is hn]
theorem els_ok {A B : Str} (hA : okK A) (hB : okK B) : ∀ e ∈ els A B, ElOk e := by
  intro e he
  have fp : ("parent" : Str).length ≤ 6 ∧ sml ("parent" : Str) ∧ 32 ∉ TL.tl ("parent" : Str) ∧ 40 ∉ TL.tl ("parent" : Str) ∧ 41 ∉ TL.tl ("parent" : Str) := ⟨by decide +kernel, sml_of (by decide +kernel), by decide +kernel, by decide +kernel, by decide +kernel⟩
  have fa : ("above" : Str).length ≤ 6 ∧ sml ("above" : Str) ∧ 32 ∉ TL.tl ("above" : Str) ∧ 40 ∉ TL.tl ("above" : Str) ∧ 41 ∉ TL.tl ("above" : Str) := ⟨by decide +kernel, sml_of (by decide +kernel), by decide +kernel, by decide +kernel, by decide +kernel⟩
  have tp : ∀ C : Str, "parent is " ++ C = "parent" ++ " " ++ ("is " ++ C) := fun C => by rw [show ("parent is " : Str) = "parent" ++ (" " ++ "is ") by decide +kernel]; simp only [app_assoc]
  have ta : ∀ C : Str, "above is " ++ C = "above" ++ " " ++ ("is " ++ C) := fun C => by rw [show ("above is " : Str) = "above" ++ (" " ++ "is ") by decide +kernel]; simp only [app_assoc]
  rcases List.mem_cons.mp he with rfl | he
  · exact el_is (by decide +kernel) (by decide +kernel) fp hA (tp A)
  rcases List.mem_cons.mp he with rfl | he
  · exact el_is (by decide +kernel) (by decide +kernel) fa hB (ta B)
  rcases List.mem_cons.mp he with rfl | he
  · exact el_is (by decide +kernel) (by decide +kernel) fa hA (ta A)
  rcases List.mem_cons.mp he with rfl | he
  · obtain ⟨i1, i2⟩ := inn_cut hB
    have o1 : okN 7 ("is " ++ B) := (lit (n := 3) (by decide +kernel)).app (okK_ok hB)
    have es : shI (.hd "parent" (isT B)) = "is " ++ B := shw_is B
    have hn : ("parent" : Str) ≠ "not" := by decide +kernel
    refine ⟨?_, by rw [WT]; exact ⟨by decide +kernel, is_wt hB⟩, is_AT B, by rw [cnt_is hn]; exact Nat.le_refl 2, Nat.le_refl 2, ?_, ?_, ⟨"parent", by rw [es]; exact i1⟩, by rw [es]; exact o1.up (by decide), ?_⟩
    · have := hd_wr2 (w := "parent") (A := B)
      have e : ("parent" : Str) ++ " " ++ ("( " ++ ("is " ++ B) ++ " )") = "parent ( is " ++ B ++ " )" := by
        rw [show ("parent ( is " : Str) = "parent" ++ (" " ++ ("( " ++ "is ")) by decide +kernel]; simp only [app_assoc]
      rw [e] at this
      exact this
    · exact (((lit (n := 12) (by decide +kernel)).app (okK_ok hB)).app cl_ok).up (by decide)
    · show (Txt.replace ("parent ( is " ++ B ++ " )") "( " "").length ≤ 40
      rw [i2]
      exact Nat.le_trans (((lit (n := 10) (by decide +kernel)).app (okK_ok hB)).app cl_ok).1 (by decide)
    · show outT (.hd "parent" (isT B)) = _
      rw [es, if_neg (is_ne B), out_is hn]
  · rw [List.mem_singleton.mp he]
    refine ⟨?_, ?_, fun _ => rfl, ?_, by decide, lit (by decide +kernel), by decide +kernel, ⟨"parent", by decide +kernel⟩, lit (by decide +kernel), by decide +kernel⟩
    · have h1 := Wr.hd (w := "parent") (Wr.hd (w := "above") (Wr.aw (ws := (["root"] : List Str))))
      have e : hdQ "parent" (inH (.hd "above" (.aw (["root"] : List Str))) (hdQ "above" (inH (.aw (["root"] : List Str)) (Txt.join " " ["root"], 0)))) = (("parent above root" : Str), 2) := by decide +kernel
      rw [e] at h1
      exact h1
    · rw [WT]; exact ⟨by decide +kernel, by rw [WT]; exact ⟨by decide +kernel, by rw [WT]; exact .inr rfl⟩⟩
    · show 2 ≤ cntT (.hd "parent" (.hd "above" (.aw (["root"] : List Str)))); decide +kernel
theorem els_sum (A B : Str) : ((els A B).map fun e => cntT e.t).sum = 11 := by
  unfold els
  simp only [List.map_cons, List.map_nil, List.sum_cons, List.sum_nil]
  rw [cnt_is (by decide +kernel), cnt_is (by decide +kernel), cnt_is (by decide +kernel), cnt_is (by decide +kernel), show cntT (.hd "parent" (.hd "above" (.aw (["root"] : List Str)))) = 3 by decide +kernel] <;> rfl
theorem sum_two : ∀ {l : List El}, (∀ e ∈ l, 2 ≤ cntT e.t) → 2 * l.length ≤ (l.map fun e => cntT e.t).sum
  | [], _ => by simp
  | e :: l, h => by
    have h1 := h e (by simp)
    have h2 := sum_two fun x hx => h x (List.mem_cons_of_mem e hx)
    rw [List.length_cons, List.map_cons, List.sum_cons]; omega
theorem els_take {A B : Str} (hA : okK A) (hB : okK B) {m : List El} (h : m.Perm (els A B)) {n : Nat} (hn : n ≤ 3) : ((m.take n).map fun e => cntT e.t).sum ≤ 8 := by
  have h1 : (m.map fun e => cntT e.t).sum = 11 := by rw [← els_sum A B]; exact (h.map _).sum_nat
  have h2 : m.length = 5 := h.length_eq
  have h3 := sum_two (l := m.drop n) fun e he => (els_ok hA hB e (h.mem_iff.mp (List.mem_of_mem_drop he))).cn
  have h4 : m.map (fun e => cntT e.t) = (m.take n).map (fun e => cntT e.t) ++ (m.drop n).map (fun e => cntT e.t) := by rw [← List.map_append, List.take_append_drop]
  rw [h4, List.sum_append] at h1
  rw [List.length_drop, h2] at h3
  omega
/-! texts joined by or -/
def orT : List Tr → Tr
  | [] => .aw (["root"] : List Str)
  | [t] => t
  | t :: u :: r => .j2 "or" t (orT (u :: r))
def maxD : List El → Nat
  | [] => 0
  | [e] => e.d
  | e :: f :: r => max e.d (maxD (f :: r))
def orZ (es : List El) : Str := Txt.join " or " (es.map (·.z))
theorem or_txt : (" or " : Str) = " " ++ ("or" ++ " ") := by decide +kernel
theorem inJ_or (t : Tr) (q : Str × Nat) : inJ "or" t q = q := if_neg (by rw [show decide ((Str.ofString "or") = "and") = false by decide +kernel, Bool.false_and]; decide)
theorem or_wr : ∀ {es : List El}, es ≠ [] → (∀ e ∈ es, ElOk e) → Wr (orT (es.map (·.t))) (orZ es, maxD es) ∧ WT (orT (es.map (·.t))) ∧ AT (orT (es.map (·.t))) ∧ maxD es ≤ 2
  | [e], _, h => by
    have g := h e (by simp)
    have e1 : orZ [e] = e.z := txt_one _ _
    rw [e1]
    exact ⟨g.wr, g.wt, g.at_, g.dd⟩
  | e :: f :: r, _, h => by
    have g := h e (by simp)
    obtain ⟨i1, i2, i3, i4⟩ := or_wr (es := f :: r) (by simp) fun x hx => h x (List.mem_cons_of_mem e hx)
    have w := Wr.j2 (w := "or") g.wr i1
    rw [inJ_or, inJ_or] at w
    have ez : (j2Q "or" (e.z, e.d) (orZ (f :: r), maxD (f :: r))) = (orZ (e :: f :: r), maxD (e :: f :: r)) := by
      show (e.z ++ " " ++ "or" ++ " " ++ orZ (f :: r), max e.d (maxD (f :: r))) = (Txt.join " or " (e.z :: (f :: r).map (·.z)), max e.d (maxD (f :: r)))
      rw [join_cons (by simp), or_txt]
      simp only [app_assoc]; rfl
    rw [ez] at w
    refine ⟨w, ?_, ⟨g.at_, i3⟩, ?_⟩
    · show WT (.j2 "or" e.t (orT ((f :: r).map (·.t))))
      rw [WT]; exact ⟨by decide +kernel, g.wt, i2⟩
    · have := g.dd
      show max e.d (maxD (f :: r)) ≤ 2
      omega
theorem or_cnt : ∀ {es : List El}, es ≠ [] → cntT (orT (es.map (·.t))) = (es.map fun e => cntT e.t).sum
  | [e], _ => by simp [orT]
  | e :: f :: r, _ => by
    have i := or_cnt (es := f :: r) (by simp)
    show cntT (.j2 "or" e.t (orT ((f :: r).map (·.t)))) = _
    rw [cntT, i]; simp
theorem or_out : ∀ {es : List El}, es ≠ [] → outT (orT (es.map (·.t))) = es.flatMap fun e => outT e.t
  | [e], _ => by simp [orT]
  | e :: f :: r, _ => by
    have i := or_out (es := f :: r) (by simp)
    show outT (.j2 "or" e.t (orT ((f :: r).map (·.t)))) = _
    unfold outT at i ⊢
    rw [tokT, List.filterMap_append, List.map_append, i]; simp
def innL (es : List El) : List Str := es.map fun e => shI e.t
def allI (es : List El) : List Str := innL es ++ (List.replicate (if (innL es).any (· == "above root") = true then (1 : Int) else 0).toNat (["root"] : List Str)).flatten
theorem all_mem {es : List El} {x : Str} : x ∈ allI es ↔ x ∈ innL es ∨ (("above root" : Str) ∈ innL es ∧ x = "root") := by
  unfold allI
  rw [List.mem_append]
  by_cases h : (innL es).any (· == "above root") = true
  · rw [if_pos h]
    have h2 := any_mem.mp h
    constructor
    · rintro (q | q)
      · exact .inl q
      · exact .inr ⟨h2, by simpa using q⟩
    · rintro (q | ⟨_, q⟩)
      · exact .inl q
      · exact .inr (by simpa using q)
  · rw [if_neg h]
    have h2 : ("above root" : Str) ∉ innL es := fun q => h (any_mem.mpr q)
    constructor
    · rintro (q | q)
      · exact .inl q
      · exact absurd q (by simp)
    · rintro (q | ⟨q, _⟩)
      · exact .inl q
      · exact absurd q h2
theorem or_same {es : List El} (h : ∀ e ∈ es, ElOk e) : (ddS (es.flatMap fun e => outT e.t)).length = (ddS (allI es)).length := by
  refine ddS_same fun x => ?_
  rw [all_mem, List.mem_flatMap]
  unfold innL
  constructor
  · rintro ⟨e, he, hx⟩
    rw [(h e he).out] at hx
    rcases List.mem_cons.mp hx with rfl | hx
    · exact .inl (List.mem_map.mpr ⟨e, he, rfl⟩)
    · split at hx
      · rename_i q
        exact .inr ⟨List.mem_map.mpr ⟨e, he, q⟩, List.mem_singleton.mp hx⟩
      · exact absurd hx (by simp)
  · rintro (hx | ⟨hx, rfl⟩)
    · obtain ⟨e, he, rfl⟩ := List.mem_map.mp hx
      exact ⟨e, he, by rw [(h e he).out]; exact List.mem_cons_self⟩
    · obtain ⟨e, he, q⟩ := List.mem_map.mp hx
      exact ⟨e, he, by rw [(h e he).out, if_pos q]; simp⟩
def outO (n : Nat) : Option Str := if 2 < n then some "outer" else none
theorem or_due {es : List El} (hne : es ≠ []) (h : ∀ e ∈ es, ElOk e) (hc : (es.map fun e => cntT e.t).sum ≤ 8) : dueQ (orZ es) = dueW (orT (es.map (·.t))) (outO (ddS (allI es)).length) := by
  obtain ⟨w1, w2, w3, w4⟩ := or_wr hne h
  have := due_told w1 w2 w3 w2 w3 rfl rfl
  rw [this]
  unfold excT outO
  rw [or_cnt hne, if_neg (by omega), if_neg (by show ¬ 6 < maxD es; omega), or_out hne, or_same h]
/-! what is due, compared -/
theorem dueO_two (t : Tr) (n : Nat) (h : sml (shwT t)) : ∃ a b, dueW t (outO n) = .tup [.str a, .str b] ∧ smlB a = true ∧ smlB b = true ∧ a ≠ "other" ∧ (decide (a = "many") && decide (b = "outer")) = decide (2 < n) ∧ (n ≤ 2 → a = "text") := by
  unfold outO
  split
  · rename_i h2
    exact ⟨"many", "outer", rfl, by decide +kernel, by decide +kernel, by decide +kernel, by rw [decide_eq_true h2]; decide +kernel, fun q => by omega⟩
  · rename_i h2
    exact ⟨"text", shwT t, rfl, by decide +kernel, sml_b h, by decide +kernel, by rw [decide_eq_false h2, show decide ((Str.ofString "text") = "many") = false by decide +kernel]; rfl, fun _ => rfl⟩
theorem ob_neBB {X : Cx} {O : Own} {k : Slot → Own → Prop} {a b : Bool} (hr : Room 0 X.A) (h : k (.dat (.bl (!decide (a = b)))) O) : OpB X (compareOp .NotEq) (.dat (.bl a)) (.dat (.bl b)) O k := by
  have sh : ∀ a : Bool, SeqAt.shaped (toPy (.bl a)) = true := fun a => by cases a <;> decide +kernel
  refine ob_ne hr rfl rfl (sh a) (sh b) ?_
  have e : eqD (.bl a) (.bl b) = decide (a = b) := by cases a <;> cases b <;> decide +kernel
  rw [e]
  exact h
/-! twice the same outer condition -/
def sA (A B : Str) : Tr := .j2 "and" (isT A) (.j2 "and" (isT B) (.aw (["root"] : List Str)))
def sB (A B : Str) : Tr := .j2 "and" (.j2 "and" (isT A) (isT B)) (.aw (["root"] : List Str))
def sT (A B : Str) : Tr := .j2 "or" (.hd "parent" (sA A B)) (.hd "above" (sB A B))
def sZ1 (A B : Str) : Str := "parent ( " ++ ("is " ++ A) ++ " and ( " ++ ("is " ++ B) ++ " and root ) )"
def sZ2 (A B : Str) : Str := "above ( ( " ++ ("is " ++ A) ++ " and " ++ ("is " ++ B) ++ " ) and root )"
theorem root_wr : Wr (.aw (["root"] : List Str)) ("root", 0) := by
  have h := Wr.aw (ws := (["root"] : List Str))
  rw [txt_one] at h
  exact h
theorem inJ_an {t : Tr} (h : wordT t ≠ "or") (q : Str × Nat) : inJ "and" t q = q := if_neg (by rw [decide_eq_false h, Bool.and_false]; decide)
theorem inH_jo {t : Tr} (h : wordT t = "and") (q : Str × Nat) : inH t q = clsQ q := if_pos (by rw [h]; decide +kernel)
theorem s_wr (A B : Str) : Wr (sT A B) (sZ1 A B ++ " or " ++ sZ2 A B, 3) := by
  have nis : ∀ C : Str, wordT (isT C) ≠ "or" := fun C => by show (Str.ofString "is") ≠ "or"; decide +kernel
  have nro : wordT (.aw (["root"] : List Str)) ≠ "or" := by decide +kernel
  have nan : ∀ t u : Tr, wordT (.j2 "and" t u) ≠ "or" := fun t u => by show (Str.ofString "and") ≠ "or"; decide +kernel
  have a1 := Wr.j2 (w := "and") (is_wr B) root_wr
  rw [inJ_an (nis B), inJ_an nro] at a1
  have a2 := Wr.j2 (w := "and") (is_wr A) (Wr.cl a1)
  rw [inJ_an (nis A), inJ_an (nan _ _)] at a2
  have a3 := Wr.hd (w := "parent") a2
  rw [inH_jo rfl] at a3
  have b1 := Wr.j2 (w := "and") (is_wr A) (is_wr B)
  rw [inJ_an (nis A), inJ_an (nis B)] at b1
  have b2 := Wr.j2 (w := "and") (Wr.cl b1) root_wr
  rw [inJ_an (nan _ _), inJ_an nro] at b2
  have b3 := Wr.hd (w := "above") b2
  rw [inH_jo rfl] at b3
  have c := Wr.j2 (w := "or") a3 b3
  rw [inJ_or, inJ_or] at c
  have e : j2Q "or" (hdQ "parent" (clsQ (j2Q "and" ("is " ++ A, 0) (clsQ (j2Q "and" ("is " ++ B, 0) ("root", 0)))))) (hdQ "above" (clsQ (j2Q "and" (clsQ (j2Q "and" ("is " ++ A, 0) ("is " ++ B, 0))) ("root", 0)))) = (sZ1 A B ++ " or " ++ sZ2 A B, 3) := by
    unfold j2Q hdQ clsQ sZ1 sZ2
    simp only [Prod.mk.injEq]
    refine ⟨?_, by decide⟩
    rw [show ("parent ( " : Str) = "parent" ++ (" " ++ "( ") by decide +kernel, show (" and ( " : Str) = " " ++ ("and" ++ (" " ++ "( ")) by decide +kernel, show (" and root ) )" : Str) = " " ++ ("and" ++ (" " ++ ("root" ++ (" )" ++ " )")))) by decide +kernel,
      show ("above ( ( " : Str) = "above" ++ (" " ++ ("( " ++ "( ")) by decide +kernel, show (" and " : Str) = " " ++ ("and" ++ " ") by decide +kernel, show (" ) and root )" : Str) = " )" ++ (" " ++ ("and" ++ (" " ++ ("root" ++ " )")))) by decide +kernel, or_txt]
    simp only [app_assoc]
  rw [e] at c
  exact c
theorem s_wt {A B : Str} (hA : okK A) (hB : okK B) : WT (sT A B) := by
  have r : WT (.aw (["root"] : List Str)) := by rw [WT]; exact .inr rfl
  have i := is_wt hA
  have j := is_wt hB
  unfold sT sA sB
  simp only [WT]
  exact ⟨by decide +kernel, ⟨by decide +kernel, by decide +kernel, i, by decide +kernel, j, r⟩, by decide +kernel, by decide +kernel, ⟨by decide +kernel, i, j⟩, r⟩
theorem s_at (A B : Str) : AT (sT A B) := ⟨⟨is_AT A, is_AT B, fun _ => rfl⟩, ⟨is_AT A, is_AT B⟩, fun _ => rfl⟩
theorem s_shw (A B : Str) : shwT (sA A B) = shwT (sB A B) := by
  have b0 : ∀ {t : Tr} {z : Str}, wordT t ≠ "or" → bndT "and" t z = z := fun {t z} h => by
    unfold bndT needT
    rw [decide_eq_false h, show joW.any (· == (Str.ofString "and")) = true by decide +kernel]
    simp
  have nis : ∀ C : Str, wordT (isT C) ≠ "or" := fun C => by show (Str.ofString "is") ≠ "or"; decide +kernel
  have nro : wordT (.aw (["root"] : List Str)) ≠ "or" := by decide +kernel
  have nan : ∀ t u : Tr, wordT (.j2 "and" t u) ≠ "or" := fun t u => by show (Str.ofString "and") ≠ "or"; decide +kernel
  unfold sA sB
  simp only [shwT, b0 (nis A), b0 (nis B), b0 nro, b0 (nan _ _), app_assoc]
theorem s_cnt (A B : Str) : cntT (sT A B) = 8 := by
  unfold sT sA sB
  simp only [cntT, isT]
  decide +kernel
theorem s_out (A B : Str) : (ddS (outT (sT A B))).length = 1 := by
  have e : outT (sT A B) = [shwT (sA A B), shwT (sB A B)] := by
    unfold outT sT
    rw [tokT, tokT, tokT, if_neg (by decide +kernel), if_neg (by decide +kernel)]
    unfold sA sB
    simp only [tokT, isT]
    rfl
  rw [e, s_shw]
  show (stS (stS [] (shwT (sB A B))) (shwT (sB A B))).length = 1
  unfold stS
  simp
theorem s_due {A B : Str} (hA : okK A) (hB : okK B) : dueQ (sZ1 A B ++ " or " ++ sZ2 A B) = .tup [.str "text", .str (shwT (sT A B))] := by
  have h := due_told (s_wr A B) (s_wt hA hB) (s_at A B) (s_wt hA hB) (s_at A B) rfl rfl
  have e : excT (sT A B) 3 = none := by
    unfold excT
    rw [s_cnt, s_out]
    rfl
  rw [h, show (sZ1 A B ++ " or " ++ sZ2 A B, 3).2 = 3 from rfl, e]
  rfl
open KnX
section
variable {X : Cx} {O : Own} {ρ : List Slot} {x : ExK} {k : Slot → Own → Prop} {e : Expr} {pos : Pos} {D : SD} {kl : List Slot → Own → Prop}
theorem ewt_mono {k2 : Slot → Own → Prop} (h : EWT X O ρ e x k) (g : ∀ s O', k s O' → k2 s O') : EWT X O ρ e x k2 := fun H0 σ H st tk Q q => h H0 σ H st tk Q fun v H' s O' hk => q v H' s O' (g s O' hk)
theorem s1t_setMap1 {α : Type} (l : List α) (ι f : α → Dat) (own : List (Str × Nat)) (i : Nat) {nm : Str} {py spos pos : Pos} {elt tg iter : Expr} {scope : Scope} {T : Dat → List Slot → List Slot → Prop} (hN : X.N.Nodup) (tg_ok : Tgt X scope (own.map (·.2)) tg T) (ok : BlkOk X.N X.env.scope scope own)
    (hi : IW X O ρ tg iter x fun ds' O1 => ds' = l.map ι ∧ O1 = O) (hz : l.length ≤ sizeLine)
    (hb : ∀ d, d ∈ l → ∃ ρ', T (ι d) (wipeS ρ (own.map (·.2))) ρ' ∧ ∀ O' Y, Blk X scope Y → EWT Y O' ρ' elt noX (fun s O2 => s = .dat (f d) ∧ O2 = O'))
    (h : ∀ p, O p = none → D.nx (ρ.set i (.own p)) (up O p (.lst ((l.map f).map .dat)))) (hc : X.calm = true := by rfl)
    (hy : X.N[i]? = some nm := by rfl) (hyl : X.env.scope.names.lookup nm = some .local := by rfl)
    (hsw : swapsWith (.ListComp elt [⟨tg, iter, [], 0⟩] scope pos) (some (.Name nm py)) spos.line X.env = pure true := by exact sw_true rfl rfl rfl (by decide +kernel)) (hs : ∀ x, foldedSetIterable iter X.env x = pure x := by intro _; rfl) :
    S1T X O ρ (.Assign [.Name nm py] (.ListComp elt [⟨tg, iter, [], 0⟩] scope pos) spos) x D := by
  refine s1t_setLc own i hN tg_ok ok (fun H0 σ H st tk R q => hi H0 σ H st tk R fun J H' ds' O1 ⟨e1, e2⟩ st' it => q J H' ds' O1 ?_ st' it) hc hy hyl hsw hs
  subst e1 e2
  refine ⟨by rw [List.length_map]; exact hz, fun i acc O' => O' = O1 ∧ acc = ((l.take i).map f).map .dat, ⟨rfl, rfl⟩, fun i d0 acc O' hj hd0 => ?_, fun acc O' hj p hp => ?_⟩
  · obtain ⟨rfl, rfl⟩ := hj
    rw [List.getElem?_map] at hd0
    obtain ⟨d, hd, rfl⟩ := Option.map_eq_some_iff.mp hd0
    obtain ⟨ρ', ht, hb⟩ := hb d (List.mem_of_getElem? hd)
    refine ⟨ρ', ht, fun Dd nD Y hY => tsw_nil ⟨fun _ Z hZ => ?_, fun e => by cases e⟩⟩
    have htake : l.take (i + 1) = l.take i ++ [d] := by rw [List.take_add_one, hd]; rfl
    refine ewt_mono (hb (up O' Dd (.lst (((l.take i).map f).map .dat))) Z hZ) fun s O3 ⟨e3, e4⟩ => ?_
    subst e3 e4
    exact ⟨O', rfl, nD, rfl, by rw [htake]; simp⟩
  · obtain ⟨rfl, rfl⟩ := hj
    rw [List.length_map, List.take_length]
    exact h p hp
theorem gw_lstD {tgs : List Expr} {kk : Nat} {ds : List Dat} (h : GsW X O ρ tgs (ds.map .dat) x kl) (hc : X.calm = true := by rfl) (hn : (assignEach tgs X.env).length = ds.length := by rfl) (hst : (assignEach tgs X.env).findIdx? (·.1) = none := by rfl) :
    GW X O ρ (.Tuple tgs kk pos) (.dat (.lst ds)) x kl := fun H0 σ H v st r tk Q q => by
  cases r with
  | lst h1 h2 =>
    refine wg_of (pg_lst hc pgs_w hn hst) ⟨_, _, rfl, sql_at (of_hid h1).2, RpA.length h2, ?_⟩
    exact h H0 σ H _ st h2.paired tk Q q
theorem ob_neDue {t : Tr} {o : Option Str} {w : Str} (hr : Room 0 X.A) (hs : sml (shwT t)) (hw : smlB w = true) (ho : ∀ z, o = some z → smlB z = true) (h : k (.dat (.bl (!decide (o = some w)))) O) : OpB X (compareOp .NotEq) (.dat (dueW t o)) (.dat (.tup [.str "many", .str w])) O k := by
  cases o with
  | none =>
    refine ob_neMany hr (by decide +kernel) (sml_b hs) (by decide +kernel) hw ?_
    rw [show decide ((Str.ofString "text") = "many") = false by decide +kernel, Bool.false_and]
    exact h
  | some z =>
    refine ob_neMany hr (by decide +kernel) (ho z rfl) (by decide +kernel) hw ?_
    rw [decide_eq_true rfl, Bool.true_and]
    rw [show decide (some z = some w) = decide (z = w) by simp] at h
    exact h
theorem ob_eqDue {t : Tr} {o : Option Str} {w : Str} (hr : Room 0 X.A) (hs : sml (shwT t)) (hw : smlB w = true) (ho : ∀ z, o = some z → smlB z = true) (h : k (.dat (.bl (decide (o = some w)))) O) : OpB X (compareOp .Eq) (.dat (dueW t o)) (.dat (.tup [.str "many", .str w])) O k := by
  cases o with
  | none =>
    refine ob_eqMany hr (by decide +kernel) (sml_b hs) (by decide +kernel) hw ?_
    rw [show decide ((Str.ofString "text") = "many") = false by decide +kernel, Bool.false_and]
    exact h
  | some z =>
    refine ob_eqMany hr (by decide +kernel) (ho z rfl) (by decide +kernel) hw ?_
    rw [decide_eq_true rfl, Bool.true_and]
    rw [show decide (some z = some w) = decide (z = w) by simp] at h
    exact h
end
theorem exc_sml (t : Tr) (d : Nat) : ∀ z, excT t d = some z → smlB z = true := by
  intro z h
  unfold excT at h
  split at h
  · cases h; decide +kernel
  · split at h
    · cases h; decide +kernel
    · split at h
      · cases h; decide +kernel
      · cases h
theorem outO_sml (n : Nat) : ∀ z, outO n = some z → smlB z = true := by
  intro z h
  unfold outO at h
  split at h
  · cases h; decide +kernel
  · cases h
theorem exc_atoms {t : Tr} {d : Nat} (h : 8 < cntT t) : excT t d = some ("atoms" : Str) := if_pos h
theorem exc_deepB {t : Tr} {d : Nat} (h : cntT t ≤ 8) : decide (excT t d = some ("deep" : Str)) = decide (6 < (d : Int)) := by
  unfold excT
  rw [if_neg (by omega)]
  by_cases h6 : 6 < d
  · rw [if_pos h6, decide_eq_true rfl, decide_eq_true (by omega)]
  · rw [if_neg h6, decide_eq_false (show ¬ 6 < (d : Int) by omega)]
    split <;> decide +kernel
section
variable {P : Program} {w : World} {K : PySem.W.Frag} {mg : Str → Option Value} {base : Heap}
theorem fn_law (T : TopOf K mg) (Z : Facts K) {f : Addr} {fd : FuncData} (F : L2.Fun K "law" "law" s_law f fd) : Fn P w K mg base true (101) f fd ["_law_script"] (LawS) := by
  have sc := sc_law
  refine fn_mk F sc_law (fun ss O R h => by first | (obtain ⟨_, rfl, _⟩ := h; rfl) | (obtain ⟨_, _, rfl, _⟩ := h; rfl) | (obtain ⟨_, _, _, rfl, _⟩ := h; rfl) | (obtain ⟨_, _, _, _, rfl, _⟩ := h; rfl) | (obtain ⟨_, _, _, _, _, rfl, _⟩ := h; rfl) | (obtain ⟨_, _, _, _, _, _, rfl, _⟩ := h; rfl) | (obtain ⟨_, _, _, _, _, _, _, rfl, _⟩ := h; rfl)) fun cdv A outer s H E ss O R hr hpo h => ?_
  obtain ⟨ns, rfl, hns, h⟩ := h
  -- 0:_law_script 1:_law_k 2:_law_box_here 3:_law_caps_here 4:_law_turn 5:_law_tree 6:_law_text 7:_law_deep 8:_law_excess_here 9:_law_plain 10:_law_more 11:_law_found 12:_law_many 13:_law_outer 14:_law_some 15:_law_inner 16:_law_unlike 17:_law_a 18:_law_b 19:_law_word 20:_law_same
  refine sw_cons ?_
  refine s1_if ?_
  refine tw_not ?_
  refine tw_val ?_
  refine ew_call (c_law_far_right T Z) hr ?_
  refine aw_cons ?_
  refine ew_int ?_
  refine aw_nil ?_
  refine ⟨20, rfl, rfl, ?_⟩
  refine ⟨_, rfl, fun ht => ?_, fun ht => ?_⟩
  · exact absurd ht (by decide)
  · refine sw_nil ?_
    refine sw_cons ?_
    refine s1_for hpo ?_
    refine iw_range1 (T.no Z.n_range) ?_
    refine aw_cons ?_
    refine ew_callB (T.no Z.n_max) bt_max ?_
    refine aw_cons ?_
    refine ew_int ?_
    refine aw_cons ?_
    refine ew_callB (T.no Z.n_min) bt_min ?_
    refine aw_cons ?_
    refine ew_int ?_
    refine aw_cons ?_
    refine ew_callB (T.no Z.n_len) bt_len ?_
    refine aw_cons ?_
    refine ew_var 0 ?_
    refine aw_nil ?_
    walk_at "cb len"
    refine aw_nil ?_
    walk_at "cb min"
    refine aw_nil ?_
    walk_at "cb max"
    refine aw_nil ?_
    refine ⟨_, rfl, by constructor <;> (repeat' split) <;> omega, ?_⟩
    refine ⟨fun i ρ' O' => ∃ s1 s2 s3 s4 s5 s6 s7 s8 s9 s10 s11 s12 s13 s14 s15 s16 s17 s18 s19 s20 : Slot, ρ' = [.dat (.fro (ns.map .int)), s1, s2, s3, s4, s5, s6, s7, s8, s9, s10, s11, s12, s13, s14, s15, s16, s17, s18, s19, s20], ?_, ?_, ?_⟩
    · exact ⟨_, _, _, _, _, _, _, _, _, _, _, _, _, _, _, _, _, _, _, _, rfl⟩
    · intro i d ρ2 O2 hj hd
      obtain ⟨s1, s2, s3, s4, s5, s6, s7, s8, s9, s10, s11, s12, s13, s14, s15, s16, s17, s18, s19, s20, rfl⟩ := hj
      obtain ⟨hi, rfl⟩ := rangeD_at hd
      have hi : i < 7 := by
        rw [List.length_map] at hi
        revert hi
        (repeat' split) <;> omega
      refine gw_name 1 ?_ sc.nd
      refine sw_cons ?_
      refine s1_set 2 ?_ sc.nd
      refine ew_call (c_law_box T Z) hr ?_
      refine aw_cons ?_
      refine ew_var 0 ?_
      refine aw_cons ?_
      refine ew_var 1 ?_
      refine aw_cons ?_
      refine ew_int ?_
      refine aw_nil ?_
      refine ⟨ns, _, _, rfl, by omega, by omega, by decide, by decide, fun p b hp hb => ?_⟩
      refine sw_cons ?_
      refine s1_set 3 ?_ sc.nd
      refine ew_call (c_law_caps T Z) hr ?_
      refine aw_cons ?_
      refine ew_var 2 ?_
      refine aw_cons ?_
      refine ew_int ?_
      refine aw_nil ?_
      refine ⟨p, _, 2, rfl, up_at, hb, by decide, by decide, fun b2 caps hb2 hcl hck => ?_⟩
      rw [up_up]
      obtain ⟨A, B, rfl⟩ : ∃ A B, caps = [A, B] := by
        cases caps with
        | nil => cases hcl
        | cons A r => cases r with
          | nil => cases hcl
          | cons B r => cases r with
            | nil => exact ⟨A, B, rfl⟩
            | cons C r => cases hcl
      have hA : okK A := hck A (by simp)
      have hB : okK B := hck B (by simp)
      refine sw_cons ?_
      refine s1_for hpo ?_
      refine iw_range1 (T.no Z.n_range) ?_
      refine aw_cons ?_
      refine ew_int ?_
      refine aw_nil ?_
      refine ⟨_, rfl, by decide, ?_⟩
      refine ⟨fun j ρ' O' => ∃ (b : Cell) (s1 s4 s5 s6 s7 s8 s9 s10 s11 s12 s13 s14 s15 s16 s17 s18 s19 s20 : Slot), ρ' = [.dat (.fro (ns.map .int)), s1, .own p, .dat (.lst ([A, B].map .str)), s4, s5, s6, s7, s8, s9, s10, s11, s12, s13, s14, s15, s16, s17, s18, s19, s20] ∧ O' p = some b ∧ isBox b, ?_, ?_, ?_⟩
      · exact ⟨b2, _, _, _, _, _, _, _, _, _, _, _, _, _, _, _, _, _, _, rfl, up_at, hb2⟩
      · intro i d ρ2 O2 hj hd
        obtain ⟨b3, s1, s4, s5, s6, s7, s8, s9, s10, s11, s12, s13, s14, s15, s16, s17, s18, s19, s20, rfl, hO3, hb3⟩ := hj
        refine gw_name 4 ?_ sc.nd
        refine sw_cons ?_
        refine s1_set 5 ?_ sc.nd
        refine ew_call (c_law_wish T Z 10) hr ?_
        refine aw_cons ?_
        refine ew_var 2 ?_
        refine aw_cons ?_
        refine ew_var 3 ?_
        refine aw_cons ?_
        refine ew_ix ?_
        refine ew_lstD ?_
        refine aw_cons ?_
        refine ew_int ?_
        refine aw_cons ?_
        refine ew_int ?_
        refine aw_cons ?_
        refine ew_int ?_
        refine aw_cons ?_
        refine ew_int ?_
        refine aw_cons ?_
        refine ew_int ?_
        refine aw_cons ?_
        refine ew_int ?_
        refine aw_nil ?_
        refine ⟨[_, _, _, _, _, _], rfl, by walk_at "few", ?_⟩
        refine ew_call (c_law_take T Z) hr ?_
        refine aw_cons ?_
        refine ew_var 2 ?_
        refine aw_cons ?_
        refine ew_int ?_
        refine aw_nil ?_
        refine ⟨p, 6, b3, rfl, hO3, hb3, by decide, by decide, fun v b4 hu0 hu1 hb4 => ?_⟩
        
        obtain ⟨sz0, hs0, hs1, hs2⟩ : ∃ sz0 : Int, ([7, 8, 8, 9, 10, 3] : List Int)[v.toNat]? = some sz0 ∧ 1 ≤ sz0 ∧ sz0 ≤ 10 := by
          have : v = 0 ∨ v = 1 ∨ v = 2 ∨ v = 3 ∨ v = 4 ∨ v = 5 := by omega
          rcases this with rfl | rfl | rfl | rfl | rfl | rfl
          · exact ⟨7, rfl, by decide, by decide⟩
          · exact ⟨8, rfl, by decide, by decide⟩
          · exact ⟨8, rfl, by decide, by decide⟩
          · exact ⟨9, rfl, by decide, by decide⟩
          · exact ⟨10, rfl, by decide, by decide⟩
          · exact ⟨3, rfl, by decide, by decide⟩
        refine ix_lst (d := .int sz0) (by
          rw [show v = ((v.toNat : Nat) : Int) by omega]
          exact atI_nat (by
            show (([7, 8, 8, 9, 10, 3] : List Int).map Dat.int)[v.toNat]? = _
            rw [List.getElem?_map, hs0]; rfl)) ?_
        refine aw_nil ?_
        refine ⟨p, b4, [A, B], sz0, rfl, up_at, hb4, Nat.le_succ 1, (show 2 ≤ 6 by decide), hck, hs1, by omega, by decide, fun b5 t hb5 hwt hat hht hzt => ?_⟩
        rw [up_up]
        have ht20 : htT t ≤ 20 := by omega
        have hz38 : szT t ≤ 38 := by omega
        have hsh := shwT_ok hwt
        refine sw_cons ?_
        refine s1_asg ?_
        refine ew_call (c_law_written T Z 20) hr ?_
        refine aw_cons ?_
        refine ew_var 2 ?_
        refine aw_cons ?_
        refine ew_var 5 ?_
        refine aw_nil ?_
        refine ⟨p, b5, t, rfl, up_at, hb5, hwt, by omega, by omega, fun b6 q hb6 hwq hqo hqd => ?_⟩
        rw [up_up]
        have hqo2 : okN 700 q.1 := hqo.up (by omega)
        refine gw_tup ?_
        refine gsw_cons ?_
        refine gw_name 6 ?_ sc.nd
        refine gsw_cons ?_
        refine gw_name 7 ?_ sc.nd
        refine gsw_nil ?_
        refine sw_cons ?_
        refine s1_set 8 ?_ sc.nd
        refine ew_call (c_law_excess T Z) hr ?_
        refine aw_cons ?_
        refine ew_var 5 ?_
        refine aw_cons ?_
        refine ew_var 7 ?_
        refine aw_nil ?_
        refine ⟨t, q.2, rfl, hwt, hat, by omega, by omega, ?_⟩
        refine sw_cons ?_
        refine s1_if ?_
        refine tw_cmp ?_
        refine ew_call (c_law_question_read T Z) hr ?_
        refine aw_cons ?_
        refine ew_var 6 ?_
        refine aw_nil ?_
        refine ⟨q.1, rfl, Nat.le_trans hqo2.1 (by decide), ?_⟩
        rw [due_told hwq hwt hat hwt hat rfl rfl]
        refine ew_ev (d := (dueW t (excT t q.2))) ?_ ?_
        · refine ew_if ?_
          refine tw_cmp ?_
          refine ew_var 8 ?_
          refine ew_non ?_
          refine ob_isN ?_
          refine ⟨_, rfl, fun ht => ?_, fun ht => ?_⟩
          · have e0 : excT t q.2 = none := by
              cases e : excT t q.2 with
              | none => rfl
              | some z => rw [e] at ht; cases ht
            refine ew_tup ?_
            refine aw_cons ?_
            refine ew_str ?_
            refine aw_cons ?_
            refine ew_call (c_law_shown T Z 20) hr ?_
            refine aw_cons ?_
            refine ew_var 5 ?_
            refine aw_nil ?_
            refine ⟨t, rfl, hwt, by omega, by omega, ?_⟩
            refine aw_nil ?_
            refine ⟨[_, _], rfl, by walk_at "few", ?_⟩
            rw [e0]
            exact ⟨rfl, rfl⟩
          · obtain ⟨z0, e0⟩ : ∃ z0, excT t q.2 = some z0 := by
              cases e : excT t q.2 with
              | none => rw [e] at ht; cases ht
              | some z => exact ⟨z, rfl⟩
            refine ew_tup ?_
            refine aw_cons ?_
            refine ew_str ?_
            refine aw_cons ?_
            refine ew_var 8 ?_
            refine aw_nil ?_
            refine ⟨[_, _], rfl, by walk_at "few", ?_⟩
            rw [e0]
            exact ⟨rfl, rfl⟩
        refine ob_neSame (hr.r.mono (by decide)) hsh.2 ?_
        refine ⟨_, rfl, fun ht => ?_, fun ht => ?_⟩
        · exact absurd ht (by decide)
        · refine sw_nil ?_
          refine sw_cons ?_
          refine s1_set 9 ?_ sc.nd
          refine ew_call (c_law_wish T Z 4) hr ?_
          refine aw_cons ?_
          refine ew_var 2 ?_
          refine aw_cons ?_
          refine ew_var 3 ?_
          refine aw_cons ?_
          refine ew_bin ?_
          refine ew_int ?_
          refine ew_call (c_law_take T Z) hr ?_
          refine aw_cons ?_
          refine ew_var 2 ?_
          refine aw_cons ?_
          refine ew_int ?_
          refine aw_nil ?_
          refine ⟨p, 4, b6, rfl, up_at, hb6, by decide, by decide, fun v2 b7 hw0 hw1 hb7 => ?_⟩
          rw [up_up]
          walk_at "op add"
          refine aw_nil ?_
          refine ⟨p, b7, [A, B], 1 + v2, rfl, up_at, hb7, Nat.le_succ 1, (show 2 ≤ 6 by decide), hck, by omega, by omega, by decide, fun b8 t2 hb8 hwt2 hat2 hht2 hzt2 => ?_⟩
          rw [up_up]
          refine sw_cons ?_
          refine s1_asg ?_
          refine ew_call (c_law_deeper T Z) hr ?_
          refine aw_cons ?_
          refine ew_var 2 ?_
          refine aw_cons ?_
          refine ew_call (c_law_written T Z 8) hr ?_
          refine aw_cons ?_
          refine ew_var 2 ?_
          refine aw_cons ?_
          refine ew_var 9 ?_
          refine aw_nil ?_
          refine ⟨p, b8, t2, rfl, up_at, hb8, hwt2, by omega, by omega, fun b9 q2 hb9 hwq2 hqo2 hqd2 => ?_⟩
          rw [up_up]
          refine aw_nil ?_
          refine ⟨p, b9, t2, q2, rfl, up_at, hb9, hwt2, hat2, hwq2, hqo2.up (by omega), fun b10 t3 z3 d3 m3 hb10 hx3 hwt3 hat3 hct3 hzo3 => ?_⟩
          rw [up_up]
          have hsh3 := shwT_ok hwt3
          refine gw_tup ?_
          refine gsw_cons ?_
          refine gw_name 6 ?_ sc.nd
          refine gsw_cons ?_
          refine gw_name 7 ?_ sc.nd
          refine gsw_cons ?_
          refine gw_name 10 ?_ sc.nd
          refine gsw_nil ?_
          refine sw_cons ?_
          refine s1_par 11 12 ?_ sc.nd
          refine aw_cons ?_
          refine ew_call (c_law_question_read T Z) hr ?_
          refine aw_cons ?_
          refine ew_var 6 ?_
          refine aw_nil ?_
          refine ⟨z3, rfl, Nat.le_trans hzo3.1 (by decide), ?_⟩
          rw [dx_due hx3 hwt3 hat3]
          refine aw_cons ?_
          refine ew_bin ?_
          refine ew_callB (T.no Z.n_len) bt_len ?_
          refine aw_cons ?_
          refine ew_call (c_law_tokens T Z 8) hr ?_
          refine aw_cons ?_
          refine ew_var 9 ?_
          refine aw_nil ?_
          refine ⟨t2, rfl, hwt2, by omega, by omega, ?_⟩
          refine aw_nil ?_
          
          refine cb_lenL ?_
          rw [List.length_map, tok_cnt]
          refine ew_var 10 ?_
          
          walk_at "op add"
          rw [show ((cntT t2 : Nat) : Int) + (m3 : Int) = ((cntT t3 : Nat) : Int) by omega]
          refine aw_nil ?_
          refine ⟨_, _, rfl, ?_⟩
          refine sw_cons ?_
          refine s1_if ?_
          refine tw_tv (t := (decide (((cntT t3 : Nat) : Int) > 8) && !decide (excT t3 d3 = some ("atoms" : Str)))) (tv_w (tvw_and (tw_cmp (ew_var 12 (ew_int (ob_gt ⟨_, rfl, rfl, rfl⟩)))) fun hq => (tvw_and1 (tw_cmp (ew_var 11 (ew_tup (aw_cons (ew_str (aw_cons (ew_str (aw_nil ⟨[_, _], rfl, by walk_at "few", (ob_neDue (hr.r.mono (by decide)) hsh3.2 (by decide +kernel) (exc_sml t3 d3) ⟨_, rfl, rfl, rfl⟩)⟩))))))))))) ?_
          refine ⟨fun ht => ?_, fun ht => ?_⟩
          · exfalso
            rcases Bool.and_eq_true_iff.mp ht with ⟨g1, g2⟩
            have g1 := of_decide_eq_true g1
            rw [exc_atoms (by omega), decide_eq_true rfl] at g2
            cases g2
          · refine sw_nil ?_
            refine sw_one ?_
            refine s1_if ?_
            refine tw_tv (t := (decide (((cntT t3 : Nat) : Int) ≤ 8) && !decide (decide (excT t3 d3 = some ("deep" : Str)) = decide ((6 : Int) < (d3 : Int))))) ?_ ?_
            · refine tv_w (tvw_and (tw_cmp (ew_var 12 (ew_int (ob_le ⟨_, rfl, rfl, rfl⟩)))) fun hq => tvw_and1 ?_)
              refine tw_cmp ?_
              refine ew_cmp ?_
              refine ew_var 11 ?_
              refine ew_tup ?_
              refine aw_cons ?_
              refine ew_str ?_
              refine aw_cons ?_
              refine ew_str ?_
              refine aw_nil ?_
              refine ⟨[_, _], rfl, by walk_at "few", ?_⟩
              refine ob_eqDue (hr.r.mono (by decide)) hsh3.2 (by decide +kernel) (exc_sml t3 d3) ?_
              refine ew_cmp ?_
              refine ew_var 7 ?_
              refine ew_int ?_
              refine ob_gt ?_
              refine ob_neBB (hr.r.mono (by decide)) ?_
              exact ⟨_, rfl, rfl, rfl⟩
            refine ⟨fun ht => ?_, fun ht => ?_⟩
            · exfalso
              rcases Bool.and_eq_true_iff.mp ht with ⟨g1, g2⟩
              have g1 := of_decide_eq_true g1
              rw [exc_deepB (by omega), decide_eq_true rfl] at g2
              cases g2
            · refine sw_nil ?_
              exact ⟨b10, _, _, _, _, _, _, _, _, _, _, _, _, _, _, _, _, _, _, rfl, up_at, hb10⟩
      · intro ρ2 O2 hj
        obtain ⟨b3, s1, s4, s5, s6, s7, s8, s9, s10, s11, s12, s13, s14, s15, s16, s17, s18, s19, s20, rfl, hO3, hb3⟩ := hj
        refine sw_consO (tk_set (tk_list (tk_op tk_str))) ?_
        refine s1_set 13 ?_ sc.nd
        refine ew_lstD ?_
        refine aw_cons ?_
        refine ew_bin ?_
        refine ew_str ?_
        refine ew_ix ?_
        refine ew_var 3 ?_
        refine ew_int ?_
        refine ix_lst (d := .str A) rfl ?_
        refine ob_catN (m := 10) (lit (by decide +kernel)) (okK_ok hA) (by decide) ?_
        refine aw_cons ?_
        refine ew_bin ?_
        refine ew_str ?_
        refine ew_ix ?_
        refine ew_var 3 ?_
        refine ew_int ?_
        refine ix_lst (d := .str B) rfl ?_
        refine ob_catN (m := 9) (lit (by decide +kernel)) (okK_ok hB) (by decide) ?_
        refine aw_cons ?_
        refine ew_bin ?_
        refine ew_str ?_
        refine ew_ix ?_
        refine ew_var 3 ?_
        refine ew_int ?_
        refine ix_lst (d := .str A) rfl ?_
        refine ob_catN (m := 9) (lit (by decide +kernel)) (okK_ok hA) (by decide) ?_
        refine aw_cons ?_
        refine ew_bin ?_
        refine ew_bin ?_
        refine ew_str ?_
        refine ew_ix ?_
        refine ew_var 3 ?_
        refine ew_int ?_
        refine ix_lst (d := .str B) rfl ?_
        refine ob_catN (m := 12) (lit (by decide +kernel)) (okK_ok hB) (by decide) ?_
        refine ew_str ?_
        refine ob_catN (okN.app (m := 12) (lit (by decide +kernel)) (okK_ok hB)) cl_ok (by decide) ?_
        refine aw_nil ?_
        refine ⟨[_, _, _, _], rfl, by walk_at "few", ?_⟩
        refine swt_cons ?_
        refine s1_set 14 ?_ sc.nd
        refine ew_slice ?_
        refine ew_frz ?_
        refine ew_call (c_law_mixed T Z) hr ?_
        refine aw_cons ?_
        refine ew_var 2 ?_
        refine aw_cons ?_
        refine ew_bin ?_
        refine ew_var 13 ?_
        refine ew_lstD ?_
        refine aw_cons ?_
        refine ew_str ?_
        refine aw_nil ?_
        refine ⟨[_], rfl, by walk_at "few", ?_⟩
        refine ob_catL (show 4 + 1 ≤ sizeLine by decide) ?_
        refine aw_nil ?_
        refine ⟨(els A B).map (·.z), p, b3, rfl, hO3, hb3, (show 5 ≤ 1000 by decide), fun y hy => ?_, fun m0 b4 l' hm0 hb4 hpm => ?_⟩
        · obtain ⟨e, he, rfl⟩ := List.mem_map.mp hy
          exact (els_ok hA hB e he).tx.2
        have npm : m0 ≠ p := (own_ne hO3 hm0).symm
        obtain ⟨m, hpm2, rfl⟩ := perm_of_map hpm rfl
        refine ⟨m0, (m.map (·.z)).map .str, rfl, up_at, ?_⟩
        rw [dn_up (by rw [up_ne npm]; exact hm0)]
        refine ow_none ?_
        refine ow_some ?_
        refine ew_bin ?_
        refine ew_int ?_
        refine ew_call (c_law_take T Z) hr ?_
        refine aw_cons ?_
        refine ew_var 2 ?_
        refine aw_cons ?_
        refine ew_int ?_
        refine aw_nil ?_
        refine ⟨p, 3, b4, rfl, up_at, hb4, by decide, by decide, fun v3 b5 hx0 hx1 hb5 => ?_⟩
        rw [up_up]
        obtain ⟨es, hes⟩ : ∃ es, es = m.take (1 + v3).toNat := ⟨_, rfl⟩
        have hml : m.length = 5 := hpm2.length_eq
        have hel : es.length = (1 + v3).toNat := by rw [hes, List.length_take, hml]; omega
        have heo : ∀ e ∈ es, ElOk e := fun e he => els_ok hA hB e (hpm2.mem_iff.mp (List.mem_of_mem_take (by rw [← hes]; exact he)))
        have hec : (es.map fun e => cntT e.t).sum ≤ 8 := by rw [hes]; exact els_take hA hB hpm2 (by omega)
        have hen : es ≠ [] := fun q => by rw [q] at hel; have hel : 0 = (1 + v3).toNat := hel; omega
        have hcut : cutD ((m.map (·.z)).map Dat.str) none (some (1 + v3)) = (es.map (·.z)).map Dat.str := by
          rw [cut_take (by omega), hes, List.map_take, List.map_take]
        walk_at "op add"
        refine ⟨_, rfl, ?_⟩
        
        refine sb_lst ?_
        rw [hcut]
        have hmz : (es.map (·.z)).map Dat.str = es.map fun e => Dat.str e.z := by rw [List.map_map]; rfl
        refine swt_drop ?_
        refine s1t_setMap1 es (fun e => .str e.z) (fun e => .str (shI e.t)) [("_law_text", 6)] 15 sc.nd (.name (i := 6) (by decide) fun Y ⟨_, _, _, _, _, e⟩ => by subst e; exact pg_name (i := 6) sc.nd rfl (.inl rfl) (.inr rfl)) (blkOk_by (N := N_law) (sc := defScope s_law) (by decide +kernel)) (iw_list (ew_var 14 ⟨_, rfl, hmz, rfl⟩)) (Nat.le_trans (show es.length ≤ 3 by omega) (by decide)) (fun e he => ⟨_, rfl, fun O' Y hY => ?_⟩) (fun m1 hm1 => ?_)
        · obtain ⟨_, _, _, _, _, rfl⟩ := hY
          have g := heo e he
          obtain ⟨x0, hx0⟩ := g.inn
          have e0 : (Str.ofString "").length = 0 := by decide +kernel
          have l1 := g.tx.1
          have l2 := g.r1
          have l3 := TK.replace_len (Txt.replace e.z "( " "") " )" ""
          rw [e0] at l3
          refine ewt_ix ?_
          refine ewt_splitMax ?_
          refine ewt_repl ?_
          refine ewt_repl ?_
          refine ewt_of ?_
          refine ew_var 6 ?_
          refine ⟨e.z, rfl, by rw [e0]; omega, _, rfl, by rw [e0]; omega, _, rfl, Nat.le_trans (show _ ≤ 42 by omega) (by decide), ?_⟩
          rw [show Txt.splitMax (Txt.replace (Txt.replace e.z "( " "") " )" "") " " 1 = _ from hx0]
          refine ew_int ?_
          refine ix_lst (d := .str (shI e.t)) rfl ?_
          exact ⟨rfl, rfl⟩
        refine sw_frz 15 (ds := es.map fun e => .str (shI e.t)) (by rw [up_at]) ?_
        rw [dn_up hm1]
        have ei : (es.map fun e => Dat.str (shI e.t)) = (innL es).map .str := by unfold innL; rw [List.map_map]; rfl
        rw [ei]
        have hil : (innL es).length ≤ 3 := by unfold innL; rw [List.length_map]; omega
        refine sw_cons ?_
        refine s1_set 16 ?_ sc.nd
        refine ew_lenSet (T.no Z.n_len) (T.no Z.n_set) ?_
        refine ew_bin ?_
        refine ew_var 15 ?_
        refine ew_bin ?_
        refine ew_lstD ?_
        refine aw_cons ?_
        refine ew_str ?_
        refine aw_nil ?_
        refine ⟨[_], rfl, by walk_at "few", ?_⟩
        refine ew_callTy (T.no Z.n_int) bt_int ?_
        refine aw_cons ?_
        refine ew_ev (d := (.bl ((innL es).any (· == "above root")))) (ew_cmp (ew_str (ew_var 15 (ob_inL ⟨rfl, rfl⟩)))) ?_
        refine aw_nil ?_
        refine cb_intB ?_
        refine ob_rep (by split <;> decide) (by split <;> decide) ?_
        
        refine ob_catL (by
          rw [List.length_map]
          refine Nat.le_trans (Nat.add_le_add hil (show _ ≤ 1 from ?_)) (by decide)
          split <;> decide) ?_
        refine ⟨allI es, ?_, ?_, ?_⟩
        · unfold allI
          rw [List.map_append, List.map_flatten, List.map_replicate]; rfl
        · unfold allI
          rw [List.length_append]
          refine Nat.le_trans (Nat.add_le_add hil (show _ ≤ 1 from ?_)) (by decide)
          split <;> decide
        refine sw_cons ?_
        refine s1_set 11 ?_ sc.nd
        refine ew_call (c_law_question_read T Z) hr ?_
        refine aw_cons ?_
        refine ew_join ?_
        refine ew_str ?_
        refine ⟨_, rfl, ?_⟩
        refine ew_var 14 ?_
        
        have hsum := sum_le (g := fun z : Str => z.length) (b := 20) (l := es.map (·.z)) fun z hz => by
          obtain ⟨e, he, rfl⟩ := List.mem_map.mp hz
          exact (heo e he).tx.1
        have hjl := join_lt " or " (es.map (·.z))
        rw [show (Str.ofString " or ").length = 4 by decide +kernel] at hjl
        rw [List.length_map] at hsum hjl
        refine m1_join (by rw [show (Str.ofString " or ").length = 4 by decide +kernel, List.length_map]; omega) ?_
        refine aw_nil ?_
        refine ⟨orZ es, rfl, by show (Txt.join " or " (es.map (·.z))).length ≤ 90000; omega, ?_⟩
        rw [or_due hen heo hec]
        obtain ⟨a0, c0, eac, ha0, hc0, hot, hdec, _⟩ := dueO_two (orT (es.map (·.t))) (ddS (allI es)).length (shwT_ok (or_wr hen heo).2.1).2
        rw [eac]
        refine sw_cons ?_
        refine s1_if ?_
        refine tw_tv (t := (!decide ((decide (a0 = "many") && decide (c0 = "outer")) = decide ((2 : Int) < ((ddS (allI es)).length : Int))) || decide (a0 = "other"))) ?_ ?_
        · refine tv_w (tvw_or ?_ fun hq => tvw_or1 (tw_cmp (ew_ix (ew_var 11 (ew_int (ix_tpl (d := .str a0) rfl (ew_str (ob_eqS ⟨_, rfl, rfl, rfl⟩))))))))
          refine tw_cmp ?_
          refine ew_cmp ?_
          refine ew_var 11 ?_
          refine ew_tup ?_
          refine aw_cons ?_
          refine ew_str ?_
          refine aw_cons ?_
          refine ew_str ?_
          refine aw_nil ?_
          refine ⟨[_, _], rfl, by walk_at "few", ?_⟩
          refine ob_eqMany (hr.r.mono (by decide)) ha0 hc0 (by decide +kernel) (by decide +kernel) ?_
          refine ew_cmp ?_
          refine ew_var 16 ?_
          refine ew_int ?_
          refine ob_gt ?_
          refine ob_neBB (hr.r.mono (by decide)) ?_
          exact ⟨_, rfl, rfl, rfl⟩
        refine ⟨fun ht => ?_, fun ht => ?_⟩
        · exfalso
          rw [hdec, decide_eq_false hot, Bool.or_false] at ht
          rw [show decide ((2 : Int) < ((ddS (allI es)).length : Int)) = decide (2 < (ddS (allI es)).length) by
            by_cases q : 2 < (ddS (allI es)).length
            · rw [decide_eq_true q, decide_eq_true (by omega)]
            · rw [decide_eq_false q, decide_eq_false (by omega)], decide_eq_true rfl] at ht
          cases ht
        · refine sw_nil ?_
          refine sw_cons ?_
          refine s1_asg ?_
          refine ew_map1 [A, B] .str (fun y => .str ("is " ++ y)) [("_law_word", 19)] sc.nd (.name (i := 19) (by decide) fun Y ⟨_, _, _, _, _, e⟩ => by subst e; exact pg_name (i := 19) sc.nd rfl (.inl rfl) (.inr rfl)) (blkOk_by (N := N_law) (sc := defScope s_law) (by decide +kernel)) (iw_list (ew_var 3 ⟨_, rfl, rfl, rfl⟩)) (show 2 ≤ sizeLine by decide) (fun y hy => ⟨_, rfl, fun O' Y hY => ?_⟩) ?_
          · obtain ⟨_, _, _, _, _, rfl⟩ := hY
            refine ew_bin ?_
            refine ew_str ?_
            refine ew_var 19 ?_
            refine ob_catN (m := 3) (lit (by decide +kernel)) (okK_ok (hck y hy)) (by decide) ?_
            exact ⟨rfl, rfl⟩
          refine gw_lstD ?_
          refine gsw_cons ?_
          refine gw_name 17 ?_ sc.nd
          refine gsw_cons ?_
          refine gw_name 18 ?_ sc.nd
          refine gsw_nil ?_
          have o1 : okN 7 ("is " ++ A) := (lit (n := 3) (by decide +kernel)).app (okK_ok hA)
          have o2 : okN 7 ("is " ++ B) := (lit (n := 3) (by decide +kernel)).app (okK_ok hB)
          have p1 : okN 9 "parent ( " := lit (by decide +kernel)
          have p2 : okN 7 " and ( " := lit (by decide +kernel)
          have p3 : okN 13 " and root ) )" := lit (by decide +kernel)
          have p4 : okN 10 "above ( ( " := lit (by decide +kernel)
          have p5 : okN 5 " and " := lit (by decide +kernel)
          have p6 : okN 13 " ) and root )" := lit (by decide +kernel)
          have z1 : okN 43 (sZ1 A B) := ((((p1.app o1).app p2).app o2).app p3)
          have z2 : okN 42 (sZ2 A B) := ((((p4.app o1).app p5).app o2).app p6)
          refine sw_cons ?_
          refine s1_set 20 ?_ sc.nd
          refine ew_lstD ?_
          refine aw_cons ?_
          refine ew_bin ?_
          refine ew_bin ?_
          refine ew_bin ?_
          refine ew_bin ?_
          refine ew_str ?_
          refine ew_var 17 ?_
          refine ob_catN p1 o1 (by decide) ?_
          refine ew_str ?_
          refine ob_catN (p1.app o1) p2 (by decide) ?_
          refine ew_var 18 ?_
          refine ob_catN ((p1.app o1).app p2) o2 (by decide) ?_
          refine ew_str ?_
          refine ob_catN (((p1.app o1).app p2).app o2) p3 (by decide) ?_
          refine aw_cons ?_
          refine ew_bin ?_
          refine ew_bin ?_
          refine ew_bin ?_
          refine ew_bin ?_
          refine ew_str ?_
          refine ew_var 17 ?_
          refine ob_catN p4 o1 (by decide) ?_
          refine ew_str ?_
          refine ob_catN (p4.app o1) p5 (by decide) ?_
          refine ew_var 18 ?_
          refine ob_catN ((p4.app o1).app p5) o2 (by decide) ?_
          refine ew_str ?_
          refine ob_catN (((p4.app o1).app p5).app o2) p6 (by decide) ?_
          refine aw_nil ?_
          refine ⟨[_, _], rfl, by walk_at "few", ?_⟩
          refine sw_one ?_
          refine s1_if ?_
          refine tw_cmp ?_
          refine ew_ix ?_
          refine ew_call (c_law_question_read T Z) hr ?_
          refine aw_cons ?_
          refine ew_join ?_
          refine ew_str ?_
          refine ⟨_, rfl, ?_⟩
          refine ew_var 20 ?_
          
          have e4 : (Str.ofString " or ").length = 4 := by decide +kernel
          refine m1_join (ys := [sZ1 A B, sZ2 A B]) (by
            have := z1.1
            have := z2.1
            rw [e4]
            show (sZ1 A B).length + ((sZ2 A B).length + 0) + 2 * 4 ≤ 16777216
            omega) ?_
          rw [join_cons (by simp), txt_one]
          refine aw_nil ?_
          refine ⟨sZ1 A B ++ " or " ++ sZ2 A B, rfl, Nat.le_trans ((z1.app (lit (n := 4) (by decide +kernel))).app z2).1 (by decide), ?_⟩
          rw [s_due hA hB]
          refine ew_int ?_
          refine ix_tpl (d := .str "text") rfl ?_
          refine ew_str ?_
          refine ob_neS ?_
          refine ⟨_, rfl, fun ht => ?_, fun ht => ?_⟩
          · exact absurd ht (by rw [decide_eq_true rfl]; decide)
          · refine sw_nil ?_
            exact ⟨_, _, _, _, _, _, _, _, _, _, _, _, _, _, _, _, _, _, _, _, rfl⟩
    · intro ρ2 O2 hj
      obtain ⟨s1, s2, s3, s4, s5, s6, s7, s8, s9, s10, s11, s12, s13, s14, s15, s16, s17, s18, s19, s20, rfl⟩ := hj
      refine sw_one ?_
      refine s1_ret ?_
      refine ew_bl ?_
      exact h _
theorem c_law (T : TopOf K mg) (Z : Facts K) : Cal P w K mg base true (101) "law" (LawS) [] := cal_of T Z.d_law (by walk_at "b1") fun f fd F => fn_law T Z F
end
end Lw
open PySem PySem.W PyProof.Rows
set_option maxHeartbeats 0 in
theorem PySem.Challenge.cw_keptnomore_k20_questions_too_great_holds : PySem.Challenge.rw_keptnomore_k20_questions_too_great.Holds := by
  w_on; o_law; k_head; (case hw => w_witness2)
  k_fill
  refine Kn.law_walk (l := PySem.Challenge.rw_keptnomore_k20_questions_too_great) (n := 101) (x := "_law_script") (st := Lw.s_law) (Z := Lw.Facts) rfl rfl ⟨rfl, by decide, by decide⟩ rfl (fun w h Y => PySem.W.kIn_of Y) ?Z ?D ?B ?F
  case Z =>
    intro w
    constructor
    · k_is
    · k_is
    · k_is
    · k_is
    · k_is
    · k_is
    · k_is
    · k_is
    · k_is
    · k_is
    · k_is
    · k_is
    · k_is
    · k_is
    · k_is
    · refine' Kn.def_in ?q1_0 ?q1_1 ?q1_2 ?q1_3
      (case q1_0 => k_is)
      (case q1_1 => k_is)
      (case q1_2 => k_is)
      (case q1_3 => k_is)
    · refine' Kn.def_in ?q2_0 ?q2_1 ?q2_2 ?q2_3
      (case q2_0 => k_is)
      (case q2_1 => k_is)
      (case q2_2 => k_is)
      (case q2_3 => k_is)
    · refine' Kn.def_in ?q3_0 ?q3_1 ?q3_2 ?q3_3
      (case q3_0 => k_is)
      (case q3_1 => k_is)
      (case q3_2 => k_is)
      (case q3_3 => k_is)
    · refine' Kn.def_in ?q4_0 ?q4_1 ?q4_2 ?q4_3
      (case q4_0 => k_is)
      (case q4_1 => k_is)
      (case q4_2 => k_is)
      (case q4_3 => k_is)
    · refine' Kn.def_in ?q5_0 ?q5_1 ?q5_2 ?q5_3
      (case q5_0 => k_is)
      (case q5_1 => k_is)
      (case q5_2 => k_is)
      (case q5_3 => k_is)
    · refine' Kn.def_in ?q6_0 ?q6_1 ?q6_2 ?q6_3
      (case q6_0 => k_is)
      (case q6_1 => k_is)
      (case q6_2 => k_is)
      (case q6_3 => k_is)
    · refine' Kn.def_in ?q7_0 ?q7_1 ?q7_2 ?q7_3
      (case q7_0 => k_is)
      (case q7_1 => k_is)
      (case q7_2 => k_is)
      (case q7_3 => k_is)
    · refine' Kn.def_in ?q8_0 ?q8_1 ?q8_2 ?q8_3
      (case q8_0 => k_is)
      (case q8_1 => k_is)
      (case q8_2 => k_is)
      (case q8_3 => k_is)
    · refine' Kn.def_in ?q9_0 ?q9_1 ?q9_2 ?q9_3
      (case q9_0 => k_is)
      (case q9_1 => k_is)
      (case q9_2 => k_is)
      (case q9_3 => k_is)
    · refine' Kn.def_in ?q10_0 ?q10_1 ?q10_2 ?q10_3
      (case q10_0 => k_is)
      (case q10_1 => k_is)
      (case q10_2 => k_is)
      (case q10_3 => k_is)
    · refine' Kn.def_in ?q11_0 ?q11_1 ?q11_2 ?q11_3
      (case q11_0 => k_is)
      (case q11_1 => k_is)
      (case q11_2 => k_is)
      (case q11_3 => k_is)
    · refine' Kn.def_in ?q12_0 ?q12_1 ?q12_2 ?q12_3
      (case q12_0 => k_is)
      (case q12_1 => k_is)
      (case q12_2 => k_is)
      (case q12_3 => k_is)
    · refine' Kn.def_in ?q13_0 ?q13_1 ?q13_2 ?q13_3
      (case q13_0 => k_is)
      (case q13_1 => k_is)
      (case q13_2 => k_is)
      (case q13_3 => k_is)
    · refine' Kn.def_in ?q14_0 ?q14_1 ?q14_2 ?q14_3
      (case q14_0 => k_is)
      (case q14_1 => k_is)
      (case q14_2 => k_is)
      (case q14_3 => k_is)
    · refine' Kn.def_in ?q15_0 ?q15_1 ?q15_2 ?q15_3
      (case q15_0 => k_is)
      (case q15_1 => k_is)
      (case q15_2 => k_is)
      (case q15_3 => k_is)
    · refine' Kn.def_in ?q16_0 ?q16_1 ?q16_2 ?q16_3
      (case q16_0 => k_is)
      (case q16_1 => k_is)
      (case q16_2 => k_is)
      (case q16_3 => k_is)
    · refine' Kn.def_in ?q17_0 ?q17_1 ?q17_2 ?q17_3
      (case q17_0 => k_is)
      (case q17_1 => k_is)
      (case q17_2 => k_is)
      (case q17_3 => k_is)
    · refine' Kn.def_in ?q18_0 ?q18_1 ?q18_2 ?q18_3
      (case q18_0 => k_is)
      (case q18_1 => k_is)
      (case q18_2 => k_is)
      (case q18_3 => k_is)
    · refine' Kn.def_in ?q19_0 ?q19_1 ?q19_2 ?q19_3
      (case q19_0 => k_is)
      (case q19_1 => k_is)
      (case q19_2 => k_is)
      (case q19_3 => k_is)
    · refine' Kn.def_in ?q20_0 ?q20_1 ?q20_2 ?q20_3
      (case q20_0 => k_is)
      (case q20_1 => k_is)
      (case q20_2 => k_is)
      (case q20_3 => k_is)
    · refine' Kn.def_in ?q21_0 ?q21_1 ?q21_2 ?q21_3
      (case q21_0 => k_is)
      (case q21_1 => k_is)
      (case q21_2 => k_is)
      (case q21_3 => k_is)
    · refine' Kn.def_in ?q22_0 ?q22_1 ?q22_2 ?q22_3
      (case q22_0 => k_is)
      (case q22_1 => k_is)
      (case q22_2 => k_is)
      (case q22_3 => k_is)
    · refine' Kn.def_in ?q23_0 ?q23_1 ?q23_2 ?q23_3
      (case q23_0 => k_is)
      (case q23_1 => k_is)
      (case q23_2 => k_is)
      (case q23_3 => k_is)
    · refine' Kn.def_in ?q24_0 ?q24_1 ?q24_2 ?q24_3
      (case q24_0 => k_is)
      (case q24_1 => k_is)
      (case q24_2 => k_is)
      (case q24_3 => k_is)
    · refine' Kn.def_in ?q25_0 ?q25_1 ?q25_2 ?q25_3
      (case q25_0 => k_is)
      (case q25_1 => k_is)
      (case q25_2 => k_is)
      (case q25_3 => k_is)
    · refine' Kn.def_in ?q26_0 ?q26_1 ?q26_2 ?q26_3
      (case q26_0 => k_is)
      (case q26_1 => k_is)
      (case q26_2 => k_is)
      (case q26_3 => k_is)
    · refine' Kn.def_in ?q27_0 ?q27_1 ?q27_2 ?q27_3
      (case q27_0 => k_is)
      (case q27_1 => k_is)
      (case q27_2 => k_is)
      (case q27_3 => k_is)
    · refine' Kn.def_in ?q28_0 ?q28_1 ?q28_2 ?q28_3
      (case q28_0 => k_is)
      (case q28_1 => k_is)
      (case q28_2 => k_is)
      (case q28_3 => k_is)
    · refine' Kn.text_in ?q29_0 ?q29_1
      (case q29_0 => k_is)
      (case q29_1 => decide +kernel)
    · refine' Kn.int_in ?q30_0
      (case q30_0 => k_is)
    · refine' Kn.int_in ?q31_0
      (case q31_0 => k_is)
    · refine' Kn.texts_in ?q32_0 ?q32_1 ?q32_2 ?q32_3
      (case q32_0 => k_is)
      (case q32_1 => k_is)
      (case q32_2 => decide +kernel)
      (case q32_3 => decide +kernel)
    · refine' Kn.int_in ?q33_0
      (case q33_0 => k_is)
    · refine' Kn.texts_in ?q34_0 ?q34_1 ?q34_2 ?q34_3
      (case q34_0 => k_is)
      (case q34_1 => k_is)
      (case q34_2 => decide +kernel)
      (case q34_3 => decide +kernel)
    · refine' ⟨_, _, ⟨Kn.exc_at ?q35_0 ?q35_1 ?q35_2 ?q35_3 ?q35_4 ?q35_5 ?q35_6 ?q35_7 ?q35_8 ?q35_9 ?q35_10 ?q35_11, ⟨?q35_12, ?q35_13, ?q35_14, ?q35_15⟩, ⟨?q35_16, ?q35_17, ?q35_18, ?q35_19, ?q35_20, ?q35_21, ?q35_22, ?q35_23⟩, ?q35_24, ?q35_25, ?q35_26, ?q35_27, ?q35_28, ⟨?q35_29, ?q35_30⟩, ?q35_31⟩, ?q35_32⟩
      (case q35_0 => k_is)
      (case q35_1 => k_is)
      (case q35_2 => decide +kernel)
      (case q35_3 => k_is)
      (case q35_4 => k_is)
      (case q35_5 => k_is)
      (case q35_6 => k_is)
      (case q35_7 => k_is)
      (case q35_8 => k_is)
      (case q35_9 => k_is)
      (case q35_10 => k_is)
      (case q35_11 => k_is)
      (case q35_12 => k_is)
      (case q35_13 => k_is)
      (case q35_14 => k_is)
      (case q35_15 => k_is)
      (case q35_16 => k_is)
      (case q35_17 => k_is)
      (case q35_18 => k_is)
      (case q35_19 => k_is)
      (case q35_20 => k_is)
      (case q35_21 => first | k_is | kernel_rfl)
      (case q35_22 => first | k_is | kernel_rfl)
      (case q35_23 => k_is)
      (case q35_24 => k_is)
      (case q35_25 => k_is)
      (case q35_26 => k_is)
      (case q35_27 => k_is)
      (case q35_28 => k_is)
      (case q35_29 => k_is)
      (case q35_30 => k_is)
      (case q35_31 => k_is)
      (case q35_32 => k_is)
    · refine' ⟨_, _, ⟨Kn.exc_at ?q36_0 ?q36_1 ?q36_2 ?q36_3 ?q36_4 ?q36_5 ?q36_6 ?q36_7 ?q36_8 ?q36_9 ?q36_10 ?q36_11, ⟨?q36_12, ?q36_13, ?q36_14, ?q36_15⟩, ⟨?q36_16, ?q36_17, ?q36_18, ?q36_19, ?q36_20, ?q36_21, ?q36_22, ?q36_23⟩, ?q36_24, ?q36_25, ?q36_26, ?q36_27, ?q36_28, ⟨?q36_29, ?q36_30⟩, ?q36_31⟩, ?q36_32⟩
      (case q36_0 => k_is)
      (case q36_1 => k_is)
      (case q36_2 => decide +kernel)
      (case q36_3 => k_is)
      (case q36_4 => k_is)
      (case q36_5 => k_is)
      (case q36_6 => k_is)
      (case q36_7 => k_is)
      (case q36_8 => k_is)
      (case q36_9 => k_is)
      (case q36_10 => k_is)
      (case q36_11 => k_is)
      (case q36_12 => k_is)
      (case q36_13 => k_is)
      (case q36_14 => k_is)
      (case q36_15 => k_is)
      (case q36_16 => k_is)
      (case q36_17 => k_is)
      (case q36_18 => k_is)
      (case q36_19 => k_is)
      (case q36_20 => k_is)
      (case q36_21 => first | k_is | kernel_rfl)
      (case q36_22 => first | k_is | kernel_rfl)
      (case q36_23 => k_is)
      (case q36_24 => k_is)
      (case q36_25 => k_is)
      (case q36_26 => k_is)
      (case q36_27 => k_is)
      (case q36_28 => k_is)
      (case q36_29 => k_is)
      (case q36_30 => k_is)
      (case q36_31 => k_is)
      (case q36_32 => k_is)
    · refine' ⟨_, _, ⟨Kn.exc_at ?q37_0 ?q37_1 ?q37_2 ?q37_3 ?q37_4 ?q37_5 ?q37_6 ?q37_7 ?q37_8 ?q37_9 ?q37_10 ?q37_11, ⟨?q37_12, ?q37_13, ?q37_14, ?q37_15⟩, ⟨?q37_16, ?q37_17, ?q37_18, ?q37_19, ?q37_20, ?q37_21, ?q37_22, ?q37_23⟩, ?q37_24, ?q37_25, ?q37_26, ?q37_27, ?q37_28, ⟨?q37_29, ?q37_30⟩, ?q37_31⟩, ?q37_32⟩
      (case q37_0 => k_is)
      (case q37_1 => k_is)
      (case q37_2 => decide +kernel)
      (case q37_3 => k_is)
      (case q37_4 => k_is)
      (case q37_5 => k_is)
      (case q37_6 => k_is)
      (case q37_7 => k_is)
      (case q37_8 => k_is)
      (case q37_9 => k_is)
      (case q37_10 => k_is)
      (case q37_11 => k_is)
      (case q37_12 => k_is)
      (case q37_13 => k_is)
      (case q37_14 => k_is)
      (case q37_15 => k_is)
      (case q37_16 => k_is)
      (case q37_17 => k_is)
      (case q37_18 => k_is)
      (case q37_19 => k_is)
      (case q37_20 => k_is)
      (case q37_21 => first | k_is | kernel_rfl)
      (case q37_22 => first | k_is | kernel_rfl)
      (case q37_23 => k_is)
      (case q37_24 => k_is)
      (case q37_25 => k_is)
      (case q37_26 => k_is)
      (case q37_27 => k_is)
      (case q37_28 => k_is)
      (case q37_29 => k_is)
      (case q37_30 => k_is)
      (case q37_31 => k_is)
      (case q37_32 => k_is)
    · refine' ⟨_, _, ⟨Kn.exc_at ?q38_0 ?q38_1 ?q38_2 ?q38_3 ?q38_4 ?q38_5 ?q38_6 ?q38_7 ?q38_8 ?q38_9 ?q38_10 ?q38_11, ⟨?q38_12, ?q38_13, ?q38_14, ?q38_15⟩, ⟨?q38_16, ?q38_17, ?q38_18, ?q38_19, ?q38_20, ?q38_21, ?q38_22, ?q38_23⟩, ?q38_24, ?q38_25, ?q38_26, ?q38_27, ?q38_28, ⟨?q38_29, ?q38_30⟩, ?q38_31⟩, ?q38_32⟩
      (case q38_0 => k_is)
      (case q38_1 => k_is)
      (case q38_2 => decide +kernel)
      (case q38_3 => k_is)
      (case q38_4 => k_is)
      (case q38_5 => k_is)
      (case q38_6 => k_is)
      (case q38_7 => k_is)
      (case q38_8 => k_is)
      (case q38_9 => k_is)
      (case q38_10 => k_is)
      (case q38_11 => k_is)
      (case q38_12 => k_is)
      (case q38_13 => k_is)
      (case q38_14 => k_is)
      (case q38_15 => k_is)
      (case q38_16 => k_is)
      (case q38_17 => k_is)
      (case q38_18 => k_is)
      (case q38_19 => k_is)
      (case q38_20 => k_is)
      (case q38_21 => first | k_is | kernel_rfl)
      (case q38_22 => first | k_is | kernel_rfl)
      (case q38_23 => k_is)
      (case q38_24 => k_is)
      (case q38_25 => k_is)
      (case q38_26 => k_is)
      (case q38_27 => k_is)
      (case q38_28 => k_is)
      (case q38_29 => k_is)
      (case q38_30 => k_is)
      (case q38_31 => k_is)
      (case q38_32 => k_is)
    · refine' ⟨_, ⟨?q39_0, ⟨?q39_1, ?q39_2, ?q39_3, ?q39_4⟩, ?q39_5, ?q39_6⟩, Kn.meth_in ?q39_7 ?q39_8 ?q39_9 ?q39_10 ?q39_11, Kn.meth_in ?q39_12 ?q39_13 ?q39_14 ?q39_15 ?q39_16, Kn.meth_in ?q39_17 ?q39_18 ?q39_19 ?q39_20 ?q39_21, Kn.meth_in ?q39_22 ?q39_23 ?q39_24 ?q39_25 ?q39_26, Kn.slot_in ?q39_27 ?q39_28 ?q39_29 ?q39_30 ?q39_31 ?q39_32, Kn.slot_in ?q39_33 ?q39_34 ?q39_35 ?q39_36 ?q39_37 ?q39_38, Kn.slot_in ?q39_39 ?q39_40 ?q39_41 ?q39_42 ?q39_43 ?q39_44⟩
      (case q39_0 => k_is)
      (case q39_1 => k_is)
      (case q39_2 => k_is)
      (case q39_3 => k_is)
      (case q39_4 => k_is)
      (case q39_5 => k_is)
      (case q39_6 => k_is)
      (case q39_7 => k_is)
      (case q39_8 => k_is)
      (case q39_9 => k_is)
      (case q39_10 => k_is)
      (case q39_11 => k_is)
      (case q39_12 => k_is)
      (case q39_13 => k_is)
      (case q39_14 => k_is)
      (case q39_15 => k_is)
      (case q39_16 => k_is)
      (case q39_17 => k_is)
      (case q39_18 => k_is)
      (case q39_19 => k_is)
      (case q39_20 => k_is)
      (case q39_21 => k_is)
      (case q39_22 => k_is)
      (case q39_23 => k_is)
      (case q39_24 => k_is)
      (case q39_25 => k_is)
      (case q39_26 => k_is)
      (case q39_27 => k_is)
      (case q39_28 => k_is)
      (case q39_29 => k_is)
      (case q39_30 => k_is)
      (case q39_31 => k_is)
      (case q39_32 => decide)
      (case q39_33 => k_is)
      (case q39_34 => k_is)
      (case q39_35 => k_is)
      (case q39_36 => k_is)
      (case q39_37 => k_is)
      (case q39_38 => decide)
      (case q39_39 => k_is)
      (case q39_40 => k_is)
      (case q39_41 => k_is)
      (case q39_42 => k_is)
      (case q39_43 => k_is)
      (case q39_44 => decide)
    · refine' ⟨_, ⟨?q40_0, ⟨⟨?q40_1, ?q40_2, ?q40_3, ?q40_4⟩, ?q40_5, ?q40_6, ?q40_7, ?q40_8, ?q40_9⟩, ?q40_10, ?q40_11, ⟨?q40_12, ?q40_13⟩, ?q40_14⟩, Kn.cons_in ?q40_15 ?q40_16 ?q40_17 ?q40_18 ?q40_19 ?q40_20, Kn.meth_in ?q40_21 ?q40_22 ?q40_23 ?q40_24 ?q40_25, Kn.meth_in ?q40_26 ?q40_27 ?q40_28 ?q40_29 ?q40_30, Kn.meth_in ?q40_31 ?q40_32 ?q40_33 ?q40_34 ?q40_35, Kn.meth_in ?q40_36 ?q40_37 ?q40_38 ?q40_39 ?q40_40, Kn.meth_in ?q40_41 ?q40_42 ?q40_43 ?q40_44 ?q40_45, Kn.meth_in ?q40_46 ?q40_47 ?q40_48 ?q40_49 ?q40_50, Kn.meth_in ?q40_51 ?q40_52 ?q40_53 ?q40_54 ?q40_55, Kn.meth_in ?q40_56 ?q40_57 ?q40_58 ?q40_59 ?q40_60, Kn.meth_in ?q40_61 ?q40_62 ?q40_63 ?q40_64 ?q40_65, Kn.meth_in ?q40_66 ?q40_67 ?q40_68 ?q40_69 ?q40_70, Kn.meth_in ?q40_71 ?q40_72 ?q40_73 ?q40_74 ?q40_75, ?q40_76, ?q40_77, ?q40_78, ?q40_79, ?q40_80, ?q40_81, ?q40_82⟩
      (case q40_0 => k_is)
      (case q40_1 => k_is)
      (case q40_2 => k_is)
      (case q40_3 => k_is)
      (case q40_4 => k_is)
      (case q40_5 => k_is)
      (case q40_6 => k_is)
      (case q40_7 => k_is)
      (case q40_8 => k_is)
      (case q40_9 => exact Kn.kit_self)
      (case q40_10 => k_is)
      (case q40_11 => k_is)
      (case q40_12 => k_is)
      (case q40_13 => k_is)
      (case q40_14 => k_is)
      (case q40_15 => k_is)
      (case q40_16 => k_is)
      (case q40_17 => k_is)
      (case q40_18 => decide +kernel)
      (case q40_19 => decide +kernel)
      (case q40_20 => decide +kernel)
      (case q40_21 => k_is)
      (case q40_22 => k_is)
      (case q40_23 => k_is)
      (case q40_24 => k_is)
      (case q40_25 => k_is)
      (case q40_26 => k_is)
      (case q40_27 => k_is)
      (case q40_28 => k_is)
      (case q40_29 => k_is)
      (case q40_30 => k_is)
      (case q40_31 => k_is)
      (case q40_32 => k_is)
      (case q40_33 => k_is)
      (case q40_34 => k_is)
      (case q40_35 => k_is)
      (case q40_36 => k_is)
      (case q40_37 => k_is)
      (case q40_38 => k_is)
      (case q40_39 => k_is)
      (case q40_40 => k_is)
      (case q40_41 => k_is)
      (case q40_42 => k_is)
      (case q40_43 => k_is)
      (case q40_44 => k_is)
      (case q40_45 => k_is)
      (case q40_46 => k_is)
      (case q40_47 => k_is)
      (case q40_48 => k_is)
      (case q40_49 => k_is)
      (case q40_50 => k_is)
      (case q40_51 => k_is)
      (case q40_52 => k_is)
      (case q40_53 => k_is)
      (case q40_54 => k_is)
      (case q40_55 => k_is)
      (case q40_56 => k_is)
      (case q40_57 => k_is)
      (case q40_58 => k_is)
      (case q40_59 => k_is)
      (case q40_60 => k_is)
      (case q40_61 => k_is)
      (case q40_62 => k_is)
      (case q40_63 => k_is)
      (case q40_64 => k_is)
      (case q40_65 => k_is)
      (case q40_66 => k_is)
      (case q40_67 => k_is)
      (case q40_68 => k_is)
      (case q40_69 => k_is)
      (case q40_70 => k_is)
      (case q40_71 => k_is)
      (case q40_72 => k_is)
      (case q40_73 => k_is)
      (case q40_74 => k_is)
      (case q40_75 => k_is)
      (case q40_76 => k_is)
      (case q40_77 => k_is)
      (case q40_78 => k_is)
      (case q40_79 => k_is)
      (case q40_80 => k_is)
      (case q40_81 => k_is)
      (case q40_82 => k_is)
    · refine' ⟨_, ⟨?q41_0, ⟨⟨?q41_1, ?q41_2, ?q41_3, ?q41_4⟩, ?q41_5, ?q41_6, ?q41_7, ?q41_8, ?q41_9⟩, ?q41_10, ?q41_11, ⟨?q41_12, ?q41_13⟩, ?q41_14⟩, Kn.cons_in ?q41_15 ?q41_16 ?q41_17 ?q41_18 ?q41_19 ?q41_20, Kn.meth_in ?q41_21 ?q41_22 ?q41_23 ?q41_24 ?q41_25, Kn.meth_in ?q41_26 ?q41_27 ?q41_28 ?q41_29 ?q41_30, Kn.meth_in ?q41_31 ?q41_32 ?q41_33 ?q41_34 ?q41_35, Kn.meth_in ?q41_36 ?q41_37 ?q41_38 ?q41_39 ?q41_40, Kn.meth_in ?q41_41 ?q41_42 ?q41_43 ?q41_44 ?q41_45, Kn.meth_in ?q41_46 ?q41_47 ?q41_48 ?q41_49 ?q41_50, Kn.meth_in ?q41_51 ?q41_52 ?q41_53 ?q41_54 ?q41_55, Kn.meth_in ?q41_56 ?q41_57 ?q41_58 ?q41_59 ?q41_60, Kn.meth_in ?q41_61 ?q41_62 ?q41_63 ?q41_64 ?q41_65, Kn.meth_in ?q41_66 ?q41_67 ?q41_68 ?q41_69 ?q41_70, Kn.meth_in ?q41_71 ?q41_72 ?q41_73 ?q41_74 ?q41_75, ?q41_76, ?q41_77, ?q41_78, ?q41_79, ?q41_80, ?q41_81, ?q41_82⟩
      (case q41_0 => k_is)
      (case q41_1 => k_is)
      (case q41_2 => k_is)
      (case q41_3 => k_is)
      (case q41_4 => k_is)
      (case q41_5 => k_is)
      (case q41_6 => k_is)
      (case q41_7 => k_is)
      (case q41_8 => k_is)
      (case q41_9 => exact Kn.kit_self)
      (case q41_10 => k_is)
      (case q41_11 => k_is)
      (case q41_12 => k_is)
      (case q41_13 => k_is)
      (case q41_14 => k_is)
      (case q41_15 => k_is)
      (case q41_16 => k_is)
      (case q41_17 => k_is)
      (case q41_18 => decide +kernel)
      (case q41_19 => decide +kernel)
      (case q41_20 => decide +kernel)
      (case q41_21 => k_is)
      (case q41_22 => k_is)
      (case q41_23 => k_is)
      (case q41_24 => k_is)
      (case q41_25 => k_is)
      (case q41_26 => k_is)
      (case q41_27 => k_is)
      (case q41_28 => k_is)
      (case q41_29 => k_is)
      (case q41_30 => k_is)
      (case q41_31 => k_is)
      (case q41_32 => k_is)
      (case q41_33 => k_is)
      (case q41_34 => k_is)
      (case q41_35 => k_is)
      (case q41_36 => k_is)
      (case q41_37 => k_is)
      (case q41_38 => k_is)
      (case q41_39 => k_is)
      (case q41_40 => k_is)
      (case q41_41 => k_is)
      (case q41_42 => k_is)
      (case q41_43 => k_is)
      (case q41_44 => k_is)
      (case q41_45 => k_is)
      (case q41_46 => k_is)
      (case q41_47 => k_is)
      (case q41_48 => k_is)
      (case q41_49 => k_is)
      (case q41_50 => k_is)
      (case q41_51 => k_is)
      (case q41_52 => k_is)
      (case q41_53 => k_is)
      (case q41_54 => k_is)
      (case q41_55 => k_is)
      (case q41_56 => k_is)
      (case q41_57 => k_is)
      (case q41_58 => k_is)
      (case q41_59 => k_is)
      (case q41_60 => k_is)
      (case q41_61 => k_is)
      (case q41_62 => k_is)
      (case q41_63 => k_is)
      (case q41_64 => k_is)
      (case q41_65 => k_is)
      (case q41_66 => k_is)
      (case q41_67 => k_is)
      (case q41_68 => k_is)
      (case q41_69 => k_is)
      (case q41_70 => k_is)
      (case q41_71 => k_is)
      (case q41_72 => k_is)
      (case q41_73 => k_is)
      (case q41_74 => k_is)
      (case q41_75 => k_is)
      (case q41_76 => k_is)
      (case q41_77 => k_is)
      (case q41_78 => k_is)
      (case q41_79 => k_is)
      (case q41_80 => k_is)
      (case q41_81 => k_is)
      (case q41_82 => k_is)
    · refine' ⟨_, ⟨?q42_0, ⟨⟨?q42_1, ?q42_2, ?q42_3, ?q42_4⟩, ?q42_5, ?q42_6, ?q42_7, ?q42_8, ?q42_9⟩, ?q42_10, ?q42_11, ⟨?q42_12, ?q42_13⟩, ?q42_14⟩, Kn.meth_in ?q42_15 ?q42_16 ?q42_17 ?q42_18 ?q42_19, Kn.cmeth_in ?q42_20 ?q42_21 ?q42_22 ?q42_23 ?q42_24 ?q42_25, Kn.cmeth_in ?q42_26 ?q42_27 ?q42_28 ?q42_29 ?q42_30 ?q42_31, Kn.cmeth_in ?q42_32 ?q42_33 ?q42_34 ?q42_35 ?q42_36 ?q42_37, Kn.meth_in ?q42_38 ?q42_39 ?q42_40 ?q42_41 ?q42_42, Kn.meth_in ?q42_43 ?q42_44 ?q42_45 ?q42_46 ?q42_47, Kn.meth_in ?q42_48 ?q42_49 ?q42_50 ?q42_51 ?q42_52, Kn.meth_in ?q42_53 ?q42_54 ?q42_55 ?q42_56 ?q42_57, Kn.meth_in ?q42_58 ?q42_59 ?q42_60 ?q42_61 ?q42_62, ?q42_63, ?q42_64⟩
      (case q42_0 => k_is)
      (case q42_1 => k_is)
      (case q42_2 => k_is)
      (case q42_3 => k_is)
      (case q42_4 => k_is)
      (case q42_5 => k_is)
      (case q42_6 => k_is)
      (case q42_7 => k_is)
      (case q42_8 => k_is)
      (case q42_9 => exact Kn.kit_self)
      (case q42_10 => k_is)
      (case q42_11 => k_is)
      (case q42_12 => k_is)
      (case q42_13 => k_is)
      (case q42_14 => k_is)
      (case q42_15 => k_is)
      (case q42_16 => k_is)
      (case q42_17 => k_is)
      (case q42_18 => k_is)
      (case q42_19 => k_is)
      (case q42_20 => k_is)
      (case q42_21 => k_is)
      (case q42_22 => k_is)
      (case q42_23 => k_is)
      (case q42_24 => k_is)
      (case q42_25 => k_is)
      (case q42_26 => k_is)
      (case q42_27 => k_is)
      (case q42_28 => k_is)
      (case q42_29 => k_is)
      (case q42_30 => k_is)
      (case q42_31 => k_is)
      (case q42_32 => k_is)
      (case q42_33 => k_is)
      (case q42_34 => k_is)
      (case q42_35 => k_is)
      (case q42_36 => k_is)
      (case q42_37 => k_is)
      (case q42_38 => k_is)
      (case q42_39 => k_is)
      (case q42_40 => k_is)
      (case q42_41 => k_is)
      (case q42_42 => k_is)
      (case q42_43 => k_is)
      (case q42_44 => k_is)
      (case q42_45 => k_is)
      (case q42_46 => k_is)
      (case q42_47 => k_is)
      (case q42_48 => k_is)
      (case q42_49 => k_is)
      (case q42_50 => k_is)
      (case q42_51 => k_is)
      (case q42_52 => k_is)
      (case q42_53 => k_is)
      (case q42_54 => k_is)
      (case q42_55 => k_is)
      (case q42_56 => k_is)
      (case q42_57 => k_is)
      (case q42_58 => k_is)
      (case q42_59 => k_is)
      (case q42_60 => k_is)
      (case q42_61 => k_is)
      (case q42_62 => k_is)
      (case q42_63 => k_is)
      (case q42_64 => k_is)
    · refine' Kn.sub_in ?q43_0 ?q43_1 ?q43_2
      (case q43_0 => k_is)
      (case q43_1 => k_is)
      (case q43_2 => k_is)
    · refine' Kn.sub_in ?q44_0 ?q44_1 ?q44_2
      (case q44_0 => k_is)
      (case q44_1 => k_is)
      (case q44_2 => k_is)
    · refine' Kn.sub_in ?q45_0 ?q45_1 ?q45_2
      (case q45_0 => k_is)
      (case q45_1 => k_is)
      (case q45_2 => k_is)
    · refine' Kn.sub_in ?q46_0 ?q46_1 ?q46_2
      (case q46_0 => k_is)
      (case q46_1 => k_is)
      (case q46_2 => k_is)
    · refine' Kn.sub_in ?q47_0 ?q47_1 ?q47_2
      (case q47_0 => k_is)
      (case q47_1 => k_is)
      (case q47_2 => k_is)
    · refine' Kn.cls_in ?q48_0 ?q48_1 ?q48_2
      (case q48_0 => k_is)
      (case q48_1 => k_is)
      (case q48_2 => k_is)
    · refine' Kn.cls_in ?q49_0 ?q49_1 ?q49_2
      (case q49_0 => k_is)
      (case q49_1 => k_is)
      (case q49_2 => k_is)
    · refine' Kn.cls_in ?q50_0 ?q50_1 ?q50_2
      (case q50_0 => k_is)
      (case q50_1 => k_is)
      (case q50_2 => k_is)
    · refine' Kn.cls_in ?q51_0 ?q51_1 ?q51_2
      (case q51_0 => k_is)
      (case q51_1 => k_is)
      (case q51_2 => k_is)
    · refine' Kn.cls_in ?q52_0 ?q52_1 ?q52_2
      (case q52_0 => k_is)
      (case q52_1 => k_is)
      (case q52_2 => k_is)
    · refine' Kn.cls_in ?q53_0 ?q53_1 ?q53_2
      (case q53_0 => k_is)
      (case q53_1 => k_is)
      (case q53_2 => k_is)
  case D =>
    intro w
    refine' Kn.def_in ?d1 ?d2 ?d3 ?d4
    (case d1 => k_is); (case d2 => k_is); (case d3 => k_is); (case d4 => k_is)
  case B => exact fun _ _ _ _ _ _ us hl => match us, hl with | [_], _ => rfl
  case F => exact fun w mg f fd Z T F base hb => Lw.fn_law T Z F
