import PyProof.Rows.All
import HandS.ForMost
import HandS.ForExc
import HandS.IsInst
import HandS.Flow
import HandS.ExcInit
import HandS.TryMany
import HandS.ExcField
import HandS.ExcIs
import HandS.ClsMeth
import HandS.Slots
import HandS.Defaults
import KE.KExcIs
import HandS.FStr
import HandS.RaiseMore
import HandS.StrMore
import HandS.Deep
import HandS.TupAny
import HandS.Codes
import HandS.Wide
import HandS.Ends
import HandS.CallLocal
import HandS.SlotsOwn
import KE.KCallOwn
import PyProof.RulesMatch
import HandS.Star
import KE.KUnpackStar
import HandS.Style
import HandS.Strs
import HandS.More
import HandS.SetTxt0
import HandS.SetFor
import KE.KOpsOwn
import HandS.ReplaceLit
import HandS.StrSplit
import HandS.SetBool
import HandS.Property
import KE.DatumOrd
import PyProof.Rows.CallKwBuiltin
import HandS.Dict
import HandS.TupMul
import HandS.Text
import HandS.SortKw
import KE.KDictDisplayH
import KE.SortData
import PyProof.Rows.TupDisplay
import KE.KDictZip
import KE.KDictItemsList
import HandS.IterVal
import KE.KOwnIter
import HandS.Head2
import HandS.HeadHook2
import HandS.ListItems
import HandS.WordsDict
import HandS.Finally
import HandS.DictEq
import HandS.DeepEq
import HandS.OwnEq
import KE.GoesEnum
import HandS.Conv
import HandS.Lambda
import HandS.Keys
import PyProof.CollectWalk
import PyProof.WalksMore
import PySem.Challenge.RW_keptnomore_k04_trees_read_or_refused
set_option Elab.async false
set_option linter.all false
set_option maxRecDepth 100000
set_option maxHeartbeats 4000000
namespace Kn
open PySem PySem.Spec PyProof.Rows
open L2 hiding St
abbrev SV := L2.St
inductive Dat where
  | non | bl (b : Bool) | int (i : Int) | str (x : Str)
  | lst (xs : List Dat) | tup (xs : List Dat)
  | ins (C : Addr) (fs : List (Str × Dat))
  | cls (C : Addr) | ty (n : String)
  | exc (a dd : Addr) (fs : List (Str × Dat))
  | fro (xs : List Dat)
  | slo (C : Addr) (ds : List Dat)
  | tre (C : Addr) (d1 : List (Str × Dat)) (g : Str) (es : List Dat) (d2 : List (Str × Dat))
  | key (ks : List Key)
  | dct (kvs : List (Key × Dat))
  | env (f : Addr) (vs : List V) (ds : List Dat)
theorem sql_at {K : PySem.W.Frag} {G : Hp} {a : Addr} {xs : List V} (h : G a = some (.lst xs)) : SqL K G a xs := .inl (.inl h)
/-- what a name or a place holds: nothing known, data, or a cell that its holder may still change -/
inductive Slot where
  | unk | dat (d : Dat) | own (p : Addr)
/-- a cell that may still change -/
inductive Cell where
  | lst (xs : List Slot)
  | ins (C dx : Addr) (fs : List (Str × Slot))
  | dK (kvs : List (Key × Slot))
  | dT (kvs : List (List Key × Slot))
  | exo (C : Addr) (d : Option Addr)
  | exd (fs : List (Str × Slot))
  | slt (C dx : Addr) (fs : List (Option Slot))
  | obj (o : HO)
  | tpl (xs : List Slot)
  | itr (ds : List Dat)
/-- at p an iterator over the tuple at t, at its start -/
def TuO (t p : Addr) : HO := .ext fun h => h.IsTupleIter p t 0
abbrev Own := Addr → Option Cell
def up (O : Own) (p : Addr) (c : Cell) : Own := fun b => if b = p then some c else O b
def dn (O : Own) (p : Addr) : Own := fun b => if b = p then none else O b
theorem up_at {O : Own} {p : Addr} {c : Cell} : up O p c p = some c := if_pos rfl
theorem up_ne {O : Own} {p q : Addr} {c : Cell} (h : q ≠ p) : up O p c q = O q := if_neg h
theorem dn_at {O : Own} {p : Addr} : dn O p p = none := if_pos rfl
theorem dn_ne {O : Own} {p q : Addr} (h : q ≠ p) : dn O p q = O q := if_neg h
theorem dn_up {O : Own} {p : Addr} {c : Cell} (h : O p = none) : dn (up O p c) p = O := by
  funext b
  by_cases e : b = p
  · subst e; rw [dn_at, h]
  · rw [dn_ne e, up_ne e]
theorem up_up {O : Own} {p : Addr} {c d : Cell} : up (up O p c) p d = up O p d := by
  funext b
  by_cases e : b = p
  · subst e; rw [up_at, up_at]
  · rw [up_ne e, up_ne e, up_ne e]
theorem up_self {O : Own} {p : Addr} {c : Cell} (h : O p = some c) : up O p c = O := by
  funext b
  by_cases e : b = p
  · subst e; rw [up_at, h]
  · rw [up_ne e]
theorem own_ne {O : Own} {p q : Addr} {c : Cell} (hp : O p = some c) (hq : O q = none) : p ≠ q := by
  intro e; rw [e, hq] at hp; cases hp
/-- the heap without the cells -/
def hid (O : Own) (H : Hp) : Hp := fun b => match O b with | some _ => none | none => H b
theorem hid_none {O : Own} {H : Hp} {b : Addr} (h : O b = none) : hid O H b = H b := by
  show (match O b with | some _ => none | none => H b) = _
  rw [h]
theorem hid_some {O : Own} {H : Hp} {b : Addr} {c : Cell} (h : O b = some c) : hid O H b = none := by
  show (match O b with | some _ => none | none => H b) = _
  rw [h]
theorem of_hid {O : Own} {H : Hp} {b : Addr} {o : HO} (h : hid O H b = some o) : O b = none ∧ H b = some o := by
  cases e : O b with
  | none => exact ⟨rfl, (hid_none (H := H) e).symm.trans h⟩
  | some c => rw [hid_some e] at h; cases h
section
variable (K : PySem.W.Frag) (G : Hp)
mutual
inductive Rp : V → Dat → Prop
  | non : Rp .non .non
  | bl (b : Bool) : Rp (.bl b) (.bl b)
  | int (i : Int) : Rp (.int i) (.int i)
  | str (x : Str) : Rp (.str x) (.str x)
  | lst {a : Addr} {xs : List V} {ds : List Dat} : G a = some (.lst xs) → RpA xs ds → Rp (.ref a) (.lst ds)
  | fro {a : Addr} {xs : List V} {ds : List Dat} : SqL K G a xs → RpA xs ds → Rp (.ref a) (.fro ds)
  | tup {a : Addr} {xs : List V} {ds : List Dat} : SqT K G a xs → RpA xs ds → Rp (.ref a) (.tup ds)
  | ins {a C dx : Addr} {fs : List (Str × V)} {ds : List (Str × Dat)} : G a = some (.ins C dx fs) → RpF fs ds → Rp (.ref a) (.ins C ds)
  | cls (C : Addr) : Rp (.ref C) (.cls C)
  | ty (n : String) : Rp (.ty n) (.ty n)
  | exc {a dd : Addr} {fs : List (Str × V)} {ds : List (Str × Dat)} : G dd = some (.xd fs) → RpF fs ds → Rp (.ref a) (.exc a dd ds)
  | slo {a C dx : Addr} {vs : List V} {ds : List Dat} : G a = some (SlX.SlO a C dx (vs.map some)) → G dx = some (.xd []) → dx ≠ a → RpA vs ds → Rp (.ref a) (.slo C ds)
  | tre {a C dx n : Addr} {f1 f2 : List (Str × V)} {us : List V} {d1 d2 : List (Str × Dat)} {g : Str} {es : List Dat} : G a = some (.ins C dx (f1 ++ (g, .ref n) :: f2)) → G n = some (.tup (.ref a :: us)) → RpF f1 d1 → RpF f2 d2 → RpA us es → Rp (.ref a) (.tre C d1 g es d2)
  | key {a : Addr} {ks : List Key} : G a = some (.tup (ks.map kV)) → Rp (.ref a) (.key ks)
  | dct {a : Addr} {o : Obj} {kvs : List (Key × V)} {ds : List (Key × Dat)} : G a = some (.frz o (.dK kvs)) → RpK kvs ds → Rp (.ref a) (.dct ds)
  | env {f : Addr} {vs : List V} {ds : List Dat} : RpA vs ds → Rp (.ref f) (.env f vs ds)
inductive RpA : List V → List Dat → Prop
  | nil : RpA [] []
  | cons {v : V} {vs : List V} {d : Dat} {ds : List Dat} : Rp v d → RpA vs ds → RpA (v :: vs) (d :: ds)
inductive RpF : List (Str × V) → List (Str × Dat) → Prop
  | nil : RpF [] []
  | cons {f : Str} {v : V} {fs : List (Str × V)} {d : Dat} {ds : List (Str × Dat)} : Rp v d → RpF fs ds → RpF ((f, v) :: fs) ((f, d) :: ds)
inductive RpK : List (Key × V) → List (Key × Dat) → Prop
  | nil : RpK [] []
  | cons {f : Key} {v : V} {fs : List (Key × V)} {d : Dat} {ds : List (Key × Dat)} : Rp v d → RpK fs ds → RpK ((f, v) :: fs) ((f, d) :: ds)
end
def SlOk (v : V) : Slot → Prop
  | .unk => True
  | .dat d => Rp K G v d
  | .own p => v = .ref p
def FlOk (a : Str × V) (b : Str × Slot) : Prop := a.1 = b.1 ∧ SlOk K G a.2 b.2
def OpOk : Option V → Option Slot → Prop
  | some v, some s => SlOk K G v s
  | none, none => True
  | _, _ => False
def KyOk (a : Key × V) (b : Key × Slot) : Prop := a.1 = b.1 ∧ SlOk K G a.2 b.2
def KtOk (a : List Key × V) (b : List Key × Slot) : Prop := a.1 = b.1 ∧ SlOk K G a.2 b.2
def ClOk (p : Addr) (o : HO) : Cell → Prop
  | .lst ss => ∃ vs, o = .lst vs ∧ Paired (SlOk K G) vs ss
  | .ins C dx ss => ∃ fs, o = .ins C dx fs ∧ Paired (FlOk K G) fs ss
  | .dK ss => ∃ kvs, o = .dK kvs ∧ Paired (KyOk K G) kvs ss
  | .dT ss => ∃ kvs, o = .dT kvs ∧ Paired (KtOk K G) kvs ss
  | .exo C d => o = L2.exo p C d
  | .exd ss => ∃ fs, o = L2.exd p fs ∧ Paired (FlOk K G) fs ss
  | .slt C dx ss => G dx = some (.xd []) ∧ dx ≠ p ∧ ∃ vs, o = SlX.SlO p C dx vs ∧ Paired (OpOk K G) vs ss
  | .obj u => o = u
  | .tpl ss => ∃ vs, o = .tup vs ∧ Paired (SlOk K G) vs ss
  | .itr ds => ∃ t xs, o = TuO t p ∧ SqT K G t xs ∧ RpA K G xs ds
end
theorem sql_mono {K : PySem.W.Frag} {G G' : Hp} {a : Addr} {xs : List V} (e : Same G G') : SqL K G a xs → SqL K G' a xs
  | .inl (.inl h) => .inl (.inl (e a _ h))
  | .inl (.inr ⟨o, h⟩) => .inl (.inr ⟨o, e a _ h⟩)
  | .inr h => .inr h
theorem sqt_mono {K : PySem.W.Frag} {G G' : Hp} {a : Addr} {xs : List V} (e : Same G G') : SqT K G a xs → SqT K G' a xs
  | .inl (.inl h) => .inl (.inl (e a _ h))
  | .inl (.inr ⟨o, h⟩) => .inl (.inr ⟨o, e a _ h⟩)
  | .inr h => .inr h
section
variable {K : PySem.W.Frag} {G G' : Hp}
mutual
theorem Rp.mono (e : Same G G') {v : V} : ∀ {d : Dat}, Rp K G v d → Rp K G' v d
  | .non, h => by cases h; exact .non
  | .bl b, h => by cases h; exact .bl b
  | .int i, h => by cases h; exact .int i
  | .str x, h => by cases h; exact .str x
  | .lst ds, h => by
    cases h with
    | lst h1 h2 => exact .lst (e _ _ h1) (RpA.mono e h2)
  | .tup ds, h => by
    cases h with
    | tup h1 h2 => exact .tup (sqt_mono e h1) (RpA.mono e h2)
  | .ins C fs, h => by
    cases h with
    | ins h1 h2 => exact .ins (e _ _ h1) (RpF.mono e h2)
  | .cls C, h => by cases h; exact .cls C
  | .ty n, h => by cases h; exact .ty n
  | .exc a dd fs, h => by
    cases h with
    | exc h1 h2 => exact .exc (e _ _ h1) (RpF.mono e h2)
  | .fro ds, h => by
    cases h with
    | fro h1 h2 => exact .fro (sql_mono e h1) (RpA.mono e h2)
  | .slo C ds, h => by
    cases h with
    | slo h1 h2 h3 h4 => exact .slo (e _ _ h1) (e _ _ h2) h3 (RpA.mono e h4)
  | .tre C d1 g es d2, h => by
    cases h with
    | tre h1 h2 h3 h4 h5 => exact .tre (e _ _ h1) (e _ _ h2) (RpF.mono e h3) (RpF.mono e h4) (RpA.mono e h5)
  | .key ks, h => by
    cases h with
    | key h1 => exact .key (e _ _ h1)
  | .dct ds, h => by
    cases h with
    | dct h1 h2 => exact .dct (e _ _ h1) (RpK.mono e h2)
  | .env f vs ds, h => by
    cases h with
    | env h1 => exact .env (RpA.mono e h1)
theorem RpA.mono (e : Same G G') : ∀ {vs : List V} {ds : List Dat}, RpA K G vs ds → RpA K G' vs ds
  | _, [], h => by cases h; exact .nil
  | _, d :: ds, h => by
    cases h with
    | cons h1 h2 => exact .cons (Rp.mono e h1) (RpA.mono e h2)
theorem RpF.mono (e : Same G G') : ∀ {vs : List (Str × V)} {ds : List (Str × Dat)}, RpF K G vs ds → RpF K G' vs ds
  | _, [], h => by cases h; exact .nil
  | _, (f, d) :: ds, h => by
    cases h with
    | cons h1 h2 => exact .cons (Rp.mono e h1) (RpF.mono e h2)
theorem RpK.mono (e : Same G G') : ∀ {vs : List (Key × V)} {ds : List (Key × Dat)}, RpK K G vs ds → RpK K G' vs ds
  | _, [], h => by cases h; exact .nil
  | _, (f, d) :: ds, h => by
    cases h with
    | cons h1 h2 => exact .cons (Rp.mono e h1) (RpK.mono e h2)
end
theorem SlOk.mono (e : Same G G') {v : V} {s : Slot} (h : SlOk K G v s) : SlOk K G' v s := by
  cases s with
  | unk => trivial
  | dat d => exact Rp.mono e h
  | own p => exact h
theorem pmap {α β : Type} {F F' : α → β → Prop} (e : ∀ a b, F a b → F' a b) : ∀ {xs : List α} {ys : List β}, Paired F xs ys → Paired F' xs ys
  | _, _, .nil => .nil
  | _, _, .cons h t => .cons (e _ _ h) (pmap e t)
theorem OpOk.mono (e : Same G G') {v : Option V} {s : Option Slot} (h : OpOk K G v s) : OpOk K G' v s := by
  cases v with
  | none => cases s with
    | none => trivial
    | some s => exact h.elim
  | some v => cases s with
    | none => exact h.elim
    | some s => exact SlOk.mono e (v := v) h
theorem ClOk.mono (e : Same G G') {p : Addr} {o : HO} {c : Cell} (h : ClOk K G p o c) : ClOk K G' p o c := by
  cases c with
  | lst ss =>
    obtain ⟨vs, h1, h2⟩ := h
    exact ⟨vs, h1, pmap (fun _ _ q => SlOk.mono e q) h2⟩
  | ins C dx ss =>
    obtain ⟨vs, h1, h2⟩ := h
    exact ⟨vs, h1, pmap (fun _ _ q => ⟨q.1, SlOk.mono e q.2⟩) h2⟩
  | dK ss =>
    obtain ⟨vs, h1, h2⟩ := h
    exact ⟨vs, h1, pmap (fun _ _ q => ⟨q.1, SlOk.mono e q.2⟩) h2⟩
  | dT ss =>
    obtain ⟨vs, h1, h2⟩ := h
    exact ⟨vs, h1, pmap (fun _ _ q => ⟨q.1, SlOk.mono e q.2⟩) h2⟩
  | exo C d => exact h
  | obj u => exact h
  | tpl ss =>
    obtain ⟨vs, h1, h2⟩ := h
    exact ⟨vs, h1, pmap (fun _ _ q => SlOk.mono e q) h2⟩
  | itr ds =>
    obtain ⟨t, xs, h1, h2, h3⟩ := h
    exact ⟨t, xs, h1, sqt_mono e h2, RpA.mono e h3⟩
  | exd ss =>
    obtain ⟨vs, h1, h2⟩ := h
    exact ⟨vs, h1, pmap (fun _ _ q => ⟨q.1, SlOk.mono e q.2⟩) h2⟩
  | slt C dx ss =>
    obtain ⟨h1, h2, vs, h3, h4⟩ := h
    exact ⟨e _ _ h1, h2, vs, h3, pmap (fun _ _ q => OpOk.mono e q) h4⟩
theorem RpA.length {vs : List V} {ds : List Dat} : RpA K G vs ds → vs.length = ds.length
  | .nil => rfl
  | .cons _ t => by rw [List.length_cons, List.length_cons, RpA.length t]
theorem RpA.get : ∀ {vs : List V} {ds : List Dat} {i : Nat} {d : Dat}, RpA K G vs ds → ds[i]? = some d → ∃ v, vs[i]? = some v ∧ Rp K G v d
  | _, _, _, _, .nil, e => by cases e
  | _, _, 0, _, .cons r _, e => by cases e; exact ⟨_, rfl, r⟩
  | _, _, i + 1, d, .cons _ t, e => RpA.get (i := i) t e
theorem RpA.snoc {v : V} {d : Dat} (r : Rp K G v d) : ∀ {vs : List V} {ds : List Dat}, RpA K G vs ds → RpA K G (vs ++ [v]) (ds ++ [d])
  | _, _, .nil => .cons r .nil
  | _, _, .cons h t => .cons h (RpA.snoc r t)
theorem RpA.append : ∀ {vs ws : List V} {ds es : List Dat}, RpA K G vs ds → RpA K G ws es → RpA K G (vs ++ ws) (ds ++ es)
  | _, _, _, _, .nil, h => h
  | _, _, _, _, .cons h t, q => .cons h (RpA.append t q)
theorem RpA.paired : ∀ {vs : List V} {ds : List Dat}, RpA K G vs ds → Paired (SlOk K G) vs (ds.map .dat)
  | _, _, .nil => .nil
  | _, _, .cons h t => .cons h (RpA.paired t)
theorem RpA.of_paired : ∀ {vs : List V} {ds : List Dat}, Paired (SlOk K G) vs (ds.map .dat) → RpA K G vs ds
  | _, [], h => by cases h; exact .nil
  | _, d :: ds, h => by
    cases h with
    | cons h t => exact .cons h (RpA.of_paired t)
theorem RpF.of_paired : ∀ {vs : List (Str × V)} {ds : List (Str × Dat)}, Paired (FlOk K G) vs (ds.map fun p => (p.1, .dat p.2)) → RpF K G vs ds
  | _, [], h => by cases h; exact .nil
  | _, (f, d) :: ds, h => by
    cases h with
    | cons h t =>
      rename_i a _
      obtain ⟨f', v⟩ := a
      obtain ⟨e, r⟩ := h
      cases e
      exact .cons r (RpF.of_paired t)
theorem RpF.lookup {f : Str} {d : Dat} : ∀ {vs : List (Str × V)} {ds : List (Str × Dat)}, RpF K G vs ds → ds.lookup f = some d → ∃ v, vs.lookup f = some v ∧ Rp K G v d
  | _, _, .nil, e => by cases e
  | _, _, .cons (f := g) h t, e => by
    rw [List.lookup_cons] at e ⊢
    split at e
    · rename_i q
      cases e
      exact ⟨_, rfl, h⟩
    · exact RpF.lookup t e
theorem paired_len {α β : Type} {F : α → β → Prop} : ∀ {xs : List α} {ys : List β}, Paired F xs ys → xs.length = ys.length
  | _, _, .nil => rfl
  | _, _, .cons _ t => by rw [List.length_cons, List.length_cons, paired_len t]
theorem paired_get {α β : Type} {F : α → β → Prop} : ∀ {xs : List α} {ys : List β} {i : Nat} {y : β}, Paired F xs ys → ys[i]? = some y → ∃ x, xs[i]? = some x ∧ F x y
  | _, _, _, _, .nil, e => by cases e
  | _, _, 0, _, .cons r _, e => by cases e; exact ⟨_, rfl, r⟩
  | _, _, i + 1, d, .cons _ t, e => paired_get (i := i) t e
theorem paired_set {α β : Type} {F : α → β → Prop} {x : α} {y : β} (r : F x y) : ∀ {xs : List α} {ys : List β} (i : Nat), Paired F xs ys → Paired F (xs.set i x) (ys.set i y)
  | _, _, _, .nil => .nil
  | _, _, 0, .cons _ t => .cons r t
  | _, _, i + 1, .cons h t => .cons h (paired_set r i t)
theorem paired_app {α β : Type} {F : α → β → Prop} : ∀ {xs xs' : List α} {ys ys' : List β}, Paired F xs ys → Paired F xs' ys' → Paired F (xs ++ xs') (ys ++ ys')
  | _, _, _, _, .nil, h => h
  | _, _, _, _, .cons h t, q => .cons h (paired_app t q)
end
structure OwnOk (K : PySem.W.Frag) (O : Own) (H : Hp) : Prop where
  cell : ∀ p c, O p = some c → ∃ o, H p = some o ∧ ClOk K (hid O H) p o c
def EnvOk (K : PySem.W.Frag) (G : Hp) (x : Option V) : Slot → Prop
  | .unk => True
  | .dat d => ∃ v, x = some v ∧ Rp K G v d
  | .own p => x = some (.ref p)
structure StOk (K : PySem.W.Frag) (H0 : Hp) (O : Own) (σ : SV) (ρ : List Slot) (H : Hp) : Prop where
  own : OwnOk K O H
  base : Same H0 (hid O H)
  env : Paired (EnvOk K (hid O H)) σ ρ
theorem EnvOk.mono {K : PySem.W.Frag} {G G' : Hp} (e : Same G G') {x : Option V} {s : Slot} (h : EnvOk K G x s) : EnvOk K G' x s := by
  cases s with
  | unk => trivial
  | dat d =>
    obtain ⟨v, q, r⟩ := h
    exact ⟨v, q, Rp.mono e r⟩
  | own p => exact h
section
variable {K : PySem.W.Frag} {H0 H1 H H' : Hp} {O O' : Own} {σ : SV} {ρ : List Slot}
theorem StOk.rebase (h : StOk K H0 O σ ρ H) (e : Same H1 H0) : StOk K H1 O σ ρ H := ⟨h.own, e.trans h.base, h.env⟩
/-- the greatest base -/
theorem StOk.top (h : StOk K H0 O σ ρ H) : StOk K (hid O H) O σ ρ H := ⟨h.own, Same.refl _, h.env⟩
theorem hid_same (e : Same H H') : Same (hid O H) (hid O H') := fun b o h => by
  obtain ⟨h1, h2⟩ := of_hid h
  rw [hid_none h1]
  exact e b o h2
/-- all that was tracked stays -/
theorem StOk.grow (h : StOk K H0 O σ ρ H) (e : Same H H') : StOk K H0 O σ ρ H' := by
  have g : Same (hid O H) (hid O H') := hid_same e
  refine ⟨⟨fun p c hp => ?_⟩, h.base.trans g, pmap (fun _ _ q => EnvOk.mono g q) h.env⟩
  obtain ⟨o, h1, h2⟩ := h.own.cell p c hp
  exact ⟨o, e p o h1, ClOk.mono g h2⟩
theorem StOk.len (h : StOk K H0 O σ ρ H) : σ.length = ρ.length := paired_len h.env
theorem StOk.set {i : Nat} {v : V} {s : Slot} (h : StOk K H0 O σ ρ H) (r : SlOk K (hid O H) v s) : StOk K H0 O (σ.set i (some v)) (ρ.set i s) H := by
  refine ⟨h.own, h.base, paired_set ?_ i h.env⟩
  cases s with
  | unk => trivial
  | dat d => exact ⟨v, rfl, r⟩
  | own p => exact congrArg some r
theorem own_free (h : OwnOk K O H) {p : Addr} (hp : H p = none) : O p = none := by
  cases e : O p with
  | none => rfl
  | some c =>
    obtain ⟨o, h1, _⟩ := h.cell p c e
    rw [hp] at h1; cases h1
/-- a new object, a cell from now on -/
theorem StOk.alloc {p : Addr} {o : HO} {c : Cell} (h : StOk K H0 O σ ρ H) (hp : H p = none) (r : ClOk K (hid O H) p o c) : StOk K H0 (up O p c) σ ρ (upd H p o) := by
  have hO : O p = none := own_free h.own hp
  have g : Same (hid O H) (hid (up O p c) (upd H p o)) := fun b u q => by
    obtain ⟨h1, h2⟩ := of_hid q
    have nb : b ≠ p := ne_of_none h2 hp
    rw [hid_none (by rw [up_ne nb]; exact h1), upd_ne nb]
    exact h2
  refine ⟨⟨fun q d hq => ?_⟩, h.base.trans g, pmap (fun _ _ z => EnvOk.mono g z) h.env⟩
  by_cases e : q = p
  · subst e
    rw [up_at] at hq; cases hq
    exact ⟨o, upd_same, ClOk.mono g r⟩
  · rw [up_ne e] at hq
    obtain ⟨u, h1, h2⟩ := h.own.cell q d hq
    exact ⟨u, by rw [upd_ne e]; exact h1, ClOk.mono g h2⟩
theorem same_new {p : Addr} {o : HO} (h : H p = none) : Same H (upd H p o) := fun b u e => by
  rw [upd_ne (ne_of_none e h)]
  exact e
/-- a cell is written -/
theorem StOk.write {p : Addr} {o : HO} {c c0 : Cell} (h : StOk K H0 O σ ρ H) (hp : O p = some c0) (r : ClOk K (hid O H) p o c) : StOk K H0 (up O p c) σ ρ (upd H p o) := by
  have g : Same (hid O H) (hid (up O p c) (upd H p o)) := fun b u q => by
    obtain ⟨h1, h2⟩ := of_hid q
    have nb : b ≠ p := fun z => by rw [z, hp] at h1; cases h1
    rw [hid_none (by rw [up_ne nb]; exact h1), upd_ne nb]
    exact h2
  refine ⟨⟨fun q d hq => ?_⟩, h.base.trans g, pmap (fun _ _ z => EnvOk.mono g z) h.env⟩
  by_cases e : q = p
  · subst e
    rw [up_at] at hq; cases hq
    exact ⟨o, upd_same, ClOk.mono g r⟩
  · rw [up_ne e] at hq
    obtain ⟨u, h1, h2⟩ := h.own.cell q d hq
    exact ⟨u, by rw [upd_ne e]; exact h1, ClOk.mono g h2⟩
theorem hid_write {p : Addr} {o : HO} {c c0 : Cell} (hp : O p = some c0) : Same (hid O H) (hid (up O p c) (upd H p o)) := fun b u q => by
  obtain ⟨h1, h2⟩ := of_hid q
  have nb : b ≠ p := fun z => by rw [z, hp] at h1; cases h1
  rw [hid_none (by rw [up_ne nb]; exact h1), upd_ne nb]
  exact h2
/-- a cell becomes data -/
theorem hid_dn {p : Addr} : Same (hid O H) (hid (dn O p) H) := fun b o h => by
  obtain ⟨h1, h2⟩ := of_hid h
  by_cases e : b = p
  · subst e
    rw [hid_none dn_at]; exact h2
  · rw [hid_none (by rw [dn_ne e]; exact h1)]; exact h2
theorem OwnOk.freeze {p : Addr} (h : OwnOk K O H) : OwnOk K (dn O p) H := ⟨fun q c hq => by
  by_cases e : q = p
  · subst e; rw [dn_at] at hq; cases hq
  · rw [dn_ne e] at hq
    obtain ⟨o, h1, h2⟩ := h.cell q c hq
    exact ⟨o, h1, ClOk.mono hid_dn h2⟩⟩
theorem StOk.freeze {p : Addr} (h : StOk K H0 O σ ρ H) : StOk K H0 (dn O p) σ ρ H :=
  ⟨h.own.freeze, h.base.trans hid_dn, pmap (fun _ _ q => EnvOk.mono hid_dn q) h.env⟩
/-- the list cell as data -/
theorem OwnOk.lst {p : Addr} {ds : List Dat} (h : OwnOk K O H) (hp : O p = some (.lst (ds.map .dat))) : Rp K (hid (dn O p) H) (.ref p) (.lst ds) := by
  obtain ⟨o, h1, xs, rfl, h2⟩ := h.cell p _ hp
  exact .lst (by rw [hid_none dn_at]; exact h1) (RpA.of_paired (pmap (fun _ _ q => SlOk.mono hid_dn q) h2))
theorem OwnOk.ins {p C dx : Addr} {ds : List (Str × Dat)} (h : OwnOk K O H) (hp : O p = some (.ins C dx (ds.map fun q => (q.1, .dat q.2)))) : Rp K (hid (dn O p) H) (.ref p) (.ins C ds) := by
  obtain ⟨o, h1, fs, rfl, h2⟩ := h.cell p _ hp
  exact .ins (by rw [hid_none dn_at]; exact h1) (RpF.of_paired (pmap (fun _ _ q => ⟨q.1, SlOk.mono hid_dn q.2⟩) h2))
end
inductive Exn where
  | own (C : Addr) (fs : List (Str × Dat))
  | ty (n : String)
abbrev ExK := Exn → List Slot → Own → Prop
def noX : ExK := fun _ _ _ => False
def ExOk (K : PySem.W.Frag) (O : Own) (H : Hp) (cls : Value) (d : Option Addr) : Exn → Prop
  | .own C fs => cls = .ref C ∧ ∃ (dx : Addr) (fv : List (Str × V)), d = some dx ∧ O dx = none ∧ H dx = some (.xd fv) ∧ RpF K (hid O H) fv fs
  | .ty n => cls = .type n
def Wsem (K : PySem.W.Frag) (H0 : Hp) (x : ExK) : WX := fun cls d σ H => ∃ e ρ O, x e ρ O ∧ StOk K H0 O σ ρ H ∧ ExOk K O H cls d e
theorem takes_base {X : Cx} {K : PySem.W.Frag} {H0 H1 : Hp} {x : ExK} (t : Takes X (Wsem K H0 x)) (e : Same H0 H1) : Takes X (Wsem K H1 x) :=
  t.imp fun _ _ _ _ ⟨a, ρ, O, h1, h2, h3⟩ => ⟨a, ρ, O, h1, h2.rebase e, h3⟩
theorem takes_no {X : Cx} {K : PySem.W.Frag} {H0 : Hp} : Takes X (Wsem K H0 noX) := takes0.imp fun _ _ _ _ ⟨_, _, _, h, _⟩ => h
theorem takes_x {X : Cx} {K : PySem.W.Frag} {H0 : Hp} {x y : ExK} (t : Takes X (Wsem K H0 x)) (h : ∀ e ρ O, y e ρ O → x e ρ O) : Takes X (Wsem K H0 y) :=
  t.imp fun _ _ _ _ ⟨a, ρ, O, h1, h2, h3⟩ => ⟨a, ρ, O, h _ _ _ h1, h2, h3⟩
/-- a wall: what is behind it is not reduced -/
structure Bx (p : Prop) : Prop where
  r : p
section
variable (X : Cx)
def We (e : Expr) : TE := fun σ H Q => Bx (∀ (pins : List (Addr × Obj)) (s : Shared), Inv X pins σ H s → wpAny (model X.prog X.w) X.A (eval e X.env) (EP X pins σ Q) X.xe s)
def Wt (e : Expr) : TT := fun σ H Q => Bx (∀ (pins : List (Addr × Obj)) (s : Shared), Inv X pins σ H s → wpAny (model X.prog X.w) X.A (isTrue e X.env (eval e X.env)) (TP X pins σ Q) X.xe s)
def Wa (es : List Expr) : TA := fun σ H Q => Bx (∀ (pos : Pos) (pins : List (Addr × Obj)) (s : Shared), Inv X pins σ H s → wpAny (model X.prog X.w) X.A (spliced (backTo pos (starEach es X.env))) (AP X pins σ Q) X.xe s)
def Ws (st : Stmt) : TS := fun D σ H => Bx (∀ (pins : List (Addr × Obj)) (s : Shared), Inv X pins σ H s → wpAny (model X.prog X.w) X.A (exec st X.env) (SP X pins D) X.xe s)
def Wss (st : List Stmt) : TS := fun D σ H => Bx (∀ (pins : List (Addr × Obj)) (s : Shared), Inv X pins σ H s → wpAny (model X.prog X.w) X.A (execs st X.env) (SP X pins D) X.xe s)
end
section
variable {X : Cx}
theorem pe_w {e : Expr} : PE X e (We X e) := ⟨fun pins s σ H Q I h => h.r pins s I⟩
theorem pt_w {e : Expr} : PT X e (Wt X e) := ⟨fun pins s σ H Q I h => h.r pins s I⟩
theorem pa_w {es : List Expr} : PA X es (Wa X es) := ⟨fun pos pins s σ H Q I h => h.r pos pins s I⟩
theorem ps_w {st : Stmt} : PS X st (Ws X st) := ⟨fun pins s σ H D I h => h.r pins s I⟩
theorem pss_w {st : List Stmt} : PSs X st (Wss X st) := ⟨fun pins s σ H D I h => h.r pins s I⟩
theorem we_of {e : Expr} {t : TE} (h : PE X e t) {σ : SV} {H : Hp} {Q : VK} (q : t σ H Q) : We X e σ H Q := ⟨fun pins s I => h.run pins s σ H Q I q⟩
theorem wt_of {e : Expr} {t : TT} (h : PT X e t) {σ : SV} {H : Hp} {Q : Bool → Hp → Prop} (q : t σ H Q) : Wt X e σ H Q := ⟨fun pins s I => h.run pins s σ H Q I q⟩
theorem wa_of {es : List Expr} {t : TA} (h : PA X es t) {σ : SV} {H : Hp} {Q : List V → Hp → Prop} (q : t σ H Q) : Wa X es σ H Q := ⟨fun pos pins s I => h.run pos pins s σ H Q I q⟩
theorem ws_of {st : Stmt} {t : TS} (h : PS X st t) {σ : SV} {H : Hp} {D : Ends} (q : t D σ H) : Ws X st D σ H := ⟨fun pins s I => h.run pins s σ H D I q⟩
theorem wss_of {st : List Stmt} {t : TS} (h : PSs X st t) {σ : SV} {H : Hp} {D : Ends} (q : t D σ H) : Wss X st D σ H := ⟨fun pins s I => h.run pins s σ H D I q⟩
end
section
variable (X : Cx)
def EW (O : Own) (ρ : List Slot) (e : Expr) (x : ExK) (k : Slot → Own → Prop) : Prop :=
  ∀ H0 σ H, StOk X.K H0 O σ ρ H → Takes X (Wsem X.K H0 x) → ∀ Q : VK, (∀ v H' s O', k s O' → StOk X.K H0 O' σ ρ H' → SlOk X.K (hid O' H') v s → Q v H') → We X e σ H Q
def AW (O : Own) (ρ : List Slot) (es : List Expr) (x : ExK) (k : List Slot → Own → Prop) : Prop :=
  ∀ H0 σ H, StOk X.K H0 O σ ρ H → Takes X (Wsem X.K H0 x) → ∀ Q : List V → Hp → Prop, (∀ vs H' ss O', k ss O' → StOk X.K H0 O' σ ρ H' → Paired (SlOk X.K (hid O' H')) vs ss → Q vs H') → Wa X es σ H Q
def TW (O : Own) (ρ : List Slot) (e : Expr) (x : ExK) (k : Bool → Own → Prop) : Prop :=
  ∀ H0 σ H, StOk X.K H0 O σ ρ H → Takes X (Wsem X.K H0 x) → ∀ Q : Bool → Hp → Prop, (∀ b H' O', k b O' → StOk X.K H0 O' σ ρ H' → Q b H') → Wt X e σ H Q
structure SD where
  nx : List Slot → Own → Prop
  rt : Slot → Own → Prop
  bk : List Slot → Own → Prop := fun _ _ => False
  ct : List Slot → Own → Prop := fun _ _ => False
structure EndsOk (K : PySem.W.Frag) (H0 : Hp) (D : SD) (E : Ends) : Prop where
  nx : ∀ σ ρ O H, D.nx ρ O → StOk K H0 O σ ρ H → E.nx σ H
  rt : ∀ v s O H, D.rt s O → OwnOk K O H → Same H0 (hid O H) → SlOk K (hid O H) v s → E.rt v H
  bk : ∀ σ ρ O H, D.bk ρ O → StOk K H0 O σ ρ H → E.bk σ H
  ct : ∀ σ ρ O H, D.ct ρ O → StOk K H0 O σ ρ H → E.ct σ H
def S1 (O : Own) (ρ : List Slot) (st : Stmt) (x : ExK) (D : SD) : Prop :=
  ∀ H0 σ H, StOk X.K H0 O σ ρ H → Takes X (Wsem X.K H0 x) → ∀ E, EndsOk X.K H0 D E → Ws X st E σ H
def SW (O : Own) (ρ : List Slot) (st : List Stmt) (x : ExK) (D : SD) : Prop :=
  ∀ H0 σ H, StOk X.K H0 O σ ρ H → Takes X (Wsem X.K H0 x) → ∀ E, EndsOk X.K H0 D E → Wss X st E σ H
end
theorem EndsOk.base {K : PySem.W.Frag} {H0 H1 : Hp} {D : SD} {E : Ends} (h : EndsOk K H0 D E) (e : Same H0 H1) : EndsOk K H1 D E :=
  ⟨fun σ ρ O H q s => h.nx σ ρ O H q (s.rebase e), fun v s O H q o b r => h.rt v s O H q o (e.trans b) r, fun σ ρ O H q s => h.bk σ ρ O H q (s.rebase e), fun σ ρ O H q s => h.ct σ ρ O H q (s.rebase e)⟩
end Kn
namespace Kn
open PySem PySem.Spec PyProof.Rows
open L2 hiding St
def Slot.known : Slot → Bool
  | .unk => false
  | _ => true
section
variable {es : List Expr} {env : Env} {p : Pos}
theorem star_const {c : Const} {j} : starEach ((.Constant c j p) :: es) env = (false, eval (.Constant c j p) env) :: starEach es env := rfl
theorem star_name {n : Str} : starEach ((.Name n p) :: es) env = (false, eval (.Name n p) env) :: starEach es env := rfl
theorem star_call {f : Expr} {as} {kw} : starEach ((.Call f as kw p) :: es) env = (false, eval (.Call f as kw p) env) :: starEach es env := rfl
theorem star_attr {o : Expr} {n} : starEach ((.Attribute o n p) :: es) env = (false, eval (.Attribute o n p) env) :: starEach es env := rfl
theorem star_sub {o i : Expr} : starEach ((.Subscript o i p) :: es) env = (false, eval (.Subscript o i p) env) :: starEach es env := rfl
theorem star_bin {a : Expr} {o} {b : Expr} : starEach ((.BinOp a o b p) :: es) env = (false, eval (.BinOp a o b p) env) :: starEach es env := rfl
theorem star_un {o} {b : Expr} : starEach ((.UnaryOp o b p) :: es) env = (false, eval (.UnaryOp o b p) env) :: starEach es env := rfl
theorem star_cmp {a : Expr} {os} {bs} : starEach ((.Compare a os bs p) :: es) env = (false, eval (.Compare a os bs p) env) :: starEach es env := rfl
theorem star_bool {o} {bs} : starEach ((.BoolOp o bs p) :: es) env = (false, eval (.BoolOp o bs p) env) :: starEach es env := rfl
theorem star_if {a b c : Expr} : starEach ((.IfExp a b c p) :: es) env = (false, eval (.IfExp a b c p) env) :: starEach es env := rfl
theorem star_list {xs} : starEach ((.List xs p) :: es) env = (false, eval (.List xs p) env) :: starEach es env := rfl
theorem star_tup {xs} {j} : starEach ((.Tuple xs j p) :: es) env = (false, eval (.Tuple xs j p) env) :: starEach es env := rfl
theorem star_comp {e : Expr} {gs} {sc} : starEach ((.ListComp e gs sc p) :: es) env = (false, eval (.ListComp e gs sc p) env) :: starEach es env := rfl
theorem star_join {xs} : starEach ((.JoinedStr xs p) :: es) env = (false, eval (.JoinedStr xs p) env) :: starEach es env := rfl
end
section
variable {X : Cx} {O : Own} {ρ : List Slot} {x : ExK} {k k' : Slot → Own → Prop} {kl kl' : List Slot → Own → Prop} {kt kt' : Bool → Own → Prop} {e a b c : Expr} {es : List Expr} {pos : Pos} {D : SD}
theorem EW.mono (h : EW X O ρ e x k) (m : ∀ s O', k s O' → k' s O') : EW X O ρ e x k' := fun H0 σ H st tk Q q =>
  h H0 σ H st tk Q fun v H' s O' ks s' r => q v H' s O' (m _ _ ks) s' r
theorem TW.mono (h : TW X O ρ e x kt) (m : ∀ s O', kt s O' → kt' s O') : TW X O ρ e x kt' := fun H0 σ H st tk Q q =>
  h H0 σ H st tk Q fun v H' O' ks s' => q v H' O' (m _ _ ks) s'
theorem AW.mono (h : AW X O ρ es x kl) (m : ∀ s O', kl s O' → kl' s O') : AW X O ρ es x kl' := fun H0 σ H st tk Q q =>
  h H0 σ H st tk Q fun v H' s O' ks s' r => q v H' s O' (m _ _ ks) s' r
theorem EW.exc {y : ExK} (h : EW X O ρ e y k) (m : ∀ e ρ O, y e ρ O → x e ρ O) : EW X O ρ e x k := fun H0 σ H st tk Q q => h H0 σ H st (takes_x tk m) Q q
theorem known_env {K : PySem.W.Frag} {G : Hp} {s : Slot} (h : s.known = true) {o : Option V} (e : EnvOk K G o s) : ∃ v, o = some v ∧ SlOk K G v s := by
  cases s with
  | unk => cases h
  | dat d => exact e
  | own p => exact ⟨_, e, rfl⟩
theorem ew_var (i : Nat) {nm : Str} {s : Slot} (h : k s O) (hρ : ρ[i]? = some s := by rfl) (hk : s.known = true := by rfl) (hN : X.N[i]? = some nm := by rfl)
    (hv : Vis X.env.scope nm := by first | exact Or.inl rfl | exact Or.inr (Or.inl rfl) | exact Or.inr (Or.inr rfl)) (hd : (nm == ("__debug__" : Str)) = false := by decide)
    (hcd : (nm == ("__classdict__" : Str)) = false := by decide) : EW X O ρ (.Name nm pos) x k := fun H0 σ H st tk Q q => by
  obtain ⟨o, h1, h2⟩ := paired_get st.env hρ
  obtain ⟨v, h3, h4⟩ := known_env hk h2
  exact we_of (pe_var (i := i) hN hv hd hcd) ⟨v, by rw [h1, h3], q v H s O h st h4⟩
theorem ew_int {i : Int} {j} (h : k (.dat (.int i)) O) : EW X O ρ (.Constant (.int i) j pos) x k := fun H0 σ H st tk Q q => we_of pe_int (q _ H _ O h st (.int i))
theorem ew_bl {i : Bool} {j} (h : k (.dat (.bl i)) O) : EW X O ρ (.Constant (.bool i) j pos) x k := fun H0 σ H st tk Q q => we_of pe_bl (q _ H _ O h st (.bl i))
theorem ew_non {j} (h : k (.dat .non) O) : EW X O ρ (.Constant .none j pos) x k := fun H0 σ H st tk Q q => we_of pe_non (q _ H _ O h st .non)
theorem ew_str {z : Str} {j} (h : k (.dat (.str z)) O) : EW X O ρ (.Constant (.str z) j pos) x k := fun H0 σ H st tk Q q => we_of pe_str (q _ H _ O h st (.str z))
/-- a module's name that holds data -/
def GlobD (K : PySem.W.Frag) (mg : Str → Option Value) (nm : Str) (d : Dat) : Prop := ∃ v u, mg nm = some u ∧ RelV v u ∧ ∀ G, Rp K G v d
theorem ew_glob {nm : Str} {d : Dat} (g : GlobD X.K X.mg nm d) (h : k (.dat d) O) (hg : Gl X nm := by rfl) (hd : (nm == ("__debug__" : Str)) = false := by decide) : EW X O ρ (.Name nm pos) x k := fun H0 σ H st tk Q q => by
  obtain ⟨v, u, hm, r, hr⟩ := g
  exact we_of (pe_glob hg hm r hd) (q v H _ O h st (hr _))
theorem aw_nil (h : kl [] O) : AW X O ρ [] x kl := fun H0 σ H st tk Q q => wa_of pa_nil (q [] H [] O h st .nil)
theorem aw_cons (h : EW X O ρ a x fun s O1 => AW X O1 ρ es x fun ss O2 => kl (s :: ss) O2) (hs : starEach (a :: es) X.env = (false, eval a X.env) :: starEach es X.env := by first | exact star_const | exact star_name | exact star_call | exact star_attr | exact star_sub | exact star_bin | exact star_un | exact star_cmp | exact star_bool | exact star_if | exact star_list | exact star_tup | exact star_comp | exact star_join | rfl) : AW X O ρ (a :: es) x kl := fun H0 σ H st tk Q q =>
  wa_of (pa_cons pe_w pa_w hs) (h H0 σ H st tk _ fun v H1 s O1 h1 st1 r1 =>
    h1 (hid O1 H1) σ H1 st1.top (takes_base tk st1.base) _ fun vs H2 ss O2 h2 st2 r2 => q (v :: vs) H2 (s :: ss) O2 h2 (st2.rebase st1.base) (.cons (SlOk.mono st2.base r1) r2))
def R1D (K : PySem.W.Frag) (r : V → Hp → VK → Prop) (s1 : Slot) (O : Own) (k : Slot → Own → Prop) : Prop :=
  ∀ H0 σ ρ H v1, StOk K H0 O σ ρ H → SlOk K (hid O H) v1 s1 → ∀ Q : VK, (∀ v H' s O', k s O' → StOk K H0 O' σ ρ H' → SlOk K (hid O' H') v s → Q v H') → r v1 H Q
def R2D (K : PySem.W.Frag) (r : R2) (s1 s2 : Slot) (O : Own) (k : Slot → Own → Prop) : Prop :=
  ∀ H0 σ ρ H v1 v2, StOk K H0 O σ ρ H → SlOk K (hid O H) v1 s1 → SlOk K (hid O H) v2 s2 → ∀ Q : VK, (∀ v H' s O', k s O' → StOk K H0 O' σ ρ H' → SlOk K (hid O' H') v s → Q v H') → r v1 v2 H Q
def RlD (K : PySem.W.Frag) (r : List V → Hp → VK → Prop) (ss : List Slot) (O : Own) (k : Slot → Own → Prop) : Prop :=
  ∀ H0 σ ρ H vs, StOk K H0 O σ ρ H → Paired (SlOk K (hid O H)) vs ss → ∀ Q : VK, (∀ v H' s O', k s O' → StOk K H0 O' σ ρ H' → SlOk K (hid O' H') v s → Q v H') → r vs H Q
def OpB (X : Cx) (f : Value → Value → Sem Value) (s1 s2 : Slot) (O : Own) (k : Slot → Own → Prop) : Prop := ∃ r, OpR X f r ∧ R2D X.K r s1 s2 O k
def OpU (X : Cx) (f : Value → Sem Value) (s1 : Slot) (O : Own) (k : Slot → Own → Prop) : Prop := ∃ r, UnR X f r ∧ R1D X.K r s1 O k
def IxB (X : Cx) (s1 s2 : Slot) (O : Own) (k : Slot → Own → Prop) : Prop := ∃ r, IxR X r ∧ R2D X.K r s1 s2 O k
def CaB (X : Cx) (f : Value) (ss : List Slot) (O : Own) (k : Slot → Own → Prop) : Prop := ∃ r, CallR X f r ∧ RlD X.K r ss O k
theorem two {P : Slot → Slot → Own → Prop} (h : EW X O ρ a x fun s1 O1 => EW X O1 ρ b x fun s2 O2 => P s1 s2 O2) {H0 : Hp} {σ : SV} {H : Hp} (st : StOk X.K H0 O σ ρ H) (tk : Takes X (Wsem X.K H0 x))
    {Q : V → V → Hp → Prop} (q : ∀ v1 v2 s1 s2 O2 H2, P s1 s2 O2 → StOk X.K H0 O2 σ ρ H2 → SlOk X.K (hid O2 H2) v1 s1 → SlOk X.K (hid O2 H2) v2 s2 → Q v1 v2 H2) :
    We X a σ H fun v1 H1 => We X b σ H1 fun v2 H2 => Q v1 v2 H2 :=
  h H0 σ H st tk _ fun v1 H1 s1 O1 h1 st1 r1 => h1 (hid O1 H1) σ H1 st1.top (takes_base tk st1.base) _ fun v2 H2 s2 O2 h2 st2 r2 =>
    q v1 v2 s1 s2 O2 H2 h2 (st2.rebase st1.base) (SlOk.mono st2.base r1) r2
theorem ew_bin {op : Operator} (h : EW X O ρ a x fun s1 O1 => EW X O1 ρ b x fun s2 O2 => OpB X (binaryOp op) s1 s2 O2 k) : EW X O ρ (.BinOp a op b pos) x k := fun H0 σ H st tk Q q => by
  refine ⟨fun pins s I => ?_⟩
  refine wpAny_BinOp (bin pe_w pe_w I (two h st tk (Q := fun v1 v2 H2 => ∃ r, OpR X (binaryOp op) r ∧ r v1 v2 H2 Q) fun v1 v2 s1 s2 O2 H2 hp st2 r1 r2 => ?_) fun v u s2 z y H2 I2 rx ry hq => ?_)
  · obtain ⟨r, ho, hr⟩ := hp
    exact ⟨r, ho, hr H0 σ ρ H2 v1 v2 st2 r1 r2 Q q⟩
  · obtain ⟨r, ho, hr⟩ := hq
    exact ho pins s2 σ H2 z y v u Q I2 rx ry hr
theorem ew_cmp {op : CmpOp} (h : EW X O ρ a x fun s1 O1 => EW X O1 ρ b x fun s2 O2 => OpB X (compareOp op) s1 s2 O2 k) (hm : behindInMarks op b = false := by first | exact nomark _ | rfl) : EW X O ρ (.Compare a [op] [b] pos) x k := fun H0 σ H st tk Q q => by
  have main : OpR X (compareOp op) (fun v1 v2 H2 Q => ∃ r, OpR X (compareOp op) r ∧ r v1 v2 H2 Q) := fun pins s σ H x y v u Q I rx ry ⟨r, ho, hr⟩ => ho pins s σ H x y v u Q I rx ry hr
  refine we_of (pe_cmpR main pe_w pe_w hm) (two h st tk (Q := fun v1 v2 H2 => ∃ r, OpR X (compareOp op) r ∧ r v1 v2 H2 Q) fun v1 v2 s1 s2 O2 H2 hp st2 r1 r2 => ?_)
  obtain ⟨r, ho, hr⟩ := hp
  exact ⟨r, ho, hr H0 σ ρ H2 v1 v2 st2 r1 r2 Q q⟩
theorem ew_un {op : UnaryOp} (h : EW X O ρ a x fun s1 O1 => OpU X (unaryOp op) s1 O1 k) : EW X O ρ (.UnaryOp op a pos) x k := fun H0 σ H st tk Q q => by
  have main : UnR X (unaryOp op) (fun v1 H2 Q => ∃ r, UnR X (unaryOp op) r ∧ r v1 H2 Q) := fun pins s σ H y v Q I rx ⟨r, ho, hr⟩ => ho pins s σ H y v Q I rx hr
  refine we_of (pe_un main pe_w) (h H0 σ H st tk _ fun v H1 s O1 hp st1 r1 => ?_)
  obtain ⟨r, ho, hr⟩ := hp
  exact ⟨r, ho, hr H0 σ ρ H1 v st1 r1 Q q⟩
theorem ew_ix (h : EW X O ρ a x fun s1 O1 => EW X O1 ρ b x fun s2 O2 => IxB X s1 s2 O2 k) (hs : PlainIx b := by intro _ _; rfl) : EW X O ρ (.Subscript a b pos) x k := fun H0 σ H st tk Q q => by
  have main : IxR X (fun v1 v2 H2 Q => ∃ r, IxR X r ∧ r v1 v2 H2 Q) := fun value slice pins s σ H z y v u Q I rx ry ⟨r, ho, hr⟩ hs => ho value slice pins s σ H z y v u Q I rx ry hr hs
  refine we_of (pe_ix main pe_w pe_w hs) (two h st tk (Q := fun v1 v2 H2 => ∃ r, IxR X r ∧ r v1 v2 H2 Q) fun v1 v2 s1 s2 O2 H2 hp st2 r1 r2 => ?_)
  obtain ⟨r, ho, hr⟩ := hp
  exact ⟨r, ho, hr H0 σ ρ H2 v1 v2 st2 r1 r2 Q q⟩
/-- a built-in function, a built-in class, called -/
theorem ew_callB {nm : Str} {id : String} {p : Pos} (hm : X.mg nm = none) (hv : bootBuiltins nm = some (.builtin id)) (h : AW X O ρ (e :: es) x fun ss O1 => CaB X (.builtin id) ss O1 k) (hg : Gl X nm := by rfl)
    (hn : nm ≠ "__name__" := by decide) (hd : (nm == ("__debug__" : Str)) = false := by decide) (hs : starEach (e :: es) X.env = (false, eval e X.env) :: starEach es X.env := by rfl) (hpl : (backTo pos (starEach es X.env)).any (·.1) = false := by rfl) :
    EW X O ρ (.Call (.Name nm p) (e :: es) [] pos) x k := fun H0 σ H st tk Q q => by
  have main : CallR X (.builtin id) (fun vs H2 Q => ∃ r, CallR X (.builtin id) r ∧ r vs H2 Q) := fun pins s σ H xs us Q I rx ⟨r, ho, hr⟩ => ho pins s σ H xs us Q I rx hr
  refine we_of (pe_callB main hg hm hv pa_w (hn := hn) (hdb := hd) (he := hs) (hpl := hpl)) (h H0 σ H st tk _ fun vs H1 ss O1 hp st1 r1 => ?_)
  obtain ⟨r, ho, hr⟩ := hp
  exact ⟨r, ho, hr H0 σ ρ H1 vs st1 r1 Q q⟩
theorem ew_callTy {nm : Str} {id : String} {p : Pos} (hm : X.mg nm = none) (hv : bootBuiltins nm = some (.type id)) (h : AW X O ρ (e :: es) x fun ss O1 => CaB X (.type id) ss O1 k) (hg : Gl X nm := by rfl)
    (hn : nm ≠ "__name__" := by decide) (hd : (nm == ("__debug__" : Str)) = false := by decide) (hs : starEach (e :: es) X.env = (false, eval e X.env) :: starEach es X.env := by rfl) (hpl : (backTo pos (starEach es X.env)).any (·.1) = false := by rfl) :
    EW X O ρ (.Call (.Name nm p) (e :: es) [] pos) x k := fun H0 σ H st tk Q q => by
  have main : CallR X (.type id) (fun vs H2 Q => ∃ r, CallR X (.type id) r ∧ r vs H2 Q) := fun pins s σ H xs us Q I rx ⟨r, ho, hr⟩ => ho pins s σ H xs us Q I rx hr
  refine we_of (pe_callTy main hg hm hv pa_w (hn := hn) (hdb := hd) (he := hs) (hpl := hpl)) (h H0 σ H st tk _ fun vs H1 ss O1 hp st1 r1 => ?_)
  obtain ⟨r, ho, hr⟩ := hp
  exact ⟨r, ho, hr H0 σ ρ H1 vs st1 r1 Q q⟩
theorem tw_val (h : EW X O ρ e x fun s O1 => ∃ t, s = .dat (.bl t) ∧ kt t O1) (he : ∀ whole, isTrue e X.env whole = (do let v ← whole; standAt e.pos; holding [v] (truthy v)) := by intro _; rfl) : TW X O ρ e x kt := fun H0 σ H st tk Q q =>
  wt_of (pt_val pe_w he) (h H0 σ H st tk _ fun v H1 s O1 ⟨t, e1, h1⟩ st1 r1 => by
    subst e1
    cases r1
    exact ⟨t, rfl, q t H1 O1 h1 st1⟩)
theorem tw_cmp {op : CmpOp} (h : EW X O ρ a x fun s1 O1 => EW X O1 ρ b x fun s2 O2 => OpB X (compareOp op) s1 s2 O2 fun s O3 => ∃ t, s = .dat (.bl t) ∧ kt t O3) (hm : behindInMarks op b = false := by first | exact nomark _ | rfl) : TW X O ρ (.Compare a [op] [b] pos) x kt := fun H0 σ H st tk Q q => by
  have main : OpR X (compareOp op) (fun v1 v2 H2 Q => ∃ r, OpR X (compareOp op) r ∧ r v1 v2 H2 Q) := fun pins s σ H x y v u Q I rx ry ⟨r, ho, hr⟩ => ho pins s σ H x y v u Q I rx ry hr
  refine wt_of (pt_cmpR main pe_w pe_w hm) (two h st tk (Q := fun v1 v2 H2 => ∃ r, OpR X (compareOp op) r ∧ r v1 v2 H2 fun z H3 => ∃ k, z = .bl k ∧ Q k H3) fun v1 v2 s1 s2 O2 H2 hp st2 r1 r2 => ?_)
  obtain ⟨r, ho, hr⟩ := hp
  exact ⟨r, ho, hr H0 σ ρ H2 v1 v2 st2 r1 r2 _ fun z H3 s O3 ⟨t, e1, h1⟩ st3 r3 => by
    subst e1
    cases r3
    exact ⟨t, rfl, q t H3 O3 h1 st3⟩⟩
theorem tw_not (h : TW X O ρ a x fun t O1 => kt (!t) O1) : TW X O ρ (.UnaryOp .Not a pos) x kt := fun H0 σ H st tk Q q =>
  wt_of (pt_not pt_w) (h H0 σ H st tk _ fun t H1 O1 h1 st1 => q (!t) H1 O1 h1 st1)
/-- and, or as tests, whatever their whole is -/
def TWw (X : Cx) (O : Own) (ρ : List Slot) (e : Expr) (x : ExK) (kt : Bool → Own → Prop) : Prop :=
  ∀ H0 σ H, StOk X.K H0 O σ ρ H → Takes X (Wsem X.K H0 x) → ∀ Q : Bool → Hp → Prop, (∀ b H' O', kt b O' → StOk X.K H0 O' σ ρ H' → Q b H') → Bx (∀ (whole : Sem Value) (pins : List (Addr × Obj)) (s : Shared), Inv X pins σ H s →
    wpAny (model X.prog X.w) X.A (isTrue e X.env whole) (TP X pins σ Q) X.xe s)
theorem tw_w (h : TWw X O ρ e x kt) : TW X O ρ e x kt := fun H0 σ H st tk Q q => ⟨fun pins s I => (h H0 σ H st tk Q q).r _ pins s I⟩
def Wp (X : Cx) (e : Expr) : TT := fun σ H Q => Bx (∀ (whole : Sem Value) (pins : List (Addr × Obj)) (s : Shared), Inv X pins σ H s → wpAny (model X.prog X.w) X.A (isTrue e X.env whole) (TP X pins σ Q) X.xe s)
theorem pw_w : PW X e (Wp X e) := ⟨fun wh pins s σ H Q I h => h.r wh pins s I⟩
theorem wp_of {t : TT} (h : PW X e t) {σ : SV} {H : Hp} {Q : Bool → Hp → Prop} (q : t σ H Q) : Wp X e σ H Q := ⟨fun wh pins s I => h.run wh pins s σ H Q I q⟩
theorem tww_and1 (h : TW X O ρ a x kt) : TWw X O ρ (.BoolOp .And [a] pos) x kt := fun H0 σ H st tk Q q => wp_of (pw_and1 pt_w) (h H0 σ H st tk Q q)
theorem tww_or1 (h : TW X O ρ a x kt) : TWw X O ρ (.BoolOp .Or [a] pos) x kt := fun H0 σ H st tk Q q => wp_of (pw_or1 pt_w) (h H0 σ H st tk Q q)
theorem tww_and (h : TW X O ρ a x fun t O1 => (t = true → TWw X O1 ρ (.BoolOp .And (b :: es) pos) x kt) ∧ (t = false → kt false O1)) : TWw X O ρ (.BoolOp .And (a :: b :: es) pos) x kt := fun H0 σ H st tk Q q =>
  wp_of (pw_and pt_w pw_w) (h H0 σ H st tk _ fun t H1 O1 h1 st1 => by
    cases t with
    | true => exact (h1.1 rfl) H0 σ H1 st1 tk Q q
    | false => exact q false H1 O1 (h1.2 rfl) st1)
theorem tww_or (h : TW X O ρ a x fun t O1 => (t = true → kt true O1) ∧ (t = false → TWw X O1 ρ (.BoolOp .Or (b :: es) pos) x kt)) : TWw X O ρ (.BoolOp .Or (a :: b :: es) pos) x kt := fun H0 σ H st tk Q q =>
  wp_of (pw_or pt_w pw_w) (h H0 σ H st tk _ fun t H1 O1 h1 st1 => by
    cases t with
    | true => exact q true H1 O1 (h1.1 rfl) st1
    | false => exact (h1.2 rfl) H0 σ H1 st1 tk Q q)
theorem ew_one {op : BoolOp} (h : EW X O ρ a x k) : EW X O ρ (.BoolOp op [a] pos) x k := fun H0 σ H st tk Q q => we_of (pe_one pe_w) (h H0 σ H st tk Q q)
theorem ew_and (h : EW X O ρ a x fun s O1 => ∃ t, s = .dat (.bl t) ∧ (t = true → EW X O1 ρ (.BoolOp .And (b :: es) pos) x k) ∧ (t = false → k (.dat (.bl false)) O1)) : EW X O ρ (.BoolOp .And (a :: b :: es) pos) x k := fun H0 σ H st tk Q q =>
  we_of (pe_and pe_w pe_w) (h H0 σ H st tk _ fun v H1 s O1 ⟨t, e1, h1, h2⟩ st1 r1 => by
    subst e1
    cases r1
    refine ⟨t, rfl, ?_⟩
    cases t with
    | true => exact iteT ((h1 rfl) H0 σ H1 st1 tk Q q)
    | false => exact iteF (q _ H1 _ O1 (h2 rfl) st1 (.bl false)))
theorem ew_or (h : EW X O ρ a x fun s O1 => ∃ t, s = .dat (.bl t) ∧ (t = true → k (.dat (.bl true)) O1) ∧ (t = false → EW X O1 ρ (.BoolOp .Or (b :: es) pos) x k)) : EW X O ρ (.BoolOp .Or (a :: b :: es) pos) x k := fun H0 σ H st tk Q q =>
  we_of (pe_or pe_w pe_w) (h H0 σ H st tk _ fun v H1 s O1 ⟨t, e1, h1, h2⟩ st1 r1 => by
    subst e1
    cases r1
    refine ⟨t, rfl, ?_⟩
    cases t with
    | true => exact iteT (q _ H1 _ O1 (h1 rfl) st1 (.bl true))
    | false => exact iteF ((h2 rfl) H0 σ H1 st1 tk Q q))
theorem ew_notv (h : EW X O ρ a x fun s O1 => ∃ t, s = .dat (.bl t) ∧ k (.dat (.bl (!t))) O1) : EW X O ρ (.UnaryOp .Not a pos) x k := fun H0 σ H st tk Q q =>
  we_of (pe_not pe_w) (h H0 σ H st tk _ fun v H1 s O1 ⟨t, e1, h1⟩ st1 r1 => by
    subst e1
    cases r1
    exact ⟨t, rfl, q _ H1 _ O1 h1 st1 (.bl _)⟩)
theorem ew_if (h : TW X O ρ c x fun t O1 => (t = true → EW X O1 ρ a x k) ∧ (t = false → EW X O1 ρ b x k)) : EW X O ρ (.IfExp c a b pos) x k := fun H0 σ H st tk Q q =>
  we_of (pe_ifExp pt_w pe_w pe_w) (h H0 σ H st tk _ fun t H1 O1 h1 st1 => by
    cases t with
    | true => exact iteT ((h1.1 rfl) H0 σ H1 st1 tk Q q)
    | false => exact iteF ((h1.2 rfl) H0 σ H1 st1 tk Q q))
variable {st0 : Stmt} {sts body orelse : List Stmt}
theorem sw_nil (h : D.nx ρ O) : SW X O ρ [] x D := fun H0 σ H st tk E ok => wss_of pss_nil (ok.nx σ ρ O H h st)
theorem sw_cons (h : S1 X O ρ st0 x { D with nx := fun ρ' O' => SW X O' ρ' sts x D }) : SW X O ρ (st0 :: sts) x D := fun H0 σ H st tk E ok =>
  wss_of (pss_cons ps_w pss_w) (h H0 σ H st tk _ ⟨fun σ' ρ' O' H' q s => q H0 σ' H' s tk E ok, ok.rt, ok.bk, ok.ct⟩)
theorem sw_one (h : S1 X O ρ st0 x D) : SW X O ρ [st0] x D := fun H0 σ H st tk E ok => wss_of (pss_one ps_w) (h H0 σ H st tk E ok)
theorem s1_expr (h : EW X O ρ e x fun _ O' => D.nx ρ O') (hs : swapsWith e none pos.line X.env = pure false := by rfl) : S1 X O ρ (.Expr e pos) x D := fun H0 σ H st tk E ok => ws_of (ps_expr pe_w hs) (h H0 σ H st tk _ fun v H' s O' q st' r => ok.nx σ ρ O' H' q st')
theorem s1_ret (h : EW X O ρ e x D.rt) : S1 X O ρ (.Return (some e) pos) x D := fun H0 σ H st tk E ok => ws_of (ps_ret pe_w) (h H0 σ H st tk _ fun v H' s O' q st' r => ok.rt v s O' H' q st'.own st'.base r)
theorem s1_retN (h : D.rt (.dat .non) O) : S1 X O ρ (.Return none pos) x D := fun H0 σ H st tk E ok => ws_of ps_retN (ok.rt .non _ O H h st.own st.base .non)
theorem s1_if (h : TW X O ρ c x fun t O1 => (t = true → SW X O1 ρ body x D) ∧ (t = false → SW X O1 ρ orelse x D)) : S1 X O ρ (.If c body orelse pos) x D := fun H0 σ H st tk E ok =>
  ws_of (ps_if pt_w pss_w pss_w) (h H0 σ H st tk _ fun t H1 O1 h1 st1 => by
    cases t with
    | true => exact iteT ((h1.1 rfl) H0 σ H1 st1 tk E ok)
    | false => exact iteF ((h1.2 rfl) H0 σ H1 st1 tk E ok))
theorem s1_set (i : Nat) {nm : Str} {p : Pos} (h : EW X O ρ e x fun s O' => D.nx (ρ.set i s) O') (hN : X.N.Nodup) (hi : X.N[i]? = some nm := by rfl) (hx : Loc X.env.scope nm := by first | exact .inl rfl | exact .inr rfl)
    (hs : swapsWith e (some (.Name nm p)) pos.line X.env = pure false := by rfl) (hf : X.fn nm = true ∨ X.env.scope.names.lookup nm = some .local := by first | exact .inl rfl | exact .inr rfl | assumption) :
    S1 X O ρ (.Assign [.Name nm p] e pos) x D := fun H0 σ H st tk E ok =>
  ws_of (ps_set hN hi hx pe_w hs hf) (h H0 σ H st tk _ fun v H' s O' q st' r => ok.nx _ _ O' H' q (st'.set r))
def Wg (X : Cx) (tg : Expr) : TG := fun v σ H Q => Bx (∀ (pins : List (Addr × Obj)) (s : Shared) (u : Value), Inv X pins σ H s → RelV v u → wpAny (model X.prog X.w) X.A (assign tg X.env u) (fun _ s' => ∃ σ' H', Inv X pins σ' H' s' ∧ Q σ' H') X.xe s)
theorem pg_w {tg : Expr} : PG X tg (Wg X tg) := ⟨fun pins s σ H v u Q I r h => h.r pins s u I r⟩
theorem wg_of {tg : Expr} {t : TG} (h : PG X tg t) {v : V} {σ : SV} {H : Hp} {Q : SV → Hp → Prop} (q : t v σ H Q) : Wg X tg v σ H Q := ⟨fun pins s u I r => h.run pins s σ H v u Q I r q⟩
def GW (X : Cx) (O : Own) (ρ : List Slot) (tg : Expr) (s : Slot) (x : ExK) (k : List Slot → Own → Prop) : Prop :=
  ∀ H0 σ H v, StOk X.K H0 O σ ρ H → SlOk X.K (hid O H) v s → Takes X (Wsem X.K H0 x) → ∀ Q : SV → Hp → Prop, (∀ σ' H' ρ' O', k ρ' O' → StOk X.K H0 O' σ' ρ' H' → Q σ' H') → Wg X tg v σ H Q
theorem gw_name (i : Nat) {nm : Str} {s : Slot} (h : kl (ρ.set i s) O) (hN : X.N.Nodup) (hi : X.N[i]? = some nm := by rfl) (hx : Loc X.env.scope nm := by first | exact .inl rfl | exact .inr rfl)
    (hf : X.fn nm = true ∨ X.env.scope.names.lookup nm = some .local := by first | exact .inl rfl | exact .inr rfl | assumption) : GW X O ρ (.Name nm pos) s x kl := fun H0 σ H v st r tk Q q =>
  wg_of (pg_name hN hi hx hf) (q _ H _ O h (st.set r))
/-- several targets -/
def GsW (X : Cx) (O : Own) (ρ : List Slot) (tgs : List Expr) (ss : List Slot) (x : ExK) (k : List Slot → Own → Prop) : Prop :=
  ∀ H0 σ H vs, StOk X.K H0 O σ ρ H → Paired (SlOk X.K (hid O H)) vs ss → Takes X (Wsem X.K H0 x) → ∀ Q : SV → Hp → Prop, (∀ σ' H' ρ' O', k ρ' O' → StOk X.K H0 O' σ' ρ' H' → Q σ' H') →
    Bx (∀ (pins : List (Addr × Obj)) (s : Shared) (us : List Value), Inv X pins σ H s → Vals vs us → wpAny (model X.prog X.w) X.A (assignInOrder ((assignEach tgs X.env).map (·.2)) us) (fun _ s' => ∃ σ' H', Inv X pins σ' H' s' ∧ Q σ' H') X.xe s)
def Wgs (X : Cx) (tgs : List Expr) : TGs := fun vs σ H Q => Bx (∀ (pins : List (Addr × Obj)) (s : Shared) (us : List Value), Inv X pins σ H s → Vals vs us → wpAny (model X.prog X.w) X.A (assignInOrder ((assignEach tgs X.env).map (·.2)) us) (fun _ s' => ∃ σ' H', Inv X pins σ' H' s' ∧ Q σ' H') X.xe s)
theorem pgs_w {tgs : List Expr} : PGs X tgs (Wgs X tgs) := ⟨fun pins s σ H vs us Q I r h => h.r pins s us I r⟩
theorem gsw_nil (h : kl ρ O) : GsW X O ρ [] [] x kl := fun H0 σ H vs st r tk Q q => ⟨fun pins s us I rv => by
  cases r
  exact pgs_nil.run pins s σ H [] us Q I rv ⟨rfl, q σ H ρ O h st⟩⟩
theorem gsw_cons {tg : Expr} {tgs : List Expr} {s : Slot} {ss : List Slot} (h : GW X O ρ tg s x fun ρ1 O1 => GsW X O1 ρ1 tgs ss x kl) (hs : (assignEach (tg :: tgs) X.env).map (·.2) = assign tg X.env :: (assignEach tgs X.env).map (·.2) := by rfl) : GsW X O ρ (tg :: tgs) (s :: ss) x kl := fun H0 σ H vs st r tk Q q => ⟨fun pins sh us I rv => by
  cases r with
  | cons r1 r2 =>
    refine (pgs_cons pg_w pgs_w hs).run pins sh σ H _ us Q I rv ⟨_, _, rfl, h (hid O H) σ H _ st.top r1 (takes_base tk st.base) _ fun σ1 H1 ρ1 O1 h1 st1 => ?_⟩
    exact h1 H0 σ1 H1 _ (st1.rebase st.base) (pmap (fun _ _ z => SlOk.mono st1.base z) r2) tk Q q⟩
theorem gw_tup {tgs : List Expr} {kk : Nat} {ds : List Dat} (h : GsW X O ρ tgs (ds.map .dat) x kl) (hc : X.calm = true := by rfl) (hn : (assignEach tgs X.env).length = ds.length := by rfl) (hst : (assignEach tgs X.env).findIdx? (·.1) = none := by rfl) :
    GW X O ρ (.Tuple tgs kk pos) (.dat (.tup ds)) x kl := fun H0 σ H v st r tk Q q => by
  cases r with
  | tup h1 h2 =>
    refine wg_of (pg_tup hc pgs_w hn hst) ⟨_, _, rfl, sqt_mono (fun b o hb => (of_hid hb).2) h1, RpA.length h2, ?_⟩
    exact h H0 σ H _ st h2.paired tk Q q
theorem s1_asg {tg : Expr} (h : EW X O ρ e x fun s O' => GW X O' ρ tg s x D.nx) (hs : swapsWithSole [tg] e pos.line X.env = pure false := by rfl) (hw : swappedStores [tg] e X.env = pure none := by rfl)
    (h1 : (assignEach [tg] X.env).map (·.2) = [assign tg X.env] := by rfl) : S1 X O ρ (.Assign [tg] e pos) x D := fun H0 σ H st tk E ok =>
  ws_of (ps_asg pe_w pg_w hs hw h1) (h H0 σ H st tk _ fun v H' s O' q st' r => q H0 σ H' v st' r tk _ fun σ' H'' ρ' O'' q2 st2 => ok.nx σ' ρ' O'' H'' q2 st2)
/-- a, b = c, d with plain local names -/
theorem s1_par (i j : Nat) {nx ny : Str} {px py pt : Pos} {kt1 k2 pt2} (h : AW X O ρ [a, b] x fun ss O' => ∃ s1 s2, ss = [s1, s2] ∧ D.nx ((ρ.set i s1).set j s2) O') (hN : X.N.Nodup) (hc : X.calm = true := by rfl) (hi : X.N[i]? = some nx := by rfl) (hj : X.N[j]? = some ny := by rfl) (hij : i ≠ j := by decide)
    (hx : X.env.scope.names.lookup nx = some .local := by rfl) (hy : X.env.scope.names.lookup ny = some .local := by rfl)
    (hw : swappedStores [.Tuple [.Name nx px, .Name ny py] kt1 pt] (.Tuple [a, b] k2 pt2) X.env = pure (some [nx, ny]) := by rfl)
    (hs : swapsWithSole [.Tuple [.Name nx px, .Name ny py] kt1 pt] (.Tuple [a, b] k2 pt2) pos.line X.env = pure false := by rfl) :
    S1 X O ρ (.Assign [.Tuple [.Name nx px, .Name ny py] kt1 pt] (.Tuple [a, b] k2 pt2) pos) x D := fun H0 σ H st tk E ok =>
  ws_of (ps_par hc hN hi hj hij hx hy pa_w hw hs) (h H0 σ H st tk _ fun vs H' ss O' ⟨s1, s2, e1, q⟩ st' r => by
    subst e1
    cases r with
    | cons r1 r =>
      cases r with
      | cons r2 r =>
        cases r
        exact ⟨_, _, rfl, ok.nx _ _ O' H' q ((st'.set r1).set r2)⟩)
end
end Kn
namespace Kn
open PySem PySem.Spec PyProof.Rows
open L2 hiding St
def ItD (K : PySem.W.Frag) (G : Hp) (J : It) (ds : List Dat) : Prop := ∀ O H, OwnOk K O H → Same G (hid O H) → ∀ i,
  (∀ d, ds[i]? = some d → J.go i H ∧ ∀ v H', J.yld i H v H' → Same H H' ∧ Rp K (hid O H') v d) ∧ (ds[i]? = none → J.stop i H)
def Wi (X : Cx) (tg iter : Expr) : TI := fun σ H R => Bx (∀ (pins : List (Addr × Obj)) (s : Shared), Inv X pins σ H s →
  wpAny (model X.prog X.w) X.A (eval iter X.env) (fun v s1 => wpAny (model X.prog X.w) X.A (pyIter v) (PIE X pins σ tg R) X.xe s1) X.xe s)
def IW (X : Cx) (O : Own) (ρ : List Slot) (tg iter : Expr) (x : ExK) (k : List Dat → Own → Prop) : Prop :=
  ∀ H0 σ H, StOk X.K H0 O σ ρ H → Takes X (Wsem X.K H0 x) → ∀ R : It → Hp → Prop, (∀ J H' ds O', k ds O' → StOk X.K H0 O' σ ρ H' → ItD X.K (hid O' H') J ds → R J H') → Wi X tg iter σ H R
theorem hid_le {O : Own} {H : Hp} : Same (hid O H) H := fun b o h => (of_hid h).2
theorem itd_list {K : PySem.W.Frag} {G : Hp} {a : Addr} {xs : List V} {ds : List Dat} (h : SqL K G a xs) (r : RpA K G xs ds) : ItD K G (Itl K a) ds := fun O H ok sm i => by
  have hS : SqL K H a xs := sql_mono (sm.trans hid_le) h
  refine ⟨fun d hd => ?_, fun hn => ⟨xs, hS, by rw [r.length]; exact List.getElem?_eq_none_iff.mp hn⟩⟩
  obtain ⟨v, h1, h2⟩ := r.get hd
  refine ⟨⟨xs, v, hS, h1⟩, fun v' H' hy => ?_⟩
  obtain ⟨rfl, hv⟩ := hy
  refine ⟨Same.refl _, ?_⟩
  have e : v = v' := Option.some.inj (h1.symm.trans (hv xs hS))
  rw [← e]
  exact Rp.mono sm h2
theorem itd_tup {K : PySem.W.Frag} {G : Hp} {a : Addr} {xs : List V} {ds : List Dat} (h : SqT K G a xs) (r : RpA K G xs ds) : ItD K G (Itt K a) ds := fun O H ok sm i => by
  have hS : SqT K H a xs := sqt_mono (sm.trans hid_le) h
  refine ⟨fun d hd => ?_, fun hn => ⟨xs, hS, by rw [r.length]; exact List.getElem?_eq_none_iff.mp hn⟩⟩
  obtain ⟨v, h1, h2⟩ := r.get hd
  refine ⟨⟨xs, v, hS, h1⟩, fun v' H' hy => ?_⟩
  obtain ⟨rfl, hv⟩ := hy
  refine ⟨Same.refl _, ?_⟩
  have e : v = v' := Option.some.inj (h1.symm.trans (hv xs hS))
  rw [← e]
  exact Rp.mono sm h2
def rangeD (lo : Int) (n : Nat) : List Dat := (List.range n).map fun (i : Nat) => Dat.int (lo + (i : Int))
theorem rangeD_len (lo : Int) (n : Nat) : (rangeD lo n).length = n := by unfold rangeD; rw [List.length_map, List.length_range]
theorem rangeD_at {lo : Int} {n i : Nat} {d : Dat} (h : (rangeD lo n)[i]? = some d) : i < n ∧ d = .int (lo + (i : Int)) := by
  have hl : i < (rangeD lo n).length := (List.getElem?_eq_some_iff.mp h).1
  rw [rangeD_len] at hl
  refine ⟨hl, ?_⟩
  unfold rangeD at h
  rw [List.getElem?_map, List.getElem?_range hl] at h
  exact (Option.some.inj h).symm
theorem itd_range {K : PySem.W.Frag} {G : Hp} {lo : Int} {n : Nat} : ItD K G (Itr lo n) (rangeD lo n) := fun O H ok sm i => by
  refine ⟨fun d hd => ?_, fun hn => ?_⟩
  · obtain ⟨h1, rfl⟩ := rangeD_at hd
    refine ⟨h1, fun v H' hy => ?_⟩
    obtain ⟨rfl, rfl⟩ := hy
    exact ⟨Same.refl _, .int _⟩
  · have h1 := List.getElem?_eq_none_iff.mp hn
    rw [rangeD_len] at h1
    exact h1
def signsD (z : Str) : List Dat := z.cps.toList.map fun c => .str ⟨#[c]⟩
theorem itd_str {K : PySem.W.Frag} {G : Hp} {z : Str} : ItD K G (Its z) (signsD z) := fun O H ok sm i => by
  refine ⟨fun d hd => ?_, fun hn => ?_⟩
  · unfold signsD at hd
    rw [List.getElem?_map] at hd
    cases hc : z.cps.toList[i]? with
    | none => rw [hc] at hd; cases hd
    | some c =>
      rw [hc] at hd
      cases hd
      have hi : i < z.cps.toList.length := (List.getElem?_eq_some_iff.mp hc).1
      refine ⟨by rw [Array.length_toList] at hi; exact hi, fun v H' hy => ?_⟩
      obtain ⟨rfl, c', hc', rfl⟩ := hy
      have e : c = c' := by
        rw [Array.getElem?_toList] at hc
        exact Option.some.inj (hc.symm.trans hc')
      rw [e]
      exact ⟨Same.refl _, .str _⟩
  · have h1 := List.getElem?_eq_none_iff.mp hn
    unfold signsD at h1
    rw [List.length_map, Array.length_toList] at h1
    exact h1
def enumD (ds : List Dat) : List Dat := ds.mapIdx fun i d => .tup [.int (i : Int), d]
theorem itd_enum {K : PySem.W.Frag} {G : Hp} {a : Addr} {xs : List V} {ds : List Dat} (h : SqL K G a xs) (r : RpA K G xs ds) : ItD K G (Ite K a) (enumD ds) := fun O H ok sm i => by
  have hS : SqL K H a xs := sql_mono (sm.trans hid_le) h
  refine ⟨fun d hd => ?_, fun hn => ⟨xs, hS, ?_⟩⟩
  · unfold enumD at hd
    rw [List.getElem?_mapIdx] at hd
    cases hc : ds[i]? with
    | none => rw [hc] at hd; cases hd
    | some d0 =>
      rw [hc] at hd
      cases hd
      obtain ⟨v, h1, h2⟩ := r.get hc
      refine ⟨⟨xs, v, hS, h1⟩, fun v' H' hy => ?_⟩
      obtain ⟨T, x, rfl, nT, rfl, hv⟩ := hy
      have e : v = x := Option.some.inj (h1.symm.trans (hv xs hS))
      rw [← e]
      refine ⟨same_new nT, .tup (.inl (.inl ?_)) (.cons (.int _) (.cons (Rp.mono (sm.trans (hid_same (same_new nT))) h2) .nil))⟩
      rw [hid_none (own_free ok nT), upd_same]
  · have h1 := List.getElem?_eq_none_iff.mp hn
    unfold enumD at h1
    rw [List.length_mapIdx] at h1
    rw [r.length]; exact h1
section
variable {X : Cx} {O : Own} {ρ : List Slot} {x : ExK} {k k' : Slot → Own → Prop} {kl kl' : List Slot → Own → Prop} {kd : List Dat → Own → Prop} {kt kt' : Bool → Own → Prop} {e a b c tg iter : Expr} {es : List Expr} {pos p : Pos} {D : SD}
theorem pi_w : PI X tg iter (Wi X tg iter) := ⟨fun pins s σ H R I h => h.r pins s I⟩
theorem wi_of {t : TI} (h : PI X tg iter t) {σ : SV} {H : Hp} {R : It → Hp → Prop} (q : t σ H R) : Wi X tg iter σ H R := ⟨fun pins s I => h.run pins s σ H R I q⟩
theorem iw_list (h : EW X O ρ e x fun s O' => ∃ ds, s = .dat (.lst ds) ∧ kd ds O') : IW X O ρ tg e x kd := fun H0 σ H st tk R q =>
  wi_of (pi_list pe_w) (h H0 σ H st tk _ fun v H' s O' ⟨ds, e1, h1⟩ st' r => by
    subst e1
    cases r with
    | lst h2 h3 => exact ⟨_, rfl, ⟨_, sql_at (hid_le _ _ h2)⟩, q _ H' ds O' h1 st' (itd_list (sql_at h2) h3)⟩)
theorem iw_tup (h : EW X O ρ e x fun s O' => ∃ ds, s = .dat (.tup ds) ∧ kd ds O') : IW X O ρ tg e x kd := fun H0 σ H st tk R q =>
  wi_of (pi_tup pe_w) (h H0 σ H st tk _ fun v H' s O' ⟨ds, e1, h1⟩ st' r => by
    subst e1
    cases r with
    | tup h2 h3 => exact ⟨_, rfl, ⟨_, sqt_mono hid_le h2⟩, q _ H' ds O' h1 st' (itd_tup h2 h3)⟩)
theorem iw_str (h : EW X O ρ e x fun s O' => ∃ z, s = .dat (.str z) ∧ kd (signsD z) O') : IW X O ρ tg e x kd := fun H0 σ H st tk R q =>
  wi_of (pi_str pe_w) (h H0 σ H st tk _ fun v H' s O' ⟨z, e1, h1⟩ st' r => by
    subst e1
    cases r
    exact ⟨z, rfl, q _ H' _ O' h1 st' itd_str⟩)
theorem iw_range1 (hm : X.mg "range" = none) (h : AW X O ρ [a] x fun ss O' => ∃ n : Int, ss = [.dat (.int n)] ∧ (-(2 ^ 62) ≤ n ∧ n < 2 ^ 62) ∧ kd (rangeD 0 n.toNat) O') (hg : Gl X "range" := by rfl) (hs : starEach [a] X.env = [(false, eval a X.env)] := by rfl) :
    IW X O ρ tg (.Call (.Name "range" p) [a] [] pos) x kd := fun H0 σ H st tk R q =>
  wi_of (pi_range1 hg hm pa_w hs) (h H0 σ H st tk _ fun vs H' ss O' ⟨n, e1, h1, h2⟩ st' r => by
    subst e1
    cases r with
    | cons r1 r2 =>
      cases r1
      cases r2
      exact ⟨n, rfl, h1.1, h1.2, q _ H' _ O' h2 st' itd_range⟩)
theorem iw_enum {elts : List Expr} {kk : Nat} {tpos : Pos} (hm : X.mg "enumerate" = none) (h : AW X O ρ [e] x fun ss O' => ∃ ds, ss = [.dat (.lst ds)] ∧ kd (enumD ds) O') (hg : Gl X "enumerate" := by rfl) (hs : starEach [e] X.env = [(false, eval e X.env)] := by rfl) :
    IW X O ρ (.Tuple elts kk tpos) (.Call (.Name "enumerate" p) [e] [] pos) x kd := fun H0 σ H st tk R q =>
  wi_of (pi_enum hg hm pa_w hs) (h H0 σ H st tk _ fun vs H' ss O' ⟨ds, e1, h1⟩ st' r => by
    subst e1
    cases r with
    | cons r1 r2 =>
      cases r2
      cases r1 with
      | lst h2 h3 => exact ⟨_, _, rfl, sql_at (hid_le _ _ h2), q _ H' _ O' h1 st' (itd_enum (sql_at h2) h3)⟩)
theorem s1_for {body : List Stmt} (hpo : PassesOwn (model X.prog X.w) X.A X.env X.xe)
    (h : IW X O ρ tg iter x fun ds O1 => ∃ J : Nat → List Slot → Own → Prop, J 0 ρ O1 ∧
      (∀ i d ρ' O', J i ρ' O' → ds[i]? = some d → GW X O' ρ' tg (.dat d) x fun ρ2 O2 => SW X O2 ρ2 body x { nx := J (i + 1), rt := D.rt, bk := D.nx, ct := J (i + 1) }) ∧
      ∀ ρ' O', J ds.length ρ' O' → D.nx ρ' O')
    (hc : X.calm = true := by rfl) (hs : ∀ x, foldedSetIterable iter X.env x = pure x := by intro _; rfl) : S1 X O ρ (.For tg iter body [] pos) x D := fun H0 σ H st tk E ok => by
  refine ws_of (ps_for hpo hc pi_w pg_w pss_w hs) (h H0 σ H st tk _ fun J0 H1 ds O1 ⟨J, j0, js, je⟩ st1 it => ?_)
  have tkB := takes_base tk st1.base
  have okB := ok.base st1.base
  refine ⟨fun i m σ' H' => i + m = ds.length ∧ ∃ ρ' O', J i ρ' O' ∧ StOk X.K (hid O1 H1) O' σ' ρ' H', ⟨ds.length, by omega, ρ, O1, j0, st1.top⟩, fun i m σ' H' hW => ?_⟩
  obtain ⟨em, ρ', O', hj, st'⟩ := hW
  obtain ⟨i1, i2⟩ := it O' H' st'.own st'.base i
  cases hd : ds[i]? with
  | none =>
    have hi : ds.length ≤ i := List.getElem?_eq_none_iff.mp hd
    have ei : i = ds.length := by omega
    subst ei
    exact .inl ⟨i2 hd, okB.nx σ' ρ' O' H' (je ρ' O' hj) st'⟩
  | some d =>
    have hi : i < ds.length := (List.getElem?_eq_some_iff.mp hd).1
    obtain ⟨g1, g2⟩ := i1 d hd
    refine .inr ⟨g1, fun σ'' H'' => ∃ ρ'' O'', J (i + 1) ρ'' O'' ∧ StOk X.K (hid O1 H1) O'' σ'' ρ'' H'', fun σ'' H'' hN => ⟨m - 1, by omega, by omega, hN⟩, fun v H2 hy => ?_⟩
    obtain ⟨s1, r1⟩ := g2 v H2 hy
    refine js i d ρ' O' hj hd (hid O1 H1) σ' H2 v (st'.grow s1) r1 tkB _ fun σ3 H3 ρ3 O3 h3 st3 => ?_
    exact h3 (hid O1 H1) σ3 H3 st3 tkB _ ⟨fun σ4 ρ4 O4 H4 q s => ⟨ρ4, O4, q, s⟩, okB.rt, okB.nx, fun σ4 ρ4 O4 H4 q s => ⟨ρ4, O4, q, s⟩⟩
theorem s1_while {body : List Stmt} (hpo : PassesOwn (model X.prog X.w) X.A X.env X.xe) (J : Nat → List Slot → Own → Prop) (h0 : ∃ m, J m ρ O)
    (h : ∀ m ρ' O', J m ρ' O' → TW X O' ρ' c x fun t O2 => (t = true → SW X O2 ρ' body x { nx := fun ρ2 O3 => ∃ m', m' < m ∧ J m' ρ2 O3, rt := D.rt, bk := D.nx, ct := fun ρ2 O3 => ∃ m', m' < m ∧ J m' ρ2 O3 }) ∧ (t = false → D.nx ρ' O2)) :
    S1 X O ρ (.While c body [] pos) x D := fun H0 σ H st tk E ok => by
  refine ws_of (ps_while hpo pt_w pss_w) ⟨fun m σ' H' => ∃ ρ' O', J m ρ' O' ∧ StOk X.K H0 O' σ' ρ' H', ?_, fun m σ' H' hW => ?_⟩
  · obtain ⟨m, hm⟩ := h0
    exact ⟨m, ρ, O, hm, st⟩
  · obtain ⟨ρ', O', hj, st'⟩ := hW
    refine h m ρ' O' hj H0 σ' H' st' tk _ fun t H1 O1 h1 st1 => ?_
    cases t with
    | false => exact iteF (ok.nx σ' ρ' O1 H1 (h1.2 rfl) st1)
    | true =>
      refine iteT ⟨fun σ'' H'' => ∃ m', m' < m ∧ ∃ ρ'' O'', J m' ρ'' O'' ∧ StOk X.K H0 O'' σ'' ρ'' H'', fun σ'' H'' hN => hN, ?_⟩
      exact (h1.1 rfl) H0 σ' H1 st1 tk _ ⟨fun σ4 ρ4 O4 H4 ⟨m', l, q⟩ s => ⟨m', l, ρ4, O4, q, s⟩, ok.rt, ok.nx, fun σ4 ρ4 O4 H4 ⟨m', l, q⟩ s => ⟨m', l, ρ4, O4, q, s⟩⟩
theorem ew_lst (h : AW X O ρ es x fun ss O' => ss.length ≤ sizeLine ∧ ∀ p, O' p = none → k (.own p) (up O' p (.lst ss))) : EW X O ρ (.List es pos) x k := fun H0 σ H st tk Q q =>
  we_of (pe_lst pa_w) (h H0 σ H st tk _ fun vs H' ss O' ⟨h1, h2⟩ st' r => ⟨by rw [paired_len r]; exact h1, fun p hp =>
    q _ _ _ _ (h2 p (own_free st'.own hp)) (st'.alloc hp ⟨vs, rfl, r⟩) rfl⟩)
/-- the cell is given away at once -/
theorem ew_frz (h : EW X O ρ e x fun s O' => ∃ p ds, s = .own p ∧ O' p = some (.lst (ds.map .dat)) ∧ k (.dat (.lst ds)) (dn O' p)) : EW X O ρ e x k := fun H0 σ H st tk Q q =>
  h H0 σ H st tk Q fun v H' s O' ⟨p, ds, e1, h1, h2⟩ st' r => by
    subst e1
    obtain rfl : v = .ref p := r
    exact q _ H' _ _ h2 st'.freeze (st'.own.lst h1)
theorem ew_lstD (h : AW X O ρ es x fun ss O' => ∃ ds, ss = ds.map .dat ∧ ds.length ≤ sizeLine ∧ k (.dat (.lst ds)) O') : EW X O ρ (.List es pos) x k :=
  ew_frz (ew_lst (h.mono fun ss O' ⟨ds, e1, h1, h2⟩ => by
    subst e1
    exact ⟨by rw [List.length_map]; exact h1, fun p hp => ⟨p, ds, rfl, up_at, by rw [dn_up hp]; exact h2⟩⟩))
theorem ew_tup {x1} (h : AW X O ρ es x fun ss O' => ∃ ds, ss = ds.map .dat ∧ ds.length ≤ sizeLine ∧ k (.dat (.tup ds)) O') : EW X O ρ (.Tuple es x1 pos) x k := fun H0 σ H st tk Q q =>
  we_of (pe_tup pa_w) (h H0 σ H st tk _ fun vs H' ss O' ⟨ds, e1, h1, h2⟩ st' r => by
    subst e1
    have r' := RpA.of_paired r
    refine ⟨by rw [r'.length]; exact h1, fun p hp => q _ _ _ _ h2 (st'.grow (same_new hp)) ?_⟩
    have hO := own_free st'.own hp
    exact Rp.tup (.inl (.inl (by rw [hid_none hO, upd_same]))) (RpA.mono (hid_same (same_new hp)) r'))
def Blk (X : Cx) (scope : Scope) (Y : Cx) : Prop := ∃ (s : Shared) (H : Hp) (C : Addr) (cl : List (Str × Addr)) (fp : List Addr), Y = X.blk s H scope (compEnvC scope cl C X.env) fp
def TsW (Y : Cx) (O : Own) (ρ : List Slot) (ifs : List Expr) (x : ExK) (kt : Bool → Own → Prop) : Prop :=
  ∀ H0 σ H, StOk Y.K H0 O σ ρ H → Takes Y (Wsem Y.K H0 x) → ∀ Q : Bool → Hp → Prop, (∀ b H' O', kt b O' → StOk Y.K H0 O' σ ρ H' → Q b H') → Bx (∀ (pins : List (Addr × Obj)) (s : Shared), Inv Y pins σ H s →
    wpAny (model Y.prog Y.w) Y.A (forIn ifs true fun c r => if r = true then do let ok ← isTrue c Y.env (eval c Y.env); pure (ForInStep.yield ok) else pure (ForInStep.yield r)) (TP Y pins σ Q) Y.xe s)
theorem tsw_nil (h : kt true O) : TsW X O ρ [] x kt := fun H0 σ H st tk Q q => ⟨fun pins s I => pts_nil.run pins s σ H Q I (q true H O h st)⟩
theorem tsw_one (h : TW X O ρ c x kt) : TsW X O ρ [c] x kt := fun H0 σ H st tk Q q => ⟨fun pins s I => (pts_one pt_w).run pins s σ H Q I (h H0 σ H st tk Q q)⟩
def wipeS (ρ : List Slot) : List Nat → List Slot
  | [] => ρ
  | v :: vs => (wipeS ρ vs).set v .unk
theorem env_none {K : PySem.W.Frag} {G : Hp} {o : Option V} : EnvOk K G o .unk := trivial
theorem wipe_env {K : PySem.W.Frag} {G : Hp} {σ : SV} {ρ : List Slot} (h : Paired (EnvOk K G) σ ρ) : ∀ vs, Paired (EnvOk K G) (wipe σ vs) (wipeS ρ vs)
  | [] => h
  | v :: vs => paired_set (x := none) env_none v (wipe_env h vs)
theorem StOk.wipe {K : PySem.W.Frag} {H0 H : Hp} {σ : SV} (h : StOk K H0 O σ ρ H) (vs : List Nat) : StOk K H0 O (wipe σ vs) (wipeS ρ vs) H := ⟨h.own, h.base, wipe_env h.env vs⟩
theorem wipe_at {σ : SV} : ∀ {vs : List Nat} {i : Nat}, i ∈ vs → ∀ v, wipe (σ.set i v) vs = wipe σ vs
  | j :: vs, i, h, v => by
    show (wipe (σ.set i v) vs).set j none = (wipe σ vs).set j none
    by_cases e : i ∈ vs
    · rw [wipe_at e v]
    · have ej : i = j := by
        rcases List.mem_cons.mp h with q | q
        · exact q
        · exact absurd q e
      subst ej
      have : ∀ (vs : List Nat) (σ : SV), i ∉ vs → wipe (σ.set i v) vs = (wipe σ vs).set i v := by
        intro vs
        induction vs with
        | nil => intro σ _; rfl
        | cons z zs ih =>
          intro σ hz
          show (wipe (σ.set i v) zs).set z none = ((wipe σ zs).set z none).set i v
          rw [ih σ fun q => hz (List.mem_cons_of_mem _ q)]
          exact List.set_comm _ _ fun q => hz (by rw [q]; exact List.mem_cons_self)
      rw [this vs σ e, List.set_set]
theorem wipe_wipe {σ : SV} : ∀ {vs ws : List Nat}, (∀ i ∈ ws, i ∈ vs) → wipe (wipe σ ws) vs = wipe σ vs
  | vs, [], _ => rfl
  | vs, w :: ws, h => by
    show wipe ((wipe σ ws).set w none) vs = _
    rw [wipe_at (h w List.mem_cons_self), wipe_wipe fun i hi => h i (List.mem_cons_of_mem _ hi)]
/-- what a comprehension's target is -/
inductive Tgt (X : Cx) (scope : Scope) (vs : List Nat) : Expr → (Dat → List Slot → List Slot → Prop) → Prop
  | name {nm : Str} {p : Pos} {i : Nat} (hi : i ∈ vs) (hg : ∀ Y, Blk X scope Y → PG Y (.Name nm p) (gName i)) : Tgt X scope vs (.Name nm p) (fun d ρ ρ' => ρ' = ρ.set i (.dat d))
  | two {n1 n2 : Str} {p1 p2 p : Pos} {kk i j : Nat} (hi : i ∈ vs) (hj : j ∈ vs) (hg : ∀ Y, Blk X scope Y → PG Y (.Tuple [.Name n1 p1, .Name n2 p2] kk p) (gTup X.K 2 (gCons (gName i) (gCons (gName j) gNil)))) :
    Tgt X scope vs (.Tuple [.Name n1 p1, .Name n2 p2] kk p) (fun d ρ ρ' => ∃ d1 d2, d = .tup [d1, d2] ∧ ρ' = (ρ.set i (.dat d1)).set j (.dat d2))
  | three {n1 n2 n3 : Str} {p1 p2 p3 p : Pos} {kk i j l : Nat} (hi : i ∈ vs) (hj : j ∈ vs) (hl : l ∈ vs) (hg : ∀ Y, Blk X scope Y → PG Y (.Tuple [.Name n1 p1, .Name n2 p2, .Name n3 p3] kk p) (gTup X.K 3 (gCons (gName i) (gCons (gName j) (gCons (gName l) gNil))))) :
    Tgt X scope vs (.Tuple [.Name n1 p1, .Name n2 p2, .Name n3 p3] kk p) (fun d ρ ρ' => ∃ d1 d2 d3, d = .tup [d1, d2, d3] ∧ ρ' = ((ρ.set i (.dat d1)).set j (.dat d2)).set l (.dat d3))
theorem tgt_run {scope : Scope} {vs : List Nat} {T : Dat → List Slot → List Slot → Prop} (h : Tgt X scope vs tg T) :
    ∃ g : TG, (∀ Y, Blk X scope Y → PG Y tg g) ∧ ∀ {H0 H : Hp} {O : Own} {σ : SV} {ρ ρ' : List Slot} {v : V} {d : Dat} {Q : SV → Hp → Prop}, StOk X.K H0 O (wipe σ vs) ρ H → Rp X.K (hid O H) v d → T d ρ ρ' →
      (∀ σ', StOk X.K H0 O σ' ρ' H → wipe σ' vs = wipe σ vs → Q σ' H) → g v (wipe σ vs) H Q := by
  cases h with
  | name hi hg =>
    refine ⟨_, hg, fun {H0 H O σ ρ ρ' v d Q} st r t q => ?_⟩
    subst t
    exact q _ (st.set r) (by rw [wipe_at hi, wipe_wipe fun _ z => z])
  | two hi hj hg =>
    refine ⟨_, hg, fun {H0 H O σ ρ ρ' v d Q} st r t q => ?_⟩
    obtain ⟨d1, d2, rfl, rfl⟩ := t
    cases r with
    | tup h1 h2 =>
      cases h2 with
      | cons r1 h2 =>
        cases h2 with
        | cons r2 h2 =>
          cases h2
          refine ⟨_, _, rfl, sqt_mono hid_le h1, rfl, _, _, rfl, _, _, rfl, rfl, q _ ((st.set (s := .dat d1) r1).set (s := .dat d2) r2) ?_⟩
          rw [wipe_at hj, wipe_at hi, wipe_wipe fun _ z => z]
  | three hi hj hl hg =>
    refine ⟨_, hg, fun {H0 H O σ ρ ρ' v d Q} st r t q => ?_⟩
    obtain ⟨d1, d2, d3, rfl, rfl⟩ := t
    cases r with
    | tup h1 h2 =>
      cases h2 with
      | cons r1 h2 =>
        cases h2 with
        | cons r2 h2 =>
          cases h2 with
          | cons r3 h2 =>
            cases h2
            refine ⟨_, _, rfl, sqt_mono hid_le h1, rfl, _, _, rfl, _, _, rfl, _, _, rfl, rfl, q _ (((st.set (s := .dat d1) r1).set (s := .dat d2) r2).set (s := .dat d3) r3) ?_⟩
            rw [wipe_at hl, wipe_at hj, wipe_at hi, wipe_wipe fun _ z => z]
theorem tlc_of {elt : Expr} {ifs : List Expr} {scope : Scope} {vs : List Nat} {T : Dat → List Slot → List Slot → Prop} {g : TG}
    (hg : ∀ {H0 H : Hp} {O : Own} {σ : SV} {ρ ρ' : List Slot} {v : V} {d : Dat} {Q : SV → Hp → Prop}, StOk X.K H0 O (wipe σ vs) ρ H → Rp X.K (hid O H) v d → T d ρ ρ' → (∀ σ', StOk X.K H0 O σ' ρ' H → wipe σ' vs = wipe σ vs → Q σ' H) → g v (wipe σ vs) H Q)
    (h : IW X O ρ tg iter x fun ds O1 => ds.length ≤ sizeLine ∧ ∃ J : Nat → List Slot → Own → Prop, J 0 [] O1 ∧
      (∀ i d acc O', J i acc O' → ds[i]? = some d → ∃ ρ', T d (wipeS ρ vs) ρ' ∧ ∀ Dd, O' Dd = none → ∀ Y, Blk X scope Y → TsW Y (up O' Dd (.lst acc)) ρ' ifs noX fun t O2 =>
        (t = true → ∀ Z, Blk X scope Z → EW Z O2 ρ' elt noX fun s O3 => ∃ O4, O3 = up O4 Dd (.lst acc) ∧ O4 Dd = none ∧ J (i + 1) (acc ++ [s]) O4) ∧ (t = false → ∃ O4, O2 = up O4 Dd (.lst acc) ∧ O4 Dd = none ∧ J (i + 1) acc O4)) ∧
      ∀ acc O', J ds.length acc O' → ∀ p, O' p = none → k (.own p) (up O' p (.lst acc))) {H0 : Hp} {σ : SV} {H : Hp} {Q : VK} (st : StOk X.K H0 O σ ρ H) (tk : Takes X (Wsem X.K H0 x))
    (q : ∀ v H' s O', k s O' → StOk X.K H0 O' σ ρ H' → SlOk X.K (hid O' H') v s → Q v H') :
    tLc (Wi X tg iter) g (fun σ H Q => ∀ Y, Blk X scope Y → ∀ (pins : List (Addr × Obj)) (s : Shared), Inv Y pins σ H s →
      wpAny (model Y.prog Y.w) Y.A (forIn ifs true fun c r => if r = true then do let ok ← isTrue c Y.env (eval c Y.env); pure (ForInStep.yield ok) else pure (ForInStep.yield r)) (TP Y pins σ Q) Y.xe s)
      (fun σ H Q => ∀ Y, Blk X scope Y → We Y elt σ H Q) vs σ H Q := by
  refine h H0 σ H st tk _ fun J0 H1 ds O1 ⟨hz, J, j0, js, je⟩ st1 it => ?_
  intro Dd hD
  have hOD : O1 Dd = none := own_free st1.own hD
  have gS : Same (hid O1 H1) (hid (up O1 Dd (.lst [])) (upd H1 Dd (.lst []))) := fun b o hb => by
    obtain ⟨z1, z2⟩ := of_hid hb
    have nb := ne_of_none z2 hD
    rw [hid_none (by rw [up_ne nb]; exact z1), upd_ne nb]
    exact z2
  -- the store with the new list as a cell, over the greatest base
  refine ⟨fun i m H' => i + m = ds.length ∧ ∃ acc O', J i acc O' ∧ O' Dd = none ∧ acc.length ≤ i ∧ StOk X.K (hid O1 H1) (up O' Dd (.lst acc)) σ ρ H',
    ⟨ds.length, by omega, [], O1, j0, hOD, Nat.le_refl _, ⟨?_, gS, pmap (fun _ _ z => EnvOk.mono gS z) st1.env⟩⟩, fun i m H' hW => ?_⟩
  · exact (st1.alloc (o := .lst []) (c := .lst []) hD ⟨[], rfl, .nil⟩).own
  · obtain ⟨em, acc, O', hj, nD, hacc, st'⟩ := hW
    obtain ⟨i1, i2⟩ := it _ H' st'.own st'.base i
    cases hd : ds[i]? with
    | none =>
      have hi : ds.length ≤ i := List.getElem?_eq_none_iff.mp hd
      have ei : i = ds.length := by omega
      subst ei
      exact .inl ⟨i2 hd, q _ H' _ _ (je acc O' hj Dd nD) (st'.rebase st1.base) rfl⟩
    | some d =>
      have hi : i < ds.length := (List.getElem?_eq_some_iff.mp hd).1
      obtain ⟨g1, g2⟩ := i1 d hd
      obtain ⟨ρ', ht, hb⟩ := js i d acc O' hj hd
      have hb := hb Dd nD
      refine .inr ⟨g1, fun H'' => ∃ acc2 O2, J (i + 1) acc2 O2 ∧ O2 Dd = none ∧ acc2.length ≤ i + 1 ∧ StOk X.K (hid O1 H1) (up O2 Dd (.lst acc2)) σ ρ H'', fun H'' hN => ⟨m - 1, by omega, by omega, hN⟩, fun v H2 hy => ?_⟩
      obtain ⟨s1, r1⟩ := g2 v H2 hy
      have st2 := st'.grow s1
      refine hg (σ := σ) (st2.wipe vs) r1 ht fun σ' st3 hw => ⟨hw, fun Y hY pins s I => ?_⟩
      obtain ⟨sY, HY, CY, clY, fpY, eY⟩ := id hY
      have eK : Y.K = X.K := by rw [eY]
      have st3Y : StOk Y.K (hid O1 H1) (up O' Dd (.lst acc)) σ' ρ' H2 := by rw [eK]; exact st3
      refine (hb Y hY (hid O1 H1) σ' H2 st3Y takes_no _ fun t H3 O3 h3 st4 => ?_).r pins s I
      -- the way back to the outer names
      have env2 : Paired (EnvOk X.K (hid (up O' Dd (.lst acc)) H2)) σ ρ := st2.env
      cases t with
      | false =>
        obtain ⟨O4, e4, n4, j4⟩ := h3.2 rfl
        subst e4
        refine iteF ⟨acc, O4, j4, n4, by omega, ?_⟩
        rw [eK] at st4
        exact ⟨st4.own, st4.base, pmap (fun _ _ z => EnvOk.mono st4.base z) st1.env⟩
      | true =>
        refine iteT fun Z hZ => ?_
        obtain ⟨sZ, HZ, CZ, clZ, fpZ, eZ⟩ := id hZ
        have eKZ : Z.K = X.K := by rw [eZ]
        have eYZ : Z.K = Y.K := by rw [eZ, eY]
        refine (h3.1 rfl) Z hZ (hid O1 H1) σ' H3 (by rw [eYZ]; exact st4) takes_no _ fun u H5 s5 O5 h5 st5 r5 => ?_
        obtain ⟨O4, e4, n4, j4⟩ := h5
        subst e4
        rw [eKZ] at st5 r5
        obtain ⟨o5, c1, xs5, rfl, c2⟩ := st5.own.cell Dd _ up_at
        have lx : xs5.length = acc.length := paired_len c2
        have gw : Same (hid (up O4 Dd (.lst acc)) H5) (hid (up O4 Dd (.lst (acc ++ [s5]))) (upd H5 Dd (.lst (xs5 ++ [u])))) := by
          have := hid_write (H := H5) (o := .lst (xs5 ++ [u])) (c := .lst (acc ++ [s5])) (O := up O4 Dd (.lst acc)) up_at
          rw [up_up] at this
          exact this
        have st6 := st5.write (o := .lst (xs5 ++ [u])) (c := .lst (acc ++ [s5])) up_at ⟨_, rfl, paired_app c2 (.cons r5 .nil)⟩
        rw [up_up] at st6
        refine ⟨xs5, c1, by omega, acc ++ [s5], O4, j4, n4, by rw [List.length_append]; exact Nat.add_le_add_right hacc 1, ⟨st6.own, st6.base, pmap (fun _ _ z => EnvOk.mono st6.base z) st1.env⟩⟩
theorem ew_lc (own : List (Str × Nat)) {elt : Expr} {ifs : List Expr} {scope : Scope} {T : Dat → List Slot → List Slot → Prop} (hN : X.N.Nodup) (tg_ok : Tgt X scope (own.map (·.2)) tg T) (ok : BlkOk X.N X.env.scope scope own)
    (h : IW X O ρ tg iter x fun ds O1 => ds.length ≤ sizeLine ∧ ∃ J : Nat → List Slot → Own → Prop, J 0 [] O1 ∧
      (∀ i d acc O', J i acc O' → ds[i]? = some d → ∃ ρ', T d (wipeS ρ (own.map (·.2))) ρ' ∧ ∀ Dd, O' Dd = none → ∀ Y, Blk X scope Y → TsW Y (up O' Dd (.lst acc)) ρ' ifs noX fun t O2 =>
        (t = true → ∀ Z, Blk X scope Z → EW Z O2 ρ' elt noX fun s O3 => ∃ O4, O3 = up O4 Dd (.lst acc) ∧ O4 Dd = none ∧ J (i + 1) (acc ++ [s]) O4) ∧ (t = false → ∃ O4, O2 = up O4 Dd (.lst acc) ∧ O4 Dd = none ∧ J (i + 1) acc O4)) ∧
      ∀ acc O', J ds.length acc O' → ∀ p, O' p = none → k (.own p) (up O' p (.lst acc))) (hc : X.calm = true := by rfl) (hs : ∀ x, foldedSetIterable iter X.env x = pure x := by intro _; rfl) :
    EW X O ρ (.ListComp elt [⟨tg, iter, ifs, 0⟩] scope pos) x k := fun H0 σ H st tk Q q => by
  obtain ⟨g, g1, g2⟩ := tgt_run tg_ok
  exact we_of (pe_lc hc hN pi_w ok (fun s H C cl fp => g1 _ ⟨s, H, C, cl, fp, rfl⟩) (fun s H C cl fp => ⟨fun pins sh σ H5 Q I hq => hq _ ⟨s, H, C, cl, fp, rfl⟩ pins sh I⟩) (fun s H C cl fp => ⟨fun pins sh σ H5 Q I hq => (hq _ ⟨s, H, C, cl, fp, rfl⟩).r pins sh I⟩) hs)
    (tlc_of g2 h st tk q)
/-- y = [..] with y a local -/
theorem s1_setLc (own : List (Str × Nat)) (i : Nat) {nm : Str} {py spos : Pos} {elt : Expr} {ifs : List Expr} {scope : Scope} {T : Dat → List Slot → List Slot → Prop} (hN : X.N.Nodup) (tg_ok : Tgt X scope (own.map (·.2)) tg T) (ok : BlkOk X.N X.env.scope scope own)
    (h : IW X O ρ tg iter x fun ds O1 => ds.length ≤ sizeLine ∧ ∃ J : Nat → List Slot → Own → Prop, J 0 [] O1 ∧
      (∀ i d acc O', J i acc O' → ds[i]? = some d → ∃ ρ', T d (wipeS ρ (own.map (·.2))) ρ' ∧ ∀ Dd, O' Dd = none → ∀ Y, Blk X scope Y → TsW Y (up O' Dd (.lst acc)) ρ' ifs noX fun t O2 =>
        (t = true → ∀ Z, Blk X scope Z → EW Z O2 ρ' elt noX fun s O3 => ∃ O4, O3 = up O4 Dd (.lst acc) ∧ O4 Dd = none ∧ J (i + 1) (acc ++ [s]) O4) ∧ (t = false → ∃ O4, O2 = up O4 Dd (.lst acc) ∧ O4 Dd = none ∧ J (i + 1) acc O4)) ∧
      ∀ acc O', J ds.length acc O' → ∀ p, O' p = none → D.nx (ρ.set i (.own p)) (up O' p (.lst acc))) (hc : X.calm = true := by rfl)
    (hy : X.N[i]? = some nm := by rfl) (hyl : X.env.scope.names.lookup nm = some .local := by rfl)
    (hsw : swapsWith (.ListComp elt [⟨tg, iter, ifs, 0⟩] scope pos) (some (.Name nm py)) spos.line X.env = pure true := by exact sw_true rfl rfl rfl (by decide +kernel)) (hs : ∀ x, foldedSetIterable iter X.env x = pure x := by intro _; rfl) :
    S1 X O ρ (.Assign [.Name nm py] (.ListComp elt [⟨tg, iter, ifs, 0⟩] scope pos) spos) x D := fun H0 σ H st tk E okE => by
  obtain ⟨g, g1, g2⟩ := tgt_run tg_ok
  exact ws_of (ps_setLc hc hN hy hyl hsw pi_w ok (fun s H C cl fp => g1 _ ⟨s, H, C, cl, fp, rfl⟩) (fun s H C cl fp => ⟨fun pins sh σ H5 Q I hq => hq _ ⟨s, H, C, cl, fp, rfl⟩ pins sh I⟩) (fun s H C cl fp => ⟨fun pins sh σ H5 Q I hq => (hq _ ⟨s, H, C, cl, fp, rfl⟩).r pins sh I⟩) hs)
    (tlc_of (k := fun s O' => D.nx (ρ.set i s) O') g2 h st tk fun v H' s O' hq st' r => okE.nx _ _ O' H' hq (st'.set r))
end
end Kn
namespace Kn
open PySem PySem.Spec PyProof.Rows
open L2 hiding St
inductive Out where
  | ret (s : Slot)
  | exc (e : Exn)
/-- a contract: the arguments, the cells, and what is wanted of each way out -/
abbrev SpecT := List Slot → Own → (Out → Own → Prop) → Prop
structure RoomB (g : Bool) (k : Nat) (A : Around) : Prop where
  r : Room k A
  g : g = true → A.guards = some []
theorem RoomB.mono {g g' : Bool} {j k : Nat} {A : Around} (h : RoomB g k A) (hk : j ≤ k) (hg : g' = true → g = true) : RoomB g' j A := ⟨h.r.mono hk, fun e => h.g (hg e)⟩
def RetOk (K : PySem.W.Frag) (O : Own) (H : Hp) (R : Out → Own → Prop) (Q : VK) : Prop :=
  ∀ v H' s O', R (.ret s) O' → OwnOk K O' H' → Same (hid O H) (hid O' H') → SlOk K (hid O' H') v s → Q v H'
def ErrOk (K : PySem.W.Frag) (O : Own) (H : Hp) (R : Out → Own → Prop) (E : XK) : Prop :=
  ∀ cls d e H' O', R (.exc e) O' → OwnOk K O' H' → Same (hid O H) (hid O' H') → ExOk K O' H' cls d e → E cls d H'
def spS (K : PySem.W.Frag) (S : SpecT) : Sp := fun vs H Q E => ∃ O ss R, OwnOk K O H ∧ Paired (SlOk K (hid O H)) vs ss ∧ S ss O R ∧ RetOk K O H R Q ∧ ErrOk K O H R E
structure Fn (P : Program) (w : World) (K : PySem.W.Frag) (mg : Str → Option Value) (base : Heap) (g : Bool) (k : Nat) (f : Addr) (fd : FuncData) (ps : List Str) (S : SpecT) : Prop where
  len : ∀ ss O R, S ss O R → ss.length = ps.length
  run : ∀ (A : Around) (outer : List Env) (s : Shared) (H : Hp) (args : Args) (us : List Value) (vs : List V) (Q : VK) (E : XK), RoomB g k A → Env0 P w K mg base A outer s H → BindsTo s fd args (ps.zip us) → Vals vs us → spS K S vs H Q E →
    codeAny (model P w) A (.call (.ref f) args) (CR (L2.CX P w) outer P w H s Q E) s
section
variable {P : Program} {w : World} {K : PySem.W.Frag} {mg : Str → Option Value} {base : Heap} {g : Bool} {k : Nat} {f : Addr} {fd : FuncData} {ps : List Str} {S : SpecT}
theorem spS_len (len : ∀ ss O R, S ss O R → ss.length = ps.length) : ∀ vs H Q E, spS K S vs H Q E → vs.length = ps.length := fun vs H Q E ⟨O, ss, R, _, pr, hS, _⟩ => (paired_len pr).trans (len _ _ _ hS)
theorem Fn.ok (F : Fn P w K mg base false k f fd ps S) : FnOk P w K mg base (L2.CX P w) k f fd ps (spS K S) :=
  ⟨spS_len F.len, fun A outer s H args us vs Q E hr e0 hb r hs => F.run A outer s H args us vs Q E ⟨hr, fun e => nomatch e⟩ e0 hb r hs⟩
def startS (N : List Str) (ss : List Slot) : List Slot := ss ++ List.replicate (N.length - ss.length) .unk
theorem paired_rep {α β : Type} {F : α → β → Prop} {a : α} {b : β} (h : F a b) : ∀ n, Paired F (List.replicate n a) (List.replicate n b)
  | 0 => .nil
  | n + 1 => .cons h (paired_rep h n)
theorem env_of {G : Hp} : ∀ {vs : List V} {ss : List Slot}, Paired (SlOk K G) vs ss → Paired (EnvOk K G) (vs.map some) ss
  | _, _, .nil => .nil
  | _, s :: _, .cons h t => .cons (by
      cases s with
      | unk => trivial
      | dat d => exact ⟨_, rfl, h⟩
      | own p => exact congrArg some h) (env_of t)
theorem start_env {G : Hp} {N : List Str} {vs : List V} {ss : List Slot} (h : Paired (SlOk K G) vs ss) : Paired (EnvOk K G) (L2.start N vs) (startS N ss) := by
  unfold L2.start startS
  rw [paired_len h]
  exact paired_app (env_of h) (paired_rep trivial _)
theorem roomB_deeper {A : Around} (r : RoomB g (k + 1) A) (env : Env) : RoomB g k (A.deeper env) := ⟨r.r.deeper env, fun e => r.g e⟩
/-- a def as it stands behind the top, whatever its defaults -/
def FunX (K : PySem.W.Frag) (x qual : Str) (st : Stmt) (f : Addr) (fd : FuncData) : Prop := ∃ (oc : Value) (od : Option Addr) (dV kV doc pm : Value) (an : Option Addr) (cdv ct : Value) (osl : Array (Option Value)),
  fd = PySem.W.fnOf x qual (defArgs st) (defBody st) (defScope st) dV kV doc pm an cdv ct ∧ K.lookup f = some ⟨oc, od, .func fd, osl⟩ ∧ PySem.W.codeIn K cdv qual = true
theorem funX_of {x qual : Str} {st : Stmt} (F : L2.Fun K x qual st f fd) : FunX K x qual st f fd := by
  obtain ⟨oc, od, kV, doc, pm, an, cdv, ct, osl, h⟩ := F.ex
  exact ⟨oc, od, .none, kV, doc, pm, an, cdv, ct, osl, h⟩
theorem funX_ofD {x qual : Str} {st : Stmt} {dvs : List V} (F : L2.FunD K x qual (defArgs st) (defBody st) (defScope st) dvs [] f fd) : FunX K x qual st f fd := by
  obtain ⟨oc, od, dV, kV, doc, pm, an, cdv, ct, osl, h1, h2, h3, _⟩ := F.ex
  exact ⟨oc, od, dV, kV, doc, pm, an, cdv, ct, osl, h1, h2, h3⟩
/-- a def keeps its contract -/
theorem fn_mkX {x qual : Str} {st : Stmt} {N : List Str} (F : FunX K x qual st f fd) (Sc : FnScope N ps (defScope st)) (len : ∀ ss O R, S ss O R → ss.length = ps.length)
    (body : ∀ (cdv : Value) (A : Around) (outer : List Env) (s : Shared) (H : Hp) (E : XK) (ss : List Slot) (O : Own) (R : Out → Own → Prop), RoomB g k (cxOf (L2.CX P w) P w K mg base N qual (defScope st) f cdv A outer s H E).A →
      PassesOwn (model P w) (cxOf (L2.CX P w) P w K mg base N qual (defScope st) f cdv A outer s H E).A (cxOf (L2.CX P w) P w K mg base N qual (defScope st) f cdv A outer s H E).env (cxOf (L2.CX P w) P w K mg base N qual (defScope st) f cdv A outer s H E).xe → S ss O R →
      SW (cxOf (L2.CX P w) P w K mg base N qual (defScope st) f cdv A outer s H E) O (startS N ss) (defBody st) (fun e _ O' => R (.exc e) O') { nx := fun _ O' => R (.ret (.dat .non)) O', rt := fun z O' => R (.ret z) O' }) :
    Fn P w K mg base g (k + 1) f fd ps S := by
  obtain ⟨oc, od, dV, kV, doc, pm, an, cdv, ct, osl, rfl, lk, hcd⟩ := F
  refine ⟨len, fun A outer s H args us vs Q E hr e0 hb r hsp => ?_⟩
  obtain ⟨O, ss, R, own, pr, hS, hret, herr⟩ := hsp
  have hl : vs.length = ps.length := (paired_len pr).trans (len _ _ _ hS)
  have KX : K.In s.heap := e0.mod.kin.keeps fun b o e => (e0.bs b o e).1
  have lim : s.heap.NoLimit := e0.mod.nolimit.keeps fun b o e => (e0.bs b o e).1
  have hkind : ∀ y ∈ ps.zip us, (defScope st).names.lookup y.1 = some .local ∨ ((defScope st).names.lookup y.1 = some .cell ∧ ((cellsFrom (s.heap.objs.size + 1) (defScope st).names []).lookup y.1).isSome = true) := fun y hy => by
    rcases Sc.par y.1 (List.of_mem_zip (show (y.1, y.2) ∈ ps.zip us from hy)).1 with q | q
    · exact .inl q
    · exact .inr ⟨q, PySem.W.cellsFrom_some _ _ _ (.inl q)⟩
  refine codeAny_call_function hr.r.depth (KX _ _ lk) rfl Sc.co Sc.gen rfl (PySem.W.codeRec_of KX hcd) (hb _ _ _ _ ?_)
  refine wpAny_newFunctionEnv_cells Sc.kind hkind fun env he s1 hin => ?_
  subst he
  refine ⟨lim.keeps hin.toInCall.keep, codeAny_func ?_⟩
  have I := inv_start (CX := L2.CX P w) (E := E) Sc hr.r.hd e0 hl r hin
  have hrD : RoomB g k (cxOf (L2.CX P w) P w K mg base N qual (defScope st) f cdv A outer s H E).A := roomB_deeper hr _
  have hpo : PassesOwn (model P w) (cxOf (L2.CX P w) P w K mg base N qual (defScope st) f cdv A outer s H E).A (cxOf (L2.CX P w) P w K mg base N qual (defScope st) f cdv A outer s H E).env (cxOf (L2.CX P w) P w K mg base N qual (defScope st) f cdv A outer s H E).xe :=
    passes_of (X := cxOf (L2.CX P w) P w K mg base N qual (defScope st) f cdv A outer s H E) rfl
  have hst : StOk K (hid O H) O (L2.start N vs) (startS N ss) H := ⟨own, Same.refl _, start_env pr⟩
  have tk : Takes (cxOf (L2.CX P w) P w K mg base N qual (defScope st) f cdv A outer s H E) (Wsem K (hid O H) fun e _ O' => R (.exc e) O') :=
    (takes_of (X := cxOf (L2.CX P w) P w K mg base N qual (defScope st) f cdv A outer s H E) rfl rfl rfl rfl).imp fun cls d σ' H' ⟨e, ρ', O', h1, h2, h3⟩ => herr cls d e H' O' h1 h2.own h2.base h3
  have main := (body cdv A outer s H E ss O R hrD hpo hS (hid O H) (L2.start N vs) H hst tk { nx := fun _ H' => Q .non H', rt := Q }
    ⟨fun σ' ρ' O' H' h1 h2 => hret .non H' _ O' h1 h2.own h2.base .non, fun v z O' H' h1 h2 h3 h4 => hret v H' z O' h1 h2 h3 h4, fun _ _ _ _ h _ => h.elim, fun _ _ _ _ h _ => h.elim⟩).r [] s1 I
  refine wpAny_mono main (fun fl s' hs => ?_) fun e s' hs => hs
  have fin : ∀ {σ' : SV} {H' : Hp} {v : V} {u : Value}, L2.Inv (cxOf (L2.CX P w) P w K mg base N qual (defScope st) f cdv A outer s H E) [] σ' H' s' → RelV v u → Q v H' → CE outer P w H s Q u s' :=
    fun {σ' H' v u} J rv q => ⟨v, H', J.os, J.bare, J.base, J.hok, rv, q⟩
  cases fl with
  | ret u =>
    obtain ⟨v, σ', H', J, rv, q⟩ := hs
    exact fin J rv q
  | next =>
    obtain ⟨σ', H', J, q⟩ := hs
    exact fin (v := V.non) (u := Value.none) J rfl q
  | brk =>
    obtain ⟨_, _, _, q⟩ := hs
    exact False.elim q
  | cont =>
    obtain ⟨_, _, _, q⟩ := hs
    exact False.elim q
theorem fn_mk {x qual : Str} {st : Stmt} {N : List Str} (F : L2.Fun K x qual st f fd) (Sc : FnScope N ps (defScope st)) (len : ∀ ss O R, S ss O R → ss.length = ps.length)
    (body : ∀ (cdv : Value) (A : Around) (outer : List Env) (s : Shared) (H : Hp) (E : XK) (ss : List Slot) (O : Own) (R : Out → Own → Prop), RoomB g k (cxOf (L2.CX P w) P w K mg base N qual (defScope st) f cdv A outer s H E).A →
      PassesOwn (model P w) (cxOf (L2.CX P w) P w K mg base N qual (defScope st) f cdv A outer s H E).A (cxOf (L2.CX P w) P w K mg base N qual (defScope st) f cdv A outer s H E).env (cxOf (L2.CX P w) P w K mg base N qual (defScope st) f cdv A outer s H E).xe → S ss O R →
      SW (cxOf (L2.CX P w) P w K mg base N qual (defScope st) f cdv A outer s H E) O (startS N ss) (defBody st) (fun e _ O' => R (.exc e) O') { nx := fun _ O' => R (.ret (.dat .non)) O', rt := fun z O' => R (.ret z) O' }) :
    Fn P w K mg base g (k + 1) f fd ps S := fn_mkX (funX_of F) Sc len body
end
/-- a module's def by its name, with its contract and the defaults that fill up -/
def Cal (P : Program) (w : World) (K : PySem.W.Frag) (mg : Str → Option Value) (base : Heap) (g : Bool) (k : Nat) (nm : Str) (S : SpecT) (df : List Dat) : Prop :=
  ∃ (f : Addr) (fd : FuncData) (ps : List Str) (ds : List Value) (dvs : List V), mg nm = some (.ref f) ∧ PySem.W.keepIn K (.ref f) = true ∧ Fn P w K mg base g k f fd ps S ∧ Binds K fd ps ds ∧ Vals dvs ds ∧ ∀ G, RpA K G dvs df
section
variable {X : Cx} {O : Own} {ρ : List Slot} {x : ExK} {k k' : Slot → Own → Prop} {kl kl' : List Slot → Own → Prop} {e a b c : Expr} {es : List Expr} {pos p : Pos} {D : SD} {g g' : Bool} {j n : Nat} {S : SpecT} {df : List Dat}
theorem StOk.next {K : PySem.W.Frag} {H0 H H' : Hp} {O O' : Own} {σ : SV} {ρ : List Slot} (h : StOk K H0 O σ ρ H) (o : OwnOk K O' H') (s : Same (hid O H) (hid O' H')) : StOk K H0 O' σ ρ H' :=
  ⟨o, h.base.trans s, pmap (fun _ _ z => EnvOk.mono s z) h.env⟩
/-- what follows a call -/
@[reducible] def kOut (x : ExK) (ρ : List Slot) (k : Slot → Own → Prop) : Out → Own → Prop
  | .ret s, O => k s O
  | .exc e, O => x e ρ O
theorem run_call {f : Addr} {fd : FuncData} {ps : List Str} {ds : List Value} {dvs vs : List V} {us : List Value} {ss : List Slot} {pins : List (Addr × Obj)} {s : Shared} {σ : SV} {H0 H : Hp} {Q : VK}
    (F : Fn X.prog X.w X.K X.mg X.base g n f fd ps S) (hr : RoomB g n X.A) (hb : Binds X.K fd ps ds) (hd : Vals dvs ds) (hdf : ∀ G, RpA X.K G dvs df) (I : Inv X pins σ H s) (st : StOk X.K H0 O σ ρ H) (tk : Takes X (Wsem X.K H0 x)) (rv : Vals vs us)
    (pr : Paired (SlOk X.K (hid O H)) vs ss) (hS : S (ss ++ df.map .dat) O (kOut x ρ k)) (q : ∀ v H' s O', k s O' → StOk X.K H0 O' σ ρ H' → SlOk X.K (hid O' H') v s → Q v H') :
    wpAny (model X.prog X.w) X.A (call (.ref f) us) (EP X pins σ Q) X.xe s := by
  have r2 : Vals (vs ++ dvs) (us ++ ds) := rv.append hd
  have sp : spS X.K S (vs ++ dvs) H Q (fun cls d H' => Wsem X.K H0 x cls d σ H') := ⟨O, ss ++ df.map .dat, kOut x ρ k, st.own, paired_app pr (hdf _).paired, hS,
    fun v H' s' O' h1 h2 h3 h4 => q v H' s' O' h1 (st.next h2 h3) h4, fun cls d e H' O' h1 h2 h3 h4 => ⟨e, ρ, O', h1, st.next h2 h3, h4⟩⟩
  have hl : (us ++ ds).length = ps.length := by rw [← r2.length]; exact spS_len F.len _ _ _ _ sp
  refine wpAny_call (codeAny_mono (F.run X.A X.stack s H ⟨us, []⟩ (us ++ ds) (vs ++ dvs) Q _ hr I.env0 (hb s us I.kIn hl) r2 sp) fun r s' hq => ?_)
  cases r with
  | error e => exact tk e s' (XE.of_call I (fun _ _ _ h => h) hq)
  | ok fl =>
    cases fl with
    | ret u => exact I.after hq
    | next => exact False.elim hq
    | brk => exact False.elim hq
    | cont => exact False.elim hq
theorem ew_call {nm : Str} (cl : Cal X.prog X.w X.K X.mg X.base g n nm S df) (hr : RoomB g' j X.A) (h : AW X O ρ (e :: es) x fun ss O1 => S (ss ++ df.map .dat) O1 (kOut x ρ k)) (hj : n ≤ j := by decide) (hgg : g = true → g' = true := by first | exact fun _ => rfl | exact fun h => h | exact fun h => nomatch h)
    (hg : Gl X nm := by rfl) (hdb : (nm == ("__debug__" : Str)) = false := by decide) (he : starEach (e :: es) X.env = (false, eval e X.env) :: starEach es X.env := by rfl) (hpl : (backTo pos (starEach es X.env)).any (·.1) = false := by rfl) :
    EW X O ρ (.Call (.Name nm p) (e :: es) [] pos) x k := fun H0 σ H st tk Q q => ⟨fun pins s I => by
  obtain ⟨f, fd, ps, ds, dvs, hm, hk, F, hb, hd, hdf⟩ := cl
  refine wpAny_Call_Name_kw (ld_glob I hg hm ?_ hdb)
  refine PySem.W.callWith_K (h₀ := X.base) I.ok.mod.kin hk (thn ((pa_w (es := e :: es)).run pos pins s σ H (fun vs H1 => ∃ ss O1, StOk X.K H0 O1 σ ρ H1 ∧ Paired (SlOk X.K (hid O1 H1)) vs ss ∧ S (ss ++ df.map .dat) O1 (kOut x ρ k)) I (h H0 σ H st tk _ fun vs H1 ss O1 h1 st1 r1 => ⟨ss, O1, st1, r1, h1⟩)) fun us s1 hq => ?_) he hpl
  obtain ⟨vs, H1, I1, rv, ss, O1, st1, pr, hS⟩ := hq
  exact ⟨I1.kIn, run_call F (hr.mono hj hgg) hb hd hdf I1 st1 tk rv pr hS q⟩⟩
/-- what the written part says of such a class, its own __init__ with a contract -/
structure ExCls (P : Program) (w : World) (K : PySem.W.Frag) (mg : Str → Option Value) (base : Heap) (n : Nat) (nm : Str) (C : Addr) (S : SpecT) : Prop where
  oex : OexC K C
  mgC : mg nm = some (.ref C)
  ini : ∃ (f : Addr) (fd : FuncData) (ps : List Str), PySem.W.findIn K (.ref C) "__init__" = some (some (.ref f)) ∧ PySem.W.typeIn K (.ref f) = some (.type "function") ∧ Fn P w K mg base false n f fd ps S ∧ Binds K fd ps []
/-- __init__ of such a class: the new exception at a -/
def MkEx (C : Addr) (S : SpecT) (x : ExK) (ρ : List Slot) : List Slot → Own → Prop := fun ss O1 => ss.length ≤ 1000 ∧ ∀ a, O1 a = none → S (.own a :: ss) (up O1 a (.exo C none)) fun o O2 =>
  ∃ s, o = .ret s ∧ s = .dat .non ∧ ∃ (d : Addr) (fs : List (Str × Dat)), O2 a = some (.exo C (some d)) ∧ O2 d = some (.exd (fs.map fun q => (q.1, .dat q.2))) ∧ O1 d = none ∧ x (.own C fs) ρ (dn (dn O2 a) d)
theorem s1_raise {nm : Str} {C : Addr} {pos2 : Pos} (cl : ExCls X.prog X.w X.K X.mg X.base n nm C S) (hr : RoomB g' j X.A) (h : AW X O ρ (e :: es) x (MkEx C S x ρ)) (hj : n + 1 ≤ j := by decide) (hc : X.calm = true := by rfl)
    (hg : Gl X nm := by rfl) (hdb : (nm == ("__debug__" : Str)) = false := by decide) (he : starEach (e :: es) X.env = (false, eval e X.env) :: starEach es X.env := by rfl) (hpl : (backTo pos (starEach es X.env)).any (·.1) = false := by rfl) :
    S1 X O ρ (.Raise (some (.Call (.Name nm p) (e :: es) [] pos)) none pos2) x D := fun H0 σ H st tk E ok => by
  obtain ⟨f, fd, ps, iC, tI, F, hb⟩ := cl.ini
  have pm := pmk_oex (X := X) (p := p) (pos := pos) (CX := L2.CX X.prog X.w) (sp := spS X.K S) (dvs := []) (ds := []) cl.oex iC tI F.ok (hr.r.mono hj) hb .nil passL hg cl.mgC (pa_w (es := e :: es)) hdb he hpl
  refine ws_of (ps_raise hc tk pm) ?_
  refine h H0 σ H st tk _ fun vs H1 ss O1 hm st1 pr => ?_
  obtain ⟨hl, hm⟩ := hm
  refine ⟨by rw [paired_len pr]; exact hl, fun a ha => ?_⟩
  have hO : O1 a = none := own_free st1.own ha
  have st2 := st1.alloc (o := L2.exo a C none) (c := .exo C none) ha rfl
  rw [List.append_nil]
  refine ⟨up O1 a (.exo C none), .own a :: ss, _, st2.own, .cons rfl (pmap (fun _ _ z => SlOk.mono (by
    intro b o hb
    obtain ⟨z1, z2⟩ := of_hid hb
    have nb := ne_of_none z2 ha
    rw [hid_none (by rw [up_ne nb]; exact z1), upd_ne nb]
    exact z2) z) pr), hm a hO, fun v H2 s O2 hR own2 sm2 r2 => ?_, fun cls d ee H2 O2 hR => ?_⟩
  · obtain ⟨s', e1, e2, d, fs, ca, cd, nd, hx⟩ := hR
    cases e1
    subst e2
    cases r2
    obtain ⟨oa, ha1, ha2⟩ := own2.cell a _ ca
    obtain ⟨od, hd1, fv, hd2, hd3⟩ := own2.cell d _ cd
    subst ha2 hd2
    have nda : d ≠ a := fun z => by rw [z, ca] at cd; cases cd
    have sm1 : Same (hid O1 H1) (hid (up O1 a (.exo C none)) (upd H1 a (L2.exo a C none))) := fun b o hb => by
      obtain ⟨z1, z2⟩ := of_hid hb
      have nb := ne_of_none z2 ha
      rw [hid_none (by rw [up_ne nb]; exact z1), upd_ne nb]
      exact z2
    have hd0 : H1 d = none := by
      cases hz : H1 d with
      | none => rfl
      | some o =>
        have z1 : hid O1 H1 d = some o := by rw [hid_none nd]; exact hz
        have z2 := sm2 d o (sm1 d o z1)
        rw [hid_some cd] at z2; cases z2
    have gS : Same (hid O2 H2) (hid (dn (dn O2 a) d) (upd (del H2 a) d (.xd fv))) := fun b o hb => by
      obtain ⟨z1, z2⟩ := of_hid hb
      have nba : b ≠ a := fun z => by rw [z, ca] at z1; cases z1
      have nbd : b ≠ d := fun z => by rw [z, cd] at z1; cases z1
      rw [hid_none (by rw [dn_ne nbd, dn_ne nba]; exact z1), upd_ne nbd, del_ne nba]
      exact z2
    have own3 : OwnOk X.K (dn (dn O2 a) d) (upd (del H2 a) d (.xd fv)) := ⟨fun q c hq => by
      have nqd : q ≠ d := fun z => by rw [z, dn_at] at hq; cases hq
      rw [dn_ne nqd] at hq
      have nqa : q ≠ a := fun z => by rw [z, dn_at] at hq; cases hq
      rw [dn_ne nqa] at hq
      obtain ⟨o, z1, z2⟩ := own2.cell q c hq
      exact ⟨o, by rw [upd_ne nqd, del_ne nqa]; exact z1, ClOk.mono gS z2⟩⟩
    refine ⟨rfl, d, fv, ha1, hd1, hd0, _, ρ, _, hx, st1.next own3 ((sm1.trans sm2).trans gS), rfl, d, fv, rfl, dn_at, upd_same, RpF.of_paired (pmap (fun _ _ z => ⟨z.1, SlOk.mono gS z.2⟩) hd3)⟩
  · obtain ⟨s', e1, _⟩ := hR
    cases e1
end
end Kn
namespace Kn
open PySem PySem.Spec PyProof.Rows
open L2 hiding St
section
open PySem.W PySem.Calls
variable {prog : Program} {w : World} {A : Around} {E : Value → Shared → Prop} {s : Shared} {K : Frag} {x D : Addr} {ox : Obj} {od : Option Obj}
theorem class_of_exc {Q : Option Value → Shared → Prop} (T : ExcC K D) (X : K.In s.heap) (I : InstAt s.heap x ox D od) (h : Q (some (.ref D)) { s with toks := s.toks + 1 }) : wpAny (model prog w) A (getAttr? (.ref x) "__class__") Q E s :=
  kx_classE X I T.hg T.hk T.hs (findObj_dataE (let ⟨_, e, _⟩ := any_some T.hd; e ▸ rfl) T.ha T.hn T.ht) T.hm h
/-- an exception's class lies in K, as a class -/
theorem exc_cls (T : ExcC K D) : ∃ o, K.lookup D = some o ∧ (∃ cd, o.data = .cls cd) := by
  obtain ⟨cd, e, _⟩ := any_some T.hd
  unfold clsIn at e
  split at e
  · rename_i k
    exact ⟨_, k, _, rfl⟩
  · cases e
theorem kit_exc (T : ExcC K D) : KitX K (.ref x) (.ref D) (fun h => ∃ od, InstAt h x ox D od) where
  ty := fun _ _ _ ⟨_, I⟩ => I.type
  it := fun _ _ X _ A Q E s keep q => by
    obtain ⟨o, k, _, isCls⟩ := exc_cls T
    unfold isType loadHead
    refine wpAny_bind (wpAny_loadPart (keep _ _ (X _ _ k)) ?_)
    rw [isCls]
    exact wpAny_pure q
  ne := fun h tp dd its n sl X tup => by
    obtain ⟨o, k, _, isCls⟩ := exc_cls T
    rw [beq_eq_false_iff_ne]
    intro same
    rw [← Value.ref.inj same, X _ _ k] at tup
    rw [Option.some.inj tup] at isCls
    cases isCls
  ca := fun X ⟨_, I⟩ kk => class_of_exc T X I kk
end
section
variable {X : Cx} {O : Own} {ρ : List Slot} {x : ExK} {k k' : Slot → Own → Prop} {kl kl' : List Slot → Own → Prop} {e a b c o : Expr} {es : List Expr} {pos p p1 p2 p' : Pos} {D : SD} {g g' : Bool} {j n : Nat} {S : SpecT} {df : List Dat}
/-- Base.__init__(self, ..): Base a class of one's own (over ValueError) that has no __init__ -/
structure BaseIni (K : PySem.W.Frag) (mg : Str → Option Value) (nm : Str) : Prop where
  ex : ∃ (C : Addr) (mc : Value), mg nm = some (.ref C) ∧ ClX.CRead K C mc ∧ PySem.W.findCls K (.ref C) mc "__init__" = some (.val (.builtin "ValueError.__init__"))
theorem pe_kinit {nm : Str} {ta : TA} {pl : Sem Bool} (T : BaseIni X.K X.mg nm) (hg : Gl X nm) (ha : PA X (e :: es) ta)
    (hc : eval (.Call (.Attribute (.Name nm p1) "__init__" p2) (e :: es) [] pos) X.env = (do
      let ov ← eval (.Name nm p1) X.env
      standAt p2.atName
      let (f, first) ← holding [ov] (getMethod ov "__init__" pl)
      callWith pos f first (backTo pos (starEach (e :: es) X.env)) (backToKw pos (keywordEach [] X.env))) := by rfl)
    (he : starEach (e :: es) X.env = (false, eval e X.env) :: starEach es X.env := by rfl) (hpl : (backTo pos (starEach es X.env)).any (·.1) = false := by rfl) (hdb : (nm == ("__debug__" : Str)) = false := by decide) :
    PE X (.Call (.Attribute (.Name nm p1) "__init__" p2) (e :: es) [] pos) (tVeI X.K ta) := by
  obtain ⟨C0, mc, hm, hr, hf⟩ := T.ex
  constructor
  intro pins s σ H Q I want
  refine PySem.W.methodCall_KW (ld_glob I hg hm ?_ hdb) hc
  refine PySem.W.method_cls I.kIn hr.ga (PySem.W.cls_value I.kIn hr.rd hf (by decide +kernel) ?_)
  show wpAny _ _ (callWith pos _ _ _ _) _ _ _
  refine PyProof.Rows.callWith_method1 (thn (ha.run pos pins _ σ H _ (I.tok _) want) ?_) he hpl
  rintro us t ⟨vs, H1, I1, r1, a, C, ws, rfl, size, T, at_, q⟩
  cases r1 with
  | @cons _ u _ us' same rest =>
    cases (show u = Value.ref a from same)
    exact oinit_ok T I1 at_ (by rw [← Paired.length rest, sizeLine_eq]; omega) fun t J => ⟨.non, H1, J, rfl, q⟩
theorem ew_kinit {nm : Str} {pl : Sem Bool} (T : BaseIni X.K X.mg nm) (h : AW X O ρ (e :: es) x fun ss O1 => ∃ (a C : Addr) (ws : List Slot), ss = .own a :: ws ∧ ws.length ≤ 1000 ∧ OexC X.K C ∧ O1 a = some (.exo C none) ∧ k (.dat .non) O1) (hg : Gl X nm := by rfl)
    (hc : eval (.Call (.Attribute (.Name nm p1) "__init__" p2) (e :: es) [] pos) X.env = (do
      let ov ← eval (.Name nm p1) X.env
      standAt p2.atName
      let (f, first) ← holding [ov] (getMethod ov "__init__" pl)
      callWith pos f first (backTo pos (starEach (e :: es) X.env)) (backToKw pos (keywordEach [] X.env))) := by rfl)
    (he : starEach (e :: es) X.env = (false, eval e X.env) :: starEach es X.env := by rfl) (hpl : (backTo pos (starEach es X.env)).any (·.1) = false := by rfl) (hdb : (nm == ("__debug__" : Str)) = false := by decide) :
    EW X O ρ (.Call (.Attribute (.Name nm p1) "__init__" p2) (e :: es) [] pos) x k := fun H0 σ H st tk Q q =>
  we_of (pe_kinit (pl := pl) T hg pa_w hc he hpl hdb) (h H0 σ H st tk _ fun vs H1 ss O1 ⟨a, C, ws, e1, h1, h2, h3, h4⟩ st1 pr => by
    subst e1
    cases pr with
    | cons r1 r2 =>
      rename_i v vs'
      obtain rfl : v = .ref a := r1
      obtain ⟨oa, z1, z2⟩ := st1.own.cell a _ h3
      subst z2
      exact ⟨a, C, vs', rfl, by rw [paired_len r2]; exact h1, h2, z1, q _ H1 _ O1 h4 st1 .non⟩)
/-- self.f = e, self an exception that is being made -/
theorem s1_ost {f : Str} (h : EW X O ρ e x fun s1 O1 => EW X O1 ρ o x fun s2 O2 => ∃ a C, s2 = .own a ∧ OexC X.K C ∧ PySem.W.findIn X.K (.ref C) f = some none ∧
      ((O2 a = some (.exo C none) ∧ ∀ dx, O2 dx = none → D.nx ρ (up (up O2 dx (.exd [(f, s1)])) a (.exo C (some dx)))) ∨
        ∃ dx fs, O2 a = some (.exo C (some dx)) ∧ O2 dx = some (.exd fs) ∧ fs.length ≤ 900 ∧ D.nx ρ (up O2 dx (.exd ((f, s1) :: fs)))))
    (hs : swapsWith e (some (.Attribute o f p')) pos.line X.env = pure false := by rfl) : S1 X O ρ (.Assign [.Attribute o f p'] e pos) x D := fun H0 σ H st tk E ok => by
  refine ws_of (ps_ost pe_w pe_w hs) (two h st tk (Q := fun y v2 H2 => ∃ a C : Addr, v2 = .ref a ∧ OexC X.K C ∧ PySem.W.findIn X.K (.ref C) f = some none ∧ ((H2 a = some (exo a C none) ∧ ∀ dx, H2 dx = none → dx ≠ a → E.nx σ (upd (upd H2 dx (exd dx [(f, y)])) a (exo a C (some dx)))) ∨
    ∃ (dx : Addr) (fs : List (Str × V)), H2 a = some (exo a C (some dx)) ∧ H2 dx = some (exd dx fs) ∧ fs.length ≤ 900 ∧ E.nx σ (upd H2 dx (exd dx ((f, y) :: fs))))) fun y v2 s1 s2 O2 H2 hp st2 r1 r2 => ?_)
  obtain ⟨a, C, e1, h1, h2, h3⟩ := hp
  subst e1
  obtain rfl : v2 = .ref a := r2
  refine ⟨a, C, rfl, h1, h2, ?_⟩
  rcases h3 with ⟨ca, hn⟩ | ⟨dx, fs, ca, cd, hl, hn⟩
  · obtain ⟨oa, z1, z2⟩ := st2.own.cell a _ ca
    subst z2
    refine .inl ⟨z1, fun dx hd nda => ?_⟩
    have hO := own_free st2.own hd
    have st3 := st2.alloc (o := exd dx [(f, y)]) (c := .exd [(f, s1)]) hd ⟨_, rfl, .cons ⟨rfl, r1⟩ .nil⟩
    have st4 := st3.write (p := a) (o := exo a C (some dx)) (c := .exo C (some dx)) (by rw [up_ne nda.symm]; exact ca) rfl
    exact ok.nx σ ρ _ _ (hn dx hO) st4
  · obtain ⟨oa, z1, z2⟩ := st2.own.cell a _ ca
    subst z2
    obtain ⟨od, z3, fv, z4, z5⟩ := st2.own.cell dx _ cd
    subst z4
    refine .inr ⟨dx, fv, z1, z3, by rw [paired_len z5]; exact hl, ?_⟩
    exact ok.nx σ ρ _ _ hn (st2.write (o := exd dx ((f, y) :: fv)) (c := .exd ((f, s1) :: fs)) cd ⟨_, rfl, .cons ⟨rfl, r1⟩ z5⟩)
def ExMt (K : PySem.W.Frag) (e : Exn) (c : Value) (b : Bool) : Prop := match e with
  | .own C _ => PySem.W.exmOne K (.ref C) c = some b
  | .ty n => PySem.W.exmOne K (.type n) c = some b
theorem exMt_of {K : PySem.W.Frag} {O : Own} {H : Hp} {cls : Value} {d : Option Addr} {e : Exn} {c : Value} {b : Bool} (h : ExMt K e c b) (q : ExOk K O H cls d e) : PySem.W.exmOne K cls c = some b := by
  cases e with
  | own C fs => rw [q.1]; exact h
  | ty n =>
    have q : cls = .type n := q
    rw [q]; exact h
/-- the suite of a clause, for each way in which the exception may lie; i: the place of its name -/
def Suite (X : Cx) (i : Option Nat) (suite : List Stmt) (D : SD) (e : Exn) (ρ : List Slot) (O : Own) : Prop := match e with
  | .own C fs => ∀ (a dd : Addr) (oe : Obj) (pn : List (Addr × Obj)), Zc (.ref C) (some dd) oe → (∃ vs, oe.data = .fields vs) → O a = none →
      SW (X.suite a ((a, oe) :: pn)) O (match i with | some j => ρ.set j (.dat (.exc a dd fs)) | none => ρ) suite noX D
  | .ty n => ∀ (a : Addr) (d : Option Addr) (oe : Obj) (pn : List (Addr × Obj)), Zc (.type n) d oe → (∃ vs, oe.data = .fields vs) → O a = none →
      SW (X.suite a ((a, oe) :: pn)) O (match i with | some j => ρ.set j (.own a) | none => ρ) suite noX D
theorem StOk.unset {K : PySem.W.Frag} {H0 H : Hp} {σ : SV} (h : StOk K H0 O σ ρ H) (i : Nat) : StOk K H0 O (σ.set i none) (ρ.set i .unk) H := ⟨h.own, h.base, paired_set (x := none) env_none i h.env⟩
theorem suite_of {i : Option Nat} {suite : List Stmt} {ex : Exn} {H0 H : Hp} {σ : SV} {cls : Value} {d : Option Addr} {E : Ends} {a : Addr} {oe : Obj} {pn : List (Addr × Obj)} (h : Suite X i suite D ex ρ O) (st : StOk X.K H0 O σ ρ H) (hx : ExOk X.K O H cls d ex) (ha : H a = none)
    (hz : Zc cls d oe) (hf : ∃ vs, oe.data = .fields vs) (ok : EndsOk X.K H0 D E) : Wss (X.suite a ((a, oe) :: pn)) suite E (match i with | some j => σ.set j (some (.ref a)) | none => σ) H := by
  have hO := own_free st.own ha
  cases ex with
  | own C fs =>
    obtain ⟨e1, dd, fv, e2, n1, h1, h2⟩ := hx
    subst e1 e2
    have rr : SlOk X.K (hid O H) (.ref a) (.dat (.exc a dd fs)) := Rp.exc (by rw [hid_none n1]; exact h1) h2
    cases i with
    | none => exact h a dd oe pn hz hf hO H0 σ H st takes_no E ok
    | some j => exact h a dd oe pn hz hf hO H0 _ H (st.set (i := j) rr) takes_no E ok
  | ty nn =>
    have e1 : cls = .type nn := hx
    subst e1
    cases i with
    | none => exact h a d oe pn hz hf hO H0 σ H st takes_no E ok
    | some j => exact h a d oe pn hz hf hO H0 _ H (st.set (i := j) (v := .ref a) (s := .own a) rfl) takes_no E ok
/-- except C as n -/
theorem s1_try_as {nm nn : Str} {cc : Value} {body suite : List Stmt} {b₀ : Stmt} {np pos' : Pos} (i : Nat) (hN : X.N.Nodup) (hcn : Names X nm cc)
    (h : ∀ (pn : List (Addr × Obj)) (xe : Value → Shared → Prop), PassesOwn (model X.prog X.w) X.A X.env xe → SW (X.tr pn xe) O ρ body
      (fun e ρ' O' => ∃ t, ExMt X.K e cc t ∧ (t = true → Suite X (some i) (b₀ :: suite) { nx := fun ρ2 O2 => D.nx (ρ2.set i .unk) O2, rt := D.rt, bk := fun ρ2 O2 => D.bk (ρ2.set i .unk) O2, ct := fun ρ2 O2 => D.ct (ρ2.set i .unk) O2 } e ρ' O') ∧ (t = false → x e ρ' O')) D)
    (hs : X.stack = X.env :: X.outer := by rfl) (hf : X.env.frame = some X.env.locals := by rfl) (hi : X.N[i]? = some nn := by rfl) (hln : X.env.kindOf nn = some .local := by rfl) :
    S1 X O ρ (.Try body [.ExceptHandler (some (.Name nm np)) (some nn) (b₀ :: suite) pos'] [] [] pos) x D := fun H0 σ H st tk E ok => by
  refine ws_of (ps_try_as (X := X) (tb := fun W D σ H => ∀ pn xe, Takes (X.tr pn xe) W → PassesOwn (model X.prog X.w) X.A X.env xe → Wss (X.tr pn xe) body D σ H)
    (ts := fun a cls d D σ H => ∀ oe pn, Zc cls d oe → (∃ vs, oe.data = .fields vs) → Wss (X.suite a ((a, oe) :: pn)) (b₀ :: suite) D σ H) hs hf hN hi hln hcn tk
    (fun W pn xe tkW hpo => ⟨fun pins s σ H D I q => (q pn xe tkW hpo).r pins s I⟩) (fun a oe cls d pn hz hf => ⟨fun pins s σ H D I q => (q oe pn hz hf).r pins s I⟩)) ?_
  intro pn xe tkW hpo
  refine h pn xe hpo H0 σ H st (tkW.imp fun cls d σ' H' hw => ?_) E ok
  obtain ⟨ex, ρ', O', ⟨t, hm, hy, hn⟩, st', hx⟩ := hw
  refine ⟨t, exMt_of hm hx, fun ht a ha oe pn' hz hf' => ?_, fun ht => ⟨ex, ρ', O', hn ht, st', hx⟩⟩
  exact suite_of (i := some i) (hy ht) st' hx ha hz hf' ⟨fun σ2 ρ2 O2 H2 q s => ok.nx _ _ O2 H2 q (s.unset i), ok.rt, fun σ2 ρ2 O2 H2 q s => ok.bk _ _ O2 H2 q (s.unset i), fun σ2 ρ2 O2 H2 q s => ok.ct _ _ O2 H2 q (s.unset i)⟩
theorem ew_exf {f : Str} {aa dd C : Addr} {oe : Obj} {pn : List (Addr × Obj)} (T : XfC X.K C) (hno : PySem.W.findIn X.K (.ref C) f = some none) (hz : Zc (.ref C) (some dd) oe) (hf : ∃ vs, oe.data = .fields vs)
    (h : EW (X.suite aa ((aa, oe) :: pn)) O ρ e x fun s O1 => ∃ fs d, s = .dat (.exc aa dd fs) ∧ fs.lookup f = some d ∧ k (.dat d) O1) (hb : attributeBase e f X.env (eval e X.env) = eval e X.env := by rfl) :
    EW (X.suite aa ((aa, oe) :: pn)) O ρ (.Attribute e f pos) x k := fun H0 σ H st tk Q q =>
  we_of (pe_xf T hno hz hf pe_w hb) (h H0 σ H st tk _ fun v H1 s O1 ⟨fs, d, e1, h1, h2⟩ st1 r1 => by
    subst e1
    cases r1 with
    | exc h3 h4 =>
      obtain ⟨v, h5, h6⟩ := h4.lookup h1
      exact ⟨rfl, rfl, dd, _, v, rfl, hid_le _ _ h3, h5, q v H1 _ O1 h2 st1 h6⟩)
theorem cb_isE {aa dd C C' : Addr} {oe : Obj} {pn : List (Addr × Obj)} {fs : List (Str × Dat)} {t : Bool} (T : ExcC X.K C) (hz : Zc (.ref C) (some dd) oe) (hf : ∃ vs, oe.data = .fields vs) (hk : PySem.W.kitOne X.K (.ref C) (.ref C') = some t) (h : k (.dat (.bl t)) O) :
    CaB (X.suite aa ((aa, oe) :: pn)) (.builtin "isinstance") [.dat (.exc aa dd fs), .dat (.cls C')] O k := by
  refine ⟨fun xs H Q => xs = [.ref aa, .ref C'] ∧ (∃ fv, H dd = some (.xd fv)) ∧ Q (.bl t) H, ?_, ?_⟩
  · intro pins s σ H xs us Q I r hq
    obtain ⟨rfl, ⟨fv, hdd⟩, q⟩ := hq
    cases r with
    | cons rx rr =>
      cases rr with
      | cons rt rr =>
        cases rr
        cases rx
        cases rt
        obtain ⟨hget, _⟩ := I.pin (aa, oe) (List.mem_append.mpr (.inl List.mem_cons_self))
        obtain ⟨vs, hv⟩ := hf
        have hx : ObjOk X.prog X.w H s.heap dd (.xd fv) := I.hok dd _ hdd
        obtain ⟨mA, hns, _⟩ := hx
        obtain ⟨od, ho, _⟩ := lookIn_ns hns
        have J : PySem.W.InstAt s.heap aa oe C (some od) := ⟨hget, hz.1, by unfold PySem.W.notCls; rw [hv] <;> rfl, by rw [hz.2]; exact ho⟩
        exact PySem.W.kia_one (kit_exc T) I.kIn ⟨_, J⟩ hk (fun z => nomatch z) fun tk => ⟨.bl t, H, I.kept (t' := tk) fun _ _ z => z, rfl, q⟩
  · intro H0 σ ρ H vs st pr Q q
    cases pr with
    | cons r1 pr =>
      cases pr with
      | cons r2 pr =>
        cases pr
        cases r1 with
        | exc h3 h4 =>
          cases r2
          exact ⟨rfl, ⟨_, hid_le _ _ h3⟩, q _ H _ O h st (.bl t)⟩
end
end Kn
namespace Kn
open PySem PySem.Spec PyProof.Rows
open L2 hiding St
def kyP : Key → PyData
  | .inl i => .int i
  | .inr z => .str z
mutual
def toPy : Dat → PyData
  | .non => .none
  | .bl b => .bool b
  | .int i => .int i
  | .str x => .str x
  | .lst xs => .list (toPys xs)
  | .fro xs => .list (toPys xs)
  | .tup xs => .tuple (toPys xs)
  | .key ks => .tuple (ks.map kyP)
  | _ => .none
def toPys : List Dat → List PyData
  | [] => []
  | d :: ds => toPy d :: toPys ds
end
mutual
def plain : Dat → Bool
  | .non => true
  | .bl _ => true
  | .int _ => true
  | .str _ => true
  | .lst xs => plains xs
  | .fro xs => plains xs
  | .tup xs => plains xs
  | .key _ => true
  | _ => false
def plains : List Dat → Bool
  | [] => true
  | d :: ds => plain d && plains ds
end
section
variable {K : PySem.W.Frag} {G H : Hp} {O : Own}
theorem dp_keys : ∀ ks : List Key, DpAll K G (ks.map kV) (ks.map kyP)
  | [] => .nil
  | .inl i :: ks => .cons (.int i) (dp_keys ks)
  | .inr z :: ks => .cons (.str z) (dp_keys ks)
mutual
theorem Rp.dp {v : V} : ∀ {d : Dat}, plain d = true → Rp K G v d → Dp K G v (toPy d)
  | .non, _, h => by cases h; exact .non
  | .bl b, _, h => by cases h; exact .bl b
  | .int i, _, h => by cases h; exact .int i
  | .str x, _, h => by cases h; exact .str x
  | .lst ds, p, h => by
    cases h with
    | lst h1 h2 => exact .lst (sql_at h1) (RpA.dp p h2)
  | .fro ds, p, h => by
    cases h with
    | fro h1 h2 => exact .lst h1 (RpA.dp p h2)
  | .tup ds, p, h => by
    cases h with
    | tup h1 h2 => exact .tup h1 (RpA.dp p h2)
  | .key ks, _, h => by
    cases h with
    | key h1 => exact .tup (.inl (.inl h1)) (dp_keys ks)
theorem RpA.dp : ∀ {vs : List V} {ds : List Dat}, plains ds = true → RpA K G vs ds → DpAll K G vs (toPys ds)
  | _, [], _, h => by cases h; exact .nil
  | _, d :: ds, p, h => by
    cases h with
    | cons h1 h2 =>
      obtain ⟨p1, p2⟩ := Bool.and_eq_true_iff.mp p
      exact .cons (Rp.dp p1 h1) (RpA.dp p2 h2)
end
theorem Rp.tk {v : V} {d : Dat} (h : Rp K (hid O H) v d) : Rp K H v d := Rp.mono hid_le h
end
section
variable {X : Cx} {O : Own} {ρ : List Slot} {x : ExK} {k k' : Slot → Own → Prop} {kl kl' : List Slot → Own → Prop} {e a b c o : Expr} {es : List Expr} {pos p apos : Pos} {D : SD}
theorem ob_add {i j : Int} (h : k (.dat (.int (i + j))) O) : OpB X (binaryOp .Add) (.dat (.int i)) (.dat (.int j)) O k := ⟨_, op_add, fun H0 σ ρ H v1 v2 st r1 r2 Q q => by
  cases r1; cases r2; exact ⟨i, j, rfl, rfl, q _ H _ O h st (.int _)⟩⟩
theorem ob_sub {i j : Int} (h : k (.dat (.int (i - j))) O) : OpB X (binaryOp .Sub) (.dat (.int i)) (.dat (.int j)) O k := ⟨_, op_sub, fun H0 σ ρ H v1 v2 st r1 r2 Q q => by
  cases r1; cases r2; exact ⟨i, j, rfl, rfl, q _ H _ O h st (.int _)⟩⟩
theorem ob_mul {i j : Int} (hb : (-(2 ^ 64) < i ∧ i < 2 ^ 64) ∨ (-(2 ^ 64) < j ∧ j < 2 ^ 64)) (h : k (.dat (.int (i * j))) O) : OpB X (binaryOp .Mult) (.dat (.int i)) (.dat (.int j)) O k := ⟨_, op_mul, fun H0 σ ρ H v1 v2 st r1 r2 Q q => by
  cases r1; cases r2; exact ⟨i, j, rfl, rfl, hb, q _ H _ O h st (.int _)⟩⟩
theorem ob_mod {i j : Int} (hb : 0 < j) (h : k (.dat (.int (i % j))) O) : OpB X (binaryOp .Mod) (.dat (.int i)) (.dat (.int j)) O k := ⟨_, op_mod, fun H0 σ ρ H v1 v2 st r1 r2 Q q => by
  cases r1; cases r2; exact ⟨i, j, rfl, rfl, hb, q _ H _ O h st (.int _)⟩⟩
theorem ob_fdiv {i j : Int} (hb : 0 < j ∧ j < 1073741824) (h : k (.dat (.int (i / j))) O) : OpB X (binaryOp .FloorDiv) (.dat (.int i)) (.dat (.int j)) O k := ⟨_, op_fdiv, fun H0 σ ρ H v1 v2 st r1 r2 Q q => by
  cases r1; cases r2; exact ⟨i, j, rfl, rfl, hb, q _ H _ O h st (.int _)⟩⟩
theorem ob_pow {i j : Int} (hb : 0 ≤ j ∧ j ≤ 1000000 ∧ i.natAbs < 2 ^ 64) (h : k (.dat (.int (i ^ j.toNat))) O) : OpB X (binaryOp .Pow) (.dat (.int i)) (.dat (.int j)) O k := ⟨_, op_pow, fun H0 σ ρ H v1 v2 st r1 r2 Q q => by
  cases r1; cases r2; exact ⟨i, j, rfl, rfl, hb, q _ H _ O h st (.int _)⟩⟩
theorem ob_lt {i j : Int} (h : k (.dat (.bl (decide (i < j)))) O) : OpB X (compareOp .Lt) (.dat (.int i)) (.dat (.int j)) O k := ⟨_, op_lt, fun H0 σ ρ H v1 v2 st r1 r2 Q q => by
  cases r1; cases r2; exact ⟨i, j, rfl, rfl, q _ H _ O h st (.bl _)⟩⟩
theorem ob_le {i j : Int} (h : k (.dat (.bl (decide (i ≤ j)))) O) : OpB X (compareOp .LtE) (.dat (.int i)) (.dat (.int j)) O k := ⟨_, op_le, fun H0 σ ρ H v1 v2 st r1 r2 Q q => by
  cases r1; cases r2; exact ⟨i, j, rfl, rfl, q _ H _ O h st (.bl _)⟩⟩
theorem ob_gt {i j : Int} (h : k (.dat (.bl (decide (j < i)))) O) : OpB X (compareOp .Gt) (.dat (.int i)) (.dat (.int j)) O k := ⟨_, op_gt, fun H0 σ ρ H v1 v2 st r1 r2 Q q => by
  cases r1; cases r2; exact ⟨i, j, rfl, rfl, q _ H _ O h st (.bl _)⟩⟩
theorem ob_ge {i j : Int} (h : k (.dat (.bl (decide (j ≤ i)))) O) : OpB X (compareOp .GtE) (.dat (.int i)) (.dat (.int j)) O k := ⟨_, op_ge, fun H0 σ ρ H v1 v2 st r1 r2 Q q => by
  cases r1; cases r2; exact ⟨i, j, rfl, rfl, q _ H _ O h st (.bl _)⟩⟩
theorem ou_neg {i : Int} (h : k (.dat (.int (-i))) O) : OpU X (unaryOp .USub) (.dat (.int i)) O k := ⟨_, un_neg, fun H0 σ ρ H v1 st r1 Q q => by
  cases r1; exact ⟨i, rfl, q _ H _ O h st (.int _)⟩⟩
def eqD (a b : Dat) : Bool := PyData.eqv (toPy a) (toPy b)
theorem ob_eq {d1 d2 : Dat} (hr : Room 0 X.A) (p1 : plain d1 = true) (p2 : plain d2 = true) (s1 : SeqAt.shaped (toPy d1) = true) (s2 : SeqAt.shaped (toPy d2) = true) (h : k (.dat (.bl (eqD d1 d2))) O) : OpB X (compareOp .Eq) (.dat d1) (.dat d2) O k :=
  ⟨_, op_eqD hr.units, fun H0 σ ρ H v1 v2 st r1 r2 Q q => ⟨_, _, Rp.dp p1 (Rp.tk r1), Rp.dp p2 (Rp.tk r2), s1, s2, q _ H _ O h st (.bl _)⟩⟩
theorem ob_ne {d1 d2 : Dat} (hr : Room 0 X.A) (p1 : plain d1 = true) (p2 : plain d2 = true) (s1 : SeqAt.shaped (toPy d1) = true) (s2 : SeqAt.shaped (toPy d2) = true) (h : k (.dat (.bl (!eqD d1 d2))) O) : OpB X (compareOp .NotEq) (.dat d1) (.dat d2) O k :=
  ⟨_, op_neD hr.units, fun H0 σ ρ H v1 v2 st r1 r2 Q q => ⟨_, _, Rp.dp p1 (Rp.tk r1), Rp.dp p2 (Rp.tk r2), s1, s2, q _ H _ O h st (.bl _)⟩⟩
theorem ob_eqI {i j : Int} (h : k (.dat (.bl (decide (i = j)))) O) : OpB X (compareOp .Eq) (.dat (.int i)) (.dat (.int j)) O k := ⟨_, op_eq, fun H0 σ ρ H v1 v2 st r1 r2 Q q => by
  cases r1; cases r2
  refine ⟨rfl, q _ H _ O h st ?_⟩
  rw [show decide (V.int i = V.int j) = decide (i = j) by by_cases e : i = j <;> simp [e]]
  exact .bl _⟩
theorem ob_neI {i j : Int} (h : k (.dat (.bl (!decide (i = j)))) O) : OpB X (compareOp .NotEq) (.dat (.int i)) (.dat (.int j)) O k := ⟨_, op_ne, fun H0 σ ρ H v1 v2 st r1 r2 Q q => by
  cases r1; cases r2
  refine ⟨rfl, q _ H _ O h st ?_⟩
  rw [show decide (V.int i = V.int j) = decide (i = j) by by_cases e : i = j <;> simp [e]]
  exact .bl _⟩
theorem ob_eqS {y z : Str} (h : k (.dat (.bl (decide (y = z)))) O) : OpB X (compareOp .Eq) (.dat (.str y)) (.dat (.str z)) O k := ⟨_, op_eq, fun H0 σ ρ H v1 v2 st r1 r2 Q q => by
  cases r1; cases r2
  refine ⟨rfl, q _ H _ O h st ?_⟩
  rw [show decide (V.str y = V.str z) = decide (y = z) by by_cases e : y = z <;> simp [e]]
  exact .bl _⟩
theorem ob_neS {y z : Str} (h : k (.dat (.bl (!decide (y = z)))) O) : OpB X (compareOp .NotEq) (.dat (.str y)) (.dat (.str z)) O k := ⟨_, op_ne, fun H0 σ ρ H v1 v2 st r1 r2 Q q => by
  cases r1; cases r2
  refine ⟨rfl, q _ H _ O h st ?_⟩
  rw [show decide (V.str y = V.str z) = decide (y = z) by by_cases e : y = z <;> simp [e]]
  exact .bl _⟩
theorem ob_eqB {y z : Bool} (h : k (.dat (.bl (decide (y = z)))) O) : OpB X (compareOp .Eq) (.dat (.bl y)) (.dat (.bl z)) O k := ⟨_, op_eq, fun H0 σ ρ H v1 v2 st r1 r2 Q q => by
  cases r1; cases r2
  refine ⟨rfl, q _ H _ O h st ?_⟩
  rw [show decide (V.bl y = V.bl z) = decide (y = z) by cases y <;> cases z <;> rfl]
  exact .bl _⟩
def isNon : Dat → Bool
  | .non => true
  | _ => false
theorem ob_isN {d : Dat} (h : k (.dat (.bl (isNon d))) O) : OpB X (compareOp .Is) (.dat d) (.dat .non) O k := ⟨_, op_isN, fun H0 σ ρ H v1 v2 st r1 r2 Q q => by
  cases r2
  refine ⟨rfl, q _ H _ O h st ?_⟩
  have e : decide (v1 = .non) = isNon d := by cases r1 <;> rfl
  rw [e]; exact .bl _⟩
theorem ob_isNotN {d : Dat} (h : k (.dat (.bl (!isNon d))) O) : OpB X (compareOp .IsNot) (.dat d) (.dat .non) O k := ⟨_, op_notN, fun H0 σ ρ H v1 v2 st r1 r2 Q q => by
  cases r2
  refine ⟨rfl, q _ H _ O h st ?_⟩
  have e : decide (v1 = .non) = isNon d := by cases r1 <;> rfl
  rw [e]; exact .bl _⟩
/-- a text among texts -/
theorem eqV_str (y z : Str) : eqV (.str y) (.str z) = (y == z) := rfl
theorem inV_strs {z : Str} : ∀ {ws : List Str}, inV (.str z) (ws.map V.str) = ws.any (· == z)
  | [] => rfl
  | y :: ws => by
    show (eqV (.str y) (.str z) || inV (.str z) (ws.map V.str)) = _
    rw [inV_strs, eqV_str]; rfl
theorem rpa_strs {K : PySem.W.Frag} {G : Hp} : ∀ {vs : List V} {ws : List Str}, RpA K G vs (ws.map .str) → vs = ws.map V.str
  | _, [], h => by cases h; rfl
  | _, w :: ws, h => by
    cases h with
    | cons h1 h2 =>
      cases h1
      rw [rpa_strs h2]; rfl
theorem all_flat (ws : List Str) : (ws.map V.str).all flatV = true := by
  induction ws with
  | nil => rfl
  | cons w ws ih =>
    rw [List.map_cons, List.all_cons, ih]; rfl
theorem ob_inT {z : Str} {ws : List Str} (h : k (.dat (.bl (ws.any (· == z)))) O) : OpB X (compareOp .In) (.dat (.str z)) (.dat (.tup (ws.map .str))) O k := ⟨_, op_in_seq, fun H0 σ ρ H v1 v2 st r1 r2 Q q => by
  cases r1
  cases r2 with
  | tup h1 h2 =>
    have e := rpa_strs h2
    subst e
    refine ⟨_, _, rfl, .inr (sqt_mono hid_le h1), rfl, all_flat ws, q _ H _ O h st ?_⟩
    rw [inV_strs]; exact .bl _⟩
theorem ob_niT {z : Str} {ws : List Str} (h : k (.dat (.bl (!ws.any (· == z)))) O) : OpB X (compareOp .NotIn) (.dat (.str z)) (.dat (.tup (ws.map .str))) O k := ⟨_, op_notIn_seq, fun H0 σ ρ H v1 v2 st r1 r2 Q q => by
  cases r1
  cases r2 with
  | tup h1 h2 =>
    have e := rpa_strs h2
    subst e
    refine ⟨_, _, rfl, .inr (sqt_mono hid_le h1), rfl, all_flat ws, q _ H _ O h st ?_⟩
    rw [inV_strs]; exact .bl _⟩
theorem ob_inL {z : Str} {ws : List Str} (h : k (.dat (.bl (ws.any (· == z)))) O) : OpB X (compareOp .In) (.dat (.str z)) (.dat (.lst (ws.map .str))) O k := ⟨_, op_in_seq, fun H0 σ ρ H v1 v2 st r1 r2 Q q => by
  cases r1
  cases r2 with
  | lst h1 h2 =>
    have e := rpa_strs h2
    subst e
    refine ⟨_, _, rfl, .inl (sql_at (hid_le _ _ h1)), rfl, all_flat ws, q _ H _ O h st ?_⟩
    rw [inV_strs]; exact .bl _⟩
theorem ob_niL {z : Str} {ws : List Str} (h : k (.dat (.bl (!ws.any (· == z)))) O) : OpB X (compareOp .NotIn) (.dat (.str z)) (.dat (.lst (ws.map .str))) O k := ⟨_, op_notIn_seq, fun H0 σ ρ H v1 v2 st r1 r2 Q q => by
  cases r1
  cases r2 with
  | lst h1 h2 =>
    have e := rpa_strs h2
    subst e
    refine ⟨_, _, rfl, .inl (sql_at (hid_le _ _ h1)), rfl, all_flat ws, q _ H _ O h st ?_⟩
    rw [inV_strs]; exact .bl _⟩
/-- one sign in a text -/
theorem ob_inS {c : Nat} {z : Str} (h : k (.dat (.bl (decide (c ∈ z.cps.toList)))) O) : OpB X (compareOp .In) (.dat (.str ⟨#[c]⟩)) (.dat (.str z)) O k := ⟨_, op_in_sign, fun H0 σ ρ H v1 v2 st r1 r2 Q q => by
  cases r1; cases r2; exact ⟨c, z, rfl, rfl, q _ H _ O h st (.bl _)⟩⟩
theorem ob_niS {c : Nat} {z : Str} (h : k (.dat (.bl (!decide (c ∈ z.cps.toList)))) O) : OpB X (compareOp .NotIn) (.dat (.str ⟨#[c]⟩)) (.dat (.str z)) O k := ⟨_, op_notIn_sign, fun H0 σ ρ H v1 v2 st r1 r2 Q q => by
  cases r1; cases r2; exact ⟨c, z, rfl, rfl, q _ H _ O h st (.bl _)⟩⟩
theorem ob_cat {y z : Str} (hl : y.length + z.length ≤ sizeLine) (h : k (.dat (.str (y ++ z))) O) : OpB X (binaryOp .Add) (.dat (.str y)) (.dat (.str z)) O k := ⟨_, op_add_str, fun H0 σ ρ H v1 v2 st r1 r2 Q q => by
  cases r1; cases r2; exact ⟨y, z, rfl, rfl, hl, q _ H _ O h st (.str _)⟩⟩
theorem ob_catL {ds es : List Dat} (hl : ds.length + es.length ≤ sizeLine) (h : k (.dat (.lst (ds ++ es))) O) : OpB X (binaryOp .Add) (.dat (.lst ds)) (.dat (.lst es)) O k := ⟨_, op_cat, fun H0 σ ρ H v1 v2 st r1 r2 Q q => by
  cases r1 with
  | lst h1 h2 =>
    cases r2 with
    | lst h3 h4 =>
      refine ⟨_, _, _, _, rfl, rfl, hid_le _ _ h1, hid_le _ _ h3, by rw [h2.length, h4.length]; exact hl, fun p hp => q _ _ _ O h (st.grow (same_new hp)) ?_⟩
      exact .lst (by rw [hid_none (own_free st.own hp), upd_same]) (RpA.mono (hid_same (same_new hp)) (h2.append h4))⟩
theorem ob_catT {ds es : List Dat} (hl : ds.length + es.length ≤ sizeLine) (h : k (.dat (.tup (ds ++ es))) O) : OpB X (binaryOp .Add) (.dat (.tup ds)) (.dat (.tup es)) O k := ⟨_, op_catA, fun H0 σ ρ H v1 v2 st r1 r2 Q q => by
  cases r1 with
  | tup h1 h2 =>
    cases r2 with
    | tup h3 h4 =>
      refine ⟨_, _, _, _, rfl, rfl, sqt_mono hid_le h1, sqt_mono hid_le h3, by rw [h2.length, h4.length]; exact hl, fun e1 => ?_, fun e1 e2 => ?_, fun e1 e2 p hp => ?_⟩
      · subst e1
        cases h2
        exact q _ H _ O h st (.tup h3 h4)
      · subst e2
        cases h4
        rw [List.append_nil] at h
        exact q _ H _ O h st (.tup h1 h2)
      · refine q _ _ _ O h (st.grow (same_new hp)) ?_
        exact .tup (.inl (.inl (by rw [hid_none (own_free st.own hp), upd_same]))) (RpA.mono (hid_same (same_new hp)) (h2.append h4))⟩
theorem replicate_rp {K : PySem.W.Frag} {G : Hp} {vs : List V} {ds : List Dat} (h : RpA K G vs ds) : ∀ n, RpA K G (List.replicate n vs).flatten (List.replicate n ds).flatten
  | 0 => .nil
  | n + 1 => by
    rw [List.replicate_succ, List.replicate_succ, List.flatten_cons, List.flatten_cons]
    exact h.append (replicate_rp h n)
theorem ob_rep {ds : List Dat} {n : Int} (hn : -(2 ^ 63) ≤ n ∧ n < 2 ^ 63) (hl : ds.length * n.toNat ≤ sizeLine) (h : k (.dat (.lst (List.replicate n.toNat ds).flatten)) O) : OpB X (binaryOp .Mult) (.dat (.lst ds)) (.dat (.int n)) O k := ⟨_, op_rep, fun H0 σ ρ H v1 v2 st r1 r2 Q q => by
  cases r2
  cases r1 with
  | lst h1 h2 =>
    refine ⟨_, n, _, rfl, rfl, hid_le _ _ h1, hn.1, hn.2, by rw [h2.length]; exact hl, fun p hp => q _ _ _ O h (st.grow (same_new hp)) ?_⟩
    exact .lst (by rw [hid_none (own_free st.own hp), upd_same]) (RpA.mono (hid_same (same_new hp)) (replicate_rp h2 _))⟩
/-- a text n times -/
def timesS (z : Str) (n : Int) : Str := if n < 1 then Str.empty else if (n == 1 || z.length == 0) = true then z else ⟨(List.replicate n.toNat z.cps).foldl (· ++ ·) #[]⟩
theorem op_timesS : OpR X (binaryOp .Mult) (fun v1 v2 H Q => ∃ z n, v1 = .str z ∧ v2 = .int n ∧ n < 1000 ∧ -1000 < n ∧ z.length ≤ 1000 ∧ Q (.str (timesS z n)) H) := by
  intro pins s σ H y z v u Q I rx ry h
  obtain ⟨zz, n, rfl, rfl, h1, h2, h3, q⟩ := h
  obtain ⟨t, rfl⟩ := rx
  obtain ⟨t', rfl⟩ := ry
  have hlen : zz.length * n.toNat ≤ 1000 * 1000 := Nat.mul_le_mul h3 (by omega)
  have hT : Builtin.Str.tooLong (zz.length * n.toNat) = false := by
    unfold Builtin.Str.tooLong
    rw [sizeLine_eq]
    exact decide_eq_false (by omega)
  refine PySem.P.mul_str (by rw [decide_eq_false (by omega), decide_eq_false (by omega)]; rfl) (fun g1 g2 => ?_) (fun g1 g2 => ?_) ?_
  · have e1 : (2 ^ 63 - 1 : Int) / n ≥ (2 ^ 63 - 1) / 1000 := by
      have hn : 0 < n := by omega
      have := Int.ediv_nonneg (show (0 : Int) ≤ 2 ^ 63 - 1 by decide) (show (0 : Int) ≤ n by omega)
      refine (Int.le_ediv_iff_mul_le hn).mpr ?_
      have h5 : ((2 ^ 63 - 1 : Int) / 1000) * n ≤ ((2 ^ 63 - 1 : Int) / 1000) * 1000 := Int.mul_le_mul_of_nonneg_left (by omega) (by decide)
      have h6 : ((2 ^ 63 - 1 : Int) / 1000) * 1000 ≤ 2 ^ 63 - 1 := by decide
      omega
    have e2 : (1000 : Int) ≤ (2 ^ 63 - 1) / 1000 := by decide
    omega
  · exact hT
  · by_cases g1 : n < 1
    · rw [if_pos g1]
      have e : timesS zz n = Str.empty := if_pos g1
      rw [e] at q
      exact ⟨by decide, .str Str.empty, H, I.tok _, ⟨_, rfl⟩, q⟩
    · rw [if_neg g1]
      by_cases g2 : (n == 1 || zz.length == 0) = true
      · rw [if_pos g2]
        have e : timesS zz n = zz := by unfold timesS; rw [if_neg g1, if_pos g2]
        rw [e] at q
        exact ⟨.str zz, H, I, ⟨_, rfl⟩, q⟩
      · rw [if_neg g2]
        have e : timesS zz n = ⟨(List.replicate n.toNat zz.cps).foldl (· ++ ·) #[]⟩ := by unfold timesS; rw [if_neg g1, if_neg g2]
        rw [e] at q
        exact ⟨fits_reps hT, .str _, H, I.tok _, ⟨_, rfl⟩, q⟩
theorem ob_times {z : Str} {n : Int} (hn : n < 1000 ∧ -1000 < n) (hz : z.length ≤ 1000) (h : k (.dat (.str (timesS z n))) O) : OpB X (binaryOp .Mult) (.dat (.str z)) (.dat (.int n)) O k := ⟨_, op_timesS, fun H0 σ ρ H v1 v2 st r1 r2 Q q => by
  cases r1; cases r2; exact ⟨z, n, rfl, rfl, hn.1, hn.2, hz, q _ H _ O h st (.str _)⟩⟩
theorem atI_rp {K : PySem.W.Frag} {G : Hp} {vs : List V} {ds : List Dat} {i : Int} {d : Dat} (h : RpA K G vs ds) (e : atI ds i = some d) : ∃ v, atI vs i = some v ∧ Rp K G v d := by
  unfold atI at e ⊢
  rw [h.length]
  cases hj : ixN ds.length i with
  | none => rw [hj] at e; cases e
  | some j =>
    rw [hj] at e
    exact h.get e
theorem atI_pd {F : V → Slot → Prop} {vs : List V} {ss : List Slot} {i : Int} {s : Slot} (h : Paired F vs ss) (e : atI ss i = some s) : ∃ v, atI vs i = some v ∧ F v s := by
  unfold atI at e ⊢
  rw [paired_len h]
  cases hj : ixN ss.length i with
  | none => rw [hj] at e; cases e
  | some j =>
    rw [hj] at e
    exact paired_get h e
theorem ix_lst {ds : List Dat} {i : Int} {d : Dat} (e : atI ds i = some d) (h : k (.dat d) O) : IxB X (.dat (.lst ds)) (.dat (.int i)) O k := ⟨_, ix_list, fun H0 σ ρ H v1 v2 st r1 r2 Q q => by
  cases r2
  cases r1 with
  | lst h1 h2 =>
    obtain ⟨v, h3, h4⟩ := atI_rp h2 e
    exact ⟨_, _, i, v, rfl, rfl, sql_at (hid_le _ _ h1), h3, q _ H _ O h st h4⟩⟩
theorem ix_fro {ds : List Dat} {i : Int} {d : Dat} (e : atI ds i = some d) (h : k (.dat d) O) : IxB X (.dat (.fro ds)) (.dat (.int i)) O k := ⟨_, ix_list, fun H0 σ ρ H v1 v2 st r1 r2 Q q => by
  cases r2
  cases r1 with
  | fro h1 h2 =>
    obtain ⟨v, h3, h4⟩ := atI_rp h2 e
    exact ⟨_, _, i, v, rfl, rfl, sql_mono hid_le h1, h3, q _ H _ O h st h4⟩⟩
theorem ix_tpl {ds : List Dat} {i : Int} {d : Dat} (e : atI ds i = some d) (h : k (.dat d) O) : IxB X (.dat (.tup ds)) (.dat (.int i)) O k := ⟨_, ix_tup, fun H0 σ ρ H v1 v2 st r1 r2 Q q => by
  cases r2
  cases r1 with
  | tup h1 h2 =>
    obtain ⟨v, h3, h4⟩ := atI_rp h2 e
    exact ⟨_, _, i, v, rfl, rfl, sqt_mono hid_le h1, h3, q _ H _ O h st h4⟩⟩
theorem ix_sgn {z : Str} {i : Int} {c : Nat} (hz : z.length ≤ sizeLine) (e : atI z.cps.toList i = some c) (h : k (.dat (.str ⟨#[c]⟩)) O) : IxB X (.dat (.str z)) (.dat (.int i)) O k := ⟨_, ix_str, fun H0 σ ρ H v1 v2 st r1 r2 Q q => by
  cases r1; cases r2; exact ⟨z, i, c, rfl, rfl, hz, e, q _ H _ O h st (.str _)⟩⟩
theorem ix_own {p : Addr} {ss : List Slot} {i : Int} {s : Slot} (hp : O p = some (.lst ss)) (e : atI ss i = some s) (h : k s O) : IxB X (.own p) (.dat (.int i)) O k := ⟨_, ix_list, fun H0 σ ρ H v1 v2 st r1 r2 Q q => by
  cases r2
  obtain rfl : v1 = .ref p := r1
  obtain ⟨o, h1, vs, rfl, h2⟩ := st.own.cell p _ hp
  obtain ⟨v, h3, h4⟩ := atI_pd h2 e
  exact ⟨p, vs, i, v, rfl, rfl, sql_at h1, h3, q _ H _ O h st h4⟩⟩
def OW (X : Cx) (O : Own) (ρ : List Slot) (e : Option Expr) (x : ExK) (k : Option Int → Own → Prop) : Prop :=
  ∀ H0 σ H, StOk X.K H0 O σ ρ H → Takes X (Wsem X.K H0 x) → ∀ Q : Option Int → Hp → Prop, (∀ o H' O', k o O' → StOk X.K H0 O' σ ρ H' → Q o H') → Bx (∀ (pins : List (Addr × Obj)) (s : Shared), Inv X pins σ H s →
    wpAny (model X.prog X.w) X.A (evalPart e X.env) (fun u s' => ∃ o H', Inv X pins σ H' s' ∧ IsPart u o ∧ Q o H') X.xe s)
def Wo (X : Cx) (e : Option Expr) : TO := fun σ H Q => Bx (∀ (pins : List (Addr × Obj)) (s : Shared), Inv X pins σ H s → wpAny (model X.prog X.w) X.A (evalPart e X.env) (fun u s' => ∃ o H', Inv X pins σ H' s' ∧ IsPart u o ∧ Q o H') X.xe s)
theorem po_w {e : Option Expr} : PO X e (Wo X e) := ⟨fun pins s σ H Q I h => h.r pins s I⟩
variable {ko : Option Int → Own → Prop}
theorem ow_none (h : ko none O) : OW X O ρ none x ko := fun H0 σ H st tk Q q => ⟨fun pins s I => po_none.run pins s σ H Q I (q none H O h st)⟩
theorem ow_some (h : EW X O ρ e x fun s O' => ∃ i, s = .dat (.int i) ∧ ko (some i) O') : OW X O ρ (some e) x ko := fun H0 σ H st tk Q q => ⟨fun pins s I =>
  (po_some pe_w).run pins s σ H Q I (h H0 σ H st tk _ fun v H1 s O1 ⟨i, e1, h1⟩ st1 r1 => by
    subst e1
    cases r1
    exact ⟨i, rfl, q _ H1 O1 h1 st1⟩)⟩
def SlB (X : Cx) (s : Slot) (lo hi : Option Int) (O : Own) (k : Slot → Own → Prop) : Prop := ∃ r, SlR X r ∧ ∀ H0 σ ρ H v, StOk X.K H0 O σ ρ H → SlOk X.K (hid O H) v s → ∀ Q : VK, (∀ v H' s O', k s O' → StOk X.K H0 O' σ ρ H' → SlOk X.K (hid O' H') v s → Q v H') → r v lo hi H Q
theorem ew_slice {lo hi : Option Expr} {p2 : Pos} (h : EW X O ρ e x fun s O1 => OW X O1 ρ lo x fun l O2 => OW X O2 ρ hi x fun u O3 => SlB X s l u O3 k) : EW X O ρ (.Subscript e (.Slice lo hi none p2) pos) x k := fun H0 σ H st tk Q q => by
  have main : SlR X (fun v lo hi H Q => ∃ r, SlR X r ∧ r v lo hi H Q) := fun pins s σ H x v vl vu lo hi sl Q I rx hs hl hu ⟨r, ho, hr⟩ => ho pins s σ H x v vl vu lo hi sl Q I rx hs hl hu hr
  refine we_of (pe_slice main pe_w po_w po_w) (h H0 σ H st tk _ fun v H1 s O1 h1 st1 r1 => ?_)
  refine h1 (hid O1 H1) σ H1 st1.top (takes_base tk st1.base) _ fun l H2 O2 h2 st2 => ?_
  have b2 := st1.base.trans st2.base
  refine h2 (hid O2 H2) σ H2 st2.top (takes_base tk b2) _ fun u H3 O3 h3 st3 => ?_
  obtain ⟨r, ho, hr⟩ := h3
  exact ⟨r, ho, hr H0 σ ρ H3 v (st3.rebase b2) (SlOk.mono (st2.base.trans st3.base) r1) Q q⟩
def cutD {α : Type} (xs : List α) (lo hi : Option Int) : List α := (xs.drop (HT.sIx xs.length 0 lo)).take (HT.sIx xs.length xs.length hi - HT.sIx xs.length 0 lo)
theorem RpA.drop {K : PySem.W.Frag} {G : Hp} : ∀ {vs : List V} {ds : List Dat} (n : Nat), RpA K G vs ds → RpA K G (vs.drop n) (ds.drop n)
  | _, _, 0, h => h
  | _, _, n + 1, .nil => .nil
  | _, _, n + 1, .cons _ t => RpA.drop n t
theorem RpA.take {K : PySem.W.Frag} {G : Hp} : ∀ {vs : List V} {ds : List Dat} (n : Nat), RpA K G vs ds → RpA K G (vs.take n) (ds.take n)
  | _, _, 0, _ => .nil
  | _, _, n + 1, .nil => .nil
  | _, _, n + 1, .cons h t => .cons h (RpA.take n t)
theorem cut_rp {K : PySem.W.Frag} {G : Hp} {vs : List V} {ds : List Dat} (h : RpA K G vs ds) (lo hi : Option Int) : RpA K G (cutV vs lo hi) (cutD ds lo hi) := by
  unfold cutV cutD
  rw [h.length]
  exact (h.drop _).take _
theorem sb_lst {ds : List Dat} {lo hi : Option Int} (h : k (.dat (.lst (cutD ds lo hi))) O) : SlB X (.dat (.lst ds)) lo hi O k := ⟨_, sl_list, fun H0 σ ρ H v st r Q q => by
  cases r with
  | lst h1 h2 =>
    refine ⟨_, _, rfl, sql_at (hid_le _ _ h1), fun p hp => q _ _ _ O h (st.grow (same_new hp)) ?_⟩
    exact .lst (by rw [hid_none (own_free st.own hp), upd_same]) (RpA.mono (hid_same (same_new hp)) (cut_rp h2 lo hi))⟩
theorem sb_str {z : Str} {lo hi : Option Int} (hz : z.length ≤ sizeLine) (h : k (.dat (.str (cutS z lo hi))) O) : SlB X (.dat (.str z)) lo hi O k := ⟨_, sl_str, fun H0 σ ρ H v st r Q q => by
  cases r; exact ⟨z, rfl, hz, q _ H _ O h st (.str _)⟩⟩
theorem sb_tup {ds : List Dat} {lo hi : Option Int} (h : k (.dat (.tup (cutD ds lo hi))) O) : SlB X (.dat (.tup ds)) lo hi O k := ⟨_, sl_tupA, fun H0 σ ρ H v st r Q q => by
  cases r with
  | tup h1 h2 =>
    refine ⟨_, _, rfl, sqt_mono hid_le h1, fun hw => ?_, fun _ p hp => q _ _ _ O h (st.grow (same_new hp)) ?_⟩
    · rw [h2.length] at hw
      have e : cutD ds lo hi = ds := by
        unfold cutD
        rw [hw.1, hw.2, Nat.sub_zero, List.drop_zero, List.take_length]
      rw [e] at h
      exact q _ H _ O h st (.tup h1 h2)
    · exact .tup (.inl (.inl (by rw [hid_none (own_free st.own hp), upd_same]))) (RpA.mono (hid_same (same_new hp)) (cut_rp h2 lo hi))⟩
theorem cb_abs {i : Int} (h : k (.dat (.int (if i < 0 then -i else i))) O) : CaB X (.builtin "abs") [.dat (.int i)] O k := ⟨_, call_abs, fun H0 σ ρ H vs st pr Q q => by
  cases pr with
  | cons r1 pr => cases pr; cases r1; exact ⟨i, rfl, q _ H _ O h st (.int _)⟩⟩
theorem cb_max {i j : Int} (hc : X.calm = true) (h : k (.dat (.int (if j > i then j else i))) O) : CaB X (.builtin "max") [.dat (.int i), .dat (.int j)] O k := ⟨_, call_max2 hc, fun H0 σ ρ H vs st pr Q q => by
  cases pr with
  | cons r1 pr =>
    cases pr with
    | cons r2 pr => cases pr; cases r1; cases r2; exact ⟨i, j, rfl, q _ H _ O h st (.int _)⟩⟩
theorem cb_min {i j : Int} (hc : X.calm = true) (h : k (.dat (.int (if j < i then j else i))) O) : CaB X (.builtin "min") [.dat (.int i), .dat (.int j)] O k := ⟨_, call_min2 hc, fun H0 σ ρ H vs st pr Q q => by
  cases pr with
  | cons r1 pr =>
    cases pr with
    | cons r2 pr => cases pr; cases r1; cases r2; exact ⟨i, j, rfl, q _ H _ O h st (.int _)⟩⟩
theorem cb_intB {t : Bool} (h : k (.dat (.int (if t then 1 else 0))) O) : CaB X (.type "int") [.dat (.bl t)] O k := ⟨_, call_int1, fun H0 σ ρ H vs st pr Q q => by
  cases pr with
  | cons r1 pr => cases pr; cases r1; exact .inr ⟨t, rfl, q _ H _ O h st (.int _)⟩⟩
theorem cb_intS {z : Str} {n : Int} (e : PySem.intText? z = some n) (hl : z.length ≤ 640) (h : k (.dat (.int n)) O) : CaB X (.type "int") [.dat (.str z)] O k := ⟨_, call_int_str, fun H0 σ ρ H vs st pr Q q => by
  cases pr with
  | cons r1 pr => cases pr; cases r1; exact ⟨z, n, rfl, e, hl, q _ H _ O h st (.int _)⟩⟩
theorem cb_strI {n : Int} (hl : n.natAbs.log2 < 1920) (h : k (.dat (.str (toString n))) O) : CaB X (.type "str") [.dat (.int n)] O k := ⟨_, call_str_int, fun H0 σ ρ H vs st pr Q q => by
  cases pr with
  | cons r1 pr => cases pr; cases r1; exact ⟨n, rfl, hl, q _ H _ O h st (.str _)⟩⟩
theorem cb_strS {z : Str} (h : k (.dat (.str z)) O) : CaB X (.type "str") [.dat (.str z)] O k := ⟨_, SkE.call_str_str, fun H0 σ ρ H vs st pr Q q => by
  cases pr with
  | cons r1 pr => cases pr; cases r1; exact ⟨z, rfl, q _ H _ O h st (.str _)⟩⟩
theorem cb_lenS {z : Str} (hl : z.length ≤ sizeLine) (h : k (.dat (.int (z.length : Int))) O) : CaB X (.builtin "len") [.dat (.str z)] O k := ⟨_, call_len_str, fun H0 σ ρ H vs st pr Q q => by
  cases pr with
  | cons r1 pr => cases pr; cases r1; exact ⟨z, rfl, hl, q _ H _ O h st (.int _)⟩⟩
theorem cb_lenL {ds : List Dat} (h : k (.dat (.int (ds.length : Int))) O) : CaB X (.builtin "len") [.dat (.lst ds)] O k := ⟨_, call_len_seq, fun H0 σ ρ H vs st pr Q q => by
  cases pr with
  | cons r1 pr =>
    cases pr
    cases r1 with
    | lst h1 h2 =>
      refine ⟨_, _, rfl, .inl (sql_at (hid_le _ _ h1)), q _ H _ O h st ?_⟩
      rw [h2.length]; exact .int _⟩
theorem cb_lenF {ds : List Dat} (h : k (.dat (.int (ds.length : Int))) O) : CaB X (.builtin "len") [.dat (.fro ds)] O k := ⟨_, call_len_seq, fun H0 σ ρ H vs st pr Q q => by
  cases pr with
  | cons r1 pr =>
    cases pr
    cases r1 with
    | fro h1 h2 =>
      refine ⟨_, _, rfl, .inl (sql_mono hid_le h1), q _ H _ O h st ?_⟩
      rw [h2.length]; exact .int _⟩
theorem cb_lenT {ds : List Dat} (h : k (.dat (.int (ds.length : Int))) O) : CaB X (.builtin "len") [.dat (.tup ds)] O k := ⟨_, call_len_seq, fun H0 σ ρ H vs st pr Q q => by
  cases pr with
  | cons r1 pr =>
    cases pr
    cases r1 with
    | tup h1 h2 =>
      refine ⟨_, _, rfl, .inr (sqt_mono hid_le h1), q _ H _ O h st ?_⟩
      rw [h2.length]; exact .int _⟩
theorem cb_lenO {p : Addr} {ss : List Slot} (hp : O p = some (.lst ss)) (h : k (.dat (.int (ss.length : Int))) O) : CaB X (.builtin "len") [.own p] O k := ⟨_, call_len_seq, fun H0 σ ρ H vs st pr Q q => by
  cases pr with
  | cons r1 pr =>
    cases pr
    rename_i v
    obtain rfl : v = .ref p := r1
    obtain ⟨o, h1, xs, rfl, h2⟩ := st.own.cell p _ hp
    refine ⟨_, _, rfl, .inl (sql_at h1), q _ H _ O h st ?_⟩
    rw [paired_len h2]; exact .int _⟩
theorem rpa_bools {K : PySem.W.Frag} {G : Hp} : ∀ {vs : List V} {ws : List Bool}, RpA K G vs (ws.map .bl) → vs = ws.map V.bl
  | _, [], h => by cases h; rfl
  | _, w :: ws, h => by
    cases h with
    | cons h1 h2 =>
      cases h1
      rw [rpa_bools h2]; rfl
theorem cb_all {ts : List Bool} (hc : X.calm = true) (h : k (.dat (.bl (ts.all id))) O) : CaB X (.builtin "all") [.dat (.lst (ts.map .bl))] O k := ⟨_, cr_all hc, fun H0 σ ρ H vs st pr Q q => by
  cases pr with
  | cons r1 pr =>
    cases pr
    cases r1 with
    | lst h1 h2 =>
      have e := rpa_bools h2
      subst e
      exact ⟨_, ts, rfl, sql_at (hid_le _ _ h1), q _ H _ O h st (.bl _)⟩⟩
/-- list(xs), a new cell -/
theorem cb_listL {ds : List Dat} (h : ∀ p, O p = none → k (.own p) (up O p (.lst (ds.map .dat)))) : CaB X (.type "list") [.dat (.lst ds)] O k := ⟨_, call_list_of, fun H0 σ ρ H vs st pr Q q => by
  cases pr with
  | cons r1 pr =>
    cases pr
    cases r1 with
    | lst h1 h2 => exact ⟨_, _, rfl, .inl (sql_at (hid_le _ _ h1)), fun p hp => q _ _ _ _ (h p (own_free st.own hp)) (st.alloc hp ⟨_, rfl, h2.paired⟩) rfl⟩⟩
theorem cb_listT {ds : List Dat} (h : ∀ p, O p = none → k (.own p) (up O p (.lst (ds.map .dat)))) : CaB X (.type "list") [.dat (.tup ds)] O k := ⟨_, call_list_of, fun H0 σ ρ H vs st pr Q q => by
  cases pr with
  | cons r1 pr =>
    cases pr
    cases r1 with
    | tup h1 h2 => exact ⟨_, _, rfl, .inr (sqt_mono hid_le h1), fun p hp => q _ _ _ _ (h p (own_free st.own hp)) (st.alloc hp ⟨_, rfl, h2.paired⟩) rfl⟩⟩
theorem cb_tupL {ds : List Dat} (h : k (.dat (.tup ds)) O) : CaB X (.type "tuple") [.dat (.lst ds)] O k := ⟨_, call_tuple_of, fun H0 σ ρ H vs st pr Q q => by
  cases pr with
  | cons r1 pr =>
    cases pr
    cases r1 with
    | lst h1 h2 =>
      refine ⟨_, _, rfl, .inl ⟨sql_at (hid_le _ _ h1), fun p hp => q _ _ _ O h (st.grow (same_new hp)) ?_⟩⟩
      exact .tup (.inl (.inl (by rw [hid_none (own_free st.own hp), upd_same]))) (RpA.mono (hid_same (same_new hp)) h2)⟩
theorem cb_tupT {ds : List Dat} (h : k (.dat (.tup ds)) O) : CaB X (.type "tuple") [.dat (.tup ds)] O k := ⟨_, call_tuple_of, fun H0 σ ρ H vs st pr Q q => by
  cases pr with
  | cons r1 pr =>
    cases pr
    cases r1 with
    | tup h1 h2 => exact ⟨_, _, rfl, .inr ⟨sqt_mono hid_le h1, q _ H _ O h st (.tup h1 h2)⟩⟩⟩
/-- repr of data -/
def reprOk (d : Dat) : Bool := plain d && (toPy d).layable0 && (toPy d).showable && !(toPy d).hasDict && (toPy d).intsShort 13
def reprD (d : Dat) : Str := (toPy d).shown
theorem call_reprD (hr : RoomB true 0 X.A) : CallR X (.builtin "repr") (fun xs H Q => ∃ (a : Addr) (d : PyData), xs = [.ref a] ∧ Dp X.K H (.ref a) d ∧ d.layable0 = true ∧ d.showable = true ∧ d.hasDict = false ∧ d.intsShort 13 = true ∧ Q (.str d.shown) H) := by
  intro pins s σ H xs us Q I r hq
  obtain ⟨a, d, rfl, hd, h1, h2, h3, h4, q⟩ := hq
  cases r with
  | cons rx rr =>
    cases rr
    cases rx
    obtain ⟨as, rd⟩ := Dp.reads I d _ _ hd (show RelV (.ref a) (.ref a) from rfl)
    have hz : d.shown.length ≤ sizeLine := Nat.le_trans (shown_le13 h1 h4) (by rw [sizeLine_eq]; decide)
    have h5 : (PyData.canLay0 d && decide (PyData.depth d ≤ 64) && decide (PyData.weight d ≤ 2 ^ 20)) = true := h1
    simp only [Bool.and_eq_true, decide_eq_true_eq] at h5
    refine repr_of_reads' rd h2 (PyData.noDict_hsm h3) (hr.g rfl) (by have := hr.r.un; omega) (fun _ _ z => z) (fun h' u tk hk => ?_) hz
    exact ⟨.str d.shown, H, I.kept hk, ⟨_, rfl⟩, q⟩
theorem reprOk_and {d : Dat} (h : reprOk d = true) : plain d = true ∧ (toPy d).layable0 = true ∧ (toPy d).showable = true ∧ (toPy d).hasDict = false ∧ (toPy d).intsShort 13 = true := by
  unfold reprOk at h
  simp only [Bool.and_eq_true, Bool.not_eq_true'] at h
  exact ⟨h.1.1.1.1, h.1.1.1.2, h.1.1.2, h.1.2, h.2⟩
theorem cb_reprL (hr : RoomB true 0 X.A) {ds : List Dat} (e : reprOk (.lst ds) = true) (h : k (.dat (.str (reprD (.lst ds)))) O) : CaB X (.builtin "repr") [.dat (.lst ds)] O k := ⟨_, call_reprD hr, fun H0 σ ρ H vs st pr Q q => by
  obtain ⟨e1, e2, e3, e4, e5⟩ := reprOk_and e
  cases pr with
  | cons r1 pr =>
    cases pr
    have r1 : Rp X.K (hid O H) _ (.lst ds) := r1
    have r2 := Rp.dp e1 (Rp.tk r1)
    cases r1
    exact ⟨_, _, rfl, r2, e2, e3, e4, e5, q _ H _ O h st (.str _)⟩⟩
theorem cb_reprT (hr : RoomB true 0 X.A) {ds : List Dat} (e : reprOk (.tup ds) = true) (h : k (.dat (.str (reprD (.tup ds)))) O) : CaB X (.builtin "repr") [.dat (.tup ds)] O k := ⟨_, call_reprD hr, fun H0 σ ρ H vs st pr Q q => by
  obtain ⟨e1, e2, e3, e4, e5⟩ := reprOk_and e
  cases pr with
  | cons r1 pr =>
    cases pr
    have r1 : Rp X.K (hid O H) _ (.tup ds) := r1
    have r2 := Rp.dp e1 (Rp.tk r1)
    cases r1
    exact ⟨_, _, rfl, r2, e2, e3, e4, e5, q _ H _ O h st (.str _)⟩⟩
end
end Kn
namespace Kn
open PySem PySem.Spec PyProof.Rows
open L2 hiding St
section
variable {X : Cx} {O : Own} {ρ : List Slot} {x : ExK} {k k' : Slot → Own → Prop} {kl kl' : List Slot → Own → Prop} {e a b c o : Expr} {es : List Expr} {pos p apos cpos : Pos} {D : SD}
def TyS (T : String) (O : Own) : Slot → Prop
  | .own p => T = "list" ∧ ∃ ss, O p = some (.lst ss)
  | .dat (.lst _) => T = "list"
  | .dat (.str _) => T = "str"
  | _ => False
theorem tyV_of {T : String} {s : Slot} {H0 H : Hp} {σ : SV} {v : V} (h : TyS T O s) (st : StOk X.K H0 O σ ρ H) (r : SlOk X.K (hid O H) v s) : tyV X.K T v H := by
  cases s with
  | unk => exact h.elim
  | own p =>
    obtain ⟨e1, ss, h2⟩ := h
    obtain rfl : v = .ref p := r
    obtain ⟨o, h3, vs, rfl, _⟩ := st.own.cell p _ h2
    exact .inl ⟨e1, _, sql_at h3⟩
  | dat d =>
    cases d with
    | lst ds =>
      cases r with
      | lst h1 h2 => exact .inl ⟨h, _, sql_at (hid_le _ _ h1)⟩
    | str z => cases r; exact h
    | _ => exact h.elim
def MtB (X : Cx) (id : String) (s : Slot) (ss : List Slot) (O : Own) (k : Slot → Own → Prop) : Prop := ∃ r, MtR X id r ∧ ∀ H0 σ ρ H v vs, StOk X.K H0 O σ ρ H → SlOk X.K (hid O H) v s → Paired (SlOk X.K (hid O H)) vs ss →
  ∀ Q : VK, (∀ v H' s O', k s O' → StOk X.K H0 O' σ ρ H' → SlOk X.K (hid O' H') v s → Q v H') → r v vs H Q
theorem ew_bm {T id : String} {name : Str} (pa : PlainAttrs T) (slot : PySem.Slot T name id) (hty : typeOf (.builtin id) = pure (.type "method_descriptor"))
    (h : EW X O ρ o x fun s O1 => TyS T O1 s ∧ AW X O1 ρ (e :: es) x fun ss O2 => MtB X id s ss O2 k) (hbase : attributeBase o name X.env (eval o X.env) = eval o X.env := by rfl)
    (hfew : ((backTo cpos (starEach (e :: es) X.env)).all (fun x => !x.1) && (backToKw cpos (keywordEach [] X.env)).all (fun x => x.1.isSome)
      && decide ((e :: es).length + ([] : List Keyword).length + (if ([] : List Keyword).isEmpty then 0 else 1) < 30)) = true := by rfl)
    (hline : (apos.endLine == cpos.line) = true := by rfl) (hs : starEach (e :: es) X.env = (false, eval e X.env) :: starEach es X.env := by rfl) (hplain : (backTo cpos (starEach es X.env)).any (·.1) = false := by rfl) :
    EW X O ρ (.Call (.Attribute o name apos) (e :: es) [] cpos) x k := fun H0 σ H st tk Q q => by
  have main : MtR X id (fun v vs H Q => ∃ r, MtR X id r ∧ r v vs H Q) := fun pins s σ H x xs v us Q I rx rv ⟨r, ho, hr⟩ => ho pins s σ H x xs v us Q I rx rv hr
  refine we_of (pe_bm pa slot hty main pe_w pa_w hbase hfew hline hs hplain) (h H0 σ H st tk _ fun v H1 s O1 ⟨t1, h1⟩ st1 r1 => ?_)
  refine ⟨tyV_of t1 st1 r1, h1 (hid O1 H1) σ H1 st1.top (takes_base tk st1.base) _ fun vs H2 ss O2 ⟨r, ho, hr⟩ st2 pr => ⟨r, ho, ?_⟩⟩
  exact hr H0 σ ρ H2 v vs (st2.rebase st1.base) (SlOk.mono st2.base r1) pr Q q
theorem ew_bm0 {T id : String} {name : Str} (pa : PlainAttrs T) (slot : PySem.Slot T name id) (hty : typeOf (.builtin id) = pure (.type "method_descriptor"))
    (h : EW X O ρ o x fun s O1 => TyS T O1 s ∧ MtB X id s [] O1 k) (hbase : attributeBase o name X.env (eval o X.env) = eval o X.env := by rfl)
    (hline : (apos.endLine == cpos.line) = true := by rfl) : EW X O ρ (.Call (.Attribute o name apos) [] [] cpos) x k := fun H0 σ H st tk Q q => by
  have main : MtR X id (fun v vs H Q => ∃ r, MtR X id r ∧ r v vs H Q) := fun pins s σ H x xs v us Q I rx rv ⟨r, ho, hr⟩ => ho pins s σ H x xs v us Q I rx rv hr
  refine we_of (pe_bm0 pa slot hty main pe_w hbase hline) (h H0 σ H st tk _ fun v H1 s O1 ⟨t1, r, ho, hr⟩ st1 r1 => ?_)
  exact ⟨tyV_of t1 st1 r1, r, ho, hr H0 σ ρ H1 v [] st1 r1 .nil Q q⟩
theorem mb_append {p : Addr} {ss : List Slot} {s : Slot} (hp : O p = some (.lst ss)) (hl : ss.length < sizeLine) (h : k (.dat .non) (up O p (.lst (ss ++ [s])))) : MtB X "list.append" (.own p) [s] O k := ⟨_, mt_append, fun H0 σ ρ H v vs st r pr Q q => by
  obtain rfl : v = .ref p := r
  cases pr with
  | cons r1 pr =>
    cases pr
    obtain ⟨o, h1, xs, rfl, h2⟩ := st.own.cell p _ hp
    exact ⟨p, xs, _, rfl, rfl, h1, by rw [paired_len h2]; exact hl, q _ _ _ _ h (st.write hp ⟨_, rfl, paired_app h2 (.cons r1 .nil)⟩) .non⟩⟩
theorem mb_extendL {p : Addr} {ss : List Slot} {ds : List Dat} (hp : O p = some (.lst ss)) (hl : ss.length + ds.length ≤ sizeLine) (h : k (.dat .non) (up O p (.lst (ss ++ ds.map .dat)))) : MtB X "list.extend" (.own p) [.dat (.lst ds)] O k := ⟨_, mt_extend, fun H0 σ ρ H v vs st r pr Q q => by
  obtain rfl : v = .ref p := r
  cases pr with
  | cons r1 pr =>
    cases pr
    obtain ⟨o, h1, xs, rfl, h2⟩ := st.own.cell p _ hp
    cases r1 with
    | lst h3 h4 => exact ⟨p, _, xs, _, rfl, rfl, h1, hid_le _ _ h3, by rw [paired_len h2, h4.length]; exact hl, q _ _ _ _ h (st.write hp ⟨_, rfl, paired_app h2 h4.paired⟩) .non⟩⟩
theorem paired_dropLast {α β : Type} {F : α → β → Prop} : ∀ {xs : List α} {ys : List β}, Paired F xs ys → Paired F xs.dropLast ys.dropLast
  | _, _, .nil => .nil
  | _, _, .cons h .nil => .nil
  | _, _, .cons h (.cons h2 t) => .cons h (paired_dropLast (.cons h2 t))
theorem paired_erase {α β : Type} {F : α → β → Prop} : ∀ {xs : List α} {ys : List β} (i : Nat), Paired F xs ys → Paired F (xs.eraseIdx i) (ys.eraseIdx i)
  | _, _, _, .nil => .nil
  | _, _, 0, .cons _ t => t
  | _, _, i + 1, .cons h t => .cons h (paired_erase i t)
theorem mb_pop {p : Addr} {ss : List Slot} {s : Slot} (hp : O p = some (.lst (ss ++ [s]))) (h : k s (up O p (.lst ss))) : MtB X "list.pop" (.own p) [] O k := ⟨_, mt_pop, fun H0 σ ρ H v vs st r pr Q q => by
  obtain rfl : v = .ref p := r
  cases pr
  obtain ⟨o, h1, xs, rfl, h2⟩ := st.own.cell p _ hp
  have hl := paired_len h2
  rw [List.length_append, List.length_singleton] at hl
  obtain ⟨y, h3, h4⟩ := paired_get (i := ss.length) h2 (by rw [List.getElem?_append_right (Nat.le_refl _), Nat.sub_self]; rfl)
  refine ⟨p, xs, y, rfl, rfl, h1, by rw [show xs.length - 1 = ss.length by omega]; exact h3, ?_⟩
  have h5 := paired_dropLast h2
  rw [List.dropLast_concat] at h5
  exact q _ _ _ _ h (st.write hp ⟨_, rfl, h5⟩) (SlOk.mono (hid_write hp) h4)⟩
theorem mb_popAt {p : Addr} {ss : List Slot} {s : Slot} {i : Int} {j : Nat} (hp : O p = some (.lst ss)) (hi : -(2 ^ 63) ≤ i ∧ i < 2 ^ 63) (hj : seqIndex? i ss.length = some j) (hs : ss[j]? = some s) (h : k s (up O p (.lst (ss.eraseIdx j)))) :
    MtB X "list.pop" (.own p) [.dat (.int i)] O k := ⟨_, mt_popAt, fun H0 σ ρ H v vs st r pr Q q => by
  obtain rfl : v = .ref p := r
  cases pr with
  | cons r1 pr =>
    cases pr
    cases r1
    obtain ⟨o, h1, xs, rfl, h2⟩ := st.own.cell p _ hp
    obtain ⟨y, h3, h4⟩ := paired_get h2 hs
    exact ⟨p, xs, i, j, y, rfl, rfl, h1, hi.1, hi.2, by rw [paired_len h2]; exact hj, h3, q _ _ _ _ h (st.write hp ⟨_, rfl, paired_erase j h2⟩) (SlOk.mono (hid_write hp) h4)⟩⟩
theorem strs_rp {K : PySem.W.Frag} {G : Hp} : ∀ ys : List Str, RpA K G (ys.map V.str) (ys.map .str)
  | [] => .nil
  | y :: ys => .cons (.str y) (strs_rp ys)
/-- a text's method with one argument -/
def M1B (X : Cx) (id : String) (z : Str) (s : Slot) (O : Own) (k : Slot → Own → Prop) : Prop := ∃ r, MtR X id r ∧ ∀ H0 σ ρ H v, StOk X.K H0 O σ ρ H → SlOk X.K (hid O H) v s →
  ∀ Q : VK, (∀ v H' s O', k s O' → StOk X.K H0 O' σ ρ H' → SlOk X.K (hid O' H') v s → Q v H') → r (.str z) [v] H Q
theorem ew_m1 {id : String} {name : Str} (slot : PySem.Slot "str" name id) (ty : typeOf (.builtin id) = pure (.type "method_descriptor")) (h : EW X O ρ o x fun s O1 => ∃ z, s = .dat (.str z) ∧ EW X O1 ρ e x fun s2 O2 => M1B X id z s2 O2 k)
    (hs : starEach [e] X.env = [(false, eval e X.env)] := by rfl) (hbase : attributeBase o name X.env (eval o X.env) = eval o X.env := by rfl) (hline : (apos.endLine == cpos.line) = true := by rfl) :
    EW X O ρ (.Call (.Attribute o name apos) [e] [] cpos) x k := fun H0 σ H st tk Q q => by
  have main : MtR X id (fun v vs H Q => ∃ r, MtR X id r ∧ r v vs H Q) := fun pins s σ H x xs v us Q I rx rv ⟨r, ho, hr⟩ => ho pins s σ H x xs v us Q I rx rv hr
  refine we_of (pe_m1 slot ty main pe_w pe_w hs hbase hline) (h H0 σ H st tk _ fun v H1 s O1 ⟨z, e1, h1⟩ st1 r1 => ?_)
  subst e1
  cases r1
  refine ⟨⟨z, rfl⟩, h1 (hid O1 H1) σ H1 st1.top (takes_base tk st1.base) _ fun v2 H2 s2 O2 ⟨r, ho, hr⟩ st2 r2 => ⟨r, ho, ?_⟩⟩
  exact hr H0 σ ρ H2 v2 (st2.rebase st1.base) r2 Q q
theorem m1_split {z y : Str} (hy : (y.length == 0) = false) (hz : z.length + 2 ≤ sizeLine) (h : k (.dat (.lst ((Txt.split z y).map .str))) O) : M1B X "str.split" z (.dat (.str y)) O k := ⟨_, mt_split, fun H0 σ ρ H v st r Q q => by
  cases r
  refine ⟨z, y, rfl, rfl, hy, hz, fun p hp => q _ _ _ O h (st.grow (same_new hp)) ?_⟩
  exact .lst (by rw [hid_none (own_free st.own hp), upd_same]) (strs_rp _)⟩
theorem m1_partition {z y : Str} (hy : (y.length == 0) = false) (hz : z.length ≤ sizeLine) (h : k (.dat (.tup [.str (Txt.partition z y).1, .str (Txt.partition z y).2.1, .str (Txt.partition z y).2.2])) O) : M1B X "str.partition" z (.dat (.str y)) O k := ⟨_, mt_partition, fun H0 σ ρ H v st r Q q => by
  cases r
  refine ⟨z, y, rfl, rfl, hy, hz, fun p hp => q _ _ _ O h (st.grow (same_new hp)) ?_⟩
  exact .tup (.inl (.inl (by rw [hid_none (own_free st.own hp), upd_same]))) (.cons (.str _) (.cons (.str _) (.cons (.str _) .nil)))⟩
theorem m1_join {z : Str} {ys : List Str} (hl : (ys.map (·.length)).sum + ys.length * z.length ≤ 16777216) (h : k (.dat (.str (Txt.join z ys))) O) : M1B X "str.join" z (.dat (.lst (ys.map .str))) O k := ⟨_, mt_join, fun H0 σ ρ H v st r Q q => by
  cases r with
  | lst h1 h2 =>
    have e := rpa_strs h2
    subst e
    exact ⟨z, _, ys, rfl, rfl, .inl (sql_at (hid_le _ _ h1)), hl, q _ H _ O h st (.str _)⟩⟩
theorem m1_find {z y : Str} (h : k (.dat (.int (Txt.find z y))) O) : M1B X "str.find" z (.dat (.str y)) O k := ⟨_, mt_find, fun H0 σ ρ H v st r Q q => by
  cases r; exact ⟨z, y, rfl, rfl, q _ H _ O h st (.int _)⟩⟩
theorem ew_fmt (h : EW X O ρ e x fun s O1 => (∃ z, s = .dat (.str z) ∧ z.length ≤ sizeLine ∧ k (.dat (.str z)) O1) ∨ ∃ i : Int, s = .dat (.int i) ∧ i.natAbs.log2 < 1920 ∧ k (.dat (.str (toString i))) O1) : EW X O ρ (.FormattedValue e (-1) none pos) x k := fun H0 σ H st tk Q q =>
  we_of (pe_fmt pe_w) (h H0 σ H st tk _ fun v H1 s O1 h1 st1 r1 => by
    rcases h1 with ⟨z, e1, h2, h3⟩ | ⟨i, e1, h2, h3⟩
    · subst e1
      cases r1
      exact .inl ⟨z, rfl, h2, q _ H1 _ O1 h3 st1 (.str _)⟩
    · subst e1
      cases r1
      exact .inr ⟨i, rfl, h2, q _ H1 _ O1 h3 st1 (.str _)⟩)
/-- the parts of an f-string, from the left; acc: what they come to so far -/
def JW (X : Cx) (ρ : List Slot) (x : ExK) (k : Str → Own → Prop) : List Expr → Str → Own → Prop
  | [], acc, O => k acc O
  | e :: es, acc, O => EW X O ρ e x fun s O1 => ∃ z, s = .dat (.str z) ∧ (acc ++ z).length ≤ sizeLine ∧ JW X ρ x k es (acc ++ z) O1
theorem pj_w : ∀ es : List Expr, PJ X es (es.map (We X))
  | [] => .nil
  | e :: es => .cons pe_w (pj_w es)
theorem tjs_of {ks : Str → Own → Prop} {H0 : Hp} {σ : SV} {Q : Str → Hp → Prop} (tk : Takes X (Wsem X.K H0 x)) (q : ∀ z H' O', ks z O' → StOk X.K H0 O' σ ρ H' → Q z H') :
    ∀ (es : List Expr) (acc : Str) (O : Own) (H : Hp), JW X ρ x ks es acc O → StOk X.K H0 O σ ρ H → tJs (es.map (We X)) acc σ H Q
  | [], acc, O, H, h, st => q acc H O h st
  | e :: es, acc, O, H, h, st => by
    have h : EW X O ρ e x fun s O1 => ∃ z, s = .dat (.str z) ∧ (acc ++ z).length ≤ sizeLine ∧ JW X ρ x ks es (acc ++ z) O1 := h
    refine h H0 σ H st tk _ fun v H1 s O1 ⟨z, e1, h1, h2⟩ st1 r1 => ?_
    subst e1
    cases r1
    exact ⟨z, rfl, h1, tjs_of tk q es (acc ++ z) O1 H1 h2 st1⟩
theorem ew_joined {v1 v2 : Expr} {rest : List Expr} (h : JW X ρ x (fun z O' => k (.dat (.str z)) O') (v1 :: v2 :: rest) Str.empty O) : EW X O ρ (.JoinedStr (v1 :: v2 :: rest) pos) x k := fun H0 σ H st tk Q q =>
  we_of (pe_joined (pj_w (v1 :: v2 :: rest))) (tjs_of tk (fun z H' O' hk st' => q (.str z) H' (.dat (.str z)) O' hk st' (Rp.str z)) _ _ O H h st)
def EV (X : Cx) (O : Own) (ρ : List Slot) (e : Expr) (x : ExK) (d : Dat) : Prop := EW X O ρ e x fun s O' => s = .dat d ∧ O' = O
def TV (X : Cx) (O : Own) (ρ : List Slot) (e : Expr) (x : ExK) (t : Bool) : Prop := TW X O ρ e x fun u O' => u = t ∧ O' = O
theorem tw_tv {t : Bool} {kt : Bool → Own → Prop} (h : TV X O ρ e x t) (hk : kt t O) : TW X O ρ e x kt := h.mono fun s O' ⟨e1, e2⟩ => by subst e1 e2; exact hk
def TVw (X : Cx) (O : Own) (ρ : List Slot) (e : Expr) (x : ExK) (t : Bool) : Prop := TWw X O ρ e x fun u O' => u = t ∧ O' = O
theorem tv_w {t : Bool} (h : TVw X O ρ e x t) : TV X O ρ e x t := tw_w h
theorem tvw_and1 {t : Bool} (h : TV X O ρ a x t) : TVw X O ρ (.BoolOp .And [a] pos) x t := tww_and1 h
theorem tvw_or1 {t : Bool} (h : TV X O ρ a x t) : TVw X O ρ (.BoolOp .Or [a] pos) x t := tww_or1 h
theorem tvw_and {t u : Bool} (h : TV X O ρ a x t) (h1 : t = true → TVw X O ρ (.BoolOp .And (b :: es) pos) x u) : TVw X O ρ (.BoolOp .And (a :: b :: es) pos) x (t && u) :=
  tww_and (h.mono fun s O' ⟨e1, e2⟩ => by
    subst e1 e2
    refine ⟨fun ht => ?_, fun ht => ?_⟩
    · subst ht; exact h1 rfl
    · subst ht; exact ⟨rfl, rfl⟩)
theorem tvw_or {t u : Bool} (h : TV X O ρ a x t) (h1 : t = false → TVw X O ρ (.BoolOp .Or (b :: es) pos) x u) : TVw X O ρ (.BoolOp .Or (a :: b :: es) pos) x (t || u) :=
  tww_or (h.mono fun s O' ⟨e1, e2⟩ => by
    subst e1 e2
    refine ⟨fun ht => ?_, fun ht => ?_⟩
    · subst ht; exact ⟨rfl, rfl⟩
    · subst ht; exact h1 rfl)
/-- [elt for tg in iter if ..] over data that ι tells of l: f the element, g whether it is taken -/
theorem ew_map {α : Type} (l : List α) (ι f : α → Dat) (g : α → Bool) (own : List (Str × Nat)) {elt tg iter : Expr} {ifs : List Expr} {scope : Scope} {T : Dat → List Slot → List Slot → Prop} (hN : X.N.Nodup) (tg_ok : Tgt X scope (own.map (·.2)) tg T) (ok : BlkOk X.N X.env.scope scope own)
    (hi : IW X O ρ tg iter x fun ds' O1 => ds' = l.map ι ∧ O1 = O) (hz : l.length ≤ sizeLine)
    (hb : ∀ d, d ∈ l → ∃ ρ', T (ι d) (wipeS ρ (own.map (·.2))) ρ' ∧ ∀ O' Y, Blk X scope Y → TsW Y O' ρ' ifs noX (fun t O2 => t = g d ∧ O2 = O') ∧ (g d = true → EV Y O' ρ' elt noX (f d)))
    (h : k (.dat (.lst ((l.filter g).map f))) O) (hc : X.calm = true := by rfl) (hs : ∀ x, foldedSetIterable iter X.env x = pure x := by intro _; rfl) : EW X O ρ (.ListComp elt [⟨tg, iter, ifs, 0⟩] scope pos) x k := by
  refine ew_frz (ew_lc own hN tg_ok ok (fun H0 σ H st tk R q => hi H0 σ H st tk R fun J H' ds' O1 ⟨e1, e2⟩ st' it => q J H' ds' O1 ?_ st' it) hc hs)
  subst e1 e2
  refine ⟨by rw [List.length_map]; exact hz, fun i acc O' => O' = O1 ∧ acc = (((l.take i).filter g).map f).map .dat, ⟨rfl, rfl⟩, fun i d0 acc O' hj hd0 => ?_, fun acc O' hj p hp => ?_⟩
  · obtain ⟨rfl, rfl⟩ := hj
    rw [List.getElem?_map] at hd0
    obtain ⟨d, hd, rfl⟩ := Option.map_eq_some_iff.mp hd0
    obtain ⟨ρ', ht, hb⟩ := hb d (List.mem_of_getElem? hd)
    refine ⟨ρ', ht, fun Dd nD Y hY => ?_⟩
    have htake : l.take (i + 1) = l.take i ++ [d] := by rw [List.take_add_one, hd]; rfl
    obtain ⟨h1, _⟩ := hb (up O' Dd (.lst ((((l.take i).filter g).map f).map .dat))) Y hY
    refine fun H0 σ H st tk Q q => h1 H0 σ H st tk Q fun t H' O2 ⟨e1, e2⟩ st2 => q t H' O2 ⟨fun ht => fun Z hZ => ?_, fun ht => ?_⟩ st2
    · subst e2
      have hg : g d = true := e1 ▸ ht
      refine ((hb (up O' Dd (.lst ((((l.take i).filter g).map f).map .dat))) Z hZ).2 hg).mono fun s O3 ⟨e3, e4⟩ => ?_
      subst e3 e4
      refine ⟨O', rfl, nD, rfl, ?_⟩
      rw [htake, List.filter_append, List.filter_cons_of_pos hg]
      simp
    · subst e2
      have hg : g d = false := e1 ▸ ht
      refine ⟨O', rfl, nD, rfl, ?_⟩
      rw [htake, List.filter_append, List.filter_cons_of_neg (by rw [hg]; exact Bool.false_ne_true)]
      simp
  · obtain ⟨rfl, rfl⟩ := hj
    refine ⟨p, (l.filter g).map f, rfl, by rw [List.length_map, List.take_length]; exact up_at, ?_⟩
    rw [dn_up hp]
    exact h
theorem filter_yes {α : Type} (l : List α) : l.filter (fun _ => true) = l := List.filter_eq_self.mpr fun _ _ => rfl
theorem ew_map1 {α : Type} (l : List α) (ι f : α → Dat) (own : List (Str × Nat)) {elt tg iter : Expr} {scope : Scope} {T : Dat → List Slot → List Slot → Prop} (hN : X.N.Nodup) (tg_ok : Tgt X scope (own.map (·.2)) tg T) (ok : BlkOk X.N X.env.scope scope own)
    (hi : IW X O ρ tg iter x fun ds' O1 => ds' = l.map ι ∧ O1 = O) (hz : l.length ≤ sizeLine)
    (hb : ∀ d, d ∈ l → ∃ ρ', T (ι d) (wipeS ρ (own.map (·.2))) ρ' ∧ ∀ O' Y, Blk X scope Y → EV Y O' ρ' elt noX (f d))
    (h : k (.dat (.lst (l.map f))) O) (hc : X.calm = true := by rfl) (hs : ∀ x, foldedSetIterable iter X.env x = pure x := by intro _; rfl) : EW X O ρ (.ListComp elt [⟨tg, iter, [], 0⟩] scope pos) x k :=
  ew_map l ι f (fun _ => true) own hN tg_ok ok hi hz (fun d hd => by
    obtain ⟨ρ', h1, h2⟩ := hb d hd
    exact ⟨ρ', h1, fun O' Y hY => ⟨tsw_nil ⟨rfl, rfl⟩, fun _ => h2 O' Y hY⟩⟩) (by rw [filter_yes]; exact h) hc hs
end
section
variable {X : Cx} {O : Own} {ρ : List Slot} {x : ExK} {k : Slot → Own → Prop} {e a o : Expr} {es : List Expr} {apos cpos pos : Pos}
theorem ew_split (h : EW X O ρ o x fun s O1 => ∃ z, s = .dat (.str z) ∧ EW X O1 ρ e x fun s2 O2 => M1B X "str.split" z s2 O2 k) (hs : starEach [e] X.env = [(false, eval e X.env)] := by rfl) (hbase : attributeBase o "split" X.env (eval o X.env) = eval o X.env := by rfl) (hline : (apos.endLine == cpos.line) = true := by rfl) :
    EW X O ρ (.Call (.Attribute o "split" apos) [e] [] cpos) x k := ew_m1 PySem.F.slot_str_split PySem.F.type_str_split h hs hbase hline
theorem ew_join (h : EW X O ρ o x fun s O1 => ∃ z, s = .dat (.str z) ∧ EW X O1 ρ e x fun s2 O2 => M1B X "str.join" z s2 O2 k) (hs : starEach [e] X.env = [(false, eval e X.env)] := by rfl) (hbase : attributeBase o "join" X.env (eval o X.env) = eval o X.env := by rfl) (hline : (apos.endLine == cpos.line) = true := by rfl) :
    EW X O ρ (.Call (.Attribute o "join" apos) [e] [] cpos) x k := ew_m1 PySem.F.slot_str_join PySem.F.type_str_join h hs hbase hline
theorem ew_partition (h : EW X O ρ o x fun s O1 => ∃ z, s = .dat (.str z) ∧ EW X O1 ρ e x fun s2 O2 => M1B X "str.partition" z s2 O2 k) (hs : starEach [e] X.env = [(false, eval e X.env)] := by rfl) (hbase : attributeBase o "partition" X.env (eval o X.env) = eval o X.env := by rfl) (hline : (apos.endLine == cpos.line) = true := by rfl) :
    EW X O ρ (.Call (.Attribute o "partition" apos) [e] [] cpos) x k := ew_m1 PySem.F.slot_str_partition PySem.F.type_str_partition h hs hbase hline
theorem ew_find (h : EW X O ρ o x fun s O1 => ∃ z, s = .dat (.str z) ∧ EW X O1 ρ e x fun s2 O2 => M1B X "str.find" z s2 O2 k) (hs : starEach [e] X.env = [(false, eval e X.env)] := by rfl) (hbase : attributeBase o "find" X.env (eval o X.env) = eval o X.env := by rfl) (hline : (apos.endLine == cpos.line) = true := by rfl) :
    EW X O ρ (.Call (.Attribute o "find" apos) [e] [] cpos) x k := ew_m1 PySem.F.slot_str_find PySem.F.type_str_find h hs hbase hline
theorem few1 {env : Env} {cpos : Pos} {e : Expr} (hs : starEach [e] env = [(false, eval e env)]) : ((backTo cpos (starEach [e] env)).all (fun x => !x.1) && (backToKw cpos (keywordEach [] env)).all (fun x => x.1.isSome)
      && decide (([e] : List Expr).length + ([] : List Keyword).length + (if ([] : List Keyword).isEmpty then 0 else 1) < 30)) = true := by
  rw [hs]; rfl
theorem ew_lm {id : String} {name : Str} (slot : PySem.Slot "list" name id) (hty : typeOf (.builtin id) = pure (.type "method_descriptor"))
    (h : EW X O ρ o x fun s O1 => TyS "list" O1 s ∧ EW X O1 ρ e x fun s2 O2 => MtB X id s [s2] O2 k) (hs : starEach [e] X.env = [(false, eval e X.env)] := by rfl) (hbase : attributeBase o name X.env (eval o X.env) = eval o X.env := by rfl)
    (hline : (apos.endLine == cpos.line) = true := by rfl) : EW X O ρ (.Call (.Attribute o name apos) [e] [] cpos) x k :=
  ew_bm PySem.F.plainAttrs_list slot hty (h.mono fun s O1 ⟨h1, h2⟩ => ⟨h1, aw_cons (h2.mono fun s2 O2 h3 => aw_nil h3) hs⟩) hbase (few1 hs) hline hs rfl
theorem ew_append (h : EW X O ρ o x fun s O1 => TyS "list" O1 s ∧ EW X O1 ρ e x fun s2 O2 => MtB X "list.append" s [s2] O2 k) (hs : starEach [e] X.env = [(false, eval e X.env)] := by rfl) (hbase : attributeBase o "append" X.env (eval o X.env) = eval o X.env := by rfl)
    (hline : (apos.endLine == cpos.line) = true := by rfl) : EW X O ρ (.Call (.Attribute o "append" apos) [e] [] cpos) x k := ew_lm PySem.F.slot_list_append PySem.F.type_list_append h hs hbase hline
theorem ew_extend (h : EW X O ρ o x fun s O1 => TyS "list" O1 s ∧ EW X O1 ρ e x fun s2 O2 => MtB X "list.extend" s [s2] O2 k) (hs : starEach [e] X.env = [(false, eval e X.env)] := by rfl) (hbase : attributeBase o "extend" X.env (eval o X.env) = eval o X.env := by rfl)
    (hline : (apos.endLine == cpos.line) = true := by rfl) : EW X O ρ (.Call (.Attribute o "extend" apos) [e] [] cpos) x k := ew_lm PySem.F.slot_list_extend PySem.F.type_list_extend h hs hbase hline
theorem ew_popAt (h : EW X O ρ o x fun s O1 => TyS "list" O1 s ∧ EW X O1 ρ e x fun s2 O2 => MtB X "list.pop" s [s2] O2 k) (hs : starEach [e] X.env = [(false, eval e X.env)] := by rfl) (hbase : attributeBase o "pop" X.env (eval o X.env) = eval o X.env := by rfl)
    (hline : (apos.endLine == cpos.line) = true := by rfl) : EW X O ρ (.Call (.Attribute o "pop" apos) [e] [] cpos) x k := ew_lm PySem.F.slot_list_pop PySem.F.type_list_pop h hs hbase hline
theorem ew_pop (h : EW X O ρ o x fun s O1 => TyS "list" O1 s ∧ MtB X "list.pop" s [] O1 k) (hbase : attributeBase o "pop" X.env (eval o X.env) = eval o X.env := by rfl)
    (hline : (apos.endLine == cpos.line) = true := by rfl) : EW X O ρ (.Call (.Attribute o "pop" apos) [] [] cpos) x k := ew_bm0 PySem.F.plainAttrs_list PySem.F.slot_list_pop PySem.F.type_list_pop h hbase hline
theorem ew_chain {op op' : CmpOp} {b c : Expr} (h : EW X O ρ a x fun s1 O1 => EW X O1 ρ b x fun s2 O2 => OpB X (compareOp op) s1 s2 O2 fun s O3 => O3 = O2 ∧ ∃ t, s = .dat (.bl t) ∧ (t = true → EW X O3 ρ c x fun s3 O4 => OpB X (compareOp op') s2 s3 O4 k) ∧ (t = false → k (.dat (.bl false)) O3)) (hm : lastMarks [op, op'] [b, c] = false := by rfl) :
    EW X O ρ (.Compare a [op, op'] [b, c] pos) x k := fun H0 σ H st tk Q q => by
  have m1 : OpR X (compareOp op) (fun v1 v2 H2 Q => ∃ r, OpR X (compareOp op) r ∧ r v1 v2 H2 Q) := fun pins s σ H x y v u Q I rx ry ⟨r, ho, hr⟩ => ho pins s σ H x y v u Q I rx ry hr
  have m2 : OpR X (compareOp op') (fun v1 v2 H2 Q => ∃ r, OpR X (compareOp op') r ∧ r v1 v2 H2 Q) := fun pins s σ H x y v u Q I rx ry ⟨r, ho, hr⟩ => ho pins s σ H x y v u Q I rx ry hr
  refine we_of (pe_chain m1 m2 pe_w pe_w pe_w (hm := hm)) ?_
  refine h H0 σ H st tk _ fun v1 H1 s1 O1 h1 st1 r1 => h1 (hid O1 H1) σ H1 st1.top (takes_base tk st1.base) _ fun v2 H2 s2 O2 ⟨r, ho, hr⟩ st2 r2 => ⟨r, ho, ?_⟩
  have b2 := st1.base.trans st2.base
  refine hr (hid O2 H2) σ ρ H2 v1 v2 st2.top (SlOk.mono st2.base r1) r2 _ fun z H3 s O3 ⟨e3, t, e1, h3, h4⟩ st3 r3 => ?_
  subst e1 e3
  cases r3
  refine ⟨t, rfl, ?_⟩
  have st3' := st3.rebase b2
  cases t with
  | true =>
    refine iteT ((h3 rfl) (hid O3 H3) σ H3 st3.top (takes_base tk (b2.trans st3.base)) _ fun w' H4 s3 O4 ⟨r', ho', hr'⟩ st4 r4 => ⟨r', ho', ?_⟩)
    exact hr' H0 σ ρ H4 v2 w' (st4.rebase (b2.trans st3.base)) (SlOk.mono (st3.base.trans st4.base) r2) r4 Q q
  | false => exact iteF (q _ H3 _ O3 (h4 rfl) st3' (.bl false))
end
section
variable {X : Cx} {O : Own} {ρ : List Slot} {x : ExK} {kl : List Slot → Own → Prop} {o i : Expr} {pos : Pos} {s : Slot}
/-- o[i] = v, o a cell -/
theorem gw_set (h : EW X O ρ o x fun s1 O1 => EW X O1 ρ i x fun s2 O2 => ∃ p ss n j, s1 = .own p ∧ s2 = .dat (.int n) ∧ O2 p = some (.lst ss) ∧ ixN ss.length n = some j ∧ kl ρ (up O2 p (.lst (ss.set j s))))
    (ha : ∀ v, assign (.Subscript o i pos) X.env v = (do { let ov ← holding [v] (eval o X.env); let iv ← holding [v, ov] (eval i X.env); standAt pos; holding [v, ov, iv] (setItem ov iv v); release [v, ov, iv] [] }) := by intro _; rfl) : GW X O ρ (.Subscript o i pos) s x kl := fun H0 σ H v st r tk Q q => by
  refine wg_of (pg_sub pe_w pe_w set_list ha) (two h st.top (takes_base tk st.base) (Q := fun v1 v2 H2 => rSetL v1 v2 v H2 fun H3 => Q σ H3) fun v1 v2 s1 s2 O2 H2 hp st2 r1 r2 => ?_)
  obtain ⟨p, ss, n, j, e1, e2, h1, h2, h3⟩ := hp
  subst e1 e2
  obtain rfl : v1 = .ref p := r1
  cases r2
  obtain ⟨oo, h4, vs, rfl, h5⟩ := st2.own.cell p _ h1
  refine ⟨p, vs, n, j, rfl, rfl, h4, by rw [paired_len h5]; exact h2, q σ _ ρ _ h3 ((st2.rebase st.base).write h1 ⟨_, rfl, paired_set (SlOk.mono st2.base r) j h5⟩)⟩
end
end Kn
namespace Kn
open PySem PySem.Spec PyProof.Rows
open L2 hiding St
section
variable {X : Cx} {O : Own} {ρ : List Slot} {x : ExK} {k : Slot → Own → Prop} {e a o : Expr} {es : List Expr} {apos cpos pos : Pos}
theorem ew_bltn {nm : Str} {n : String} (hm : X.mg nm = none) (hv : bootBuiltins nm = some (.type n)) (h : k (.dat (.ty n)) O) (hg : Gl X nm := by rfl) (hn : nm ≠ "__name__" := by decide) (hd : (nm == ("__debug__" : Str)) = false := by decide) : EW X O ρ (.Name nm pos) x k := fun H0 σ H st tk Q q =>
  we_of (pe_bltn (v := .ty n) hg hm hv rfl hn hd) (q _ H _ O h st (.ty n))
/-- a class of one's own as a value -/
theorem ew_cls {nm : Str} {C : Addr} (hm : X.mg nm = some (.ref C)) (h : k (.dat (.cls C)) O) (hg : Gl X nm := by rfl) (hd : (nm == ("__debug__" : Str)) = false := by decide) : EW X O ρ (.Name nm pos) x k := fun H0 σ H st tk Q q =>
  we_of (pe_glob (v := .ref C) hg hm rfl hd) (q _ H _ O h st (.cls C))
def tyName : Dat → String
  | .non => "NoneType"
  | .bl _ => "bool"
  | .int _ => "int"
  | .str _ => "str"
  | .lst _ => "list"
  | .fro _ => "list"
  | .tup _ => "tuple"
  | _ => ""
theorem tyX_of {K : PySem.W.Frag} {O : Own} {H : Hp} {v : V} {d : Dat} (p : tyName d ≠ "") (r : Rp K (hid O H) v d) : TyX K H v (.type (tyName d)) := by
  cases r with
  | non => exact .base .non
  | bl b => exact .base (.bl b)
  | int i => exact .base (.int i)
  | str z => exact .base (.str z)
  | lst h1 h2 => exact .base (.lst (hid_le _ _ h1))
  | fro h1 h2 =>
    rcases h1 with (h1 | ⟨ob, h1⟩) | ⟨ob, its, n, h1, h3, _⟩
    · exact .base (.lst (hid_le _ _ h1))
    · exact .base (.frz (hid_le _ _ h1))
    · exact .kList h1 h3
  | tup h1 h2 =>
    rcases h1 with (h1 | ⟨ob, h1⟩) | ⟨ob, its, n, h1, h3, _⟩
    · exact .base (.tup (hid_le _ _ h1))
    · exact .fTuple (hid_le _ _ h1)
    · exact .kTuple h1 h3
  | ins h1 h2 => exact absurd rfl p
  | cls C => exact absurd rfl p
  | ty n => exact absurd rfl p
  | exc h1 h2 => exact absurd rfl p
  | slo h1 h2 h3 h4 => exact absurd rfl p
  | tre h1 h2 h3 h4 h5 => exact absurd rfl p
  | key h1 => exact absurd rfl p
  | dct h1 h2 => exact absurd rfl p
  | env h1 => exact absurd rfl p
theorem cb_isTy {d : Dat} {n : String} {t : Bool} (hk : kitB (tyName d) n = some t) (h : k (.dat (.bl t)) O) (hp : tyName d ≠ "" := by first | decide | assumption) : CaB X (.builtin "isinstance") [.dat d, .dat (.ty n)] O k := ⟨_, call_isi, fun H0 σ ρ H vs st pr Q q => by
  cases pr with
  | cons r1 pr =>
    cases pr with
    | cons r2 pr =>
      cases pr
      cases r2
      exact ⟨_, _, _, _, t, rfl, .ty n, tyX_of hp r1, kit_ty hk, q _ H _ O h st (.bl t)⟩⟩
def isStrD : Dat → Bool | .str _ => true | _ => false
def isLstD : Dat → Bool | .lst _ => true | .fro _ => true | _ => false
def isTupD : Dat → Bool | .tup _ => true | _ => false
def isIntD : Dat → Bool | .int _ => true | .bl _ => true | _ => false
def isBlD : Dat → Bool | .bl _ => true | _ => false
theorem kit_str {d : Dat} (hp : tyName d ≠ "") : kitB (tyName d) "str" = some (isStrD d) := by
  cases d <;> first | exact absurd rfl hp | exact (show kitB "NoneType" "str" = some false by decide +kernel) | exact (show kitB "bool" "str" = some false by decide +kernel) | exact (show kitB "int" "str" = some false by decide +kernel) | exact (show kitB "str" "str" = some true by decide +kernel) | exact (show kitB "list" "str" = some false by decide +kernel) | exact (show kitB "tuple" "str" = some false by decide +kernel)
theorem kit_lst {d : Dat} (hp : tyName d ≠ "") : kitB (tyName d) "list" = some (isLstD d) := by
  cases d <;> first | exact absurd rfl hp | exact (show kitB "NoneType" "list" = some false by decide +kernel) | exact (show kitB "bool" "list" = some false by decide +kernel) | exact (show kitB "int" "list" = some false by decide +kernel) | exact (show kitB "str" "list" = some false by decide +kernel) | exact (show kitB "list" "list" = some true by decide +kernel) | exact (show kitB "tuple" "list" = some false by decide +kernel)
theorem kit_tup {d : Dat} (hp : tyName d ≠ "") : kitB (tyName d) "tuple" = some (isTupD d) := by
  cases d <;> first | exact absurd rfl hp | exact (show kitB "NoneType" "tuple" = some false by decide +kernel) | exact (show kitB "bool" "tuple" = some false by decide +kernel) | exact (show kitB "int" "tuple" = some false by decide +kernel) | exact (show kitB "str" "tuple" = some false by decide +kernel) | exact (show kitB "list" "tuple" = some false by decide +kernel) | exact (show kitB "tuple" "tuple" = some true by decide +kernel)
theorem kit_int {d : Dat} (hp : tyName d ≠ "") : kitB (tyName d) "int" = some (isIntD d) := by
  cases d <;> first | exact absurd rfl hp | exact (show kitB "NoneType" "int" = some false by decide +kernel) | exact (show kitB "bool" "int" = some true by decide +kernel) | exact (show kitB "int" "int" = some true by decide +kernel) | exact (show kitB "str" "int" = some false by decide +kernel) | exact (show kitB "list" "int" = some false by decide +kernel) | exact (show kitB "tuple" "int" = some false by decide +kernel)
theorem kit_bool {d : Dat} (hp : tyName d ≠ "") : kitB (tyName d) "bool" = some (isBlD d) := by
  cases d <;> first | exact absurd rfl hp | exact (show kitB "NoneType" "bool" = some false by decide +kernel) | exact (show kitB "bool" "bool" = some true by decide +kernel) | exact (show kitB "int" "bool" = some false by decide +kernel) | exact (show kitB "str" "bool" = some false by decide +kernel) | exact (show kitB "list" "bool" = some false by decide +kernel) | exact (show kitB "tuple" "bool" = some false by decide +kernel)
end
end Kn
namespace Kn
open PySem PySem.Spec PyProof.Rows
open L2 hiding St
theorem bt_abs : bootBuiltins "abs" = some (.builtin "abs") := by decide +kernel
theorem bt_max : bootBuiltins "max" = some (.builtin "max") := by decide +kernel
theorem bt_min : bootBuiltins "min" = some (.builtin "min") := by decide +kernel
theorem bt_len : bootBuiltins "len" = some (.builtin "len") := by decide +kernel
theorem bt_all : bootBuiltins "all" = some (.builtin "all") := by decide +kernel
theorem bt_repr : bootBuiltins "repr" = some (.builtin "repr") := by decide +kernel
theorem bt_isinstance : bootBuiltins "isinstance" = some (.builtin "isinstance") := by decide +kernel
theorem bt_int : bootBuiltins "int" = some (.type "int") := by decide +kernel
theorem bt_str : bootBuiltins "str" = some (.type "str") := by decide +kernel
theorem bt_list : bootBuiltins "list" = some (.type "list") := by decide +kernel
theorem bt_tuple : bootBuiltins "tuple" = some (.type "tuple") := by decide +kernel
theorem bt_bool : bootBuiltins "bool" = some (.type "bool") := by decide +kernel
def sgs (z : Str) : List Nat := z.cps.toList
theorem sgs_len (z : Str) : z.length = (sgs z).length := TL.len_tl z
theorem sgs_ext {y z : Str} (h : sgs y = sgs z) : y = z := TL.ext_tl h
theorem sgs_app (y z : Str) : sgs (y ++ z) = sgs y ++ sgs z := TL.tl_append y z
theorem len_app (y z : Str) : (y ++ z).length = y.length + z.length := by rw [sgs_len, sgs_app, List.length_append, ← sgs_len, ← sgs_len]
/-- value made of letters, at most m of them -/
def madeOf (z L : Str) (m : Nat) : Bool := decide (0 < z.length) && (decide (z.length ≤ m) && (sgs z).all fun c => decide (c ∈ sgs L))
def madeD (d : Dat) (L : Str) (m : Nat) : Bool := match d with
  | .str z => madeOf z L m
  | _ => false
def ltrs : Str := "abcdefghijklmnopqrstuvwxyz"
def digs : Str := "0123456789"
def takenW : List Str := ["any", "other", "where"]
def isNm (z : Str) : Bool := madeOf z ltrs 8 && !(takenW.any (· == z))
def isNmD (d : Dat) : Bool := match d with
  | .str z => isNm z
  | _ => false
/-- a figure -/
def figL (l : List Nat) : Bool := decide (l = [48]) || decide (l.head? ≠ some 48)
def isFg (z : Str) : Bool := madeOf z digs 12 && figL (sgs z)
def isFgD (d : Dat) : Bool := match d with
  | .str z => isFg z
  | _ => false
theorem madeOf_pos {z L : Str} {m : Nat} (h : madeOf z L m = true) : 0 < z.length ∧ z.length ≤ m ∧ ∀ c ∈ sgs z, c ∈ sgs L := by
  unfold madeOf at h
  simp only [Bool.and_eq_true, decide_eq_true_eq, List.all_eq_true] at h
  exact ⟨h.1, h.2.1, h.2.2⟩
theorem madeOf_of {z L : Str} {m : Nat} (h1 : 0 < z.length) (h2 : z.length ≤ m) (h3 : ∀ c ∈ sgs z, c ∈ sgs L) : madeOf z L m = true := by
  unfold madeOf
  simp only [Bool.and_eq_true, decide_eq_true_eq, List.all_eq_true]
  exact ⟨h1, h2, h3⟩
def wordsS (z : Str) : List Str := if z = "" then [] else Txt.split z " "
/-- the digits' value -/
def figV (z : Str) : Int := ((NumText.digitsVal (sgs z) : Nat) : Int)
theorem digs_mem {c : Nat} : c ∈ sgs digs ↔ 48 ≤ c ∧ c ≤ 57 := by
  have e : sgs digs = [48, 49, 50, 51, 52, 53, 54, 55, 56, 57] := by decide +kernel
  rw [e]
  simp only [List.mem_cons, List.not_mem_nil, or_false]
  omega
theorem ltrs_mem {c : Nat} : c ∈ sgs ltrs ↔ 97 ≤ c ∧ c ≤ 122 := by
  have e : sgs ltrs = [97, 98, 99, 100, 101, 102, 103, 104, 105, 106, 107, 108, 109, 110, 111, 112, 113, 114, 115, 116, 117, 118, 119, 120, 121, 122] := by decide +kernel
  rw [e]
  simp only [List.mem_cons, List.not_mem_nil, or_false]
  omega
theorem fig_int {z : Str} (h : isFg z = true) : PySem.intText? z = some (figV z) ∧ z.length ≤ 12 := by
  obtain ⟨h1, h2, h3⟩ := madeOf_pos (Bool.and_eq_true_iff.mp h).1
  refine ⟨PySem.intText_digits (fun c hc => digs_mem.mp (h3 c hc)) (fun e => ?_) (by omega), h2⟩
  rw [sgs_len] at h1
  rw [show sgs z = [] from e] at h1
  exact absurd h1 (Nat.lt_irrefl 0)
theorem fig_zero {z : Str} (h : z = "0") : figL (sgs z) = true := by
  subst h
  decide +kernel
theorem one_str {c : Nat} {s : String} {n : Nat} (e : sgs (Str.ofString s) = [n]) : decide ((⟨#[c]⟩ : Str) = Str.ofString s) = decide (c = n) := by
  by_cases h : c = n
  · have e1 : (⟨#[c]⟩ : Str) = Str.ofString s := sgs_ext (by rw [e, h]; rfl)
    rw [decide_eq_true e1, decide_eq_true h]
  · have e1 : ¬ (⟨#[c]⟩ : Str) = Str.ofString s := fun q => by
      have q2 := congrArg sgs q
      rw [e] at q2
      have q3 : [c] = [n] := q2
      exact h (List.cons.inj q3).1
    rw [decide_eq_false e1, decide_eq_false h]
theorem fig_first {z : Str} (hm : madeOf z digs 12 = true) (h : ¬ z = "0") : ∃ c, atI z.cps.toList 0 = some c ∧ figL (sgs z) = !decide ((⟨#[c]⟩ : Str) = "0") := by
  obtain ⟨h1, _, _⟩ := madeOf_pos hm
  cases hz : sgs z with
  | nil =>
    rw [sgs_len, hz] at h1
    exact absurd h1 (Nat.lt_irrefl 0)
  | cons c r =>
    refine ⟨c, ?_, ?_⟩
    · rw [show z.cps.toList = c :: r from hz]
      exact atI_nat (j := 0) rfl
    · rw [one_str (n := 48) (by decide +kernel)]
      have e : ¬ (c :: r) = [48] := fun q => h (sgs_ext (by rw [hz, q]; decide +kernel))
      show (decide ((c :: r) = [48]) || decide (some c ≠ some 48)) = _
      rw [decide_eq_false e, Bool.false_or]
      by_cases hc : c = 48
      · rw [hc]; rfl
      · rw [decide_eq_false hc]
        exact decide_eq_true fun q => hc (Option.some.inj q)
section
variable {X : Cx} {O : Own} {k : Slot → Own → Prop}
theorem cb_allF {α : Type} {l : List α} {g : α → Bool} (hc : X.calm = true) (h : k (.dat (.bl (l.all g))) O) : CaB X (.builtin "all") [.dat (.lst (l.map fun a => Dat.bl (g a)))] O k := by
  have e : (l.map fun a => Dat.bl (g a)) = (l.map g).map .bl := by rw [List.map_map]; rfl
  rw [e]
  refine cb_all hc ?_
  rw [List.all_map]
  exact h
end
theorem join_len (y : Str) : ∀ ws : List Str, ws ≠ [] → (Txt.join y ws).length + y.length = (ws.map (·.length)).sum + ws.length * y.length := by
  intro ws
  rw [TL.join_eq]
  induction ws with
  | nil => intro h; exact absurd rfl h
  | cons a r ih =>
    intro _
    cases r with
    | nil =>
      show a.length + y.length = (a.length + 0) + 1 * y.length
      omega
    | cons b r =>
      have e := ih (List.cons_ne_nil b r)
      show (a ++ y ++ Str.join y (b :: r)).length + y.length = (a.length + ((b :: r).map (·.length)).sum) + ((b :: r).length + 1) * y.length
      rw [len_app, len_app, Nat.succ_mul]
      omega
theorem split_ne (z y : Str) : Txt.split z y ≠ [] := by
  unfold Txt.split
  split
  · exact List.cons_ne_nil _ _
  · split
    · exact List.cons_ne_nil _ _
    · intro e
      have h := congrArg List.length e
      rw [PySem.length_partsBetween] at h
      exact absurd h (Nat.succ_ne_zero _)
theorem join_split (z y : Str) (hy : (y.length == 0) = false) : Txt.join y (Txt.split z y) = z := by
  unfold Txt.split
  split
  · rfl
  · split
    · rfl
    · exact PySem.StrLaws.glued_between_self _ _ _
theorem split_sum (z y : Str) (hy : (y.length == 0) = false) : z.length + y.length = ((Txt.split z y).map (·.length)).sum + (Txt.split z y).length * y.length := by
  have h := join_len y (Txt.split z y) (split_ne z y)
  rw [join_split z y hy] at h
  exact h
theorem mem_sum {l : List Str} {w : Str} (h : w ∈ l) : w.length ≤ (l.map (·.length)).sum := by
  induction l with
  | nil => cases h
  | cons a r ih =>
    show w.length ≤ a.length + (r.map (·.length)).sum
    rcases List.mem_cons.mp h with e | e
    · rw [e]; omega
    · have := ih e
      omega
theorem sp1 : (Str.ofString " ").length = 1 := by decide +kernel
/-- what a text's words come to -/
theorem words_sum (z : Str) : z.length + 1 = ((Txt.split z " ").map (·.length)).sum + (Txt.split z " ").length := by
  have h := split_sum z " " (by decide +kernel)
  rw [sp1, Nat.mul_one] at h
  exact h
theorem word_len {z w : Str} (h : w ∈ Txt.split z " ") : w.length ≤ z.length := by
  have h1 := words_sum z
  have h2 := mem_sum h
  have h3 : 0 < (Txt.split z " ").length := List.length_pos_iff.mpr (split_ne z " ")
  omega
abbrev Ev := Option (Str × Int)
def evD : Ev → Dat
  | none => .tup [.str "close"]
  | some (n, m) => .tup [.str "open", .str n, .int m]
def evR : Option Ev → Dat
  | none => .non
  | some e => evD e
def evS (z : Str) : Option Ev := if z = "/" then some none else if isNm (Txt.partition z ":").1 && (!decide ((Txt.partition z ":").2.1 = "") && isFg (Txt.partition z ":").2.2) then some (some ((Txt.partition z ":").1, figV (Txt.partition z ":").2.2)) else none
def wordE : Ev → Str
  | none => "/"
  | some (n, m) => n ++ ":" ++ (toString m : String)
def textE (es : List Ev) : Str := Txt.join " " (es.map wordE)
/-- marks and names that stay small -/
def smallE : Ev → Prop
  | none => True
  | some (n, m) => n.length ≤ 100 ∧ 0 ≤ m ∧ m < 10 ^ 100
/-- what may be asked for its kind -/
def okD (d : Dat) : Prop := tyName d ≠ "" ∧ ∀ z, d = .str z → z.length ≤ 100000
theorem okD_str {z : Str} (h : z.length ≤ 100000) : okD (.str z) := ⟨(show "str" ≠ "" by decide), fun y e => by cases e; exact h⟩
def SplitS : SpecT := fun ss O R => ∃ z : Str, ss = [.dat (.str z)] ∧ z.length ≤ 100000 ∧ R (.ret (.dat (.lst ((wordsS z).map .str)))) O
def MadeS : SpecT := fun ss O R => ∃ (d : Dat) (L : Str) (m : Nat), ss = [.dat d, .dat (.str L), .dat (.int (m : Int))] ∧ okD d ∧ R (.ret (.dat (.bl (madeD d L m)))) O
def NameS : SpecT := fun ss O R => ∃ d : Dat, ss = [.dat d] ∧ okD d ∧ R (.ret (.dat (.bl (isNmD d)))) O
def FigS : SpecT := fun ss O R => ∃ d : Dat, ss = [.dat d] ∧ okD d ∧ R (.ret (.dat (.bl (isFgD d)))) O
/-- own_copy of what is no list and no tuple -/
def Own0S : SpecT := fun ss O R => ∃ d : Dat, ss = [.dat d] ∧ tyName d ≠ "" ∧ isLstD d = false ∧ isTupD d = false ∧ R (.ret (.dat d)) O
end Kn
namespace Kn
open PySem PySem.Spec PyProof.Rows
open L2 hiding St
def Sub (O' O : Own) : Prop := ∀ p c, O' p = some c → O p = some c
theorem Sub.refl {O : Own} : Sub O O := fun _ _ h => h
theorem Sub.trans {O1 O2 O3 : Own} (h : Sub O1 O2) (h' : Sub O2 O3) : Sub O1 O3 := fun p c e => h' p c (h p c e)
theorem Sub.up {O : Own} {p : Addr} {c : Cell} (h : O p = none) : Sub O (up O p c) := fun q d e => by
  rw [up_ne (own_ne e h)]; exact e
theorem Sub.ups {O' O : Own} {p : Addr} {c : Cell} (h : Sub O' O) : Sub (Kn.up O' p c) (Kn.up O p c) := fun q d e => by
  by_cases z : q = p
  · subst z
    rw [up_at] at e ⊢
    exact e
  · rw [up_ne z] at e ⊢
    exact h q d e
theorem Sub.none {O' O : Own} {p : Addr} (h : Sub O' O) (n : O p = none) : O' p = none := by
  cases e : O' p with
  | none => rfl
  | some c => rw [h p c e] at n; cases n
theorem hid_sub {O' O : Own} {H : Hp} (h : Sub O' O) : Same (hid O H) (hid O' H) := fun b o e => by
  obtain ⟨h1, h2⟩ := of_hid e
  rw [hid_none (h.none h1)]
  exact h2
section
variable {K : PySem.W.Frag} {H0 H : Hp} {O O' : Own} {σ : SV} {ρ : List Slot}
theorem OwnOk.sub (h : OwnOk K O H) (s : Sub O' O) : OwnOk K O' H := ⟨fun p c e => by
  obtain ⟨o, h1, h2⟩ := h.cell p c (s p c e)
  exact ⟨o, h1, ClOk.mono (hid_sub s) h2⟩⟩
theorem StOk.sub (h : StOk K H0 O σ ρ H) (s : Sub O' O) : StOk K H0 O' σ ρ H := ⟨h.own.sub s, h.base.trans (hid_sub s), pmap (fun _ _ q => EnvOk.mono (hid_sub s) q) h.env⟩
theorem ExOk.sub {cls : Value} {d : Option Addr} {e : Exn} (h : ExOk K O H cls d e) (s : Sub O' O) : ExOk K O' H cls d e := by
  cases e with
  | own C fs =>
    obtain ⟨h1, dx, fv, h2, h3, h4, h5⟩ := h
    exact ⟨h1, dx, fv, h2, s.none h3, h4, RpF.mono (hid_sub s) h5⟩
  | ty n => exact h
end
/-- .. forgotten at the way out -/
def drX (x : ExK) : ExK := fun e ρ O => ∃ O', Sub O' O ∧ x e ρ O'
def drR (r : Slot → Own → Prop) : Slot → Own → Prop := fun z O => ∃ O', Sub O' O ∧ r z O'
def drN (r : List Slot → Own → Prop) : List Slot → Own → Prop := fun z O => ∃ O', Sub O' O ∧ r z O'
section
variable {X : Cx} {O : Own} {ρ : List Slot} {x : ExK} {D : SD} {sts : List Stmt} {e : Expr} {k : Slot → Own → Prop}
theorem takes_dr {H0 : Hp} (t : Takes X (Wsem X.K H0 x)) : Takes X (Wsem X.K H0 (drX x)) := t.imp fun _ _ _ _ ⟨e, ρ, O, ⟨O', s, h1⟩, h2, h3⟩ => ⟨e, ρ, O', h1, h2.sub s, h3.sub s⟩
theorem sw_drop (h : SW X O ρ sts (drX x) { nx := drN D.nx, rt := drR D.rt, bk := drN D.bk, ct := drN D.ct }) : SW X O ρ sts x D := fun H0 σ H st tk E ok =>
  h H0 σ H st (takes_dr tk) E ⟨fun σ ρ O H ⟨O', s, q⟩ z => ok.nx σ ρ O' H q (z.sub s), fun v z O H ⟨O', s, q⟩ o b r => ok.rt v z O' H q (o.sub s) (b.trans (hid_sub s)) (SlOk.mono (hid_sub s) r), fun σ ρ O H ⟨O', s, q⟩ z => ok.bk σ ρ O' H q (z.sub s), fun σ ρ O H ⟨O', s, q⟩ z => ok.ct σ ρ O' H q (z.sub s)⟩
end
def Ini1 (okI : Dat → Prop) (C : Addr) (f : Str) : SpecT := fun ss O R => ∃ (a : Addr) (d : Dat), ss = [.own a, .dat d] ∧ okI d ∧ O a = some (.exo C none) ∧ ∀ dx, O dx = none → R (.ret (.dat .non)) (up (up O dx (.exd [(f, .dat d)])) a (.exo C (some dx)))
theorem raised1 {okI : Dat → Prop} {C : Addr} {f : Str} {d : Dat} {x : ExK} {ρ : List Slot} {O : Own} (hd : okI d) (h : x (.own C [(f, d)]) ρ O) : MkEx C (Ini1 okI C f) x ρ [.dat d] O := by
  refine ⟨(show 1 ≤ 1000 by decide), fun a ha => ⟨a, d, rfl, hd, up_at, fun dx nd => ⟨_, rfl, rfl, dx, [(f, d)], up_at, ?_, ?_, ?_⟩⟩⟩
  · have na : dx ≠ a := fun e => by rw [e, up_at] at nd; cases nd
    rw [up_ne na, up_at]
    rfl
  · have na : dx ≠ a := fun e => by rw [e, up_at] at nd; cases nd
    rw [up_ne na] at nd
    exact nd
  · have na : dx ≠ a := fun e => by rw [e, up_at] at nd; cases nd
    have nd' := nd
    rw [up_ne na] at nd'
    have e : dn (dn (up (up (up O a (.exo C none)) dx (.exd [(f, .dat d)])) a (.exo C (some dx))) a) dx = O := by
      funext b
      by_cases e1 : b = dx
      · subst e1; rw [dn_at, nd']
      · rw [dn_ne e1]
        by_cases e2 : b = a
        · subst e2; rw [dn_at, ha]
        · rw [dn_ne e2, up_ne e2, up_ne e1, up_ne e2]
    rw [e]
    exact h
/-- mg is what the written part says of the module's names -/
def TopOf (K : PySem.W.Frag) (mg : Str → Option Value) : Prop := ∃ h : Heap, K.In h ∧ h.Ns mainGlobals mg
theorem TopOf.no {K : PySem.W.Frag} {mg : Str → Option Value} {nm : Str} (T : TopOf K mg) (e : PySem.W.nsIn K mainGlobals nm = some none) : mg nm = none := by
  obtain ⟨h, h1, h2⟩ := T
  exact PySem.W.mg_none_of h1 h2 e
theorem TopOf.is {K : PySem.W.Frag} {mg : Str → Option Value} {nm : Str} {v : Value} (T : TopOf K mg) (e : PySem.W.nsIn K mainGlobals nm = some (some v)) : mg nm = some v := by
  obtain ⟨h, h1, h2⟩ := T
  exact PySem.W.mg_of h1 h2 e
/-- a def without defaults under its name -/
structure DefIn (K : PySem.W.Frag) (nm : Str) (st : Stmt) : Prop where
  ex : ∃ (f : Addr) (fd : FuncData), PySem.W.nsIn K mainGlobals nm = some (some (.ref f)) ∧ L2.Fun K nm nm st f fd
/-- how the arguments of a def of n parameters bind -/
def BindsAs (nm : Str) (st : Stmt) (ps : List Str) : Prop := ∀ (kV doc pm : Value) (an : Option Addr) (cdv ct : Value) (us : List Value), us.length = ps.length →
  bindArgs (PySem.W.fnOf nm nm (defArgs st) (defBody st) (defScope st) .none kV doc pm an cdv ct) ⟨us, []⟩ = pure (ps.zip us)
/-- a text, a tuple of texts under a module's name -/
def TextIn (K : PySem.W.Frag) (nm z : Str) : Prop := ∃ t, PySem.W.nsIn K mainGlobals nm = some (some (.str z t))
theorem TextIn.glob {K : PySem.W.Frag} {mg : Str → Option Value} {nm z : Str} (h : TextIn K nm z) (T : TopOf K mg) : GlobD K mg nm (.str z) := by
  obtain ⟨t, a⟩ := h
  exact ⟨.str z, .str z t, T.is a, ⟨t, rfl⟩, fun G => .str z⟩
def strsOf : List Value → Option (List Str)
  | [] => some []
  | .str z _ :: r => (strsOf r).map (z :: ·)
  | _ :: _ => none
theorem vals_strsOf : ∀ {us : List Value} {zs : List Str}, strsOf us = some zs → Vals (zs.map V.str) us
  | [], zs, h => by cases h; exact .nil
  | u :: us, zs, h => by
    cases u with
    | str z t =>
      cases q : strsOf us with
      | none =>
        unfold strsOf at h
        rw [q] at h; cases h
      | some ys =>
        unfold strsOf at h
        rw [q] at h; cases h
        exact .cons ⟨t, rfl⟩ (vals_strsOf q)
    | _ => cases h
def TextsIn (K : PySem.W.Frag) (nm : Str) (zs : List Str) : Prop := ∃ (a : Addr) (od : Option Addr) (its : Array Value) (n : Nat) (sl : Array (Option Value)), PySem.W.nsIn K mainGlobals nm = some (some (.ref a)) ∧ K.lookup a = some ⟨.type "tuple", od, .seq its n, sl⟩ ∧ its.size ≤ sizeLine ∧ strsOf its.toList = some zs
theorem TextsIn.glob {K : PySem.W.Frag} {mg : Str → Option Value} {nm : Str} {zs : List Str} (h : TextsIn K nm zs) (T : TopOf K mg) : GlobD K mg nm (.tup (zs.map .str)) := by
  obtain ⟨a, od, its, n, sl, h1, h2, h3, h4⟩ := h
  exact ⟨.ref a, .ref a, T.is h1, rfl, fun G => .tup (xs := zs.map V.str) (.inr ⟨_, its, n, h2, rfl, rfl, h3, vals_strsOf h4⟩) (strs_rp zs)⟩
/-- an exception class of one's own with an __init__ of its own -/
structure ExcAt (K : PySem.W.Frag) (nm qual : Str) (st : Stmt) (C : Addr) : Prop where
  at_ : PySem.W.nsIn K mainGlobals nm = some (some (.ref C))
  oex : OexC K C
  ini : ∃ f fd, PySem.W.findIn K (.ref C) "__init__" = some (some (.ref f)) ∧ PySem.W.typeIn K (.ref f) = some (.type "function") ∧ L2.Fun K "__init__" qual st f fd
/-- .. with all that is asked of it where it is caught; B: the class that it is derived from -/
structure ExcIn (K : PySem.W.Frag) (nm qual bn : Str) (st : Stmt) (C B : Addr) : Prop where
  a : ExcAt K nm qual st C
  xf : XfC K C
  ec : ExcC K C
  own : PySem.W.subIn K (.ref C) (.ref C) = some true
  bat : PySem.W.nsIn K mainGlobals bn = some (some (.ref B))
  sup : PySem.W.subIn K (.ref C) (.ref B) = some true
  bty : PySem.W.typeIn K (.ref B) = some (.type "type")
  bcl : PySem.W.isClsIn K B = true
  brd : ClX.CRead K B (.type "type")
  bin : PySem.W.findCls K (.ref B) (.type "type") "__init__" = some (.val (.builtin "ValueError.__init__"))
section
variable {K : PySem.W.Frag} {nm qual bn : Str} {st : Stmt} {C B : Addr} {mg : Str → Option Value}
theorem ExcIn.exm (h : ExcIn K nm qual bn st C B) : PySem.W.exmOne K (.ref C) (.ref C) = some true := PySem.W.exm_ref h.xf.exC h.xf.hdC h.a.oex.tyC h.own
theorem kit_sub {C B : Addr} (bcl : PySem.W.isClsIn K B = true) (bty : PySem.W.typeIn K (.ref B) = some (.type "type")) (sup : PySem.W.subIn K (.ref C) (.ref B) = some true) : PySem.W.kitOne K (.ref C) (.ref B) = some true := by
  unfold PySem.W.kitOne
  split
  · rfl
  · have e1 : ((PySem.W.clsIn K B).isSome && PySem.W.typeIn K (.ref B) == some (.type "type")) = true := by
      rw [bty]
      rw [show (PySem.W.clsIn K B).isSome = true from bcl]
      rfl
    show (if ((PySem.W.clsIn K B).isSome && PySem.W.typeIn K (.ref B) == some (.type "type")) = true then _ else _) = _
    rw [if_pos e1]
    exact sup
theorem ExcIn.kit (h : ExcIn K nm qual bn st C B) : PySem.W.kitOne K (.ref C) (.ref B) = some true := kit_sub h.bcl h.bty h.sup
theorem ExcIn.ini (h : ExcIn K nm qual bn st C B) (T : TopOf K mg) : BaseIni K mg bn := ⟨B, .type "type", T.is h.bat, h.brd, h.bin⟩
end
section
variable {P : Program} {w : World} {K : PySem.W.Frag} {mg : Str → Option Value} {base : Heap} {g : Bool} {k : Nat} {ps : List Str} {S : SpecT}
theorem cal_of {nm : Str} {st : Stmt} (T : TopOf K mg) (D : DefIn K nm st) (b : BindsAs nm st ps) (h : ∀ f fd, L2.Fun K nm nm st f fd → Fn P w K mg base g k f fd ps S) : Cal P w K mg base g k nm S [] := by
  obtain ⟨f, fd, a, F⟩ := D.ex
  exact ⟨f, fd, ps, [], [], T.is a, F.kp, h f fd F, F.binds b, .nil, fun _ => .nil⟩
/-- how the arguments of an __init__ bind -/
def IniAs (qual : Str) (st : Stmt) (ps : List Str) : Prop := ∀ (kV doc pm : Value) (an : Option Addr) (cdv ct : Value) (us : List Value), us.length = ps.length →
  bindArgs (PySem.W.fnOf "__init__" qual (defArgs st) (defBody st) (defScope st) .none kV doc pm an cdv ct) ⟨us, []⟩ = pure (ps.zip us)
theorem xc_of {nm qual bn : Str} {st : Stmt} {C B : Addr} (T : TopOf K mg) (D : ExcIn K nm qual bn st C B) (b : IniAs qual st ps) (h : ∀ f fd, L2.Fun K "__init__" qual st f fd → Fn P w K mg base false k f fd ps S) : ExCls P w K mg base k nm C S := by
  obtain ⟨f, fd, h1, h2, F⟩ := D.a.ini
  exact ⟨D.a.oex, T.is D.a.at_, f, fd, ps, h1, h2, h f fd F, F.binds b⟩
end
theorem ints_rp {K : PySem.W.Frag} {G : Hp} : ∀ ns : List Int, RpA K G (ns.map V.int) (ns.map Dat.int)
  | [] => .nil
  | n :: ns => .cons (.int n) (ints_rp ns)
def noO : Own := fun _ => none
end Kn
namespace Kn
open PySem PySem.Spec PyProof.Rows
open L2 hiding St
section
variable {X : Cx} {O : Own} {ρ : List Slot} {x : ExK} {D : SD} {sts : List Stmt}
theorem StOk.give {K : PySem.W.Frag} {H0 H : Hp} {σ : SV} {i : Nat} {p : Addr} {ds : List Dat} (h : StOk K H0 O σ ρ H) (hi : ρ[i]? = some (.own p)) (hp : O p = some (.lst (ds.map .dat))) : StOk K H0 (dn O p) σ (ρ.set i (.dat (.lst ds))) H := by
  have f := h.freeze (p := p)
  refine ⟨f.own, f.base, ?_⟩
  obtain ⟨v, h1, h2⟩ := paired_get f.env hi
  have r : Rp K (hid (dn O p) H) (.ref p) (.lst ds) := h.own.lst hp
  have z := paired_set (x := v) (y := Slot.dat (.lst ds)) (F := EnvOk K (hid (dn O p) H)) ⟨.ref p, h2, r⟩ i f.env
  have e : σ.set i v = σ := by
    obtain ⟨hl, e⟩ := List.getElem?_eq_some_iff.mp h1
    rw [← e, List.set_getElem_self]
  rw [e] at z
  exact z
/-- the list that a name holds is data from now on -/
theorem sw_frz (i : Nat) {p : Addr} {ds : List Dat} (hp : O p = some (.lst (ds.map .dat))) (h : SW X (dn O p) (ρ.set i (.dat (.lst ds))) sts x D) (hi : ρ[i]? = some (.own p) := by rfl) : SW X O ρ sts x D := fun H0 σ H st tk E ok => h H0 σ H (st.give hi hp) tk E ok
/-- y = [elt for tg in iter if ..] whose parts change nothing -/
theorem s1_setMap {α : Type} (l : List α) (ι f : α → Dat) (g : α → Bool) (own : List (Str × Nat)) (i : Nat) {nm : Str} {py spos pos : Pos} {elt tg iter : Expr} {ifs : List Expr} {scope : Scope} {T : Dat → List Slot → List Slot → Prop} (hN : X.N.Nodup) (tg_ok : Tgt X scope (own.map (·.2)) tg T) (ok : BlkOk X.N X.env.scope scope own)
    (hi : IW X O ρ tg iter x fun ds' O1 => ds' = l.map ι ∧ O1 = O) (hz : l.length ≤ sizeLine)
    (hb : ∀ d, d ∈ l → ∃ ρ', T (ι d) (wipeS ρ (own.map (·.2))) ρ' ∧ ∀ O' Y, Blk X scope Y → TsW Y O' ρ' ifs noX (fun t O2 => t = g d ∧ O2 = O') ∧ (g d = true → EV Y O' ρ' elt noX (f d)))
    (h : ∀ p, O p = none → D.nx (ρ.set i (.own p)) (up O p (.lst (((l.filter g).map f).map .dat)))) (hc : X.calm = true := by rfl)
    (hy : X.N[i]? = some nm := by rfl) (hyl : X.env.scope.names.lookup nm = some .local := by rfl)
    (hsw : swapsWith (.ListComp elt [⟨tg, iter, ifs, 0⟩] scope pos) (some (.Name nm py)) spos.line X.env = pure true := by exact sw_true rfl rfl rfl (by decide +kernel)) (hs : ∀ x, foldedSetIterable iter X.env x = pure x := by intro _; rfl) :
    S1 X O ρ (.Assign [.Name nm py] (.ListComp elt [⟨tg, iter, ifs, 0⟩] scope pos) spos) x D := by
  refine s1_setLc own i hN tg_ok ok (fun H0 σ H st tk R q => hi H0 σ H st tk R fun J H' ds' O1 ⟨e1, e2⟩ st' it => q J H' ds' O1 ?_ st' it) hc hy hyl hsw hs
  subst e1 e2
  refine ⟨by rw [List.length_map]; exact hz, fun i acc O' => O' = O1 ∧ acc = (((l.take i).filter g).map f).map .dat, ⟨rfl, rfl⟩, fun i d0 acc O' hj hd0 => ?_, fun acc O' hj p hp => ?_⟩
  · obtain ⟨rfl, rfl⟩ := hj
    rw [List.getElem?_map] at hd0
    obtain ⟨d, hd, rfl⟩ := Option.map_eq_some_iff.mp hd0
    obtain ⟨ρ', ht, hb⟩ := hb d (List.mem_of_getElem? hd)
    refine ⟨ρ', ht, fun Dd nD Y hY => ?_⟩
    have htake : l.take (i + 1) = l.take i ++ [d] := by rw [List.take_add_one, hd]; rfl
    obtain ⟨h1, _⟩ := hb (up O' Dd (.lst ((((l.take i).filter g).map f).map .dat))) Y hY
    refine fun H0 σ H st tk Q q => h1 H0 σ H st tk Q fun t H' O2 ⟨e1, e2⟩ st2 => q t H' O2 ⟨fun ht => fun Z hZ => ?_, fun ht => ?_⟩ st2
    · subst e2
      have hg : g d = true := e1 ▸ ht
      refine ((hb (up O' Dd (.lst ((((l.take i).filter g).map f).map .dat))) Z hZ).2 hg).mono fun s O3 ⟨e3, e4⟩ => ?_
      subst e3 e4
      refine ⟨O', rfl, nD, rfl, ?_⟩
      rw [htake, List.filter_append, List.filter_cons_of_pos hg]
      simp
    · subst e2
      have hg : g d = false := e1 ▸ ht
      refine ⟨O', rfl, nD, rfl, ?_⟩
      rw [htake, List.filter_append, List.filter_cons_of_neg (by rw [hg]; exact Bool.false_ne_true)]
      simp
  · obtain ⟨rfl, rfl⟩ := hj
    rw [List.length_map, List.take_length]
    exact h p hp
theorem s1_setMap1 {α : Type} (l : List α) (ι f : α → Dat) (own : List (Str × Nat)) (i : Nat) {nm : Str} {py spos pos : Pos} {elt tg iter : Expr} {scope : Scope} {T : Dat → List Slot → List Slot → Prop} (hN : X.N.Nodup) (tg_ok : Tgt X scope (own.map (·.2)) tg T) (ok : BlkOk X.N X.env.scope scope own)
    (hi : IW X O ρ tg iter x fun ds' O1 => ds' = l.map ι ∧ O1 = O) (hz : l.length ≤ sizeLine)
    (hb : ∀ d, d ∈ l → ∃ ρ', T (ι d) (wipeS ρ (own.map (·.2))) ρ' ∧ ∀ O' Y, Blk X scope Y → EV Y O' ρ' elt noX (f d))
    (h : ∀ p, O p = none → D.nx (ρ.set i (.own p)) (up O p (.lst ((l.map f).map .dat)))) (hc : X.calm = true := by rfl)
    (hy : X.N[i]? = some nm := by rfl) (hyl : X.env.scope.names.lookup nm = some .local := by rfl)
    (hsw : swapsWith (.ListComp elt [⟨tg, iter, [], 0⟩] scope pos) (some (.Name nm py)) spos.line X.env = pure true := by exact sw_true rfl rfl rfl (by decide +kernel)) (hs : ∀ x, foldedSetIterable iter X.env x = pure x := by intro _; rfl) :
    S1 X O ρ (.Assign [.Name nm py] (.ListComp elt [⟨tg, iter, [], 0⟩] scope pos) spos) x D :=
  s1_setMap l ι f (fun _ => true) own i hN tg_ok ok hi hz (fun d hd => by
    obtain ⟨ρ', h1, h2⟩ := hb d hd
    exact ⟨ρ', h1, fun O' Y hY => ⟨tsw_nil ⟨rfl, rfl⟩, fun _ => h2 O' Y hY⟩⟩) (by rw [filter_yes]; exact h) hc hy hyl hsw hs
end
section
variable {X : Cx} {O : Own} {ρ : List Slot} {x : ExK} {a b c : Expr} {pos : Pos} {kt : Bool → Own → Prop}
/-- a < b < c as a test -/
theorem tw_chain {op op' : CmpOp} (h : EW X O ρ a x fun s1 O1 => EW X O1 ρ b x fun s2 O2 => OpB X (compareOp op) s1 s2 O2 fun s O3 => O3 = O2 ∧ ∃ t, s = .dat (.bl t) ∧ (t = true → EW X O3 ρ c x fun s3 O4 => OpB X (compareOp op') s2 s3 O4 fun s O5 => ∃ t, s = .dat (.bl t) ∧ kt t O5) ∧ (t = false → kt false O3)) (hm : lastMarks [op, op'] [b, c] = false := by rfl) :
    TW X O ρ (.Compare a [op, op'] [b, c] pos) x kt := fun H0 σ H st tk Q q => by
  have m1 : OpR X (compareOp op) (fun v1 v2 H2 Q => ∃ r, OpR X (compareOp op) r ∧ r v1 v2 H2 Q) := fun pins s σ H x y v u Q I rx ry ⟨r, ho, hr⟩ => ho pins s σ H x y v u Q I rx ry hr
  have m2 : OpR X (compareOp op') (fun v1 v2 H2 Q => ∃ r, OpR X (compareOp op') r ∧ r v1 v2 H2 Q) := fun pins s σ H x y v u Q I rx ry ⟨r, ho, hr⟩ => ho pins s σ H x y v u Q I rx ry hr
  refine wt_of (pt_chain m1 m2 pe_w pe_w pe_w (hm := hm)) ?_
  refine h H0 σ H st tk _ fun v1 H1 s1 O1 h1 st1 r1 => h1 (hid O1 H1) σ H1 st1.top (takes_base tk st1.base) _ fun v2 H2 s2 O2 ⟨r, ho, hr⟩ st2 r2 => ⟨r, ho, ?_⟩
  have b2 := st1.base.trans st2.base
  refine hr (hid O2 H2) σ ρ H2 v1 v2 st2.top (SlOk.mono st2.base r1) r2 _ fun z H3 s O3 ⟨e3, t, e1, h3, h4⟩ st3 r3 => ?_
  subst e1 e3
  cases r3
  refine ⟨t, rfl, ?_⟩
  have st3' := st3.rebase b2
  cases t with
  | true =>
    refine iteT ((h3 rfl) (hid O3 H3) σ H3 st3.top (takes_base tk (b2.trans st3.base)) _ fun w' H4 s3 O4 ⟨r', ho', hr'⟩ st4 r4 => ⟨r', ho', ?_⟩)
    exact hr' H0 σ ρ H4 v2 w' (st4.rebase (b2.trans st3.base)) (SlOk.mono (st3.base.trans st4.base) r2) r4 _ fun z5 H5 s5 O5 ⟨t5, e5, h5⟩ st5 r5 => by
      subst e5
      cases r5
      exact ⟨t5, rfl, q t5 H5 O5 h5 st5⟩
  | false => exact iteF ⟨false, rfl, q false H3 O3 (h4 rfl) st3'⟩
end
theorem seq_at {d : Int} {n : Nat} (h0 : 0 ≤ d) (h : d < (n : Int)) : seqIndex? d n = some d.toNat := by
  have e : (if d < 0 then d + (n : Int) else d) = d := if_neg (by omega)
  have e2 : (decide (0 ≤ d) && decide (d < (n : Int))) = true := by rw [decide_eq_true h0, decide_eq_true h]; rfl
  show (if (decide (0 ≤ (if d < 0 then d + (n : Int) else d)) && decide ((if d < 0 then d + (n : Int) else d) < (n : Int))) = true then some (if d < 0 then d + (n : Int) else d).toNat else none) = _
  rw [e, if_pos e2]
theorem rot_perm {α : Type} : ∀ {ls : List α} {j : Nat} {a : α}, ls[j]? = some a → (a :: ls.eraseIdx j).Perm ls
  | [], j, a, h => by cases h
  | b :: ls, 0, a, h => by cases h; exact .refl _
  | b :: ls, j + 1, a, h => (List.Perm.swap b a _).trans ((rot_perm (ls := ls) (j := j) h).cons b)
theorem erase_map {α β : Type} (f : α → β) : ∀ (l : List α) (i : Nat), (l.map f).eraseIdx i = (l.eraseIdx i).map f
  | [], _ => rfl
  | _ :: _, 0 => rfl
  | a :: l, i + 1 => congrArg (f a :: ·) (erase_map f l i)
theorem cut_take {α : Type} {l : List α} {m : Int} (h : 0 ≤ m) : cutD l none (some m) = l.take m.toNat := by
  obtain ⟨n, rfl⟩ := Int.eq_ofNat_of_zero_le h
  unfold cutD
  rw [HT.sIx_none, show HT.sIx l.length l.length (some (n : Int)) = min n l.length from HT.sIx_nat _ _ n, List.drop_zero, Nat.sub_zero, Int.toNat_natCast]
  rw [← List.take_eq_take_min]
theorem cut_drop {α : Type} {l : List α} {m : Int} (h : 0 ≤ m) : cutD l (some m) none = l.drop m.toNat := by
  obtain ⟨n, rfl⟩ := Int.eq_ofNat_of_zero_le h
  unfold cutD
  rw [HT.sIx_none, show HT.sIx l.length 0 (some (n : Int)) = min n l.length from HT.sIx_nat _ _ n, Int.toNat_natCast]
  rw [List.take_of_length_le (by rw [List.length_drop]; omega)]
  by_cases q : n ≤ l.length
  · rw [Nat.min_eq_left q]
  · rw [Nat.min_eq_right (by omega), List.drop_of_length_le (Nat.le_refl _), List.drop_of_length_le (by omega)]
end Kn
namespace Kn
open PySem PySem.Spec PyProof.Rows
open L2 hiding St
def smlB (z : Str) : Bool := z.cps.all (· < 0x110000)
mutual
def fine : Dat → Bool
  | .non => true
  | .bl _ => true
  | .int i => decide ((PyData.shown (.int i)).length ≤ 13) && decide (i.natAbs.log2 < 1920)
  | .str x => smlB x
  | .lst xs => fines xs
  | .fro xs => fines xs
  | .tup xs => fines xs
  | _ => false
def fines : List Dat → Bool
  | [] => true
  | d :: ds => fine d && fines ds
end
mutual
theorem fine_all : ∀ d : Dat, fine d = true → plain d = true ∧ (toPy d).canLay0 = true ∧ (toPy d).showable = true ∧ (toPy d).hasDict = false ∧ (toPy d).intsShort 13 = true
  | .non, _ => ⟨rfl, rfl, rfl, rfl, rfl⟩
  | .bl _, _ => ⟨rfl, rfl, rfl, rfl, rfl⟩
  | .int i, h => by
    have h : (decide ((PyData.shown (.int i)).length ≤ 13) && decide (i.natAbs.log2 < 1920)) = true := h
    obtain ⟨h1, h2⟩ := Bool.and_eq_true_iff.mp h
    exact ⟨rfl, rfl, h2, rfl, h1⟩
  | .str x, h => ⟨rfl, h, rfl, rfl, rfl⟩
  | .lst xs, h => by
    obtain ⟨h1, h2, h3, h4, h5⟩ := fines_all xs h
    exact ⟨h1, h2, h3, h4, h5⟩
  | .fro xs, h => by
    obtain ⟨h1, h2, h3, h4, h5⟩ := fines_all xs h
    exact ⟨h1, h2, h3, h4, h5⟩
  | .tup xs, h => by
    obtain ⟨h1, h2, h3, h4, h5⟩ := fines_all xs h
    exact ⟨h1, h2, h3, h4, h5⟩
theorem fines_all : ∀ ds : List Dat, fines ds = true → plains ds = true ∧ PyData.canLayAll0 (toPys ds) = true ∧ PyData.showableAll (toPys ds) = true ∧ PyData.hasDictAll (toPys ds) = false ∧ PyData.intsShortAll 13 (toPys ds) = true
  | [], _ => ⟨rfl, rfl, rfl, rfl, rfl⟩
  | d :: ds, h => by
    have h : (fine d && fines ds) = true := h
    obtain ⟨h1, h2⟩ := Bool.and_eq_true_iff.mp h
    obtain ⟨a1, a2, a3, a4, a5⟩ := fine_all d h1
    obtain ⟨b1, b2, b3, b4, b5⟩ := fines_all ds h2
    refine ⟨?_, ?_, ?_, ?_, ?_⟩
    · show (plain d && plains ds) = true
      rw [a1, b1]; rfl
    · show (PyData.canLay0 (toPy d) && PyData.canLayAll0 (toPys ds)) = true
      rw [a2, b2]; rfl
    · show (PyData.showable (toPy d) && PyData.showableAll (toPys ds)) = true
      rw [a3, b3]; rfl
    · show (PyData.hasDict (toPy d) || PyData.hasDictAll (toPys ds)) = false
      rw [a4, b4]; rfl
    · show (PyData.intsShort 13 (toPy d) && PyData.intsShortAll 13 (toPys ds)) = true
      rw [a5, b5]; rfl
end
def dep (d : Dat) : Nat := (toPy d).depth
def wgt (d : Dat) : Nat := (toPy d).weight
theorem shape_of {d : Dat} (h : fine d = true) (hd : dep d ≤ 64) : SeqAt.shaped (toPy d) = true := by
  unfold SeqAt.shaped
  rw [(fine_all d h).2.1]
  exact decide_eq_true hd
theorem reprOk_of {d : Dat} (h : fine d = true) (hd : dep d ≤ 64) (hw : wgt d ≤ 2 ^ 20) : reprOk d = true := by
  obtain ⟨h1, h2, h3, h4, h5⟩ := fine_all d h
  have h6 : (toPy d).layable0 = true := by
    unfold PyData.layable0
    rw [h2, decide_eq_true (show (toPy d).depth ≤ 64 from hd), decide_eq_true (show (toPy d).weight ≤ 2 ^ 20 from hw)]; rfl
  unfold reprOk
  rw [h1, h6, h3, h4, h5]; rfl
def deps : List Dat → Nat := fun ds => PyData.depthAll (toPys ds)
def wgts : List Dat → Nat := fun ds => PyData.weightAll (toPys ds)
section
variable {α : Type} {f : α → Dat} {l : List α} {b : Nat}
theorem fines_map : ∀ {l : List α}, (∀ a ∈ l, fine (f a) = true) → fines (l.map f) = true
  | [], _ => rfl
  | a :: l, h => by
    show (fine (f a) && fines (l.map f)) = true
    rw [h a List.mem_cons_self, fines_map fun c hc => h c (List.mem_cons_of_mem a hc)]; rfl
theorem deps_map : ∀ {l : List α}, (∀ a ∈ l, dep (f a) ≤ b) → deps (l.map f) ≤ b
  | [], _ => Nat.zero_le _
  | a :: l, h => Nat.max_le.mpr ⟨h a List.mem_cons_self, deps_map fun c hc => h c (List.mem_cons_of_mem a hc)⟩
end
theorem dep_lst {ds : List Dat} : dep (.lst ds) = deps ds + 1 := rfl
theorem dep_tup {ds : List Dat} : dep (.tup ds) = deps ds + 1 := rfl
theorem wgt_lst {ds : List Dat} : wgt (.lst ds) = wgts ds := rfl
theorem eqD_nil (ds : List Dat) : eqD (.lst ds) (.lst []) = ds.isEmpty := by
  cases ds <;> rfl
theorem fine_nat {m : Int} (h0 : 0 ≤ m) (h : m < 10 ^ 12) : fine (.int m) = true := by
  have h1 : (PyData.shown (.int m)).length ≤ 13 := by
    have := PyProof.Rows.toString_length_le (v := m) (k := 12) h0 (by decide) h
    exact Nat.le_trans this (by decide)
  have h2 : m.natAbs.log2 < 1920 := by
    by_cases hz : m.natAbs = 0
    · rw [hz]; decide
    · rw [Nat.log2_lt hz]
      have e : m.natAbs < 10 ^ 12 := by omega
      exact Nat.lt_of_lt_of_le e (by decide +kernel)
  show (decide _ && decide _) = true
  rw [decide_eq_true h1, decide_eq_true h2]; rfl
theorem wgt_nat {m : Int} (h0 : 0 ≤ m) (h : m < 10 ^ 12) : wgt (.int m) ≤ 41 := by
  show (if m == 0 then 0 else m.natAbs.log2 + 1) ≤ 41
  split
  · exact Nat.zero_le _
  · rename_i hm
    have hz : m.natAbs ≠ 0 := fun e => hm (by rw [show m = 0 by omega]; rfl)
    have h2 : m.natAbs.log2 < 40 := by
      rw [Nat.log2_lt hz]
      have e : m.natAbs < 10 ^ 12 := by omega
      exact Nat.lt_of_lt_of_le e (by decide +kernel)
    omega
def sml (z : Str) : Prop := ∀ c ∈ sgs z, c < 0x110000
theorem sml_b {z : Str} (h : sml z) : smlB z = true := by
  unfold smlB
  rw [Array.all_eq_true_iff_forall_mem]
  exact fun c hc => decide_eq_true (h c (Array.mem_toList_iff.mpr hc))
theorem sgs_cut (z : Str) (lo hi : Option Int) : sgs (cutS z lo hi) = cutD (sgs z) lo hi := by
  show (z.cps.toList.drop (HT.sIx z.length 0 lo)).take (HT.sIx z.length z.length hi - HT.sIx z.length 0 lo) = _
  unfold cutD
  rw [← sgs_len]
  rfl
theorem cut_mem {α : Type} {l : List α} {lo hi : Option Int} {c : α} (h : c ∈ cutD l lo hi) : c ∈ l := List.mem_of_mem_drop (List.mem_of_mem_take h)
theorem cut_len {α : Type} {l : List α} {lo hi : Option Int} : (cutD l lo hi).length ≤ l.length := by
  unfold cutD
  rw [List.length_take, List.length_drop]
  omega
theorem sml_cut {z : Str} {lo hi : Option Int} (h : sml z) : sml (cutS z lo hi) := fun c hc => by
  rw [sgs_cut] at hc
  exact h c (cut_mem hc)
theorem cutS_len {z : Str} {lo hi : Option Int} : (cutS z lo hi).length ≤ z.length := by
  rw [sgs_len, sgs_cut, sgs_len]
  exact cut_len
theorem mem_joined {y : Str} {c : Nat} : ∀ {ws : List Str}, c ∈ sgs (Txt.join y ws) ↔ (∃ z ∈ ws, c ∈ sgs z) ∨ (2 ≤ ws.length ∧ c ∈ sgs y) := by
  intro ws
  rw [TL.join_eq]
  induction ws with
  | nil =>
    constructor
    · intro h; cases h
    · rintro (⟨z, hz, _⟩ | ⟨h, _⟩)
      · cases hz
      · exact absurd h (by decide)
  | cons a r ih =>
    cases r with
    | nil =>
      constructor
      · intro h; exact .inl ⟨a, List.mem_cons_self, h⟩
      · rintro (⟨z, hz, h⟩ | ⟨h, _⟩)
        · rw [List.mem_singleton.mp hz] at h; exact h
        · exact absurd h (show ¬ 2 ≤ 1 by decide)
    | cons b r =>
      have e : sgs (Str.join y (a :: b :: r)) = sgs a ++ sgs y ++ sgs (Str.join y (b :: r)) := by
        show sgs (a ++ y ++ Str.join y (b :: r)) = _
        rw [sgs_app, sgs_app]
      rw [e]
      constructor
      · intro h
        rcases List.mem_append.mp h with h | h
        · rcases List.mem_append.mp h with h | h
          · exact .inl ⟨a, List.mem_cons_self, h⟩
          · exact .inr ⟨by rw [List.length_cons, List.length_cons]; omega, h⟩
        · rcases ih.mp h with ⟨z, hz, h⟩ | ⟨_, h⟩
          · exact .inl ⟨z, List.mem_cons_of_mem _ hz, h⟩
          · exact .inr ⟨by rw [List.length_cons, List.length_cons]; omega, h⟩
      · rintro (⟨z, hz, h⟩ | ⟨_, h⟩)
        · rcases List.mem_cons.mp hz with rfl | hz
          · exact List.mem_append.mpr (.inl (List.mem_append.mpr (.inl h)))
          · exact List.mem_append.mpr (.inr (ih.mpr (.inl ⟨z, hz, h⟩)))
        · exact List.mem_append.mpr (.inl (List.mem_append.mpr (.inr h)))
theorem sml_word {z x : Str} (h : sml z) (hw : x ∈ Txt.split z " ") : sml x := fun c hc => by
  refine h c ?_
  rw [← join_split z " " (by decide +kernel)]
  exact mem_joined.mpr (.inl ⟨x, hw, hc⟩)
theorem sml_join {ws : List Str} (h : ∀ x ∈ ws, sml x) : sml (Txt.join " " ws) := fun c hc => by
  rcases mem_joined.mp hc with ⟨x, hx, h1⟩ | ⟨_, h1⟩
  · exact h x hx c h1
  · have e : sgs (Str.ofString " ") = [32] := by decide +kernel
    rw [e] at h1
    rw [List.mem_singleton.mp h1]
    decide
/-- joined by blanks: at most this long -/
theorem join_le {ws : List Str} : (Txt.join " " ws).length ≤ (ws.map (·.length)).sum + ws.length := by
  cases ws with
  | nil => exact Nat.zero_le _
  | cons a r =>
    have h := join_len " " (a :: r) (List.cons_ne_nil _ _)
    rw [sp1, Nat.mul_one] at h
    omega
theorem find_whole (x y : Str) : (Txt.find x y = -1 ∧ ∀ i, ¬ StrLaws.At x y x.length i) ∨ ∃ i : Nat, Txt.find x y = (i : Int) ∧ StrLaws.At x y x.length i ∧ ∀ k, k < i → ¬ StrLaws.At x y x.length k := by
  unfold Txt.find
  rcases StrLaws.occ_head x y 1 (Nat.le_refl 1) with ⟨h0, hn⟩ | ⟨i, r, h0, hi, hn⟩
  · rw [h0]; exact .inl ⟨rfl, hn⟩
  · rw [h0]; exact .inr ⟨i, rfl, hi, hn⟩
/-- a text cut at its first y, both ways -/
theorem cut_at (x y : Str) : (Txt.find x y = -1 ∧ Txt.partition x y = (x, Str.empty, Str.empty)) ∨ ∃ i : Nat, Txt.find x y = (i : Int) ∧ Txt.partition x y = (cutS x none (some (i : Int)), y, cutS x (some ((i : Int) + (y.length : Int))) none) := by
  rcases find_whole x y with ⟨e, hn⟩ | ⟨i, e, hi, hn⟩
  · rcases PyProof.Rows.partition_whole x y with ⟨e2, _⟩ | ⟨j, _, hj, _⟩
    · exact .inl ⟨e, e2⟩
    · exact absurd hj (hn j)
  · rcases PyProof.Rows.partition_whole x y with ⟨_, hn2⟩ | ⟨j, e2, hj, hn2⟩
    · exact absurd hi (hn2 i)
    · have hij : i = j := by
        rcases Nat.lt_trichotomy i j with h | h | h
        · exact absurd hi (hn2 i h)
        · exact h
        · exact absurd hj (hn j h)
      subst hij
      refine .inr ⟨i, e, ?_⟩
      have hb : i + y.length ≤ x.length := hi.1
      rw [e2]
      have e3 : Builtin.Str.strSub x 0 i = cutS x none (some (i : Int)) := TL.ext_tl (by
        rw [TL.tl_strSub]
        show _ = sgs (cutS x none (some (i : Int)))
        rw [sgs_cut, cut_take (by omega), Int.toNat_natCast, List.drop_zero, Nat.sub_zero]
        rfl)
      have e4 : Builtin.Str.strSub x (i + y.length) x.length = cutS x (some ((i : Int) + (y.length : Int))) none := TL.ext_tl (by
        rw [TL.tl_strSub_end]
        show _ = sgs (cutS x (some ((i : Int) + (y.length : Int))) none)
        rw [sgs_cut, cut_drop (by omega), show ((i : Int) + (y.length : Int)).toNat = i + y.length by omega]
        rfl)
      rw [e3, e4]
end Kn
namespace Kn
open PySem PySem.Spec PyProof.Rows
open L2 hiding St
section
variable {X : Cx} {O : Own} {ρ : List Slot} {x : ExK} {k k' : Slot → Own → Prop} {kl kl' : List Slot → Own → Prop} {e a b c o : Expr} {es : List Expr} {pos p apos pos2 : Pos} {D : SD} {g g' : Bool} {j n : Nat} {S : SpecT} {df : List Dat} {m f : Str}
def FldB (K : PySem.W.Frag) (f : Str) (s : Slot) (O : Own) (k : Slot → Own → Prop) : Prop := match s with
  | .own p => ∃ C dx fs s', O p = some (.ins C dx fs) ∧ Cls K C ∧ NoAttr K C f ∧ fs.lookup f = some s' ∧ k s' O
  | .dat (.ins C fs) => ∃ d, Cls K C ∧ NoAttr K C f ∧ fs.lookup f = some d ∧ k (.dat d) O
  | .dat (.tre C d1 g es d2) => ∃ d, Cls K C ∧ NoAttr K C f ∧ f ≠ g ∧ (d1 ++ d2).lookup f = some d ∧ k (.dat d) O
  | _ => False
theorem lookup_skip {α : Type} {f g : Str} {x : α} (ne : f ≠ g) : ∀ {f1 f2 : List (Str × α)}, (f1 ++ (g, x) :: f2).lookup f = (f1 ++ f2).lookup f
  | [], f2 => by
    rw [List.nil_append, List.nil_append, List.lookup_cons]
    have e : (f == g) = false := by simpa using ne
    rw [e]
  | (y, z) :: f1, f2 => by
    rw [List.cons_append, List.cons_append, List.lookup_cons, List.lookup_cons, lookup_skip ne]
theorem rpf_app {K : PySem.W.Frag} {G : Hp} {f2 : List (Str × V)} {d2 : List (Str × Dat)} (h2 : RpF K G f2 d2) : ∀ {f1 : List (Str × V)} {d1 : List (Str × Dat)}, RpF K G f1 d1 → RpF K G (f1 ++ f2) (d1 ++ d2)
  | _, _, .nil => h2
  | _, _, .cons h t => .cons h (rpf_app h2 t)
theorem pairedF_lookup {K : PySem.W.Frag} {G : Hp} {f : Str} {s : Slot} : ∀ {fv : List (Str × V)} {fs : List (Str × Slot)}, Paired (FlOk K G) fv fs → fs.lookup f = some s → ∃ v, fv.lookup f = some v ∧ SlOk K G v s
  | _, _, .nil, h => by cases h
  | (y, v) :: fv, (z, t) :: fs, .cons r q, h => by
    obtain ⟨e, r⟩ := r
    cases e
    rw [List.lookup_cons] at h ⊢
    split at h
    · cases h; rename_i e1; exact ⟨v, rfl, r⟩
    · exact pairedF_lookup q h
theorem ew_fld (h : EW X O ρ o x fun s O1 => FldB X.K f s O1 k) (hb : attributeBase o f X.env (eval o X.env) = eval o X.env := by rfl) : EW X O ρ (.Attribute o f pos) x k := fun H0 σ H st tk Q q => by
  refine we_of (pe_fld pe_w hb) (h H0 σ H st tk _ fun v H1 s O1 hk st1 r1 => ?_)
  cases s with
  | unk => exact hk.elim
  | own p =>
    obtain ⟨C, dx, fs, s', hp, c, na, hl, hk⟩ := hk
    obtain ⟨ob, h1, fv, rfl, h2⟩ := st1.own.cell p _ hp
    obtain ⟨w, hw, rw⟩ := pairedF_lookup h2 hl
    exact ⟨p, C, dx, fv, w, r1, h1, c, na, hw, q w H1 s' O1 hk st1 rw⟩
  | dat d =>
    cases d with
    | ins C fs =>
      obtain ⟨d', c, na, hl, hk⟩ := hk
      cases r1 with
      | ins h1 h2 =>
        obtain ⟨w, hw, rw⟩ := h2.lookup hl
        exact ⟨_, C, _, _, w, rfl, hid_le _ _ h1, c, na, hw, q w H1 _ O1 hk st1 rw⟩
    | tre C d1 g es d2 =>
      obtain ⟨d', c, na, ne, hl, hk⟩ := hk
      cases r1 with
      | tre h1 h2 h3 h4 h5 =>
        obtain ⟨w, hw, rw⟩ := (rpf_app h4 h3).lookup hl
        exact ⟨_, C, _, _, w, rfl, hid_le _ _ h1, c, na, by rw [lookup_skip ne]; exact hw, q w H1 _ O1 hk st1 rw⟩
    | _ => exact hk.elim
/-- one field set anew -/
def putS (f : Str) (s : Slot) : List (Str × Slot) → List (Str × Slot)
  | [] => [(f, s)]
  | (g, t) :: r => if g = f then (g, s) :: r else (g, t) :: putS f s r
theorem pairedF_put {K : PySem.W.Frag} {G : Hp} {f : Str} {v : V} {s : Slot} (h : SlOk K G v s) : ∀ {fv : List (Str × V)} {fs : List (Str × Slot)}, Paired (FlOk K G) fv fs → Paired (FlOk K G) (putF f v fv) (putS f s fs)
  | _, _, .nil => .cons ⟨rfl, h⟩ .nil
  | (y, w) :: fv, (z, t) :: fs, .cons r q => by
    obtain ⟨e, r⟩ := r
    cases e
    unfold putF putS
    by_cases hz : y = f
    · rw [if_pos hz, if_pos hz]; exact .cons ⟨rfl, h⟩ q
    · rw [if_neg hz, if_neg hz]; exact .cons ⟨rfl, r⟩ (pairedF_put h q)
theorem st_slot {K : PySem.W.Frag} {H1 H2 : Hp} {O1 O2 : Own} {σ : SV} {ρ : List Slot} {v : V} {s : Slot} (r : SlOk K (hid O1 H1) v s) (st : StOk K (hid O1 H1) O2 σ ρ H2) : SlOk K (hid O2 H2) v s := SlOk.mono st.base r
/-- o.f = e -/
theorem s1_fld (h : EW X O ρ e x fun s O1 => EW X O1 ρ o x fun t O2 => ∃ (p : Addr) (C dx : Addr) (fs : List (Str × Slot)), t = .own p ∧ O2 p = some (.ins C dx fs) ∧ Cls X.K C ∧ NoAttr X.K C f ∧ fs.length < 1000 ∧ D.nx ρ (up O2 p (.ins C dx (putS f s fs))))
    (hs : swapsWith e (some (.Attribute o f pos2)) pos.line X.env = pure false := by rfl) : S1 X O ρ (.Assign [.Attribute o f pos2] e pos) x D := fun H0 σ H st tk E ok => by
  refine ws_of (ps_fld pe_w pe_w hs) (h H0 σ H st tk _ fun v H1 s O1 hk st1 r1 => ?_)
  refine hk _ σ H1 st1.top (takes_base tk st1.base) _ fun w H2 t O2 hq st2 r2 => ?_
  obtain ⟨p, C, dx, fs, rfl, hp, c, na, hl, hn⟩ := hq
  cases r2
  obtain ⟨ob, h1, fv, rfl, h2⟩ := st2.own.cell p _ hp
  refine ⟨p, C, dx, fv, rfl, h1, c, na, by rw [paired_len h2]; exact hl, ?_⟩
  exact ok.nx σ ρ _ _ hn ((st2.rebase st1.base).write hp ⟨_, rfl, pairedF_put (st_slot r1 st2) h2⟩)
/-- m is a def of the class at C, with its contract -/
def MCal (P : Program) (w : World) (K : PySem.W.Frag) (mg : Str → Option Value) (base : Heap) (g : Bool) (k : Nat) (C : Addr) (m : Str) (S : SpecT) (df : List Dat) : Prop :=
  ∃ (f : Addr) (fd : FuncData) (ps : List Str) (ds : List Value) (dvs : List V), Meth K C m f ∧ Fn P w K mg base g k f fd ps S ∧ Binds K fd ps ds ∧ Vals dvs ds ∧ ∀ G, RpA K G dvs df
@[reducible] def kMake (x : ExK) (ρ : List Slot) (k : Slot → Own → Prop) (a : Addr) : Out → Own → Prop
  | .ret s, O => s = .dat .non ∧ k (.own a) O
  | .exc e, O => x e ρ O
/-- the class at C has the __init__ with the contract -/
def MkC (P : Program) (w : World) (K : PySem.W.Frag) (mg : Str → Option Value) (base : Heap) (k : Nat) (C : Addr) (S : SpecT) (df : List Dat) : Prop :=
  ∃ (f : Addr) (fd : FuncData) (ps : List Str) (ds : List Value) (dvs : List V), Mk K C f ∧ Fn P w K mg base false k f fd ps S ∧ Binds K fd ps ds ∧ Vals dvs ds ∧ ∀ G, RpA K G dvs df
def MakeS (C : Addr) (S : SpecT) (df : List Dat) (x : ExK) (ρ : List Slot) (k : Slot → Own → Prop) (ss : List Slot) (O : Own) : Prop :=
  ∀ a dx, O a = none → O dx = none → dx ≠ a → S (.own a :: (ss ++ df.map .dat)) (up O a (.ins C dx [])) (kMake x ρ k a)
theorem run_makeS {C : Addr} {vs : List V} {us : List Value} {ss : List Slot} {pins : List (Addr × Obj)} {s : Shared} {σ : SV} {H0 H : Hp} {Q : VK} (M : MkC X.prog X.w X.K X.mg X.base n C S df) (hr : RoomB g (n + 1) X.A)
    (I : Inv X pins σ H s) (st : StOk X.K H0 O σ ρ H) (tk : Takes X (Wsem X.K H0 x)) (rv : Vals vs us) (pr : Paired (SlOk X.K (hid O H)) vs ss) (h : MakeS C S df x ρ k ss O) (q : ∀ v H' s O', k s O' → StOk X.K H0 O' σ ρ H' → SlOk X.K (hid O' H') v s → Q v H') :
    wpAny (model X.prog X.w) X.A (call (.ref C) us) (EP X pins σ Q) X.xe s := by
  obtain ⟨f, fd, ps, ds, dvs, M, F, hb, hd, hdf⟩ := M
  have fx : H (s.heap.objs.size + 1) = none := I.hok.fresh (Nat.le_succ _)
  have fd0 : H s.heap.objs.size = none := I.hok.fresh (Nat.le_refl _)
  have nxd : s.heap.objs.size ≠ s.heap.objs.size + 1 := Nat.ne_of_lt (Nat.lt_succ_self _)
  have hq := h (s.heap.objs.size + 1) s.heap.objs.size (own_free st.own fx) (own_free st.own fd0) nxd
  have sm : Same H (upd H s.heap.objs.size (.own (s.heap.objs.size + 1))) := same_new fd0
  have st1 := st.grow sm
  have fx1 : (upd H s.heap.objs.size (.own (s.heap.objs.size + 1))) (s.heap.objs.size + 1) = none := by rw [upd_ne nxd.symm]; exact fx
  have st2 := st1.alloc (o := .ins C s.heap.objs.size []) (c := .ins C s.heap.objs.size []) fx1 ⟨[], rfl, .nil⟩
  have I2 := Inv.made (C := C) I
  have gm : Same (hid O H) (hid (up O (s.heap.objs.size + 1) (.ins C s.heap.objs.size [])) (upd (upd H s.heap.objs.size (.own (s.heap.objs.size + 1))) (s.heap.objs.size + 1) (.ins C s.heap.objs.size []))) := fun b u hb => by
    obtain ⟨z1, z2⟩ := of_hid hb
    have nb := ne_of_none z2 fx
    have nd := ne_of_none z2 fd0
    rw [hid_none (by rw [up_ne nb]; exact z1), upd_ne nb, upd_ne nd]
    exact z2
  have r2 : Vals (V.ref (s.heap.objs.size + 1) :: (vs ++ dvs)) (Value.ref (s.heap.objs.size + 1) :: (us ++ ds)) := .cons rfl (rv.append hd)
  have sp : spS X.K S (V.ref (s.heap.objs.size + 1) :: (vs ++ dvs)) (upd (upd H s.heap.objs.size (.own (s.heap.objs.size + 1))) (s.heap.objs.size + 1) (.ins C s.heap.objs.size [])) (fun v H2 => v = .non ∧ Q (.ref (s.heap.objs.size + 1)) H2) (fun cls d H' => Wsem X.K H0 x cls d σ H') :=
    ⟨_, .own (s.heap.objs.size + 1) :: (ss ++ df.map .dat), kMake x ρ k _, st2.own, .cons rfl (paired_app (pmap (fun _ _ z => SlOk.mono gm z) pr) (hdf _).paired), hq,
      fun v H' s' O' h1 h2 h3 h4 => by
        obtain ⟨rfl, h5⟩ := h1
        cases h4
        exact ⟨rfl, q _ H' _ O' h5 (st2.next h2 h3) rfl⟩, fun cls d e H' O' h1 h2 h3 h4 => ⟨e, ρ, O', h1, st2.next h2 h3, h4⟩⟩
  have hl : (Value.ref (s.heap.objs.size + 1) :: us ++ ds).length = ps.length := by
    have e := r2.length
    rw [spS_len F.len _ _ _ _ sp] at e
    exact e.symm
  refine wpAny_call (make_map (f := f) I.kIn M.makes M.init (beq_iff_eq.mp M.fn) (codeAny_mono (F.ok.run _ X.stack _ _ ⟨Value.ref (s.heap.objs.size + 1) :: us, []⟩ (Value.ref (s.heap.objs.size + 1) :: (us ++ ds)) _ _ _ (hr.r.make C us [])
    (I2.env0.make C us []) (hb _ (Value.ref (s.heap.objs.size + 1) :: us) I2.kIn hl) r2 sp) fun r s' hq' => ?_))
  cases r with
  | error e => exact tk e s' (XE.of_call I2 (fun _ _ _ h => h) hq')
  | ok fl =>
    cases fl with
    | ret u =>
      obtain ⟨v, H', I3, rv, ev, q3⟩ := I2.after hq'
      subst ev
      exact ⟨rv, ⟨V.ref (s.heap.objs.size + 1), H', I3, rfl, q3⟩⟩
    | next => exact False.elim hq'
    | brk => exact False.elim hq'
    | cont => exact False.elim hq'
theorem MkC.kp {P : Program} {w : World} {K : PySem.W.Frag} {mg : Str → Option Value} {base : Heap} {C : Addr} (M : MkC P w K mg base n C S df) : PySem.W.keepIn K (.ref C) = true := by
  obtain ⟨f, fd, ps, ds, dvs, M, _⟩ := M
  exact M.kp
/-- C(e, ..), C a name of the module -/
theorem ew_make {C : Addr} {nm : Str} (M : MkC X.prog X.w X.K X.mg X.base n C S df) (hm : X.mg nm = some (.ref C)) (hr : RoomB g j X.A) (h : AW X O ρ (e :: es) x (MakeS C S df x ρ k)) (hj : n + 1 ≤ j := by decide)
    (hg : Gl X nm := by rfl) (hdb : (nm == ("__debug__" : Str)) = false := by decide) (he : starEach (e :: es) X.env = (false, eval e X.env) :: starEach es X.env := by rfl) (hpl : (backTo pos (starEach es X.env)).any (·.1) = false := by rfl) :
    EW X O ρ (.Call (.Name nm p) (e :: es) [] pos) x k := fun H0 σ H st tk Q q => ⟨fun pins s I => by
  refine wpAny_Call_Name_kw (ld_glob I hg hm ?_ hdb)
  refine PySem.W.callWith_K (h₀ := X.base) I.ok.mod.kin M.kp (thn ((pa_w (es := e :: es)).run pos pins s σ H (fun vs H1 => ∃ ss O1, StOk X.K H0 O1 σ ρ H1 ∧ Paired (SlOk X.K (hid O1 H1)) vs ss ∧ MakeS C S df x ρ k ss O1) I (h H0 σ H st tk _ fun vs H1 ss O1 h1 st1 r1 => ⟨ss, O1, st1, r1, h1⟩)) fun us s1 hq => ?_) he hpl
  obtain ⟨vs, H1, I1, rv, ss, O1, st1, pr, hS⟩ := hq
  exact ⟨I1.kIn, run_makeS M (hr.mono hj (fun e => e)) I1 st1 tk rv pr hS q⟩⟩
end
end Kn
namespace KnX
open PySem PySem.Spec PyProof.Rows
section
variable {prog : Program} {w : World} {A : Around} {E : Value → Shared → Prop} {s : Shared} {K : PySem.W.Frag} {x C f : Addr} {ox : Obj} {od : Option Obj} {b tb : Value}
theorem ne_entry {Q : Fin → Shared → Prop} (hu : A.units < cLine) (X : K.In s.heap) (I : PySem.W.InstAt s.heap x ox C od) (hs : PySem.W.findIn K (.ref C) "__eq__" = some (some (.ref f))) (hf : PySem.W.isFn K (.ref f) = true)
    (h : wpAny (model prog w) A (call (.ref f) [.ref x, b]) (fun v s' => ∃ t, v = .bool t ∧ Q (.done (.ret (.bool (!t)))) s') E s) : wpAny (model prog w) A (Builtin.«object.__ne__» ⟨[.ref x, b], []⟩) Q E s := by
  unfold Builtin.«object.__ne__»
  refine wpAny_bind (m := slotArgs "__ne__" 1 _) (wpAny_pure ?_)
  refine wpAny_bind (wpAny_cRoomFor hu ?_)
  refine wpAny_bind (m := callSpecialIfBound? (.ref x) "__eq__" [b]) (PySem.W.ifBound_K X I hs hf (wpAny_mono h (fun v s' hv => ?_) fun _ _ e => e))
  obtain ⟨t, rfl, hq⟩ := hv
  exact wpAny_bind (wpAny_truthy_bool (wpAny_pure hq))
theorem call_ne {Q : Value → Shared → Prop} (hu : A.units + 1 < cLine) (X : K.In s.heap) (I : PySem.W.InstAt s.heap x ox C od) (hm : PySem.W.mroIn K C (.type "object") = some true) (hs : PySem.W.findIn K (.ref C) "__eq__" = some (some (.ref f))) (hf : PySem.W.isFn K (.ref f) = true)
    (h : wpAny (model prog w) A.in1 (call (.ref f) [.ref x, b]) (fun v s' => ∃ t, v = .bool t ∧ Q (.bool (!t)) s') E s) : wpAny (model prog w) A (call (.builtin "object.__ne__") [.ref x, b]) Q E s :=
  wpAny_call (codeAny_call_builtin F.cmp_object.ne.plain F.cmpEntry_ne (PySem.W.check_slot F.cmpKind_ne F.cmpSplit_ne (I.type.andThen (PySem.W.looks_mroIn X hm)) (F.cmpArgs_ne _ _) (ne_entry hu X I hs hf h)))
theorem ifBound_ne {M : Model} {args : List Value} {Q : Option Value → Shared → Prop} (X : K.In s.heap) (I : PySem.W.InstAt s.heap x ox C od) (hs : PySem.W.findIn K (.ref C) "__ne__" = some (some (.builtin "object.__ne__")))
    (h : wpAny M A (call (.builtin "object.__ne__") (.ref x :: args)) (fun v => Q (some v)) E s) : wpAny M A (callSpecialIfBound? (.ref x) "__ne__" args) Q E s := by
  simp only [callSpecialIfBound?, bindSpecialIfBound?]
  refine wpAny_holding (wpAny_bind (wpAny_bind (wpAny_bind (I.type.here ((PySem.W.looks_findIn X hs).here ?_)))))
  refine wpAny_bind (wpAny_askSetting (wpAny_ite ?_))
  have fin : wpAny M A (call (.builtin "object.__ne__") ([.ref x] ++ args) >>= fun v => pure (some v)) Q E s := wpAny_bind (wpAny_mono h (fun v s' h' => wpAny_pure h') fun _ _ h' => h')
  split
  · exact wpAny_bind (wpAny_of_eq (F.cmp_object.ne.bind _) (wpAny_pure (by exact fin)))
  · exact wpAny_tryCatch (wpAny_bind (wpAny_of_eq (F.cmp_object.ne.bind _) (wpAny_pure (by exact fin))))
theorem ne_own {Q : Value → Shared → Prop} (hu : A.units + 1 < cLine) (X : K.In s.heap) (I : PySem.W.InstAt s.heap x ox C od) (hb : PySem.W.Looks (model prog w) s.heap (typeOf b) tb) (hn : PySem.W.notFirst K C tb = true)
    (hne : PySem.W.findIn K (.ref C) "__ne__" = some (some (.builtin "object.__ne__"))) (hm : PySem.W.mroIn K C (.type "object") = some true) (hs : PySem.W.findIn K (.ref C) "__eq__" = some (some (.ref f))) (hf : PySem.W.isFn K (.ref f) = true)
    (h : wpAny (model prog w) A.in1 (call (.ref f) [.ref x, b]) (fun v s' => ∃ t, v = .bool t ∧ Q (.bool (!t)) s') E s) : wpAny (model prog w) A (richCompare .NotEq (.ref x) b) Q E s := by
  have one : wpAny (model prog w) A (tryCompare (.ref x) "__ne__" b) (fun r s' => ∃ v, r = some v ∧ Q v s') E s := by
    unfold tryCompare
    refine wpAny_bind (ifBound_ne X I hne (call_ne hu X I hm hs hf (wpAny_mono h (fun v s' hv => ?_) fun _ _ e => e)))
    obtain ⟨t, rfl, hq⟩ := hv
    exact ⟨t, rfl, wpAny_pure ⟨_, rfl, hq⟩⟩
  unfold richCompare
  simp only [oneThing_ref]
  apply wpAny_holding
  apply wpAny_bind
  refine wpAny_cRoomFor (by omega) ?_
  refine wpAny_bind (I.type.here (wpAny_bind (hb.here ?_)))
  have go : ∀ {g : Option Value → Sem Value}, (∀ v, g (some v) = pure v) → wpAny (model prog w) A (tryCompare (.ref x) "__ne__" b >>= g) Q E s := fun is => by
    refine wpAny_bind (wpAny_mono one ?_ fun _ _ => id)
    rintro _ _ ⟨v, rfl, q⟩
    rw [is]
    exact wpAny_pure q
  by_cases other : (Value.ref C != tb) = true
  · have no : PySem.W.subIn K tb (.ref C) = some false := by
      have either : (tb == .ref C) = true ∨ (PySem.W.subIn K tb (.ref C) == some false) = true := by simpa [PySem.W.notFirst] using hn
      refine either.elim (fun same => ?_) eq_of_beq
      simp [eq_of_beq same] at other
    rw [if_pos other]
    refine wpAny_bind ((PySem.W.looks_subIn X no).here (wpAny_ite_false (by rfl) ?_))
    exact go fun _ => rfl
  · rw [if_neg other]
    first
      | exact wpAny_bind (wpAny_pure (wpAny_ite_false (by rfl) (go fun _ => rfl)))
      | exact wpAny_ite_false (by rfl) (go fun _ => rfl)
      | exact go fun _ => rfl
theorem str_own {Q : Value → Shared → Prop} (hu : A.units + 8 < cLine) (X : K.In s.heap) (I : PySem.W.InstAt s.heap x ox C od) (hs : PySem.W.findIn K (.ref C) "__str__" = some (some (.ref f))) (hf : PySem.W.isFn K (.ref f) = true)
    (h : wpAny (model prog w) A.in1.in1 (call (.ref f) [.ref x]) (fun r s₁ => ∃ z t, r = Value.str z t ∧ Q r s₁) E s) : wpAny (model prog w) A (call (.type "str") [.ref x]) Q E s :=
  PySem.W.kso_call (by show A.units + 2 < cLine; omega) X I hs hf (wpAny_mono h (fun _ _ ⟨_, _, e, q⟩ => by subst e; exact q) fun _ _ => id)
end
end KnX
namespace Kn
open PySem PySem.Spec PyProof.Rows
open L2 hiding St
section
variable {X : Cx} {O : Own} {ρ : List Slot} {x : ExK} {k k' : Slot → Own → Prop} {kl kl' : List Slot → Own → Prop} {e a b c o : Expr} {es : List Expr} {pos p apos pos2 : Pos} {D : SD} {g g' : Bool} {j n : Nat} {S : SpecT} {df : List Dat} {m f : Str} {s1 s2 s : Slot}
/-- the class of what a slot holds -/
def tySl (O : Own) (t : Value) : Slot → Prop
  | .dat .non => t = .type "NoneType"
  | .dat (.bl _) => t = .type "bool"
  | .dat (.int _) => t = .type "int"
  | .dat (.str _) => t = .type "str"
  | .dat (.lst _) => t = .type "list"
  | .dat (.tup _) => t = .type "tuple"
  | .dat (.ins C _) => t = .ref C
  | .dat (.tre C _ _ _ _) => t = .ref C
  | .own p => (∃ C dx fs, O p = some (.ins C dx fs) ∧ t = .ref C) ∨ (∃ ss, O p = some (.lst ss) ∧ t = .type "list")
  | _ => False
theorem insAt_of {pins : List (Addr × Obj)} {σ : SV} {H : Hp} {sh : Shared} {a C dx : Addr} {fs : List (Str × V)} (I : Inv X pins σ H sh) (h : H a = some (.ins C dx fs)) : ∃ ox od, PySem.W.InstAt sh.heap a ox C od := by
  obtain ⟨mA, J, _⟩ := ins_get I.hok h
  obtain ⟨od, J, _⟩ := J.look
  exact ⟨_, _, J⟩
theorem looks_ty {t : Value} {H0 H : Hp} {σ σ2 : SV} {ρ' : List Slot} {v : V} {u : Value} {pins : List (Addr × Obj)} {sh : Shared} (h : tySl O t s) (st : StOk X.K H0 O σ2 ρ' H) (r : SlOk X.K (hid O H) v s) (I : Inv X pins σ H sh) (ru : RelV v u) :
    PySem.W.Looks (model X.prog X.w) sh.heap (typeOf u) t := by
  have lstAt : ∀ {a : Addr} {xs : List V}, H a = some (.lst xs) → PySem.W.Looks (model X.prog X.w) sh.heap (typeOf (.ref a)) (.type "list") := fun {a xs} h1 => by
    obtain ⟨z, its, n, r, e⟩ : xs.length ≤ sizeLine ∧ ∃ (its : List Value) (n : Nat), Vals xs its ∧ sh.heap.get? a = some { cls := .type "list", data := .seq its.toArray n } := I.hok a _ h1
    exact (PySem.W.Looks.ld e).andThen .now
  cases s with
  | unk => exact h.elim
  | own q =>
    cases r
    cases ru
    rcases h with ⟨C, dx, fs, h1, rfl⟩ | ⟨ss, h1, rfl⟩
    · obtain ⟨ob, h2, fv, rfl, _⟩ := st.own.cell q _ h1
      obtain ⟨ox, od, J⟩ := insAt_of I h2
      exact J.type
    · obtain ⟨ob, h2, fv, rfl, _⟩ := st.own.cell q _ h1
      exact lstAt h2
  | dat d =>
    cases d with
    | non => cases r; cases ru; obtain rfl := h; exact .of_pure rfl
    | bl b => cases r; cases ru; obtain rfl := h; exact .of_pure rfl
    | int i => cases r; obtain ⟨_, rfl⟩ := ru; obtain rfl := h; exact .of_pure rfl
    | str z => cases r; obtain ⟨_, rfl⟩ := ru; obtain rfl := h; exact .of_pure rfl
    | lst ds =>
      obtain rfl := h
      cases r with
      | lst h1 h2 =>
        cases ru
        exact lstAt (hid_le _ _ h1)
    | tup ds =>
      obtain rfl := h
      cases r with
      | tup h1 h2 =>
        cases ru
        obtain ⟨its, _, ⟨ob, e1, e2, _⟩, _⟩ := I.tuple (sqt_mono hid_le h1)
        exact e2 ▸ (PySem.W.Looks.ld e1).andThen .now
    | ins C fs =>
      obtain rfl := h
      cases r with
      | ins h1 h2 =>
        cases ru
        obtain ⟨ox, od, J⟩ := insAt_of I (hid_le _ _ h1)
        exact J.type
    | tre C d1 g es d2 =>
      obtain rfl := h
      cases r with
      | tre h1 h2 h3 h4 h5 =>
        cases ru
        obtain ⟨ox, od, J⟩ := insAt_of I (hid_le _ _ h1)
        exact J.type
    | _ => exact h.elim
/-- the own __eq__ of the class at C -/
structure EqC (P : Program) (w : World) (K : PySem.W.Frag) (mg : Str → Option Value) (base : Heap) (n : Nat) (C : Addr) (S : SpecT) : Prop where
  ex : ∃ (f : Addr) (fd : FuncData) (ps : List Str), PySem.W.findIn K (.ref C) "__eq__" = some (some (.ref f)) ∧ PySem.W.isFn K (.ref f) = true ∧ Fn P w K mg base false n f fd ps S ∧ Binds K fd ps []
  ne : PySem.W.findIn K (.ref C) "__ne__" = some (some (.builtin "object.__ne__"))
  ob : PySem.W.mroIn K C (.type "object") = some true
@[reducible] def kVal (k : Slot → Own → Prop) : Out → Own → Prop
  | .ret s, O => k s O
  | .exc _, _ => False
/-- run, at some place above the caller -/
theorem run_in {f : Addr} {fd : FuncData} {ps : List Str} {vs : List V} {us : List Value} {ss : List Slot} {pins : List (Addr × Obj)} {sh : Shared} {σ σ2 : SV} {ρ' : List Slot} {H0 H : Hp} {Q : VK} {A : Around}
    (F : Fn X.prog X.w X.K X.mg X.base false n f fd ps S) (hr : Room n A) (e0 : Env0 X.prog X.w X.K X.mg X.base A X.stack sh H) (hb : Binds X.K fd ps []) (I : Inv X pins σ H sh) (st : StOk X.K H0 O σ2 ρ' H) (rv : Vals vs us)
    (pr : Paired (SlOk X.K (hid O H)) vs ss) (hS : S ss O (kVal k)) (q : ∀ v H' s O', k s O' → StOk X.K H0 O' σ2 ρ' H' → SlOk X.K (hid O' H') v s → Q v H') :
    wpAny (model X.prog X.w) A (call (.ref f) us) (EP X pins σ Q) X.xe sh := by
  have sp : spS X.K S vs H Q (fun _ _ _ => False) := ⟨O, ss, kVal k, st.own, pr, hS,
    fun v H' s' O' h1 h2 h3 h4 => q v H' s' O' h1 (st.next h2 h3) h4, fun cls d e H' O' h1 h2 h3 h4 => h1⟩
  have hl : (us ++ []).length = ps.length := by rw [List.append_nil, ← rv.length]; exact spS_len F.len _ _ _ _ sp
  have hb' := hb sh us I.kIn hl
  rw [List.append_nil] at hb'
  refine wpAny_call (codeAny_mono (F.ok.run A X.stack sh H ⟨us, []⟩ us vs Q _ hr e0 hb' rv sp) fun r s' hq => ?_)
  cases r with
  | error e => exact passL pins σ H sh e s' I hq
  | ok fl =>
    cases fl with
    | ret u => exact I.after hq
    | next => exact False.elim hq
    | brk => exact False.elim hq
    | cont => exact False.elim hq
theorem ins_sl {K : PySem.W.Frag} {H0 H : Hp} {σ : SV} {ρ' : List Slot} {C : Addr} {v : V} (h : tySl O (.ref C) s) (st : StOk K H0 O σ ρ' H) (r : SlOk K (hid O H) v s) : ∃ a dx fs, v = .ref a ∧ H a = some (.ins C dx fs) := by
  cases s with
  | unk => exact h.elim
  | own q =>
    rcases h with ⟨C', dx, fs, h1, e⟩ | ⟨ss, h1, e⟩
    · cases e
      obtain ⟨ob, h2, fv, rfl, _⟩ := st.own.cell q _ h1
      exact ⟨q, dx, fv, r, h2⟩
    · cases e
  | dat d =>
    cases d with
    | ins C' fs =>
      have h : Value.ref C = .ref C' := h
      cases h
      cases r with
      | ins h1 h2 => exact ⟨_, _, _, rfl, hid_le _ _ h1⟩
    | tre C' d1 g es d2 =>
      have h : Value.ref C = .ref C' := h
      cases h
      cases r with
      | tre h1 h2 h3 h4 h5 => exact ⟨_, _, _, rfl, hid_le _ _ h1⟩
    | non => exact absurd h (fun e => by cases e)
    | bl _ => exact absurd h (fun e => by cases e)
    | int _ => exact absurd h (fun e => by cases e)
    | str _ => exact absurd h (fun e => by cases e)
    | lst _ => exact absurd h (fun e => by cases e)
    | tup _ => exact absurd h (fun e => by cases e)
    | _ => exact h.elim
theorem ob_ownNe {C : Addr} {tb : Value} (E : EqC X.prog X.w X.K X.mg X.base n C S) (hr : Room (n + 1) X.A) (h1 : tySl O (.ref C) s1) (h2 : tySl O tb s2) (hn : PySem.W.notFirst X.K C tb = true) (h : S [s1, s2] O (kVal fun s O' => ∃ t, s = .dat (.bl t) ∧ k (.dat (.bl (!t))) O')) :
    OpB X (compareOp .NotEq) s1 s2 O k := by
  obtain ⟨f, fd, ps, hs, hf, F, hb⟩ := E.ex
  refine ⟨fun x y H Q => ∃ (H0 : Hp) (σ2 : SV) (ρ' : List Slot), StOk X.K H0 O σ2 ρ' H ∧ SlOk X.K (hid O H) x s1 ∧ SlOk X.K (hid O H) y s2 ∧ ∀ v H' s O', k s O' → StOk X.K H0 O' σ2 ρ' H' → SlOk X.K (hid O' H') v s → Q v H', ?_, fun H0 σ ρ' H v1 v2 st r1 r2 Q q => ⟨H0, σ, ρ', st, r1, r2, q⟩⟩
  intro pins sh σ H v1 v2 u1 u2 Q I ru1 ru2 hq
  obtain ⟨H0, σ2, ρ', st, r1, r2, q⟩ := hq
  obtain ⟨a, dx, fs, rfl, ha⟩ := ins_sl h1 st r1
  have L := looks_ty h2 st r2 I ru2
  cases ru1
  obtain ⟨ox, od, J⟩ := insAt_of I ha
  refine KnX.ne_own (by have := hr.units; omega) I.kIn J L hn E.ne E.ob hs hf ?_
  refine wpAny_mono (run_in (Q := fun v H' => ∃ t, v = .bl t ∧ Q (.bl (!t)) H') F hr.in1 I.env0.in1 hb I st (vs := [.ref a, v2]) (.cons rfl (.cons ru2 .nil)) (.cons r1 (.cons r2 .nil)) h (fun v H' s O' hk st' r' => ?_)) (fun w s' z => ?_) fun _ _ x => x
  · obtain ⟨t, rfl, hk⟩ := hk
    cases r'
    exact ⟨t, rfl, q _ H' _ O' hk st' (.bl _)⟩
  · obtain ⟨z', H', I', rz, t, rfl, qz⟩ := z
    cases rz
    exact ⟨t, rfl, .bl (!t), H', I', rfl, qz⟩
/-- str(x) by an own __str__ -/
theorem cb_strOwn {C : Addr} {g0 : Addr} {fd : FuncData} {ps : List Str} (hs : PySem.W.findIn X.K (.ref C) "__str__" = some (some (.ref g0))) (hf : PySem.W.isFn X.K (.ref g0) = true) (F : Fn X.prog X.w X.K X.mg X.base false n g0 fd ps S) (hb : Binds X.K fd ps []) (hr : Room (n + 2) X.A)
    (h1 : tySl O (.ref C) s1) (h : S [s1] O (kVal fun s O' => ∃ z, s = .dat (.str z) ∧ k (.dat (.str z)) O')) : CaB X (.type "str") [s1] O k := by
  refine ⟨fun xs H Q => ∃ (x : V) (H0 : Hp) (σ2 : SV) (ρ' : List Slot), xs = [x] ∧ StOk X.K H0 O σ2 ρ' H ∧ SlOk X.K (hid O H) x s1 ∧ ∀ v H' s O', k s O' → StOk X.K H0 O' σ2 ρ' H' → SlOk X.K (hid O' H') v s → Q v H', ?_, fun H0 σ ρ' H vs st pr Q q => ?_⟩
  · intro pins sh σ H xs us Q I r hq
    obtain ⟨x, H0, σ2, ρ', rfl, st, r1, q⟩ := hq
    obtain ⟨a, dx, fs, rfl, ha⟩ := ins_sl h1 st r1
    obtain ⟨u, rfl, ru⟩ := r.one
    cases ru
    obtain ⟨ox, od, J⟩ := insAt_of I ha
    have hr2 : Room n X.A.in1.in1 := (show Room (n + 1) X.A.in1 from Room.in1 hr).in1
    refine KnX.str_own (by have := hr.units; omega) I.kIn J hs hf ?_
    refine wpAny_mono (run_in (Q := fun v H' => ∃ z, v = .str z ∧ Q (.str z) H') F hr2 I.env0.in1.in1 hb I st (vs := [.ref a]) (.cons rfl .nil) (.cons r1 .nil) h (fun v H' s O' hk st' r' => ?_)) (fun w s' z => ?_) fun _ _ x => x
    · obtain ⟨z, rfl, hk⟩ := hk
      cases r'
      exact ⟨z, rfl, q _ H' _ O' hk st' (.str _)⟩
    · obtain ⟨z', H', I', rz, t, rfl, qz⟩ := z
      obtain ⟨tk, rfl⟩ := rz
      exact ⟨t, tk, rfl, .str t, H', I', ⟨tk, rfl⟩, qz⟩
  · cases pr with
    | cons r1 pr =>
      cases pr
      exact ⟨_, H0, σ, ρ', rfl, st, r1, q⟩
/-- isinstance(x, C) -/
def isSl (K : PySem.W.Frag) (O : Own) (t : Value) (s : Slot) : Prop := (∃ d, s = .dat d ∧ tyName d ≠ "" ∧ t = .type (tyName d)) ∨ (∃ C, C8.InsC K C ∧ tySl O (.ref C) s ∧ t = .ref C)
theorem tyX_sl {t : Value} {H0 H : Hp} {σ : SV} {ρ' : List Slot} {v : V} (hs : isSl X.K O t s) (st : StOk X.K H0 O σ ρ' H) (r1 : SlOk X.K (hid O H) v s) : TyX X.K H v t := by
  rcases hs with ⟨d, rfl, hp, rfl⟩ | ⟨C', ic, ht, rfl⟩
  · exact tyX_of hp r1
  · obtain ⟨a, dx, fs, rfl, ha⟩ := ins_sl ht st r1
    exact .base (.ins ha ic.cl ic.ha ic.hn ic.htk ic.hm)
theorem cb_isC {C : Addr} {t : Value} {b : Bool} (hk : PySem.W.kitOne X.K t (.ref C) = some b) (hs : isSl X.K O t s) (h : k (.dat (.bl b)) O) : CaB X (.builtin "isinstance") [s, .dat (.cls C)] O k := ⟨_, call_isi, fun H0 σ ρ H vs st pr Q q => by
  cases pr with
  | cons r1 pr =>
    cases pr with
    | cons r2 pr =>
      cases pr
      cases r2
      exact ⟨_, _, _, _, b, rfl, .own C, tyX_sl hs st r1, hk, q _ H _ O h st (.bl b)⟩⟩
def CMCal (P : Program) (w : World) (K : PySem.W.Frag) (mg : Str → Option Value) (base : Heap) (g : Bool) (k : Nat) (C : Addr) (m : Str) (S : SpecT) (df : List Dat) : Prop :=
  ∃ (mc : Value) (p f : Addr) (fd : FuncData) (ps : List Str) (ds : List Value) (dvs : List V), ClX.CRead K C mc ∧ ClX.CMet K C mc m p f ∧ Fn P w K mg base g k f fd ps S ∧ Binds K fd ps ds ∧ Vals dvs ds ∧ ∀ G, RpA K G dvs df
theorem run_callC {f : Addr} {fd : FuncData} {ps : List Str} {ds : List Value} {dvs vs : List V} {us : List Value} {ss : List Slot} {pins : List (Addr × Obj)} {s : Shared} {σ : SV} {H0 H : Hp} {Q : VK}
    (F : Fn X.prog X.w X.K X.mg X.base g n f fd ps S) (hr : RoomB g n X.A) (hb : Binds X.K fd ps ds) (hd : Vals dvs ds) (hdf : ∀ G, RpA X.K G dvs df) (I : Inv X pins σ H s) (st : StOk X.K H0 O σ ρ H) (tk : Takes X (Wsem X.K H0 x)) (rv : Vals vs us)
    (pr : Paired (SlOk X.K (hid O H)) vs ss) (hS : S (ss ++ df.map .dat) O (kOut x ρ k)) (q : ∀ v H' s O', k s O' → StOk X.K H0 O' σ ρ H' → SlOk X.K (hid O' H') v s → Q v H') :
    codeAny (model X.prog X.w) X.A (.call (.ref f) ⟨us, []⟩) (fun r s' => match r with | .ok (.ret v) => EP X pins σ Q v s' | .ok _ => False | .error e => X.xe e s') s := by
  have r2 : Vals (vs ++ dvs) (us ++ ds) := rv.append hd
  have sp : spS X.K S (vs ++ dvs) H Q (fun cls d H' => Wsem X.K H0 x cls d σ H') := ⟨O, ss ++ df.map .dat, kOut x ρ k, st.own, paired_app pr (hdf _).paired, hS,
    fun v H' s' O' h1 h2 h3 h4 => q v H' s' O' h1 (st.next h2 h3) h4, fun cls d e H' O' h1 h2 h3 h4 => ⟨e, ρ, O', h1, st.next h2 h3, h4⟩⟩
  have hl : (us ++ ds).length = ps.length := by rw [← r2.length]; exact spS_len F.len _ _ _ _ sp
  refine codeAny_mono (F.run X.A X.stack s H ⟨us, []⟩ (us ++ ds) (vs ++ dvs) Q _ hr I.env0 (hb s us I.kIn hl) r2 sp) fun r s' hq => ?_
  cases r with
  | error e => exact tk e s' (XE.of_call I (fun _ _ _ h => h) hq)
  | ok fl =>
    cases fl with
    | ret u => exact I.after hq
    | next => exact False.elim hq
    | brk => exact False.elim hq
    | cont => exact False.elim hq
theorem ew_cmeth {C : Addr} {pl : Sem Bool} (cm : CMCal X.prog X.w X.K X.mg X.base g n C m S df) (hr : RoomB g' j X.A)
    (h : EW X O ρ o x fun s O1 => s = .dat (.cls C) ∧ AW X O1 ρ (e :: es) x fun ss O2 => S (.dat (.cls C) :: (ss ++ df.map .dat)) O2 (kOut x ρ k)) (hj : n ≤ j := by decide) (hgg : g = true → g' = true := by first | exact fun _ => rfl | exact fun h => h | exact fun h => nomatch h)
    (hst : starEach (e :: es) X.env = (false, eval e X.env) :: starEach es X.env := by rfl) (hpl : (backTo pos (starEach es X.env)).any (·.1) = false := by rfl)
    (ht : eval (.Call (.Attribute o m apos) (e :: es) [] pos) X.env = (do
      let ov ← eval o X.env
      standAt apos.atName
      let (f, first) ← holding [ov] (getMethod ov m pl)
      callWith pos f first (backTo pos (starEach (e :: es) X.env)) (backToKw pos (keywordEach [] X.env))) := by rfl) :
    EW X O ρ (.Call (.Attribute o m apos) (e :: es) [] pos) x k := fun H0 σ H st tk Q q => ⟨fun pins s I => by
  obtain ⟨mc, p, f, fd, ps, ds, dvs, cr, cme, F, hb, hd, hdf⟩ := cm
  refine PySem.W.methodCall_KW (pl := pl) (thn ((pe_w (e := o)).run pins s σ H (fun v H1 => ∃ s1 O1, (s1 = Slot.dat (.cls C) ∧ AW X O1 ρ (e :: es) x fun ss O2 => S (.dat (.cls C) :: (ss ++ df.map .dat)) O2 (kOut x ρ k)) ∧ StOk X.K H0 O1 σ ρ H1 ∧ SlOk X.K (hid O1 H1) v s1) I (h H0 σ H st tk _ fun v H1 s1 O1 hk st1 r1 => ⟨s1, O1, hk, st1, r1⟩)) fun u s1 hq => ?_) ht
  obtain ⟨v, H1, I1, rx, t, O1, ⟨rfl, ha⟩, st1, r1⟩ := hq
  cases r1
  cases rx
  refine ClX.getmethcm_ok I1 cr cme fun s2 I2 => ?_
  refine ClX.callwith_cm I2 (ClX.base_none I1 (Nat.le_refl _)) cme.fi (thn ((pa_w (es := e :: es)).run pos _ s2 σ H1 (fun vs H2 => ∃ ss O2, StOk X.K H0 O2 σ ρ H2 ∧ Paired (SlOk X.K (hid O2 H2)) vs ss ∧ S (.dat (.cls C) :: (ss ++ df.map .dat)) O2 (kOut x ρ k)) I2 (ha H0 σ H1 st1 tk _ fun vs H2 ss O2 h2 st2 r2 => ⟨ss, O2, st2, r2, h2⟩)) fun us s3 hq => ?_) hst hpl
  obtain ⟨vs, H2, I3, rv, ss, O2, st2, pr, hS⟩ := hq
  refine ⟨⟨ClX.pin_at I3, I3.kIn⟩, ?_⟩
  have z := wpAny_call (PySem.W.method_call (ClX.pin_at I3) (run_callC (us := .ref C :: us) (vs := .ref C :: vs) (ss := .dat (.cls C) :: ss) F (hr.mono hj hgg) hb hd hdf I3 st2 tk (.cons rfl rv) (.cons (.cls C) pr) hS q))
  exact thn z fun _ _ y => ClX.unpinE y⟩
end
end Kn
namespace Kn
open PySem PySem.Spec PyProof.Rows
open L2 hiding St
/-- a clause: its class, the place of its name, its suite's reading -/
structure Cls1 where
  c : Value
  i : Option Nat
  ts : Addr → Value → Option Addr → TS
def unI (D : Ends) : Option Nat → Ends
  | none => D
  | some j => ⟨fun σ H => D.nx (σ.set j none) H, D.rt, fun σ H => D.bk (σ.set j none) H, fun σ H => D.ct (σ.set j none) H⟩
def inI (σ : SV) (a : Addr) : Option Nat → SV
  | none => σ
  | some j => σ.set j (some (.ref a))
def wAny (K : PySem.W.Frag) (Wo : WX) (D : Ends) : List Cls1 → WX
  | [] => Wo
  | z :: r => fun cls d σ H => ∃ b, PySem.W.exmOne K cls z.c = some b ∧ (b = true → ∀ a, H a = none → z.ts a cls d (unI D z.i) (inI σ a z.i) H) ∧ (b = false → wAny K Wo D r cls d σ H)
def nmOf (X : Cx) (nn : Option Str) (i : Option Nat) : Prop := match nn, i with
  | none, none => True
  | some n, some j => X.N[j]? = some n ∧ X.env.kindOf n = some .local
  | _, _ => False
inductive HdAny (X : Cx) : List ExceptHandler → List Cls1 → Prop
  | nil : HdAny X [] []
  | cons {x : Str} {c : Value} {i : Option Nat} {nn : Option Str} {ts : Addr → Value → Option Addr → TS} {b₀ : Stmt} {suite : List Stmt} {np pos' : Pos} {hds : List ExceptHandler} {l : List Cls1} (hc : Names X x c) (hn : nmOf X nn i)
      (hsu : ∀ (a : Addr) (oe : Obj) (cls : Value) (d : Option Addr) (pn : List (Addr × Obj)), Zc cls d oe → (∃ vs, oe.data = .fields vs) → PSs (X.suite a ((a, oe) :: pn)) (b₀ :: suite) (ts a cls d)) (r : HdAny X hds l) :
      HdAny X (.ExceptHandler (some (.Name x np)) nn (b₀ :: suite) pos' :: hds) (⟨c, i, ts⟩ :: l)
/-- an exception at a that has come down to our frame; s0: the state in which it was let out -/
structure Down (X : Cx) (pins : List (Addr × Obj)) (σ : SV) (H : Hp) (cls : Value) (d : Option Addr) (a : Addr) (B : Heap) (s0 s : Shared) : Prop where
  inv : Inv X pins σ H s0
  ground : ∀ b o, s0.heap.get? b = some o → b ∉ frs X.stack → B.get? b = some o
  fly : HandSPX.FlyingZ B X.stack a (Zc cls d) s.heap
  up : s0.heap.UpToSlots s.heap
  free : H a = none
  os : s.os = s0.os
  bare : AllBare s.gens
section
variable {X : Cx} {pins : List (Addr × Obj)} {σ : SV} {H : Hp} {cls : Value} {d : Option Addr} {a : Addr} {B : Heap} {s0 s : Shared} {oe : Obj}
theorem Down.now (w : Down X pins σ H cls d a B s0 s) : Inv X pins σ H s := w.inv.landed w.ground w.fly.1 w.up w.os w.bare
theorem Down.move (w : Down X pins σ H cls d a B s0 s) {h : Heap} (f : HandSPX.FlyingZ B X.stack a (Zc cls d) h) (u : s.heap.UpToSlots h) : Down X pins σ H cls d a B s0 { s with heap := h } :=
  { w with fly := f, up := w.up.trans u }
/-- the frame's note is taken away -/
theorem Down.quiet (w : Down X pins σ H cls d a B s0 s) {M : Model} {A : Around} {E : Value → Shared → Prop} {Q : Unit → Shared → Prop} (k : ∀ t, Down X pins σ H cls d a B s0 t → Q () t) : wpAny M A (setFlight (.ref a) none) Q E s :=
  HandSPX.lands_againZ w.fly fun _ f u => k _ (w.move f u)
theorem Down.obj (w : Down X pins σ H cls d a B s0 s) : ∃ oe, s.heap.get? a = some oe ∧ Zc cls d oe ∧ ∃ vs, oe.data = .fields vs :=
  let ⟨oe, vs, h1, h2, h3⟩ := w.fly.there
  ⟨oe, h1, h2, vs, h3⟩
/-- no frame lies where it lies -/
theorem Down.noFrame (w : Down X pins σ H cls d a B s0 s) {b : Addr} (hb : b ∈ frs X.stack) : a ≠ b := by
  rintro rfl
  obtain ⟨oe, h1, _, vs, h3⟩ := w.obj
  obtain ⟨_, o, h4, h5⟩ := w.fly.2.2.1.mem hb
  rw [h1] at h4
  cases h4
  exact h5 vs h3
theorem Down.enter (w : Down X pins σ H cls d a B s0 s) (hs : X.stack = X.env :: X.outer) (hf : X.env.frame = some X.env.locals) (h : s.heap.get? a = some oe) (hd : ∃ vs, oe.data = .fields vs) : Inv (X.suite a ((a, oe) :: (X.pn ++ pins))) [] σ H s := by
  obtain ⟨vs, hd⟩ := hd
  have top : X.env.locals ∈ frs X.stack := by
    rw [hs]
    exact List.mem_filterMap.mpr ⟨X.env, .head _, hf⟩
  refine w.now.suite h hd w.free (w.noFrame top) fun hm => ?_
  have sub : a ∈ frs X.stack := by
    obtain ⟨e, h1, h2⟩ := List.mem_filterMap.mp hm
    rw [hs]
    exact List.mem_filterMap.mpr ⟨e, .tail _ h1, h2⟩
  exact w.noFrame sub rfl
/-- no clause is left: it goes on, out of our frame -/
theorem Down.goesOn (w : Down X pins σ H cls d a B s0 s) (hf : X.env.frame = some X.env.locals) {Wo : WX} (tk : Takes X Wo) (hw : Wo cls d σ H) {Q : Flow → Shared → Prop} : wpAny (model X.prog X.w) X.A (handleBy (.ref a) X.env []) Q X.xe s := by
  refine wpAny_handleBy_nil ?_
  have out : wpAny (model X.prog X.w) X.A (setFlight (.ref a) X.env.frame) (fun _ t => wpAny (model X.prog X.w) X.A (throw (.ref a) : Sem Flow) Q X.xe t) X.xe s := by
    rw [hf]
    exact HandSPX.setFlight_upZ w.fly fun h held u => wpAny_throw (tk _ _ ⟨a, B, s0, pins, σ, H, cls, d, rfl, w.inv, w.ground, w.up.trans u, .inr (.inr held), w.free, w.os, w.bare, hw⟩)
  obtain ⟨_, _, _, oe, vs, T, _, _, h1, _, h2, h3, _⟩ := w.fly
  have noted : ¬ (Value.ref T == Value.none) = true := by simp
  show wpAny _ _ (passOn _ _ _) _ _ _
  unfold PySem.passOn
  refine wpAny_bind (wpAny_field h1 h2 h3 ?_)
  rw [if_neg noted]
  first
    | exact wpAny_bind (wpAny_pure (wpAny_bind out))
    | exact wpAny_bind out
theorem suite_out {q : Addr × Obj} {E : Ends} {f : Flow} {t : Shared} (ok : X.Ok) (sp : SP (X.suite a (q :: (X.pn ++ pins))) [] E f t) : SP X pins E f t := by
  cases f with
  | next => exact sp.imp fun _ => Exists.imp fun _ => And.imp_left fun I => I.unsuite ok
  | brk => exact sp.imp fun _ => Exists.imp fun _ => And.imp_left fun I => I.unsuite ok
  | cont => exact sp.imp fun _ => Exists.imp fun _ => And.imp_left fun I => I.unsuite ok
  | ret u => exact sp.imp fun _ => Exists.imp fun _ => Exists.imp fun _ => And.imp_left fun I => I.unsuite ok
/-- the clause's name goes -/
theorem name_gone {D : Ends} {f : Flow} {t : Shared} {j : Nat} {n : Str} {pos : Pos} {M : Model} {A : Around} {E : Value → Shared → Prop} (hN : X.N.Nodup) (hi : X.N[j]? = some n) (hl : X.env.kindOf n = some .local) (sp : SP X pins (unI D (some j)) f t) :
    wpAny M A (do bindName X.env n .none; unbindBehindTheSuite X.env n pos) (fun _ t' => SP X pins D f t') E t := by
  cases f with
  | next => obtain ⟨σ', H', I, h⟩ := sp; exact gone_ok I hN hi hl fun _ J => ⟨_, _, J, h⟩
  | brk => obtain ⟨σ', H', I, h⟩ := sp; exact gone_ok I hN hi hl fun _ J => ⟨_, _, J, h⟩
  | cont => obtain ⟨σ', H', I, h⟩ := sp; exact gone_ok I hN hi hl fun _ J => ⟨_, _, J, h⟩
  | ret u => obtain ⟨v, σ', H', I, r, h⟩ := sp; exact gone_ok I hN hi hl fun _ J => ⟨v, _, _, J, r, h⟩
/-- a clause's class, while the exception is handled -/
theorem Down.asks (w : Down X pins σ H cls d a B s0 s) (hs : X.stack = X.env :: X.outer) (hf : X.env.frame = some X.env.locals) {nm : Str} {c : Value} {np : Pos} (is : Names X nm c) {Q E : Value → Shared → Prop} (k : Q c s) :
    wpAny (model X.prog X.w) (X.A.mark (some (.ref a))) (eval (.Name nm np) X.env) Q E s := by
  obtain ⟨oe, h1, _, h3⟩ := w.obj
  have I := w.enter hs hf h1 h3
  rcases is with ⟨glob, nodbg, known | ⟨known, boot, notNone⟩⟩
  · exact ld_glob (X := X.suite a _) I glob known k nodbg
  · exact ld_blt (X := X.suite a _) I glob known boot k notNone nodbg
/-- the clauses one after the other -/
theorem Down.handled (w : Down X pins σ H cls d a B s0 s) (hs : X.stack = X.env :: X.outer) (hf : X.env.frame = some X.env.locals) (hN : X.N.Nodup) {Wo : WX} (tk : Takes X Wo) {D : Ends} {ks : List ExceptHandler} {l : List Cls1} (hk : HdAny X ks l) :
    wAny X.K Wo D l cls d σ H → wpAny (model X.prog X.w) X.A (handleBy (.ref a) X.env ks) (SP X pins D) X.xe s := by
  induction hk with
  | nil => exact fun hw => w.goesOn hf tk hw
  | @cons nm c i nn ts b₀ suite np pos' more l' is place runs _ ih =>
    rintro ⟨b, meets, yes, no⟩
    refine wpAny_handleBy_cons (codeAny_handlers_test (w.asks hs hf is ?_)) (fun q => nomatch q)
    obtain ⟨oe, here, z, _⟩ := w.obj
    have kind : PySem.W.Looks (model X.prog X.w) s.heap (typeOf (.ref a)) cls := fun _ _ _ _ k q => wpAny_typeOf_ref (k _ _ here) (z.1.symm ▸ q)
    refine (PySem.W.exm_one w.now.kIn kind meets).here ?_
    match b, yes, no with
    | false, _, no => exact ih (no rfl)
    | true, yes, _ =>
      match nn, i, place with
      | none, none, _ =>
        refine codeAny_handlers_suite (w.quiet fun t w' => ?_)
        obtain ⟨oe', here', z', fl'⟩ := w'.obj
        exact wpAny_mono ((runs a oe' cls d (X.pn ++ pins) z' fl').run [] _ _ H _ (w'.enter hs hf here' fl') (yes rfl a w.free)) (fun f t' sp => suite_out w.inv.ok sp) fun _ _ => False.elim
      | some n, some j, ⟨at_, loc⟩ =>
        refine codeAny_handlers_suite_as (w.quiet fun t w' => ?_)
        obtain ⟨oe', here', z', fl'⟩ := w'.obj
        refine store_ok (X := X.suite a _) (v := .ref a) (w'.enter hs hf here' fl') hN at_ (.inl loc) rfl (fun t2 I2 => ?_) (.inr loc)
        exact wpAny_mono ((runs a oe' cls d (X.pn ++ pins) z' fl').run [] t2 _ H _ I2 (yes rfl a w.free)) (fun f t' sp => name_gone hN at_ loc (suite_out w.inv.ok sp)) fun _ _ => False.elim
end
end Kn
namespace Kn
open PySem PySem.Spec PyProof.Rows
open L2 hiding St
/-- an own class by its name -/
structure ClsIn (K : PySem.W.Frag) (nm : Str) (C : Addr) : Prop where
  at_ : PySem.W.nsIn K mainGlobals nm = some (some (.ref C))
  ins : C8.InsC K C
  mks : PySem.W.makesIn K C = true
  kp : PySem.W.keepIn K (.ref C) = true
  rd : ClX.CRead K C (.type "type")
  ne : PySem.W.findIn K (.ref C) "__ne__" = some (some (.builtin "object.__ne__"))
theorem kit_self {K : PySem.W.Frag} {C : Addr} : PySem.W.kitOne K (.ref C) (.ref C) = some true := by
  unfold PySem.W.kitOne
  exact if_pos (by simp)
theorem sub_in {K : PySem.W.Frag} {m n : Str} {C C2 : Addr} {b : Bool} (h1 : PySem.W.nsIn K mainGlobals m = some (some (.ref C))) (h2 : PySem.W.nsIn K mainGlobals n = some (some (.ref C2))) (h3 : PySem.W.subIn K (.ref C) (.ref C2) = some b) :
    ∃ C C2, PySem.W.nsIn K mainGlobals m = some (some (.ref C)) ∧ PySem.W.nsIn K mainGlobals n = some (some (.ref C2)) ∧ PySem.W.subIn K (.ref C) (.ref C2) = some b := ⟨C, C2, h1, h2, h3⟩
theorem cls_in {K : PySem.W.Frag} {m : Str} {C : Addr} (h1 : PySem.W.nsIn K mainGlobals m = some (some (.ref C))) (h2 : PySem.W.isClsIn K C = true) (h3 : PySem.W.typeIn K (.ref C) = some (.type "type")) :
    ∃ C, PySem.W.nsIn K mainGlobals m = some (some (.ref C)) ∧ PySem.W.isClsIn K C = true ∧ PySem.W.typeIn K (.ref C) = some (.type "type") := ⟨C, h1, h2, h3⟩
/-- what kitOne and exmOne ask of a class -/
theorem kit_of_sub {K : PySem.W.Frag} {t : Value} {B : Addr} {b : Bool} (ne : t ≠ .ref B) (bcl : PySem.W.isClsIn K B = true) (bty : PySem.W.typeIn K (.ref B) = some (.type "type")) (sup : PySem.W.subIn K t (.ref B) = some b) : PySem.W.kitOne K t (.ref B) = some b := by
  unfold PySem.W.kitOne
  rw [if_neg (by simpa using ne)]
  have e1 : ((PySem.W.clsIn K B).isSome && PySem.W.typeIn K (.ref B) == some (.type "type")) = true := by
    rw [bty]
    rw [show (PySem.W.clsIn K B).isSome = true from bcl]
    rfl
  show (if ((PySem.W.clsIn K B).isSome && PySem.W.typeIn K (.ref B) == some (.type "type")) = true then _ else _) = _
  rw [if_pos e1]
  exact sup
/-- an int under a module's name -/
def IntIn (K : PySem.W.Frag) (nm : Str) (i : Int) : Prop := ∃ t, PySem.W.nsIn K mainGlobals nm = some (some (.int i t))
theorem IntIn.glob {K : PySem.W.Frag} {mg : Str → Option Value} {nm : Str} {i : Int} (h : IntIn K nm i) (T : TopOf K mg) : GlobD K mg nm (.int i) := by
  obtain ⟨t, a⟩ := h
  exact ⟨.int i, .int i t, T.is a, ⟨t, rfl⟩, fun G => .int i⟩
/-- a def of it -/
structure MethIn (K : PySem.W.Frag) (C : Addr) (m qual : Str) (st : Stmt) : Prop where
  ex : ∃ (f : Addr) (fd : FuncData), Meth K C m f ∧ L2.Fun K m qual st f fd
/-- a def of it with one default -/
structure MethInD (K : PySem.W.Frag) (C : Addr) (m qual : Str) (st : Stmt) (n : Nat) : Prop where
  ex : ∃ (f : Addr) (fd : FuncData) (dvs : List V), dvs.length = n ∧ dvs ≠ [] ∧ Meth K C m f ∧ L2.FunD K m qual (defArgs st) (defBody st) (defScope st) dvs [] f fd
/-- a classmethod of it -/
structure CMethIn (K : PySem.W.Frag) (C : Addr) (m qual : Str) (st : Stmt) : Prop where
  ex : ∃ (p f : Addr) (fd : FuncData), ClX.CMet K C (.type "type") m p f ∧ L2.Fun K m qual st f fd
section
variable {K : PySem.W.Frag} {C : Addr} {m qual : Str} {st : Stmt}
/-- one default that is an object of the text -/
theorem methD_in {f T d : Addr} {o : Obj} {n : Nat} {oc : Value} {od an : Option Addr} {osl : Array (Option Value)} {kV doc pm cdv ct : Value} (h1 : PySem.W.findIn K (.ref C) m = some (some (.ref f))) (h2 : PySem.W.isFn K (.ref f) = true)
    (l : K.lookup f = some ⟨oc, od, .func (PySem.W.fnOf m qual (defArgs st) (defBody st) (defScope st) (.ref T) kV doc pm an cdv ct), osl⟩) (c : PySem.W.codeIn K cdv qual = true) (k : PySem.W.keepIn K (.ref f) = true)
    (lT : K.lookup T = some o) (hT : o.data = .seq #[.ref d] n) : MethInD K C m qual st 1 :=
  ⟨f, _, [.ref d], rfl, (fun e => nomatch e), ⟨h1, h2, k⟩, ⟨⟨oc, od, _, kV, doc, pm, an, cdv, ct, osl, rfl, l, c, .inr ⟨(fun e => nomatch e), T, o, [.ref d], n, rfl, lT, hT, .cons rfl .nil⟩, .inl rfl⟩, k⟩⟩
/-- how the arguments of a method bind -/
def MBindsAs (m qual : Str) (st : Stmt) (ps : List Str) : Prop := ∀ (kV doc pm : Value) (an : Option Addr) (cdv ct : Value) (us : List Value), us.length = ps.length →
  bindArgs (PySem.W.fnOf m qual (defArgs st) (defBody st) (defScope st) .none kV doc pm an cdv ct) ⟨us, []⟩ = pure (ps.zip us)
/-- .. with defaults that are not wanted -/
def MBindsD (m qual : Str) (st : Stmt) (ps : List Str) (n : Nat) : Prop := ∀ (T : Addr) (kV doc pm : Value) (an : Option Addr) (cdv ct : Value) (us its : List Value), us.length = ps.length → its.length = n →
  ∃ k, bindArgs (PySem.W.fnOf m qual (defArgs st) (defBody st) (defScope st) (.ref T) kV doc pm an cdv ct) ⟨us, []⟩ = seqItems? (.ref T) >>= k ∧ k (some its.toArray) = pure (ps.zip us)
theorem mbinds {ps : List Str} {f : Addr} {fd : FuncData} (F : L2.Fun K m qual st f fd) (h : MBindsAs m qual st ps) : Binds K fd ps [] := by
  obtain ⟨oc, od, kV, doc, pm, an, cdv, ct, osl, rfl, _, _⟩ := F.ex
  exact Binds.all fun us hl => h _ _ _ _ _ _ us hl
theorem mbindsD {ps : List Str} {f : Addr} {fd : FuncData} {dvs : List V} (F : L2.FunD K m qual (defArgs st) (defBody st) (defScope st) dvs [] f fd) (hd : dvs ≠ []) (h : MBindsD m qual st ps dvs.length) : Binds K fd ps [] := by
  obtain ⟨ds, hv, hb⟩ := F.binds1 (ps := ps) ps.length dvs.length hd (by omega) fun T kV doc pm an cdv ct us its h1 h2 => by
    obtain ⟨k, e1, e2⟩ := h T kV doc pm an cdv ct us its h1 h2
    exact ⟨k, e1, by rw [← h2, List.drop_length, List.append_nil]; exact e2⟩
  rw [List.drop_length] at hv
  cases hv
  exact hb
section
variable {P : Program} {w : World} {mg : Str → Option Value} {base : Heap} {g : Bool} {k : Nat} {ps : List Str} {S : SpecT} {nm : Str}
theorem mcal_of (D : MethIn K C m qual st) (b : MBindsAs m qual st ps) (h : ∀ f fd, L2.Fun K m qual st f fd → Fn P w K mg base g k f fd ps S) : MCal P w K mg base g k C m S [] := by
  obtain ⟨f, fd, hm, F⟩ := D.ex
  exact ⟨f, fd, ps, [], [], hm, h f fd F, mbinds F b, .nil, fun _ => .nil⟩
theorem cmcal_of (I : ClsIn K nm C) (D : CMethIn K C m qual st) (b : MBindsAs m qual st ps) (h : ∀ f fd, L2.Fun K m qual st f fd → Fn P w K mg base g k f fd ps S) : CMCal P w K mg base g k C m S [] := by
  obtain ⟨p, f, fd, hm, F⟩ := D.ex
  exact ⟨_, p, f, fd, ps, [], [], I.rd, hm, h f fd F, mbinds F b, .nil, fun _ => .nil⟩
theorem mkc_ofD {n : Nat} (I : ClsIn K nm C) (D : MethInD K C "__init__" qual st n) (b : MBindsD "__init__" qual st ps n) (h : ∀ f fd, FunX K "__init__" qual st f fd → Fn P w K mg base false k f fd ps S) : MkC P w K mg base k C S [] := by
  obtain ⟨f, fd, dvs, hl, hd, hm, F⟩ := D.ex
  subst hl
  exact ⟨f, fd, ps, [], [], ⟨I.mks, hm.at_, hm.fn, I.kp⟩, h f fd (funX_ofD F), mbindsD F hd b, .nil, fun _ => .nil⟩
theorem eqc_of (I : ClsIn K nm C) (D : MethIn K C "__eq__" qual st) (b : MBindsAs "__eq__" qual st ps) (h : ∀ f fd, L2.Fun K "__eq__" qual st f fd → Fn P w K mg base false k f fd ps S) : EqC P w K mg base k C S := by
  obtain ⟨f, fd, hm, F⟩ := D.ex
  exact ⟨⟨f, fd, ps, hm.at_, hm.fn, h f fd F, mbinds F b⟩, I.ne, I.ins.hm⟩
end
end
end Kn
namespace Kn
open PySem PySem.Spec PyProof.Rows
open L2 hiding St
end Kn
namespace KnX
open PySem PySem.Spec PyProof.Rows L2
/-- an exception that a call within X let out -/
def Flies (X : Cx) (W : XK) (u : Value) (t : Shared) : Prop :=
  ∃ (a : Addr) (B : Heap) (s0 : Shared) (pins : List (Addr × Obj)) (σ : L2.St) (H : Hp) (cls : Value) (d : Option Addr), u = .ref a ∧ Kn.Down X pins σ H cls d a B s0 t ∧ W cls d H
/-- a traced exception's note -/
theorem traced_note {h B B' : Heap} {a : Addr} {Z Z' : Obj → Prop} {x y : Value} (p : HandSPX.TracedZ h B a Z x) (q : HandSPX.TracedZ h B' a Z' y) : x = y := by
  obtain ⟨o1, f1, T1, p1, t1, a1, _, a2, a3, _, _, a4, a5, a6⟩ := p
  obtain ⟨o2, f2, T2, p2, t2, b1, _, b2, b3, _, _, b4, b5, b6⟩ := q
  obtain rfl : o1 = o2 := Option.some.inj (a1.symm.trans b1)
  obtain rfl : f1 = f2 := by rw [a2] at b2; cases b2; rfl
  obtain rfl : T1 = T2 := by rw [a3] at b3; cases b3; rfl
  obtain rfl := Option.some.inj (a4.symm.trans b4)
  rw [a5] at b5
  cases b5
  exact Option.some.inj (a6.symm.trans b6)
/-- of all that may be in the air, a call lets out what flies -/
theorem Flies.of_call {X : Cx} {pins : List (Addr × Obj)} {σ : L2.St} {H : Hp} {s s' : Shared} {E W : XK} (I : Inv X pins σ H s) (hW : ∀ cls d H', E cls d H' → W cls d H') {u : Value} (c : L2.CX X.prog X.w X.stack H s E u s') : Flies X W u s' := by
  have x : XE X (fun cls d _ H' => W cls d H') u s' := XE.of_call I hW c
  obtain ⟨a, B, s0, pins', σ', H', cls, d, same, J, ground, up, sky, free, os, bare, want⟩ := x
  obtain ⟨a', _, _, _, _, same', fly, _⟩ := c
  obtain rfl : a = a' := Value.ref.inj (same.symm.trans same')
  have noted := fly.2.2.2
  refine ⟨a, B, s0, pins', σ', H', cls, d, same, ⟨J, ground, ?_, up, free, os, bare⟩, want⟩
  rcases sky with ⟨_, _, _, oe, vs, here, _, data, bare1⟩ | flying | held
  · obtain ⟨oe', vs', T, _, _, here', _, data', traced, _⟩ := noted
    obtain rfl : oe = oe' := Option.some.inj (here.symm.trans here')
    rw [data] at data'
    cases data'
    rw [bare1] at traced
    cases traced
  · exact flying
  · have z := traced_note noted held.2.2.2
    cases z
/-- the context of a block whose exceptions come to xe -/
abbrev blkE (X : Cx) (s : Shared) (H : Hp) (scope : Scope) (ce : Env) (fp : List Addr) (xe : Value → Shared → Prop) : Cx := { X.blk s H scope ce fp with xe := xe }
section
variable {X : Cx} {xe xe' : Value → Shared → Prop} {s0 s : Shared} {H H0 : Hp} {scope : Scope} {ce : Env} {fp : List Addr} {pins : List (Addr × Obj)} {σ : L2.St}
theorem ok_blkE (I : (blkE X s H scope ce fp xe).Ok) : (blkE X s H scope ce fp xe').Ok :=
  ⟨I.mod, I.kind, I.glob, I.blt, I.above, I.inj, I.has, I.cab, I.hd, I.frames, I.stk, I.exf, I.bs, I.bsz, I.noex, I.exfs, I.funs, I.frf⟩
theorem inv_blkE (I : Inv (blkE X s0 H0 scope ce fp xe) pins σ H s) : Inv (blkE X s0 H0 scope ce fp xe') pins σ H s :=
  ⟨ok_blkE I.ok, I.os, I.bare, I.base, I.loc, I.cell, I.free, I.freeC, I.pin, I.hok, I.len⟩
end
end KnX
namespace KnX
open PySem PySem.Spec PyProof.Rows L2
/-- e is read where k tokens are out -/
def PEk (X : Cx) (k : Nat) (e : Expr) (te : TE) : Prop := ∀ (pins : List (Addr × Obj)) (t : Shared) (σ : L2.St) (H : Hp) (Q : VK), k ≤ t.toks → Inv X pins σ H t → te σ H Q → wpAny (model X.prog X.w) X.A (eval e X.env) (EP X pins σ Q) X.xe t
theorem PEk.of {X : Cx} {k : Nat} {e : Expr} {te : TE} (h : PE X e te) : PEk X k e te := fun pins t σ H Q _ I q => h.run pins t σ H Q I q
structure Mid (Y : Cx) (k : Nat) (fp : List Addr) (tn : Nat → Heap → Prop) (σ : L2.St) (i : Nat) (H : Hp) (t : Shared) : Prop where
  inv : Inv Y [] σ H t
  toks : k ≤ t.toks
  at_ : tn i t.heap
  free : ∀ b ∈ fp, H b = none
section
variable {X : Cx} {s0 : Shared} {H0 : Hp} {scope : Scope} {ce : Env} {fp : List Addr} {tn : Nat → Heap → Prop} {σ : L2.St} {i : Nat} {H : Hp} {t : Shared} {tg elt iter : Expr} {ifs : List Expr} {J : It} {it : Addr} {k : Nat}
/-- a turn's body is done: the next may come -/
theorem Mid.next {xe : Value → Shared → Prop} {vs : List Nat} {τ : L2.St} {h7 : Heap} (T : Turn X.prog X.w X.K tg J fp it tn) (at_ : tn (i + 1) h7) (hw : wipe τ vs = wipe σ vs) (tk : k ≤ t.toks) (I : Inv (blkE X s0 H0 scope ce fp xe) ([] ++ pinsAt fp h7) τ H t) :
    Mid (blkE X s0 H0 scope ce fp (fun _ _ => False)) k fp tn (wipe σ vs) (i + 1) H t := by
  have stays : ∀ b ∈ fp, ∀ o, h7.get? b = some o → t.heap.get? b = some o ∧ H b = none := fun b hb o e => by
    have q := I.pin (b, o) (List.mem_append.mpr (.inr (List.mem_append.mpr (.inr (mem_pinsAt hb e)))))
    exact ⟨q.1, q.2.1⟩
  refine ⟨inv_blkE (I.unpinned (pins := [])) |>.weak ?_ fun j v e => ?_, tk, T.keep _ _ _ at_ fun b hb o e => (stays b hb o e).1, fun b hb => ?_⟩
  · rw [← hw, wipe_length]
  · rw [← hw] at e
    exact (wipe_some e).1
  · obtain ⟨o, e, _⟩ := T.obj _ _ at_ b hb
    exact (stays b hb o e).2
end
end KnX
namespace Kn
open PySem PySem.Spec PyProof.Rows
open L2 hiding St
end Kn
namespace Kn
open PySem PySem.Spec PyProof.Rows
open L2 hiding St
/-- the class at C is what the module calls nm -/
def clsAt (K : PySem.W.Frag) (nm : Str) (C : Addr) : Prop := PySem.W.nsIn K mainGlobals nm = some (some (.ref C))
theorem at_inj {K : PySem.W.Frag} {nm : Str} {C C' : Addr} (h : clsAt K nm C) (h' : clsAt K nm C') : C = C' := by
  have e := h.symm.trans h'
  cases e
  rfl
theorem eqD_str (y z : Str) : eqD (.str y) (.str z) = decide (y = z) := by
  show PyData.eqv (.str y) (.str z) = _
  unfold PyData.eqv
  by_cases h : y = z
  · subst h; simp
  · simp [h]
theorem eqD_tup (as bs : List Dat) : eqD (.tup as) (.tup bs) = PyData.eqvAll (toPys as) (toPys bs) := by
  show PyData.eqv (.tuple (toPys as)) (.tuple (toPys bs)) = _
  rw [PyData.eqv]
end Kn
namespace Kn
open PySem PySem.Spec PyProof.Rows
open L2 hiding St
end Kn
namespace Kn
open PySem PySem.Spec PyProof.Rows
open L2 hiding St
section
variable {X : Cx} {O : Own} {ρ : List Slot} {x : ExK} {k k' : Slot → Own → Prop} {kl kl' : List Slot → Own → Prop} {e a b c o : Expr} {es : List Expr} {pos p apos pos2 tpos : Pos} {D : SD} {g g' : Bool} {j n : Nat} {S : SpecT} {df : List Dat} {m f : Str}
theorem op_len {K : PySem.W.Frag} {G : Hp} {vs : List (Option V)} {ss : List (Option Slot)} (h : Paired (OpOk K G) vs ss) : vs.length = ss.length := paired_len h
/-- one slot stored -/
def putSl (i : Nat) (s : Slot) (ss : List (Option Slot)) : List (Option Slot) := (ss ++ List.replicate (i + 1 - ss.length) Option.none).set i (some s)
theorem op_none {K : PySem.W.Frag} {G : Hp} : ∀ n : Nat, Paired (OpOk K G) (List.replicate n none) (List.replicate n none)
  | 0 => .nil
  | n + 1 => .cons True.intro (op_none n)
theorem op_put {K : PySem.W.Frag} {G : Hp} {v : V} {s : Slot} (r : SlOk K G v s) (i : Nat) {vs : List (Option V)} {ss : List (Option Slot)} (h : Paired (OpOk K G) vs ss) : Paired (OpOk K G) (SlX.putS i v vs) (putSl i s ss) := by
  unfold SlX.putS putSl
  rw [op_len h]
  exact paired_set (F := OpOk K G) (x := some v) (y := some s) r i (paired_app h (op_none _))
theorem op_get {K : PySem.W.Frag} {G : Hp} {s : Slot} {i : Nat} {vs : List (Option V)} {ss : List (Option Slot)} (h : Paired (OpOk K G) vs ss) (hi : ss[i]? = some (some s)) : ∃ v, vs[i]? = some (some v) ∧ SlOk K G v s := by
  obtain ⟨o, h1, h2⟩ := paired_get h hi
  cases o with
  | none => exact h2.elim
  | some v => exact ⟨v, h1, h2⟩
theorem slt_of {K : PySem.W.Frag} {H : Hp} {O : Own} {q C dx : Addr} {ss : List (Option Slot)} (ok : OwnOk K O H) (hp : O q = some (.slt C dx ss)) : ∃ vs, SlX.Slt H q C dx vs ∧ dx ≠ q ∧ H dx = some (.xd []) ∧ Paired (OpOk K (hid O H)) vs ss := by
  obtain ⟨ob, h1, h2, h3, vs, rfl, h4⟩ := ok.cell q _ hp
  exact ⟨vs, .inr ⟨h1, hid_le _ _ h2⟩, h3, hid_le _ _ h2, h4⟩
theorem ew_slot {C q0 : Addr} {i : Nat} (c : SlX.SCls X.K C) (t : SlX.Slot1 X.K C f q0 i) (h : EW X O ρ o x fun s O1 => ∃ (q dx : Addr) (ss : List (Option Slot)) (s' : Slot), s = .own q ∧ O1 q = some (.slt C dx ss) ∧ ss[i]? = some (some s') ∧ k s' O1)
    (hb : attributeBase o f X.env (eval o X.env) = eval o X.env := by rfl) : EW X O ρ (.Attribute o f pos) x k := fun H0 σ H st tk Q q => by
  refine we_of (SlX.pe_sl pe_w hb) (h H0 σ H st tk _ fun v H1 s O1 hk st1 r1 => ?_)
  obtain ⟨q1, dx, ss, s', rfl, hp, hi, hk⟩ := hk
  cases r1
  obtain ⟨vs, h1, h2, h3, h4⟩ := slt_of st1.own hp
  obtain ⟨w, hw, rw⟩ := op_get h4 hi
  exact ⟨q1, C, dx, q0, vs, i, w, rfl, h1, c, t, hw, q w H1 s' O1 hk st1 rw⟩
theorem upd_id {H : Hp} {a : Addr} {o : HO} (h : H a = some o) : upd H a o = H := by
  funext b
  by_cases e : b = a
  · subst e; rw [upd_same, h]
  · rw [upd_ne e]
theorem s1_slot {C q0 : Addr} {i : Nat} (c : SlX.SCls X.K C) (t : SlX.Slot1 X.K C f q0 i) (h : EW X O ρ e x fun s O1 => EW X O1 ρ o x fun t O2 => ∃ (q dx : Addr) (ss : List (Option Slot)), t = .own q ∧ O2 q = some (.slt C dx ss) ∧ D.nx ρ (up O2 q (.slt C dx (putSl i s ss))))
    (hs : swapsWith e (some (.Attribute o f pos2)) pos.line X.env = pure false := by rfl) : S1 X O ρ (.Assign [.Attribute o f pos2] e pos) x D := fun H0 σ H st tk E ok => by
  refine ws_of (SlX.ps_sl pe_w pe_w hs) (h H0 σ H st tk _ fun v H1 s O1 hk st1 r1 => ?_)
  refine hk _ σ H1 st1.top (takes_base tk st1.base) _ fun w H2 t2 O2 hq st2 r2 => ?_
  obtain ⟨q, dx, ss, rfl, hp, hn⟩ := hq
  cases r2
  obtain ⟨ob, z1, z2, z3, vs, rfl, z4⟩ := st2.own.cell q _ hp
  have hd := hid_le _ _ z2
  refine ⟨q, C, dx, q0, vs, i, rfl, .inr ⟨z1, hd⟩, c, t, ?_⟩
  have e1 : SlX.slH H2 q C dx (SlX.putS i v vs) = upd H2 q (SlX.SlO q C dx (SlX.putS i v vs)) := by
    unfold SlX.slH
    rw [upd_id hd]
  rw [e1]
  exact ok.nx σ ρ _ _ hn ((st2.rebase st1.base).write hp ⟨z2, z3, _, rfl, op_put (st_slot r1 st2) i z4⟩)
end
end Kn
namespace Kn
open PySem PySem.Spec PyProof.Rows
open L2 hiding St
section
variable {X : Cx} {O : Own} {ρ : List Slot} {x : ExK} {k k' : Slot → Own → Prop} {kl kl' : List Slot → Own → Prop} {e a b c o : Expr} {es : List Expr} {pos p apos pos2 tpos : Pos} {D : SD} {g g' : Bool} {j n : Nat} {S : SpecT} {df : List Dat} {m f : Str}
def MakeSl (C : Addr) (S : SpecT) (df : List Dat) (x : ExK) (ρ : List Slot) (k : Slot → Own → Prop) (ss : List Slot) (O : Own) : Prop :=
  ∀ a dx, O a = none → O dx = none → dx ≠ a → S (.own a :: (ss ++ df.map .dat)) (up O a (.slt C dx [])) (kMake x ρ k a)
theorem inv_made_sl {pins : List (Addr × Obj)} {s : Shared} {σ : SV} {H : Hp} {C : Addr} (I : Inv X pins σ H s) :
    Inv X pins σ (upd (upd H s.heap.objs.size (.xd [])) (s.heap.objs.size + 1) (SlX.SlO (s.heap.objs.size + 1) C s.heap.objs.size [])) { s with heap := (s.heap.push PySem.W.emptyDict).push (PySem.W.instObj C s.heap.objs.size) } := by
  have I1 := Inv.made (C := C) I
  have nxd : s.heap.objs.size ≠ s.heap.objs.size + 1 := Nat.ne_of_lt (Nat.lt_succ_self _)
  have h : SlX.Slt (upd (upd H s.heap.objs.size (.own (s.heap.objs.size + 1))) (s.heap.objs.size + 1) (.ins C s.heap.objs.size [])) (s.heap.objs.size + 1) C s.heap.objs.size [] := .inl ⟨upd_same, rfl⟩
  obtain ⟨_, sl, mA, e0, r, _, _⟩ := SlX.slt_at I1 h
  have I2 := SlX.inv_slot (vs' := []) (t' := s.toks) I1 h (fun b o _ _ q => q) (fun m q => q) e0 (SlX.SlR.nil _)
  have e : SlX.slH (upd (upd H s.heap.objs.size (.own (s.heap.objs.size + 1))) (s.heap.objs.size + 1) (.ins C s.heap.objs.size [])) (s.heap.objs.size + 1) C s.heap.objs.size [] = upd (upd H s.heap.objs.size (.xd [])) (s.heap.objs.size + 1) (SlX.SlO (s.heap.objs.size + 1) C s.heap.objs.size []) := by
    funext b
    unfold SlX.slH
    by_cases h1 : b = s.heap.objs.size + 1
    · rw [h1, upd_same, upd_same]
    · by_cases h2 : b = s.heap.objs.size
      · rw [h2, upd_ne nxd, upd_ne nxd, upd_same, upd_same]
      · simp only [upd_ne h1, upd_ne h2]
  rw [e] at I2
  exact I2
theorem run_makeSl {C : Addr} {vs : List V} {us : List Value} {ss : List Slot} {pins : List (Addr × Obj)} {s : Shared} {σ : SV} {H0 H : Hp} {Q : VK} (M : MkC X.prog X.w X.K X.mg X.base n C S df) (hr : RoomB g (n + 1) X.A)
    (I : Inv X pins σ H s) (st : StOk X.K H0 O σ ρ H) (tk : Takes X (Wsem X.K H0 x)) (rv : Vals vs us) (pr : Paired (SlOk X.K (hid O H)) vs ss) (h : MakeSl C S df x ρ k ss O) (q : ∀ v H' s O', k s O' → StOk X.K H0 O' σ ρ H' → SlOk X.K (hid O' H') v s → Q v H') :
    wpAny (model X.prog X.w) X.A (call (.ref C) us) (EP X pins σ Q) X.xe s := by
  obtain ⟨f, fd, ps, ds, dvs, M, F, hb, hd, hdf⟩ := M
  have fx : H (s.heap.objs.size + 1) = none := I.hok.fresh (Nat.le_succ _)
  have fd0 : H s.heap.objs.size = none := I.hok.fresh (Nat.le_refl _)
  have nxd : s.heap.objs.size ≠ s.heap.objs.size + 1 := Nat.ne_of_lt (Nat.lt_succ_self _)
  have hq := h (s.heap.objs.size + 1) s.heap.objs.size (own_free st.own fx) (own_free st.own fd0) nxd
  have sm : Same H (upd H s.heap.objs.size (.xd [])) := same_new fd0
  have st1 := st.grow sm
  have fx1 : (upd H s.heap.objs.size (.xd [])) (s.heap.objs.size + 1) = none := by rw [upd_ne nxd.symm]; exact fx
  have cl : ClOk X.K (hid O (upd H s.heap.objs.size (.xd []))) (s.heap.objs.size + 1) (SlX.SlO (s.heap.objs.size + 1) C s.heap.objs.size []) (.slt C s.heap.objs.size []) := ⟨by rw [hid_none (own_free st.own fd0), upd_same], nxd, [], rfl, .nil⟩
  have st2 := st1.alloc (o := SlX.SlO (s.heap.objs.size + 1) C s.heap.objs.size []) (c := .slt C s.heap.objs.size []) fx1 cl
  have I2 := inv_made_sl (C := C) I
  have gm : Same (hid O H) (hid (up O (s.heap.objs.size + 1) (.slt C s.heap.objs.size [])) (upd (upd H s.heap.objs.size (.xd [])) (s.heap.objs.size + 1) (SlX.SlO (s.heap.objs.size + 1) C s.heap.objs.size []))) := fun b u hb => by
    obtain ⟨z1, z2⟩ := of_hid hb
    have nb := ne_of_none z2 fx
    have nd := ne_of_none z2 fd0
    rw [hid_none (by rw [up_ne nb]; exact z1), upd_ne nb, upd_ne nd]
    exact z2
  have r2 : Vals (V.ref (s.heap.objs.size + 1) :: (vs ++ dvs)) (Value.ref (s.heap.objs.size + 1) :: (us ++ ds)) := .cons rfl (rv.append hd)
  have sp : spS X.K S (V.ref (s.heap.objs.size + 1) :: (vs ++ dvs)) (upd (upd H s.heap.objs.size (.xd [])) (s.heap.objs.size + 1) (SlX.SlO (s.heap.objs.size + 1) C s.heap.objs.size [])) (fun v H2 => v = .non ∧ Q (.ref (s.heap.objs.size + 1)) H2) (fun cls d H' => Wsem X.K H0 x cls d σ H') :=
    ⟨_, .own (s.heap.objs.size + 1) :: (ss ++ df.map .dat), kMake x ρ k _, st2.own, .cons rfl (paired_app (pmap (fun _ _ z => SlOk.mono gm z) pr) (hdf _).paired), hq,
      fun v H' s' O' h1 h2 h3 h4 => by
        obtain ⟨rfl, h5⟩ := h1
        cases h4
        exact ⟨rfl, q _ H' _ O' h5 (st2.next h2 h3) rfl⟩, fun cls d e H' O' h1 h2 h3 h4 => ⟨e, ρ, O', h1, st2.next h2 h3, h4⟩⟩
  have hl : (Value.ref (s.heap.objs.size + 1) :: us ++ ds).length = ps.length := by
    have e := r2.length
    rw [spS_len F.len _ _ _ _ sp] at e
    exact e.symm
  refine wpAny_call (make_map (f := f) I.kIn M.makes M.init (beq_iff_eq.mp M.fn) (codeAny_mono (F.ok.run _ X.stack _ _ ⟨Value.ref (s.heap.objs.size + 1) :: us, []⟩ (Value.ref (s.heap.objs.size + 1) :: (us ++ ds)) _ _ _ (hr.r.make C us [])
    (I2.env0.make C us []) (hb _ (Value.ref (s.heap.objs.size + 1) :: us) I2.kIn hl) r2 sp) fun r s' hq' => ?_))
  cases r with
  | error e => exact tk e s' (XE.of_call I2 (fun _ _ _ h => h) hq')
  | ok fl =>
    cases fl with
    | ret u =>
      obtain ⟨v, H', I3, rv, ev, q3⟩ := I2.after hq'
      subst ev
      exact ⟨rv, ⟨V.ref (s.heap.objs.size + 1), H', I3, rfl, q3⟩⟩
    | next => exact False.elim hq'
    | brk => exact False.elim hq'
    | cont => exact False.elim hq'
theorem ew_makeSl0 {C : Addr} {nm : Str} (M : MkC X.prog X.w X.K X.mg X.base n C S df) (hm : X.mg nm = some (.ref C)) (hr : RoomB g j X.A) (h : MakeSl C S df x ρ k [] O) (hj : n + 1 ≤ j := by decide)
    (hg : Gl X nm := by rfl) (hdb : (nm == ("__debug__" : Str)) = false := by decide) :
    EW X O ρ (.Call (.Name nm p) [] [] pos) x k := fun H0 σ H st tk Q q => ⟨fun pins s I => by
  refine wpAny_Call_Name_kw (ld_glob I hg hm ?_ hdb)
  exact PySem.W.callWith_K0 I.kIn M.kp (run_makeSl (us := []) (vs := []) (ss := []) M (hr.mono hj (fun e => e)) I st tk .nil .nil h q)⟩
def SltAt (O : Own) (C : Addr) : Slot → Prop
  | .own p => ∃ dx ss, O p = some (.slt C dx ss)
  | _ => False
theorem slt_at' {K : PySem.W.Frag} {H0 H : Hp} {O : Own} {σ : SV} {ρ : List Slot} {C : Addr} {s : Slot} {v : V} (h : SltAt O C s) (st : StOk K H0 O σ ρ H) (r : SlOk K (hid O H) v s) : ∃ a dx vs, v = .ref a ∧ SlX.Slt H a C dx vs := by
  cases s with
  | own p =>
    obtain ⟨dx, ss, hp⟩ := h
    obtain ⟨vs, h1, _⟩ := slt_of st.own hp
    exact ⟨p, dx, vs, r, h1⟩
  | unk => exact h.elim
  | dat d => exact h.elim
theorem ew_methSl {C : Addr} {pl : Sem Bool} (mc : MCal X.prog X.w X.K X.mg X.base g n C m S df) (c : SlX.SCls X.K C) (hr : RoomB g' j X.A)
    (h : EW X O ρ o x fun s O1 => SltAt O1 C s ∧ AW X O1 ρ (e :: es) x fun ss O2 => S (s :: (ss ++ df.map .dat)) O2 (kOut x ρ k)) (hj : n ≤ j := by decide) (hgg : g = true → g' = true := by first | exact fun _ => rfl | exact fun h => h | exact fun h => nomatch h)
    (hst : starEach (e :: es) X.env = (false, eval e X.env) :: starEach es X.env := by rfl) (hpl : (backTo pos (starEach es X.env)).any (·.1) = false := by rfl)
    (ht : eval (.Call (.Attribute o m apos) (e :: es) [] pos) X.env = (do
      let ov ← eval o X.env
      standAt apos.atName
      let (f, first) ← holding [ov] (getMethod ov m pl)
      callWith pos f first (backTo pos (starEach (e :: es) X.env)) (backToKw pos (keywordEach [] X.env))) := by rfl) :
    EW X O ρ (.Call (.Attribute o m apos) (e :: es) [] pos) x k := fun H0 σ H st tk Q q => ⟨fun pins s I => by
  obtain ⟨f, fd, ps, ds, dvs, hm, F, hb, hd, hdf⟩ := mc
  refine PySem.W.methodCall_KW (pl := pl) (thn ((pe_w (e := o)).run pins s σ H (fun v H1 => ∃ s1 O1, (SltAt O1 C s1 ∧ AW X O1 ρ (e :: es) x fun ss O2 => S (s1 :: (ss ++ df.map .dat)) O2 (kOut x ρ k)) ∧ StOk X.K H0 O1 σ ρ H1 ∧ SlOk X.K (hid O1 H1) v s1) I (h H0 σ H st tk _ fun v H1 s1 O1 hk st1 r1 => ⟨s1, O1, hk, st1, r1⟩)) fun u s1 hq => ?_) ht
  obtain ⟨v, H1, I1, rx, t, O1, ⟨hi, ha⟩, st1, r1⟩ := hq
  obtain ⟨a, dx, fs, rfl, hsl⟩ := slt_at' hi st1 r1
  cases rx
  refine SlX.getmethsl_ok I1 hsl c hm ?_
  refine PySem.W.callWith_K (first := [.ref a]) (h₀ := X.base) I1.ok.mod.kin hm.kp (thn ((pa_w (es := e :: es)).run pos pins s1 σ H1 (fun vs H2 => ∃ ss O2, StOk X.K (hid O1 H1) O2 σ ρ H2 ∧ Paired (SlOk X.K (hid O2 H2)) vs ss ∧ S (t :: (ss ++ df.map .dat)) O2 (kOut x ρ k)) I1 (ha _ σ H1 st1.top (takes_base tk st1.base) _ fun vs H2 ss O2 h2 st2 r2 => ⟨ss, O2, st2, r2, h2⟩)) fun us s2 hq => ?_) hst hpl
  obtain ⟨vs, H2, I2, rv, ss, O2, st2, pr, hS⟩ := hq
  exact ⟨I2.kIn, run_call (us := .ref a :: us) (vs := .ref a :: vs) (ss := t :: ss) F (hr.mono hj hgg) hb hd hdf I2 (st2.rebase st1.base) tk (.cons rfl rv) (.cons (st_slot r1 st2) pr) hS q⟩⟩
end
end Kn
namespace Kn
open PySem PySem.Spec PyProof.Rows
open L2 hiding St
end Kn
namespace Kn
open PySem PySem.Spec PyProof.Rows
open L2 hiding St
section
variable {X : Cx} {O : Own} {ρ : List Slot} {x : ExK} {kl kl' : List Slot → Own → Prop} {e a b c o : Expr} {es : List Expr} {pos p : Pos} {D : SD}
theorem aw_starL (h : EW X O ρ e x fun s O1 => ∃ ds, s = .dat (.lst ds) ∧ AW X O1 ρ es x fun ss O2 => kl (ds.map .dat ++ ss) O2) (hs : starEach (.Starred e p :: es) X.env = (true, eval e X.env) :: starEach es X.env := by rfl) : AW X O ρ (.Starred e p :: es) x kl := fun H0 σ H st tk Q q => by
  refine wa_of (StX.pa_star pe_w pa_w hs) (h H0 σ H st tk _ fun v H1 s O1 ⟨ds, e1, h1⟩ st1 r1 => ?_)
  subst e1
  cases r1 with
  | lst h2 h3 =>
    refine ⟨_, _, rfl, .inr (sql_at (hid_le _ _ h2)), h1 (hid O1 H1) σ H1 st1.top (takes_base tk st1.base) _ fun vs H2 ss O2 hk st2 r2 => ?_⟩
    exact q _ H2 _ O2 hk (st2.rebase st1.base) (paired_app (pmap (fun _ _ z => SlOk.mono st2.base z) h3.paired) r2)
end
end Kn
namespace Kn
open PySem PySem.Spec PyProof.Rows
open L2 hiding St
section
variable {X : Cx} {O : Own} {ρ : List Slot} {x : ExK} {k : Slot → Own → Prop} {tg iter tg1 iter1 : Expr} {pos : Pos} {D : SD}
theorem map_take {α β : Type} (f : α → β) : ∀ (l : List α) (i : Nat) (a : α), l[i]? = some a → (l.take (i + 1)).map f = (l.take i).map f ++ [f a]
  | [], i, a, h => by cases h
  | b :: l, 0, a, h => by cases h; simp
  | b :: l, i + 1, a, h => by
    rw [List.take_succ_cons, List.map_cons, List.take_succ_cons, List.map_cons, map_take f l i a h, List.cons_append]
theorem StOk.outer {K : PySem.W.Frag} {H0 H1 H2 : Hp} {O1 O2 : Own} {σ σ' : SV} {ρ ρ' : List Slot} (st1 : StOk K H0 O1 σ ρ H1) (st2 : StOk K (hid O1 H1) O2 σ' ρ' H2) : StOk K (hid O1 H1) O2 σ ρ H2 := ⟨st2.own, st2.base, pmap (fun _ _ z => EnvOk.mono st2.base z) st1.env⟩
theorem StOk.push {K : PySem.W.Frag} {H0 H : Hp} {O : Own} {σ : SV} {ρ : List Slot} {Dd : Addr} {acc : List Slot} {xs : List V} {u : V} {s : Slot} (st : StOk K H0 (up O Dd (.lst acc)) σ ρ H) (c : H Dd = some (.lst xs)) (c2 : Paired (SlOk K (hid (up O Dd (.lst acc)) H)) xs acc) (r : SlOk K (hid (up O Dd (.lst acc)) H) u s) :
    StOk K H0 (up O Dd (.lst (acc ++ [s]))) σ ρ (upd H Dd (.lst (xs ++ [u]))) := by
  have st6 := st.write (o := .lst (xs ++ [u])) (c := .lst (acc ++ [s])) up_at ⟨_, rfl, paired_app c2 (.cons r .nil)⟩
  rw [up_up] at st6
  exact st6
end
end Kn
namespace Kn
open PySem PySem.Spec PyProof.Rows
open L2 hiding St
end Kn
namespace Kn
open PySem PySem.Spec PyProof.Rows
open L2 hiding St
/-- an own class with slots by its name -/
structure SlsIn (K : PySem.W.Frag) (nm : Str) (C : Addr) : Prop where
  at_ : PySem.W.nsIn K mainGlobals nm = some (some (.ref C))
  sc : SlX.SCls K C
  mks : PySem.W.makesIn K C = true
  kp : PySem.W.keepIn K (.ref C) = true
def SlotIn (K : PySem.W.Frag) (C : Addr) (f : Str) (i : Nat) : Prop := ∃ p, SlX.Slot1 K C f p i
theorem slot_in {K : PySem.W.Frag} {C p : Addr} {f : Str} {i : Nat} (h1 : PySem.W.findIn K (.ref C) f = some (some (.ref p))) (h2 : PySem.W.specialIn K (.ref p) "__get__" = some (some (.builtin "member_descriptor.__get__"))) (h3 : PySem.W.takesIn K (.ref p) = some true)
    (h4 : PySem.W.typeIn K (.ref p) = some (.type "member_descriptor")) (h5 : PySem.W.slotIn K p C = some i) (h6 : i < 1000) : SlotIn K C f i := ⟨p, h1, h2, h3, h4, h5, h6⟩
section
variable {P : Program} {w : World} {K : PySem.W.Frag} {mg : Str → Option Value} {base : Heap} {k : Nat} {ps : List Str} {S : SpecT} {nm qual : Str} {C : Addr} {st : Stmt}
theorem mkc_ofS (I : SlsIn K nm C) (D : MethIn K C "__init__" qual st) (b : MBindsAs "__init__" qual st ps) (h : ∀ f fd, L2.Fun K "__init__" qual st f fd → Fn P w K mg base false k f fd ps S) : MkC P w K mg base k C S [] := by
  obtain ⟨f, fd, hm, F⟩ := D.ex
  exact ⟨f, fd, ps, [], [], ⟨I.mks, hm.at_, hm.fn, I.kp⟩, h f fd F, mbinds F b, .nil, fun _ => .nil⟩
end
end Kn
namespace Kn
open PySem PySem.Spec PyProof.Rows
open L2 hiding St
end Kn
namespace Kn
open PySem PySem.Spec PyProof.Rows
open L2 hiding St
theorem RpA.reverse {K : PySem.W.Frag} {G : Hp} : ∀ {vs : List V} {ds : List Dat}, RpA K G vs ds → RpA K G vs.reverse ds.reverse
  | _, _, .nil => .nil
  | _, _, .cons h t => by
    rw [List.reverse_cons, List.reverse_cons]
    exact RpA.snoc h (RpA.reverse t)
end Kn
namespace Kn
open PySem PySem.Spec PyProof.Rows
open L2 hiding St
/-- the unlike ones of some texts, as they come -/
def stS (acc : List Str) (v : Str) : List Str := if acc.any (· == v) = true then acc else acc ++ [v]
def ddS (xs : List Str) : List Str := xs.foldl stS []
theorem stS_len (acc : List Str) (v : Str) : (stS acc v).length = if acc.any (· == v) = true then acc.length else acc.length + 1 := by
  unfold stS
  split <;> simp
theorem ddS_le : ∀ (xs acc : List Str), (xs.foldl stS acc).length ≤ acc.length + xs.length
  | [], acc => Nat.le_refl _
  | x :: xs, acc => by
    have h1 := ddS_le xs (stS acc x)
    have h2 := stS_len acc x
    have h3 : (stS acc x).length ≤ acc.length + 1 := by rw [h2]; split <;> omega
    rw [List.foldl_cons, List.length_cons]; omega
theorem any_is {acc : List Str} {v : Str} : acc.any (· == v) = true ↔ v ∈ acc := by
  rw [List.any_eq_true]
  exact ⟨fun ⟨z, hz, e⟩ => (eq_of_beq e : z = v) ▸ hz, fun h => ⟨v, h, beq_self_eq_true v⟩⟩
theorem stS_old {acc : List Str} {v : Str} (h : v ∈ acc) : stS acc v = acc := if_pos (any_is.mpr h)
theorem stS_new {acc : List Str} {v : Str} (h : v ∉ acc) : stS acc v = acc ++ [v] := if_neg fun q => h (any_is.mp q)
theorem ddS_snoc (xs : List Str) (v : Str) : ddS (xs ++ [v]) = stS (ddS xs) v := by
  show (xs ++ [v]).foldl stS [] = _
  rw [List.foldl_append]; rfl
end Kn
namespace KnS
open PySem PySem.Spec PyProof.Rows L2
open PySem.Froz (SD sObj TxOk addTx add_x add_ok is_str)
open Kn (stS ddS stS_old stS_new ddS_snoc ddS_le stS_len)
theorem stS_nodup {acc : List Str} (h : acc.Nodup) (v : Str) : (stS acc v).Nodup := by
  by_cases q : v ∈ acc
  · rw [stS_old q]; exact h
  · rw [stS_new q]
    refine List.nodup_append.mpr ⟨h, List.pairwise_singleton _ _, fun a ha b hb e => q ?_⟩
    rw [← List.mem_singleton.mp hb, ← e]; exact ha
/-- its table can be read in order -/
def Told (w : World) (t : SetTable) : Prop := Ris t.place.toList ∧ (w.params.followText "set-order" = true ∨ t.led = true)
/-- at a lies the set of just the texts l -/
def TxS (P : Program) (w : World) (h : Heap) (a : Addr) (l : List Str) : Prop := ∃ D : SD, h.get? a = some (sObj "set" D) ∧ TxOk P w D l ∧ l.Nodup ∧ Told w D.2.2
theorem Told.tail {w : World} {ep : Nat} {es : Array (Int × Value)} {t : SetTable} {b : Bool} (h : Told w t) : Told w (PySem.Froz.tailTx ep es t b).2.2 := by
  unfold PySem.Froz.tailTx
  split
  · exact ⟨relayAll_ris _ _ _, h.2.imp id fun q => (relayAll_led _ _ _).trans q⟩
  · exact h
theorem Told.add {w : World} {D : SD} (h : Told w D.2.2) (k : Int) (v : Value) : Told w (addTx k v D).2.2 := by
  have laid : Told w (layNew D.2.2 D.1 k v).2.1 := ⟨layNew_ris _ _ _ _ h.1, h.2.imp id fun q => (layNew_led _ _ _ _).trans q⟩
  refine Told.tail ?_
  split
  · exact laid
  · exact laid
theorem TxOk.reorder {P : Program} {w : World} {D : SD} {l l' : List Str} (h : TxOk P w D l) (p : l'.Perm l) : TxOk P w D l' := ⟨h.el, fun k => p.mem_iff.trans (h.mem k), h.sz.trans p.length_eq.symm, h.fit⟩
section
variable {P : Program} {w : World} {h h' : Heap} {a : Addr} {l : List Str}
theorem TxS.keep (R : TxS P w h a l) (k : ∀ o, h.get? a = some o → h'.get? a = some o) : TxS P w h' a l := R.imp fun _ ⟨at_, r⟩ => ⟨k _ at_, r⟩
theorem TxS.there (R : TxS P w h a l) : ∃ o, h.get? a = some o := R.imp' (fun D => sObj "set" D) fun _ => And.left
/-- the new set, as the model makes it -/
def emptyS (w : World) : Obj := sObj "set" (#[], 0, .fresh 0 0 (!w.params.followText "set-order"))
theorem TxS.new (k : h.get? a = some (emptyS w)) : TxS P w h a [] := by
  refine ⟨_, k, PySem.Froz.TxOk.nil rfl, List.nodup_nil, List.Pairwise.nil, ?_⟩
  show _ ∨ (!w.params.followText "set-order") = true
  cases w.params.followText "set-order" <;> simp
end
section
variable {P : Program} {w : World} {A : Around} {E : Value → Shared → Prop} {s : Shared} {a : Addr} {l : List Str}
/-- a text that is in it already -/
theorem add_old {D : SD} {k : Str} {u : Tok} {Q : Bool → Shared → Prop} (at_ : s.heap.get? a = some (sObj "set" D)) (F : TxOk P w D l) (hk : k ∈ l) (few : l.length < scanBound) (q : Q false s) : wpAny (model P w) A (setAddHashed a (.str k u) (hashStr w k)) Q E s := by
  obtain ⟨es, ep, t⟩ := D
  have few' : es.size < scanBound := by rw [show es.size = l.length from F.sz]; exact few
  unfold setAddHashed setAddHashedIn
  apply wpAny_holding
  apply wpAny_bind
  refine wpAny_setState_of at_ rfl F.fit ?_
  dsimp only
  rw [byScan_of (knd := strKind P w) rfl few' F.el]
  unfold setAddByScan
  simp only [if_true]
  apply wpAny_bind
  apply wpAny_bind
  apply wpAny_rule
  apply wpAny_bind
  refine wpAny_setScan_of (knd := strKind P w) (k := k) (is_str k u) at_ rfl F.fit F.el ?_
  rcases met : List.findIdx? (fun e => (strKind P w).is k e.2) es.toList with _ | j
  · obtain ⟨e, he, z⟩ := (F.mem k).mp hk
    have no := List.findIdx?_eq_none_iff.mp met e he
    rw [z] at no
    cases no
  · rw [met]
    exact wpAny_pure (wpAny_pure q)
theorem add_any {k : Str} {u : Tok} {Q : Bool → Shared → Prop} (R : TxS P w s.heap a l) (few : l.length + 1 < scanBound) (q : ∀ (b : Bool) h', Heap.SameBut a s.heap h' → TxS P w h' a (stS l k) → Q b { s with heap := h' }) :
    wpAny (model P w) A (setAddHashed a (.str k u) (hashStr w k)) Q E s := by
  by_cases hk : k ∈ l
  · obtain ⟨D, at_, F, _⟩ := id R
    refine add_old at_ F hk (Nat.lt_of_succ_lt few) ?_
    have z := q false s.heap (Heap.SameBut.refl a s.heap)
    rw [stS_old hk] at z
    exact z R
  · obtain ⟨D, at_, F, nd, told⟩ := R
    refine add_x at_ F hk few (q true _ (Heap.SameBut.update ..) ?_)
    have nd' := stS_nodup nd k
    rw [stS_new hk] at nd' ⊢
    exact ⟨_, PySem.Froz.get_upd _ at_ rfl, TxOk.reorder (add_ok u F) (List.perm_append_singleton k l), nd', told.add _ _⟩
/-- the model's way to put one in -/
theorem put_in {k : Str} {u : Tok} {Q : Bool → Shared → Prop} (R : TxS P w s.heap a l) (few : l.length + 1 < scanBound) (q : ∀ (b : Bool) h', Heap.SameBut a s.heap h' → TxS P w h' a (stS l k) → Q b { s with heap := h', toks := s.toks + 1 }) :
    wpAny (model P w) A (setAdd a (.str k u)) Q E s := by
  unfold setAdd
  apply wpAny_holding
  apply wpAny_bind
  refine (strKind P w).pyHash (k := k) (is_str k u) ?_
  exact add_any (s := { s with toks := s.toks + 1 }) R few q
end
section
variable {P : Program} {w : World} {A : Around} {I : Addr} {fp wr : List Addr} {n : Nat} {Pv : Nat → Value → Prop} {St : Nat → Heap → Prop}
/-- the loop that fills it: done lies in it, rest is to come -/
theorem fill_loop (W : Walks P w A.in1 I fp wr n Pv St) {a : Addr} (out : a ∉ fp) {xs : List Str} (len : xs.length = n) (few : n + 1 < scanBound) (are : ∀ i v, Pv i v → ∃ c u, xs[i]? = some c ∧ v = .str c u) {R : Result → Shared → Prop} :
    ∀ (rest done : List Str) (s : Shared), done ++ rest = xs → St done.length s.heap → TxS P w s.heap a (ddS done) →
      (∀ h' tk, (∀ b o, b ≠ a → b ∉ wr → s.heap.get? b = some o → h'.get? b = some o) → TxS P w h' a (ddS xs) → R (.ok (.ret .none)) { s with heap := h', toks := tk }) →
      codeAny (model P w) A (.builtin "set.update.loop" ⟨[.ref a, .ref I], []⟩) R s := by
  intro rest
  have offW : ∀ {b}, b ∉ fp → b ∉ wr := fun h z => h (W.sub _ z)
  induction rest with
  | nil =>
    intro done s all st R1 fin
    rw [List.append_nil] at all
    subst all
    refine codeAny_builtin PyProof.Rows.F.entry_set_update_loop ?_
    rw [Around.under_plainId PyProof.Rows.F.plain_set_update_loop _]
    apply wpAny_bind
    rw [len] at st
    refine W.done s _ _ st fun h' tk keep => ?_
    exact wpAny_pure (fin h' tk (fun b o _ hb e => keep b o hb e) (R1.keep fun o e => keep a o (offW out) e))
  | cons c rest ih =>
    intro done s all st R1 fin
    have here : xs[done.length]? = some c := by rw [← all, List.getElem?_append_right (Nat.le_refl _), Nat.sub_self]; rfl
    have lt : done.length < n := by rw [← len]; exact (List.getElem?_eq_some_iff.mp here).1
    refine codeAny_builtin PyProof.Rows.F.entry_set_update_loop ?_
    rw [Around.under_plainId PyProof.Rows.F.plain_set_update_loop _]
    apply wpAny_bind
    refine W.item done.length s _ _ lt st fun v h1 tk1 pv st1 keep => ?_
    obtain ⟨c', u, at_, rfl⟩ := are _ _ pv
    obtain rfl : c = c' := Option.some.inj (here.symm.trans at_)
    have size : (ddS done).length ≤ 0 + done.length := ddS_le done []
    refine wpAny_bind (wpAny_holding (put_in (s := { s with heap := h1, toks := tk1 }) (R1.keep fun o e => keep a o (offW out) e) (by omega) fun _ h2 same R2 => ?_))
    rw [← ddS_snoc] at R2
    refine wpAny_pure ⟨plainId_quiet PyProof.Rows.F.plain_set_update_loop _, ih (done ++ [c]) _ (by rw [List.append_assoc]; exact all) ?_ R2 fun h3 tk3 keep3 R3 => ?_⟩
    · rw [List.length_append]
      exact W.frame _ h1 h2 st1 fun b hb o e => (same.2 b fun z => out (z ▸ hb)).trans e
    · exact fin h3 tk3 (fun b o nb hb e => keep3 b o nb hb ((same.2 b nb).trans (keep b o hb e))) R3
end
section
variable {P : Program} {w : World} {A : Around} {E : Value → Shared → Prop} {s : Shared}
theorem code_wants {c : Code} {Q1 : Value → Shared → Prop} (h : codeAny (model P w) A c (wants Q1 E) s) {R : Result → Shared → Prop} (ok : ∀ v t, Q1 v t → R (.ok (.ret v)) t) (bad : ∀ e t, E e t → R (.error e) t) : codeAny (model P w) A c R s :=
  codeAny_mono h fun r t q => match r, q with
    | .ok (.ret v), q => ok v t q
    | .error e, q => bad e t q
/-- set(x) is to make a new one and to fill it out of x -/
theorem set_made {x : Value} {Q : Value → Shared → Prop}
    (fill : ∀ B : Around, B.handled = A.handled → wpAny (model P w) B (Builtin.Frozenset.updateFrom "set.__init__" s.heap.objs.size x) (fun _ t => Q (.ref s.heap.objs.size) t) E { s with heap := s.heap.push (emptyS w) }) :
    wpAny (model P w) A (call (.type "set") [x]) Q E s := by
  have made := PySem.F.called_set.made
  have sub := PySem.F.called_set.sub
  have notType := PySem.F.called_set.notType
  have can := PySem.F.called_set.canCreate
  have args := PySem.F.typeCall_set_1 x
  have ⟨_, _, order⟩ := PySem.F.called_set.mro
  have new0 : (s.heap.push (emptyS w)).get? s.heap.objs.size = some (emptyS w) := Heap.get?_push_size _ rfl
  have isSet : Shared.TypeIs { s with heap := s.heap.push (emptyS w) } (.ref s.heap.objs.size) "set" := ⟨_, new0, rfl⟩
  apply wpAny_call
  apply codeAny_of_tree
  show wpAny _ _ (callAny (.type "set") _) _ _ _
  refine wpAny_pure ⟨Code.quiet_builtin _ (by decide +kernel), codeAny_builtin PySem.F.entry_type_call ?_⟩
  rw [Around.under_plain (weight_type_call_type "set" [x] []) rfl]
  repeat (any_goals (first | assumption | wp_step))
  refine code_wants (code_set_led1 x (E := E) (Q₁ := fun v t => v = .ref s.heap.objs.size ∧ t = { s with heap := s.heap.push (emptyS w) }) ⟨rfl, rfl⟩) (fun v t ⟨e1, e2⟩ => ?_) fun _ _ => id
  subst e1 e2
  have look := PySem.F.called_set.init.lookup
  have bound := PySem.F.called_set.init.bind (.ref s.heap.objs.size)
  repeat (any_goals (first | assumption | wp_step))
  refine code_wants (codeAny_call_builtin (R := wants (fun v t => v = .none ∧ Q (.ref s.heap.objs.size) t) E) PySem.F.called_set.init.plain PySem.F.entry_set_init (check_set_init_1 isSet ?_)) (fun v t ⟨e, q⟩ => ?_) fun _ _ => id
  · unfold Builtin.«set.__init__» noKeywords
    have f := fill A.in1.in1 (by simp)
    generalize Builtin.Frozenset.updateFrom = up at f ⊢
    wp_walk
    exact wpAny_mono f (fun _ t q => wpAny_pure ⟨rfl, q⟩) fun _ _ => id
  · subst e
    repeat (any_goals (first | assumption | wp_step))
/-- what is no set and no dict is walked -/
theorem walked {T : String} {a l : Addr} {Q : Unit → Shared → Prop} (is : s.TypeIs (.ref l) T) (no1 : isSubtype (.type T) (.type "set") = pure false) (no2 : isSubtype (.type T) (.type "frozenset") = pure false) (no3 : (Value.type T == .type "dict") = false)
    (h : wpAny (model P w) A (pyIter (.ref l)) (fun it t => codeAny (model P w) A (.builtin "set.update.loop" ⟨[.ref a, it], []⟩) (wants (fun _ t => Q () t) E) t) E s) : wpAny (model P w) A (Builtin.Frozenset.updateFrom "set.__init__" a (.ref l)) Q E s := by
  unfold Builtin.Frozenset.updateFrom
  generalize pyIter = it at h ⊢
  wp_walk
  refine wpAny_mono h (fun v t q => ?_) fun _ _ => id
  exact wpAny_bind (wpAny_runValue (code_wants q (fun _ _ q => wpAny_pure q) fun _ _ => id))
/-- set(texts), of what is walked by an iterator o -/
theorem set_filled {T : String} {l : Addr} {o : Obj} {xs : List Str} {fp : List Addr} {Pv : Nat → Value → Prop} {St : Nat → Heap → Prop} {Q : Value → Shared → Prop} (hh : A.handled = none) (no1 : isSubtype (.type T) (.type "set") = pure false) (no2 : isSubtype (.type T) (.type "frozenset") = pure false) (no3 : (Value.type T == .type "dict") = false)
    (is : s.TypeIs (.ref l) T) (iter : ∀ (B : Around) (Q' : Value → Shared → Prop), Q' (.ref (s.heap.objs.size + 1)) { s with heap := (s.heap.push (emptyS w)).push o } → wpAny (model P w) B (pyIter (.ref l)) Q' E { s with heap := s.heap.push (emptyS w) })
    (walk : ∀ B : Around, B.handled = none → Walks P w B (s.heap.objs.size + 1) fp [s.heap.objs.size + 1] xs.length Pv St) (st : St 0 ((s.heap.push (emptyS w)).push o)) (out : s.heap.objs.size ∉ fp) (few : xs.length + 1 < scanBound)
    (are : ∀ i v, Pv i v → ∃ c u, xs[i]? = some c ∧ v = .str c u) (q : ∀ h' tk, (∀ b u, s.heap.get? b = some u → h'.get? b = some u) → TxS P w h' s.heap.objs.size (ddS xs) → Q (.ref s.heap.objs.size) { s with heap := h', toks := tk }) :
    wpAny (model P w) A (call (.type "set") [.ref l]) Q E s := by
  refine set_made fun B hB => walked (T := T) ?_ no1 no2 no3 (iter B _ ?_)
  · obtain ⟨ob, at_, cl⟩ := is
    exact ⟨ob, Heap.get?_push_of_some _ at_, cl⟩
  · refine fill_loop (walk B.in1 (by simp [hB, hh])) out rfl few are xs [] _ rfl st (TxS.new ?_) fun h' tk keep R => ?_
    · exact Heap.get?_push_of_some _ (Heap.get?_push_size _ rfl)
    · refine q h' tk (fun b u e => keep b u ?_ ?_ (Heap.get?_push_of_some _ (Heap.get?_push_of_some _ e))) R
      · exact Nat.ne_of_lt (Heap.lt_size e)
      · rw [List.mem_singleton]
        exact Nat.ne_of_lt (Nat.lt_succ_of_lt (Heap.lt_size e))
theorem text_at {its : Array Value} {xs : List Str} (are : StrsAre its.toList xs) {i : Nat} {v : Value} (e : its[i]? = some v) : ∃ c u, xs[i]? = some c ∧ v = .str c u := by
  rw [← Array.getElem?_toList] at e
  generalize its.toList = vs at are e
  induction are generalizing i with
  | nil => cases e
  | cons c u _ ih =>
    rcases i with _ | i
    · cases e; exact ⟨c, u, rfl, rfl⟩
    · exact ih e
theorem set_list {l : Addr} {its : Array Value} {xs : List Str} {Q : Value → Shared → Prop} (hh : A.handled = none) (is : s.heap.IsList l its) (are : StrsAre its.toList xs) (few : xs.length + 1 < scanBound)
    (q : ∀ h' tk, (∀ b u, s.heap.get? b = some u → h'.get? b = some u) → TxS P w h' s.heap.objs.size (ddS xs) → Q (.ref s.heap.objs.size) { s with heap := h', toks := tk }) : wpAny (model P w) A (call (.type "set") [.ref l]) Q E s := by
  have size : xs.length = its.size := (StrsAre.len_eq are).symm.trans Array.length_toList
  have lt : l < s.heap.objs.size := let ⟨_, at_, _⟩ := is; Heap.lt_size at_
  have one : (s.heap.push (emptyS w)).objs.size = s.heap.objs.size + 1 := Heap.size_push ..
  have is1 : (s.heap.push (emptyS w)).IsList l its := is.push _
  refine set_filled (T := "list") (o := { cls := .type "list_iterator", data := .fields #[.ref l, .int 0 0] }) hh PySem.F.sub_list_set PySem.F.sub_list_frozenset (by decide) is.typeIs (fun B Q' q' => ?_) (fun B hB => size ▸ Walks.list hB _ l (Nat.ne_of_lt (Nat.lt_succ_of_lt lt)) its) ?_ ?_ few (fun i v => text_at are) q
  · refine wpAny_pyIter_list is1 ?_
    rw [one]
    exact q'
  · refine ⟨⟨_, (?_ : Heap.get? _ _ = some { cls := .type "list_iterator", data := .fields #[.ref l, .int 0 0] }), rfl, rfl⟩, is1.push _⟩
    show Heap.get? _ (s.heap.objs.size + 1) = _
    rw [← one]
    exact Heap.get?_push_size _ rfl
  · rw [List.mem_cons, List.mem_singleton, not_or]
    exact ⟨Nat.ne_of_lt (Nat.lt_succ_self _), Nat.ne_of_gt lt⟩
end
end KnS
namespace Kn
open PySem PySem.Spec PyProof.Rows
open L2 hiding St
open KnS
end Kn
namespace Kn
open PySem PySem.Spec PyProof.Rows
open L2 hiding St
end Kn
namespace KnX
open PySem PySem.Spec PyProof.Rows L2
end KnX
namespace Kn
open PySem PySem.Spec PyProof.Rows KnX
open L2 hiding St
end Kn
namespace Kn
open PySem PySem.Spec PyProof.Rows
open L2 hiding St
theorem of_someD {K : PySem.W.Frag} {G : Hp} : ∀ {vs : List (Option V)} {ds : List Dat}, Paired (OpOk K G) vs (ds.map fun d => some (.dat d)) → ∃ ws : List V, vs = ws.map some ∧ RpA K G ws ds
  | _, [], h => by cases h; exact ⟨[], rfl, .nil⟩
  | _, d :: ds, h => by
    cases h with
    | cons h t =>
      rename_i a _
      obtain ⟨ws, rfl, h2⟩ := of_someD t
      cases a with
      | none => exact h.elim
      | some v => exact ⟨v :: ws, rfl, .cons h h2⟩
theorem OwnOk.slt {K : PySem.W.Frag} {O : Own} {H : Hp} {p C dx : Addr} {ds : List Dat} (h : OwnOk K O H) (hp : O p = some (.slt C dx (ds.map fun d => some (.dat d)))) : Rp K (hid (dn O p) H) (.ref p) (.slo C ds) := by
  obtain ⟨o, h1, h2, h3, vs, rfl, h4⟩ := h.cell p _ hp
  obtain ⟨ws, rfl, h5⟩ := of_someD (pmap (fun _ _ q => OpOk.mono hid_dn q) h4)
  exact .slo (by rw [hid_none dn_at]; exact h1) (hid_dn _ _ h2) h3 h5
end Kn
namespace Kn
open PySem PySem.Spec PyProof.Rows
open L2 hiding St
end Kn
namespace KnS
open PySem PySem.Spec PyProof.Rows L2
open PySem.Froz (SD sObj TxOk)
open Kn (stS ddS)
theorem TxS.any {P P' : Program} {w : World} {h : Heap} {a : Addr} {l : List Str} (R : TxS P w h a l) : TxS P' w h a l := R.imp fun _ ⟨e, F, r⟩ => ⟨e, ⟨F.el, F.mem, F.sz, F.fit⟩, r⟩
end KnS
namespace Kn
open PySem PySem.Spec PyProof.Rows
open L2 hiding St
open KnS
end Kn
namespace Kn
open PySem PySem.Spec PyProof.Rows
open L2 hiding St
section
variable {X : Cx} {O : Own} {ρ : List Slot} {x : ExK} {k k' : Slot → Own → Prop} {kl kl' : List Slot → Own → Prop} {e a b c o : Expr} {es : List Expr} {pos p p1 p2 apos pos2 : Pos} {D : SD} {g g' : Bool} {j n : Nat} {S : SpecT} {df : List Dat} {m f : Str} {s1 s2 s : Slot}
/-- f is a property of the class at C, its getter with the contract -/
def PrC (P : Program) (w : World) (K : PySem.W.Frag) (mg : Str → Option Value) (base : Heap) (k : Nat) (C : Addr) (f : Str) (S : SpecT) : Prop :=
  ∃ (p g : Addr) (fd : FuncData) (ps : List Str), PropOf K C f p g ∧ Fn P w K mg base false k g fd ps S ∧ Binds K fd ps []
/-- a method's def alone -/
theorem MCal.bare {P : Program} {w : World} {K : PySem.W.Frag} {mg : Str → Option Value} {base : Heap} {C : Addr} (mc : MCal P w K mg base false n C m S []) :
    ∃ (f : Addr) (fd : FuncData) (ps : List Str), PySem.W.findIn K (.ref C) m = some (some (.ref f)) ∧ PySem.W.isFn K (.ref f) = true ∧ Fn P w K mg base false n f fd ps S ∧ Binds K fd ps [] := by
  obtain ⟨f, fd, ps, ds, dvs, hm, F, hb, hd, hdf⟩ := mc
  have e := hdf (fun _ => none)
  cases e
  cases hd
  exact ⟨f, fd, ps, hm.at_, hm.fn, F, hb⟩
end
/-- what the written part holds of a property -/
structure PropIn (K : PySem.W.Frag) (C : Addr) (m qual : Str) (st : Stmt) : Prop where
  ex : ∃ (p g : Addr) (fd : FuncData), PropOf K C m p g ∧ L2.Fun K m qual st g fd
theorem prc_of {P : Program} {w : World} {K : PySem.W.Frag} {mg : Str → Option Value} {base : Heap} {k : Nat} {C : Addr} {m qual : Str} {st : Stmt} {ps : List Str} {S : SpecT} (D : PropIn K C m qual st) (b : MBindsAs m qual st ps)
    (h : ∀ f fd, L2.Fun K m qual st f fd → Fn P w K mg base false k f fd ps S) : PrC P w K mg base k C m S := by
  obtain ⟨p, g, fd, hp, F⟩ := D.ex
  exact ⟨p, g, fd, ps, hp, h g fd F, mbinds F b⟩
end Kn
namespace Kn
open PySem PySem.Spec PyProof.Rows
open L2 hiding St
section
variable {X : Cx} {O : Own} {ρ : List Slot} {x : ExK} {k k' : Slot → Own → Prop} {a b c e tg iter tg1 iter1 : Expr} {es : List Expr} {pos p0 : Pos} {D : SD}
/-- what a comprehension with two fors asks; J, J1: the invariants of the outer and of the inner walk -/
def Lc2W (X : Cx) (O : Own) (ρ : List Slot) (scope : Scope) (vs vs1 : List Nat) (T T1 : Dat → List Slot → List Slot → Prop) (tg iter tg1 iter1 elt : Expr) (x : ExK) (k : Slot → Own → Prop) : Prop :=
  IW X O ρ tg iter x fun ds O1 => ∃ J : Nat → List Slot → Own → Prop, J 0 [] O1 ∧
    (∀ i d acc O', J i acc O' → ds[i]? = some d → ∃ ρ', T d (wipeS ρ vs) ρ' ∧ ∀ Dd, O' Dd = none → ∀ Y, Blk X scope Y → IW Y (up O' Dd (.lst acc)) ρ' tg1 iter1 noX fun es O2 =>
      ∃ (J1 : Nat → List Slot → Own → Prop) (O3 : Own), O2 = up O3 Dd (.lst acc) ∧ O3 Dd = none ∧ J1 0 acc O3 ∧
        (∀ j e acc1 O4, J1 j acc1 O4 → es[j]? = some e → ∃ ρ'', T1 e (wipeS ρ' vs1) ρ'' ∧ acc1.length < sizeLine ∧ (O4 Dd = none → ∀ Z, Blk X scope Z → EW Z (up O4 Dd (.lst acc1)) ρ'' elt noX fun s O5 => ∃ O6, O5 = up O6 Dd (.lst acc1) ∧ O6 Dd = none ∧ J1 (j + 1) (acc1 ++ [s]) O6)) ∧
        ∀ acc1 O4, J1 es.length acc1 O4 → J (i + 1) acc1 O4) ∧
    ∀ acc O', J ds.length acc O' → ∀ p, O' p = none → k (.own p) (up O' p (.lst acc))
theorem tlc2J_of {elt : Expr} {scope : Scope} {vs vs1 : List Nat} {T T1 : Dat → List Slot → List Slot → Prop} {g g1 : TG}
    (hg : ∀ {H0 H : Hp} {O : Own} {σ : SV} {ρ ρ' : List Slot} {v : V} {d : Dat} {Q : SV → Hp → Prop}, StOk X.K H0 O (wipe σ vs) ρ H → Rp X.K (hid O H) v d → T d ρ ρ' → (∀ σ', StOk X.K H0 O σ' ρ' H → wipe σ' vs = wipe σ vs → Q σ' H) → g v (wipe σ vs) H Q)
    (hg1 : ∀ {H0 H : Hp} {O : Own} {σ : SV} {ρ ρ' : List Slot} {v : V} {d : Dat} {Q : SV → Hp → Prop}, StOk X.K H0 O (wipe σ vs1) ρ H → Rp X.K (hid O H) v d → T1 d ρ ρ' → (∀ σ', StOk X.K H0 O σ' ρ' H → wipe σ' vs1 = wipe σ vs1 → Q σ' H) → g1 v (wipe σ vs1) H Q)
    (h : Lc2W X O ρ scope vs vs1 T T1 tg iter tg1 iter1 elt x k) {H0 : Hp} {σ : SV} {H : Hp} {Q : VK} (st : StOk X.K H0 O σ ρ H) (tk : Takes X (Wsem X.K H0 x))
    (q : ∀ v H' s O', k s O' → StOk X.K H0 O' σ ρ H' → SlOk X.K (hid O' H') v s → Q v H') :
    tLc2 (Wi X tg iter) g (fun σ H Q => Q true H) (fun σ H R => ∀ Y, Blk X scope Y → Wi Y tg1 iter1 σ H R) g1 (fun σ H Q => Q true H) (fun σ H Q => ∀ Y, Blk X scope Y → We Y elt σ H Q) vs vs1 σ H Q := by
  refine h H0 σ H st tk _ fun J0 H1 ds O1 ⟨J, j0, js, je⟩ st1 it => ?_
  intro Dd hD
  have hOD : O1 Dd = none := own_free st1.own hD
  have gS : Same (hid O1 H1) (hid (up O1 Dd (.lst [])) (upd H1 Dd (.lst []))) := fun b o hb => by
    obtain ⟨z1, z2⟩ := of_hid hb
    have nb := ne_of_none z2 hD
    rw [hid_none (by rw [up_ne nb]; exact z1), upd_ne nb]
    exact z2
  refine ⟨fun i m H' => i + m = ds.length ∧ ∃ acc O', J i acc O' ∧ O' Dd = none ∧ StOk X.K (hid O1 H1) (up O' Dd (.lst acc)) σ ρ H',
    ⟨ds.length, by omega, [], O1, j0, hOD, ⟨?_, gS, pmap (fun _ _ z => EnvOk.mono gS z) st1.env⟩⟩, fun i m H' hW => ?_⟩
  · exact (st1.alloc (o := .lst []) (c := .lst []) hD ⟨[], rfl, .nil⟩).own
  obtain ⟨em, acc, O', hj, nD, st'⟩ := hW
  obtain ⟨i1, i2⟩ := it _ H' st'.own st'.base i
  cases hd : ds[i]? with
  | none =>
    have hi : ds.length ≤ i := List.getElem?_eq_none_iff.mp hd
    have ei : i = ds.length := by omega
    subst ei
    exact .inl ⟨i2 hd, q _ H' _ _ (je acc O' hj Dd nD) (st'.rebase st1.base) rfl⟩
  | some d =>
    have hi : i < ds.length := (List.getElem?_eq_some_iff.mp hd).1
    obtain ⟨g2, g3⟩ := i1 d hd
    obtain ⟨ρ', ht, hb⟩ := js i d acc O' hj hd
    have hb := hb Dd nD
    refine .inr ⟨g2, fun H'' => ∃ acc2 O2, J (i + 1) acc2 O2 ∧ O2 Dd = none ∧ StOk X.K (hid O1 H1) (up O2 Dd (.lst acc2)) σ ρ H'', fun H'' hN => ⟨m - 1, by omega, by omega, hN⟩, fun v H2 hy => ?_⟩
    obtain ⟨s1, r1⟩ := g3 v H2 hy
    have st2 := st'.grow s1
    refine hg (σ := σ) (st2.wipe vs) r1 ht fun σ' st3 hw => ⟨hw, iteT fun Y hY => ?_⟩
    obtain ⟨sY, HY, CY, clY, fpY, eY⟩ := id hY
    have eK : Y.K = X.K := by rw [eY]
    have st3Y : StOk Y.K (hid O1 H1) (up O' Dd (.lst acc)) σ' ρ' H2 := by rw [eK]; exact st3
    refine hb Y hY (hid O1 H1) σ' H2 st3Y takes_no _ fun J1t H4 es O2 ⟨J1, O3, eO2, n3, j10, j1s, j1e⟩ st4 it1 => ?_
    rw [eK] at st4 it1
    subst eO2
    -- the inner walk
    refine ⟨fun j m1 H' => j + m1 = es.length ∧ ∃ acc1 O4, J1 j acc1 O4 ∧ O4 Dd = none ∧ StOk X.K (hid (up O3 Dd (.lst acc)) H4) (up O4 Dd (.lst acc1)) σ' ρ' H' ∧ StOk X.K (hid O1 H1) (up O4 Dd (.lst acc1)) σ' ρ' H',
      ⟨es.length, by omega, acc, O3, j10, n3, st4.top, st4⟩, fun j m1 H5 hW1 => ?_⟩
    obtain ⟨em1, acc1, O4, hj1, n4, st5, st5b⟩ := hW1
    obtain ⟨k1, k2⟩ := it1 _ H5 st5.own st5.base j
    cases he : es[j]? with
    | none =>
      have hjl : es.length ≤ j := List.getElem?_eq_none_iff.mp he
      have ej : j = es.length := by omega
      subst ej
      exact .inl ⟨k2 he, acc1, O4, j1e acc1 O4 hj1, n4, st5b.own, st5b.base, pmap (fun _ _ z => EnvOk.mono st5b.base z) st1.env⟩
    | some e =>
      have hjl : j < es.length := (List.getElem?_eq_some_iff.mp he).1
      obtain ⟨k3, k4⟩ := k1 e he
      obtain ⟨ρ'', ht1, hlen, hb1⟩ := j1s j e acc1 O4 hj1 he
      refine .inr ⟨k3, fun H'' => ∃ acc2 O5, J1 (j + 1) acc2 O5 ∧ O5 Dd = none ∧ StOk X.K (hid (up O3 Dd (.lst acc)) H4) (up O5 Dd (.lst acc2)) σ' ρ' H'' ∧ StOk X.K (hid O1 H1) (up O5 Dd (.lst acc2)) σ' ρ' H'', fun H'' hN => ⟨m1 - 1, by omega, by omega, hN⟩, fun v1 H6 hy1 => ?_⟩
      obtain ⟨s2, r2⟩ := k4 v1 H6 hy1
      have st6 := st5b.grow s2
      have st6a := st5.grow s2
      refine hg1 (σ := σ') (st6.wipe vs1) r2 ht1 fun σ3 st7 hw1 => ⟨hw1, iteT fun Z hZ => ?_⟩
      obtain ⟨sZ, HZ, CZ, clZ, fpZ, eZ⟩ := id hZ
      have eKZ : Z.K = X.K := by rw [eZ]
      have st7Z : StOk Z.K (hid (up O4 Dd (.lst acc1)) H6) (up O4 Dd (.lst acc1)) σ3 ρ'' H6 := by rw [eKZ]; exact st7.top
      refine hb1 n4 Z hZ _ σ3 H6 st7Z takes_no _ fun u H8 s8 O8 ⟨O6, e8, n6, j6⟩ st8 r8 => ?_
      subst e8
      rw [eKZ] at st8 r8
      obtain ⟨o9, c1, xs9, rfl, c2⟩ := st8.own.cell Dd _ up_at
      have lx : xs9.length = acc1.length := paired_len c2
      have st9 := st8.write (o := .lst (xs9 ++ [u])) (c := .lst (acc1 ++ [s8])) up_at ⟨_, rfl, paired_app c2 (.cons r8 .nil)⟩
      rw [up_up] at st9
      have ba : Same (hid (up O3 Dd (.lst acc)) H4) (hid (up O6 Dd (.lst (acc1 ++ [s8]))) (upd H8 Dd (.lst (xs9 ++ [u])))) := st6a.base.trans st9.base
      have bb : Same (hid O1 H1) (hid (up O6 Dd (.lst (acc1 ++ [s8]))) (upd H8 Dd (.lst (xs9 ++ [u])))) := st6.base.trans st9.base
      have ge : Paired (EnvOk X.K (hid (up O6 Dd (.lst (acc1 ++ [s8]))) (upd H8 Dd (.lst (xs9 ++ [u]))))) σ' ρ' := pmap (fun _ _ z => EnvOk.mono st9.base z) st6.env
      exact ⟨xs9, c1, by omega, acc1 ++ [s8], O6, j6, n6, ⟨st9.own, ba, ge⟩, ⟨st9.own, bb, ge⟩⟩
theorem ew_lc2J (own : List (Str × Nat)) {vs1 : List Nat} {elt : Expr} {scope : Scope} {T T1 : Dat → List Slot → List Slot → Prop} (hN : X.N.Nodup) (tg_ok : Tgt X scope (own.map (·.2)) tg T) (tg1_ok : Tgt X scope vs1 tg1 T1) (ok : BlkOk X.N X.env.scope scope own) (hv : ∀ i ∈ vs1, i ∈ own.map (·.2))
    (h : Lc2W X O ρ scope (own.map (·.2)) vs1 T T1 tg iter tg1 iter1 elt x k) (hc : X.calm = true := by rfl) (hs : ∀ x, foldedSetIterable iter X.env x = pure x := by intro _; rfl) (hs1 : ∀ env x, foldedSetIterable iter1 env x = pure x := by intro _ _; rfl) :
    EW X O ρ (.ListComp elt [⟨tg, iter, [], 0⟩, ⟨tg1, iter1, [], 0⟩] scope pos) x k := fun H0 σ H st tk Q q => by
  obtain ⟨g, a1, a2⟩ := tgt_run tg_ok
  obtain ⟨g1, b1, b2⟩ := tgt_run tg1_ok
  exact we_of (pe_lc2 (tt := fun σ H Q => Q true H) (tt1 := fun σ H Q => Q true H) hc hN pi_w ok hv (fun s H C cl fp => a1 _ ⟨s, H, C, cl, fp, rfl⟩) (fun s H C cl fp => pts_nil) (fun s H C cl fp => ⟨fun pins sh σ H5 R I hq => (hq _ ⟨s, H, C, cl, fp, rfl⟩).r pins sh I⟩)
    (fun s H C cl fp => b1 _ ⟨s, H, C, cl, fp, rfl⟩) (fun s H C cl fp => pts_nil) (fun s H C cl fp => ⟨fun pins sh σ H5 Q I hq => (hq _ ⟨s, H, C, cl, fp, rfl⟩).r pins sh I⟩) hs hs1) (tlc2J_of a2 b2 h st tk q)
/-- data alone: [r a b for a in l for b in its a] -/
theorem lc2_flat {α β : Type} (l : List α) (ι : α → Dat) (its : α → List β) (ι1 : β → Dat) (r : α → β → Dat) {vs vs1 : List Nat} {elt : Expr} {scope : Scope} {T T1 : Dat → List Slot → List Slot → Prop}
    (hi : IW X O ρ tg iter x fun ds' O1 => ds' = l.map ι ∧ O1 = O) (hz : (l.flatMap its).length ≤ sizeLine)
    (hb : ∀ d, d ∈ l → ∃ ρ', T (ι d) (wipeS ρ vs) ρ' ∧ (∀ O' Y, Blk X scope Y → IW Y O' ρ' tg1 iter1 noX fun es O2 => es = (its d).map ι1 ∧ O2 = O') ∧ ∀ e, e ∈ its d → ∃ ρ'', T1 (ι1 e) (wipeS ρ' vs1) ρ'' ∧ ∀ O' Y, Blk X scope Y → EV Y O' ρ'' elt noX (r d e))
    (h : ∀ p, O p = none → k (.own p) (up O p (.lst ((l.flatMap fun a => (its a).map (r a)).map .dat)))) : Lc2W X O ρ scope vs vs1 T T1 tg iter tg1 iter1 elt x k := by
  refine fun H0 σ H st tk R q => hi H0 σ H st tk R fun J H' ds' O1 ⟨e1, e2⟩ st' it => q J H' ds' O1 ?_ st' it
  subst e1 e2
  have hpre : ∀ i d, l[i]? = some d → l.take (i + 1) = l.take i ++ [d] := fun i d hd => by rw [List.take_add_one, hd]; rfl
  refine ⟨fun i acc O' => O' = O1 ∧ acc = ((l.take i).flatMap fun a => (its a).map (r a)).map .dat, ⟨rfl, rfl⟩, fun i d0 acc O' hj hd0 => ?_, fun acc O' hj p hp => ?_⟩
  · obtain ⟨rfl, rfl⟩ := hj
    rw [List.getElem?_map] at hd0
    obtain ⟨d, hd, rfl⟩ := Option.map_eq_some_iff.mp hd0
    obtain ⟨ρ', ht, hin, hel⟩ := hb d (List.mem_of_getElem? hd)
    refine ⟨ρ', ht, fun Dd nD Y hY => ?_⟩
    refine fun H0 σ H st tk R q => hin _ Y hY H0 σ H st tk R fun J H' es O2 ⟨e1, e2⟩ st' it => q J H' es O2 ?_ st' it
    subst e1 e2
    refine ⟨fun j acc1 O4 => O4 = O' ∧ acc1 = (((l.take i).flatMap fun a => (its a).map (r a)) ++ ((its d).take j).map (r d)).map .dat, O', rfl, nD, ⟨rfl, by simp⟩, fun j e0 acc1 O4 hj1 he0 => ?_, fun acc1 O4 hj1 => ?_⟩
    · obtain ⟨rfl, rfl⟩ := hj1
      rw [List.getElem?_map] at he0
      obtain ⟨e, he, rfl⟩ := Option.map_eq_some_iff.mp he0
      obtain ⟨ρ'', ht1, hev⟩ := hel e (List.mem_of_getElem? he)
      refine ⟨ρ'', ht1, ?_, fun n4 Z hZ => ?_⟩
      · have h1 : l = l.take i ++ d :: l.drop (i + 1) := by
          have hil := (List.getElem?_eq_some_iff.mp hd).1
          have := List.take_append_drop i l
          rw [List.drop_eq_getElem_cons hil] at this
          rw [(List.getElem?_eq_some_iff.mp hd).2] at this
          exact this.symm
        have hjl := (List.getElem?_eq_some_iff.mp he).1
        rw [h1, List.flatMap_append, List.flatMap_cons, List.length_append, List.length_append] at hz
        have h2 : ((l.take i).flatMap fun a => (its a).map (r a)).length = ((l.take i).flatMap its).length := by
          generalize l.take i = l'
          induction l' with
          | nil => rfl
          | cons z l' ih => rw [List.flatMap_cons, List.flatMap_cons, List.length_append, List.length_append, ih, List.length_map]
        rw [List.length_map, List.length_append, List.length_map, List.length_take, h2]
        omega
      · refine (hev _ Z hZ).mono fun s O3 ⟨e3, e4⟩ => ?_
        subst e3 e4
        refine ⟨O4, rfl, n4, rfl, ?_⟩
        rw [List.take_add_one, he]
        simp
    · obtain ⟨rfl, rfl⟩ := hj1
      refine ⟨rfl, ?_⟩
      rw [hpre i d hd, List.flatMap_append, List.length_map, List.take_length]
      simp
  · obtain ⟨rfl, rfl⟩ := hj
    rw [List.length_map, List.take_length]
    exact h p hp
end
end Kn
namespace Kn
open PySem PySem.Spec PyProof.Rows
open L2 hiding St
section
variable {X : Cx} {O : Own} {k : Slot → Own → Prop}
theorem op_timesL : OpR X (binaryOp .Mult) (fun v1 v2 H Q => ∃ z n, v1 = .str z ∧ v2 = .int n ∧ n < 100 ∧ -100 < n ∧ z.length ≤ 100000 ∧ Q (.str (timesS z n)) H) := by
  intro pins s σ H y z v u Q I rx ry h
  obtain ⟨zz, n, rfl, rfl, h1, h2, h3, q⟩ := h
  obtain ⟨t, rfl⟩ := rx
  obtain ⟨t', rfl⟩ := ry
  have hlen : zz.length * n.toNat ≤ 100000 * 100 := Nat.mul_le_mul h3 (by omega)
  have hT : Builtin.Str.tooLong (zz.length * n.toNat) = false := by
    unfold Builtin.Str.tooLong
    rw [sizeLine_eq]
    exact decide_eq_false (by omega)
  refine PySem.P.mul_str (by rw [decide_eq_false (by omega), decide_eq_false (by omega)]; rfl) (fun g1 g2 => ?_) (fun g1 g2 => hT) ?_
  · have e1 : (2 ^ 63 - 1 : Int) / n ≥ (2 ^ 63 - 1) / 100 := by
      have hn : 0 < n := by omega
      refine (Int.le_ediv_iff_mul_le hn).mpr (Int.le_trans (Int.mul_le_mul_of_nonneg_left (show n ≤ 100 by omega) (by decide)) (by decide))
    have e2 : (100000 : Int) ≤ (2 ^ 63 - 1) / 100 := by decide
    omega
  · by_cases g1 : n < 1
    · rw [if_pos g1]
      rw [show timesS zz n = Str.empty from if_pos g1] at q
      exact ⟨by decide, .str Str.empty, H, I.tok _, ⟨_, rfl⟩, q⟩
    · rw [if_neg g1]
      by_cases g2 : (n == 1 || zz.length == 0) = true
      · rw [if_pos g2]
        rw [show timesS zz n = zz by unfold timesS; rw [if_neg g1, if_pos g2]] at q
        exact ⟨.str zz, H, I, ⟨_, rfl⟩, q⟩
      · rw [if_neg g2]
        rw [show timesS zz n = ⟨(List.replicate n.toNat zz.cps).foldl (· ++ ·) #[]⟩ by unfold timesS; rw [if_neg g1, if_neg g2]] at q
        exact ⟨fits_reps hT, .str _, H, I.tok _, ⟨_, rfl⟩, q⟩
theorem ob_timesL {z : Str} {n : Int} (hn : n < 100 ∧ -100 < n) (hz : z.length ≤ 100000) (h : k (.dat (.str (timesS z n))) O) : OpB X (binaryOp .Mult) (.dat (.str z)) (.dat (.int n)) O k := ⟨_, op_timesL, fun H0 σ ρ H v1 v2 st r1 r2 Q q => by
  cases r1; cases r2; exact ⟨z, n, rfl, rfl, hn.1, hn.2, hz, q _ H _ O h st (.str _)⟩⟩
end
end Kn
namespace Kn
open PySem PySem.Spec PyProof.Rows
open L2 hiding St
theorem flF_app {K : PySem.W.Frag} {G : Hp} {n : Addr} {g : Str} : ∀ {d1 : List (Str × Dat)} {d2 : List (Str × Dat)} {fs : List (Str × V)}, Paired (FlOk K G) fs (d1.map (fun q => (q.1, Slot.dat q.2)) ++ (g, .own n) :: d2.map fun q => (q.1, Slot.dat q.2)) →
    ∃ f1 f2, fs = f1 ++ (g, .ref n) :: f2 ∧ RpF K G f1 d1 ∧ RpF K G f2 d2
  | [], d2, _, h => by
    cases h with
    | @cons a _ fs _ h t =>
      obtain ⟨g', v⟩ := a
      obtain ⟨e, r⟩ := h
      have e : g' = g := e
      have r : v = .ref n := r
      subst e r
      exact ⟨[], fs, rfl, .nil, RpF.of_paired t⟩
  | (f, d) :: d1, d2, _, h => by
    cases h with
    | @cons a _ fs _ h t =>
      obtain ⟨f', v⟩ := a
      obtain ⟨e, r⟩ := h
      have e : f' = f := e
      subst e
      obtain ⟨f1, f2, rfl, h1, h2⟩ := flF_app t
      exact ⟨(f', v) :: f1, f2, rfl, .cons r h1, h2⟩
theorem OwnOk.tre {K : PySem.W.Frag} {O : Own} {H : Hp} {p C dx n : Addr} {d1 d2 : List (Str × Dat)} {g : Str} {es : List Dat} (h : OwnOk K O H) (hp : O p = some (.ins C dx (d1.map (fun q => (q.1, Slot.dat q.2)) ++ (g, .own n) :: d2.map fun q => (q.1, Slot.dat q.2))))
    (hn : O n = some (.tpl (.own p :: es.map .dat))) : Rp K (hid (dn (dn O p) n) H) (.ref p) (.tre C d1 g es d2) := by
  have hne : n ≠ p := fun e => by rw [e, hp] at hn; cases hn
  obtain ⟨o, h1, fs, rfl, h2⟩ := h.cell p _ hp
  obtain ⟨o, h3, vs, rfl, h4⟩ := h.cell n _ hn
  have mono : Same (hid O H) (hid (dn (dn O p) n) H) := fun b u q => hid_dn _ _ (hid_dn _ _ q)
  obtain ⟨f1, f2, rfl, r1, r2⟩ := flF_app (pmap (fun _ _ q => ⟨q.1, SlOk.mono mono q.2⟩) h2)
  cases h4 with
  | @cons v _ vs _ h5 h6 =>
    have h5 : v = .ref p := h5
    subst h5
    refine .tre (n := n) (dx := dx) ?_ ?_ r1 r2 (RpA.of_paired (pmap (fun _ _ q => SlOk.mono mono q) h6))
    · rw [hid_none (by rw [dn_ne hne.symm]; exact dn_at)]; exact h1
    · rw [hid_none dn_at]; exact h3
theorem rpF_no {K : PySem.W.Frag} {G : Hp} {g : Str} : ∀ {fs : List (Str × V)} {ds : List (Str × Dat)}, RpF K G fs ds → ds.lookup g = none → fs.lookup g = none
  | _, _, .nil, _ => rfl
  | _, _, .cons (f := f) h t, e => by
    rw [List.lookup_cons] at e ⊢
    split at e
    · cases e
    · exact rpF_no t e
theorem lookup_mid {α : Type} {g : Str} {x : α} : ∀ {f1 f2 : List (Str × α)}, f1.lookup g = none → (f1 ++ (g, x) :: f2).lookup g = some x
  | [], f2, _ => by rw [List.nil_append, List.lookup_cons, beq_self_eq_true]
  | (y, z) :: f1, f2, h => by
    rw [List.cons_append, List.lookup_cons] at *
    split at h
    · cases h
    · exact lookup_mid h
section
variable {X : Cx} {O : Own} {ρ : List Slot} {x : ExK} {k : Slot → Own → Prop} {e o : Expr} {es : List Expr} {pos : Pos} {f : Str}
/-- an object that stands in a tuple of its own, as data -/
theorem ew_frzT (h : EW X O ρ e x fun s O' => ∃ p C dx n d1 g es d2, s = .own p ∧ O' p = some (.ins C dx (d1.map (fun q => (q.1, Slot.dat q.2)) ++ (g, .own n) :: d2.map fun q => (q.1, Slot.dat q.2))) ∧
    O' n = some (.tpl (.own p :: es.map .dat)) ∧ k (.dat (.tre C d1 g es d2)) (dn (dn O' p) n)) : EW X O ρ e x k := fun H0 σ H st tk Q q =>
  h H0 σ H st tk Q fun v H' s O' ⟨p, C, dx, n, d1, g, es, d2, e1, h1, h2, h3⟩ st' r => by
    subst e1
    obtain rfl : v = .ref p := r
    exact q _ H' _ _ h3 st'.freeze.freeze (st'.own.tre h1 h2)
/-- a tuple that may hold cells -/
theorem ew_tupO {x1} (h : AW X O ρ es x fun ss O' => ss.length ≤ sizeLine ∧ ∀ p, O' p = none → k (.own p) (up O' p (.tpl ss))) : EW X O ρ (.Tuple es x1 pos) x k := fun H0 σ H st tk Q q =>
  we_of (pe_tup pa_w) (h H0 σ H st tk _ fun vs H' ss O' ⟨hl, h2⟩ st' r => by
    refine ⟨by rw [paired_len r]; exact hl, fun p hp => ?_⟩
    have hO := own_free st'.own hp
    exact q _ _ (.own p) _ (h2 p hO) (st'.alloc hp ⟨_, rfl, r⟩) rfl)
/-- the field that holds the tuple -/
theorem ew_treN (h : EW X O ρ o x fun s O1 => ∃ C d1 es d2, s = .dat (.tre C d1 f es d2) ∧ Cls X.K C ∧ NoAttr X.K C f ∧ d1.lookup f = none ∧ k (.dat (.tup (.tre C d1 f es d2 :: es))) O1) (hb : attributeBase o f X.env (eval o X.env) = eval o X.env := by rfl) :
    EW X O ρ (.Attribute o f pos) x k := fun H0 σ H st tk Q q => by
  refine we_of (pe_fld pe_w hb) (h H0 σ H st tk _ fun v H1 s O1 hk st1 r1 => ?_)
  obtain ⟨C, d1, es, d2, rfl, c, na, hl, hk⟩ := hk
  have r0 : Rp X.K (hid O1 H1) v (.tre C d1 f es d2) := r1
  cases r1 with
  | @tre a _ dx n f1 f2 us _ _ _ _ h1 h2 h3 h4 h5 =>
    exact ⟨a, C, dx, _, .ref n, rfl, hid_le _ _ h1, c, na, lookup_mid (rpF_no h3 hl), q _ H1 _ O1 hk st1 (Rp.tup (.inl (.inl h2)) (.cons r0 h5))⟩
end
end Kn
namespace Kn
open PySem PySem.Spec PyProof.Rows
open L2 hiding St
end Kn
namespace KnX
open PySem PySem.Spec PyProof.Rows L2
end KnX
namespace Kn
open PySem PySem.Spec PyProof.Rows
open L2 hiding St
end Kn
namespace Kn
open PySem PySem.Spec PyProof.Rows
open L2 hiding St
section
variable {X : Cx} {O : Own} {ρ : List Slot} {x : ExK} {k : Slot → Own → Prop} {tg iter elt : Expr} {pos : Pos}
/-- what a comprehension that draws from the box at p wants -/
def Draws (X : Cx) (O : Own) (ρ : List Slot) (scope : Scope) (vs : List Nat) (T : Dat → List Slot → List Slot → Prop) (elt : Expr) (p : Addr) (isB : Cell → Prop) (good : Nat → Dat → Prop) (k : List Dat → Own → Prop) (ds : List Dat) (O1 : Own) : Prop :=
  ∃ b1, O1 = up O p b1 ∧ isB b1 ∧ ds.length ≤ sizeLine ∧ (∀ i d, ds[i]? = some d → ∃ ρ', T d (wipeS ρ vs) ρ' ∧ ∀ O' b', O' p = some b' → isB b' → ∀ Z, Blk X scope Z → EW Z O' ρ' elt noX fun s O3 => ∃ d' b'', s = .dat d' ∧ good i d' ∧ isB b'' ∧ O3 = up O' p b'') ∧
    ∀ (es : List Dat) b2, isB b2 → es.length = ds.length → (∀ i d', es[i]? = some d' → good i d') → k es (up O p b2)
end
end Kn
namespace Kn
open PySem PySem.Spec PyProof.Rows
open L2 hiding St
end Kn
namespace Kn
open PySem PySem.Spec PyProof.Rows
open L2 hiding St
end Kn
namespace Kn
open PySem PySem.Spec PyProof.Rows
open L2 hiding St
open PySem.W (EachIs AllAlike Sortable dataLe)
end Kn
namespace KnZp
open PySem PySem.W PySem.Calls PyProof.Rows PySem.Spec
/-- where the objects of a zip lie -/
structure Lie where
  z : Addr
  TI : Addr
  TO : Addr
  i1 : Addr
  i2 : Addr
  l1 : Addr
  l2 : Addr
/-- a zip of two lists at the place k -/
structure At (p : Lie) (xs ys : Array Value) (B : Addr) (k : Nat) (h : Heap) : Prop where
  apart : ZipApart p.z p.TI p.TO p.i1 p.i2 p.l1 p.l2
  low : p.z < B ∧ p.TI < B ∧ p.TO < B ∧ p.i1 < B ∧ p.i2 < B ∧ p.l1 < B ∧ p.l2 < B
  ti : IsPair h p.TI (.ref p.i1) (.ref p.i2)
  it1 : h.IsListIter p.i1 p.l1 k
  it2 : h.IsListIter p.i2 p.l2 k
  ls1 : h.IsList p.l1 xs
  ls2 : h.IsList p.l2 ys
  self : (IsZip h p.z p.TI p.TO .none ∧ ∃ a b, IsPair h p.TO a b) ∨ ∃ T f oT, IsZipHeld h p.z p.TI p.TO T f ∧ h.get? T = some oT ∧ B ≤ T
variable {prog : Program} {w : World} {A : Around} {E : Value → Shared → Prop} {s : Shared}
/-- what does not touch it leaves it -/
theorem At.keep {p : Lie} {xs ys : Array Value} {B S : Addr} {k : Nat} {h h' : Heap} (a : At p xs ys B k h) (hS : S ≠ p.z ∧ S ≠ p.TI ∧ S ≠ p.TO ∧ S ≠ p.i1 ∧ S ≠ p.i2 ∧ S ≠ p.l1 ∧ S ≠ p.l2 ∧ S < B)
    (e : ∀ c o, c ≠ S → h.get? c = some o → h'.get? c = some o) : At p xs ys B k h' := by
  obtain ⟨s1, s2, s3, s4, s5, s6, s7, s8⟩ := hS
  refine ⟨a.apart, a.low, e _ _ s2.symm a.ti, ?_, ?_, ?_, ?_, ?_⟩
  · exact let ⟨o, q, r⟩ := a.it1; ⟨o, e _ _ s4.symm q, r⟩
  · exact let ⟨o, q, r⟩ := a.it2; ⟨o, e _ _ s5.symm q, r⟩
  · exact let ⟨o, q, r⟩ := a.ls1; ⟨o, e _ _ s6.symm q, r⟩
  · exact let ⟨o, q, r⟩ := a.ls2; ⟨o, e _ _ s7.symm q, r⟩
  · rcases a.self with ⟨hz, u, v, hT⟩ | ⟨T, f, oT, hz, hT, hTB⟩
    · exact .inl ⟨e _ _ s1.symm hz, u, v, e _ _ s3.symm hT⟩
    · exact .inr ⟨T, f, oT, e _ _ s1.symm hz, e _ _ (Nat.ne_of_gt (Nat.lt_of_lt_of_le s8 hTB)) hT, hTB⟩
end KnZp
namespace KnZp
open PySem PySem.W PySem.Calls PyProof.Rows PySem.Spec
variable {prog : Program} {w : World} {A : Around} {E : Value → Shared → Prop} {s : Shared}
/-- a zip that nobody has asked yet -/
structure Fresh (p : Lie) (xs ys : Array Value) (h : Heap) : Prop where
  apart : ZipApart p.z p.TI p.TO p.i1 p.i2 p.l1 p.l2
  z : IsZip h p.z p.TI p.TO .none
  ti : IsPair h p.TI (.ref p.i1) (.ref p.i2)
  to : ∃ a b, IsPair h p.TO a b
  it1 : h.IsListIter p.i1 p.l1 0
  it2 : h.IsListIter p.i2 p.l2 0
  ls1 : h.IsList p.l1 xs
  ls2 : h.IsList p.l2 ys
theorem Fresh.at {p : Lie} {xs ys : Array Value} {h : Heap} (f : Fresh p xs ys h) {B : Addr} (hB : h.objs.size ≤ B) : At p xs ys B 0 h := by
  have lt : ∀ {b : Addr} {o : Obj}, h.get? b = some o → b < B := fun e => Nat.lt_of_lt_of_le (Heap.lt_size e) hB
  refine ⟨f.apart, ⟨lt f.z, lt f.ti, ?_, ?_, ?_, ?_, ?_⟩, f.ti, f.it1, f.it2, f.ls1, f.ls2, .inl ⟨f.z, f.to⟩⟩
  · obtain ⟨a, b, e⟩ := f.to; exact lt e
  · obtain ⟨o, e, _⟩ := f.it1; exact lt e
  · obtain ⟨o, e, _⟩ := f.it2; exact lt e
  · obtain ⟨o, e, _⟩ := f.ls1; exact lt e
  · obtain ⟨o, e, _⟩ := f.ls2; exact lt e
theorem Fresh.keep {p : Lie} {xs ys : Array Value} {h h' : Heap} (f : Fresh p xs ys h) {S : Addr} (hS : h.objs.size ≤ S) (e : ∀ c o, c ≠ S → h.get? c = some o → h'.get? c = some o) : Fresh p xs ys h' := by
  have k : ∀ {b : Addr} {o : Obj}, h.get? b = some o → h'.get? b = some o := fun q => e _ _ (Nat.ne_of_lt (Nat.lt_of_lt_of_le (Heap.lt_size q) hS)) q
  exact ⟨f.apart, k f.z, k f.ti, let ⟨a, b, q⟩ := f.to; ⟨a, b, k q⟩, let ⟨o, q, r⟩ := f.it1; ⟨o, k q, r⟩, let ⟨o, q, r⟩ := f.it2; ⟨o, k q, r⟩, let ⟨o, q, r⟩ := f.ls1; ⟨o, k q, r⟩, let ⟨o, q, r⟩ := f.ls2; ⟨o, k q, r⟩⟩
end KnZp
namespace Kn
open PySem PySem.Spec PyProof.Rows
open L2 hiding St
end Kn
namespace Kn
open PySem PySem.Spec PyProof.Rows
open L2 hiding St
end Kn
namespace Kn
open PySem PySem.Spec PyProof.Rows
open L2 hiding St
end Kn
namespace Kn
open PySem PySem.Spec PyProof.Rows
open L2 hiding St
open PySem.W (EachIs AllAlike Sortable dataLe sorted_data)
end Kn
namespace Kn
open PySem PySem.Spec PyProof.Rows
open L2 hiding St
theorem tuO_ok {P : Program} {w : World} {H : Hp} {h : Heap} {t p : Addr} (e : h.IsTupleIter p t 0) : ObjOk P w H h p (TuO t p) := ⟨e, ⟨_, e.choose_spec.1⟩, fun h1 h2 z kk => Heap.IsTupleIter.at z fun o e => kk o e⟩
section
variable {X : Cx} {O : Own} {k : Slot → Own → Prop}
/-- iter(a tuple) -/
theorem cb_iterT {ds : List Dat} (h : ∀ it, O it = none → X.s_0.heap.objs.size ≤ it → k (.own it) (up O it (.itr ds))) : CaB X (.builtin "iter") [.dat (.tup ds)] O k := by
  refine ⟨fun vs H Q => ∃ t xs, vs = [.ref t] ∧ SqT X.K H t xs ∧ ∀ it, H it = none → X.s_0.heap.objs.size ≤ it → Q (.ref it) (upd H it (TuO t it)), ?_, fun H0 σ ρ' H vs st pr Q q => ?_⟩
  · rintro pins s σ H vs us Q I rv ⟨t, xs, rfl, hs, q⟩
    rw [Vals.ref1 rv]
    obtain ⟨its, ri, pl, hz⟩ := I.tuple hs
    refine Calls.call_function_entry (by decide +kernel) (by decide +kernel) PySem.W.kdk_entry_iter (PySem.W.kdk_args_iter _) ?_
    unfold Builtin.«iter»
    refine wpAny_bind (m := someArgs "iter" 1 2 _) (wpAny_of_eq (a := [Value.ref t]) (by first | rfl | kernel_rfl!) ?_)
    show wpAny _ _ (pyIter (.ref t) >>= _) _ _ _
    refine wpAny_bind (wpAny_pyIter_tuple (show s.heap.IsTuple t its.toArray from pl) ?_)
    refine wpAny_pure ⟨_, rfl, ?_⟩
    have e : Heap.IsTupleIter (s.heap.push { cls := .type "tuple_iterator", data := .fields #[.ref t, .int 0 0] }) s.heap.objs.size t 0 := ⟨_, Heap.get?_push_size _ rfl, rfl, rfl⟩
    exact ⟨.ref s.heap.objs.size, _, I.laid (t' := s.toks) (fun b u e => Heap.get?_push_of_some _ e) (Nat.le_refl _) (tuO_ok e), rfl, q _ (I.hok.fresh (Nat.le_refl _)) I.sz⟩
  · cases pr with
    | cons r1 pr =>
      cases pr
      cases r1 with
      | tup h1 h2 =>
        refine ⟨_, _, rfl, sqt_mono hid_le h1, fun it hn hi => ?_⟩
        have ho := own_free st.own hn
        refine q _ _ _ _ (h it ho hi) (st.alloc hn ⟨_, _, rfl, h1, h2⟩) rfl
end
/-- a def's contract, which may look at how great the heap is when it is called -/
structure FnN (P : Program) (w : World) (K : PySem.W.Frag) (mg : Str → Option Value) (base : Heap) (k : Nat) (f : Addr) (fd : FuncData) (ps : List Str) (S : Nat → SpecT) : Prop where
  run : ∀ (A : Around) (outer : List Env) (s : Shared) (H : Hp) (args : Args) (us : List Value) (vs : List V) (Q : VK) (E : XK), Room k A → Env0 P w K mg base A outer s H → BindsTo s fd args (ps.zip us) → Vals vs us → spS K (S s.heap.objs.size) vs H Q E →
    codeAny (model P w) A (.call (.ref f) args) (CR (L2.CX P w) outer P w H s Q E) s
  len : ∀ n ss O R, S n ss O R → ss.length = ps.length
section
variable {P : Program} {w : World} {K : PySem.W.Frag} {mg : Str → Option Value} {base : Heap} {k : Nat} {f : Addr} {fd : FuncData} {ps : List Str} {S : Nat → SpecT}
theorem fnN_mk {x qual : Str} {st : Stmt} {N : List Str} (F : L2.Fun K x qual st f fd) (Sc : FnScope N ps (defScope st)) (len : ∀ n ss O R, S n ss O R → ss.length = ps.length)
    (body : ∀ (cdv : Value) (A : Around) (outer : List Env) (s : Shared) (H : Hp) (E : XK) (ss : List Slot) (O : Own) (R : Out → Own → Prop), RoomB false k (cxOf (L2.CX P w) P w K mg base N qual (defScope st) f cdv A outer s H E).A →
      PassesOwn (model P w) (cxOf (L2.CX P w) P w K mg base N qual (defScope st) f cdv A outer s H E).A (cxOf (L2.CX P w) P w K mg base N qual (defScope st) f cdv A outer s H E).env (cxOf (L2.CX P w) P w K mg base N qual (defScope st) f cdv A outer s H E).xe → S s.heap.objs.size ss O R →
      SW (cxOf (L2.CX P w) P w K mg base N qual (defScope st) f cdv A outer s H E) O (startS N ss) (defBody st) (fun e _ O' => R (.exc e) O') { nx := fun _ O' => R (.ret (.dat .non)) O', rt := fun z O' => R (.ret z) O' }) :
    FnN P w K mg base (k + 1) f fd ps S := by
  obtain ⟨oc, od, dV, kV, doc, pm, an, cdv, ct, osl, rfl, lk, hcd⟩ := funX_of F
  refine ⟨fun A outer s H args us vs Q E hr e0 hb r hsp => ?_, len⟩
  obtain ⟨O, ss, R, own, pr, hS, hret, herr⟩ := hsp
  have hl : vs.length = ps.length := (paired_len pr).trans (len _ _ _ _ hS)
  have KX : K.In s.heap := e0.mod.kin.keeps fun b o e => (e0.bs b o e).1
  have lim : s.heap.NoLimit := e0.mod.nolimit.keeps fun b o e => (e0.bs b o e).1
  have hkind : ∀ y ∈ ps.zip us, (defScope st).names.lookup y.1 = some .local ∨ ((defScope st).names.lookup y.1 = some .cell ∧ ((cellsFrom (s.heap.objs.size + 1) (defScope st).names []).lookup y.1).isSome = true) := fun y hy => by
    rcases Sc.par y.1 (List.of_mem_zip (show (y.1, y.2) ∈ ps.zip us from hy)).1 with q | q
    · exact .inl q
    · exact .inr ⟨q, PySem.W.cellsFrom_some _ _ _ (.inl q)⟩
  refine codeAny_call_function hr.depth (KX _ _ lk) rfl Sc.co Sc.gen rfl (PySem.W.codeRec_of KX hcd) (hb _ _ _ _ ?_)
  refine wpAny_newFunctionEnv_cells Sc.kind hkind fun env he s1 hin => ?_
  subst he
  refine ⟨lim.keeps hin.toInCall.keep, codeAny_func ?_⟩
  have I := inv_start (CX := L2.CX P w) (E := E) Sc hr.hd e0 hl r hin
  have hrD : RoomB false k (cxOf (L2.CX P w) P w K mg base N qual (defScope st) f cdv A outer s H E).A := roomB_deeper (g := false) ⟨hr, fun e => (nomatch e)⟩ _
  have hpo : PassesOwn (model P w) (cxOf (L2.CX P w) P w K mg base N qual (defScope st) f cdv A outer s H E).A (cxOf (L2.CX P w) P w K mg base N qual (defScope st) f cdv A outer s H E).env (cxOf (L2.CX P w) P w K mg base N qual (defScope st) f cdv A outer s H E).xe :=
    passes_of (X := cxOf (L2.CX P w) P w K mg base N qual (defScope st) f cdv A outer s H E) rfl
  have hst : StOk K (hid O H) O (L2.start N vs) (startS N ss) H := ⟨own, Same.refl _, start_env pr⟩
  have tk : Takes (cxOf (L2.CX P w) P w K mg base N qual (defScope st) f cdv A outer s H E) (Wsem K (hid O H) fun e _ O' => R (.exc e) O') :=
    (takes_of (X := cxOf (L2.CX P w) P w K mg base N qual (defScope st) f cdv A outer s H E) rfl rfl rfl rfl).imp fun cls d σ' H' ⟨e, ρ', O', h1, h2, h3⟩ => herr cls d e H' O' h1 h2.own h2.base h3
  have main := (body cdv A outer s H E ss O R hrD hpo hS (hid O H) (L2.start N vs) H hst tk { nx := fun _ H' => Q .non H', rt := Q }
    ⟨fun σ' ρ' O' H' h1 h2 => hret .non H' _ O' h1 h2.own h2.base .non, fun v z O' H' h1 h2 h3 h4 => hret v H' z O' h1 h2 h3 h4, fun _ _ _ _ h _ => h.elim, fun _ _ _ _ h _ => h.elim⟩).r [] s1 I
  refine wpAny_mono main (fun fl s' hs => ?_) fun e s' hs => hs
  have fin : ∀ {σ' : SV} {H' : Hp} {v : V} {u : Value}, L2.Inv (cxOf (L2.CX P w) P w K mg base N qual (defScope st) f cdv A outer s H E) [] σ' H' s' → RelV v u → Q v H' → CE outer P w H s Q u s' :=
    fun {σ' H' v u} J rv q => ⟨v, H', J.os, J.bare, J.base, J.hok, rv, q⟩
  cases fl with
  | ret u =>
    obtain ⟨v, σ', H', J, rv, q⟩ := hs
    exact fin J rv q
  | next =>
    obtain ⟨σ', H', J, q⟩ := hs
    exact fin (v := V.non) (u := Value.none) J rfl q
  | brk =>
    obtain ⟨_, _, _, q⟩ := hs
    exact False.elim q
  | cont =>
    obtain ⟨_, _, _, q⟩ := hs
    exact False.elim q
end
section
variable {X : Cx} {O : Own} {ρ : List Slot} {x : ExK} {kd : List Dat → Own → Prop} {o tg : Expr} {n : Nat} {S : Nat → SpecT} {C : Addr}
/-- __iter__ of the class at C, with its contract -/
def MIter (P : Program) (w : World) (K : PySem.W.Frag) (mg : Str → Option Value) (base : Heap) (n : Nat) (C : Addr) (S : Nat → SpecT) : Prop :=
  ∃ (f : Addr) (fd : FuncData) (ps : List Str), PySem.W.findIn K (.ref C) "__iter__" = some (some (.ref f)) ∧ PySem.W.isFn K (.ref f) = true ∧ FnN P w K mg base n f fd ps S ∧ Binds K fd ps []
theorem hid_drop {H : Hp} {it : Addr} {c : Cell} (h : O it = none) : hid O (ItX.dropH H it) = hid (up O it c) H := by
  funext b
  by_cases e : b = it
  · subst e
    rw [hid_none h, ItX.dropH_same, hid_some up_at]
  · cases eo : O b with
    | none => rw [hid_none eo, ItX.dropH_ne e, hid_none (by rw [up_ne e]; exact eo)]
    | some z => rw [hid_some eo, hid_some (show up O it c b = some z by rw [up_ne e]; exact eo)]
end
end Kn
namespace Kn
open PySem PySem.Spec PyProof.Rows
open L2 hiding St
end Kn
namespace Kn
open PySem PySem.Spec PyProof.Rows
open L2 hiding St
section
variable {X : Cx} {O : Own} {ρ : List Slot} {x : ExK} {k : Slot → Own → Prop} {o : Expr} {pos : Pos} {g' : Bool} {j n : Nat} {S : SpecT} {f : Str}
theorem ew_propSl {C : Addr} (E : PrC X.prog X.w X.K X.mg X.base n C f S) (c : SlX.SCls X.K C) (hr : RoomB g' j X.A) (h : EW X O ρ o x fun s O1 => SltAt O1 C s ∧ S [s] O1 (kVal k)) (hj : n + 1 ≤ j := by decide)
    (hb : attributeBase o f X.env (eval o X.env) = eval o X.env := by rfl) : EW X O ρ (.Attribute o f pos) x k := fun H0 σ H st tk Q q => by
  obtain ⟨p, g, fd, ps, hp, F, hbi⟩ := E
  refine we_of (SlX.pe_propSl (E := fun _ _ _ => False) pe_w c hp.at_ hp.get hp.tak hp.rec_ (F.ok.raw hbi .nil) (hr.r.mono hj) (fun H s e s' z => ?_) hb) (h H0 σ H st tk _ fun v H1 s O1 ⟨ty, hS⟩ st1 r1 => ?_)
  · obtain ⟨_, _, _, _, _, _, _, _, _, _, _, _, hE⟩ := z
    exact hE.elim
  · obtain ⟨a, dx, vs, rfl, hsl⟩ := slt_at' ty st1 r1
    exact ⟨a, dx, vs, rfl, hsl, O1, [s], kVal k, st1.own, .cons r1 .nil, hS, fun v H' s' O' h1 h2 h3 h4 => q v H' s' O' h1 (st1.next h2 h3) h4, fun cls d e H' O' h1 h2 h3 h4 => h1⟩
end
end Kn
namespace Kn
open PySem PySem.Spec PyProof.Rows
open L2 hiding St
/-- a list run to its end, its addresses as numbers -/
def ran {α : Type} : PySem.W.Frag → (PySem.W.Frag → α) → α
  | [], k => k []
  | q :: r, k => HandSHeadRun.frNat q.1 fun a => ran r fun z => k ((a, q.2) :: z)
theorem ran_eq {α : Type} : ∀ (l : PySem.W.Frag) (k : PySem.W.Frag → α), ran l k = k l
  | [], k => rfl
  | q :: r, k => by
    show HandSHeadRun.frNat q.1 (fun a => ran r fun z => k ((a, q.2) :: z)) = _
    rw [HandSHeadRun.frNat_eq, ran_eq r]
/-- the places from lo on, n of them -/
def places (lo : Nat) : Nat → List Addr
  | 0 => []
  | n + 1 => lo :: places (lo + 1) n
/-- the objects that are looked at: the module's names, the built-in ones, and what stands at the places -/
def partOf (g : Addr → Option Obj) (lo n : Nat) : PySem.W.Frag := He.frG g (mainGlobals :: cStatics :: builtinsNs :: places lo n)
abbrev Place := PySem.W.Frag → Addr
def pGlo (x : Str) : Place := fun K => He.ga K x
def pMeth (C m : Str) : Place := fun K => He.ma K (He.ga K C) m
/-- the function that a record of that kind holds -/
def heldBy (kind : String) (K : PySem.W.Frag) (p : Addr) : Addr := match PySem.W.recIn K p kind with
  | some (.ref f :: _) => f
  | _ => 0
def pProp (C m : Str) : Place := fun K => heldBy "property" K (He.ma K (He.ga K C) m)
def pCls (C m : Str) : Place := fun K => heldBy "classmethod" K (He.ma K (He.ga K C) m)
def txtOf : Data → He.FnW
  | .func d => some (d.name, d.qualname, d.params, d.body, d.scope, d.globals, d.closure, d.builtins)
  | _ => none
def txtAt (K : PySem.W.Frag) (a : Addr) : He.FnW := (K.lookup a).bind fun o => txtOf o.data
def txtIs (nm qual : Str) (st : Stmt) : He.FnW := some (nm, qual, defArgs st, .stmts (defBody st), defScope st, mainGlobals, [], builtinsNs)
/-- what its defaults are: none, or one object -/
def dflNo (d : FuncData) : Bool := decide (d.defaults = .none)
def dflOne (K : PySem.W.Frag) (d : FuncData) : Bool := match d.defaults with
  | .ref T => (match K.lookup T with
    | some ⟨_, _, .seq ⟨[.ref _]⟩ _, _⟩ => true
    | _ => false)
  | _ => false
def fnB (K : PySem.W.Frag) (a : Addr) (qual : Str) (dfl : FuncData → Bool) : Bool := PySem.W.keepIn K (.ref a) && match (K.lookup a).map Obj.data with
  | some (.func d) => PySem.W.codeIn K d.code qual && dfl d
  | _ => false
section
variable {K : PySem.W.Frag} {a : Addr} {nm qual : Str} {st : Stmt} {dfl : FuncData → Bool}
theorem fn_seen (e : txtAt K a = txtIs nm qual st) (c : fnB K a qual dfl = true) : ∃ (oc : Value) (od : Option Addr) (dV kV doc pm : Value) (an : Option Addr) (cdv ct : Value) (osl : Array (Option Value)),
    K.lookup a = some ⟨oc, od, .func (PySem.W.fnOf nm qual (defArgs st) (defBody st) (defScope st) dV kV doc pm an cdv ct), osl⟩ ∧ PySem.W.codeIn K cdv qual = true ∧
    dfl (PySem.W.fnOf nm qual (defArgs st) (defBody st) (defScope st) dV kV doc pm an cdv ct) = true ∧ PySem.W.keepIn K (.ref a) = true := by
  unfold fnB at c
  unfold txtAt at e
  obtain ⟨c1, c2⟩ := Bool.and_eq_true_iff.mp c
  cases q : K.lookup a with
  | none => rw [q] at e; cases e
  | some o =>
    obtain ⟨oc, od, dt, osl⟩ := o
    rw [q] at e c2
    cases dt with
    | func d =>
      obtain ⟨a1, a2, a3, a4, a5, a6, a7, dV, kV, doc, pm, an, cdv, ct, a15⟩ := d
      have e1 : (some (a1, a2, a3, a4, a5, a6, a7, a15) : He.FnW) = txtIs nm qual st := e
      unfold txtIs at e1
      simp only [Option.some.injEq, Prod.mk.injEq] at e1
      obtain ⟨rfl, rfl, rfl, rfl, rfl, rfl, rfl, rfl⟩ := e1
      obtain ⟨c3, c4⟩ := Bool.and_eq_true_iff.mp c2
      exact ⟨oc, od, dV, kV, doc, pm, an, cdv, ct, osl, rfl, c3, c4, c1⟩
    | _ => cases e
theorem fun_seen (e : txtAt K a = txtIs nm qual st) (c : fnB K a qual dflNo = true) : ∃ fd, L2.Fun K nm qual st a fd := by
  obtain ⟨oc, od, dV, kV, doc, pm, an, cdv, ct, osl, l, c1, c2, k⟩ := fn_seen e c
  obtain rfl : dV = .none := of_decide_eq_true c2
  exact ⟨_, fun_mk l c1 k⟩
end
section
variable {K : PySem.W.Frag} {x y nm qual bn C m f : Str} {st : Stmt} {i : Int} {zs : List Str}
abbrev val (K : PySem.W.Frag) (x : Str) : Option (Option Value) := PySem.W.nsIn K mainGlobals x
abbrev att (K : PySem.W.Frag) (C : Addr) (x : Str) : Option (Option Value) := PySem.W.findIn K (.ref C) x
def isV (r : Option (Option Value)) (v : Value) : Bool := He.eqO r (some (some v))
def isNo (r : Option (Option Value)) : Bool := He.eqO r (some none)
theorem isV_ok {r : Option (Option Value)} {v : Value} (h : isV r v = true) : r = some (some v) := He.eqO_ok h
theorem isNo_ok {r : Option (Option Value)} (h : isNo r = true) : r = some none := He.eqO_ok h
theorem bothB {a b : Bool} (h : (a && b) = true) : a = true ∧ b = true := Bool.and_eq_true_iff.mp h
def freeB (x : Str) (K : PySem.W.Frag) : Bool := isNo (val K x)
theorem free_look (h : freeB x K = true) : PySem.W.nsIn K mainGlobals x = some none := isNo_ok h
def textB (x y : Str) (K : PySem.W.Frag) : Bool := match val K x with
  | some (some (.str z _)) => decide (z = y)
  | _ => false
theorem text_look (h : textB x y K = true) : TextIn K x y := by
  unfold textB at h
  split at h
  · rename_i z t q
    obtain rfl := of_decide_eq_true h
    exact ⟨t, q⟩
  · cases h
/-- a tuple of texts at a -/
def tupB (K : PySem.W.Frag) (a : Addr) (zs : List Str) : Bool := match K.lookup a with
  | some ⟨.type c, _, .seq its _, _⟩ => decide (c = "tuple") && (Nat.ble its.size sizeLine && decide (strsOf its.toList = some zs))
  | _ => false
theorem tup_seen {a : Addr} (h : tupB K a zs = true) : ∃ (od : Option Addr) (its : Array Value) (n : Nat) (sl : Array (Option Value)), K.lookup a = some ⟨.type "tuple", od, .seq its n, sl⟩ ∧ its.size ≤ sizeLine ∧ strsOf its.toList = some zs := by
  unfold tupB at h
  split at h
  · rename_i c od its n sl q
    obtain ⟨h1, h2⟩ := bothB h
    obtain ⟨h2, h3⟩ := bothB h2
    obtain rfl := of_decide_eq_true h1
    exact ⟨od, its, n, sl, q, Nat.le_of_ble_eq_true h2, of_decide_eq_true h3⟩
  · cases h
def gloB (x : Str) (K : PySem.W.Frag) : Bool := isV (val K x) (.ref (He.ga K x))
def textsB (x : Str) (zs : List Str) (K : PySem.W.Frag) : Bool := gloB x K && tupB K (He.ga K x) zs
theorem texts_look (h : textsB x zs K = true) : TextsIn K x zs := by
  obtain ⟨h1, h2⟩ := bothB h
  obtain ⟨od, its, n, sl, h3, h4, h5⟩ := tup_seen h2
  exact ⟨_, od, its, n, sl, isV_ok h1, h3, h4, h5⟩
def defB (x : Str) (K : PySem.W.Frag) : Bool := gloB x K && fnB K (He.ga K x) x dflNo
theorem def_look (h : defB x K = true) (e : txtAt K (pGlo x K) = txtIs x x st) : DefIn K x st := by
  obtain ⟨h1, h2⟩ := bothB h
  obtain ⟨fd, F⟩ := fun_seen e h2
  exact ⟨⟨_, fd, isV_ok h1, F⟩⟩
def subB (K : PySem.W.Frag) (C : Addr) (v : Value) (b : Bool) : Bool := decide (PySem.W.subIn K (.ref C) v = some b)
def tyB (K : PySem.W.Frag) (a : Addr) (v : Value) : Bool := decide (PySem.W.typeIn K (.ref a) = some v)
def rdB (K : PySem.W.Frag) (C : Addr) : Bool := PySem.W.readsIn K C (.type "type") && isV (PySem.W.specialIn K (.ref C) "__getattribute__") (.builtin "type.__getattribute__")
theorem rd_seen {C : Addr} (h : rdB K C = true) : ClX.CRead K C (.type "type") := ⟨(bothB h).1, isV_ok (bothB h).2⟩
def excB0 (K : PySem.W.Frag) (C : Addr) : Bool := match K.lookup C with
  | some ⟨.type c, _, .cls cd, ⟨[_, _, _, _, some (.builtin z), _]⟩⟩ => decide (c = "type") && (decide (z = "ValueError.__new__") && (cd.hasDict && (!cd.hasDel && match cd.mro with
    | .ref D :: bm => decide (D = C) && PySem.HandSPX.refsVE bm
    | _ => false)))
  | _ => false
theorem exc_seen0 {C : Addr} (h : excB0 K C = true) : ∃ nm q N bs bm sn sub ab col dd k0 k1 k2 k3 k5, K.lookup C = some (excClassObj nm q C N bs bm true sn sub ab col dd k0 k1 k2 k3 k5 "ValueError.__new__") ∧ PySem.HandSPX.refsVE bm = true := by
  unfold excB0 at h
  split at h
  · rename_i c dd cd k0 k1 k2 k3 z k5 q
    obtain ⟨nm, bs, mro, ns, qn, hd, sn, sub, ab, col, del⟩ := cd
    obtain ⟨h1, ha⟩ := bothB h
    obtain ⟨h2, hb⟩ := bothB ha
    obtain ⟨h3, hc⟩ := bothB hb
    obtain ⟨h4, hl⟩ := bothB hc
    obtain rfl := of_decide_eq_true h1
    obtain rfl := of_decide_eq_true h2
    obtain rfl : hd = true := h3
    obtain rfl : del = false := by cases del with
      | false => rfl
      | true => cases h4
    cases mro with
    | nil => cases hl
    | cons v bm =>
      cases v with
      | ref D =>
        obtain ⟨h5, h6⟩ := bothB hl
        obtain rfl := of_decide_eq_true h5
        exact ⟨nm, qn, ns, bs, bm, sn, sub, ab, col, dd, k0, k1, k2, k3, k5, q, h6⟩
      | _ => cases hl
  · cases h
def xgB (K : PySem.W.Frag) (C : Addr) : Bool := isV (att K C "__getattribute__") (.builtin "BaseException.__getattribute__") && (isNo (att K C "__getattr__") && (subB K C (.type "BaseException") true && PySem.W.hasDictIn K C))
def clB (K : PySem.W.Frag) (C : Addr) : Bool := isV (att K C "__class__") (.builtin "object.__class__") && (isV (PySem.W.specialIn K (.builtin "object.__class__") "__get__") (.builtin "getset_descriptor.__get__") && (decide (PySem.W.takesIn K (.builtin "object.__class__") = some true) && decide (PySem.W.mroIn K C (.type "object") = some true)))
/-- what of the class itself is asked, what of the one that it is derived from -/
def excB1 (K : PySem.W.Frag) (C : Addr) : Bool := excB0 K C && (isV (att K C "__setattr__") (.builtin "object.__setattr__") && (tyB K C (.type "type") && (PySem.W.keepIn K (.ref C) && (xgB K C && (clB K C && subB K C (.ref C) true)))))
def baseB (K : PySem.W.Frag) (C B : Addr) : Bool := subB K C (.ref B) true && (tyB K B (.type "type") && (PySem.W.isClsIn K B && (rdB K B && match PySem.W.findCls K (.ref B) (.type "type") "__init__" with
  | some (.val (.builtin z)) => decide (z = "ValueError.__init__")
  | _ => false)))
def iniB (K : PySem.W.Frag) (C : Addr) (qual : Str) : Bool := isV (att K C "__init__") (.ref (He.ma K C "__init__")) && (tyB K (He.ma K C "__init__") (.type "function") && fnB K (He.ma K C "__init__") qual dflNo)
def excB (nm qual bn : Str) (fs : List Str) (K : PySem.W.Frag) : Bool := gloB nm K && (gloB bn K && (excB1 K (He.ga K nm) && (baseB K (He.ga K nm) (He.ga K bn) && (iniB K (He.ga K nm) qual && fs.all fun f => isNo (att K (He.ga K nm) f)))))
theorem exc_look {fs : List Str} (h : excB nm qual bn fs K = true) (e : txtAt K (pMeth nm "__init__" K) = txtIs "__init__" qual st) : ∃ C B, ExcIn K nm qual bn st C B ∧ ∀ f ∈ fs, PySem.W.findIn K (.ref C) f = some none := by
  obtain ⟨g1, h⟩ := bothB h
  obtain ⟨g2, h⟩ := bothB h
  obtain ⟨a1, h⟩ := bothB h
  obtain ⟨b1, h⟩ := bothB h
  obtain ⟨i1, n1⟩ := bothB h
  obtain ⟨x0, a1⟩ := bothB a1
  obtain ⟨x1, a1⟩ := bothB a1
  obtain ⟨x2, a1⟩ := bothB a1
  obtain ⟨x3, a1⟩ := bothB a1
  obtain ⟨x4, a1⟩ := bothB a1
  obtain ⟨x5, x6⟩ := bothB a1
  obtain ⟨y1, x4⟩ := bothB x4
  obtain ⟨y2, x4⟩ := bothB x4
  obtain ⟨y3, y4⟩ := bothB x4
  obtain ⟨z1, x5⟩ := bothB x5
  obtain ⟨z2, x5⟩ := bothB x5
  obtain ⟨z3, z4⟩ := bothB x5
  obtain ⟨c1, b1⟩ := bothB b1
  obtain ⟨c2, b1⟩ := bothB b1
  obtain ⟨c3, b1⟩ := bothB b1
  obtain ⟨c4, c5⟩ := bothB b1
  obtain ⟨i2, i1⟩ := bothB i1
  obtain ⟨i3, i4⟩ := bothB i1
  obtain ⟨fd, F⟩ := fun_seen e i4
  refine ⟨_, _, ⟨⟨isV_ok g1, ⟨exc_seen0 x0, isV_ok x1, of_decide_eq_true y3, of_decide_eq_true x2, x3⟩, _, fd, isV_ok i2, of_decide_eq_true i3, F⟩, ⟨isV_ok y1, isNo_ok y2, of_decide_eq_true y3, y4⟩,
    ⟨isV_ok y1, isNo_ok y2, of_decide_eq_true y3, y4, isV_ok z1, isV_ok z2, of_decide_eq_true z3, of_decide_eq_true z4⟩, of_decide_eq_true x6, isV_ok g2, of_decide_eq_true c1, of_decide_eq_true c2, c3, rd_seen c4, ?_⟩, fun f hf => isNo_ok (List.all_eq_true.mp n1 f hf)⟩
  split at c5
  · rename_i z q
    obtain rfl := of_decide_eq_true c5
    exact q
  · cases c5
def plB (K : PySem.W.Frag) (C : Addr) : Bool := PySem.W.plainGet K C Str.empty && (PySem.W.plainOver K C && isV (att K C "__setattr__") (.builtin "object.__setattr__"))
def clsB (nm : Str) (K : PySem.W.Frag) : Bool := gloB nm K && (plB K (He.ga K nm) && (PySem.W.hasDictIn K (He.ga K nm) && (clB K (He.ga K nm) && (PySem.W.makesIn K (He.ga K nm) && (PySem.W.keepIn K (.ref (He.ga K nm)) && (rdB K (He.ga K nm) && isV (att K (He.ga K nm) "__ne__") (.builtin "object.__ne__")))))))
theorem cls_look (h : clsB nm K = true) : ClsIn K nm (He.ga K nm) := by
  obtain ⟨g1, h⟩ := bothB h
  obtain ⟨p1, h⟩ := bothB h
  obtain ⟨d1, h⟩ := bothB h
  obtain ⟨l1, h⟩ := bothB h
  obtain ⟨m1, h⟩ := bothB h
  obtain ⟨k1, h⟩ := bothB h
  obtain ⟨r1, n1⟩ := bothB h
  obtain ⟨p2, p1⟩ := bothB p1
  obtain ⟨p3, p4⟩ := bothB p1
  obtain ⟨z1, l1⟩ := bothB l1
  obtain ⟨z2, l1⟩ := bothB l1
  obtain ⟨z3, z4⟩ := bothB l1
  exact ⟨isV_ok g1, ⟨⟨p2, d1, p3, isV_ok p4⟩, isV_ok z1, isV_ok z2, of_decide_eq_true z3, of_decide_eq_true z4, kit_self⟩, m1, k1, rd_seen r1, isV_ok n1⟩
def slsB (nm : Str) (K : PySem.W.Frag) : Bool := gloB nm K && (plB K (He.ga K nm) && (PySem.W.isClsIn K (He.ga K nm) && (PySem.W.makesIn K (He.ga K nm) && PySem.W.keepIn K (.ref (He.ga K nm)))))
theorem sls_look (h : slsB nm K = true) : SlsIn K nm (He.ga K nm) := by
  obtain ⟨g1, h⟩ := bothB h
  obtain ⟨p1, h⟩ := bothB h
  obtain ⟨c1, h⟩ := bothB h
  obtain ⟨m1, k1⟩ := bothB h
  obtain ⟨p2, p1⟩ := bothB p1
  obtain ⟨p3, p4⟩ := bothB p1
  exact ⟨isV_ok g1, ⟨p2, c1, p3, isV_ok p4⟩, m1, k1⟩
def methB (C m qual : Str) (K : PySem.W.Frag) : Bool := isV (att K (He.ga K C) m) (.ref (pMeth C m K)) && (PySem.W.isFn K (.ref (pMeth C m K)) && fnB K (pMeth C m K) qual dflNo)
theorem meth_look (h : methB C m qual K = true) (e : txtAt K (pMeth C m K) = txtIs m qual st) : MethIn K (He.ga K C) m qual st := by
  obtain ⟨h1, h⟩ := bothB h
  obtain ⟨h2, h3⟩ := bothB h
  obtain ⟨fd, F⟩ := fun_seen e h3
  exact ⟨⟨_, fd, ⟨isV_ok h1, h2, F.kp⟩, F⟩⟩
def methDB (C m qual : Str) (K : PySem.W.Frag) : Bool := isV (att K (He.ga K C) m) (.ref (pMeth C m K)) && (PySem.W.isFn K (.ref (pMeth C m K)) && fnB K (pMeth C m K) qual (dflOne K))
theorem methD_look (h : methDB C m qual K = true) (e : txtAt K (pMeth C m K) = txtIs m qual st) : MethInD K (He.ga K C) m qual st 1 := by
  obtain ⟨h1, h⟩ := bothB h
  obtain ⟨h2, h3⟩ := bothB h
  obtain ⟨oc, od, dV, kV, doc, pm, an, cdv, ct, osl, l, c1, c2, k⟩ := fn_seen e h3
  unfold dflOne at c2
  split at c2
  · rename_i T q
    split at c2
    · rename_i c1' od1 d n sl1 q2
      have q : dV = .ref T := q
      subst q
      exact methD_in (isV_ok h1) h2 l c1 k q2 rfl
    · cases c2
  · cases c2
def cmethB (C m qual : Str) (K : PySem.W.Frag) : Bool := fnB K (pCls C m K) qual dflNo && (PySem.W.fnIn K (pCls C m K) && (match PySem.W.findCls K (.ref (He.ga K C)) (.type "type") m with
  | some (.get (.builtin z) (.ref p) .none (.ref D)) => decide (z = "classmethod.__get__") && (decide (D = He.ga K C) && decide (p = He.ma K (He.ga K C) m))
  | _ => false) && match PySem.W.recIn K (He.ma K (He.ga K C) m) "classmethod" with
  | some (.ref f :: _) => decide (f = pCls C m K)
  | _ => false)
theorem cmeth_look (h : cmethB C m qual K = true) (e : txtAt K (pCls C m K) = txtIs m qual st) : CMethIn K (He.ga K C) m qual st := by
  obtain ⟨h1, h⟩ := bothB h
  obtain ⟨h, h4⟩ := bothB h
  obtain ⟨h2, h3⟩ := bothB h
  obtain ⟨fd, F⟩ := fun_seen e h1
  split at h3
  · rename_i z p D q
    obtain ⟨e1, h3⟩ := bothB h3
    obtain ⟨e2, e3⟩ := bothB h3
    obtain rfl := of_decide_eq_true e1
    obtain rfl := of_decide_eq_true e2
    obtain rfl := of_decide_eq_true e3
    split at h4
    · rename_i f r q4
      obtain rfl := of_decide_eq_true h4
      exact ⟨⟨_, _, fd, ⟨q, ⟨_, q4⟩, h2⟩, F⟩⟩
    · cases h4
  · cases h3
def propB (C m qual : Str) (K : PySem.W.Frag) : Bool := fnB K (pProp C m K) qual dflNo && (isV (att K (He.ga K C) m) (.ref (He.ma K (He.ga K C) m)) && (isV (PySem.W.specialIn K (.ref (He.ma K (He.ga K C) m)) "__get__") (.builtin "property.__get__") &&
  (decide (PySem.W.takesIn K (.ref (He.ma K (He.ga K C) m)) = some true) && match PySem.W.recIn K (He.ma K (He.ga K C) m) "property" with
  | some (.ref f :: _) => decide (f = pProp C m K)
  | _ => false)))
theorem prop_look (h : propB C m qual K = true) (e : txtAt K (pProp C m K) = txtIs m qual st) : PropIn K (He.ga K C) m qual st := by
  obtain ⟨h1, h⟩ := bothB h
  obtain ⟨h2, h⟩ := bothB h
  obtain ⟨h3, h⟩ := bothB h
  obtain ⟨h4, h5⟩ := bothB h
  obtain ⟨fd, F⟩ := fun_seen e h1
  split at h5
  · rename_i f r q
    obtain rfl := of_decide_eq_true h5
    exact ⟨⟨_, _, fd, ⟨isV_ok h2, isV_ok h3, of_decide_eq_true h4, ⟨_, q⟩⟩, F⟩⟩
  · cases h5
def slotB (C f : Str) (i : Nat) (K : PySem.W.Frag) : Bool := isV (att K (He.ga K C) f) (.ref (He.ma K (He.ga K C) f)) && (isV (PySem.W.specialIn K (.ref (He.ma K (He.ga K C) f)) "__get__") (.builtin "member_descriptor.__get__") &&
  (decide (PySem.W.takesIn K (.ref (He.ma K (He.ga K C) f)) = some true) && (tyB K (He.ma K (He.ga K C) f) (.type "member_descriptor") && (decide (PySem.W.slotIn K (He.ma K (He.ga K C) f) (He.ga K C) = some i) && Nat.blt i 1000))))
theorem slot_look {i : Nat} (h : slotB C f i K = true) : SlotIn K (He.ga K C) f i := by
  obtain ⟨h1, h⟩ := bothB h
  obtain ⟨h2, h⟩ := bothB h
  obtain ⟨h3, h⟩ := bothB h
  obtain ⟨h4, h⟩ := bothB h
  obtain ⟨h5, h6⟩ := bothB h
  exact slot_in (isV_ok h1) (isV_ok h2) (of_decide_eq_true h3) (of_decide_eq_true h4) (of_decide_eq_true h5) (Nat.le_of_ble_eq_true h6)
def noAtB (C f : Str) (K : PySem.W.Frag) : Bool := isNo (att K (He.ga K C) f)
theorem noAt_look (h : noAtB C f K = true) : PySem.W.findIn K (.ref (He.ga K C)) f = some none := isNo_ok h
def sub2B (x y : Str) (b : Bool) (K : PySem.W.Frag) : Bool := gloB x K && (gloB y K && subB K (He.ga K x) (.ref (He.ga K y)) b)
theorem sub2_look {b : Bool} (h : sub2B x y b K = true) : ∃ C C2, PySem.W.nsIn K mainGlobals x = some (some (.ref C)) ∧ PySem.W.nsIn K mainGlobals y = some (some (.ref C2)) ∧ PySem.W.subIn K (.ref C) (.ref C2) = some b :=
  sub_in (isV_ok (bothB h).1) (isV_ok (bothB (bothB h).2).1) (of_decide_eq_true (bothB (bothB h).2).2)
def isClsB (x : Str) (K : PySem.W.Frag) : Bool := gloB x K && (PySem.W.isClsIn K (He.ga K x) && tyB K (He.ga K x) (.type "type"))
theorem isCls_look (h : isClsB x K = true) : ∃ C, PySem.W.nsIn K mainGlobals x = some (some (.ref C)) ∧ PySem.W.isClsIn K C = true ∧ PySem.W.typeIn K (.ref C) = some (.type "type") :=
  cls_in (isV_ok (bothB h).1) (bothB (bothB h).2).1 (of_decide_eq_true (bothB (bothB h).2).2)
end
structure Look where
  says : List (PySem.W.Frag → Bool)
  funs : List (Place × Str × Str × Stmt)
namespace Look
abbrev Got : Type := Bool × List He.FnW
def seen (L : Look) (K : PySem.W.Frag) : Got := (L.says.all fun f => f K, L.funs.map fun q => txtAt K (q.1 K))
def good (L : Look) : Got := (true, L.funs.map fun q => txtIs q.2.1 q.2.2.1 q.2.2.2)
def Holds (L : Look) (K : PySem.W.Frag) : Prop := L.seen K = L.good
theorem Holds.say {L : Look} {K : PySem.W.Frag} (c : L.Holds K) (i : Nat) {f : PySem.W.Frag → Bool} (h : L.says[i]? = some f := by rfl) : f K = true :=
  List.all_eq_true.mp (show (L.says.all fun f => f K) = true from congrArg Prod.fst c) f (List.mem_of_getElem? h)
theorem Holds.txt {L : Look} {K : PySem.W.Frag} (c : L.Holds K) (i : Nat) {p : Place} {nm qual : Str} {st : Stmt} (h : L.funs[i]? = some (p, nm, qual, st) := by rfl) : txtAt K (p K) = txtIs nm qual st := by
  have e : L.funs.map (fun q => txtAt K (q.1 K)) = L.funs.map fun q => txtIs q.2.1 q.2.2.1 q.2.2.2 := congrArg Prod.snd c
  have e2 := congrArg (fun l : List He.FnW => l[i]?) e
  simp only [List.getElem?_map, h] at e2
  exact Option.some.inj e2
/-- what is seen off the tree -/
def ob (L : Look) (lo len : Nat) (s : PySem.W.SharedT) : Got := ran (partOf (HandSHeadRun.getT s) lo len) L.seen
end Look
end Kn
namespace Kn
open PySem PySem.Spec PyProof.Rows
open L2 hiding St
end Kn
namespace Kn
open PySem PySem.Spec PyProof.Rows
open L2 hiding St
end Kn
namespace Kn
open PySem PySem.Spec PyProof.Rows
open L2 hiding St
end Kn
namespace Kn
open PySem PySem.Spec PyProof.Rows
open L2 hiding St
end Kn
namespace Kn
open PySem PySem.Spec PyProof.Rows
open L2 hiding St
end Kn
namespace Kn
open PySem PySem.Spec PyProof.Rows
open L2 hiding St
/-- two references to the same data -/
def TwoD (K : PySem.W.Frag) (dom : Dat → Prop) : Addr → Addr → Hp → Prop := fun a b H => ∃ d, dom d ∧ Rp K H (.ref a) d ∧ Rp K H (.ref b) d
def DTwo (K : PySem.W.Frag) (dom : Dat → Prop) : Eqv := fun x y H => ∃ a b, x = .ref a ∧ y = .ref b ∧ TwoD K dom a b H
section
variable {P : Program} {w : World} {K : PySem.W.Frag} {mg : Str → Option Value} {base : Heap} {n : Nat} {f : Addr} {fd : FuncData} {ps : List Str} {S : SpecT} {dom : Dat → Prop}
theorem ok_eq (F : Fn P w K mg base false n f fd ps S) (hS : ∀ (d : Dat) (O : Own) (R : Out → Own → Prop), dom d → R (.ret (.dat (.bl true))) O → S [.dat d, .dat d] O R) : FnOk P w K mg base (L2.CX P w) n f fd ps (spEq (TwoD K dom)) :=
  F.ok.imp fun vs H Q E ⟨a, b, e, ⟨d, hd, r1, r2⟩, q⟩ => by
    subst e
    refine ⟨fun _ => none, [.dat d, .dat d], fun o O' => o = .ret (.dat (.bl true)), ⟨fun q c h => nomatch h⟩, .cons r1 (.cons r2 .nil), hS d _ _ hd rfl, fun v H' s O' h1 h2 h3 h4 => ?_, fun cls d e H' O' h1 => nomatch h1⟩
    cases h1
    cases h4
    exact q H' fun b o z => hid_le _ _ (h3 b o z)
theorem mon_two : Mon (DTwo K dom) := fun x y H H' e ⟨a, b, e1, e2, d, hd, r1, r2⟩ => ⟨a, b, e1, e2, d, hd, Rp.mono e r1, Rp.mono e r2⟩
theorem tup_two {H : Hp} {v v' : V} {ds : List Dat} (hd : ∀ d ∈ ds, dom d) (hr : ∀ d, dom d → ∀ u, Rp K H u d → ∃ a, u = .ref a) (h1 : Rp K H v (.tup ds)) (h2 : Rp K H v' (.tup ds)) : DTup K (DTwo K dom) v v' H := by
  cases h1 with
  | @tup a xs _ s1 a1 =>
    cases h2 with
    | @tup b ys _ s2 a2 =>
      refine ⟨a, b, xs, ys, rfl, rfl, s1, s2, a1.length.trans a2.length.symm, fun i x y g1 g2 => ?_⟩
      obtain ⟨d, hdi⟩ : ∃ d, ds[i]? = some d := ⟨_, List.getElem?_eq_getElem (by rw [← a1.length]; exact (List.getElem?_eq_some_iff.mp g1).1)⟩
      obtain ⟨x', e1, z1⟩ := a1.get hdi
      obtain ⟨y', e2, z2⟩ := a2.get hdi
      rw [g1] at e1; rw [g2] at e2
      cases e1; cases e2
      have hdd := hd d (List.mem_of_getElem? hdi)
      obtain ⟨p, rfl⟩ := hr d hdd _ z1
      obtain ⟨q, rfl⟩ := hr d hdd _ z2
      exact ⟨p, q, rfl, rfl, d, hdd, z1, z2⟩
end
section
variable {X : Cx} {n : Nat} {C : Addr} {S : SpecT} {dom : Dat → Prop} {O : Own} {k : Slot → Own → Prop}
theorem rc_own (E : EqC X.prog X.w X.K X.mg X.base n C S) (hS : ∀ (d : Dat) (O : Own) (R : Out → Own → Prop), dom d → R (.ret (.dat (.bl true))) O → S [.dat d, .dat d] O R) (hT : ∀ d, dom d → ∃ d1 g es d2, d = .tre C d1 g es d2) : RcG X n (DTwo X.K dom) := by
  obtain ⟨f, fd, ps, hs, hf, F, hb⟩ := E.ex
  have R := rcG_ins (C := C) (R := TwoD X.K dom) (ok_eq F hS) hs hf hb passL
  intro A pins s σ H x y u v sb I rx ry ⟨a, b, e1, e2, d, hd, r1, r2⟩
  obtain ⟨d1, g, es, d2, rfl⟩ := hT d hd
  obtain ⟨dx, fs, h1⟩ : ∃ dx fs, H a = some (.ins C dx fs) := by cases r1 with | tre h1 _ _ _ _ => exact ⟨_, _, h1⟩
  obtain ⟨dy, gs, h2⟩ : ∃ dx fs, H b = some (.ins C dx fs) := by cases r2 with | tre h1 _ _ _ _ => exact ⟨_, _, h1⟩
  exact R A pins s σ H x y u v sb I rx ry ⟨a, b, dx, dy, fs, gs, e1, e2, h1, h2, _, hd, r1, r2⟩
/-- (name, mark, objects) == (the same, the same, the same) -/
theorem ob_eqTup3 {nm : Str} {mk : Int} {ds : List Dat} (E : EqC X.prog X.w X.K X.mg X.base n C S) (hS : ∀ (d : Dat) (O : Own) (R : Out → Own → Prop), dom d → R (.ret (.dat (.bl true))) O → S [.dat d, .dat d] O R) (hT : ∀ d, dom d → ∃ d1 g es d2, d = .tre C d1 g es d2)
    (hr : Room (n + 2) X.A) (hd : ∀ d ∈ ds, dom d) (h : k (.dat (.bl true)) O) : OpB X (compareOp .Eq) (.dat (.tup [.str nm, .int mk, .tup ds])) (.dat (.tup [.str nm, .int mk, .tup ds])) O k := by
  have hD : Mon (fun x y H => DFlat x y H ∨ DTup X.K (DTwo X.K dom) x y H) := mon_flat.or (mon_tup mon_two)
  have hE : EqG X (n + 1) (fun x y H => DFlat x y H ∨ DTup X.K (DTwo X.K dom) x y H) :=
    (eqG_flat.mono (Nat.zero_le _)).or (eqG_tup mon_two ((rc_own E hS hT).eqG fun x y H ⟨a, b, e1, e2, _⟩ => ⟨a, b, e1, e2⟩))
  refine ⟨_, op_eqG (rcG_tup hD hE) hr, fun H0 σ ρ H v1 v2 st r1 r2 Q q => ?_⟩
  refine ⟨?_, fun H' e => q _ H' _ O h (st.grow e) (.bl _)⟩
  have r1 : Rp X.K (hid O H) v1 (.tup [.str nm, .int mk, .tup ds]) := r1
  have r2 : Rp X.K (hid O H) v2 (.tup [.str nm, .int mk, .tup ds]) := r2
  have r1 := Rp.mono hid_le r1
  have r2 := Rp.mono hid_le r2
  have hq : ∀ d, dom d → ∀ u, Rp X.K H u d → ∃ a, u = .ref a := fun d hd u r => by
    obtain ⟨d1, g, es, d2, rfl⟩ := hT d hd
    cases r with | tre _ _ _ _ _ => exact ⟨_, rfl⟩
  cases r1 with
  | @tup a xs _ s1 a1 =>
    cases r2 with
    | @tup b ys _ s2 a2 =>
      cases a1 with
      | cons x1 a1 =>
        cases a1 with
        | cons x2 a1 =>
          cases a1 with
          | cons x3 a1 =>
            cases a1
            cases a2 with
            | cons y1 a2 =>
              cases a2 with
              | cons y2 a2 =>
                cases a2 with
                | cons y3 a2 =>
                  cases a2
                  have t3 := tup_two hd hq x3 y3
                  cases x1; cases y1; cases x2; cases y2
                  exact ⟨a, b, _, _, rfl, rfl, s1, s2, Prs.cons (.inl ⟨rfl, rfl, by simp [eqV]⟩) (Prs.cons (.inl ⟨rfl, rfl, by simp [eqV]⟩) (Prs.cons (.inr t3) Prs.nil))⟩
end
end Kn
namespace Kn
open PySem PySem.Spec PyProof.Rows
open L2 hiding St
/-- enumerate(v): what is laid, v anything whose iterator is one new object -/
theorem meets_enum1 {v : Value} {o : Obj} {H : Heap → Prop} (B : Begins v o H) : Meets (Builtin.«enumerate.__new__» ⟨[.type "enumerate", v], []⟩) (fun _ R s => H s.heap ∧
    R (.ok (.ret (.ref (s.heap.push o).objs.size))) { s with heap := (s.heap.push o).push { cls := .type "enumerate", data := .fields #[.none, .bool false, .ref s.heap.objs.size, rawInt 0, .none, .none] } }) :=
  .of_wp fun prog w A R ⟨hp, g, d, tk, os⟩ ⟨h1, h⟩ => by
    have sb := sub_enumerate
    have it : ∀ {A' : Around} {E Q : Value → Shared → Prop}, Q (.ref hp.objs.size) ⟨hp.push o, g, d, tk, os⟩ → wpAny (model prog w) A' (pyIter v) Q E ⟨hp, g, d, tk, os⟩ := fun q => B.iter _ _ _ _ ⟨hp, g, d, tk, os⟩ _ h1 q
    wp_walk using it
    refine wpAny_stack_any fun st => wpAny_pure ?_
    split
    case h_2 =>
      wp_walk using it
      exact ⟨_, rfl, h⟩
    rename_i c _ _ _ _ _
    generalize (c == Value.type "enumerate") = short
    cases short <;> (wp_walk using it; exact ⟨_, rfl, h⟩)
section
variable {prog : Program} {w : World} {A : Around} {E : Value → Shared → Prop} {s : Shared}
theorem call_enum1 {v : Value} {o : Obj} {H : Heap → Prop} {Q : Value → Shared → Prop} (B : Begins v o H) (h1 : H s.heap)
    (h : ∀ h', IsEnum h' (s.heap.objs.size + 1) s.heap.objs.size 0 .none → h'.get? s.heap.objs.size = some o → (∀ b u, s.heap.get? b = some u → h'.get? b = some u) → Q (.ref (s.heap.objs.size + 1)) { s with heap := h' }) :
    wpAny (model prog w) A (call (.type "enumerate") [v]) Q E s := by
  have hz : (s.heap.push o).objs.size = s.heap.objs.size + 1 := Heap.size_push ..
  have he : IsEnum ((s.heap.push o).push { cls := .type "enumerate", data := .fields #[.none, .bool false, .ref s.heap.objs.size, rawInt 0, .none, .none] }) (s.heap.objs.size + 1) s.heap.objs.size 0 .none := by
    unfold IsEnum
    rw [← hz]
    exact Heap.get?_push_size _ rfl
  refine callType_new F.called_enumerate (by decide) (F.typeCall_enumerate_1 _) (F.newCall_enumerate_1 _) (fun obj => F.args_object_init_2 obj _) F.entry_enumerate_new (meets_enum1 B) ⟨h1, ?_⟩
  rw [hz]
  exact ⟨⟨_, he, rfl⟩, h _ he (Heap.get?_push_of_some _ (Heap.get?_push_size _ B.free)) fun b u x => Heap.get?_push_of_some _ (Heap.get?_push_of_some _ x)⟩
end
/-- the tuple at a as it stands, each item in a new pair -/
def Itet (K : PySem.W.Frag) (a : Addr) : It :=
  ⟨fun i H => ∃ (xs : List V) (x : V), SqT K H a xs ∧ xs[i]? = some x, fun i H v H' => ∃ T x, v = .ref T ∧ H T = none ∧ H' = upd H T (.tup [.int (i : Nat), x]) ∧ ∀ xs, SqT K H a xs → xs[i]? = some x, fun i H => ∃ xs : List V, SqT K H a xs ∧ xs.length ≤ i⟩
theorem turn_enumT {P : Program} {w : World} {K : PySem.W.Frag} {elts : List Expr} {kk : Nat} {tpos : Pos} (a e it : Addr) (nei : e ≠ it) (nea : e ≠ a) (nia : a ≠ it) :
    Turn P w K (.Tuple elts kk tpos) (Itet K a) [e, it] e (fun i h => (∃ old, IsEnum h e it ((i : Nat) : Int) old) ∧ h.IsTupleIter it a i) where
  mem := List.mem_cons_self ..
  obj := fun i h ⟨⟨old, he⟩, o, ho, _, hd⟩ b hb => by
    rcases List.mem_cons.mp hb with rfl | hb
    · exact ⟨_, he, fun v q => nomatch q⟩
    · rw [List.mem_singleton.mp hb]
      exact ⟨o, ho, fun v q => by rw [hd] at q; cases q⟩
  keep := fun i h h' ⟨⟨old, he⟩, hi⟩ k => ⟨⟨old, k e (List.mem_cons_self ..) _ he⟩, hi.at fun o q => k it (List.mem_cons_of_mem _ (List.mem_singleton.mpr rfl)) o q⟩
  item := by
    rintro X rfl rfl rfl hc i pins s σ H E I hf ⟨⟨old, he⟩, hit⟩ ⟨xs, x, hq, hx⟩
    obtain ⟨its, rv, p, hz⟩ := I.tuple hq
    obtain ⟨u, hu, ru⟩ := rv.get hx
    have p : s.heap.IsTuple a its.toArray := p
    have hlt : i < its.toArray.size := by rw [List.size_toArray]; exact (List.getElem?_eq_some_iff.mp hu).1
    have D := Draws.tuple (prog := X.prog) (w := X.w) (A := X.A.in1) (I.ok.hd hc) it a nia its.toArray
    refine wpAny_pyNext_enum_itemD D he ⟨hit, p⟩ hlt nei (by simp [nei, nea]) fun y h' tk hy ho hst hT hsz hk => ?_
    have hy : y = u := by
      have hy : its.toArray[i]? = some y := hy
      rw [List.getElem?_toArray, hu] at hy
      exact (Option.some.inj hy).symm
    subst hy
    refine ⟨_, rfl, wpAny_letOwnedTupleGo_enum (s := { s with heap := h', toks := tk + 1 }) ho fun h2 he2 sb => ?_⟩
    have nT : s.heap.objs.size ≠ e := Nat.ne_of_gt (Heap.lt_size he)
    have hT2 : h2.get? s.heap.objs.size = some { cls := .type "tuple", data := .seq #[.int i tk, y] } := (sb.2 _ nT).trans hT
    have I1 : Inv X pins σ (upd H s.heap.objs.size (.tup [.int (i : Nat), x])) { s with heap := h2, toks := tk + 1 } :=
      I.turnedNew (ch := [e, it]) (fun b ob hb q => (sb.2 b (fun z => hb (by rw [z]; exact List.mem_cons_self ..))).trans (hk b ob (fun z => hb (by rw [z]; exact List.mem_cons_self ..)) (fun z => hb (by rw [z]; exact List.mem_cons_of_mem _ (List.mem_singleton.mpr rfl))) q)) hf (Nat.le_refl _)
        ⟨by show 2 ≤ sizeLine; decide, [.int i tk, y], .cons ⟨_, rfl⟩ (.cons ru .nil), ⟨_, hT2, rfl, _, rfl⟩⟩
    refine ⟨.ref s.heap.objs.size, _, I1, rfl, ⟨_, x, rfl, I.hok.fresh (Nat.le_refl _), rfl, fun ys hy => by rw [I.tuple_inj hy hq]; exact hx⟩, ⟨⟨y, ?_⟩, hst.1.at fun o q => (sb.2 it nei.symm).trans q⟩, fun b hb => ?_⟩
    · rw [show ((i + 1 : Nat) : Int) = (i : Int) + 1 by omega]; exact he2
    · have hb' : b < s.heap.objs.size := by
        rcases List.mem_cons.mp hb with rfl | hb
        · exact Heap.lt_size he
        · rw [List.mem_singleton.mp hb]
          obtain ⟨_, q, _⟩ := hit
          exact Heap.lt_size q
      rw [upd_ne (Nat.ne_of_lt hb')]
      exact (hf b hb).1
  done := by
    rintro X rfl rfl rfl hc i pins s σ H E I hf ⟨⟨old, he⟩, hit⟩ ⟨xs, hq, hx⟩
    obtain ⟨its, rv, p, hz⟩ := I.tuple hq
    have p : s.heap.IsTuple a its.toArray := p
    obtain ⟨f0, f1, f2, f3, f4, f5⟩ := hf it (List.mem_cons_of_mem _ (List.mem_singleton.mpr rfl))
    have hT : s.TypeIs (.ref e) "enumerate" := ⟨_, he, rfl⟩
    unfold pyNext
    refine wpAny_bind (wpAny_attempt (wpAny_callSpecial?_slot (name := Str.ofString "__next__") hT F.slot_enumerate_next (wpAny_call_entry F.slot_enumerate_next hT F.entry_enumerate_next ?_ (F.args_enumerate_next_1 _))))
    show wpAny _ _ (field (.ref e) 2 >>= _) _ _ _
    refine wpAny_bind (wpAny_field he rfl (x := .ref it) rfl ?_)
    refine wpAny_bind (wpAny_nextOf_tuple_end (I.ok.hd hc) hit p (by rw [List.getElem?_toArray]; exact List.getElem?_eq_none_iff.mpr (by rw [← rv.length]; exact hx)) fun h' y hx' ⟨o, ho, hcl⟩ => ?_)
    refine wpAny_bind (wpAny_isInstance (T := "StopIteration") (b := true) ⟨o, ho, hcl⟩ isSubtype_stop ?_)
    exact wpAny_pure ⟨rfl, I.turned (t' := s.toks) (fun b ob hb q => hx' b ob hb q) f0 f1 f3 f4 f5⟩
  self := fun A i s Q E ⟨⟨_, he⟩, _⟩ h => wpAny_pyIter_enum he h
theorem itd_enumT {K : PySem.W.Frag} {G : Hp} {a : Addr} {xs : List V} {ds : List Dat} (h : SqT K G a xs) (r : RpA K G xs ds) : ItD K G (Itet K a) (enumD ds) := fun O H ok sm i => by
  have hS : SqT K H a xs := sqt_mono (sm.trans hid_le) h
  refine ⟨fun d hd => ?_, fun hn => ⟨xs, hS, ?_⟩⟩
  · unfold enumD at hd
    rw [List.getElem?_mapIdx] at hd
    obtain ⟨d0, hc, rfl⟩ := Option.map_eq_some_iff.mp hd
    obtain ⟨v, h1, h2⟩ := r.get hc
    refine ⟨⟨xs, v, hS, h1⟩, fun v' H' ⟨T, x, e1, nT, e2, hv⟩ => ?_⟩
    subst e1 e2
    obtain rfl : v = x := Option.some.inj (h1.symm.trans (hv xs hS))
    refine ⟨same_new nT, .tup (.inl (.inl ?_)) (.cons (.int _) (.cons (Rp.mono (sm.trans (hid_same (same_new nT))) h2) .nil))⟩
    rw [hid_none (own_free ok nT), upd_same]
  · have h1 := List.getElem?_eq_none_iff.mp hn
    unfold enumD at h1
    rw [List.length_mapIdx] at h1
    rw [r.length]; exact h1
section
variable {X : Cx} {O : Own} {ρ : List Slot} {x : ExK} {kd : List Dat → Own → Prop} {e : Expr} {pos p tpos : Pos} {elts : List Expr} {kk : Nat}
/-- for i, a in enumerate(a tuple) -/
theorem iw_enumT (hm : X.mg "enumerate" = none) (h : AW X O ρ [e] x fun ss O' => ∃ ds, ss = [.dat (.tup ds)] ∧ kd (enumD ds) O') (hg : Gl X "enumerate" := by rfl) (hs : starEach [e] X.env = [(false, eval e X.env)] := by rfl) :
    IW X O ρ (.Tuple elts kk tpos) (.Call (.Name "enumerate" p) [e] [] pos) x kd := fun H0 σ H st tk R q => ⟨fun pins s I => by
  refine Call_ (ld_blt I hg hm boot_enumerate (PyProof.Rows.callWith_type1 (thn ((pa_w (es := [e])).run pos pins s σ H (fun vs H1 => ∃ a ds xs O1, vs = [.ref a] ∧ SqT X.K (hid O1 H1) a xs ∧ RpA X.K (hid O1 H1) xs ds ∧ StOk X.K H0 O1 σ ρ H1 ∧ kd (enumD ds) O1) I (h H0 σ H st tk _ fun vs H1 ss O1 ⟨ds, e1, hk⟩ st1 r1 => by
    subst e1
    cases r1 with
    | cons r1 r2 =>
      cases r2
      have r1 : Rp X.K (hid O1 H1) _ (.tup ds) := r1
      cases r1 with
      | tup h1 h2 => exact ⟨_, ds, _, O1, rfl, h1, h2, st1, hk⟩)) fun us s1 hq => ?_) hs rfl))
  obtain ⟨vs, H1, I1, rv, a, ds, xs, O1, rfl, hS, hR, st1, hk⟩ := hq
  rw [Vals.ref1 rv]
  have hS' : SqT X.K H1 a xs := sqt_mono hid_le hS
  obtain ⟨its, r2, pt, hz⟩ := I1.tuple hS'
  have pt : s1.heap.IsTuple a its.toArray := pt
  have la : a < s1.heap.objs.size := by obtain ⟨o, ho, _⟩ := pt; exact Heap.lt_size ho
  refine call_enum1 (begins_tuple a its.toArray) pt fun h' he hi hk' => wpAny_pyIter_enum he ?_
  have I2 : Inv X pins σ H1 { s1 with heap := h' } := I1.kept (t' := s1.toks) hk'
  refine ⟨s1.heap.objs.size + 1, [s1.heap.objs.size + 1, s1.heap.objs.size], _, _, H1, rfl, I2, turn_enumT a (s1.heap.objs.size + 1) s1.heap.objs.size (Nat.succ_ne_self _) (Nat.ne_of_gt (Nat.lt_succ_of_lt la)) (Nat.ne_of_lt la), ⟨⟨.none, he⟩, ⟨_, hi, rfl, rfl⟩⟩, fun b hb => ?_, q _ H1 _ O1 hk st1 (itd_enumT hS hR)⟩
  have hle : s1.heap.objs.size ≤ b := by
    rcases List.mem_cons.mp hb with rfl | hb
    · exact Nat.le_succ _
    · rw [List.mem_singleton.mp hb]; exact Nat.le_refl _
  exact I1.fpOk hle (I1.hok.fresh hle)⟩
end
end Kn
namespace Kn
open PySem PySem.Spec PyProof.Rows
open L2 hiding St
section
variable {X : Cx} {O : Own} {ρ : List Slot} {x : ExK} {k : Slot → Own → Prop} {a b : Expr} {p p2 pos pos2 : Pos}
theorem rg_slots {K : PySem.W.Frag} {G : Hp} (m n : Int) : Paired (SlOk K G) (rgV m n) ((rangeD m (n - m).toNat).map .dat) := by
  unfold rgV rangeD
  rw [List.map_map]
  generalize List.range (n - m).toNat = l
  induction l with
  | nil => exact .nil
  | cons i l ih => exact .cons (.int _) ih
/-- list(range(a, b)) -/
theorem ew_listRange2 (hl : X.mg "list" = none) (hm : X.mg "range" = none) (h : EW X O ρ a x fun s O1 => EW X O1 ρ b x fun t O2 => ∃ m n, s = .dat (.int m) ∧ t = .dat (.int n) ∧ RgOk m n ∧ ∀ q, O2 q = none → k (.own q) (up O2 q (.lst ((rangeD m (n - m).toNat).map .dat))))
    (hc : X.calm = true := by rfl) (hg : Gl X "list" := by rfl) (hg2 : Gl X "range" := by rfl) (na : starEach [a, b] X.env = (false, eval a X.env) :: starEach [b] X.env := by rfl) (nb : starEach [b] X.env = (false, eval b X.env) :: starEach [] X.env := by rfl) (hp : (backTo pos2 (starEach [b] X.env)).any (·.1) = false := by rfl)
    (nc : starEach [.Call (.Name "range" p2) [a, b] [] pos2] X.env = (false, eval (.Call (.Name "range" p2) [a, b] [] pos2) X.env) :: starEach [] X.env := by rfl) :
    EW X O ρ (.Call (.Name "list" p) [.Call (.Name "range" p2) [a, b] [] pos2] [] pos) x k := fun H0 σ H st tk Q q => by
  refine we_of (pe_listRg hc hg hl (prg_2 hg2 hm pe_w pe_w na nb hp) nc) (h H0 σ H st tk _ fun v1 H1 s O1 h1 st1 r1 => ?_)
  refine h1 _ σ H1 st1.top (takes_base tk st1.base) _ fun v2 H2 t O2 h2 st2 r2 => ?_
  obtain ⟨m, n, rfl, rfl, hr, hk⟩ := h2
  cases r1
  cases r2
  exact ⟨m, n, rfl, rfl, hr, fun y hy => q _ _ _ _ (hk y (own_free st2.own hy)) ((st2.rebase st1.base).alloc hy ⟨_, rfl, rg_slots m n⟩) rfl⟩
end
end Kn
namespace Kn
open PySem PySem.Spec PyProof.Rows
open L2 hiding St
open LamX (CodeO TabB LamS lamCx lamEnv)
def datsOf : List Slot → List Dat
  | [] => []
  | s :: r => match s with
    | .dat d => d :: datsOf r
    | _ => datsOf r
theorem env_keep {K : PySem.W.Frag} {G : Hp} {σ : SV} {ρ : List Slot} (h : Paired (EnvOk K G) σ ρ) : ∃ vs, RpA K G vs (datsOf ρ) ∧ ∀ G', RpA K G' vs (datsOf ρ) → Paired (EnvOk K G') σ ρ := by
  induction h with
  | nil => exact ⟨[], .nil, fun _ _ => .nil⟩
  | @cons x s _ _ h _ ih =>
    obtain ⟨vs, h1, h2⟩ := ih
    cases s with
    | unk => exact ⟨vs, h1, fun G' r => .cons trivial (h2 G' r)⟩
    | own p => exact ⟨vs, h1, fun G' r => .cons h (h2 G' r)⟩
    | dat d =>
      obtain ⟨v, e, r⟩ := h
      refine ⟨v :: vs, .cons r h1, fun G' q => ?_⟩
      cases q with
      | cons a b => exact .cons ⟨v, e, a⟩ (h2 G' b)
def TabO (O : Own) (P : Addr) (q : Str) : Prop := ∃ ps : Array Value, O P = some (.obj (.tbl ps)) ∧ TriplesOk ps.toList ∧ ∀ (pos : Pos) (cv : Value), codeAmong pos ps.toList = some cv → ∃ c, cv = .ref c ∧ O c = some (.obj (CodeO c q))
/-- behind the making of a lambda: its code object is at c -/
structure Made (P : Addr) (q : Str) (O O' : Own) (c : Addr) : Prop where
  tab : TabO O' P q
  code : O' c = some (.obj (CodeO c q))
  keep : ∀ b v, b ≠ P → O b = some v → O' b = some v
theorem obj_at {K : PySem.W.Frag} {O : Own} {H : Hp} {p : Addr} {u : HO} (h : OwnOk K O H) (e : O p = some (.obj u)) : H p = some u := by
  obtain ⟨o, h1, h2⟩ := h.cell p _ e
  have h2 : o = u := h2
  rw [h1, h2]
section
variable {X : Cx} {pins : List (Addr × Obj)} {σ : SV} {H : Hp} {s : Shared}
theorem off_stack (I : Inv X pins σ H s) {f : Addr} (hf : s.heap.objs.size ≤ f) : f ∉ frs X.stack := fun z => by
  rcases List.mem_cons.mp (I.stkSub _ z) with e | e
  · rw [e] at hf
    exact absurd I.lt (Nat.not_lt_of_le hf)
  · exact I.nofs hf e
/-- the lambda's function object at f, as it is made -/
abbrev lamObj (X : Cx) (params : Arguments) (body : Expr) (scope : Scope) (pm : Value) (c : Addr) (ctv : Value) : Obj := PySem.W.kla_obj "<lambda>" (X.env.qual ++ "<lambda>") params body scope (cloFrom X.env.cells scope.names []) pm c ctv
theorem lam_made {c P : Addr} {params : Arguments} {body : Expr} {scope : Scope} {pos : Pos} {E : Value → Shared → Prop} {Q : Value → Shared → Prop} {ps : Array Value} (I : Inv X pins σ H s) (TB : TabB X.base X.mg c P) (hcode : X.env.code = .ref c)
    (hP : H P = some (.tbl ps)) (ht : TriplesOk ps.toList) (hcs : ∀ pos cv, codeAmong pos ps.toList = some cv → ∃ c, cv = .ref c ∧ H c = some (CodeO c (X.env.qual ++ "<lambda>")))
    (hdef : defaultsOf params X.env = ([], [])) (L : LamS X.env.scope scope)
    (hit : ∀ (f c' : Addr) (pm ctv : Value) (s' : Shared), codeAmong pos ps.toList = some (.ref c') → Inv X pins σ H s' → s'.heap.get? f = some (lamObj X params body scope pm c' ctv) → H f = none → f ∉ frs X.stack → Q (.ref f) s')
    (new : ∀ (f c' : Addr) (pm ctv : Value) (s' : Shared), codeAmong pos ps.toList = none → H c' = none → Inv X pins σ (upd (upd H P (.tbl (ps ++ #[rawInt pos.line, rawInt pos.col, .ref c']))) c' (CodeO c' (X.env.qual ++ "<lambda>"))) s' →
      s'.heap.get? f = some (lamObj X params body scope pm c' ctv) → H f = none → f ≠ c' → f ≠ P → f ∉ frs X.stack → Q (.ref f) s') :
    wpAny (model X.prog X.w) X.A (eval (.Lambda params body scope pos) X.env) Q E s := by
  have tabAt : s.heap.get? P = some { cls := .none, data := .fields ps } := I.hok P _ hP
  have glob : s.heap.Ns mainGlobals X.mg := I.mod.glob.keeps I.bk
  have code : PySem.W.CodeHd s.heap c P := TB.code.keeps I.bk
  have bmod : s.heap.BuiltinsAt X.mg P := TB.bm.keeps I.bk
  have clo := closure_ok (L.has I.ok)
  refine PySem.W.kla_eval hdef ?_
  cases among : codeAmong pos ps.toList with
  | some cv =>
    obtain ⟨c', rfl, hc'⟩ := hcs pos cv among
    refine PySem.W.kla_makeFunctionHit clo I.ok.glob glob hcode code tabAt ht among bmod fun ctv h' tk up big => ?_
    exact hit _ c' _ ctv _ among (I.kept fun b o e => Heap.get?_push_of_some _ (up b o e)) (Heap.get?_push_size _ rfl) (I.hok.fresh big) (off_stack I big)
  | none =>
    refine PySem.W.kla_makeFunction clo I.ok.glob glob hcode code tabAt ht among TB.gP bmod fun c' ctv h' tk up hge hlt rec tb => ?_
    obtain ⟨c2, oc, vs, t, e2, hoc, hd, hv⟩ := rec
    cases e2
    have big : s.heap.objs.size ≤ h'.objs.size := by omega
    have lP : P < s.heap.objs.size := Heap.lt_size tabAt
    refine new h'.objs.size c' _ ctv _ among (I.hok.fresh hge) (LamX.inv_table I hP ?_ ?_ hge ⟨oc, vs, t, Heap.get?_push_of_some _ hoc, hd, hv⟩) (Heap.get?_push_size _ rfl) (I.hok.fresh big) (Nat.ne_of_gt hlt) (Nat.ne_of_gt (Nat.lt_of_lt_of_le lP big)) (off_stack I big)
    · exact fun b o n e => Heap.get?_push_of_some _ (up b o n e)
    · exact Heap.get?_push_of_some _ tb
end
section
variable {P : Program} {w : World} {K : PySem.W.Frag} {mg : Str → Option Value} {base : Heap} {g : Bool} {k : Nat} {f : Addr} {fd : FuncData} {ps : List Str}
theorem run_sw {x qual : Str} {st : Stmt} {N : List Str} (F : FunX K x qual st f fd) (Sc : FnScope N ps (defScope st)) {A : Around} {outer : List Env} {s : Shared} {H : Hp} {args : Args} {us : List Value} {vs : List V} {Q : VK} {E : XK} {ss : List Slot} {O : Own} {R : Out → Own → Prop}
    (hr : RoomB g (k + 1) A) (e0 : Env0 P w K mg base A outer s H) (hb : BindsTo s fd args (ps.zip us)) (rv : Vals vs us) (hl : ss.length = ps.length) (own : OwnOk K O H) (pr : Paired (SlOk K (hid O H)) vs ss) (hret : RetOk K O H R Q) (herr : ErrOk K O H R E)
    (body : ∀ cdv : Value, fd.code = cdv → RoomB g k (cxOf (L2.CX P w) P w K mg base N qual (defScope st) f cdv A outer s H E).A →
      PassesOwn (model P w) (cxOf (L2.CX P w) P w K mg base N qual (defScope st) f cdv A outer s H E).A (cxOf (L2.CX P w) P w K mg base N qual (defScope st) f cdv A outer s H E).env (cxOf (L2.CX P w) P w K mg base N qual (defScope st) f cdv A outer s H E).xe →
      SW (cxOf (L2.CX P w) P w K mg base N qual (defScope st) f cdv A outer s H E) O (startS N ss) (defBody st) (fun e _ O' => R (.exc e) O') { nx := fun _ O' => R (.ret (.dat .non)) O', rt := fun z O' => R (.ret z) O' }) :
    codeAny (model P w) A (.call (.ref f) args) (CR (L2.CX P w) outer P w H s Q E) s := by
  obtain ⟨oc, od, dV, kV, doc, pm, an, cdv, ct, osl, rfl, lk, hcd⟩ := F
  have hlv : vs.length = ps.length := (paired_len pr).trans hl
  have stays : ∀ b o, base.get? b = some o → s.heap.get? b = some o := fun b o e => (e0.bs b o e).1
  have KX : K.In s.heap := e0.mod.kin.keeps stays
  have lim : s.heap.NoLimit := e0.mod.nolimit.keeps stays
  refine codeAny_call_function hr.r.depth (KX _ _ lk) rfl Sc.co Sc.gen rfl (PySem.W.codeRec_of KX hcd) (hb _ _ _ _ ?_)
  refine wpAny_newFunctionEnv_cells Sc.kind (fun y hy => ?_) fun env he s1 hin => ?_
  · rcases Sc.par y.1 (List.of_mem_zip (show (y.1, y.2) ∈ ps.zip us from hy)).1 with q | q
    · exact .inl q
    · exact .inr ⟨q, PySem.W.cellsFrom_some _ _ _ (.inl q)⟩
  subst he
  refine ⟨lim.keeps hin.toInCall.keep, codeAny_func ?_⟩
  have I := inv_start (CX := L2.CX P w) (E := E) Sc hr.r.hd e0 hlv rv hin
  have tk : Takes (cxOf (L2.CX P w) P w K mg base N qual (defScope st) f cdv A outer s H E) (Wsem K (hid O H) fun e _ O' => R (.exc e) O') :=
    (takes_of (X := cxOf (L2.CX P w) P w K mg base N qual (defScope st) f cdv A outer s H E) rfl rfl rfl rfl).imp fun cls d σ' H' ⟨e, ρ', O', h1, h2, h3⟩ => herr cls d e H' O' h1 h2.own h2.base h3
  have main := (body cdv rfl (roomB_deeper hr _) (passes_of (X := cxOf (L2.CX P w) P w K mg base N qual (defScope st) f cdv A outer s H E) rfl) (hid O H) (L2.start N vs) H ⟨own, Same.refl _, start_env pr⟩ tk { nx := fun _ H' => Q .non H', rt := Q }
    ⟨fun σ' ρ' O' H' h1 h2 => hret .non H' _ O' h1 h2.own h2.base .non, fun v z O' H' h1 h2 h3 h4 => hret v H' z O' h1 h2 h3 h4, fun _ _ _ _ h _ => h.elim, fun _ _ _ _ h _ => h.elim⟩).r [] s1 I
  refine wpAny_mono main (fun fl s' hs => ?_) fun e s' hs => hs
  cases fl with
  | ret u =>
    obtain ⟨v, σ', H', J, ru, q⟩ := hs
    exact ⟨v, H', J.os, J.bare, J.base, J.hok, ru, q⟩
  | next =>
    obtain ⟨σ', H', J, q⟩ := hs
    exact ⟨.non, H', J.os, J.bare, J.base, J.hok, rfl, q⟩
  | brk => exact hs.elim fun _ z => z.elim fun _ z => z.2.elim
  | cont => exact hs.elim fun _ z => z.elim fun _ z => z.2.elim
end
abbrev Thk := Own → (Out → Own → Prop) → Prop
/-- in the context Xc the name a holds a lambda of the contract S -/
def ActAt (Xc : Cx) (i : Nat) (a : Str) (f : Addr) (vs : List V) (ds : List Dat) (S : Thk) : Prop :=
  ∀ (pn : List (Addr × Obj)) (xe : Value → Shared → Prop) (p1 p2 : Pos) (O : Own) (ρ : List Slot) (x : ExK) (k : Slot → Own → Prop), ρ[i]? = some (.dat (.env f vs ds)) → S O (kOut x ρ k) → EW (Xc.tr pn xe) O ρ (.Call (.Name a p1) [] [] p2) x k
/-- a def that is given a lambda: what it makes of the lambda's contract -/
structure CalT (P : Program) (w : World) (K : PySem.W.Frag) (mg : Str → Option Value) (base : Heap) (g : Bool) (n : Nat) (nm : Str) (CS : Thk → Thk) : Prop where
  ex : ∃ (h : Addr) (fd : FuncData) (st : Stmt) (N : List Str) (a : Str), mg nm = some (.ref h) ∧ PySem.W.keepIn K (.ref h) = true ∧ FunX K nm nm st h fd ∧ FnScope N [a] (defScope st) ∧ Binds K fd [a] [] ∧ N[0]? = some a ∧ Vis (defScope st) a ∧
    (a == ("__debug__" : Str)) = false ∧ (a == ("__classdict__" : Str)) = false ∧
    ∀ (cdv : Value) (A : Around) (outer : List Env) (s : Shared) (H : Hp) (E : XK) (f : Addr) (vs : List V) (ds : List Dat) (S : Thk) (O : Own) (R : Out → Own → Prop), RoomB g n (cxOf (L2.CX P w) P w K mg base N nm (defScope st) h cdv A outer s H E).A →
      PassesOwn (model P w) (cxOf (L2.CX P w) P w K mg base N nm (defScope st) h cdv A outer s H E).A (cxOf (L2.CX P w) P w K mg base N nm (defScope st) h cdv A outer s H E).env (cxOf (L2.CX P w) P w K mg base N nm (defScope st) h cdv A outer s H E).xe →
      ActAt (cxOf (L2.CX P w) P w K mg base N nm (defScope st) h cdv A outer s H E) 0 a f vs ds S → CS S O R →
      SW (cxOf (L2.CX P w) P w K mg base N nm (defScope st) h cdv A outer s H E) O (startS N [.dat (.env f vs ds)]) (defBody st) (fun e _ O' => R (.exc e) O') { nx := fun _ O' => R (.ret (.dat .non)) O', rt := fun z O' => R (.ret z) O' }
section
variable {X : Cx} {pins : List (Addr × Obj)} {σ : SV} {H : Hp} {s : Shared} {g : Bool} {j : Nat}
theorem act_lam {ρ : List Slot} {vs : List V} {S : Thk} {f c' h : Addr} {pm ctv cdg : Value} {params : Arguments} {body : Expr} {scope sg : Scope} {Ng : List Str} {qg a : Str} {E : XK}
    (I : Inv X pins σ H s) (keep : ∀ G', RpA X.K G' vs (datsOf ρ) → Paired (EnvOk X.K G') σ ρ) (L : LamS X.env.scope scope) (hf : s.heap.get? f = some (lamObj X params body scope pm c' ctv)) (hfn : H f = none) (hfr : f ∉ frs X.stack)
    (hbind : ∀ (q : Str) (cl : List (Str × Addr)) (pm cv ctv : Value), bindArgs (PySem.W.kla_fn "<lambda>" q params body scope cl pm cv ctv) ⟨[], []⟩ = pure []) (hr : RoomB g (j + 1) (X.A.deeper (envOfC qg sg s.heap.objs.size h cdg)))
    (hbody : ∀ (A : Around) (outer : List Env) (s : Shared) (H : Hp) (E : XK), RoomB g j (lamCx X A outer s H E scope f c').A → ∀ O R, S O R → EW (lamCx X A outer s H E scope f c') O ρ body (fun e _ O' => R (.exc e) O') (fun z O' => R (.ret z) O'))
    (hN : Ng[0]? = some a) (hv : Vis sg a) (hd : (a == ("__debug__" : Str)) = false) (hcd : (a == ("__classdict__" : Str)) = false) :
    ActAt (cxOf (L2.CX X.prog X.w) X.prog X.w X.K X.mg X.base Ng qg sg h cdg X.A X.stack s H E) 0 a f vs (datsOf ρ) fun O R => O c' = some (.obj (CodeO c' (X.env.qual ++ "<lambda>"))) ∧ S O R := by
  intro pn xe p1 p2 OZ ρZ xZ kZ hi hcS H0 σZ HZ stZ tk Q q
  obtain ⟨hc, hS⟩ := hcS
  refine ⟨fun pinsZ sZ IZ => ?_⟩
  obtain ⟨o, e1, v, e2, rv⟩ := paired_get stZ.env hi
  subst e2
  cases rv with
  | env rA =>
    have cell := obj_at stZ.own hc
    refine wpAny_Call_Name_kw (thn ((pe_var (pos := p1) (i := 0) hN hv hd hcd).run pinsZ sZ σZ HZ (fun v H1 => v = .ref f ∧ H1 = HZ) IZ ⟨.ref f, e1, rfl, rfl⟩) fun u s1 hu => ?_)
    obtain ⟨v, H1, I1, ru, e3, e4⟩ := hu
    subst e3 e4
    obtain rfl : u = Value.ref f := ru
    have here : s1.heap.get? f = some (lamObj X params body scope pm c' ctv) := I1.base.keep f _ hf hfn hfr fun z => nomatch (show f ∈ ([] : List Addr) from z)
    refine PySem.W.callWith_F0 ⟨_, _, _, _, here⟩ ?_
    obtain ⟨⟨oc, ws, t, k1, k2, k3⟩, _, _⟩ := I1.hok c' _ cell
    refine wpAny_call (codeAny_mono (?_ : codeAny (model X.prog X.w) (X.A.deeper (envOfC qg sg s.heap.objs.size h cdg)) (.call (.ref f) ⟨[], []⟩) (CR (L2.CX X.prog X.w) (envOfC qg sg s.heap.objs.size h cdg :: X.stack) X.prog X.w H1 s1 Q fun cls d H' => Wsem X.K H0 xZ cls d σZ H') s1) fun r s' hq => ?_)
    · refine PySem.W.kla_callFunE hr.r.depth here rfl L.co L.gen rfl ⟨c', oc, ws, t, rfl, k1, k2, k3⟩ ?_
      rw [hbind]
      refine wpAny_pure (wpAny_newFunctionEnv (fun y hy => (L.own y hy).2) (fun y hy => nomatch hy) (fun h1 ns sb => ⟨I1.nolimit.fresh _ sb, ?_⟩) L.kind)
      have old : ∀ b o, s1.heap.get? b = some o → h1.get? b = some o := fun b o e => sb.extBut b o (Nat.ne_of_lt (Heap.lt_size e)) (Heap.get?_push_of_some _ e)
      have J := LamX.lam_start2 (E := fun cls d H' => Wsem X.K H0 xZ cls d σZ H') (f := f) (c' := c') (tk := s1.toks + ([] : List (Str × Value)).length) I L I1.env0 hr.r.hd I1.base ns old
      have tkL : Takes (lamCx X (X.A.deeper (envOfC qg sg s.heap.objs.size h cdg)) (envOfC qg sg s.heap.objs.size h cdg :: X.stack) s1 H1 (fun cls d H' => Wsem X.K H0 xZ cls d σZ H') scope f c') (Wsem X.K (hid OZ H1) fun e _ O' => kOut xZ ρZ kZ (.exc e) O') :=
        (takes_of (X := lamCx X (X.A.deeper (envOfC qg sg s.heap.objs.size h cdg)) (envOfC qg sg s.heap.objs.size h cdg :: X.stack) s1 H1 (fun cls d H' => Wsem X.K H0 xZ cls d σZ H') scope f c') rfl rfl rfl rfl).imp
          fun cls d σ' H' ⟨e, ρ', O', z1, z2, z3⟩ => ⟨e, ρZ, O', z1, stZ.next z2.own z2.base, z3⟩
      have run := (hbody (X.A.deeper (envOfC qg sg s.heap.objs.size h cdg)) (envOfC qg sg s.heap.objs.size h cdg :: X.stack) s1 H1 (fun cls d H' => Wsem X.K H0 xZ cls d σZ H') (roomB_deeper hr _) OZ (kOut xZ ρZ kZ) hS (hid OZ H1) σ H1 ⟨stZ.own, Same.refl _, keep _ rA⟩ tkL Q
        fun v H' z O' z1 z2 z3 => q v H' z O' z1 (stZ.next z2.own z2.base) z3).r [] _ J
      refine PySem.W.kla_codeExpr (wpAny_mono run (fun v s' hq => ?_) fun e s' hq => hq)
      obtain ⟨v', H', J', rv', hq⟩ := hq
      exact ⟨v', H', J'.os, J'.bare, J'.base, J'.hok, rv', hq⟩
    · cases r with
      | error e => exact tk e s' (XE.of_call I1 (fun _ _ _ h => h) hq)
      | ok fl =>
        cases fl with
        | ret u => exact I1.after hq
        | next => exact False.elim hq
        | brk => exact False.elim hq
        | cont => exact False.elim hq
/-- NAME(lambda: body) -/
theorem ew_lamCall {O : Own} {ρ : List Slot} {x : ExK} {k : Slot → Own → Prop} {n : Nat} {nm : Str} {c P : Addr} {S : Thk} {CS : Thk → Thk} {params : Arguments} {body : Expr} {scope : Scope} {p lpos pos : Pos}
    (cl : CalT X.prog X.w X.K X.mg X.base g n nm CS) (hr : RoomB g (j + 2) X.A) (TB : TabB X.base X.mg c P) (hcode : X.env.code = .ref c) (hT : TabO O P (X.env.qual ++ "<lambda>"))
    (hbody : ∀ (A : Around) (outer : List Env) (s : Shared) (H : Hp) (E : XK) (f c' : Addr), RoomB g j (lamCx X A outer s H E scope f c').A → ∀ O R, S O R → EW (lamCx X A outer s H E scope f c') O ρ body (fun e _ O' => R (.exc e) O') (fun z O' => R (.ret z) O'))
    (h : ∀ (c' : Addr) (O1 : Own), Made P (X.env.qual ++ "<lambda>") O O1 c' → CS (fun O2 R => O2 c' = some (.obj (CodeO c' (X.env.qual ++ "<lambda>"))) ∧ S O2 R) O1 (kOut x ρ k))
    (L : LamS X.env.scope scope) (hn : n ≤ j + 1 := by decide) (hg : Gl X nm := by rfl) (hdb : (nm == ("__debug__" : Str)) = false := by decide) (hdef : defaultsOf params X.env = ([], []) := by rfl)
    (hbind : ∀ (q : Str) (cl : List (Str × Addr)) (pm cv ctv : Value), bindArgs (PySem.W.kla_fn "<lambda>" q params body scope cl pm cv ctv) ⟨[], []⟩ = pure [] := by intros; rfl) :
    EW X O ρ (.Call (.Name nm p) [.Lambda params body scope lpos] [] pos) x k := fun H0 σ H st tk Q q => ⟨fun pins s I => by
  obtain ⟨hc, fd, stm, N, a, hm, hk, F, Sc, hb, hN, hv, hd, hcd, run⟩ := cl.ex
  obtain ⟨ps, t1, t2, t3⟩ := hT
  have hP := obj_at st.own t1
  have after : ∀ (f c' : Addr) (pm ctv : Value) (H1 : Hp) (s1 : Shared) (O1 : Own), Inv X pins σ H1 s1 → s1.heap.get? f = some (lamObj X params body scope pm c' ctv) → H1 f = none → f ∉ frs X.stack → Made P (X.env.qual ++ "<lambda>") O O1 c' → StOk X.K H0 O1 σ ρ H1 →
      wpAny (model X.prog X.w) X.A (call (.ref hc) [.ref f]) (EP X pins σ Q) X.xe s1 := by
    intro f c' pm ctv H1 s1 O1 I1 at_ hfn hfr md st1
    obtain ⟨vs, rA, keep⟩ := env_keep st1.env
    refine wpAny_call (codeAny_mono (run_sw (A := X.A) (outer := X.stack) (s := s1) (H := H1) (args := ⟨[.ref f], []⟩) (us := [.ref f]) (vs := [.ref f]) (ss := [.dat (.env f vs (datsOf ρ))]) (R := kOut x ρ k) (Q := Q) (E := fun cls d H' => Wsem X.K H0 x cls d σ H') F Sc (hr.mono (show n + 1 ≤ j + 2 by omega) fun z => z) I1.env0
      (hb s1 [.ref f] I1.kIn rfl) (.cons rfl .nil) rfl st1.own (.cons (.env rA) .nil) (fun v H' z O' z1 z2 z3 z4 => q v H' z O' z1 (st1.next z2 z3) z4) (fun cls d e H' O' z1 z2 z3 z4 => ⟨e, ρ, O', z1, st1.next z2 z3, z4⟩)
      fun cdv _ hrB hpo => run cdv X.A X.stack s1 H1 _ f vs _ _ O1 (kOut x ρ k) hrB hpo (act_lam I1 keep L at_ hfn hfr hbind (roomB_deeper hr _) (fun A outer s H E => hbody A outer s H E f c') hN hv hd hcd) (h c' O1 md)) fun r s' hq => ?_)
    cases r with
    | error e => exact tk e s' (XE.of_call I1 (fun _ _ _ h => h) hq)
    | ok fl =>
      cases fl with
      | ret u => exact I1.after hq
      | next => exact False.elim hq
      | brk => exact False.elim hq
      | cont => exact False.elim hq
  refine wpAny_Call_Name_kw (ld_glob I hg hm ?_ hdb)
  refine PySem.W.callWith_K (h₀ := X.base) I.ok.mod.kin hk ?_ (by rfl) (by rfl)
  refine Calls.spliced_cons (x := eval (.Lambda params body scope lpos) X.env) ?_
  refine lam_made I TB hcode hP t2 (fun pos cv e => ?_) hdef L (fun f c' pm ctv s1 am I1 at_ hfn hfr => ?_) fun f c' pm ctv s1 am hc' I1 at_ hfn n1 n2 hfr => ?_
  · obtain ⟨c0, e0, e1⟩ := t3 pos cv e
    exact ⟨c0, e0, obj_at st.own e1⟩
  · obtain ⟨c0, e0, e1⟩ := t3 _ _ am
    cases e0
    exact Calls.spliced_nil ⟨I1.kIn, after f c' pm ctv H s1 O I1 at_ hfn hfr ⟨⟨ps, t1, t2, t3⟩, e1, fun _ _ _ e => e⟩ st⟩
  · have nP : c' ≠ P := fun e => by rw [e, hP] at hc'; cases hc'
    have free : O c' = none := own_free st.own hc'
    have st2 := (st.write (o := .tbl (ps ++ #[rawInt lpos.line, rawInt lpos.col, .ref c'])) (c := .obj (.tbl (ps ++ #[rawInt lpos.line, rawInt lpos.col, .ref c']))) t1 rfl).alloc (p := c') (o := CodeO c' (X.env.qual ++ "<lambda>")) (c := .obj (CodeO c' (X.env.qual ++ "<lambda>"))) (by rw [upd_ne nP]; exact hc') rfl
    have off : ∀ b v, b ≠ P → O b = some v → up (up O P (.obj (.tbl (ps ++ #[rawInt lpos.line, rawInt lpos.col, .ref c'])))) c' (.obj (CodeO c' (X.env.qual ++ "<lambda>"))) b = some v := fun b v nb e => by
      rw [up_ne (fun z => by rw [z, free] at e; cases e), up_ne nb]; exact e
    refine Calls.spliced_nil ⟨I1.kIn, after f c' pm ctv _ s1 _ I1 at_ (by rw [upd_ne n1, upd_ne n2]; exact hfn) hfr ⟨⟨_, by rw [up_ne nP.symm, up_at], ?_, fun pos' cv e => ?_⟩, up_at, off⟩ st2⟩
    · rw [show (ps ++ #[rawInt lpos.line, rawInt lpos.col, .ref c']).toList = ps.toList ++ [rawInt lpos.line, rawInt lpos.col, .ref c'] by simp]
      exact PySem.TriplesOk_snoc _ _ _ _ t2
    · rw [show (ps ++ #[rawInt lpos.line, rawInt lpos.col, .ref c']).toList = ps.toList ++ [rawInt lpos.line, rawInt lpos.col, .ref c'] by simp] at e
      rcases LamX.among_app _ t2 e with z | z
      · obtain ⟨c0, e0, e1⟩ := t3 _ _ z
        exact ⟨c0, e0, off _ _ (fun y => by rw [y, t1] at e1; injection e1 with e1; injection e1 with e1; exact LamX.codeO_ne _ e1.symm) e1⟩
      · exact ⟨c', z, up_at⟩⟩
end
end Kn
namespace Kn
open PySem PySem.Spec PyProof.Rows
open L2 hiding St
open LamX (TabB)
/-- a def's contract where its code object is known -/
theorem fn_mkCode {P : Program} {w : World} {K : PySem.W.Frag} {mg : Str → Option Value} {base : Heap} {g : Bool} {k : Nat} {f c : Addr} {fd : FuncData} {ps : List Str} {S : SpecT} {x qual : Str} {st : Stmt} {N : List Str} (F : FunX K x qual st f fd) (hc : fd.code = .ref c) (Sc : FnScope N ps (defScope st))
    (len : ∀ ss O R, S ss O R → ss.length = ps.length)
    (body : ∀ (A : Around) (outer : List Env) (s : Shared) (H : Hp) (E : XK) (ss : List Slot) (O : Own) (R : Out → Own → Prop), RoomB g k (cxOf (L2.CX P w) P w K mg base N qual (defScope st) f (.ref c) A outer s H E).A →
      PassesOwn (model P w) (cxOf (L2.CX P w) P w K mg base N qual (defScope st) f (.ref c) A outer s H E).A (cxOf (L2.CX P w) P w K mg base N qual (defScope st) f (.ref c) A outer s H E).env (cxOf (L2.CX P w) P w K mg base N qual (defScope st) f (.ref c) A outer s H E).xe → S ss O R →
      SW (cxOf (L2.CX P w) P w K mg base N qual (defScope st) f (.ref c) A outer s H E) O (startS N ss) (defBody st) (fun e _ O' => R (.exc e) O') { nx := fun _ O' => R (.ret (.dat .non)) O', rt := fun z O' => R (.ret z) O' }) :
    Fn P w K mg base g (k + 1) f fd ps S :=
  ⟨len, fun A outer s H args us vs Q E hr e0 hb r ⟨O, ss, R, own, pr, hS, hret, herr⟩ => run_sw F Sc hr e0 hb r (len _ _ _ hS) own pr hret herr fun cdv e hrB hpo => by
    rw [hc] at e
    subst e
    exact body A outer s H E ss O R hrB hpo hS⟩
/-- the law's def: its table of code objects is empty -/
def LawTS (T : Addr) : SpecT := fun ss O R => ∃ ns : List Int, ss = [.dat (.fro (ns.map .int))] ∧ ns.length ≤ 63 ∧ O T = some (.obj (.tbl #[])) ∧ ∀ O', R (.ret (.dat (.bl true))) O'
theorem tabO_nil {O : Own} {T : Addr} {q : Str} (h : O T = some (.obj (.tbl #[]))) : TabO O T q := ⟨#[], h, True.intro, fun pos cv e => by
  have e : codeAmong pos [] = some cv := e
  cases e⟩
section
variable {P : Program} {w : World} {K : PySem.W.Frag} {mg mb : Str → Option Value} {base : Heap} {n : Nat} {fa a c T : Addr} {fd : FuncData} {x : Str} {ns : List Int} {s sh : Shared} {H : Hp} {vs : List Value}
theorem fn_atT (F : Fn P w K mg base true n fa fd [x] (LawTS T)) (hr : RoomB true n callerA) (e0 : Env0 P w K mg base callerA [] s H) (hb : BindsTo s fd ⟨[.ref a], []⟩ [(x, .ref a)]) (hT : H T = some (.tbl #[])) (hne : a ≠ T) (hS : SqL K H a (ns.map V.int)) (hl : ns.length ≤ 63) :
    codeAny (model P w) callerA (.call (.ref fa) ⟨[.ref a], []⟩) (CR (L2.CX P w) [] P w H s (fun v _ => v = .bl true) fun _ _ _ => False) s := by
  refine F.run callerA [] s H ⟨[.ref a], []⟩ [.ref a] [.ref a] _ _ hr e0 hb (.cons rfl .nil) ?_
  have own : OwnOk K (up noO T (.obj (.tbl #[]))) H := ⟨fun p c hp => by
    by_cases e : p = T
    · subst e
      rw [up_at] at hp; cases hp
      exact ⟨_, hT, rfl⟩
    · rw [up_ne e] at hp; cases hp⟩
  refine ⟨up noO T (.obj (.tbl #[])), [.dat (.fro (ns.map .int))], fun o _ => o = .ret (.dat (.bl true)), own, .cons ?_ .nil, ⟨ns, rfl, hl, up_at, fun _ => rfl⟩, fun v H' z O' e1 _ _ r => ?_, fun cls d e H' O' e1 => ?_⟩
  · refine Rp.fro (xs := ns.map V.int) ?_ (ints_rp ns)
    have there : ∀ u, H a = some u → hid (up noO T (.obj (.tbl #[]))) H a = some u := fun u e => by rw [hid_none (by rw [up_ne hne]; rfl)]; exact e
    rcases hS with (h | ⟨o, h⟩) | h
    · exact .inl (.inl (there _ h))
    · exact .inl (.inr ⟨o, there _ h⟩)
    · exact .inr h
  · cases e1
    cases r
    rfl
  · cases e1
theorem run_lawT (kin : K.In sh.heap) (glob : sh.heap.Ns mainGlobals mg) (blt : sh.heap.Ns builtinsNs mb) (bltE : ∀ y : Str, y ≠ "__name__" → mb y = bootBuiltins y) (lim : sh.heap.NoLimit) (gen : sh.gens = #[])
    (hobj : sh.heap.get? a = some { cls := .type "list", data := .seq vs.toArray }) (hint : IntsAre vs ns) (hlen : ns.length ≤ 63) (hr : RoomB true n callerA)
    (tab : sh.heap.get? T = some { cls := .none, data := .fields #[] }) (tabK : K.lookup T = none) (code : PySem.W.CodeHd sh.heap c T)
    (bmod : ∃ bm ob, mg "__builtins__" = some (.ref bm) ∧ bm ≠ builtinsNs ∧ sh.heap.get? bm = some ob ∧ ob.cls = .type "module" ∧ ob.dict = some builtinsNs ∧ ob.data = .plain)
    (F : ∀ base : Heap, K.In base → base.Ns mainGlobals mg → TabB base mg c T → Fn P w K mg base true n fa fd [x] (LawTS T)) (hbind : ∀ (s : Shared) (u : Value), BindsTo s fd ⟨[u], []⟩ [(x, u)]) :
    codeAny (model P w) callerA (.call (.ref fa) ⟨[.ref a], []⟩) (fun r s' => r = .ok (.ret (.bool true)) ∧ OldK sh.heap s'.heap ∧ s'.os = sh.os ∧ AllBare s'.gens) sh := by
  have vals := vals_ints hint
  have small : ns.length ≤ sizeLine := Nat.le_trans hlen (by decide)
  have aT : a ≠ T := fun e => by
    rw [e, tab] at hobj
    cases hobj
  -- H tells of the table, and of the script or not
  suffices main : ∀ S : Option HO, (S = none ∨ S = some (.frz { cls := .type "list", data := .seq vs.toArray } (.lst (ns.map V.int)))) → (S ≠ none → K.lookup a = none) → (S = none → SqL K (fun _ => none) a (ns.map V.int)) →
      codeAny (model P w) callerA (.call (.ref fa) ⟨[.ref a], []⟩) (fun r s' => r = .ok (.ret (.bool true)) ∧ OldK sh.heap s'.heap ∧ s'.os = sh.os ∧ AllBare s'.gens) sh by
    cases hk : K.lookup a with
    | some o =>
      have eo := (kin a o hk).symm.trans hobj
      cases eo
      exact main none (.inl rfl) (fun z => absurd rfl z) fun _ => .inr ⟨_, vs.toArray, _, hk, rfl, rfl, rfl, by rw [List.size_toArray, hint.length]; exact small, by simpa using vals⟩
    | none => exact main (some _) (.inr rfl) (fun _ => hk) fun z => nomatch z
  intro S hS notK frz
  let H : Hp := fun b => if b = T then some (.tbl #[]) else if b = a then S else none
  have HT : H T = some (.tbl #[]) := if_pos rfl
  have Ha : H a = S := (if_neg aT).trans (if_pos rfl)
  have Hx : ∀ b, b ≠ T → b ≠ a → H b = none := fun b h1 h2 => (if_neg h1).trans (if_neg h2)
  have only : ∀ b, b ≠ T → H b = none ∨ ∃ o xs, H b = some (.frz o (.lst xs)) := fun b h1 => by
    by_cases e : b = a
    · rw [e, Ha]
      exact hS.imp id fun z => ⟨_, _, z⟩
    · exact .inl (Hx b h1 e)
  have sq : SqL K H a (ns.map V.int) := by
    rcases hS with e | e
    · rcases frz e with (h | ⟨o, h⟩) | h
      · exact nomatch (show (none : Option HO) = some _ from h)
      · exact nomatch (show (none : Option HO) = some _ from h)
      · exact .inr h
    · exact .inl (.inr ⟨_, Ha.trans e⟩)
  have hok : HOk P w H sh.heap := fun b u e => by
    by_cases e1 : b = T
    · subst e1
      rw [HT] at e; cases e
      exact tab
    · by_cases e2 : b = a
      · subst e2
        rw [Ha] at e
        rcases hS with z | z <;> rw [z] at e <;> cases e
        exact ⟨hobj, by rw [List.length_map]; exact small, vs, _, vals, hobj⟩
      · rw [Hx b e1 e2] at e; cases e
  -- what is neither the script nor the table stands in the base
  have free : ∀ {b : Addr} {o : Obj}, sh.heap.get? b = some o → (∀ ws m, o.data ≠ .seq ws m) → o.data ≠ .fields #[] → H b = none := fun {b o} e n1 n2 => by
    refine Hx b (fun z => ?_) fun z => ?_
    · rw [z, tab] at e
      cases e
      exact n2 rfl
    · rw [z, hobj] at e
      cases e
      exact n1 _ _ rfl
  have at_base : ∀ {b : Addr} {o : Obj}, sh.heap.get? b = some o → H b = none → (hidT sh.heap H).get? b = some o := fun e z => hidT_get e z
  have nsB : ∀ {b : Addr} {m : Str → Option Value}, sh.heap.Ns b m → (hidT sh.heap H).Ns b m := fun {b m} z => by
    obtain ⟨o, es, ep, e, d, r⟩ := z
    exact ⟨o, es, ep, at_base e (free e (fun ws m y => by rw [d] at y; cases y) fun y => by rw [d] at y; cases y), d, r⟩
  have kinB : K.In (hidT sh.heap H) := fun b o e => at_base (kin b o e) (by
    by_cases e1 : b = T
    · rw [e1, tabK] at e; cases e
    · by_cases e2 : b = a
      · rw [e2, Ha]
        rcases hS with y | y
        · exact y
        · rw [e2, notK (by rw [y]; exact fun q => nomatch q)] at e; cases e
      · exact Hx b e1 e2)
  have codeB : PySem.W.CodeHd (hidT sh.heap H) c T := by
    obtain ⟨o, us, file, tf, flags, tg, inF, text, tt, e1, r1, r2, r3, rest⟩ := code
    refine ⟨o, us, file, tf, flags, tg, inF, text, tt, at_base e1 (free e1 (fun ws m y => by rw [r2] at y; cases y) fun y => ?_), r1, r2, r3, rest⟩
    rw [r2] at y
    cases y
    simp at r3
  have noG : ∀ {b : Addr} {o : Obj}, sh.heap.get? b = some o → o.data = .plain → b ≠ mainGlobals := fun {b o} e d z => by
    obtain ⟨o2, es, ep, e2, d2, _⟩ := glob
    rw [z, e2] at e
    cases e
    rw [d2] at d
    cases d
  have TB : TabB (hidT sh.heap H) mg c T := by
    obtain ⟨bm, ob, b1, b2, b3, b4, b5, b6⟩ := bmod
    refine ⟨codeB, ⟨bm, ob, b1, b2, noG b3 b6, fun z => ?_, at_base b3 (free b3 (fun ws m y => by rw [b6] at y; cases y) fun y => by rw [b6] at y; cases y), b4, b5, b6⟩, fun z => ?_⟩
    · rw [z, tab] at b3
      cases b3
      cases b6
    · obtain ⟨o2, es, ep, e2, d2, _⟩ := glob
      rw [z, tab] at e2
      cases e2
      cases d2
  have limB : (hidT sh.heap H).NoLimit := by
    obtain ⟨mc, h1, h2⟩ := lim
    exact ⟨mc, nsB h1, h2⟩
  have e0 : Env0 P w K mg (hidT sh.heap H) callerA [] sh H :=
    { frames := rfl, mod := ⟨kinB, nsB glob, ⟨mb, nsB blt, bltE⟩, limB⟩, bs := fun b o e => of_hidT e, bsz := Nat.le_of_eq (hidT_size _ _), funs := trivial, frf := fun b hb => absurd (show b ∈ ([] : List Addr) from hb) List.not_mem_nil, hok := hok, bare := .of_eq gen }
  refine codeAny_mono (fn_atT (F _ kinB (nsB glob) TB) hr e0 (hbind sh (.ref a)) HT aT sq hlen) fun r s' h => ?_
  cases r with
  | error e =>
    have h : L2.CX P w [] H sh (fun _ _ _ => False) e s' := h
    obtain ⟨_, _, _, _, _, _, _, _, _, _, h⟩ := h
    exact False.elim h.2.2
  | ok fl =>
    cases fl with
    | next => exact False.elim h
    | brk => exact False.elim h
    | cont => exact False.elim h
    | ret u =>
      obtain ⟨v, H', os, bare, un, hok', rv, q⟩ := h
      have q : v = .bl true := q
      subst q
      obtain rfl : u = Value.bool true := rv
      obtain ⟨more, grew⟩ := un.tbls T #[] HT
      have tab' := hok' T _ grew
      have kept : ∀ b o, b ≠ T → sh.heap.get? b = some o → s'.heap.get? b = some o := fun b o nb e => by
        rcases only b nb with z | ⟨ob, xs, z⟩
        · exact un.keep b o e z (fun y => nomatch (show b ∈ ([] : List Addr) from y)) fun y => nomatch y
        · obtain ⟨e1, _⟩ := hok b _ z
          obtain ⟨e2, _⟩ := hok' b _ (un.frzs b ob _ z)
          cases e.symm.trans e1
          exact e2
      refine ⟨rfl, ⟨fun b o e => ?_, fun b o e => ?_⟩, os, bare⟩
      · by_cases hb : b = T
        · subst hb
          cases e.symm.trans tab
          exact .inr (.inl ⟨(code.tab tab).isCodeTable, rfl, #[], more, rfl, tab'⟩)
        · exact .inl (kept b o hb e)
      · by_cases hb : b = T
        · exact ⟨_, by rw [hb]; exact tab'⟩
        · exact ⟨o, kept b o hb e⟩
end
def isTabB (o : Obj) : Bool := match o.cls, o.data with
  | .none, .fields vs => vs.isEmpty
  | _, _ => false
def noT (g : Addr → Option Obj) : Addr → Option Obj := fun a => match g a with
  | some o => bif isTabB o then none else some o
  | none => none
theorem noT_at {g : Addr → Option Obj} {a : Addr} {o : Obj} (h : noT g a = some o) : g a = some o ∧ isTabB o = false := by
  unfold noT at h
  cases e : g a with
  | none => rw [e] at h; cases h
  | some u =>
    rw [e] at h
    cases t : isTabB u with
    | true =>
      have h : (bif isTabB u then none else some u) = some o := h
      rw [t] at h; cases h
    | false =>
      have h : (bif isTabB u then none else some u) = some o := h
      rw [t] at h; cases h
      exact ⟨rfl, t⟩
def Look.obT (L : Look) (lo len : Nat) (s : PySem.W.SharedT) : Look.Got := ran (partOf (noT (HandSHeadRun.getT s)) lo len) L.seen
section
variable (lo len : Nat) (Ls : List Look)
def obLT (s : PySem.W.SharedT) : List Look.Got := Ls.map fun L => L.obT lo len s
def hookLT : PySem.W.Hook where
  α := List Look.Got
  obs := fun s => Ls.map fun L => ran (partOf (noT s.heap.get?) lo len) L.seen
  val := fun _ => Ls.map Look.good
  says := fun _ h => ∃ K : PySem.W.Frag, K.In h ∧ (∀ b o, K.lookup b = some o → isTabB o = false) ∧ ∀ L ∈ Ls, L.Holds K
  of := fun _ s e => ⟨partOf (noT s.heap.get?) lo len, fun b o z => (noT_at (He.frG_at _ z)).1, fun b o z => (noT_at (He.frG_at _ z)).2, fun L hL => (ran_eq _ _).symm.trans (List.map_inj_left.mp e L hL)⟩
  keeps := fun _ _ _ ⟨K, hK, n, c⟩ k => ⟨K, PySem.W.Frag.In.keeps hK k, n, c⟩
theorem obLT_eq (s : PySem.W.SharedT) : obLT lo len Ls s = (hookLT lo len Ls).obs s.abs := by
  have e : HandSHeadRun.getT s = s.abs.heap.get? := funext fun a => HandSHeadRun.getT_eq s a
  unfold obLT Look.obT
  rw [e]
  rfl
variable {lo len Ls}
theorem run_partsT {β γ : Type} {f : Option PySem.W.SharedT} {A : PySem.W.SharedT → β} {B : PySem.W.SharedT → γ} {a : β} {b : γ} (h0 : f.map (fun s => (A s, B s)) = some (a, b)) (h : ∀ L ∈ Ls, f.map (L.obT lo len) = some L.good) :
    f.map (fun s => (A s, B s, obLT lo len Ls s)) = some (a, b, Ls.map Look.good) := by
  cases f with
  | none => cases h0
  | some s =>
    have e0 : (A s, B s) = (a, b) := Option.some.inj h0
    have e1 : A s = a := congrArg Prod.fst e0
    have e2 : B s = b := congrArg Prod.snd e0
    have e3 : obLT lo len Ls s = Ls.map Look.good := List.map_inj_left.mpr fun L hL => Option.some.inj (h L hL)
    show some (A s, B s, obLT lo len Ls s) = _
    rw [e1, e2, e3]
end
/-- the end of a law whose def makes lambdas, over such a head -/
theorem law_lookT {l : PySem.W.OpenLaw} {n : Nat} {q : Program} {loose : List Str} {XP : (Str → Option Value) → Heap → Prop} {d : DefRec} {x nm : Str} {st : Stmt} {Z : PySem.W.Frag → Prop} {lo len : Nat} {Ls : List Look}
    (hn : l.most = some 63) (hdf : d.params.defaults = []) (hnm : d.name = nm) (hq : d ∈ recsOf q) (hr : Room n callerA) (hg : callerA.guards = some []) (hz : ∀ K, (∀ L ∈ Ls, L.Holds K) → Z K) (hD : ∀ K, Z K → DefIn K nm st) (hb : BindsAs nm st [x])
    (F : ∀ (w : World) (K : PySem.W.Frag) (mg : Str → Option Value) (f c T : Addr) (fd : FuncData), Z K → TopOf K mg → L2.Fun K nm nm st f fd → fd.code = .ref c → ∀ base : Heap, K.In base → TabB base mg c T → Fn l.prog w K mg base true n f fd [x] (LawTS T)) :
    PySem.W.WalkO q loose XP (hookLT lo len Ls).says l.row.toRowW d [] (fun f vs => PySem.call f vs) := by
  refine Att.attach_call hn hdf fun w s0 s1 mg mb fa o pm cd doc a vs ns G Y ho hd hcd hmg hobj hints hlen hgen => ?_
  obtain ⟨K, kin, noTab, c⟩ := Y
  have Tp : TopOf K mg := ⟨_, kin, G.T.g⟩
  obtain ⟨f, fd, ha, hF⟩ := (hD K (hz K c)).ex
  obtain ⟨f2, o2, fd2, cc, T, t1, t2, t3, t4, t5, t6⟩ := G.T.tab d hq
  rw [hnm] at hmg t1
  have e := hmg.symm.trans (Tp.is ha)
  cases e
  have e := hmg.symm.trans t1
  cases e
  obtain ⟨oc, od, kV, doc', pm', an, cdv, ct, osl, rfl, lk, _⟩ := id hF.ex
  have e := (kin _ _ lk).symm.trans t2
  cases e
  cases t3
  have tab := t6.2
  exact run_lawT kin G.T.g G.T.b G.T.builtins G.T.nolimit hgen hobj hints hlen ⟨hr, fun _ => hg⟩ tab (by
      cases z : K.lookup T with
      | none => rfl
      | some u =>
        have e1 := (kin _ _ z).symm.trans tab
        cases e1
        cases noTab _ _ z) (PySem.W.CodeHd.of t5 t6) G.T.bmain (fun base kb nb tb => F w K mg fa cc T _ (hz K c) Tp hF t4 base kb tb) fun s u => .of_eq (hb _ _ _ _ _ _ [u] rfl)
end Kn
namespace Kn
open PySem PySem.Spec PyProof.Rows
open L2 hiding St
section
variable {X : Cx} {O : Own} {k : Slot → Own → Prop} {S : SpecT} {n : Nat}
/-- what a call leaves alone -/
def Left (X : Cx) (H H' : Hp) (h h' : Heap) : Prop := ∀ b o, h.get? b = some o → H b = none → b ∉ frs X.stack → h'.get? b = some o ∧ H' b = none
def EPL (X : Cx) (pins : List (Addr × Obj)) (σ : SV) (H : Hp) (sh : Shared) (Q : VK) (u : Value) (s' : Shared) : Prop := ∃ v H', Inv X pins σ H' s' ∧ RelV v u ∧ Q v H' ∧ Left X H H' sh.heap s'.heap
theorem after_left {pins : List (Addr × Obj)} {σ : SV} {H : Hp} {sh s' : Shared} {Q : VK} {u : Value} (I : Inv X pins σ H sh) (h : CE X.stack X.prog X.w H sh Q u s') : EPL X pins σ H sh Q u s' := by
  obtain ⟨v, H', os, bare, un, hok, rv, q⟩ := h
  obtain ⟨v2, H2, I2, rv2, e1, e2⟩ := I.after (Q := fun x Y => x = v ∧ Y = H') (u := u) ⟨v, H', os, bare, un, hok, rv, rfl, rfl⟩
  subst e1 e2
  exact ⟨v2, H2, I2, rv2, q, fun b o e hn hf => ⟨un.keep b o e hn hf (fun z => nomatch z), un.free b o e hn (fun z => nomatch z)⟩⟩
theorem no_exc {H : Hp} {sh s' : Shared} {e : Value} (h : L2.CX X.prog X.w X.stack H sh (fun _ _ _ => False) e s') : False := by
  obtain ⟨_, _, _, _, _, _, _, _, _, _, h⟩ := h
  exact h.2.2
/-- run at some place above the caller; what is not tracked stays -/
theorem run_un {f : Addr} {fd : FuncData} {ps : List Str} {vs : List V} {us : List Value} {ss : List Slot} {pins : List (Addr × Obj)} {sh : Shared} {σ σ2 : SV} {ρ' : List Slot} {H0 H : Hp} {Q : VK} {A : Around}
    (F : Fn X.prog X.w X.K X.mg X.base false n f fd ps S) (hr : Room n A) (e0 : Env0 X.prog X.w X.K X.mg X.base A X.stack sh H) (hb : Binds X.K fd ps []) (I : Inv X pins σ H sh) (st : StOk X.K H0 O σ2 ρ' H) (rv : Vals vs us)
    (pr : Paired (SlOk X.K (hid O H)) vs ss) (hS : S ss O (kVal k)) (q : ∀ v H' s O', k s O' → StOk X.K H0 O' σ2 ρ' H' → SlOk X.K (hid O' H') v s → Q v H') :
    wpAny (model X.prog X.w) A (call (.ref f) us) (EPL X pins σ H sh Q) (fun _ _ => False) sh := by
  have sp : spS X.K S vs H Q (fun _ _ _ => False) := ⟨O, ss, kVal k, st.own, pr, hS,
    fun v H' s' O' h1 h2 h3 h4 => q v H' s' O' h1 (st.next h2 h3) h4, fun cls d e H' O' h1 h2 h3 h4 => h1⟩
  have hl : us.length = ps.length := by rw [← rv.length]; exact spS_len F.len _ _ _ _ sp
  have hb' := hb sh us I.kIn (by rw [List.append_nil]; exact hl)
  rw [List.append_nil] at hb'
  refine wpAny_call (codeAny_mono (F.ok.run A X.stack sh H ⟨us, []⟩ us vs Q _ hr e0 hb' rv sp) fun r s' hq => ?_)
  cases r with
  | error e => exact no_exc hq
  | ok fl =>
    cases fl with
    | ret u => exact after_left I hq
    | next => exact False.elim hq
    | brk => exact False.elim hq
    | cont => exact False.elim hq
theorem runN_un {f : Addr} {fd : FuncData} {ps : List Str} {S : Nat → SpecT} {vs : List V} {us : List Value} {ss : List Slot} {pins : List (Addr × Obj)} {sh : Shared} {σ σ2 : SV} {ρ' : List Slot} {H0 H : Hp} {Q : VK} {A : Around}
    (F : FnN X.prog X.w X.K X.mg X.base n f fd ps S) (hr : Room n A) (e0 : Env0 X.prog X.w X.K X.mg X.base A X.stack sh H) (hb : Binds X.K fd ps []) (I : Inv X pins σ H sh) (st : StOk X.K H0 O σ2 ρ' H) (rv : Vals vs us)
    (pr : Paired (SlOk X.K (hid O H)) vs ss) (hS : S sh.heap.objs.size ss O (kVal k)) (q : ∀ v H' s O', k s O' → StOk X.K H0 O' σ2 ρ' H' → SlOk X.K (hid O' H') v s → Q v H') :
    wpAny (model X.prog X.w) A (call (.ref f) us) (EPL X pins σ H sh Q) (fun _ _ => False) sh := by
  have sp : spS X.K (S sh.heap.objs.size) vs H Q (fun _ _ _ => False) := ⟨O, ss, kVal k, st.own, pr, hS,
    fun v H' s' O' h1 h2 h3 h4 => q v H' s' O' h1 (st.next h2 h3) h4, fun cls d e H' O' h1 h2 h3 h4 => h1⟩
  have hl : us.length = ps.length := by rw [← rv.length, paired_len pr]; exact F.len _ _ _ _ hS
  have hb' := hb sh us I.kIn (by rw [List.append_nil]; exact hl)
  rw [List.append_nil] at hb'
  refine wpAny_call (codeAny_mono (F.run A X.stack sh H ⟨us, []⟩ us vs Q _ hr e0 hb' rv sp) fun r s' hq => ?_)
  cases r with
  | error e => exact no_exc hq
  | ok fl =>
    cases fl with
    | ret u => exact after_left I hq
    | next => exact False.elim hq
    | brk => exact False.elim hq
    | cont => exact False.elim hq
/-- the list object at q -/
abbrev lsO (vs : List Value) (c : Nat) : Obj := { cls := .type "list", data := .seq vs.toArray c }
/-- how long it says to be: by its own __len__ -/
theorem own_len {A : Around} {s : Shared} {a C f : Addr} {ox : Obj} {od : Option Obj} {K : PySem.W.Frag} {Q : Bool → Shared → Prop} {E : Value → Shared → Prop} (hK : K.In s.heap) (J : PySem.W.InstAt s.heap a ox C od) (hs : PySem.W.findIn K (.ref C) "__len__" = some (some (.ref f)))
    (h : wpAny (model X.prog X.w) A (call (.builtin "len") [.ref a]) (fun u s' => ∃ i t, u = .int i t ∧ 0 ≤ i ∧ i ≤ 1000000 ∧ Q (i != 0) s') (fun _ _ => False) s) : wpAny (model X.prog X.w) A (Builtin.List.listLengthHint (.ref a)) Q E s := by
  unfold Builtin.List.listLengthHint
  refine wpAny_bind (wpAny_bind (J.type.here ((PySem.W.looks_findIn hK hs).here ?_)))
  refine PySem.W.KFB.if_not rfl ?_
  refine PySem.W.KFB.if_so rfl ?_
  refine wpAny_bind (wpAny_rule ?_)
  refine wpAny_bind (wpAny_attempt (wpAny_mono h (fun u s' z => ?_) fun _ _ z => z.elim))
  obtain ⟨i, t, rfl, h0, h1, q⟩ := z
  refine wpAny_bind (m := asInt? (.int i t)) (wpAny_pure ?_)
  refine PySem.W.KFB.if_not ?_ (wpAny_pure q)
  unfold Builtin.List.listTooLong
  rw [decide_eq_false_iff_not, sizeLine_eq]
  omega
/-- the list at q is filled along the tuple at t -/
theorem fill_tup {P : Program} {w : World} {A : Around} {s : Shared} {q it t : Addr} {c : Nat} {items : Array Value} {R : Result → Shared → Prop} (hh : A.in1.handled = none) (hq : s.heap.get? q = some (lsO [] c)) (hi : s.heap.IsTupleIter it t 0) (ht : s.heap.IsTuple t items) (n1 : q ≠ it) (n2 : q ≠ t) (n3 : t ≠ it) (hl : items.size ≤ sizeLine)
    (h : ∀ h' tk c', (∀ b o, b ≠ q → b ≠ it → s.heap.get? b = some o → h'.get? b = some o) → h'.get? q = some (lsO items.toList c') → R (.ok (.ret .none)) { s with heap := h', toks := tk }) :
    codeAny (model P w) A (.builtin "list.extend.loop" ⟨[.ref q, .ref it, .none], []⟩) R s := by
  refine codeAny_extend_loopS (Walks.tuple hh it t n3 items).toS hl q (by simp [n1, n2]) .none items.size 0 s #[] c rfl (Nat.zero_le _) ⟨hi, ht⟩ hq (ItemsOf.nil _) fun s' acc c' hm hq' hacc => ?_
  rw [Moved.eq_with hm]
  refine h _ _ c' (fun b o h1 h2 e => hm.heap b o (by simp [h1, h2]) e) ?_
  have ea : acc = items := Array.ext (by exact hacc.1) fun j h1 h2 => by
    have := hacc.2 j _ (Array.getElem?_eq_getElem h1)
    have this : items[j]? = some acc[j] := this
    rw [Array.getElem?_eq_getElem h2] at this
    exact (Option.some.inj this).symm
  rw [hq', ea]
/-- `list.extend` of the new list by an own object -/
theorem extend_own {C : Addr} {SI : Nat → SpecT} {SL : SpecT} {nI nL : Nat} {s1 : Slot} {A : Around} {s : Shared} {H H0 : Hp} {σ σ2 : SV} {ρ' : List Slot} {pins : List (Addr × Obj)} {a q : Addr} {R : Result → Shared → Prop}
    (M : MIter X.prog X.w X.K X.mg X.base nI C SI) (ml : MCal X.prog X.w X.K X.mg X.base false nL C "__len__" SL []) (hI : Room nI A.in1) (hL : Room nL A.in1.in1) (hh : A.in1.handled = none) (e0 : ∀ {s H}, Inv X pins σ H s → Env0 X.prog X.w X.K X.mg X.base A.in1 X.stack s H) (h1 : tySl O (.ref C) s1)
    (I : Inv X pins σ H s) (st : StOk X.K H0 O σ2 ρ' H) (rs : SlOk X.K (hid O H) (.ref a) s1) (hq : s.heap.get? q = some (lsO [] 0)) (qn : H q = none) (qf : FpOk X pins H q) (qs : q ∉ frs X.stack)
    (h : ∀ N, SI N [s1] O (kVal fun z O2 => ∃ it ds, z = .own it ∧ O it = none ∧ N ≤ it ∧ O2 = up O it (.itr ds) ∧ ds.length ≤ sizeLine ∧ SL [s1] O2 (kVal fun y O3 => ∃ i : Int, y = .dat (.int i) ∧ 0 ≤ i ∧ i ≤ 1000000 ∧ O3 = O2 ∧ ∀ q, O q = none → k (.own q) (up O q (.lst (ds.map .dat))))))
    (out : ∀ s' H', Inv X pins σ H' s' → (∃ O', k (.own q) O' ∧ StOk X.K H0 O' σ2 ρ' H') → R (.ok (.ret .none)) s') :
    wpAny (model X.prog X.w) A.in1 (Builtin.List.listExtendWith (.ref q) (.ref a) .none)
      (fun fin s' => match fin with | .done f => R (.ok f) s' | .again c' => c'.quiet = true ∧ codeAny (model X.prog X.w) A c' R s') (fun e s' => R (.error e) s') s := by
  obtain ⟨a', dx, fs, ea, ha⟩ := ins_sl h1 st rs
  cases ea
  have nqa : q ≠ a := fun e => by rw [e, ha] at qn; cases qn
  obtain ⟨f, fd, ps, hs, hf, F, hb⟩ := M
  obtain ⟨f2, fd2, ps2, hs2, hf2, F2, hb2⟩ := ml.bare
  obtain ⟨ox, od, J⟩ := insAt_of I ha
  obtain ⟨m0, hF⟩ := I.fr
  unfold Builtin.List.listExtendWith
  refine wpAny_bind (J.type.here ?_)
  have d1 : Builtin.List.listSameRef (.ref q) (.ref a) = false := by simp [Builtin.List.listSameRef, nqa]
  have d2 : ((.ref C : Value) == .type "list") = false := rfl
  have d3 : ((.ref C : Value) == .type "tuple") = false := rfl
  simp only [d1, d2, d3, Bool.or_false, Bool.false_eq_true, if_false]
  refine wpAny_bind (PySem.W.owit_iter hF I.ok.mod.kin J hs hf ?_)
  refine wpAny_mono (runN_un (Q := fun v H' => ∃ it ds O2, v = .ref it ∧ O it = none ∧ s.heap.objs.size ≤ it ∧ O2 = up O it (.itr ds) ∧ StOk X.K (hid O H) O2 σ2 ρ' H' ∧ ds.length ≤ sizeLine ∧ SL [s1] O2 (kVal fun y O3 => ∃ i : Int, y = .dat (.int i) ∧ 0 ≤ i ∧ i ≤ 1000000 ∧ O3 = O2 ∧ ∀ q, O q = none → k (.own q) (up O q (.lst (ds.map .dat)))))
    F hI (e0 I) hb I st.top (vs := [.ref a]) (us := [.ref a]) (.cons rfl .nil) (.cons rs .nil) (h _) fun v H' z O' hz st' r' => ?_) (fun u s2 hu => ?_) fun _ _ z => z.elim
  · obtain ⟨it, ds, rfl, z1, z2, z3, z4, z5⟩ := hz
    obtain rfl : v = .ref it := r'
    exact ⟨it, ds, O', rfl, z1, z2, z3, st', z4, z3 ▸ z5⟩
  obtain ⟨v2, H2, I2, rv2, ⟨it, ds, O2, rfl, itn, itN, eO, st2, hds, hlen⟩, left2⟩ := hu
  cases rv2
  subst eO
  obtain ⟨ob, c1, t, xs, rfl, c2, c3⟩ := st2.own.cell it _ up_at
  have hi : s2.heap.IsTupleIter it t 0 := (I2.hok it _ c1).1
  refine wpAny_specialOf (s := s2) hi.typeIs _root_.PySem.F.slot_tuple_iterator_next.lookup ?_
  obtain ⟨hq2, qn2⟩ := left2 q _ hq qn qs
  have niq : q ≠ it := fun e => by
    have := Heap.lt_size hq
    rw [e] at this
    exact absurd itN (Nat.not_le_of_lt this)
  have rs2 : SlOk X.K (hid (up O it (.itr ds)) H2) (.ref a) s1 := SlOk.mono st2.base rs
  have ty2 : tySl (up O it (.itr ds)) (.ref C) s1 := by
    cases s1 with
    | unk => exact h1
    | dat d => cases d <;> exact h1
    | own p =>
      rcases h1 with ⟨C', dx', fs', e, e'⟩ | ⟨ss, e, e'⟩
      · exact .inl ⟨C', dx', fs', by rw [up_ne (own_ne e itn)]; exact e, e'⟩
      · exact .inr ⟨ss, by rw [up_ne (own_ne e itn)]; exact e, e'⟩
  obtain ⟨a', dx2, fs2, ea, ha2⟩ := ins_sl ty2 st2 rs2
  cases ea
  obtain ⟨ox2, od2, J2⟩ := insAt_of I2 ha2
  obtain ⟨m2, hF2⟩ := I2.fr
  refine wpAny_bind (wpAny_holding (own_len I2.kIn J2 hs2 (PySem.W.len_K hF2 I2.ok.mod.kin J2 hs2 hf2 ?_)))
  refine wpAny_mono (run_un (Q := fun v H' => ∃ i : Int, v = .int i ∧ 0 ≤ i ∧ i ≤ 1000000 ∧ StOk X.K (hid O H) (up O it (.itr ds)) σ2 ρ' H' ∧ ∀ q, O q = none → k (.own q) (up O q (.lst (ds.map .dat))))
    F2 hL (e0 I2).in1 hb2 I2 st2 (vs := [.ref a]) (us := [.ref a]) (.cons rfl .nil) (.cons rs2 .nil) hlen fun v H' z O' hz st' r' => ?_) (fun u s3 hu => ?_) fun _ _ z => z.elim
  · obtain ⟨i, rfl, z1, z2, rfl, z4⟩ := hz
    cases r'
    exact ⟨i, rfl, z1, z2, st', z4⟩
  obtain ⟨v3, H3, I3, rv3, ⟨i, rfl, i0, i1, st3, hk⟩, left3⟩ := hu
  obtain ⟨tk, rfl⟩ := rv3
  obtain ⟨hq3, qn3⟩ := left3 q _ hq2 qn2 qs
  refine ⟨⟨i0, by omega⟩, i, _, rfl, i0, i1, ?_⟩
  obtain ⟨ob, c1, t, xs, rfl, c2, c3⟩ := st3.own.cell it _ up_at
  have hi : s3.heap.IsTupleIter it t 0 := (I3.hok it _ c1).1
  obtain ⟨its, ri, pl, hz⟩ := I3.tuple (sqt_mono hid_le c2)
  have ht : s3.heap.IsTuple t its.toArray := pl
  have nqt : q ≠ t := fun e => by
    rw [← e] at ht
    obtain ⟨oq, t1, t2, t3⟩ := ht
    cases t1.symm.trans hq3
    injection t2 with t2
    exact absurd t2 (by decide)
  have nti : t ≠ it := fun e => by
    rw [e] at ht
    obtain ⟨o1, t1, t2, t3⟩ := ht
    obtain ⟨o2, t4, t5, t6⟩ := hi
    cases t1.symm.trans t4
    have t6 := t2.symm.trans t5
    injection t6 with t6
    exact absurd t6 (by decide)
  have hxs : xs.length = ds.length := c3.length
  have fill : ∀ (s5 : Shared) (cc : Nat), (∀ b o, b ≠ q → s3.heap.get? b = some o → s5.heap.get? b = some o) → s5.gens = s3.gens → s5.drawn = s3.drawn → s5.os = s3.os → s5.heap.get? q = some (lsO [] cc) → codeAny (model X.prog X.w) A (.builtin "list.extend.loop" ⟨[.ref q, .ref it, .none], []⟩) R s5 := by
    intro s5 cc keep g1 g2 g3 hq5
    refine fill_tup hh hq5 (Heap.IsTupleIter.at hi fun o e => keep _ _ niq.symm e) (Heap.IsTuple.at ht fun o e => keep _ _ nqt.symm e) niq nqt nti (by rw [List.size_toArray, ← ri.length]; exact hz) fun h' tk c' keep' hq' => ?_
    have I4 := ItX.inv_drop I3 c1
    have f1 := ItX.inv_fp I3 c1 (Nat.le_trans I.sz itN)
    have f2 : FpOk X pins (ItX.dropH H3 it) q := ⟨by rw [ItX.dropH_ne niq]; exact qn3, qf.2⟩
    have I5 : Inv X pins σ (ItX.dropH H3 it) { s3 with heap := h', toks := tk } := I4.turnedL (ch := [it, q]) (fun b o nb e => keep' b o (fun z => nb (by simp [z])) (fun z => nb (by simp [z])) (keep b o (fun z => nb (by simp [z])) e)) fun b hb => by
      simp only [List.mem_cons, List.not_mem_nil, or_false] at hb
      rcases hb with rfl | rfl
      · exact f1
      · exact f2
    have I6 := I5.take (o := .lst xs) (h' := h') (t' := tk) (fun b ob _ e => e) f2 ⟨hz, its, c', ri, by simpa using hq'⟩
    have eh : hid O (ItX.dropH H3 it) = hid (up O it (.itr ds)) H3 := hid_drop itn
    have st6 : StOk X.K (hid O H) O σ2 ρ' (ItX.dropH H3 it) := by
      refine ⟨⟨fun p c hp => ?_⟩, by rw [eh]; exact st3.base, by rw [eh]; exact st3.env⟩
      obtain ⟨o, g1, g2⟩ := st3.own.cell p c (by rw [up_ne (own_ne hp itn)]; exact hp)
      exact ⟨o, by rw [ItX.dropH_ne (own_ne hp itn)]; exact g1, by rw [eh]; exact g2⟩
    have es : ({ s5 with heap := h', toks := tk } : Shared) = { s3 with heap := h', toks := tk } := by
      cases s5; cases s3; simp_all
    rw [es]
    exact out _ _ I6 ⟨_, hk q (own_free st6.own f2.1), (st6.alloc (o := .lst xs) (c := .lst (ds.map .dat)) f2.1 ⟨xs, rfl, by rw [eh]; exact c3.paired⟩).rebase st.base⟩
  refine wpAny_ite_split (fun _ => ?_) (fun _ => wpAny_pure ⟨plainId_quiet PySem.F.plain_extend_loop _, fill _ 0 (fun b o _ e => e) rfl rfl rfl hq3⟩)
  refine wpAny_bind (wpAny_rule (wpAny_bind ?_))
  show wpAny _ _ (updateSeq q (fun z => z.push .none) >>= fun _ => updateSeq q fun z => z.pop) _ _ _
  refine wpAny_bind (wpAny_updateSeq hq3 rfl ?_)
  have hq4 := Heap.get?_update_self (Obj.mapSeq fun z => z.push Value.none) hq3 rfl
  refine wpAny_updateSeq (hz := by seq_fits) hq4 rfl ?_
  have hq5 := Heap.get?_update_self (Obj.mapSeq fun z => z.pop) hq4 rfl
  exact wpAny_pure ⟨plainId_quiet PySem.F.plain_extend_loop _, fill _ _ (fun b o nb e => (Heap.get?_update_other _ _ nb.symm).trans ((Heap.get?_update_other _ _ nb.symm).trans e)) rfl rfl rfl hq5⟩
/-- list(o) -/
theorem cb_listOwn {C : Addr} {SI : Nat → SpecT} {SL : SpecT} {nI nL : Nat} {s1 : Slot} (M : MIter X.prog X.w X.K X.mg X.base nI C SI) (ml : MCal X.prog X.w X.K X.mg X.base false nL C "__len__" SL []) (hr : Room (n + 3) X.A) (hI : nI ≤ n) (hL : nL ≤ n) (h1 : tySl O (.ref C) s1)
    (h : ∀ N, SI N [s1] O (kVal fun z O2 => ∃ it ds, z = .own it ∧ O it = none ∧ N ≤ it ∧ O2 = up O it (.itr ds) ∧ ds.length ≤ sizeLine ∧ SL [s1] O2 (kVal fun y O3 => ∃ i : Int, y = .dat (.int i) ∧ 0 ≤ i ∧ i ≤ 1000000 ∧ O3 = O2 ∧ ∀ q, O q = none → k (.own q) (up O q (.lst (ds.map .dat)))))) :
    CaB X (.type "list") [s1] O k := by
  refine ⟨fun xs H Q => ∃ (x : V) (H0 : Hp) (σ2 : SV) (ρ' : List Slot), xs = [x] ∧ StOk X.K H0 O σ2 ρ' H ∧ SlOk X.K (hid O H) x s1 ∧ ∀ v H' s O', k s O' → StOk X.K H0 O' σ2 ρ' H' → SlOk X.K (hid O' H') v s → Q v H', ?_, fun H0 σ ρ' H vs st pr Q q => ?_⟩
  · intro pins sh σ H xs us Q I r hq
    obtain ⟨x, H0, σ2, ρ', rfl, st, r1, q⟩ := hq
    obtain ⟨a, dx, fs, rfl, ha⟩ := ins_sl h1 st r1
    obtain ⟨u, rfl, ru⟩ := r.one
    cases ru
    refine callType_codes (Q₁ := fun obj s₁ => obj = .ref sh.heap.objs.size ∧ s₁ = { sh with heap := sh.heap.push (lsO [] 0) }) PySem.F.called_list
      (PySem.F.typeCall_list_1 _) PySem.F.entry_list_init (code_list_new _ ⟨rfl, rfl⟩) fun obj sx e => ?_
    obtain ⟨rfl, rfl⟩ := e
    have hq : (sh.heap.push (lsO [] 0)).get? sh.heap.objs.size = some (lsO [] 0) := Heap.get?_push_size _ rfl
    refine ⟨⟨_, hq, rfl⟩, PySem.F.args_list_init_2 _ _, ?_⟩
    have free : H sh.heap.objs.size = none := I.hok.fresh (Nat.le_refl _)
    have fp : FpOk X pins H sh.heap.objs.size := I.fpOk (Nat.le_refl _) free
    have I1 : Inv X pins σ H { sh with heap := sh.heap.push (lsO [] 0) } := I.kept fun b o e => Heap.get?_push_of_some _ e
    have I2 := I1.turnedL (h' := (sh.heap.push (lsO [] 0)).update sh.heap.objs.size (Obj.mapSeq fun _ => #[])) (t' := sh.toks) (ch := [sh.heap.objs.size]) (fun b o nb e => (Heap.get?_update_other _ _ fun z => nb (by simp [z])).trans e) fun b hb => by rw [List.mem_singleton.mp hb]; exact fp
    show wpAny _ _ (do let old ← Builtin.List.listItems (.ref sh.heap.objs.size); Builtin.List.listUpdate (.ref sh.heap.objs.size) (fun _ => #[]); letGo old.toList.reverse
                       Builtin.List.listExtendWith (.ref sh.heap.objs.size) (.ref a) .none) _ _ _
    refine wpAny_bind ?_
    unfold Builtin.List.listItems
    refine wpAny_bind (wpAny_seqItems hq rfl (wpAny_pure ?_))
    show wpAny _ _ (updateSeq sh.heap.objs.size (fun _ => #[]) >>= fun _ => letGo (#[] : Array Value).toList.reverse >>= fun _ =>
      Builtin.List.listExtendWith (.ref sh.heap.objs.size) (.ref a) .none) _ _ _
    refine wpAny_bind (wpAny_updateSeq hq rfl (wpAny_bind (wpAny_letGo ?_)))
    exact extend_own (A := X.A.in1) (k := k) (R := wants (fun r s₂ => r = .none ∧ EP X pins σ Q (.ref sh.heap.objs.size) s₂) X.xe) M ml (Room.mono (Room.in1 (Room.in1 hr)) (by omega)) (Room.mono (Room.in1 (Room.in1 (Room.in1 hr))) (by omega)) hr.hd (fun I => I.env0.in1.in1) h1 I2 st r1 (Heap.get?_update_self _ hq rfl) free fp
      (off_stack I (Nat.le_refl _)) h fun s' H' I' ⟨O', hk, st'⟩ => ⟨rfl, .ref sh.heap.objs.size, H', I', rfl, q (.ref sh.heap.objs.size) H' (.own sh.heap.objs.size) O' hk st' rfl⟩
  · cases pr with
    | cons r1 pr =>
      cases pr
      exact ⟨_, H0, σ, ρ', rfl, st, r1, q⟩
end
end Kn
namespace Lw
open PySem PySem.Spec PyProof.Rows
open L2 hiding St
open Kn
def topS (i : Nat) : Stmt := PySem.Challenge.pw_keptnomore_k04_trees_read_or_refused.main.body.getD i (.Pass ⟨0, 0, 0, 0⟩)
abbrev s_split_words : Stmt := topS 4
theorem sc_split_words : FnScope ["row"] ["row"] (defScope s_split_words) := ⟨rfl, rfl, rfl, by decide +kernel, rfl, by decide +kernel, by decide +kernel⟩
abbrev s_is_made_of : Stmt := topS 5
abbrev N_is_made_of : List Str := ["value", "letters", "most", "sign"]
theorem sc_is_made_of : FnScope ["value", "letters", "most", "sign"] ["value", "letters", "most"] (defScope s_is_made_of) := ⟨rfl, rfl, rfl, by decide +kernel, rfl, by decide +kernel, by decide +kernel⟩
abbrev s_is_name : Stmt := topS 6
theorem sc_is_name : FnScope ["value"] ["value"] (defScope s_is_name) := ⟨rfl, rfl, rfl, by decide +kernel, rfl, by decide +kernel, by decide +kernel⟩
abbrev s_is_figure : Stmt := topS 7
theorem sc_is_figure : FnScope ["value"] ["value"] (defScope s_is_figure) := ⟨rfl, rfl, rfl, by decide +kernel, rfl, by decide +kernel, by decide +kernel⟩
abbrev s_is_mark : Stmt := topS 8
theorem sc_is_mark : FnScope ["value"] ["value"] (defScope s_is_mark) := ⟨rfl, rfl, rfl, by decide +kernel, rfl, by decide +kernel, by decide +kernel⟩
abbrev s_own_copy : Stmt := topS 9
theorem sc_own_copy : FnScope ["value", "one"] ["value"] (defScope s_own_copy) := ⟨rfl, rfl, rfl, by decide +kernel, rfl, by decide +kernel, by decide +kernel⟩
abbrev s_NoTree_init : Stmt := inClass (topS 12) 0
theorem sc_NoTree_init : FnScope ["self", "at"] ["self", "at"] (defScope s_NoTree_init) := ⟨rfl, rfl, rfl, by decide +kernel, rfl, by decide +kernel, by decide +kernel⟩
abbrev s_NoBundle_init : Stmt := inClass (topS 13) 0
abbrev s_is_event : Stmt := topS 15
theorem sc_is_event : FnScope ["value"] ["value"] (defScope s_is_event) := ⟨rfl, rfl, rfl, by decide +kernel, rfl, by decide +kernel, by decide +kernel⟩
abbrev s_event_of : Stmt := topS 16
theorem sc_event_of : FnScope ["word", "name", "colon", "mark"] ["word"] (defScope s_event_of) := ⟨rfl, rfl, rfl, by decide +kernel, rfl, by decide +kernel, by decide +kernel⟩
abbrev s_Row_init : Stmt := inClass (topS 17) 1
theorem sc_Row_init : FnScope ["self"] ["self"] (defScope s_Row_init) := ⟨rfl, rfl, rfl, by decide +kernel, rfl, by decide +kernel, by decide +kernel⟩
abbrev s_Row_is_whole : Stmt := inClass (topS 17) 2
theorem sc_Row_is_whole : FnScope ["self"] ["self"] (defScope s_Row_is_whole) := ⟨rfl, rfl, rfl, by decide +kernel, rfl, by decide +kernel, by decide +kernel⟩
abbrev s_Row_can_take : Stmt := inClass (topS 17) 3
theorem sc_Row_can_take : FnScope ["self", "value"] ["self", "value"] (defScope s_Row_can_take) := ⟨rfl, rfl, rfl, by decide +kernel, rfl, by decide +kernel, by decide +kernel⟩
abbrev s_Row_take : Stmt := inClass (topS 17) 4
theorem sc_Row_take : FnScope ["self", "event", "name", "mark", "tree", "above"] ["self", "event"] (defScope s_Row_take) := ⟨rfl, rfl, rfl, by decide +kernel, rfl, by decide +kernel, by decide +kernel⟩
abbrev s_Tree_init : Stmt := inClass (topS 18) 0
abbrev N_Tree_init : List Str := ["self", "name", "mark", "children", "child", "node"]
theorem sc_Tree_init : FnScope ["self", "name", "mark", "children", "child", "node"] ["self", "name", "mark", "children"] (defScope s_Tree_init) := ⟨rfl, rfl, rfl, by decide +kernel, rfl, by decide +kernel, by decide +kernel⟩
abbrev s_Tree_read : Stmt := inClass (topS 18) 1
abbrev N_Tree_read : List Str := ["cls", "text", "word"]
theorem sc_Tree_read : FnScope ["cls", "text", "word"] ["cls", "text"] (defScope s_Tree_read) := ⟨rfl, rfl, rfl, by decide +kernel, rfl, by decide +kernel, by decide +kernel⟩
abbrev s_Tree_from_events : Stmt := inClass (topS 18) 2
theorem sc_Tree_from_events : FnScope ["cls", "events", "row", "at", "event"] ["cls", "events"] (defScope s_Tree_from_events) := ⟨rfl, rfl, rfl, by decide +kernel, rfl, by decide +kernel, by decide +kernel⟩
abbrev s_Tree_len : Stmt := inClass (topS 18) 3
theorem sc_Tree_len : FnScope ["self"] ["self"] (defScope s_Tree_len) := ⟨rfl, rfl, rfl, by decide +kernel, rfl, by decide +kernel, by decide +kernel⟩
abbrev s_Tree_iter : Stmt := inClass (topS 18) 4
theorem sc_Tree_iter : FnScope ["self"] ["self"] (defScope s_Tree_iter) := ⟨rfl, rfl, rfl, by decide +kernel, rfl, by decide +kernel, by decide +kernel⟩
abbrev s_Tree_eq : Stmt := inClass (topS 18) 5
theorem sc_Tree_eq : FnScope ["self", "other"] ["self", "other"] (defScope s_Tree_eq) := ⟨rfl, rfl, rfl, by decide +kernel, rfl, by decide +kernel, by decide +kernel⟩
abbrev s_Tree_str : Stmt := inClass (topS 18) 6
theorem sc_Tree_str : FnScope ["self"] ["self"] (defScope s_Tree_str) := ⟨rfl, rfl, rfl, by decide +kernel, rfl, by decide +kernel, by decide +kernel⟩
abbrev s_Tree_events : Stmt := inClass (topS 18) 7
abbrev s_law_box : Stmt := topS 20
abbrev N_law_box : List Str := ["_law_script", "_law_k", "_law_own", "_law_cell", "_law_seed"]
theorem sc_law_box : FnScope ["_law_script", "_law_k", "_law_own", "_law_cell", "_law_seed"] ["_law_script", "_law_k", "_law_own"] (defScope s_law_box) := ⟨rfl, rfl, rfl, by decide +kernel, rfl, by decide +kernel, by decide +kernel⟩
abbrev s_law_take : Stmt := topS 21
theorem sc_law_take : FnScope ["_law_box_here", "_law_many", "_law_digit", "_law_raw", "_law_wide"] ["_law_box_here", "_law_many"] (defScope s_law_take) := ⟨rfl, rfl, rfl, by decide +kernel, rfl, by decide +kernel, by decide +kernel⟩
abbrev s_law_mixed : Stmt := topS 22
theorem sc_law_mixed : FnScope ["_law_box_here", "_law_items", "_law_left", "_law_found", "_law_turn"] ["_law_box_here", "_law_items"] (defScope s_law_mixed) := ⟨rfl, rfl, rfl, by decide +kernel, rfl, by decide +kernel, by decide +kernel⟩
abbrev s_law_names : Stmt := topS 23
abbrev N_law_names : List Str := ["_law_box_here", "_law_many", "_law_letters", "_law_first", "_law_form", "_law_found", "_law_k"]
theorem sc_law_names : FnScope ["_law_box_here", "_law_many", "_law_letters", "_law_first", "_law_form", "_law_found", "_law_k"] ["_law_box_here", "_law_many"] (defScope s_law_names) := ⟨rfl, rfl, rfl, by decide +kernel, rfl, by decide +kernel, by decide +kernel⟩
abbrev s_law_tree : Stmt := topS 24
theorem sc_law_tree : FnScope ["_law_box_here", "_law_names_here", "_law_most", "_law_marks", "_law_heads", "_law_rows", "_law_mark", "_law_turn", "_law_children"] ["_law_box_here", "_law_names_here", "_law_most"] (defScope s_law_tree) := ⟨rfl, rfl, rfl, by decide +kernel, rfl, by decide +kernel, by decide +kernel⟩
abbrev s_law_events : Stmt := topS 25
theorem sc_law_events : FnScope ["_law_tree_here", "_law_name", "_law_mark", "_law_children", "_law_found", "_law_child"] ["_law_tree_here"] (defScope s_law_events) := ⟨rfl, rfl, rfl, by decide +kernel, rfl, by decide +kernel, by decide +kernel⟩
abbrev s_law_text : Stmt := topS 26
abbrev N_law_text : List Str := ["_law_events_here", "_law_event_here"]
theorem sc_law_text : FnScope ["_law_events_here", "_law_event_here"] ["_law_events_here"] (defScope s_law_text) := ⟨rfl, rfl, rfl, by decide +kernel, rfl, by decide +kernel, by decide +kernel⟩
abbrev s_law_is_name : Stmt := topS 27
abbrev N_law_is_name : List Str := ["_law_word", "_law_letters", "_law_sign"]
theorem sc_law_is_name : FnScope ["_law_word", "_law_letters", "_law_sign"] ["_law_word"] (defScope s_law_is_name) := ⟨rfl, rfl, rfl, by decide +kernel, rfl, by decide +kernel, by decide +kernel⟩
abbrev s_law_is_figure : Stmt := topS 28
abbrev N_law_is_figure : List Str := ["_law_word", "_law_sign"]
theorem sc_law_is_figure : FnScope ["_law_word", "_law_sign"] ["_law_word"] (defScope s_law_is_figure) := ⟨rfl, rfl, rfl, by decide +kernel, rfl, by decide +kernel, by decide +kernel⟩
abbrev s_law_event : Stmt := topS 29
theorem sc_law_event : FnScope ["_law_word", "_law_spot"] ["_law_word"] (defScope s_law_event) := ⟨rfl, rfl, rfl, by decide +kernel, rfl, by decide +kernel, by decide +kernel⟩
abbrev s_law_is_event : Stmt := topS 30
theorem sc_law_is_event : FnScope ["_law_value", "_law_word", "_law_name", "_law_mark"] ["_law_value"] (defScope s_law_is_event) := ⟨rfl, rfl, rfl, by decide +kernel, rfl, by decide +kernel, by decide +kernel⟩
abbrev s_law_due : Stmt := topS 31
theorem sc_law_due : FnScope ["_law_values", "_law_deep", "_law_at", "_law_value"] ["_law_values"] (defScope s_law_due) := ⟨rfl, rfl, rfl, by decide +kernel, rfl, by decide +kernel, by decide +kernel⟩
abbrev s_law_heard : Stmt := topS 32
abbrev N_law_heard : List Str := ["_law_call", "_law_found", "e"]
theorem sc_law_heard : FnScope ["_law_call", "_law_found", "e"] ["_law_call"] (defScope s_law_heard) := ⟨rfl, rfl, rfl, by decide +kernel, rfl, by decide +kernel, by decide +kernel⟩
abbrev s_law_bent : Stmt := topS 33
theorem sc_law_bent : FnScope ["_law_box_here", "_law_values", "_law_odd_here", "_law_at", "_law_form", "_law_one", "_law_other"] ["_law_box_here", "_law_values", "_law_odd_here"] (defScope s_law_bent) := ⟨rfl, rfl, rfl, by decide +kernel, rfl, by decide +kernel, by decide +kernel⟩
abbrev s_law_odd : Stmt := topS 34
theorem sc_law_odd : FnScope ["_law_fresh", "_law_odd_here", "_law_words"] ["_law_fresh"] (defScope s_law_odd) := ⟨rfl, rfl, rfl, by decide +kernel, rfl, by decide +kernel, by decide +kernel⟩
abbrev s_law : Stmt := topS 35
abbrev N_law : List Str := ["_law_script", "_law_k", "_law_box_here", "_law_names_here", "_law_events_here", "_law_text_here", "_law_made", "_law_other", "_law_node", "_law_turn", "_law_values", "_law_words", "_law_more", "_law_odd_here", "_law_others", "_law_at", "_law_kept", "_law_own", "_law_due_here", "_law_some", "_law_word", "_law_found"]
theorem sc_law : FnScope ["_law_script", "_law_k", "_law_box_here", "_law_names_here", "_law_events_here", "_law_text_here", "_law_made", "_law_other", "_law_node", "_law_turn", "_law_values", "_law_words", "_law_more", "_law_odd_here", "_law_others", "_law_at", "_law_kept", "_law_own", "_law_due_here", "_law_some", "_law_word", "_law_found"] ["_law_script"] (defScope s_law) := ⟨rfl, rfl, rfl, by decide +kernel, rfl, by decide +kernel, by decide +kernel⟩
def k_NAME_LETTERS : Str := ltrs
def k_DIGITS : Str := digs
def k_TAKEN : List Str := takenW
structure Facts (K : PySem.W.Frag) : Prop where
  n_isinstance : PySem.W.nsIn K mainGlobals "isinstance" = some none
  n_str : PySem.W.nsIn K mainGlobals "str" = some none
  n_all : PySem.W.nsIn K mainGlobals "all" = some none
  n_len : PySem.W.nsIn K mainGlobals "len" = some none
  n_int : PySem.W.nsIn K mainGlobals "int" = some none
  n_bool : PySem.W.nsIn K mainGlobals "bool" = some none
  n_list : PySem.W.nsIn K mainGlobals "list" = some none
  n_tuple : PySem.W.nsIn K mainGlobals "tuple" = some none
  n_property : PySem.W.nsIn K mainGlobals "property" = some none
  n_classmethod : PySem.W.nsIn K mainGlobals "classmethod" = some none
  n_enumerate : PySem.W.nsIn K mainGlobals "enumerate" = some none
  n_iter : PySem.W.nsIn K mainGlobals "iter" = some none
  n_abs : PySem.W.nsIn K mainGlobals "abs" = some none
  n_range : PySem.W.nsIn K mainGlobals "range" = some none
  n_repr : PySem.W.nsIn K mainGlobals "repr" = some none
  n_max : PySem.W.nsIn K mainGlobals "max" = some none
  n_min : PySem.W.nsIn K mainGlobals "min" = some none
  d_split_words : DefIn K "split_words" s_split_words
  d_is_made_of : DefIn K "is_made_of" s_is_made_of
  d_is_name : DefIn K "is_name" s_is_name
  d_is_figure : DefIn K "is_figure" s_is_figure
  d_is_mark : DefIn K "is_mark" s_is_mark
  d_own_copy : DefIn K "own_copy" s_own_copy
  d_is_event : DefIn K "is_event" s_is_event
  d_event_of : DefIn K "event_of" s_event_of
  d_law_box : DefIn K "_law_box" s_law_box
  d_law_take : DefIn K "_law_take" s_law_take
  d_law_mixed : DefIn K "_law_mixed" s_law_mixed
  d_law_names : DefIn K "_law_names" s_law_names
  d_law_tree : DefIn K "_law_tree" s_law_tree
  d_law_events : DefIn K "_law_events" s_law_events
  d_law_text : DefIn K "_law_text" s_law_text
  d_law_is_name : DefIn K "_law_is_name" s_law_is_name
  d_law_is_figure : DefIn K "_law_is_figure" s_law_is_figure
  d_law_event : DefIn K "_law_event" s_law_event
  d_law_is_event : DefIn K "_law_is_event" s_law_is_event
  d_law_due : DefIn K "_law_due" s_law_due
  d_law_heard : DefIn K "_law_heard" s_law_heard
  d_law_bent : DefIn K "_law_bent" s_law_bent
  d_law_odd : DefIn K "_law_odd" s_law_odd
  d_law : DefIn K "law" s_law
  g_NAME_LETTERS : TextIn K "NAME_LETTERS" k_NAME_LETTERS
  g_DIGITS : TextIn K "DIGITS" k_DIGITS
  g_TAKEN : TextsIn K "TAKEN" k_TAKEN
  x_NoTree : ∃ C B, ExcIn K "NoTree" "NoTree.__init__" "KeptError" s_NoTree_init C B ∧ PySem.W.findIn K (.ref C) "at" = some none
  x_NoBundle : ∃ C B, ExcIn K "NoBundle" "NoBundle.__init__" "KeptError" s_NoBundle_init C B ∧ PySem.W.findIn K (.ref C) "at" = some none
  c_Row : ∃ C, SlsIn K "Row" C ∧ MethIn K C "__init__" "Row.__init__" s_Row_init ∧ PropIn K C "is_whole" "Row.is_whole" s_Row_is_whole ∧ MethIn K C "can_take" "Row.can_take" s_Row_can_take ∧ MethIn K C "take" "Row.take" s_Row_take ∧ SlotIn K C "done" 0 ∧ SlotIn K C "heads" 1 ∧ SlotIn K C "rows" 2
  c_Tree : ∃ C, ClsIn K "Tree" C ∧ MethInD K C "__init__" "Tree.__init__" s_Tree_init 1 ∧ CMethIn K C "read" "Tree.read" s_Tree_read ∧ CMethIn K C "from_events" "Tree.from_events" s_Tree_from_events ∧ MethIn K C "__len__" "Tree.__len__" s_Tree_len ∧ MethIn K C "__iter__" "Tree.__iter__" s_Tree_iter ∧ MethIn K C "__eq__" "Tree.__eq__" s_Tree_eq ∧ MethIn K C "__str__" "Tree.__str__" s_Tree_str ∧ MethIn K C "events" "Tree.events" s_Tree_events ∧ PySem.W.findIn K (.ref C) "name" = some none ∧ PySem.W.findIn K (.ref C) "mark" = some none ∧ PySem.W.findIn K (.ref C) "children" = some none ∧ PySem.W.findIn K (.ref C) "nodes" = some none ∧ PySem.W.findIn K (.ref C) "text" = some none
  e_NoTree_KeptError : ∃ C C2, PySem.W.nsIn K mainGlobals "NoTree" = some (some (.ref C)) ∧ PySem.W.nsIn K mainGlobals "KeptError" = some (some (.ref C2)) ∧ PySem.W.subIn K (.ref C) (.ref C2) = some true
  e_NoTree_NoBundle : ∃ C C2, PySem.W.nsIn K mainGlobals "NoTree" = some (some (.ref C)) ∧ PySem.W.nsIn K mainGlobals "NoBundle" = some (some (.ref C2)) ∧ PySem.W.subIn K (.ref C) (.ref C2) = some false
  e_cls_Row : ∃ C, PySem.W.nsIn K mainGlobals "Row" = some (some (.ref C)) ∧ PySem.W.isClsIn K C = true ∧ PySem.W.typeIn K (.ref C) = some (.type "type")
  e_cls_Tree : ∃ C, PySem.W.nsIn K mainGlobals "Tree" = some (some (.ref C)) ∧ PySem.W.isClsIn K C = true ∧ PySem.W.typeIn K (.ref C) = some (.type "type")
  e_cls_NoTree : ∃ C, PySem.W.nsIn K mainGlobals "NoTree" = some (some (.ref C)) ∧ PySem.W.isClsIn K C = true ∧ PySem.W.typeIn K (.ref C) = some (.type "type")
  e_cls_NoBundle : ∃ C, PySem.W.nsIn K mainGlobals "NoBundle" = some (some (.ref C)) ∧ PySem.W.isClsIn K C = true ∧ PySem.W.typeIn K (.ref C) = some (.type "type")
  e_cls_KeptError : ∃ C, PySem.W.nsIn K mainGlobals "KeptError" = some (some (.ref C)) ∧ PySem.W.isClsIn K C = true ∧ PySem.W.typeIn K (.ref C) = some (.type "type")
local macro_rules | `(tactic| walk_at "side") => `(tactic| first | rfl | decide | assumption | omega | (constructor <;> first | decide | omega) | (refine ⟨?_, ?_, ?_⟩ <;> first | decide | omega))
local macro_rules | `(tactic| walk_at "cell") => `(tactic| first | exact up_at | assumption | (rw [up_ne (by assumption)]; first | exact up_at | assumption) | (rw [up_ne (Ne.symm (by assumption))]; first | exact up_at | assumption))
local macro_rules | `(tactic| walk_at "ty") => `(tactic| first | exact rfl | exact ⟨rfl, _, by walk_at "cell"⟩)
local macro_rules | `(tactic| walk_at "ix") => `(tactic| first | refine ix_own (by walk_at "cell") (by rfl) ?_ | refine ix_lst (by rfl) ?_ | refine ix_tpl (by rfl) ?_ | refine ix_fro (by rfl) ?_)
local macro_rules | `(tactic| walk_at "op add") => `(tactic| first | refine ob_add ?_ | refine ob_cat (by walk_at "side") ?_ | refine ob_catL (by walk_at "side") ?_ | refine ob_catT (by walk_at "side") ?_)
local macro_rules | `(tactic| walk_at "op sub") => `(tactic| refine ob_sub ?_)
local macro_rules | `(tactic| walk_at "op mul") => `(tactic| first | refine ob_mul (.inr (by decide)) ?_ | refine ob_mul (.inl (by decide)) ?_ | refine ob_mul (.inl (by constructor <;> omega)) ?_ | refine ob_mul (.inr (by constructor <;> omega)) ?_ | refine ob_rep (by walk_at "side") (by walk_at "side") ?_ | refine ob_times (by walk_at "side") (by walk_at "side") ?_)
local macro_rules | `(tactic| walk_at "op mod") => `(tactic| refine ob_mod (by first | decide | omega) ?_)
local macro_rules | `(tactic| walk_at "op fdiv") => `(tactic| refine ob_fdiv (by first | decide | omega) ?_)
local macro_rules | `(tactic| walk_at "op pow") => `(tactic| refine ob_pow (by first | decide | (refine ⟨by decide, by decide, by omega⟩)) ?_)
local macro_rules | `(tactic| walk_at "cmp Gt") => `(tactic| refine ob_gt ?_)
local macro_rules | `(tactic| walk_at "cmp Lt") => `(tactic| refine ob_lt ?_)
local macro_rules | `(tactic| walk_at "cmp GtE") => `(tactic| refine ob_ge ?_)
local macro_rules | `(tactic| walk_at "cmp LtE") => `(tactic| refine ob_le ?_)
local macro_rules | `(tactic| walk_at "cmp Eq") => `(tactic| first | refine ob_eqI ?_ | refine ob_eqS ?_ | refine ob_eqB ?_)
local macro_rules | `(tactic| walk_at "cmp NotEq") => `(tactic| first | refine ob_neI ?_ | refine ob_neS ?_)
local macro_rules | `(tactic| walk_at "cmp Is") => `(tactic| refine ob_isN ?_)
local macro_rules | `(tactic| walk_at "cmp IsNot") => `(tactic| refine ob_isNotN ?_)
local macro_rules | `(tactic| walk_at "cmp In") => `(tactic| first | refine ob_inS ?_ | refine ob_inT ?_ | refine ob_inL ?_)
local macro_rules | `(tactic| walk_at "cmp NotIn") => `(tactic| first | refine ob_niS ?_ | refine ob_niT ?_ | refine ob_niL ?_)
local macro_rules | `(tactic| walk_at "cb len") => `(tactic| first | refine cb_lenL ?_ | refine cb_lenT ?_ | refine cb_lenF ?_ | refine cb_lenO (by walk_at "cell") ?_ | refine cb_lenS (by walk_at "side") ?_)
local macro_rules | `(tactic| walk_at "cb abs") => `(tactic| refine cb_abs ?_)
local macro_rules | `(tactic| walk_at "cb int") => `(tactic| refine cb_intB ?_)
local macro_rules | `(tactic| walk_at "cb max") => `(tactic| refine cb_max rfl ?_)
local macro_rules | `(tactic| walk_at "cb min") => `(tactic| refine cb_min rfl ?_)
local macro_rules | `(tactic| walk_at "cb str") => `(tactic| first | refine cb_strS ?_ | refine cb_strI (by walk_at "side") ?_)
local macro_rules | `(tactic| walk_at "cb tuple") => `(tactic| first | refine cb_tupL ?_ | refine cb_tupT ?_)
local macro_rules | `(tactic| walk_at "cb list") => `(tactic| first | refine cb_listL fun p hp => ?_ | refine cb_listT fun p hp => ?_)
local macro_rules | `(tactic| walk_at "m1 split") => `(tactic| refine m1_split (by first | rfl | decide) (by walk_at "side") ?_)
local macro_rules | `(tactic| walk_at "m1 partition") => `(tactic| refine m1_partition (by first | rfl | decide) (by walk_at "side") ?_)
local macro_rules | `(tactic| walk_at "m1 find") => `(tactic| refine m1_find ?_)
local macro_rules | `(tactic| walk_at "mb append") => `(tactic| refine mb_append (by walk_at "cell") (by walk_at "side") ?_)
local macro_rules | `(tactic| walk_at "b0") => `(tactic| exact fun _ _ _ _ _ _ us hl => match us, hl with | [], _ => rfl)
local macro_rules | `(tactic| walk_at "b1") => `(tactic| exact fun _ _ _ _ _ _ us hl => match us, hl with | [_], _ => rfl)
local macro_rules | `(tactic| walk_at "b2") => `(tactic| exact fun _ _ _ _ _ _ us hl => match us, hl with | [_, _], _ => rfl)
local macro_rules | `(tactic| walk_at "b3") => `(tactic| exact fun _ _ _ _ _ _ us hl => match us, hl with | [_, _, _], _ => rfl)
local macro_rules | `(tactic| walk_at "b4") => `(tactic| exact fun _ _ _ _ _ _ us hl => match us, hl with | [_, _, _, _], _ => rfl)
local macro_rules | `(tactic| walk_at "blk") => `(tactic| first | exact ⟨rfl, by decide +kernel, by decide +kernel, by decide +kernel, by decide +kernel⟩ | (constructor <;> first | rfl | decide +kernel))
local macro_rules | `(tactic| walk_at "few") => `(tactic| first | decide | exact Nat.le_of_ble_eq_true rfl)
local macro_rules | `(tactic| walk_at "own") => `(tactic| (funext z_; simp only [Kn.up, Kn.dn]; (repeat' split) <;> first | rfl | (subst_vars; first | rfl | contradiction) | simp_all))
section
variable {P : Program} {w : World} {K : PySem.W.Frag} {mg : Str → Option Value} {base : Heap}
theorem fn_split_words (T : TopOf K mg) (Z : Facts K) {f : Addr} {fd : FuncData} (F : L2.Fun K "split_words" "split_words" s_split_words f fd) : Fn P w K mg base false 1 f fd ["row"] SplitS := by
  have sc := sc_split_words
  refine fn_mk F sc_split_words (fun ss O R h => by obtain ⟨z, rfl, _⟩ := h; rfl) fun cdv A outer s H E ss O R hr hpo h => ?_
  obtain ⟨z, rfl, hz, h⟩ := h
  refine sw_one ?_
  refine s1_ret ?_
  refine ew_if ?_
  refine tw_cmp ?_
  refine ew_var 0 ?_
  refine ew_str ?_
  walk_at "cmp NotEq"
  refine ⟨_, rfl, fun ht => ?_, fun ht => ?_⟩
  · refine ew_split ?_
    refine ew_var 0 ?_
    refine ⟨_, rfl, ?_⟩
    refine ew_str ?_
    refine m1_split (by decide +kernel) (Nat.le_trans (Nat.add_le_add_right hz 2) (by decide)) ?_
    have e : wordsS z = Txt.split z " " := if_neg (by simpa using ht)
    rw [← e]
    exact h
  · refine ew_lstD ?_
    refine aw_nil ?_
    refine ⟨[], rfl, by decide, ?_⟩
    have e : wordsS z = [] := if_pos (by simpa using ht)
    rw [e] at h
    exact h
theorem c_split_words (T : TopOf K mg) (Z : Facts K) : Cal P w K mg base false 1 "split_words" SplitS [] := cal_of T Z.d_split_words (by walk_at "b1") fun f fd F => fn_split_words T Z F
theorem fn_is_made_of (T : TopOf K mg) (Z : Facts K) {f : Addr} {fd : FuncData} (F : L2.Fun K "is_made_of" "is_made_of" s_is_made_of f fd) : Fn P w K mg base false 1 f fd ["value", "letters", "most"] MadeS := by
  have sc := sc_is_made_of
  refine fn_mk F sc_is_made_of (fun ss O R h => by obtain ⟨z, _, _, rfl, _⟩ := h; rfl) fun cdv A outer s H E ss O R hr hpo h => ?_
  obtain ⟨d, L, m, rfl, hd, h⟩ := h
  refine sw_one ?_
  refine s1_ret ?_
  refine ew_and ?_
  refine ew_callB (T.no Z.n_isinstance) bt_isinstance ?_
  refine aw_cons ?_
  refine ew_var 0 ?_
  refine aw_cons ?_
  refine ew_bltn (T.no Z.n_str) bt_str ?_
  refine aw_nil ?_
  refine cb_isTy (kit_str hd.1) ?_ hd.1
  refine ⟨_, rfl, fun hc => ?_, fun hc => ?_⟩
  · cases d with
    | str z =>
      have hz := hd.2 z rfl
      have hzl : z.length ≤ sizeLine := Nat.le_trans hz (by decide)
      refine ew_and ?_
      refine ew_chain ?_
      refine ew_int ?_
      refine ew_callB (T.no Z.n_len) bt_len ?_
      refine aw_cons ?_
      refine ew_var 0 ?_
      refine aw_nil ?_
      refine cb_lenS hzl ?_
      walk_at "cmp Lt"
      refine ⟨rfl, _, rfl, fun hc => ?_, fun hc => ?_⟩
      · refine ew_var 2 ?_
        walk_at "cmp LtE"
        refine ⟨_, rfl, fun hc2 => ?_, fun hc2 => ?_⟩
        · refine ew_one ?_
          refine ew_callB (T.no Z.n_all) bt_all ?_
          refine aw_cons ?_
          refine ew_map1 (sgs z) (fun c => .str ⟨#[c]⟩) (fun c => .bl (decide (c ∈ sgs L))) [("sign", 3)] sc.nd (.name (i := 3) (by decide) fun Y ⟨_, _, _, _, _, e⟩ => by subst e; exact pg_name (i := 3) sc.nd rfl (.inl rfl) (.inr rfl)) (blkOk_by (N := N_is_made_of) (sc := defScope s_is_made_of) (by decide +kernel)) (iw_str (ew_var 0 ⟨z, rfl, rfl, rfl⟩)) (by rw [← sgs_len]; exact hzl) (fun c hcm => ⟨_, rfl, fun O' Y hY => ?_⟩) ?_
          · obtain ⟨_, _, _, _, _, rfl⟩ := hY
            refine ew_cmp ?_
            refine ew_var 3 ?_
            refine ew_var 1 ?_
            walk_at "cmp In"
            exact ⟨rfl, rfl⟩
          · refine aw_nil ?_
            refine cb_allF rfl ?_
            have e : madeD (.str z) L m = (sgs z).all fun c => decide (c ∈ sgs L) := by
              have h1 : decide (0 < z.length) = true := by simpa using hc
              have h2 : decide (z.length ≤ m) = true := by simpa using hc2
              show (decide (0 < z.length) && (decide (z.length ≤ m) && _)) = _
              rw [h1, h2]; rfl
            rw [e] at h
            exact h
        · have e : madeD (.str z) L m = false := by
            have h2 : decide (z.length ≤ m) = false := by simpa using hc2
            show (decide (0 < z.length) && (decide (z.length ≤ m) && _)) = _
            rw [h2, Bool.false_and, Bool.and_false]
          rw [e] at h
          exact h
      · refine ⟨_, rfl, fun hc => ?_, fun hc2 => ?_⟩
        · exact absurd hc (by decide)
        · have e : madeD (.str z) L m = false := by
            have h2 : decide (0 < z.length) = false := by simpa using hc
            show (decide (0 < z.length) && (decide (z.length ≤ m) && _)) = _
            rw [h2, Bool.false_and]
          rw [e] at h
          exact h
    | _ => cases hc
  · cases d with
    | str z => cases hc
    | _ => exact h
theorem c_is_made_of (T : TopOf K mg) (Z : Facts K) : Cal P w K mg base false 1 "is_made_of" MadeS [] := cal_of T Z.d_is_made_of (by walk_at "b3") fun f fd F => fn_is_made_of T Z F
theorem fn_is_name (T : TopOf K mg) (Z : Facts K) {f : Addr} {fd : FuncData} (F : L2.Fun K "is_name" "is_name" s_is_name f fd) : Fn P w K mg base false 2 f fd ["value"] NameS := by
  have sc := sc_is_name
  refine fn_mk F sc_is_name (fun ss O R h => by obtain ⟨z, rfl, _⟩ := h; rfl) fun cdv A outer s H E ss O R hr hpo h => ?_
  obtain ⟨d, rfl, hd, h⟩ := h
  refine sw_one ?_
  refine s1_ret ?_
  refine ew_and ?_
  refine ew_call (c_is_made_of T Z) hr ?_
  refine aw_cons ?_
  refine ew_var 0 ?_
  refine aw_cons ?_
  refine ew_glob (Z.g_NAME_LETTERS.glob T) ?_
  refine aw_cons ?_
  refine ew_int ?_
  refine aw_nil ?_
  refine ⟨d, _, 8, rfl, hd, ?_⟩
  refine ⟨_, rfl, fun hc => ?_, fun hc => ?_⟩
  · cases d with
    | str z =>
      refine ew_one ?_
      refine ew_cmp ?_
      refine ew_var 0 ?_
      refine ew_glob (Z.g_TAKEN.glob T) ?_
      refine ob_niT (ws := takenW) ?_
      have e : isNmD (.str z) = !takenW.any (· == z) := by
        show (madeOf z ltrs 8 && _) = _
        rw [show madeOf z ltrs 8 = true from hc]; rfl
      rw [e] at h
      exact h
    | _ => cases hc
  · have e : isNmD d = false := by
      cases d with
      | str z =>
        show (madeOf z ltrs 8 && _) = _
        rw [show madeOf z ltrs 8 = false from hc]; rfl
      | _ => rfl
    rw [e] at h
    exact h
theorem c_is_name (T : TopOf K mg) (Z : Facts K) : Cal P w K mg base false 2 "is_name" NameS [] := cal_of T Z.d_is_name (by walk_at "b1") fun f fd F => fn_is_name T Z F
theorem fn_is_figure (T : TopOf K mg) (Z : Facts K) {f : Addr} {fd : FuncData} (F : L2.Fun K "is_figure" "is_figure" s_is_figure f fd) : Fn P w K mg base false 2 f fd ["value"] FigS := by
  have sc := sc_is_figure
  refine fn_mk F sc_is_figure (fun ss O R h => by obtain ⟨z, rfl, _⟩ := h; rfl) fun cdv A outer s H E ss O R hr hpo h => ?_
  obtain ⟨d, rfl, hd, h⟩ := h
  refine sw_one ?_
  refine s1_ret ?_
  refine ew_and ?_
  refine ew_call (c_is_made_of T Z) hr ?_
  refine aw_cons ?_
  refine ew_var 0 ?_
  refine aw_cons ?_
  refine ew_glob (Z.g_DIGITS.glob T) ?_
  refine aw_cons ?_
  refine ew_int ?_
  refine aw_nil ?_
  refine ⟨d, _, 12, rfl, hd, ?_⟩
  refine ⟨_, rfl, fun hc => ?_, fun hc => ?_⟩
  · cases d with
    | str z =>
      have hm : madeOf z digs 12 = true := hc
      have e : isFgD (.str z) = figL (sgs z) := by
        show (madeOf z digs 12 && _) = _
        rw [hm]; rfl
      rw [e] at h
      refine ew_one ?_
      refine ew_or ?_
      refine ew_cmp ?_
      refine ew_var 0 ?_
      refine ew_str ?_
      walk_at "cmp Eq"
      refine ⟨_, rfl, fun hc => ?_, fun hc => ?_⟩
      · have e : figL (sgs z) = true := fig_zero (of_decide_eq_true hc)
        rw [e] at h
        exact h
      · obtain ⟨c, hx, e2⟩ := fig_first hm (of_decide_eq_false hc)
        refine ew_one ?_
        refine ew_cmp ?_
        refine ew_ix ?_
        refine ew_var 0 ?_
        refine ew_int ?_
        refine ix_sgn (Nat.le_trans (hd.2 z rfl) (by decide)) hx ?_
        refine ew_str ?_
        walk_at "cmp NotEq"
        rw [e2] at h
        exact h
    | _ => cases hc
  · have e : isFgD d = false := by
      cases d with
      | str z =>
        show (madeOf z digs 12 && _) = _
        rw [show madeOf z digs 12 = false from hc]; rfl
      | _ => rfl
    rw [e] at h
    exact h
theorem c_is_figure (T : TopOf K mg) (Z : Facts K) : Cal P w K mg base false 2 "is_figure" FigS [] := cal_of T Z.d_is_figure (by walk_at "b1") fun f fd F => fn_is_figure T Z F
theorem fn_own_copy0 (T : TopOf K mg) (Z : Facts K) {f : Addr} {fd : FuncData} (F : L2.Fun K "own_copy" "own_copy" s_own_copy f fd) : Fn P w K mg base false 1 f fd ["value"] Own0S := by
  have sc := sc_own_copy
  refine fn_mk F sc_own_copy (fun ss O R h => by obtain ⟨z, rfl, _⟩ := h; rfl) fun cdv A outer s H E ss O R hr hpo h => ?_
  obtain ⟨d, rfl, hd, hl, hnt, h⟩ := h
  refine sw_cons ?_
  refine s1_if ?_
  refine tw_val ?_
  refine ew_callB (T.no Z.n_isinstance) bt_isinstance ?_
  refine aw_cons ?_
  refine ew_var 0 ?_
  refine aw_cons ?_
  refine ew_bltn (T.no Z.n_list) bt_list ?_
  refine aw_nil ?_
  refine cb_isTy (kit_lst hd) ?_ hd
  rw [hl]
  refine ⟨_, rfl, fun ht => ?_, fun ht => ?_⟩
  · cases ht
  · refine sw_nil ?_
    refine sw_one ?_
    refine s1_ret ?_
    refine ew_if ?_
    refine tw_val ?_
    refine ew_callB (T.no Z.n_isinstance) bt_isinstance ?_
    refine aw_cons ?_
    refine ew_var 0 ?_
    refine aw_cons ?_
    refine ew_bltn (T.no Z.n_tuple) bt_tuple ?_
    refine aw_nil ?_
    refine cb_isTy (kit_tup hd) ?_ hd
    rw [hnt]
    refine ⟨_, rfl, fun ht => ?_, fun ht => ?_⟩
    · cases ht
    · refine ew_var 0 ?_
      exact h
theorem c_own_copy0 (T : TopOf K mg) (Z : Facts K) : Cal P w K mg base false 1 "own_copy" Own0S [] := cal_of T Z.d_own_copy (by walk_at "b1") fun f fd F => fn_own_copy0 T Z F
/-- a scalar -/
def flatD (d : Dat) : Prop := tyName d ≠ "" ∧ isLstD d = false ∧ isTupD d = false
theorem fn_NoTree (T : TopOf K mg) (Z : Facts K) {C B : Addr} (X : ExcIn K "NoTree" "NoTree.__init__" "KeptError" s_NoTree_init C B) (nf : PySem.W.findIn K (.ref C) "at" = some none) {f : Addr} {fd : FuncData} (F : L2.Fun K "__init__" "NoTree.__init__" s_NoTree_init f fd) : Fn P w K mg base false 2 f fd ["self", "at"] (Ini1 flatD C "at") := by
  have sc := sc_NoTree_init
  refine fn_mk F sc_NoTree_init (fun ss O R h => by obtain ⟨a, d, rfl, _⟩ := h; rfl) fun cdv A outer s H E ss O R hr hpo h => ?_
  obtain ⟨a, d, rfl, hd, ha, h⟩ := h
  refine sw_cons ?_
  refine s1_expr ?_
  refine ew_kinit (X.ini T) ?_
  refine aw_cons ?_
  refine ew_var 0 ?_
  refine aw_cons ?_
  refine ew_str ?_
  refine aw_nil ?_
  refine ⟨a, C, _, rfl, by decide, X.a.oex, ha, ?_⟩
  refine sw_one ?_
  refine s1_ost ?_
  refine ew_call (c_own_copy0 T Z) hr ?_
  refine aw_cons ?_
  refine ew_var 1 ?_
  refine aw_nil ?_
  refine ⟨d, rfl, hd.1, hd.2.1, hd.2.2, ?_⟩
  refine ew_var 0 ?_
  exact ⟨a, C, rfl, X.a.oex, nf, .inl ⟨ha, fun dx nd => h dx nd⟩⟩
theorem xc_NoTree (T : TopOf K mg) (Z : Facts K) : ∃ C B, ExcIn K "NoTree" "NoTree.__init__" "KeptError" s_NoTree_init C B ∧ PySem.W.findIn K (.ref C) "at" = some none ∧ ExCls P w K mg base 2 "NoTree" C (Ini1 flatD C "at") := by
  obtain ⟨C, B, X, nf⟩ := Z.x_NoTree
  exact ⟨C, B, X, nf, xc_of T X (by walk_at "b2") fun f fd F => fn_NoTree T Z X nf F⟩
end
section
variable {P : Program} {w : World} {K : PySem.W.Frag} {mg : Str → Option Value} {base : Heap}
def EventS : SpecT := fun ss O R => ∃ z : Str, ss = [.dat (.str z)] ∧ z.length ≤ 100000 ∧ R (.ret (.dat (evR (evS z)))) O
theorem part_len {z : Str} : (Txt.partition z ":").1.length ≤ z.length ∧ (Txt.partition z ":").2.2.length ≤ z.length := by
  rcases PyProof.Rows.partition_whole z ":" with ⟨e, _⟩ | ⟨i, e, h, _⟩
  · rw [e]
    exact ⟨Nat.le_refl _, Nat.zero_le _⟩
  · rw [e]
    have h1 : i + (":" : Str).length ≤ z.length := h.1
    refine ⟨?_, ?_⟩
    · rw [sgs_len, sgs_len]
      show (TL.tl _).length ≤ _
      rw [TL.tl_strSub, List.drop_zero, List.length_take]
      exact Nat.min_le_right _ _
    · rw [sgs_len, sgs_len]
      show (TL.tl _).length ≤ _
      rw [TL.tl_strSub_end, List.length_drop]
      exact Nat.sub_le _ _
theorem evS_open {z : Str} (h0 : ¬ z = "/") (h1 : isNm (Txt.partition z ":").1 = true) (h2 : decide ((Txt.partition z ":").2.1 = "") = false) (h3 : isFg (Txt.partition z ":").2.2 = true) : evS z = some (some ((Txt.partition z ":").1, figV (Txt.partition z ":").2.2)) := by
  unfold evS
  rw [if_neg h0, h1, h2, h3]; rfl
theorem evS_none {z : Str} (h0 : ¬ z = "/") (h : (isNm (Txt.partition z ":").1 && (!decide ((Txt.partition z ":").2.1 = "") && isFg (Txt.partition z ":").2.2)) = false) : evS z = none := by
  unfold evS
  rw [if_neg h0, h]; rfl
theorem fn_event_of (T : TopOf K mg) (Z : Facts K) {f : Addr} {fd : FuncData} (F : L2.Fun K "event_of" "event_of" s_event_of f fd) : Fn P w K mg base false 3 f fd ["word"] EventS := by
  have sc := sc_event_of
  refine fn_mk F sc_event_of (fun ss O R h => by obtain ⟨z, rfl, _⟩ := h; rfl) fun cdv A outer s H E ss O R hr hpo h => ?_
  obtain ⟨z, rfl, hz, h⟩ := h
  obtain ⟨hz1, hz2⟩ := part_len (z := z)
  -- 0:word 1:name 2:colon 3:mark
  refine sw_cons ?_
  refine s1_if ?_
  refine tw_cmp ?_
  refine ew_var 0 ?_
  refine ew_str ?_
  walk_at "cmp Eq"
  refine ⟨_, rfl, fun ht => ?_, fun ht => ?_⟩
  · refine sw_one ?_
    refine s1_ret ?_
    refine ew_tup ?_
    refine aw_cons ?_
    refine ew_str ?_
    refine aw_nil ?_
    refine ⟨[_], rfl, by decide, ?_⟩
    have e : evS z = some none := if_pos (of_decide_eq_true ht)
    rw [e] at h
    exact h
  · have h0 : ¬ z = "/" := of_decide_eq_false ht
    refine sw_nil ?_
    refine sw_cons ?_
    refine s1_asg ?_
    refine ew_partition ?_
    refine ew_var 0 ?_
    refine ⟨_, rfl, ?_⟩
    refine ew_str ?_
    refine m1_partition (by decide +kernel) (Nat.le_trans hz (by decide)) ?_
    refine gw_tup ?_
    refine gsw_cons ?_
    refine gw_name 1 ?_ sc.nd
    refine gsw_cons ?_
    refine gw_name 2 ?_ sc.nd
    refine gsw_cons ?_
    refine gw_name 3 ?_ sc.nd
    refine gsw_nil ?_
    refine sw_one ?_
    refine s1_ret ?_
    refine ew_if ?_
    refine tw_w ?_
    refine tww_and ?_
    refine tw_val ?_
    refine ew_call (c_is_name T Z) hr ?_
    refine aw_cons ?_
    refine ew_var 1 ?_
    refine aw_nil ?_
    refine ⟨_, rfl, okD_str (Nat.le_trans hz1 hz), ?_⟩
    refine ⟨_, rfl, fun ht1 => ?_, fun ht1 => ?_⟩
    · refine tww_and ?_
      refine tw_cmp ?_
      refine ew_var 2 ?_
      refine ew_str ?_
      walk_at "cmp NotEq"
      refine ⟨_, rfl, fun ht2 => ?_, fun ht2 => ?_⟩
      · refine tww_and1 ?_
        refine tw_val ?_
        refine ew_call (c_is_figure T Z) hr ?_
        refine aw_cons ?_
        refine ew_var 3 ?_
        refine aw_nil ?_
        refine ⟨_, rfl, okD_str (Nat.le_trans hz2 hz), ?_⟩
        refine ⟨_, rfl, fun ht3 => ?_, fun ht3 => ?_⟩
        · have ht3 : isFg (Txt.partition z ":").2.2 = true := ht3
          obtain ⟨hi, hl⟩ := fig_int ht3
          refine ew_tup ?_
          refine aw_cons ?_
          refine ew_str ?_
          refine aw_cons ?_
          refine ew_var 1 ?_
          refine aw_cons ?_
          refine ew_callTy (T.no Z.n_int) bt_int ?_
          refine aw_cons ?_
          refine ew_var 3 ?_
          refine aw_nil ?_
          refine cb_intS hi (by omega) ?_
          refine aw_nil ?_
          refine ⟨[_, _, _], rfl, by walk_at "few", ?_⟩
          rw [evS_open h0 ht1 (by simpa using ht2) ht3] at h
          exact h
        · refine ew_non ?_
          have ht3 : isFg (Txt.partition z ":").2.2 = false := ht3
          rw [evS_none h0 (by rw [ht3, Bool.and_false, Bool.and_false])] at h
          exact h
      · refine ⟨fun hb => ?_, fun hb => ?_⟩
        · exact absurd hb (by decide)
        · refine ew_non ?_
          rw [evS_none h0 (by rw [ht2, Bool.false_and, Bool.and_false])] at h
          exact h
    · refine ⟨fun hb => ?_, fun hb => ?_⟩
      · exact absurd hb (by decide)
      · refine ew_non ?_
        have ht1 : isNm (Txt.partition z ":").1 = false := ht1
        rw [evS_none h0 (by rw [ht1, Bool.false_and])] at h
        exact h
theorem c_event_of (T : TopOf K mg) (Z : Facts K) : Cal P w K mg base false 3 "event_of" EventS [] := cal_of T Z.d_event_of (by walk_at "b1") fun f fd F => fn_event_of T Z F
theorem num_log {m : Int} (h0 : 0 ≤ m) (h : m < 10 ^ 100) : m.natAbs.log2 < 1920 := by
  by_cases hz : m.natAbs = 0
  · rw [hz]; decide
  · rw [Nat.log2_lt hz]
    have e : m.natAbs < 10 ^ 100 := by omega
    exact Nat.lt_of_lt_of_le e (by decide +kernel)
theorem num_len {m : Int} (h0 : 0 ≤ m) (h : m < 10 ^ 100) : (Str.ofString (toString m)).length ≤ 100 := PyProof.Rows.toString_length_le h0 (by decide) h
theorem wordE_len {e : Ev} (h : smallE e) : (wordE e).length ≤ 201 := by
  cases e with
  | none => exact (show (Str.ofString "/").length ≤ 201 by decide +kernel)
  | some q =>
    obtain ⟨n, m⟩ := q
    obtain ⟨h1, h2, h3⟩ := h
    have h4 := num_len h2 h3
    show (n ++ Str.ofString ":" ++ Str.ofString (toString m)).length ≤ 201
    rw [len_app, len_app, show (Str.ofString ":").length = 1 by decide +kernel]
    omega
theorem sum_le {α : Type} {g : α → Nat} {b : Nat} : ∀ {l : List α}, (∀ a ∈ l, g a ≤ b) → (l.map g).sum ≤ l.length * b
  | [], _ => Nat.zero_le _
  | a :: l, h => by
    have h1 := h a List.mem_cons_self
    have h2 := sum_le fun c hc => h c (List.mem_cons_of_mem a hc)
    rw [List.map_cons, List.sum_cons, List.length_cons, Nat.succ_mul]
    omega
theorem colon_len : (Str.ofString ":").length = 1 := by decide +kernel
theorem wordsS_len {z w : Str} (h : w ∈ wordsS z) : w.length ≤ z.length := by
  unfold wordsS at h
  split at h
  · cases h
  · exact word_len h
theorem wordsS_count (z : Str) : (wordsS z).length ≤ z.length + 1 := by
  unfold wordsS
  split
  · exact Nat.zero_le _
  · have := words_sum z
    omega
theorem flatD_int {i : Int} : flatD (.int i) := ⟨(show "int" ≠ "" by decide), rfl, rfl⟩
end
/-- the source of draws -/
def boxC (c s n : Int) : Cell := .lst [.dat (.int c), .dat (.int s), .dat (.int n)]
def isBox (b : Cell) : Prop := ∃ c s n, b = boxC c s n ∧ 0 ≤ c ∧ 1 ≤ s ∧ s ≤ 2147483629 ∧ 0 ≤ n
def Take : SpecT := fun ss O R => ∃ (p : Addr) (m : Int) (b : Cell), ss = [.own p, .dat (.int m)] ∧ O p = some b ∧ isBox b ∧ 1 ≤ m ∧ m < 1073741824 ∧ ∀ (d : Int) (b' : Cell), 0 ≤ d → d < m → isBox b' → R (.ret (.dat (.int d))) (up O p b')
def BoxS : SpecT := fun ss O R => ∃ (ns : List Int) (k o : Int), ss = [.dat (.fro (ns.map .int)), .dat (.int k), .dat (.int o)] ∧ 0 ≤ k ∧ k ≤ 1000 ∧ 0 ≤ o ∧ o ≤ 1000 ∧ ∀ p b, O p = none → isBox b → R (.ret (.own p)) (up O p b)
section
variable {P : Program} {w : World} {K : PySem.W.Frag} {mg : Str → Option Value} {base : Heap}
theorem fn_law_take {f : Addr} {fd : FuncData} (F : L2.Fun K "_law_take" "_law_take" s_law_take f fd) : Fn P w K mg base false 1 f fd ["_law_box_here", "_law_many"] Take := by
  have sc := sc_law_take
  refine fn_mk F sc_law_take (fun ss O R h => by obtain ⟨p, m, b, rfl, _⟩ := h; rfl) fun cdv A outer s H E ss O R hr hpo h => ?_
  obtain ⟨p, m, b, rfl, hp, hb, hm1, hm2, h⟩ := h
  obtain ⟨c, s0, n, rfl, hc, hs1, hs2, hn⟩ := hb
  have hp : O p = some (.lst [.dat (.int c), .dat (.int s0), .dat (.int n)]) := hp
  -- 0:_law_box_here 1:_law_many 2:_law_digit 3:_law_raw 4:_law_wide
  refine sw_cons ?_
  refine s1_if ?_
  refine tw_cmp ?_
  refine ew_ix ?_
  refine ew_var 0 ?_
  refine ew_int ?_
  walk_at "ix"
  refine ew_int ?_
  walk_at "cmp Gt"
  refine ⟨_, rfl, fun ht => ?_, fun ht => ?_⟩
  · refine sw_cons ?_
    refine s1_set 2 ?_ sc.nd
    refine ew_bin ?_
    refine ew_ix ?_
    refine ew_var 0 ?_
    refine ew_int ?_
    walk_at "ix"
    refine ew_var 1 ?_
    walk_at "op mod"
    refine sw_cons ?_
    refine s1_asg ?_
    refine ew_bin ?_
    refine ew_ix ?_
    refine ew_var 0 ?_
    refine ew_int ?_
    walk_at "ix"
    refine ew_var 1 ?_
    walk_at "op fdiv"
    refine gw_set ?_
    refine ew_var 0 ?_
    refine ew_int ?_
    refine ⟨_, _, _, _, rfl, rfl, by walk_at "cell", rfl, ?_⟩
    refine sw_one ?_
    refine s1_ret ?_
    refine ew_var 2 ?_
    show R (.ret _) (up O p _)
    exact h _ _ (Int.emod_nonneg _ (by omega)) (Int.emod_lt_of_pos _ (by omega)) ⟨c / m, s0, n, rfl, Int.ediv_nonneg hc (by omega), hs1, hs2, hn⟩
  · refine sw_nil ?_
    refine sw_cons ?_
    refine s1_asg ?_
    refine ew_bin ?_
    refine ew_ix ?_
    refine ew_var 0 ?_
    refine ew_int ?_
    walk_at "ix"
    refine ew_int ?_
    walk_at "op add"
    refine gw_set ?_
    refine ew_var 0 ?_
    refine ew_int ?_
    refine ⟨_, _, _, _, rfl, rfl, by walk_at "cell", rfl, ?_⟩
    refine sw_cons ?_
    refine s1_set 3 ?_ sc.nd
    refine ew_bin ?_
    refine ew_bin ?_
    refine ew_bin ?_
    refine ew_ix ?_
    refine ew_var 0 ?_
    refine ew_int ?_
    walk_at "ix"
    refine ew_bin ?_
    refine ew_int ?_
    refine ew_ix ?_
    refine ew_var 0 ?_
    refine ew_int ?_
    walk_at "ix"
    walk_at "op mul"
    walk_at "op add"
    refine ew_int ?_
    walk_at "op mul"
    refine ew_int ?_
    walk_at "op mod"
    refine sw_cons ?_
    refine s1_asg ?_
    refine ew_bin ?_
    refine ew_bin ?_
    refine ew_bin ?_
    refine ew_bin ?_
    refine ew_var 3 ?_
    refine ew_int ?_
    walk_at "op mul"
    refine ew_int ?_
    walk_at "op add"
    refine ew_int ?_
    walk_at "op mod"
    refine ew_int ?_
    walk_at "op add"
    refine gw_set ?_
    refine ew_var 0 ?_
    refine ew_int ?_
    refine ⟨_, _, _, _, rfl, rfl, by walk_at "cell", rfl, ?_⟩
    refine sw_cons ?_
    refine s1_if ?_
    refine tw_cmp ?_
    refine ew_var 1 ?_
    refine ew_bin ?_
    refine ew_int ?_
    refine ew_int ?_
    walk_at "op pow"
    walk_at "cmp Lt"
    refine ⟨_, rfl, fun ht => ?_, fun ht => ?_⟩
    · refine sw_one ?_
      refine s1_ret ?_
      refine ew_bin ?_
      refine ew_bin ?_
      refine ew_bin ?_
      refine ew_bin ?_
      refine ew_var 3 ?_
      refine ew_int ?_
      walk_at "op mul"
      refine ew_ix ?_
      refine ew_var 0 ?_
      refine ew_int ?_
      walk_at "ix"
      walk_at "op add"
      refine ew_int ?_
      walk_at "op fdiv"
      refine ew_var 1 ?_
      walk_at "op mod"
      show R (.ret _) (up (up O p _) p _)
      rw [up_up]
      refine h _ _ (Int.emod_nonneg _ (by omega)) (Int.emod_lt_of_pos _ (by omega)) ⟨c, _, n + 1, rfl, hc, ?_, ?_, by omega⟩ <;> omega
    · refine sw_nil ?_
      refine sw_cons ?_
      refine s1_set 4 ?_ sc.nd
      refine ew_bin ?_
      refine ew_bin ?_
      refine ew_bin ?_
      refine ew_var 3 ?_
      refine ew_int ?_
      walk_at "op mul"
      refine ew_ix ?_
      refine ew_var 0 ?_
      refine ew_int ?_
      walk_at "ix"
      walk_at "op add"
      refine ew_bin ?_
      refine ew_int ?_
      refine ew_int ?_
      walk_at "op pow"
      walk_at "op mul"
      refine sw_one ?_
      refine s1_ret ?_
      refine ew_bin ?_
      refine ew_bin ?_
      refine ew_bin ?_
      refine ew_var 4 ?_
      refine ew_bin ?_
      refine ew_bin ?_
      refine ew_ix ?_
      refine ew_var 0 ?_
      refine ew_int ?_
      walk_at "ix"
      refine ew_int ?_
      walk_at "op pow"
      refine ew_int ?_
      walk_at "op mul"
      walk_at "op add"
      refine ew_var 3 ?_
      walk_at "op add"
      refine ew_var 1 ?_
      walk_at "op mod"
      show R (.ret _) (up (up O p _) p _)
      rw [up_up]
      refine h _ _ (Int.emod_nonneg _ (by omega)) (Int.emod_lt_of_pos _ (by omega)) ⟨c, _, n + 1, rfl, hc, ?_, ?_, by omega⟩ <;> omega
theorem c_law_take (T : TopOf K mg) (Z : Facts K) : Cal P w K mg base false 1 "_law_take" Take [] := cal_of T Z.d_law_take (by walk_at "b2") fun f fd F => fn_law_take F
theorem box_last {c k o : Int} (hc : 0 ≤ c) (hk : 0 ≤ k) (ho : 0 ≤ o) : isBox (boxC c ((c % 2147483629 * 48271 + 40692 * (k + 11 * o)) % 2147483629 + 1) 0) := ⟨c, _, 0, rfl, hc, by omega, by omega, by omega⟩
theorem box_zero {c k o : Int} (hk : 0 ≤ k) (ho : 0 ≤ o) : isBox (boxC 0 ((c % 2147483629 * 48271 + 40692 * (k + 11 * o)) % 2147483629 + 1) 0) := ⟨0, _, 0, rfl, by omega, by omega, by omega, by omega⟩
theorem at_int {ns : List Int} {k : Int} (h0 : 0 ≤ k) (h : k < (ns.length : Int)) : ∃ n, atI (ns.map Dat.int) k = some (.int n) := by
  obtain ⟨j, rfl⟩ := Int.eq_ofNat_of_zero_le h0
  have hj : j < ns.length := by omega
  exact ⟨ns[j], atI_nat (by rw [List.getElem?_map, List.getElem?_eq_getElem hj]; rfl)⟩
theorem fn_law_box (T : TopOf K mg) (Z : Facts K) {f : Addr} {fd : FuncData} (F : L2.Fun K "_law_box" "_law_box" s_law_box f fd) : Fn P w K mg base false 1 f fd ["_law_script", "_law_k", "_law_own"] BoxS := by
  have sc := sc_law_box
  refine fn_mk F sc_law_box (fun ss O R h => by obtain ⟨_, _, _, rfl, _⟩ := h; rfl) fun cdv A outer s H E ss O R hr hpo h => ?_
  obtain ⟨ns, k, o, rfl, hk, hk2, ho, ho2, h⟩ := h
  -- 0:_law_script 1:_law_k 2:_law_own 3:_law_cell 4:_law_seed
  have tail : ∀ (x : ExK) (c : Int) (ρ : List Slot) (s4 : Slot), 0 ≤ c → (∀ e ρ' O', x e ρ' O' ↔ x e ρ' O') → SW (cxOf (L2.CX P w) P w K mg base N_law_box "_law_box" (defScope s_law_box) f cdv A outer s H E) O [.dat (.fro (ns.map .int)), .dat (.int k), .dat (.int o), .dat (.int c), s4] ((defBody s_law_box).drop 2) x { nx := fun _ O' => R (.ret (.dat .non)) O', rt := fun z O' => R (.ret z) O' } := by
    intro x c ρ s4 hc _
    refine sw_cons ?_
    refine s1_set 4 ?_ sc.nd
    refine ew_bin ?_
    refine ew_bin ?_
    refine ew_bin ?_
    refine ew_bin ?_
    refine ew_bin ?_
    refine ew_var 3 ?_
    refine ew_int ?_
    walk_at "op mod"
    refine ew_int ?_
    walk_at "op mul"
    refine ew_bin ?_
    refine ew_int ?_
    refine ew_bin ?_
    refine ew_var 1 ?_
    refine ew_bin ?_
    refine ew_int ?_
    refine ew_var 2 ?_
    walk_at "op mul"
    walk_at "op add"
    walk_at "op mul"
    walk_at "op add"
    refine ew_int ?_
    walk_at "op mod"
    refine ew_int ?_
    walk_at "op add"
    refine sw_one ?_
    refine s1_ret ?_
    refine ew_lst ?_
    refine aw_cons ?_
    refine ew_ix ?_
    refine ew_lstD ?_
    refine aw_cons ?_
    refine ew_int ?_
    refine aw_cons ?_
    refine ew_var 3 ?_
    refine aw_nil ?_
    refine ⟨[_, _], rfl, by walk_at "few", ?_⟩
    refine ew_callTy (T.no Z.n_int) bt_int ?_
    refine aw_cons ?_
    refine ew_cmp ?_
    refine ew_var 3 ?_
    refine ew_bin ?_
    refine ew_int ?_
    refine ew_int ?_
    walk_at "op pow"
    walk_at "cmp GtE"
    refine aw_nil ?_
    walk_at "cb int"
    by_cases hb : (10 : Int) ^ (18 : Int).toNat ≤ c
    · rw [decide_eq_true hb]
      refine ix_lst (i := 1) (atI_nat (j := 1) rfl) ?_
      refine aw_cons ?_
      refine ew_var 4 ?_
      refine aw_cons ?_
      refine ew_int ?_
      refine aw_nil ?_
      refine ⟨by walk_at "few", fun p hp => ?_⟩
      exact h p _ hp (box_last hc hk ho)
    · rw [decide_eq_false hb]
      refine ix_lst (i := 0) (atI_nat (j := 0) rfl) ?_
      refine aw_cons ?_
      refine ew_var 4 ?_
      refine aw_cons ?_
      refine ew_int ?_
      refine aw_nil ?_
      refine ⟨by walk_at "few", fun p hp => ?_⟩
      exact h p _ hp (box_zero hk ho)
  refine sw_cons ?_
  refine s1_set 3 ?_ sc.nd
  refine ew_bin ?_
  refine ew_bin ?_
  refine ew_bin ?_
  refine ew_int ?_
  refine ew_var 1 ?_
  walk_at "op mul"
  refine ew_bin ?_
  refine ew_int ?_
  refine ew_var 2 ?_
  walk_at "op mul"
  walk_at "op add"
  refine ew_int ?_
  walk_at "op add"
  refine sw_cons ?_
  refine s1_if ?_
  refine tw_cmp ?_
  refine ew_var 1 ?_
  refine ew_callB (T.no Z.n_len) bt_len ?_
  refine aw_cons ?_
  refine ew_var 0 ?_
  refine aw_nil ?_
  walk_at "cb len"
  rw [List.length_map]
  walk_at "cmp Lt"
  refine ⟨_, rfl, fun ht => ?_, fun ht => ?_⟩
  · obtain ⟨n, hn⟩ := at_int hk (of_decide_eq_true ht)
    refine sw_one ?_
    refine s1_set 3 ?_ sc.nd
    refine ew_callB (T.no Z.n_abs) bt_abs ?_
    refine aw_cons ?_
    refine ew_ix ?_
    refine ew_var 0 ?_
    refine ew_var 1 ?_
    refine ix_fro hn ?_
    refine aw_nil ?_
    walk_at "cb abs"
    refine tail _ _ [] _ ?_ (fun _ _ _ => Iff.rfl)
    split <;> omega
  · refine sw_one ?_
    refine s1_if ?_
    refine tw_cmp ?_
    refine ew_callB (T.no Z.n_len) bt_len ?_
    refine aw_cons ?_
    refine ew_var 0 ?_
    refine aw_nil ?_
    walk_at "cb len"
    rw [List.length_map]
    refine ew_int ?_
    walk_at "cmp Gt"
    refine ⟨_, rfl, fun ht2 => ?_, fun ht2 => ?_⟩
    · have hl : 0 < (ns.length : Int) := of_decide_eq_true ht2
      obtain ⟨n, hn⟩ := at_int (ns := ns) (Int.emod_nonneg k (by omega)) (Int.emod_lt_of_pos k hl)
      refine sw_one ?_
      refine s1_set 3 ?_ sc.nd
      refine ew_bin ?_
      refine ew_var 3 ?_
      refine ew_bin ?_
      refine ew_bin ?_
      refine ew_callB (T.no Z.n_abs) bt_abs ?_
      refine aw_cons ?_
      refine ew_ix ?_
      refine ew_var 0 ?_
      refine ew_bin ?_
      refine ew_var 1 ?_
      refine ew_callB (T.no Z.n_len) bt_len ?_
      refine aw_cons ?_
      refine ew_var 0 ?_
      refine aw_nil ?_
      walk_at "cb len"
      rw [List.length_map]
      refine ob_mod hl ?_
      refine ix_fro hn ?_
      refine aw_nil ?_
      walk_at "cb abs"
      refine ew_int ?_
      walk_at "op mod"
      refine ew_int ?_
      walk_at "op mul"
      walk_at "op add"
      refine tail _ _ [] _ ?_ (fun _ _ _ => Iff.rfl)
      have := Int.emod_nonneg (if n < 0 then -n else n) (show (2147483629 : Int) ≠ 0 by decide)
      omega
    · refine sw_nil ?_
      refine tail _ _ [] _ ?_ (fun _ _ _ => Iff.rfl)
      omega
theorem c_law_box (T : TopOf K mg) (Z : Facts K) : Cal P w K mg base false 1 "_law_box" BoxS [] := cal_of T Z.d_law_box (by walk_at "b3") fun f fd F => fn_law_box T Z F
end
def MixS : SpecT := fun ss O R => ∃ (α : Type) (l : List α) (ι : α → Dat) (p : Addr) (b : Cell), ss = [.own p, .dat (.lst (l.map ι))] ∧ O p = some b ∧ isBox b ∧ l.length ≤ 1000 ∧ ∀ (q : Addr) (b' : Cell) (l' : List α), O q = none → isBox b' → l'.Perm l → R (.ret (.own q)) (up (up O p b') q (.lst ((l'.map ι).map .dat)))
section
variable {P : Program} {w : World} {K : PySem.W.Frag} {mg : Str → Option Value} {base : Heap}
theorem fn_law_mixed (T : TopOf K mg) (Z : Facts K) {f : Addr} {fd : FuncData} (F : L2.Fun K "_law_mixed" "_law_mixed" s_law_mixed f fd) : Fn P w K mg base false 2 f fd ["_law_box_here", "_law_items"] MixS := by
  have sc := sc_law_mixed
  refine fn_mk F sc_law_mixed (fun ss O R h => by obtain ⟨_, _, _, _, _, rfl, _⟩ := h; rfl) fun cdv A outer s H E ss O R hr hpo h => ?_
  obtain ⟨α, l, ι, p, b, rfl, hp, hb, hl, h⟩ := h
  -- 0:_law_box_here 1:_law_items 2:_law_left 3:_law_found 4:_law_turn
  refine sw_drop ?_
  refine sw_cons ?_
  refine s1_par 2 3 ?_ sc.nd
  refine aw_cons ?_
  refine ew_callTy (T.no Z.n_list) bt_list ?_
  refine aw_cons ?_
  refine ew_var 1 ?_
  refine aw_nil ?_
  refine cb_listL fun L hL => ?_
  refine aw_cons ?_
  refine ew_lst ?_
  refine aw_nil ?_
  refine ⟨by decide, fun q hq => ?_⟩
  have hqO : O q = none := by
    have n : q ≠ L := fun e => by rw [e, up_at] at hq; cases hq
    rw [up_ne n] at hq; exact hq
  have nql : q ≠ L := fun e => by rw [e, up_at] at hq; cases hq
  have npL : p ≠ L := own_ne hp hL
  have npq : p ≠ q := own_ne hp hqO
  refine aw_nil ?_
  refine ⟨_, _, rfl, ?_⟩
  refine sw_cons ?_
  refine s1_for hpo ?_
  refine iw_range1 (T.no Z.n_range) ?_
  refine aw_cons ?_
  refine ew_callB (T.no Z.n_len) bt_len ?_
  refine aw_cons ?_
  refine ew_var 2 ?_
  refine aw_nil ?_
  refine cb_lenO (by walk_at "cell") ?_
  refine aw_nil ?_
  refine ⟨_, rfl, by rw [List.length_map, List.length_map]; constructor <;> omega, ?_⟩
  rw [List.length_map, List.length_map, Int.toNat_natCast]
  refine ⟨fun i ρ' O' => ∃ (b' : Cell) (ls es : List α) (s4 : Slot), ρ' = [.own p, .dat (.lst (l.map ι)), .own L, .own q, s4] ∧ O' = up (up (up O p b') L (.lst ((ls.map ι).map .dat))) q (.lst ((es.map ι).map .dat)) ∧ isBox b' ∧ (es ++ ls).Perm l ∧ es.length = i, ?_, ?_, ?_⟩
  · refine ⟨b, l, [], .unk, rfl, ?_, hb, .refl _, rfl⟩
    rw [up_self hp]
    rfl
  · intro i d ρ2 O2 hj hd
    obtain ⟨b', ls, es, s4, rfl, rfl, hb', hperm, hes⟩ := hj
    have hi := (rangeD_at hd).1
    have hlen := hperm.length_eq
    rw [List.length_append] at hlen
    refine gw_name 4 ?_ sc.nd
    refine sw_one ?_
    refine s1_expr ?_
    refine ew_append ?_
    refine ew_var 3 ?_
    refine ⟨?_, ?_⟩
    · walk_at "ty"
    refine ew_popAt ?_
    refine ew_var 2 ?_
    refine ⟨?_, ?_⟩
    · exact ⟨rfl, _, by rw [up_ne nql.symm]; exact up_at⟩
    refine ew_call (c_law_take T Z) hr ?_
    refine aw_cons ?_
    refine ew_var 0 ?_
    refine aw_cons ?_
    refine ew_callB (T.no Z.n_len) bt_len ?_
    refine aw_cons ?_
    refine ew_var 2 ?_
    refine aw_nil ?_
    refine cb_lenO (by rw [up_ne nql.symm]; exact up_at) ?_
    refine aw_nil ?_
    refine ⟨p, _, b', rfl, by rw [up_ne npq, up_ne npL]; exact up_at, hb', by rw [List.length_map, List.length_map]; omega, by rw [List.length_map, List.length_map]; omega, fun r b2 h0 h1 hb2 => ?_⟩
    rw [List.length_map, List.length_map] at h1
    obtain ⟨a, ha⟩ : ∃ a, ls[r.toNat]? = some a := ⟨_, List.getElem?_eq_getElem (by omega)⟩
    refine mb_popAt (j := r.toNat) (s := .dat (ι a)) (by rw [up_ne npL.symm, up_ne nql.symm]; exact up_at) (by constructor <;> omega) (by rw [List.length_map, List.length_map]; exact seq_at h0 h1) (by rw [List.getElem?_map, List.getElem?_map, ha]; rfl) ?_
    refine mb_append (by rw [up_ne nql, up_ne npq.symm]; exact up_at) (by rw [List.length_map, List.length_map]; exact Nat.lt_of_le_of_lt (show es.length ≤ 1000 by omega) (by decide)) ?_
    refine ⟨b2, ls.eraseIdx r.toNat, es ++ [a], _, rfl, ?_, hb2, ?_, ?_⟩
    · rw [erase_map, erase_map, List.map_append, List.map_append]
      walk_at "own"
    · rw [List.append_assoc]
      exact ((rot_perm ha).append_left es).trans hperm
    · rw [List.length_append, hes]; rfl
  · intro ρ2 O2 hj
    obtain ⟨b', ls, es, s4, rfl, rfl, hb', hperm, hes⟩ := hj
    rw [rangeD_len] at hes
    have hlen := hperm.length_eq
    rw [List.length_append] at hlen
    have els : ls = [] := List.length_eq_zero_iff.mp (by omega)
    subst els
    rw [List.append_nil] at hperm
    refine sw_one ?_
    refine s1_ret ?_
    refine ew_var 3 ?_
    refine ⟨_, ?_, h q b' es hqO hb' hperm⟩
    exact Sub.ups (Sub.up (by rw [up_ne npL.symm]; exact hL))
theorem c_law_mixed (T : TopOf K mg) (Z : Facts K) : Cal P w K mg base false 2 "_law_mixed" MixS [] := cal_of T Z.d_law_mixed (by walk_at "b2") fun f fd F => fn_law_mixed T Z F
end
def NamesS : SpecT := fun ss O R => ∃ (p : Addr) (b : Cell) (m : Int), ss = [.own p, .dat (.int m)] ∧ O p = some b ∧ isBox b ∧ 1 ≤ m ∧ m ≤ 8 ∧ ∀ (b' : Cell) (ws : List Str), isBox b' → 0 < ws.length → ws.length ≤ 20 → (∀ y ∈ ws, isNm y = true) → R (.ret (.dat (.lst (ws.map .str)))) (up O p b')
def nmAt (first form : Int) (i : Nat) : Str := timesS ⟨#[97 + ((first + 7 * (0 + (i : Int))) % 26).toNat]⟩ (1 + (0 + (i : Int)) * (if decide (form = 1) = true then 1 else 0))
theorem ltr_at : ∀ j : Fin 26, (sgs ltrs)[j.val]? = some (97 + j.val) := by decide +kernel
theorem nm_ok : ∀ c : Fin 26, ∀ n : Fin 8, isNm (timesS ⟨#[97 + c.val]⟩ ((n.val : Int) + 1)) = true := by decide +kernel
theorem nmAt_ok {first form : Int} {i : Nat} (hi : i < 8) : isNm (nmAt first form i) = true := by
  unfold nmAt
  have h0 := Int.emod_nonneg (first + 7 * (0 + (i : Int))) (show (26 : Int) ≠ 0 by decide)
  have h1 := Int.emod_lt_of_pos (first + 7 * (0 + (i : Int))) (show (0 : Int) < 26 by decide)
  generalize (first + 7 * (0 + (i : Int))) % 26 = r at h0 h1
  by_cases hf : form = 1
  · rw [decide_eq_true hf, if_pos rfl]
    have e := nm_ok ⟨r.toNat, by omega⟩ ⟨i, hi⟩
    rw [show 1 + (0 + (i : Int)) * 1 = (i : Int) + 1 by omega]
    exact e
  · rw [decide_eq_false hf, if_neg Bool.false_ne_true]
    have e := nm_ok ⟨r.toNat, by omega⟩ ⟨0, by decide⟩
    rw [show 1 + (0 + (i : Int)) * 0 = ((0 : Nat) : Int) + 1 by omega]
    exact e
def words2 : Str := "kind of some every not mod open close root parent above earlier later all"
def words3 : Str := "a aa b bounds zz others anyone c"
theorem words2_ok : ((Txt.split words2 " ").all isNm && decide (8 ≤ (Txt.split words2 " ").length) && decide ((Txt.split words2 " ").length ≤ 20)) = true := by decide +kernel
theorem words3_ok : ((Txt.split words3 " ").all isNm && decide (8 ≤ (Txt.split words3 " ").length) && decide ((Txt.split words3 " ").length ≤ 20)) = true := by decide +kernel
structure GoodWs (ws : List Str) : Prop where
  all : ∀ y ∈ ws, isNm y = true
  lo : 8 ≤ ws.length
  hi : ws.length ≤ 20
theorem goodWs_of {ws : List Str} (h : (ws.all isNm && decide (8 ≤ ws.length) && decide (ws.length ≤ 20)) = true) : GoodWs ws := by
  simp only [Bool.and_eq_true, decide_eq_true_eq, List.all_eq_true] at h
  exact ⟨h.1.1, h.1.2, h.2⟩
theorem names_good {first form : Int} : GoodWs ((List.range 8).map (nmAt first form)) := ⟨fun y hy => by
  obtain ⟨i, hi, rfl⟩ := List.mem_map.mp hy
  exact nmAt_ok (List.mem_range.mp hi), by rw [List.length_map]; decide, by rw [List.length_map]; decide⟩
section
variable {P : Program} {w : World} {K : PySem.W.Frag} {mg : Str → Option Value} {base : Heap}
theorem fn_law_names (T : TopOf K mg) (Z : Facts K) {f : Addr} {fd : FuncData} (F : L2.Fun K "_law_names" "_law_names" s_law_names f fd) : Fn P w K mg base false 3 f fd ["_law_box_here", "_law_many"] NamesS := by
  have sc := sc_law_names
  refine fn_mk F sc_law_names (fun ss O R h => by obtain ⟨_, _, _, rfl, _⟩ := h; rfl) fun cdv A outer s H E ss O R hr hpo h => ?_
  obtain ⟨p, b, m, rfl, hp, hb, hm1, hm2, h⟩ := h
  -- 0:_law_box_here 1:_law_many 2:_law_letters 3:_law_first 4:_law_form 5:_law_found 6:_law_k
  have tail : ∀ (b1 : Cell) (ws : List Str) (s2 s3 s4 s6 : Slot) (x : ExK), isBox b1 → GoodWs ws → SW (cxOf (L2.CX P w) P w K mg base N_law_names "_law_names" (defScope s_law_names) f cdv A outer s H E) (up O p b1) [.own p, .dat (.int m), s2, s3, s4, .dat (.lst (ws.map .str)), s6] ((defBody s_law_names).drop 4) x { nx := fun _ O' => R (.ret (.dat .non)) O', rt := fun z O' => R (.ret z) O' } := by
    intro b1 ws s2 s3 s4 s6 x hb1 hg
    have h1 := hg.lo
    have h2 := hg.hi
    refine sw_one ?_
    refine s1_ret ?_
    refine ew_slice ?_
    refine ew_frz ?_
    refine ew_call (c_law_mixed T Z) hr ?_
    refine aw_cons ?_
    refine ew_var 0 ?_
    refine aw_cons ?_
    refine ew_var 5 ?_
    refine aw_nil ?_
    refine ⟨Str, ws, .str, p, b1, rfl, up_at, hb1, by omega, fun q b2 ws' hq hb2 hperm => ?_⟩
    refine ⟨q, ws'.map .str, rfl, up_at, ?_⟩
    have hq2 : up (up O p b1) p b2 q = none := by
      have n : q ≠ p := fun e => by rw [e, up_at] at hq; cases hq
      rw [up_ne n]; exact hq
    rw [dn_up hq2, up_up]
    refine ow_none ?_
    refine ow_some ?_
    refine ew_var 1 ?_
    refine ⟨_, rfl, ?_⟩
    refine sb_lst ?_
    rw [cut_take (by omega), ← List.map_take]
    have e := hperm.length_eq
    refine h b2 _ hb2 ?_ ?_ fun y hy => hg.all y (hperm.mem_iff.mp (List.mem_of_mem_take hy))
    · rw [List.length_take]; omega
    · rw [List.length_take]; omega
  refine sw_cons ?_
  refine s1_asg ?_
  refine ew_tup ?_
  refine aw_cons ?_
  refine ew_str ?_
  refine aw_cons ?_
  refine ew_call (c_law_take T Z) hr ?_
  refine aw_cons ?_
  refine ew_var 0 ?_
  refine aw_cons ?_
  refine ew_int ?_
  refine aw_nil ?_
  refine ⟨p, _, b, rfl, hp, hb, by decide, by decide, fun first b1 hf0 hf1 hb1 => ?_⟩
  refine aw_cons ?_
  refine ew_call (c_law_take T Z) hr ?_
  refine aw_cons ?_
  refine ew_var 0 ?_
  refine aw_cons ?_
  refine ew_int ?_
  refine aw_nil ?_
  refine ⟨p, _, b1, rfl, up_at, hb1, by decide, by decide, fun form b2 hg0 hg1 hb2 => ?_⟩
  rw [up_up]
  refine aw_nil ?_
  refine ⟨[_, _, _], rfl, by walk_at "few", ?_⟩
  refine gw_tup ?_
  refine gsw_cons ?_
  refine gw_name 2 ?_ sc.nd
  refine gsw_cons ?_
  refine gw_name 3 ?_ sc.nd
  refine gsw_cons ?_
  refine gw_name 4 ?_ sc.nd
  refine gsw_nil ?_
  refine sw_cons ?_
  refine s1_setMap1 (List.range 8) (fun i => .int (0 + (i : Int))) (fun i => .str (nmAt first form i)) [("_law_k", 6)] 5 sc.nd (.name (i := 6) (by decide) fun Y ⟨_, _, _, _, _, e⟩ => by subst e; exact pg_name (i := 6) sc.nd rfl (.inl rfl) (.inr rfl)) (blkOk_by (N := N_law_names) (sc := defScope s_law_names) (by decide +kernel)) ?_ (by decide) (fun i hi => ⟨_, rfl, fun O' Y hY => ?_⟩) ?_
  · refine iw_range1 (T.no Z.n_range) ?_
    refine aw_cons ?_
    refine ew_int ?_
    refine aw_nil ?_
    exact ⟨8, rfl, by decide, rfl, rfl⟩
  · obtain ⟨_, _, _, _, _, rfl⟩ := hY
    have hi := List.mem_range.mp hi
    have h0 := Int.emod_nonneg (first + 7 * (0 + (i : Int))) (show (26 : Int) ≠ 0 by decide)
    have h1 := Int.emod_lt_of_pos (first + 7 * (0 + (i : Int))) (show (0 : Int) < 26 by decide)
    refine ew_bin ?_
    refine ew_ix ?_
    refine ew_var 2 ?_
    refine ew_bin ?_
    refine ew_bin ?_
    refine ew_var 3 ?_
    refine ew_bin ?_
    refine ew_int ?_
    refine ew_var 6 ?_
    walk_at "op mul"
    walk_at "op add"
    refine ew_int ?_
    walk_at "op mod"
    have hat : atI (sgs ltrs) ((first + 7 * (0 + (i : Int))) % 26) = some (97 + ((first + 7 * (0 + (i : Int))) % 26).toNat) := by
      have e := ltr_at ⟨((first + 7 * (0 + (i : Int))) % 26).toNat, by omega⟩
      have e2 : (first + 7 * (0 + (i : Int))) % 26 = (((first + 7 * (0 + (i : Int))) % 26).toNat : Int) := by omega
      rw [e2]
      exact atI_nat e
    refine ix_sgn (by decide +kernel) hat ?_
    refine ew_bin ?_
    refine ew_int ?_
    refine ew_bin ?_
    refine ew_var 6 ?_
    refine ew_callTy (T.no Z.n_int) bt_int ?_
    refine aw_cons ?_
    refine ew_cmp ?_
    refine ew_var 4 ?_
    refine ew_int ?_
    walk_at "cmp Eq"
    refine aw_nil ?_
    walk_at "cb int"
    refine ob_mul (.inl (by constructor <;> omega)) ?_
    walk_at "op add"
    refine ob_times ?_ (show 1 ≤ 1000 by decide) ?_
    · by_cases hf : form = 1
      · rw [decide_eq_true hf, if_pos rfl]
        constructor <;> omega
      · rw [decide_eq_false hf, if_neg Bool.false_ne_true]
        constructor <;> omega
    · exact ⟨rfl, rfl⟩
  intro q hq
  have eL : (List.range 8).map (fun i => Dat.str (nmAt first form i)) = ((List.range 8).map (nmAt first form)).map .str := by rw [List.map_map]; rfl
  rw [eL]
  refine sw_frz 5 (p := q) (ds := ((List.range 8).map (nmAt first form)).map .str) up_at ?_
  rw [dn_up hq]
  refine sw_cons ?_
  refine s1_if ?_
  refine tw_cmp ?_
  refine ew_var 4 ?_
  refine ew_int ?_
  walk_at "cmp Eq"
  refine ⟨_, rfl, fun ht => ?_, fun ht => ?_⟩
  · refine sw_one ?_
    refine s1_set 5 ?_ sc.nd
    refine ew_split ?_
    refine ew_str ?_
    refine ⟨_, rfl, ?_⟩
    refine ew_str ?_
    refine m1_split (by decide +kernel) (by decide +kernel) ?_
    refine sw_cons ?_
    refine s1_if ?_
    refine tw_cmp ?_
    refine ew_var 4 ?_
    refine ew_int ?_
    walk_at "cmp Eq"
    refine ⟨_, rfl, fun ht => ?_, fun ht => ?_⟩
    · refine sw_one ?_
      refine s1_set 5 ?_ sc.nd
      refine ew_split ?_
      refine ew_str ?_
      refine ⟨_, rfl, ?_⟩
      refine ew_str ?_
      refine m1_split (by decide +kernel) (by decide +kernel) ?_
      exact tail b2 _ _ _ _ _ _ hb2 (goodWs_of words3_ok)
    · refine sw_nil ?_
      exact tail b2 _ _ _ _ _ _ hb2 (goodWs_of words2_ok)
  · refine sw_nil ?_
    refine sw_cons ?_
    refine s1_if ?_
    refine tw_cmp ?_
    refine ew_var 4 ?_
    refine ew_int ?_
    walk_at "cmp Eq"
    refine ⟨_, rfl, fun ht => ?_, fun ht => ?_⟩
    · refine sw_one ?_
      refine s1_set 5 ?_ sc.nd
      refine ew_split ?_
      refine ew_str ?_
      refine ⟨_, rfl, ?_⟩
      refine ew_str ?_
      refine m1_split (by decide +kernel) (by decide +kernel) ?_
      exact tail b2 _ _ _ _ _ _ hb2 (goodWs_of words3_ok)
    · refine sw_nil ?_
      exact tail b2 _ _ _ _ _ _ hb2 names_good
theorem c_law_names (T : TopOf K mg) (Z : Facts K) : Cal P w K mg base false 3 "_law_names" NamesS [] := cal_of T Z.d_law_names (by walk_at "b2") fun f fd F => fn_law_names T Z F
end
def TxtOk (z : Str) : Prop := z.length ≤ 1000 ∧ sml z
def LNameS : SpecT := fun ss O R => ∃ z : Str, ss = [.dat (.str z)] ∧ TxtOk z ∧ R (.ret (.dat (.bl (isNm z)))) O
def LFigS : SpecT := fun ss O R => ∃ z : Str, ss = [.dat (.str z)] ∧ TxtOk z ∧ R (.ret (.dat (.bl (isFg z)))) O
def LEventS : SpecT := fun ss O R => ∃ z : Str, ss = [.dat (.str z)] ∧ TxtOk z ∧ R (.ret (.dat (evR (evS z)))) O
def sgn (c : Nat) : Dat := .str ⟨#[c]⟩
theorem fine_sgn {z : Str} (h : sml z) {g : Nat → Bool} : fine (.lst (((sgs z).filter g).map sgn)) = true := fines_map fun c hc => by
  have h1 := h c (List.mem_filter.mp hc).1
  show smlB ⟨#[c]⟩ = true
  exact sml_b fun x hx => by rw [List.mem_singleton.mp (show x ∈ [c] from hx)]; exact h1
theorem dep_sgn {l : List Nat} : dep (.lst (l.map sgn)) ≤ 64 := by
  have := deps_map (f := sgn) (l := l) (b := 0) fun c _ => Nat.le_refl 0
  rw [dep_lst]; omega
theorem shaped_nil : SeqAt.shaped (toPy (.lst [])) = true := by decide +kernel
theorem none_bad {z L : Str} : (((sgs z).filter fun c => !decide (c ∈ sgs L)).map sgn).isEmpty = (sgs z).all fun c => decide (c ∈ sgs L) := by
  rw [List.isEmpty_map]
  induction sgs z with
  | nil => rfl
  | cons a r ih =>
    rw [List.filter_cons, List.all_cons]
    by_cases h : a ∈ sgs L
    · rw [decide_eq_true h]; exact ih
    · rw [decide_eq_false h]; rfl
section
variable {P : Program} {w : World} {K : PySem.W.Frag} {mg : Str → Option Value} {base : Heap}
theorem fn_law_is_name (T : TopOf K mg) (Z : Facts K) {f : Addr} {fd : FuncData} (F : L2.Fun K "_law_is_name" "_law_is_name" s_law_is_name f fd) : Fn P w K mg base false 1 f fd ["_law_word"] LNameS := by
  have sc := sc_law_is_name
  refine fn_mk F sc_law_is_name (fun ss O R h => by obtain ⟨_, rfl, _⟩ := h; rfl) fun cdv A outer s H E ss O R hr hpo h => ?_
  obtain ⟨z, rfl, hz, h⟩ := h
  have hzl : z.length ≤ sizeLine := Nat.le_trans hz.1 (by decide)
  -- 0:_law_word 1:_law_letters 2:_law_sign
  refine sw_cons ?_
  refine s1_set 1 ?_ sc.nd
  refine ew_str ?_
  refine sw_cons ?_
  refine s1_if ?_
  refine tw_w ?_
  refine tww_or ?_
  refine tw_cmp ?_
  refine ew_var 0 ?_
  refine ew_tup ?_
  refine aw_cons ?_
  refine ew_str ?_
  refine aw_cons ?_
  refine ew_str ?_
  refine aw_cons ?_
  refine ew_str ?_
  refine aw_nil ?_
  refine ⟨[_, _, _], rfl, by walk_at "few", ?_⟩
  refine ob_inT (ws := takenW) ?_
  refine ⟨_, rfl, fun ht => ?_, fun ht => ?_⟩
  · have e : isNm z = false := by
      unfold isNm
      rw [ht, Bool.not_true, Bool.and_false]
    rw [e] at h
    refine ⟨fun hb => ?_, fun hb => ?_⟩
    · refine sw_one ?_
      refine s1_ret ?_
      refine ew_bl ?_
      exact h
    · exact absurd hb (by decide)
  · refine tww_or1 ?_
    refine tw_not ?_
    refine tw_chain ?_
    refine ew_int ?_
    refine ew_callB (T.no Z.n_len) bt_len ?_
    refine aw_cons ?_
    refine ew_var 0 ?_
    refine aw_nil ?_
    refine cb_lenS hzl ?_
    walk_at "cmp Lt"
    refine ⟨rfl, _, rfl, fun hc => ?_, fun hc => ?_⟩
    · refine ew_int ?_
      walk_at "cmp Lt"
      refine ⟨_, rfl, fun ht2 => ?_, fun ht2 => ?_⟩
      · have e : isNm z = false := by
          have e1 : decide (z.length ≤ 8) = false := decide_eq_false fun q => by
            have e2 : decide ((z.length : Int) < 9) = false := by
              cases hq : decide ((z.length : Int) < 9) with
              | false => rfl
              | true => rw [hq] at ht2; cases ht2
            exact of_decide_eq_false e2 (by omega)
          unfold isNm madeOf
          rw [e1, Bool.false_and, Bool.and_false, Bool.false_and]
        rw [e] at h
        refine sw_one ?_
        refine s1_ret ?_
        refine ew_bl ?_
        exact h
      · refine sw_nil ?_
        refine sw_one ?_
        refine s1_ret ?_
        refine ew_cmp ?_
        refine ew_map (sgs z) sgn sgn (fun c => !decide (c ∈ sgs ltrs)) [("_law_sign", 2)] sc.nd (.name (i := 2) (by decide) fun Y ⟨_, _, _, _, _, e⟩ => by subst e; exact pg_name (i := 2) sc.nd rfl (.inl rfl) (.inr rfl)) (blkOk_by (N := N_law_is_name) (sc := defScope s_law_is_name) (by decide +kernel)) (iw_str (ew_var 0 ⟨z, rfl, rfl, rfl⟩)) (by rw [← sgs_len]; exact hzl) (fun c hcm => ⟨_, rfl, fun O' Y hY => ?_⟩) ?_
        · obtain ⟨_, _, _, _, _, rfl⟩ := hY
          refine ⟨tsw_one ?_, fun _ => ?_⟩
          · refine tw_cmp ?_
            refine ew_var 2 ?_
            refine ew_var 1 ?_
            refine ob_niS ?_
            exact ⟨_, rfl, rfl, rfl⟩
          · refine ew_var 2 ?_
            exact ⟨rfl, rfl⟩
        · refine ew_lstD ?_
          refine aw_nil ?_
          refine ⟨[], rfl, by decide, ?_⟩
          have hf := fine_sgn (g := fun c => !decide (c ∈ sgs ltrs)) hz.2
          refine ob_eq (hr.r.mono (by decide)) (fine_all _ hf).1 rfl (shape_of hf dep_sgn) shaped_nil ?_
          rw [eqD_nil, none_bad]
          have e : isNm z = (sgs z).all fun c => decide (c ∈ sgs ltrs) := by
            have h1 : decide (0 < z.length) = true := decide_eq_true (by have := of_decide_eq_true hc; omega)
            have h2 : decide (z.length ≤ 8) = true := decide_eq_true (by
              have e2 : decide ((z.length : Int) < 9) = true := by
                cases hq : decide ((z.length : Int) < 9) with
                | true => rfl
                | false => rw [hq] at ht2; cases ht2
              have := of_decide_eq_true e2
              omega)
            unfold isNm madeOf
            rw [h1, h2, ht, Bool.true_and, Bool.true_and, Bool.not_false, Bool.and_true]
          rw [e] at h
          exact h
    · have e : isNm z = false := by
        have e1 : decide (0 < z.length) = false := decide_eq_false fun q => of_decide_eq_false hc (by omega)
        unfold isNm madeOf
        rw [e1, Bool.false_and, Bool.false_and]
      rw [e] at h
      refine ⟨fun ht2 => ?_, fun ht2 => ?_⟩
      · refine sw_one ?_
        refine s1_ret ?_
        refine ew_bl ?_
        exact h
      · exact absurd ht2 (by decide)
theorem c_law_is_name (T : TopOf K mg) (Z : Facts K) : Cal P w K mg base false 1 "_law_is_name" LNameS [] := cal_of T Z.d_law_is_name (by walk_at "b1") fun f fd F => fn_law_is_name T Z F
end
section
variable {P : Program} {w : World} {K : PySem.W.Frag} {mg : Str → Option Value} {base : Heap}
theorem fn_law_is_figure (T : TopOf K mg) (Z : Facts K) {f : Addr} {fd : FuncData} (F : L2.Fun K "_law_is_figure" "_law_is_figure" s_law_is_figure f fd) : Fn P w K mg base false 1 f fd ["_law_word"] LFigS := by
  have sc := sc_law_is_figure
  refine fn_mk F sc_law_is_figure (fun ss O R h => by obtain ⟨_, rfl, _⟩ := h; rfl) fun cdv A outer s H E ss O R hr hpo h => ?_
  obtain ⟨z, rfl, hz, h⟩ := h
  have hzl : z.length ≤ sizeLine := Nat.le_trans hz.1 (by decide)
  -- 0:_law_word 1:_law_sign
  refine sw_cons ?_
  refine s1_if ?_
  refine tw_w ?_
  refine tww_or ?_
  refine tw_not ?_
  refine tw_chain ?_
  refine ew_int ?_
  refine ew_callB (T.no Z.n_len) bt_len ?_
  refine aw_cons ?_
  refine ew_var 0 ?_
  refine aw_nil ?_
  refine cb_lenS hzl ?_
  walk_at "cmp Lt"
  refine ⟨rfl, _, rfl, fun hc => ?_, fun hc => ?_⟩
  · have h1 : decide (0 < z.length) = true := decide_eq_true (by have := of_decide_eq_true hc; omega)
    refine ew_int ?_
    walk_at "cmp Lt"
    refine ⟨_, rfl, ?_⟩
    refine ⟨fun ht => ?_, fun ht => ?_⟩
    · have e : isFg z = false := by
        have e1 : decide (z.length ≤ 12) = false := decide_eq_false fun q => by
          rw [decide_eq_true (show (z.length : Int) < 13 by omega)] at ht
          cases ht
        unfold isFg madeOf
        rw [e1, Bool.false_and, Bool.and_false, Bool.false_and]
      rw [e] at h
      refine ⟨fun hb => ?_, fun hb => absurd hb (by decide)⟩
      refine sw_one ?_
      refine s1_ret ?_
      refine ew_bl ?_
      exact h
    · have h2 : decide (z.length ≤ 12) = true := decide_eq_true (by
        cases hq : decide ((z.length : Int) < 13) with
        | true =>
          have := of_decide_eq_true hq
          omega
        | false => rw [hq] at ht; cases ht)
      refine tww_or1 ?_
      refine tw_cmp ?_
      refine ew_map (sgs z) sgn sgn (fun c => !decide (c ∈ sgs digs)) [("_law_sign", 1)] sc.nd (.name (i := 1) (by decide) fun Y ⟨_, _, _, _, _, e⟩ => by subst e; exact pg_name (i := 1) sc.nd rfl (.inl rfl) (.inr rfl)) (blkOk_by (N := N_law_is_figure) (sc := defScope s_law_is_figure) (by decide +kernel)) (iw_str (ew_var 0 ⟨z, rfl, rfl, rfl⟩)) (by rw [← sgs_len]; exact hzl) (fun c hcm => ⟨_, rfl, fun O' Y hY => ?_⟩) ?_
      · obtain ⟨_, _, _, _, _, rfl⟩ := hY
        refine ⟨tsw_one ?_, fun _ => ?_⟩
        · refine tw_cmp ?_
          refine ew_var 1 ?_
          refine ew_str ?_
          refine ob_niS ?_
          exact ⟨_, rfl, rfl, rfl⟩
        · refine ew_var 1 ?_
          exact ⟨rfl, rfl⟩
      · refine ew_lstD ?_
        refine aw_nil ?_
        refine ⟨[], rfl, by decide, ?_⟩
        have hf := fine_sgn (g := fun c => !decide (c ∈ sgs digs)) hz.2
        refine ob_ne (hr.r.mono (by decide)) (fine_all _ hf).1 rfl (shape_of hf dep_sgn) shaped_nil ?_
        rw [eqD_nil, none_bad]
        refine ⟨_, rfl, fun ht2 => ?_, fun ht2 => ?_⟩
        · have e : isFg z = false := by
            have e3 : ((sgs z).all fun c => decide (c ∈ sgs digs)) = false := by
              cases hq : ((sgs z).all fun c => decide (c ∈ sgs digs)) with
              | false => rfl
              | true => rw [hq] at ht2; cases ht2
            unfold isFg madeOf
            rw [e3, Bool.and_false, Bool.and_false, Bool.false_and]
          rw [e] at h
          refine sw_one ?_
          refine s1_ret ?_
          refine ew_bl ?_
          exact h
        · have e3 : ((sgs z).all fun c => decide (c ∈ sgs digs)) = true := by
            cases hq : ((sgs z).all fun c => decide (c ∈ sgs digs)) with
            | true => rfl
            | false => rw [hq] at ht2; cases ht2
          have hm : madeOf z digs 12 = true := by
            unfold madeOf
            rw [h1, h2, e3]; rfl
          have e : isFg z = figL (sgs z) := by
            unfold isFg
            rw [hm, Bool.true_and]
          rw [e] at h
          refine sw_nil ?_
          refine sw_one ?_
          refine s1_ret ?_
          refine ew_or ?_
          refine ew_cmp ?_
          refine ew_var 0 ?_
          refine ew_str ?_
          walk_at "cmp Eq"
          refine ⟨_, rfl, fun hc => ?_, fun hc => ?_⟩
          · rw [fig_zero (of_decide_eq_true hc)] at h
            exact h
          · obtain ⟨c, hx, e2⟩ := fig_first hm (of_decide_eq_false hc)
            refine ew_one ?_
            refine ew_cmp ?_
            refine ew_ix ?_
            refine ew_var 0 ?_
            refine ew_int ?_
            refine ix_sgn hzl hx ?_
            refine ew_str ?_
            walk_at "cmp NotEq"
            rw [e2] at h
            exact h
  · have e : isFg z = false := by
      have e1 : decide (0 < z.length) = false := decide_eq_false fun q => of_decide_eq_false hc (by omega)
      unfold isFg madeOf
      rw [e1, Bool.false_and, Bool.false_and]
    rw [e] at h
    refine ⟨fun _ => ⟨fun hb => ?_, fun hb => absurd hb (by decide)⟩, fun hb => absurd hb (by decide)⟩
    refine sw_one ?_
    refine s1_ret ?_
    refine ew_bl ?_
    exact h
theorem c_law_is_figure (T : TopOf K mg) (Z : Facts K) : Cal P w K mg base false 1 "_law_is_figure" LFigS [] := cal_of T Z.d_law_is_figure (by walk_at "b1") fun f fd F => fn_law_is_figure T Z F
theorem TxtOk.cut {z : Str} {lo hi : Option Int} (h : TxtOk z) : TxtOk (cutS z lo hi) := ⟨Nat.le_trans cutS_len h.1, sml_cut h.2⟩
theorem fn_law_event (T : TopOf K mg) (Z : Facts K) {f : Addr} {fd : FuncData} (F : L2.Fun K "_law_event" "_law_event" s_law_event f fd) : Fn P w K mg base false 2 f fd ["_law_word"] LEventS := by
  have sc := sc_law_event
  refine fn_mk F sc_law_event (fun ss O R h => by obtain ⟨_, rfl, _⟩ := h; rfl) fun cdv A outer s H E ss O R hr hpo h => ?_
  obtain ⟨z, rfl, hz, h⟩ := h
  have hzl : z.length ≤ sizeLine := Nat.le_trans hz.1 (by decide)
  -- 0:_law_word 1:_law_spot
  refine sw_cons ?_
  refine s1_if ?_
  refine tw_cmp ?_
  refine ew_var 0 ?_
  refine ew_str ?_
  walk_at "cmp Eq"
  refine ⟨_, rfl, fun ht => ?_, fun ht => ?_⟩
  · refine sw_one ?_
    refine s1_ret ?_
    refine ew_tup ?_
    refine aw_cons ?_
    refine ew_str ?_
    refine aw_nil ?_
    refine ⟨[_], rfl, by walk_at "few", ?_⟩
    have e : evS z = some none := if_pos (of_decide_eq_true ht)
    rw [e] at h
    exact h
  · have h0 : ¬ z = "/" := of_decide_eq_false ht
    refine sw_nil ?_
    refine sw_cons ?_
    refine s1_set 1 ?_ sc.nd
    refine ew_find ?_
    refine ew_var 0 ?_
    refine ⟨_, rfl, ?_⟩
    refine ew_str ?_
    walk_at "m1 find"
    refine sw_cons ?_
    refine s1_if ?_
    refine tw_w ?_
    refine tww_or ?_
    refine tw_cmp ?_
    refine ew_var 1 ?_
    refine ew_int ?_
    walk_at "cmp Lt"
    rcases cut_at z ":" with ⟨e1, e2⟩ | ⟨i, e1, e2⟩
    · rw [e1]
      have e : evS z = none := evS_none h0 (by rw [e2]; exact Bool.and_false _)
      rw [e] at h
      refine ⟨_, rfl, fun ht => ?_, fun ht => ?_⟩
      · refine ⟨fun hb => ?_, fun hb => ?_⟩
        · refine sw_one ?_
          refine s1_ret ?_
          refine ew_non ?_
          exact h
        · exact absurd hb (by decide)
      · exact absurd ht (by decide)
    · rw [e1]
      rw [colon_len] at e2
      have f1 : (Txt.partition z ":").1 = cutS z none (some (i : Int)) := by rw [e2]
      have f2 : (Txt.partition z ":").2.1 = ":" := by rw [e2]
      have f3 : (Txt.partition z ":").2.2 = cutS z (some ((i : Int) + 1)) none := by rw [e2]; rfl
      have fc : decide ((Txt.partition z ":").2.1 = "") = false := by rw [f2]; decide +kernel
      refine ⟨_, rfl, fun ht => ?_, fun ht => ?_⟩
      · exact absurd (of_decide_eq_true ht) (by omega)
      · refine tww_or ?_
        refine tw_not ?_
        refine tw_val ?_
        refine ew_call (c_law_is_name T Z) hr ?_
        refine aw_cons ?_
        refine ew_slice ?_
        refine ew_var 0 ?_
        refine ow_none ?_
        refine ow_some ?_
        refine ew_var 1 ?_
        refine ⟨_, rfl, ?_⟩
        refine sb_str hzl ?_
        refine aw_nil ?_
        refine ⟨_, rfl, hz.cut, ?_⟩
        refine ⟨_, rfl, fun ht => ?_, fun ht => ?_⟩
        · have e : evS z = none := evS_none h0 (by
            rw [f1]
            cases hq : isNm (cutS z none (some (i : Int))) with
            | false => rfl
            | true => rw [hq] at ht; cases ht)
          rw [e] at h
          refine ⟨fun hb => ?_, fun hb => absurd hb (by decide)⟩
          refine sw_one ?_
          refine s1_ret ?_
          refine ew_non ?_
          exact h
        · have hnm : isNm (cutS z none (some (i : Int))) = true := by
            cases hq : isNm (cutS z none (some (i : Int))) with
            | true => rfl
            | false => rw [hq] at ht; cases ht
          refine tww_or1 ?_
          refine tw_not ?_
          refine tw_val ?_
          refine ew_call (c_law_is_figure T Z) hr ?_
          refine aw_cons ?_
          refine ew_slice ?_
          refine ew_var 0 ?_
          refine ow_some ?_
          refine ew_bin ?_
          refine ew_var 1 ?_
          refine ew_int ?_
          walk_at "op add"
          refine ⟨_, rfl, ?_⟩
          refine ow_none ?_
          refine sb_str hzl ?_
          refine aw_nil ?_
          refine ⟨_, rfl, hz.cut, ?_⟩
          refine ⟨_, rfl, fun ht => ?_, fun ht => ?_⟩
          · have e : evS z = none := evS_none h0 (by
              rw [f3]
              cases hq : isFg (cutS z (some ((i : Int) + 1)) none) with
              | false => rw [Bool.and_false, Bool.and_false]
              | true => rw [hq] at ht; cases ht)
            rw [e] at h
            refine sw_one ?_
            refine s1_ret ?_
            refine ew_non ?_
            exact h
          · have hfg : isFg (cutS z (some ((i : Int) + 1)) none) = true := by
              cases hq : isFg (cutS z (some ((i : Int) + 1)) none) with
              | true => rfl
              | false => rw [hq] at ht; cases ht
            obtain ⟨hi, hl⟩ := fig_int hfg
            have e : evS z = some (some (cutS z none (some (i : Int)), figV (cutS z (some ((i : Int) + 1)) none))) := by
              have := evS_open h0 (by rw [f1]; exact hnm) fc (by rw [f3]; exact hfg)
              rw [f1, f3] at this
              exact this
            rw [e] at h
            refine sw_nil ?_
            refine sw_one ?_
            refine s1_ret ?_
            refine ew_tup ?_
            refine aw_cons ?_
            refine ew_str ?_
            refine aw_cons ?_
            refine ew_slice ?_
            refine ew_var 0 ?_
            refine ow_none ?_
            refine ow_some ?_
            refine ew_var 1 ?_
            refine ⟨_, rfl, ?_⟩
            refine sb_str hzl ?_
            refine aw_cons ?_
            refine ew_callTy (T.no Z.n_int) bt_int ?_
            refine aw_cons ?_
            refine ew_slice ?_
            refine ew_var 0 ?_
            refine ow_some ?_
            refine ew_bin ?_
            refine ew_var 1 ?_
            refine ew_int ?_
            walk_at "op add"
            refine ⟨_, rfl, ?_⟩
            refine ow_none ?_
            refine sb_str hzl ?_
            refine aw_nil ?_
            refine cb_intS hi (by omega) ?_
            refine aw_nil ?_
            refine ⟨[_, _, _], rfl, by walk_at "few", ?_⟩
            exact h
theorem c_law_event (T : TopOf K mg) (Z : Facts K) : Cal P w K mg base false 2 "_law_event" LEventS [] := cal_of T Z.d_law_event (by walk_at "b1") fun f fd F => fn_law_event T Z F
end
def isMkD : Dat → Bool
  | .int i => decide (0 ≤ i)
  | _ => false
def isOpenD : List Dat → Bool
  | [a, _, _] => eqD a (.str "open")
  | _ => false
def isEvD : Dat → Bool
  | .tup ds => if isOpenD ds then isNmD (ds.getD 1 .non) && isMkD (ds.getD 2 .non) else eqD (.tup ds) (.tup [.str "close"])
  | _ => false
theorem three {ds : List Dat} (h : (ds.length : Int) = 3) : ∃ a b c, ds = [a, b, c] := by
  match ds, h with
  | [a, b, c], _ => exact ⟨a, b, c, rfl⟩
  | [], h => cases h
  | [_], h => cases h
  | [_, _], h => cases h
  | _ :: _ :: _ :: _ :: r, h => simp at h; omega
theorem isOpen_no {ds : List Dat} (h : ¬ (ds.length : Int) = 3) : isOpenD ds = false := by
  match ds, h with
  | [a, b, c], h => exact absurd rfl h
  | [], _ => rfl
  | [_], _ => rfl
  | [_, _], _ => rfl
  | _ :: _ :: _ :: _ :: r, _ => rfl
theorem isOpen_three {ds : List Dat} (h : isOpenD ds = true) : ∃ a b c, ds = [a, b, c] := by
  match ds, h with
  | [a, b, c], _ => exact ⟨a, b, c, rfl⟩
  | [], h => cases h
  | [_], h => cases h
  | [_, _], h => cases h
  | _ :: _ :: _ :: _ :: r, h => cases h
/-- values as a law hands them in -/
structure EvOk (d : Dat) : Prop where
  ok : okD d
  fine : fine d = true
  dep : dep d ≤ 8
  kids : ∀ ds, d = .tup ds → ds.length ≤ 8 ∧ ∀ e ∈ ds, okD e ∧ Kn.fine e = true ∧ Kn.dep e ≤ 8
def MarkS : SpecT := fun ss O R => ∃ d : Dat, ss = [.dat d] ∧ okD d ∧ R (.ret (.dat (.bl (isMkD d)))) O
def IsEvS : SpecT := fun ss O R => ∃ d : Dat, ss = [.dat d] ∧ EvOk d ∧ R (.ret (.dat (.bl (isEvD d)))) O
theorem close_fine : Kn.fine (.tup [.str "close"]) = true ∧ Kn.dep (.tup [.str "close"]) ≤ 8 := by decide +kernel
theorem open_fine : Kn.fine (.str "open") = true ∧ Kn.dep (.str "open") ≤ 8 := by decide +kernel
theorem ob_eqF {X : Cx} {O : Own} {k : Slot → Own → Prop} {a b : Dat} (hr : Room 0 X.A) (ha : Kn.fine a = true ∧ Kn.dep a ≤ 8) (hb : Kn.fine b = true ∧ Kn.dep b ≤ 8) (h : k (.dat (.bl (eqD a b))) O) : OpB X (compareOp .Eq) (.dat a) (.dat b) O k :=
  ob_eq hr (fine_all _ ha.1).1 (fine_all _ hb.1).1 (shape_of ha.1 (by have := ha.2; omega)) (shape_of hb.1 (by have := hb.2; omega)) h
theorem isEv_no {d : Dat} (h : isTupD d = false) : isEvD d = false := by
  cases d with
  | tup ds => cases h
  | _ => rfl
section
variable {P : Program} {w : World} {K : PySem.W.Frag} {mg : Str → Option Value} {base : Heap}
theorem fn_is_mark (T : TopOf K mg) (Z : Facts K) {f : Addr} {fd : FuncData} (F : L2.Fun K "is_mark" "is_mark" s_is_mark f fd) : Fn P w K mg base false (1) f fd ["value"] (MarkS) := by
  have sc := sc_is_mark
  refine fn_mk F sc_is_mark (fun ss O R h => by first | (obtain ⟨_, rfl, _⟩ := h; rfl) | (obtain ⟨_, _, rfl, _⟩ := h; rfl) | (obtain ⟨_, _, _, rfl, _⟩ := h; rfl) | (obtain ⟨_, _, _, _, rfl, _⟩ := h; rfl) | (obtain ⟨_, _, _, _, _, rfl, _⟩ := h; rfl) | (obtain ⟨_, _, _, _, _, _, rfl, _⟩ := h; rfl) | (obtain ⟨_, _, _, _, _, _, _, rfl, _⟩ := h; rfl)) fun cdv A outer s H E ss O R hr hpo h => ?_
  obtain ⟨d, rfl, hd, h⟩ := h
  -- 0:value
  refine sw_one ?_
  refine s1_ret ?_
  refine ew_and ?_
  refine ew_callB (T.no Z.n_isinstance) bt_isinstance ?_
  refine aw_cons ?_
  refine ew_var 0 ?_
  refine aw_cons ?_
  refine ew_bltn (T.no Z.n_int) bt_int ?_
  refine aw_nil ?_
  refine cb_isTy (kit_int hd.1) ?_ (hp := hd.1)
  refine ⟨_, rfl, fun ht => ?_, fun ht => ?_⟩
  · refine ew_and ?_
    refine ew_notv ?_
    refine ew_callB (T.no Z.n_isinstance) bt_isinstance ?_
    refine aw_cons ?_
    refine ew_var 0 ?_
    refine aw_cons ?_
    refine ew_bltn (T.no Z.n_bool) bt_bool ?_
    refine aw_nil ?_
    refine cb_isTy (kit_bool hd.1) ?_ (hp := hd.1)
    refine ⟨_, rfl, ?_⟩
    refine ⟨_, rfl, fun hu => ?_, fun hu => ?_⟩
    · cases d with
      | int i =>
        refine ew_one ?_
        refine ew_cmp ?_
        refine ew_var 0 ?_
        refine ew_int ?_
        exact ob_ge h
      | bl b => cases hu
      | _ => cases ht
    · cases d with
      | int i => cases hu
      | bl b => exact h
      | _ => cases ht
  · cases d with
    | int i => cases ht
    | bl b => cases ht
    | _ => exact h
theorem c_is_mark (T : TopOf K mg) (Z : Facts K) : Cal P w K mg base false (1) "is_mark" (MarkS) [] := cal_of T Z.d_is_mark (by walk_at "b1") fun f fd F => fn_is_mark T Z F
theorem fn_is_event (T : TopOf K mg) (Z : Facts K) {f : Addr} {fd : FuncData} (F : L2.Fun K "is_event" "is_event" s_is_event f fd) : Fn P w K mg base false (3) f fd ["value"] (IsEvS) := by
  have sc := sc_is_event
  refine fn_mk F sc_is_event (fun ss O R h => by first | (obtain ⟨_, rfl, _⟩ := h; rfl) | (obtain ⟨_, _, rfl, _⟩ := h; rfl) | (obtain ⟨_, _, _, rfl, _⟩ := h; rfl) | (obtain ⟨_, _, _, _, rfl, _⟩ := h; rfl) | (obtain ⟨_, _, _, _, _, rfl, _⟩ := h; rfl) | (obtain ⟨_, _, _, _, _, _, rfl, _⟩ := h; rfl) | (obtain ⟨_, _, _, _, _, _, _, rfl, _⟩ := h; rfl)) fun cdv A outer s H E ss O R hr hpo h => ?_
  obtain ⟨d, rfl, hd, h⟩ := h
  -- 0:value
  refine sw_cons ?_
  refine s1_if ?_
  refine tw_not ?_
  refine tw_val ?_
  refine ew_callB (T.no Z.n_isinstance) bt_isinstance ?_
  refine aw_cons ?_
  refine ew_var 0 ?_
  refine aw_cons ?_
  refine ew_bltn (T.no Z.n_tuple) bt_tuple ?_
  refine aw_nil ?_
  refine cb_isTy (kit_tup hd.ok.1) ?_ (hp := hd.ok.1)
  refine ⟨_, rfl, fun ht => ?_, fun ht => ?_⟩
  · rw [isEv_no (by simpa using ht)] at h
    refine sw_one ?_
    refine s1_ret ?_
    refine ew_bl ?_
    exact h
  · obtain ⟨ds, rfl⟩ : ∃ ds, d = .tup ds := by
      cases d with
      | tup ds => exact ⟨ds, rfl⟩
      | _ => cases ht
    obtain ⟨hl8, hk⟩ := hd.kids ds rfl
    refine sw_nil ?_
    refine sw_cons ?_
    refine s1_if ?_
    refine tw_tv (t := isOpenD ds) ?_ ?_
    · refine tw_w ?_
      refine tww_and ?_
      refine tw_cmp ?_
      refine ew_callB (T.no Z.n_len) bt_len ?_
      refine aw_cons ?_
      refine ew_var 0 ?_
      refine aw_nil ?_
      refine cb_lenT ?_
      refine ew_int ?_
      refine ob_eqI ?_
      refine ⟨_, rfl, fun ht => ?_, fun ht => ?_⟩
      · obtain ⟨a, b, c, rfl⟩ := three (of_decide_eq_true ht)
        refine tww_and1 ?_
        refine tw_cmp ?_
        refine ew_ix ?_
        refine ew_var 0 ?_
        refine ew_int ?_
        refine ix_tpl (d := a) (atI_nat (j := 0) rfl) ?_
        refine ew_str ?_
        have q := hk a (List.mem_cons_self ..)
        exact ob_eqF (hr.r.mono (by decide)) q.2 open_fine ⟨_, rfl, rfl, rfl⟩
      · exact ⟨(isOpen_no (of_decide_eq_false ht)).symm, rfl⟩
    refine ⟨fun ht => ?_, fun ht => ?_⟩
    · obtain ⟨a, b, c, rfl⟩ := isOpen_three ht
      refine sw_one ?_
      refine s1_ret ?_
      refine ew_and ?_
      refine ew_call (c_is_name T Z) hr ?_
      refine aw_cons ?_
      refine ew_ix ?_
      refine ew_var 0 ?_
      refine ew_int ?_
      refine ix_tpl (d := b) (atI_nat (j := 1) rfl) ?_
      refine aw_nil ?_
      refine ⟨b, rfl, (hk b (by simp)).1, ?_⟩
      have e : isEvD (.tup [a, b, c]) = (isNmD b && isMkD c) := by
        show (if isOpenD [a, b, c] then _ else _) = _
        rw [if_pos ht]; rfl
      rw [e] at h
      refine ⟨_, rfl, fun hc => ?_, fun hc => ?_⟩
      · refine ew_one ?_
        refine ew_call (c_is_mark T Z) hr ?_
        refine aw_cons ?_
        refine ew_ix ?_
        refine ew_var 0 ?_
        refine ew_int ?_
        refine ix_tpl (d := c) (atI_nat (j := 2) rfl) ?_
        refine aw_nil ?_
        refine ⟨c, rfl, (hk c (by simp)).1, ?_⟩
        rw [hc, Bool.true_and] at h
        exact h
      · rw [hc, Bool.false_and] at h
        exact h
    · refine sw_nil ?_
      refine sw_one ?_
      refine s1_ret ?_
      refine ew_cmp ?_
      refine ew_var 0 ?_
      refine ew_tup ?_
      refine aw_cons ?_
      refine ew_str ?_
      refine aw_nil ?_
      refine ⟨[_], rfl, by walk_at "few", ?_⟩
      refine ob_eqF (hr.r.mono (by decide)) ⟨hd.fine, hd.dep⟩ close_fine ?_
      have e : isEvD (.tup ds) = eqD (.tup ds) (.tup [.str "close"]) := by
        show (if isOpenD ds then _ else _) = _
        rw [ht]; rfl
      rw [e] at h
      exact h
theorem c_is_event (T : TopOf K mg) (Z : Facts K) : Cal P w K mg base false (3) "is_event" (IsEvS) [] := cal_of T Z.d_is_event (by walk_at "b1") fun f fd F => fn_is_event T Z F
end
inductive Nd where
  | mk (n : Str) (m : Int) (cs : List Nd)
mutual
def txN : Nd → Str
  | .mk n m cs => Txt.join " " ((n ++ ":" ++ Str.ofString (toString m)) :: (txNs cs ++ [("/" : Str)]))
def txNs : List Nd → List Str
  | [] => []
  | c :: cs => txN c :: txNs cs
end
mutual
def ndD (C : Addr) : Nd → Dat
  | .mk n m cs => .tre C [("name", .str n), ("mark", .int m), ("children", .tup (ndDs C cs))] "nodes" (alDs C cs) [("text", .str (txN (.mk n m cs)))]
def ndDs (C : Addr) : List Nd → List Dat
  | [] => []
  | c :: cs => ndD C c :: ndDs C cs
/-- all that is below -/
def beD (C : Addr) : Nd → List Dat
  | .mk _ _ cs => alDs C cs
/-- all nodes of some trees -/
def alDs (C : Addr) : List Nd → List Dat
  | [] => []
  | c :: cs => ndD C c :: (beD C c ++ alDs C cs)
end
mutual
def szN : Nd → Nat
  | .mk _ _ cs => 1 + szNs cs
def szNs : List Nd → Nat
  | [] => 0
  | c :: cs => szN c + szNs cs
end
mutual
/-- short names, small marks -/
def okT : Nd → Prop
  | .mk n m cs => n.length ≤ 8 ∧ 0 ≤ m ∧ m < 1000000000000 ∧ okTs cs
def okTs : List Nd → Prop
  | [] => True
  | c :: cs => okT c ∧ okTs cs
end
theorem txNs_map : ∀ cs : List Nd, txNs cs = cs.map txN
  | [] => by rw [txNs]; rfl
  | c :: cs => by rw [txNs, txNs_map cs]; rfl
theorem ndDs_map (C : Addr) : ∀ cs : List Nd, ndDs C cs = cs.map (ndD C)
  | [] => by rw [ndDs]; rfl
  | c :: cs => by rw [ndDs, ndDs_map C cs]; rfl
theorem alDs_flat (C : Addr) : ∀ cs : List Nd, alDs C cs = cs.flatMap fun c => ndD C c :: beD C c
  | [] => by rw [alDs]; rfl
  | c :: cs => by rw [alDs, alDs_flat C cs]; rfl
mutual
theorem beD_len (C : Addr) : ∀ t : Nd, (beD C t).length + 1 = szN t
  | .mk n m cs => by rw [beD, szN, alDs_len C cs]; omega
theorem alDs_len (C : Addr) : ∀ cs : List Nd, (alDs C cs).length = szNs cs
  | [] => by rw [alDs, szNs]; rfl
  | c :: cs => by
    have h1 := beD_len C c
    have h2 := alDs_len C cs
    rw [alDs, szNs, List.length_cons, List.length_append]; omega
end
theorem szN_pos (t : Nd) : 1 ≤ szN t := by cases t; rw [szN]; omega
theorem szNs_len : ∀ cs : List Nd, cs.length ≤ szNs cs
  | [] => Nat.zero_le _
  | c :: cs => by
    have := szN_pos c
    have := szNs_len cs
    rw [szNs, List.length_cons]; omega
theorem mark_len {m : Int} (h0 : 0 ≤ m) (h : m < 1000000000000) : (Str.ofString (toString m)).length ≤ 12 := PyProof.Rows.toString_length_le h0 (by decide) (by omega)
theorem mark_log {m : Int} (h0 : 0 ≤ m) (h : m < 1000000000000) : m.natAbs.log2 < 1920 := by
  have h1 : m.natAbs < 2 ^ 1920 := Nat.lt_of_lt_of_le (show m.natAbs < 1000000000000 by omega) (by decide +kernel)
  by_cases e : m.natAbs = 0
  · rw [e]; decide
  · exact (Nat.log2_lt e).mpr h1
theorem colon1 : (Str.ofString ":").length = 1 := by decide +kernel
theorem emp_app {z : Str} : Str.empty ++ z = z := sgs_ext (by rw [sgs_app]; rfl)
theorem slash1 : (Str.ofString "/").length = 1 := by decide +kernel
theorem head_len {n : Str} {m : Int} (h1 : n.length ≤ 8) (h2 : 0 ≤ m) (h3 : m < 1000000000000) : (n ++ ":" ++ Str.ofString (toString m)).length ≤ 21 := by
  have := mark_len h2 h3
  rw [len_app, len_app, colon1]; omega
mutual
theorem txN_len : ∀ {t : Nd}, okT t → (txN t).length + 1 ≤ 32 * szN t
  | .mk n m cs, h => by
    rw [okT] at h
    obtain ⟨h1, h2, h3, h4⟩ := h
    have a := txNs_len h4
    have b := join_le (ws := (n ++ ":" ++ Str.ofString (toString m)) :: (txNs cs ++ [("/" : Str)]))
    have c := head_len h1 h2 h3
    have e : (txNs cs).length = cs.length := by rw [txNs_map, List.length_map]
    rw [List.map_cons, List.sum_cons, List.map_append, List.sum_append, List.length_cons, List.length_append, e] at b
    have f : ([("/" : Str)].map (·.length)).sum = 1 := by simp [slash1]
    rw [f] at b
    rw [txN, szN]
    simp only [List.length_cons, List.length_nil] at b
    omega
theorem txNs_len : ∀ {cs : List Nd}, okTs cs → ((txNs cs).map (·.length)).sum + cs.length ≤ 32 * szNs cs
  | [], _ => by rw [txNs, szNs]; simp
  | c :: cs, h => by
    rw [okTs] at h
    have a := txN_len h.1
    have b := txNs_len h.2
    rw [txNs, szNs, List.map_cons, List.sum_cons, List.length_cons]; omega
end
def TrInitS (K : PySem.W.Frag) : SpecT := fun ss O R => ∃ (a C dx : Addr) (n : Str) (m : Int) (cs : List Nd) (d : Dat), ss = [.own a, .dat (.str n), .dat (.int m), .dat d] ∧ clsAt K "Tree" C ∧ O a = some (.ins C dx []) ∧ (d = .lst (ndDs C cs) ∨ d = .tup (ndDs C cs)) ∧
  okT (.mk n m cs) ∧ szNs cs ≤ 100000 ∧ ∀ q, O q = none → R (.ret (.dat .non)) (up (up O q (.tpl (.own a :: (alDs C cs).map .dat))) a (.ins C dx [("name", .dat (.str n)), ("mark", .dat (.int m)), ("children", .dat (.tup (ndDs C cs))), ("nodes", .own q), ("text", .dat (.str (txN (.mk n m cs))))]))
theorem up_swp {O : Own} {a q : Addr} {x t y : Cell} (h : q ≠ a) : up (up (up O a x) q t) a y = up (up O q t) a y := by
  funext b
  by_cases e : b = a
  · subst e; rw [up_at, up_at]
  · rw [up_ne e, up_ne e]
    by_cases f : b = q
    · subst f; rw [up_at, up_at]
    · rw [up_ne f, up_ne f, up_ne e]
def nmN : Nd → Str | .mk n _ _ => n
def mkN : Nd → Int | .mk _ m _ => m
def csN : Nd → List Nd | .mk _ _ cs => cs
section
variable {X : Cx} {O : Own} {ρ : List Slot} {x : ExK} {k : Slot → Own → Prop} {o : Expr} {pos : Pos} {C : Addr}
theorem cb_tupE {d : Dat} {ds : List Dat} (hd : d = .lst ds ∨ d = .tup ds) (h : k (.dat (.tup ds)) O) : CaB X (.type "tuple") [.dat d] O k := by
  rcases hd with rfl | rfl
  · exact cb_tupL h
  · exact cb_tupT h
theorem ew_nodes (c : Cls X.K C) (na : NoAttr X.K C "nodes") (h : EW X O ρ o x fun s O1 => ∃ t, s = .dat (ndD C t) ∧ k (.dat (.tup (ndD C t :: beD C t))) O1) (hb : attributeBase o "nodes" X.env (eval o X.env) = eval o X.env := by rfl) : EW X O ρ (.Attribute o "nodes" pos) x k :=
  ew_treN (h.mono fun s O1 ⟨t, e, hk⟩ => by
    obtain ⟨n, m, cs⟩ := t
    rw [ndD, beD] at hk
    rw [ndD] at e
    exact ⟨C, _, _, _, e, c, na, rfl, hk⟩) hb
theorem ew_tfld {f : Str} (c : Cls X.K C) (na : NoAttr X.K C f) {g : Nd → Dat} (nf : f ≠ "nodes") (ok : ∀ n m cs, ([("name", .str n), ("mark", .int m), ("children", .tup (ndDs C cs)), ("text", .str (txN (.mk n m cs)))] : List (Str × Dat)).lookup f = some (g (.mk n m cs)))
    (h : EW X O ρ o x fun s O1 => ∃ t, s = .dat (ndD C t) ∧ k (.dat (g t)) O1) (hb : attributeBase o f X.env (eval o X.env) = eval o X.env := by rfl) : EW X O ρ (.Attribute o f pos) x k :=
  ew_fld (h.mono fun s O1 ⟨t, e, hk⟩ => by
    obtain ⟨n, m, cs⟩ := t
    subst e
    have o1 := ok n m cs
    rw [ndD]
    exact ⟨_, c, na, nf, o1, hk⟩) hb
theorem ew_name (c : Cls X.K C) (na : NoAttr X.K C "name") (h : EW X O ρ o x fun s O1 => ∃ t, s = .dat (ndD C t) ∧ k (.dat (.str (nmN t))) O1) (hb : attributeBase o "name" X.env (eval o X.env) = eval o X.env := by rfl) : EW X O ρ (.Attribute o "name" pos) x k := ew_tfld (g := fun t => .str (nmN t)) c na (by decide) (fun _ _ _ => rfl) h hb
theorem ew_mark (c : Cls X.K C) (na : NoAttr X.K C "mark") (h : EW X O ρ o x fun s O1 => ∃ t, s = .dat (ndD C t) ∧ k (.dat (.int (mkN t))) O1) (hb : attributeBase o "mark" X.env (eval o X.env) = eval o X.env := by rfl) : EW X O ρ (.Attribute o "mark" pos) x k := ew_tfld (g := fun t => .int (mkN t)) c na (by decide) (fun _ _ _ => rfl) h hb
theorem ew_children (c : Cls X.K C) (na : NoAttr X.K C "children") (h : EW X O ρ o x fun s O1 => ∃ t, s = .dat (ndD C t) ∧ k (.dat (.tup (ndDs C (csN t)))) O1) (hb : attributeBase o "children" X.env (eval o X.env) = eval o X.env := by rfl) : EW X O ρ (.Attribute o "children" pos) x k := ew_tfld (g := fun t => .tup (ndDs C (csN t))) c na (by decide) (fun _ _ _ => rfl) h hb
theorem ew_text (c : Cls X.K C) (na : NoAttr X.K C "text") (h : EW X O ρ o x fun s O1 => ∃ t, s = .dat (ndD C t) ∧ k (.dat (.str (txN t))) O1) (hb : attributeBase o "text" X.env (eval o X.env) = eval o X.env := by rfl) : EW X O ρ (.Attribute o "text" pos) x k := ew_tfld (g := fun t => .str (txN t)) c na (by decide) (fun _ _ _ => rfl) h hb
end
section
variable {P : Program} {w : World} {K : PySem.W.Frag} {mg : Str → Option Value} {base : Heap}
theorem fn_Tree_init (T : TopOf K mg) (Z : Facts K) {f : Addr} {fd : FuncData} (F : FunX K "__init__" "Tree.__init__" s_Tree_init f fd) : Fn P w K mg base false (1) f fd ["self", "name", "mark", "children"] (TrInitS K) := by
  have sc := sc_Tree_init
  refine fn_mkX F sc_Tree_init (fun ss O R h => by first | (obtain ⟨_, rfl, _⟩ := h; rfl) | (obtain ⟨_, _, rfl, _⟩ := h; rfl) | (obtain ⟨_, _, _, rfl, _⟩ := h; rfl) | (obtain ⟨_, _, _, _, rfl, _⟩ := h; rfl) | (obtain ⟨_, _, _, _, _, rfl, _⟩ := h; rfl) | (obtain ⟨_, _, _, _, _, _, rfl, _⟩ := h; rfl) | (obtain ⟨_, _, _, _, _, _, _, rfl, _⟩ := h; rfl)) fun cdv A outer s H E ss O R hr hpo h => ?_
  obtain ⟨a, C, dx, n, m, cs, d, rfl, hC, ha, hd, hok, hsz, h⟩ := h
  obtain ⟨C', I_Tree, mI, mRd, mFe, mL, mIt, mE, mS, mEv, na1, na2, na3, na4, na5⟩ := Z.c_Tree
  obtain rfl := at_inj hC I_Tree.at_
  have hok2 := hok
  rw [okT] at hok2
  obtain ⟨k1, k2, k3, k4⟩ := hok2
  -- 0:self 1:name 2:mark 3:children 4:child 5:node
  refine sw_cons ?_
  refine s1_fld ?_
  refine ew_var 1 ?_
  refine ew_var 0 ?_
  refine ⟨a, C, dx, [], rfl, ha, I_Tree.ins.cl, na1, by decide, ?_⟩
  refine sw_cons ?_
  refine s1_fld ?_
  refine ew_var 2 ?_
  refine ew_var 0 ?_
  refine ⟨a, C, dx, _, rfl, up_at, I_Tree.ins.cl, na2, Nat.le_of_ble_eq_true rfl, ?_⟩
  rw [up_up]
  refine sw_cons ?_
  refine s1_fld ?_
  refine ew_callTy (T.no Z.n_tuple) bt_tuple ?_
  refine aw_cons ?_
  refine ew_var 3 ?_
  refine aw_nil ?_
  refine cb_tupE hd ?_
  refine ew_var 0 ?_
  refine ⟨a, C, dx, _, rfl, up_at, I_Tree.ins.cl, na3, Nat.le_of_ble_eq_true rfl, ?_⟩
  rw [up_up]
  refine sw_cons ?_
  refine s1_fld ?_
  refine ew_tupO ?_
  refine aw_cons ?_
  refine ew_var 0 ?_
  refine aw_starL ?_
  refine ew_frz ?_
  refine ew_lc2J [("child", 4), ("node", 5)] (vs1 := [5]) sc.nd (.name (i := 4) (by decide) fun Y ⟨_, _, _, _, _, e⟩ => by subst e; exact pg_name (i := 4) sc.nd rfl (.inl rfl) (.inr rfl)) (.name (i := 5) (by decide) fun Y ⟨_, _, _, _, _, e⟩ => by subst e; exact pg_name (i := 5) sc.nd rfl (.inl rfl) (.inr rfl)) (blkOk_by (N := N_Tree_init) (sc := defScope s_Tree_init) (by decide +kernel)) (by decide) ?_
  refine lc2_flat cs (ndD C) (fun c => ndD C c :: beD C c) id (fun _ e => e) (iw_tup (ew_fld (ew_var (s := .own a) 0 ⟨C, dx, _, _, up_at, I_Tree.ins.cl, na3, rfl, _, rfl, ndDs_map C cs, rfl⟩))) ?_ (fun t ht => ⟨_, rfl, fun O' Y hY => ?_, fun e he => ⟨_, rfl, fun O' Y hY => ?_⟩⟩) fun p hp => ?_
  · rw [← alDs_flat, alDs_len]; exact Nat.le_trans hsz (by decide)
  · obtain ⟨_, _, _, _, _, rfl⟩ := hY
    exact iw_tup (ew_nodes I_Tree.ins.cl na4 (ew_var 4 ⟨t, rfl, _, rfl, by rw [List.map_id], rfl⟩))
  · obtain ⟨_, _, _, _, _, rfl⟩ := hY
    exact ew_var 5 ⟨rfl, rfl⟩
  have ef : (cs.flatMap fun c => (ndD C c :: beD C c).map fun e => e) = alDs C cs := by rw [alDs_flat]; congr 1; funext c; rw [List.map_id']
  rw [ef]
  refine ⟨p, _, rfl, up_at, ?_⟩
  rw [dn_up hp]
  refine ⟨_, rfl, ?_⟩
  refine aw_nil ?_
  rw [List.append_nil]
  refine ⟨?_, fun q hq => ?_⟩
  · rw [List.length_cons, List.length_map, alDs_len]
    exact Nat.le_trans (show _ ≤ 100001 by omega) (by decide)
  refine ew_var 0 ?_
  have nqa : q ≠ a := fun e => by rw [e, up_at] at hq; cases hq
  refine ⟨a, C, dx, _, rfl, by rw [up_ne nqa.symm]; exact up_at, I_Tree.ins.cl, na4, Nat.le_of_ble_eq_true rfl, ?_⟩
  rw [up_swp nqa]
  refine sw_one ?_
  refine s1_fld ?_
  refine ew_join ?_
  refine ew_str ?_
  refine ⟨_, rfl, ?_⟩
  refine ew_lstD ?_
  refine aw_cons ?_
  refine ew_joined ?_
  refine ew_fmt ?_
  refine ew_var 1 ?_
  refine .inl ⟨_, rfl, Nat.le_trans k1 (by decide), ?_⟩
  refine ⟨_, rfl, by rw [emp_app]; exact Nat.le_trans k1 (by decide), ?_⟩
  refine ew_str ?_
  refine ⟨_, rfl, by rw [emp_app, len_app, colon1]; exact Nat.le_trans (Nat.add_le_add_right k1 1) (by decide), ?_⟩
  refine ew_fmt ?_
  refine ew_var 2 ?_
  refine .inr ⟨m, rfl, mark_log k2 k3, ?_⟩
  refine ⟨_, rfl, by rw [emp_app]; exact Nat.le_trans (head_len k1 k2 k3) (by decide), ?_⟩
  rw [emp_app]
  refine aw_starL ?_
  refine ew_map1 cs (ndD C) (fun c => .str (txN c)) [("child", 4)] sc.nd (.name (i := 4) (by decide) fun Y ⟨_, _, _, _, _, e⟩ => by subst e; exact pg_name (i := 4) sc.nd rfl (.inl rfl) (.inr rfl)) (blkOk_by (N := N_Tree_init) (sc := defScope s_Tree_init) (by decide +kernel)) (iw_tup (ew_fld (ew_var (s := .own a) 0 ⟨C, dx, _, _, up_at, I_Tree.ins.cl, na3, rfl, _, rfl, ndDs_map C cs, rfl⟩))) (Nat.le_trans (Nat.le_trans (szNs_len cs) hsz) (by decide)) (fun t ht => ⟨_, rfl, fun O' Y hY => ?_⟩) ?_
  · obtain ⟨_, _, _, _, _, rfl⟩ := hY
    exact ew_text I_Tree.ins.cl na5 (ew_var 4 ⟨t, rfl, rfl, rfl⟩)
  refine ⟨_, rfl, ?_⟩
  refine aw_cons ?_
  refine ew_str ?_
  refine aw_nil ?_
  refine ⟨.str (n ++ ":" ++ Str.ofString (toString m)) :: ((txNs cs).map .str ++ [.str "/"]), ?_, ?_, ?_⟩
  · rw [txNs_map, List.map_cons, List.map_append, List.map_map, List.map_map, List.map_map]; rfl
  · rw [List.length_cons, List.length_append, List.length_map, txNs_map, List.length_map]
    exact Nat.le_trans (show _ ≤ 100002 by have := szNs_len cs; simp only [List.length_cons, List.length_nil]; omega) (by decide)
  
  rw [show (Dat.str (n ++ ":" ++ Str.ofString (toString m)) :: ((txNs cs).map Dat.str ++ [Dat.str "/"])) = ((n ++ ":" ++ Str.ofString (toString m)) :: (txNs cs ++ [("/" : Str)])).map Dat.str by rw [List.map_cons, List.map_append]; rfl]
  refine m1_join ?_ ?_
  · have b1 := txNs_len k4
    have b2 := head_len k1 k2 k3
    have b3 := szNs_len cs
    have b4 : (txNs cs).length = cs.length := by rw [txNs_map, List.length_map]
    rw [show (Str.ofString " ").length = 1 by decide +kernel, List.map_cons, List.sum_cons, List.map_append, List.sum_append, List.length_cons, List.length_append, b4, show ([("/" : Str)].map (·.length)).sum = 1 by simp [slash1]]
    simp only [List.length_cons, List.length_nil]
    omega
  rw [show Txt.join " " ((n ++ ":" ++ Str.ofString (toString m)) :: (txNs cs ++ [("/" : Str)])) = txN (.mk n m cs) by rw [txN]]
  refine ew_var 0 ?_
  refine ⟨a, C, dx, _, rfl, up_at, I_Tree.ins.cl, na5, Nat.le_of_ble_eq_true rfl, ?_⟩
  rw [up_up]
  rw [up_ne nqa] at hq
  exact h q hq
end
structure Rw where
  f : Addr
  dx : Addr
  d : Addr
  h : Addr
  r : Addr
def Rw.keys (A : Rw) : List Addr := [A.f, A.d, A.h, A.r]
/-- an open node: its name, its mark, its children so far; the innermost one stands first -/
structure Op where
  n : Str
  m : Int
  cs : List Nd
def opD (q : Op) : Dat := .tup [.str q.n, .int q.m]
structure RwAt (C CT : Addr) (O : Own) (A : Rw) (ls : List Addr) (done : List Nd) (st : List Op) : Prop where
  f : O A.f = some (.slt C A.dx [some (.own A.d), some (.own A.h), some (.own A.r)])
  d : O A.d = some (.lst ((done.map (ndD CT)).map .dat))
  h : O A.h = some (.lst ((st.reverse.map opD).map .dat))
  r : O A.r = some (.lst (ls.reverse.map .own))
  k : Paired (fun a q => O a = some (.lst ((q.cs.map (ndD CT)).map .dat))) ls st
  nd : A.keys.Nodup
  nk : ∀ a ∈ ls, a ∉ A.keys
  nl : ls.Nodup
/-- all cells but some stay -/
def But (ks : List Addr) (O O' : Own) : Prop := ∀ b c, b ∉ ks → O b = some c → O' b = some c
theorem But.refl {ks : List Addr} {O : Own} : But ks O O := fun _ _ _ h => h
theorem But.trans {ks : List Addr} {O O1 O2 : Own} (h : But ks O O1) (h' : But ks O1 O2) : But ks O O2 := fun b c n e => h' b c n (h b c n e)
theorem But.up {ks : List Addr} {O O1 : Own} {p : Addr} {c : Cell} (h : But ks O O1) (hp : p ∈ ks ∨ O p = none) : But ks O (Kn.up O1 p c) := fun b d n e => by
  have ne : b ≠ p := fun z => by
    subst z
    rcases hp with q | q
    · exact n q
    · rw [q] at e; cases e
  rw [up_ne ne]; exact h b d n e
theorem But.dn {ks : List Addr} {O O1 : Own} {p : Addr} (h : But ks O O1) (hp : p ∈ ks ∨ O p = none) : But ks O (Kn.dn O1 p) := fun b d n e => by
  have ne : b ≠ p := fun z => by
    subst z
    rcases hp with q | q
    · exact n q
    · rw [q] at e; cases e
  rw [dn_ne ne]; exact h b d n e
theorem nd4 {a b c d : Addr} (h : [a, b, c, d].Nodup) : a ≠ b ∧ a ≠ c ∧ a ≠ d ∧ b ≠ c ∧ b ≠ d ∧ c ≠ d := by
  simp only [List.nodup_cons, List.mem_cons, List.not_mem_nil, or_false, not_or] at h
  exact ⟨h.1.1, h.1.2.1, h.1.2.2, h.2.1.1, h.2.1.2, h.2.2.1⟩
theorem nd4_of {a b c d : Addr} (h : a ≠ b ∧ a ≠ c ∧ a ≠ d ∧ b ≠ c ∧ b ≠ d ∧ c ≠ d) : [a, b, c, d].Nodup := by
  obtain ⟨h1, h2, h3, h4, h5, h6⟩ := h
  simp [h1, h2, h3, h4, h5, h6]
/-- a row takes an event -/
def stepR : List Nd × List Op → Ev → List Nd × List Op
  | (done, st), some (n, m) => (done, ⟨n, m, []⟩ :: st)
  | (done, []), none => (done, [])
  | (done, [q]), none => (done ++ [.mk q.n q.m q.cs], [])
  | (done, q :: p :: r), none => (done, ⟨p.n, p.m, p.cs ++ [.mk q.n q.m q.cs]⟩ :: r)
def isOpB : Dat → Bool
  | .tup (a :: _) => eqD a (.str "open")
  | _ => false
def canR (st : List Op) (d : Dat) : Bool := isEvD d && (isOpB d || !st.isEmpty)
def RInitS (K : PySem.W.Frag) : SpecT := fun ss O R => ∃ (f C dx CT : Addr), ss = [.own f] ∧ clsAt K "Row" C ∧ O f = some (.slt C dx []) ∧
  ∀ A O', A.f = f → RwAt C CT O' A [] [] [] → But [f] O O' → O A.d = none → O A.h = none → O A.r = none → R (.ret (.dat .non)) O'
def RWholeS (K : PySem.W.Frag) : SpecT := fun ss O R => ∃ (C CT : Addr) (A : Rw) (ls : List Addr) (done : List Nd) (st : List Op), ss = [.own A.f] ∧ clsAt K "Row" C ∧ RwAt C CT O A ls done st ∧ R (.ret (.dat (.bl st.isEmpty))) O
section
variable {P : Program} {w : World} {K : PySem.W.Frag} {mg : Str → Option Value} {base : Heap}
theorem fn_Row_init (T : TopOf K mg) (Z : Facts K) {f : Addr} {fd : FuncData} (F : L2.Fun K "__init__" "Row.__init__" s_Row_init f fd) : Fn P w K mg base false (1) f fd ["self"] (RInitS K) := by
  have sc := sc_Row_init
  refine fn_mk F sc_Row_init (fun ss O R h => by first | (obtain ⟨_, rfl, _⟩ := h; rfl) | (obtain ⟨_, _, rfl, _⟩ := h; rfl) | (obtain ⟨_, _, _, rfl, _⟩ := h; rfl) | (obtain ⟨_, _, _, _, rfl, _⟩ := h; rfl) | (obtain ⟨_, _, _, _, _, rfl, _⟩ := h; rfl) | (obtain ⟨_, _, _, _, _, _, rfl, _⟩ := h; rfl) | (obtain ⟨_, _, _, _, _, _, _, rfl, _⟩ := h; rfl)) fun cdv A outer s H E ss O R hr hpo h => ?_
  obtain ⟨fa, C, dx, CT, rfl, hC, hf, h⟩ := h
  obtain ⟨C', I_Row, mI, pW, mC, mT, ⟨q0, t_done⟩, ⟨q1, t_heads⟩, ⟨q2, t_rows⟩⟩ := Z.c_Row
  obtain rfl := at_inj hC I_Row.at_
  -- 0:self
  refine sw_cons ?_
  refine s1_slot I_Row.sc t_done ?_
  refine ew_lst ?_
  refine aw_nil ?_
  refine ⟨by decide, fun g hg => ?_⟩
  have n1 : fa ≠ g := own_ne hf hg
  refine ew_var 0 ?_
  refine ⟨fa, dx, [], rfl, by rw [up_ne n1]; exact hf, ?_⟩
  refine sw_cons ?_
  refine s1_slot I_Row.sc t_heads ?_
  refine ew_lst ?_
  refine aw_nil ?_
  refine ⟨by decide, fun p hp => ?_⟩
  have n2 : p ≠ fa := fun e => by rw [e, up_at] at hp; cases hp
  have hp1 := hp
  rw [up_ne n2] at hp1
  have n3 : p ≠ g := fun e => by rw [e, up_at] at hp1; cases hp1
  rw [up_ne n3] at hp1
  refine ew_var 0 ?_
  refine ⟨fa, dx, _, rfl, by rw [up_ne n2.symm]; exact up_at, ?_⟩
  refine sw_one ?_
  refine s1_slot I_Row.sc t_rows ?_
  refine ew_lst ?_
  refine aw_nil ?_
  refine ⟨by decide, fun hh hhn => ?_⟩
  have n4 : hh ≠ fa := fun e => by rw [e, up_at] at hhn; cases hhn
  have hh1 := hhn
  rw [up_ne n4] at hh1
  have n5 : hh ≠ p := fun e => by rw [e, up_at] at hh1; cases hh1
  rw [up_ne n5, up_ne n4] at hh1
  have n6 : hh ≠ g := fun e => by rw [e, up_at] at hh1; cases hh1
  rw [up_ne n6] at hh1
  refine ew_var 0 ?_
  refine ⟨fa, dx, _, rfl, by rw [up_ne n4.symm]; exact up_at, ?_⟩
  refine h ⟨fa, dx, g, p, hh⟩ _ rfl ⟨up_at, ?_, ?_, ?_, .nil, nd4_of ⟨n1, n2.symm, n4.symm, n3.symm, n6.symm, n5.symm⟩, (fun a q => nomatch q), List.Pairwise.nil⟩ ?_ hg hp1 hh1
  · show Kn.up _ _ _ g = _
    rw [up_ne n1.symm, up_ne n6.symm, up_ne n1.symm, up_ne n3.symm, up_ne n1.symm]; exact up_at
  · show Kn.up _ _ _ p = _
    rw [up_ne n2, up_ne n5.symm, up_ne n2]; exact up_at
  · show Kn.up _ _ _ hh = _
    rw [up_ne n4]; exact up_at
  · exact (((((But.refl.up (.inr hg)).up (.inl (by simp))).up (.inr hp1)).up (.inl (by simp))).up (.inr hh1)).up (.inl (by simp))
theorem fn_Row_is_whole (T : TopOf K mg) (Z : Facts K) {f : Addr} {fd : FuncData} (F : L2.Fun K "is_whole" "Row.is_whole" s_Row_is_whole f fd) : Fn P w K mg base false (1) f fd ["self"] (RWholeS K) := by
  have sc := sc_Row_is_whole
  refine fn_mk F sc_Row_is_whole (fun ss O R h => by first | (obtain ⟨_, rfl, _⟩ := h; rfl) | (obtain ⟨_, _, rfl, _⟩ := h; rfl) | (obtain ⟨_, _, _, rfl, _⟩ := h; rfl) | (obtain ⟨_, _, _, _, rfl, _⟩ := h; rfl) | (obtain ⟨_, _, _, _, _, rfl, _⟩ := h; rfl) | (obtain ⟨_, _, _, _, _, _, rfl, _⟩ := h; rfl) | (obtain ⟨_, _, _, _, _, _, _, rfl, _⟩ := h; rfl)) fun cdv A outer s H E ss O R hr hpo h => ?_
  obtain ⟨C, CT, A, ls, done, st, rfl, hC, hA, h⟩ := h
  obtain ⟨C', I_Row, mI, pW, mC, mT, ⟨q0, t_done⟩, ⟨q1, t_heads⟩, ⟨q2, t_rows⟩⟩ := Z.c_Row
  obtain rfl := at_inj hC I_Row.at_
  -- 0:self
  refine sw_one ?_
  refine s1_ret ?_
  refine ew_cmp ?_
  refine ew_callB (T.no Z.n_len) bt_len ?_
  refine aw_cons ?_
  refine ew_slot I_Row.sc t_heads ?_
  refine ew_var 0 ?_
  refine ⟨A.f, A.dx, _, _, rfl, hA.f, rfl, ?_⟩
  refine aw_nil ?_
  refine cb_lenO hA.h ?_
  refine ew_int ?_
  walk_at "cmp Eq"
  rw [List.length_map, List.length_map, List.length_reverse]
  have e : decide ((st.length : Int) = 0) = st.isEmpty := by
    cases st with
    | nil => rfl
    | cons a l => exact decide_eq_false (by rw [List.length_cons]; omega)
  rw [e]
  exact h
end
theorem isEv_cons {d : Dat} (h : isEvD d = true) : ∃ a r, d = .tup (a :: r) := by
  cases d with
  | tup ds =>
    cases ds with
    | nil =>
      have e : isEvD (.tup []) = false := by decide +kernel
      rw [e] at h; cases h
    | cons a r => exact ⟨a, r, rfl⟩
  | _ => cases h
def evW : Ev → Str
  | none => "close"
  | some _ => "open"
def evP : Ev → List Dat
  | none => [.str "close"]
  | some (n, m) => [.str "open", .str n, .int m]
theorem evD_P (ev : Ev) : evD ev = .tup (evP ev) := by cases ev <;> rfl
theorem evP_W (ev : Ev) : ∃ r, evP ev = .str (evW ev) :: r := by cases ev <;> exact ⟨_, rfl⟩
def CanS (K : PySem.W.Frag) : SpecT := fun ss O R => ∃ (C CT : Addr) (A : Rw) (ls : List Addr) (done : List Nd) (st : List Op) (d : Dat), ss = [.own A.f, .dat d] ∧ clsAt K "Row" C ∧ RwAt C CT O A ls done st ∧ EvOk d ∧ R (.ret (.dat (.bl (canR st d)))) O
def TakeS (K : PySem.W.Frag) : SpecT := fun ss O R => ∃ (C CT : Addr) (A : Rw) (ls : List Addr) (done : List Nd) (st : List Op) (ev : Ev), ss = [.own A.f, .dat (evD ev)] ∧ clsAt K "Row" C ∧ clsAt K "Tree" CT ∧ RwAt C CT O A ls done st ∧ (ev = none → st ≠ []) ∧
  (∀ q ∈ st, okT (.mk q.n q.m q.cs) ∧ szNs q.cs ≤ 1000 ∧ q.cs.length ≤ 1000) ∧ st.length ≤ 1000 ∧ done.length ≤ 1000 ∧
  ∀ O' ls', RwAt C CT O' A ls' (stepR (done, st) ev).1 (stepR (done, st) ev).2 → But (A.keys ++ ls) O O' → (∀ a ∈ ls', a ∈ ls ∨ O a = none) → R (.ret (.dat .non)) O'
theorem paired_up {O : Own} {CT p : Addr} {c : Cell} : ∀ {ls : List Addr} {st : List Op}, p ∉ ls → Paired (fun a (q : Op) => O a = some (.lst ((q.cs.map (ndD CT)).map .dat))) ls st → Paired (fun a (q : Op) => Kn.up O p c a = some (.lst ((q.cs.map (ndD CT)).map .dat))) ls st
  | _, _, _, .nil => .nil
  | a :: ls, q :: st, h, .cons h1 h2 => .cons (by rw [up_ne (fun e => h (by rw [e]; exact List.mem_cons_self ..))]; exact h1) (paired_up (fun m => h (List.mem_cons_of_mem _ m)) h2)
theorem paired_dn {O : Own} {CT p : Addr} : ∀ {ls : List Addr} {st : List Op}, p ∉ ls → Paired (fun a (q : Op) => O a = some (.lst ((q.cs.map (ndD CT)).map .dat))) ls st → Paired (fun a (q : Op) => Kn.dn O p a = some (.lst ((q.cs.map (ndD CT)).map .dat))) ls st
  | _, _, _, .nil => .nil
  | a :: ls, q :: st, h, .cons h1 h2 => .cons (by rw [dn_ne (fun e => h (by rw [e]; exact List.mem_cons_self ..))]; exact h1) (paired_dn (fun m => h (List.mem_cons_of_mem _ m)) h2)
def kidsR : List Nd → List Op → List Nd
  | done, [] => done
  | _, p :: _ => p.cs
theorem kids_few {q : Op} {st : List Op} {done : List Nd} (h : ∀ p ∈ q :: st, okT (.mk p.n p.m p.cs) ∧ szNs p.cs ≤ 1000 ∧ p.cs.length ≤ 1000) (hd : done.length ≤ 1000) : (kidsR done st).length < 1000000 := by
  cases st with
  | nil => show done.length < _; omega
  | cons p r =>
    have := (h p (List.mem_cons_of_mem _ (List.mem_cons_self ..))).2.2
    show p.cs.length < _
    omega
theorem atI_last {α : Type} (l : List α) (x : α) : atI (l ++ [x]) (-1) = some x := by
  have e : ixN (l ++ [x]).length (-1) = some l.length := by
    unfold ixN
    rw [if_neg (by decide), List.length_append, List.length_singleton, if_pos (by omega)]
    exact congrArg some (by omega)
  unfold atI
  rw [e]
  show (l ++ [x])[l.length]? = _
  simp
theorem paired_have {α β : Type} {F : α → β → Prop} : ∀ {l : List α} {m : List β}, Paired F l m → ∀ a ∈ l, ∃ b, F a b
  | _, _, .nil, a, h => nomatch h
  | x :: l, y :: m, .cons h1 h2, a, h => by
    rcases List.mem_cons.mp h with rfl | h
    · exact ⟨y, h1⟩
    · exact paired_have h2 a h
theorem take_done {C CT : Addr} {O : Own} {A : Rw} {ls : List Addr} {done kids : List Nd} {q : Op} {st : List Op} (h : RwAt C CT O A ls done st) (hk : kids = kidsR done st) :
    RwAt C CT (up O (ls.headD A.d) (.lst (((kids.map (ndD CT)).map .dat) ++ [.dat (ndD CT (.mk q.n q.m q.cs))]))) A ls (stepR (done, q :: st) none).1 (stepR (done, q :: st) none).2 := by
  subst hk
  obtain ⟨n1, n2, n3, n4, n5, n6⟩ := nd4 h.nd
  cases hp : h.k with
  | nil =>
    show RwAt C CT (up O A.d (.lst (((done.map (ndD CT)).map .dat) ++ [.dat (ndD CT (.mk q.n q.m q.cs))]))) A [] (done ++ [Nd.mk q.n q.m q.cs]) []
    refine ⟨?_, ?_, ?_, ?_, .nil, h.nd, h.nk, h.nl⟩
    · rw [up_ne n1]; exact h.f
    · rw [up_at, List.map_append, List.map_append]; rfl
    · rw [up_ne n4.symm]; exact h.h
    · rw [up_ne n5.symm]; exact h.r
  | @cons a p l r h1 h2 =>
    have ha := h.nk a (List.mem_cons_self ..)
    obtain ⟨a1, a2, a3, a4⟩ : a ≠ A.f ∧ a ≠ A.d ∧ a ≠ A.h ∧ a ≠ A.r := by simpa [Rw.keys] using ha
    obtain ⟨hal, _⟩ := List.nodup_cons.mp h.nl
    show RwAt C CT (up O a (.lst (((p.cs.map (ndD CT)).map .dat) ++ [.dat (ndD CT (.mk q.n q.m q.cs))]))) A (a :: l) done (⟨p.n, p.m, p.cs ++ [Nd.mk q.n q.m q.cs]⟩ :: r)
    refine ⟨?_, ?_, ?_, ?_, .cons ?_ (paired_up hal h2), h.nd, h.nk, h.nl⟩
    · rw [up_ne a1.symm]; exact h.f
    · rw [up_ne a2.symm]; exact h.d
    · rw [up_ne a3.symm]
      have := h.h
      rw [List.reverse_cons, List.map_append, List.map_append] at this ⊢
      exact this
    · rw [up_ne a4.symm]; exact h.r
    · rw [up_at]
      show _ = some (Cell.lst (((p.cs ++ [Nd.mk q.n q.m q.cs]).map (ndD CT)).map .dat))
      rw [List.map_append, List.map_append]; rfl
section
variable {X : Cx} {O : Own} {ρ : List Slot} {x : ExK} {k : Slot → Own → Prop} {e : Expr} {es : List Expr} {p pos : Pos} {CT : Addr} {g : Bool} {j : Nat}
theorem ew_mkTree (mk : MkC X.prog X.w X.K X.mg X.base 1 CT (TrInitS X.K) []) (hC : clsAt X.K "Tree" CT) (hm : X.mg "Tree" = some (.ref CT)) (hr : RoomB g j X.A)
    (h : AW X O ρ (e :: es) x fun ss O1 => ∃ n m cs d, ss = [.dat (.str n), .dat (.int m), .dat d] ∧ (d = .lst (ndDs CT cs) ∨ d = .tup (ndDs CT cs)) ∧ okT (.mk n m cs) ∧ szNs cs ≤ 100000 ∧ k (.dat (ndD CT (.mk n m cs))) O1) (hj : 2 ≤ j := by decide)
    (hg : Gl X "Tree" := by rfl) (he : starEach (e :: es) X.env = (false, eval e X.env) :: starEach es X.env := by rfl) (hpl : (backTo pos (starEach es X.env)).any (·.1) = false := by rfl) :
    EW X O ρ (.Call (.Name "Tree" p) (e :: es) [] pos) x k := by
  refine ew_frzT (ew_make mk hm hr (h.mono fun ss O1 hh => ?_) hj hg (by decide) he hpl)
  obtain ⟨n, m, cs, d, rfl, hd, hok, hsz, hk⟩ := hh
  intro a dx ha hdx hne
  refine ⟨a, CT, dx, n, m, cs, d, rfl, hC, up_at, hd, hok, hsz, fun q hq => ⟨rfl, ?_⟩⟩
  have nqa : q ≠ a := fun z => by rw [z, up_at] at hq; cases hq
  have hq1 : O1 q = none := by rw [up_ne nqa] at hq; exact hq
  refine ⟨a, CT, dx, q, [("name", .str n), ("mark", .int m), ("children", .tup (ndDs CT cs))], "nodes", alDs CT cs, [("text", .str (txN (.mk n m cs)))], rfl, up_at, ?_, ?_⟩
  · rw [up_ne nqa, up_at]
  · rw [up_swp nqa]
    have ed : dn (dn (up (up O1 q (.tpl (.own a :: (alDs CT cs).map .dat))) a (.ins CT dx [("name", .dat (.str n)), ("mark", .dat (.int m)), ("children", .dat (.tup (ndDs CT cs))), ("nodes", .own q), ("text", .dat (.str (txN (.mk n m cs))))])) a) q = O1 := by
      rw [dn_up (by rw [up_ne nqa.symm]; exact ha), dn_up hq1]
    rw [ed, ← ndD]
    exact hk
end
section
variable {P : Program} {w : World} {K : PySem.W.Frag} {mg : Str → Option Value} {base : Heap}
theorem fn_Row_can_take (T : TopOf K mg) (Z : Facts K) {f : Addr} {fd : FuncData} (F : L2.Fun K "can_take" "Row.can_take" s_Row_can_take f fd) : Fn P w K mg base false (5) f fd ["self", "value"] (CanS K) := by
  have sc := sc_Row_can_take
  refine fn_mk F sc_Row_can_take (fun ss O R h => by first | (obtain ⟨_, rfl, _⟩ := h; rfl) | (obtain ⟨_, _, rfl, _⟩ := h; rfl) | (obtain ⟨_, _, _, rfl, _⟩ := h; rfl) | (obtain ⟨_, _, _, _, rfl, _⟩ := h; rfl) | (obtain ⟨_, _, _, _, _, rfl, _⟩ := h; rfl) | (obtain ⟨_, _, _, _, _, _, rfl, _⟩ := h; rfl) | (obtain ⟨_, _, _, _, _, _, _, rfl, _⟩ := h; rfl)) fun cdv A outer s H E ss O R hr hpo h => ?_
  obtain ⟨C, CT, A, ls, done, st, d, rfl, hC, hA, hd, h⟩ := h
  obtain ⟨C', I_Row, mI, pW, mC, mT, ⟨q0, t_done⟩, ⟨q1, t_heads⟩, ⟨q2, t_rows⟩⟩ := Z.c_Row
  obtain rfl := at_inj hC I_Row.at_
  have pw : PrC P w K mg base 1 C "is_whole" (RWholeS K) := prc_of pW (by walk_at "b1") fun f fd F => fn_Row_is_whole T Z F
  unfold canR at h
  -- 0:self 1:value
  refine sw_one ?_
  refine s1_ret ?_
  refine ew_and ?_
  refine ew_call (c_is_event T Z) hr ?_
  refine aw_cons ?_
  refine ew_var 1 ?_
  refine aw_nil ?_
  refine ⟨d, rfl, hd, ?_⟩
  refine ⟨_, rfl, fun ht => ?_, fun ht => ?_⟩
  · rw [ht, Bool.true_and] at h
    obtain ⟨a, r, rfl⟩ := isEv_cons ht
    refine ew_one ?_
    refine ew_or ?_
    refine ew_cmp ?_
    refine ew_ix ?_
    refine ew_var 1 ?_
    refine ew_int ?_
    refine ix_tpl (d := a) (atI_nat (j := 0) rfl) ?_
    refine ew_str ?_
    refine ob_eqF (hr.r.mono (by decide)) ((hd.kids _ rfl).2 a (List.mem_cons_self ..)).2 open_fine ?_
    have e : isOpB (.tup (a :: r)) = eqD a (.str "open") := rfl
    rw [e] at h
    refine ⟨_, rfl, fun hu => ?_, fun hu => ?_⟩
    · rw [hu, Bool.true_or] at h
      exact h
    · rw [hu, Bool.false_or] at h
      refine ew_one ?_
      refine ew_notv ?_
      refine ew_propSl pw I_Row.sc hr ?_
      refine ew_var 0 ?_
      refine ⟨⟨_, _, hA.f⟩, C, CT, A, ls, done, st, rfl, hC, hA, ?_⟩
      exact ⟨_, rfl, h⟩
  · rw [ht, Bool.false_and] at h
    exact h
theorem fn_Row_take (T : TopOf K mg) (Z : Facts K) {f : Addr} {fd : FuncData} (F : L2.Fun K "take" "Row.take" s_Row_take f fd) : Fn P w K mg base false (3) f fd ["self", "event"] (TakeS K) := by
  have sc := sc_Row_take
  refine fn_mk F sc_Row_take (fun ss O R h => by first | (obtain ⟨_, rfl, _⟩ := h; rfl) | (obtain ⟨_, _, rfl, _⟩ := h; rfl) | (obtain ⟨_, _, _, rfl, _⟩ := h; rfl) | (obtain ⟨_, _, _, _, rfl, _⟩ := h; rfl) | (obtain ⟨_, _, _, _, _, rfl, _⟩ := h; rfl) | (obtain ⟨_, _, _, _, _, _, rfl, _⟩ := h; rfl) | (obtain ⟨_, _, _, _, _, _, _, rfl, _⟩ := h; rfl)) fun cdv A outer s H E ss O R hr hpo h => ?_
  obtain ⟨C, CT, A, ls, done, st, ev, rfl, hC, hCT, hA, hne, hst, hsl, hdl, h⟩ := h
  obtain ⟨C', I_Row, mI, pW, mC, mT, ⟨q0, t_done⟩, ⟨q1, t_heads⟩, ⟨q2, t_rows⟩⟩ := Z.c_Row
  obtain rfl := at_inj hC I_Row.at_
  obtain ⟨C2, I_Tree, tI, tRd, tFe, tL, tIt, tE, tS, tEv, na1, na2, na3, na4, na5⟩ := Z.c_Tree
  obtain rfl := at_inj hCT I_Tree.at_
  have mk_Tree : MkC P w K mg base 1 CT (TrInitS K) [] := mkc_ofD I_Tree tI (fun T kV doc pm an cdv ct us its h1 h2 => match us, its, h1, h2 with | [_, _, _, _], [_], _, _ => ⟨_, rfl, rfl⟩) fun f fd F => fn_Tree_init T Z F
  have pw : PrC P w K mg base 1 C "is_whole" (RWholeS K) := prc_of pW (by walk_at "b1") fun f fd F => fn_Row_is_whole T Z F
  obtain ⟨n1, n2, n3, n4, n5, n6⟩ := nd4 hA.nd
  have hll : ls.length = st.length := paired_len hA.k
  rw [evD_P]
  obtain ⟨er, her⟩ := evP_W ev
  -- 0:self 1:event 2:name 3:mark 4:tree 5:above
  refine sw_cons ?_
  refine s1_if ?_
  refine tw_cmp ?_
  refine ew_ix ?_
  refine ew_var 1 ?_
  refine ew_int ?_
  refine ix_tpl (d := .str (evW ev)) (by rw [her]; exact atI_nat (j := 0) rfl) ?_
  refine ew_str ?_
  walk_at "cmp Eq"
  refine ⟨_, rfl, fun ht => ?_, fun ht => ?_⟩
  · obtain ⟨n, m, rfl⟩ : ∃ n m, ev = some (n, m) := by
      cases ev with
      | none => exact absurd (of_decide_eq_true ht) (by decide +kernel)
      | some q => exact ⟨q.1, q.2, rfl⟩
    refine sw_cons ?_
    refine s1_expr ?_
    refine ew_append ?_
    refine ew_slot I_Row.sc t_heads ?_
    refine ew_var 0 ?_
    refine ⟨A.f, A.dx, _, _, rfl, hA.f, rfl, ?_⟩
    refine ⟨?_, ?_⟩
    · exact ⟨rfl, _, hA.h⟩
    refine ew_slice ?_
    refine ew_var 1 ?_
    refine ow_some ?_
    refine ew_int ?_
    refine ⟨_, rfl, ?_⟩
    refine ow_none ?_
    
    refine sb_tup ?_
    rw [show cutD (evP (some (n, m))) (some 1) none = [.str n, .int m] from rfl]
    refine mb_append hA.h (by rw [List.length_map, List.length_map, List.length_reverse, sizeLine_eq]; omega) ?_
    refine sw_cons ?_
    refine s1_expr ?_
    refine ew_append ?_
    refine ew_slot I_Row.sc t_rows ?_
    refine ew_var 0 ?_
    refine ⟨A.f, A.dx, _, _, rfl, by rw [up_ne n2]; exact hA.f, rfl, ?_⟩
    refine ⟨?_, ?_⟩
    · exact ⟨rfl, _, by rw [up_ne n6.symm]; exact hA.r⟩
    refine ew_lst ?_
    refine aw_nil ?_
    refine ⟨by decide, fun q hq => ?_⟩
    have m1 : q ≠ A.h := fun e => by rw [e, up_at] at hq; cases hq
    rw [up_ne m1] at hq
    have m2 : q ≠ A.r := fun e => by rw [e, hA.r] at hq; cases hq
    have m3 : q ≠ A.f := fun e => by rw [e, hA.f] at hq; cases hq
    have m4 : q ≠ A.d := fun e => by rw [e, hA.d] at hq; cases hq
    have m5 : q ∉ ls := fun e => by
      obtain ⟨z, hz⟩ := paired_have hA.k q e
      rw [hq] at hz; cases hz
    refine mb_append (by rw [up_ne m2.symm, up_ne n6.symm]; exact hA.r) (by rw [List.length_map, List.length_reverse, sizeLine_eq]; omega) ?_
    refine sw_one ?_
    refine s1_retN ?_
    refine h _ (q :: ls) ⟨?_, ?_, ?_, ?_, .cons ?_ (paired_up ?_ (paired_up ?_ (paired_up ?_ hA.k))), hA.nd, ?_, ?_⟩ ?_ ?_
    · rw [up_ne n3, up_ne m3.symm, up_ne n2]; exact hA.f
    · rw [up_ne n5, up_ne m4.symm, up_ne n4]; exact hA.d
    · rw [up_ne n6, up_ne m1.symm, up_at]
      show _ = some (Cell.lst ((((⟨n, m, []⟩ : Op) :: st).reverse.map opD).map .dat))
      rw [List.reverse_cons, List.map_append, List.map_append]
      rfl
    · rw [up_at, List.reverse_cons, List.map_append]
      rfl
    · rw [up_ne m2, up_at]; rfl
    · exact fun e => hA.nk _ e (by simp [Rw.keys])
    · exact m5
    · exact fun e => hA.nk _ e (by simp [Rw.keys])
    · intro a ha
      rcases List.mem_cons.mp ha with rfl | ha
      · simp [Rw.keys, m1, m2, m3, m4]
      · exact hA.nk a ha
    · exact List.nodup_cons.mpr ⟨m5, hA.nl⟩
    · exact ((But.refl.up (.inl (by simp [Rw.keys]))).up (.inr hq)).up (.inl (by simp [Rw.keys]))
    · intro a ha
      rcases List.mem_cons.mp ha with rfl | ha
      · exact .inr hq
      · exact .inl ha
  · obtain rfl : ev = none := by
      cases ev with
      | none => rfl
      | some q => exact absurd (show evW (some q) = "open" from rfl) (of_decide_eq_false ht)
    obtain ⟨q, st', rfl⟩ : ∃ q st', st = q :: st' := by
      cases st with
      | nil => exact absurd rfl (hne rfl)
      | cons q r => exact ⟨q, r, rfl⟩
    obtain ⟨a, ls', rfl⟩ : ∃ a ls', ls = a :: ls' := by
      cases ls with
      | nil => cases hll
      | cons a r => exact ⟨a, r, rfl⟩
    obtain ⟨ha, hk'⟩ : O a = some (.lst ((q.cs.map (ndD CT)).map .dat)) ∧ Paired (fun a (q : Op) => O a = some (.lst ((q.cs.map (ndD CT)).map .dat))) ls' st' := by
      cases hA.k with
      | cons h1 h2 => exact ⟨h1, h2⟩
    have hak := hA.nk a (List.mem_cons_self ..)
    obtain ⟨hal, hnl'⟩ := List.nodup_cons.mp hA.nl
    obtain ⟨a1, a2, a3, a4⟩ : a ≠ A.f ∧ a ≠ A.d ∧ a ≠ A.h ∧ a ≠ A.r := by simpa [Rw.keys] using hak
    have hH : O A.h = some (.lst (((st'.reverse.map opD).map .dat) ++ [.dat (opD q)])) := by
      have := hA.h
      rw [List.reverse_cons, List.map_append, List.map_append] at this
      exact this
    have hRr : O A.r = some (.lst (ls'.reverse.map .own ++ [.own a])) := by
      have := hA.r
      rw [List.reverse_cons, List.map_append] at this
      exact this
    obtain ⟨hq1, hq2, hq3⟩ := hst q (List.mem_cons_self ..)
    refine sw_nil ?_
    refine sw_cons ?_
    refine s1_asg ?_
    refine ew_pop ?_
    refine ew_slot I_Row.sc t_heads ?_
    refine ew_var 0 ?_
    refine ⟨A.f, A.dx, _, _, rfl, hA.f, rfl, ?_⟩
    refine ⟨?_, ?_⟩
    · exact ⟨rfl, _, hH⟩
    
    refine mb_pop (s := .dat (opD q)) hH ?_
    rw [show opD q = .tup [.str q.n, .int q.m] from rfl]
    refine gw_tup ?_
    refine gsw_cons ?_
    refine gw_name 2 ?_ sc.nd
    refine gsw_cons ?_
    refine gw_name 3 ?_ sc.nd
    refine gsw_nil ?_
    refine sw_cons ?_
    refine s1_set 4 ?_ sc.nd
    refine ew_mkTree mk_Tree I_Tree.at_ (T.is I_Tree.at_) hr ?_
    refine aw_cons ?_
    refine ew_var 2 ?_
    refine aw_cons ?_
    refine ew_var 3 ?_
    refine aw_cons ?_
    refine ew_frz ?_
    refine ew_pop ?_
    refine ew_slot I_Row.sc t_rows ?_
    refine ew_var 0 ?_
    refine ⟨A.f, A.dx, _, _, rfl, by rw [up_ne n2]; exact hA.f, rfl, ?_⟩
    refine ⟨?_, ?_⟩
    · exact ⟨rfl, _, by rw [up_ne n6.symm]; exact hRr⟩
    refine mb_pop (s := .own a) (by rw [up_ne n6.symm]; exact hRr) ?_
    refine ⟨a, q.cs.map (ndD CT), rfl, by rw [up_ne a4, up_ne a3]; exact ha, ?_⟩
    refine aw_nil ?_
    refine ⟨q.n, q.m, q.cs, _, rfl, .inl (by rw [ndDs_map]), hq1, by omega, ?_⟩
    generalize hO3 : dn (up (up O A.h _) A.r _) a = O3
    have hA3 : RwAt C CT O3 A ls' done st' := by
      rw [← hO3]
      refine ⟨?_, ?_, ?_, ?_, ?_, hA.nd, fun b hb => hA.nk b (List.mem_cons_of_mem _ hb), hnl'⟩
      · rw [dn_ne a1.symm, up_ne n3, up_ne n2]; exact hA.f
      · rw [dn_ne a2.symm, up_ne n5, up_ne n4]; exact hA.d
      · rw [dn_ne a3.symm, up_ne n6, up_at]
      · rw [dn_ne a4.symm, up_at]
      · refine paired_dn hal (paired_up ?_ (paired_up ?_ hk'))
        · exact fun e => hA.nk _ (List.mem_cons_of_mem _ e) (by simp [Rw.keys])
        · exact fun e => hA.nk _ (List.mem_cons_of_mem _ e) (by simp [Rw.keys])
    have hBut : But (A.keys ++ a :: ls') O O3 := by
      rw [← hO3]
      exact ((But.refl.up (.inl (by simp [Rw.keys]))).up (.inl (by simp [Rw.keys]))).dn (.inl (by simp))
    clear hO3
    have hll' : ls'.length = st'.length := paired_len hA3.k
    obtain ⟨kids, hkids⟩ : ∃ kids, kids = kidsR done st' := ⟨_, rfl⟩
    have hb : O3 (ls'.headD A.d) = some (.lst ((kids.map (ndD CT)).map .dat)) := by
      rw [hkids]
      cases hk3 : hA3.k with
      | nil => exact hA3.d
      | cons h1 h2 => exact h1
    refine sw_cons ?_
    refine s1_set 5 ?_ sc.nd
    refine EW.mono (k := fun s O' => s = .own (ls'.headD A.d) ∧ O' = O3) ?_ ?_
    · refine ew_if ?_
      refine tw_val ?_
      refine ew_propSl pw I_Row.sc hr ?_
      refine ew_var 0 ?_
      refine ⟨⟨_, _, hA3.f⟩, C, CT, A, ls', done, st', rfl, hC, hA3, ?_⟩
      refine ⟨_, rfl, fun ht => ?_, fun ht => ?_⟩
      · have e : ls' = [] := by
          cases st' with
          | nil => exact List.length_eq_zero_iff.mp hll'
          | cons p r => cases ht
        refine ew_slot I_Row.sc t_done ?_
        refine ew_var 0 ?_
        refine ⟨A.f, A.dx, _, _, rfl, hA3.f, rfl, ?_⟩
        rw [e]; exact ⟨rfl, rfl⟩
      · obtain ⟨b, l2, e⟩ : ∃ b l2, ls' = b :: l2 := by
          cases ls' with
          | nil =>
            cases st' with
            | nil => cases ht
            | cons p r => cases hll'
          | cons b l => exact ⟨b, l, rfl⟩
        refine ew_ix ?_
        refine ew_slot I_Row.sc t_rows ?_
        refine ew_var 0 ?_
        refine ⟨A.f, A.dx, _, _, rfl, hA3.f, rfl, ?_⟩
        refine ew_un ?_
        refine ew_int ?_
        refine ou_neg ?_
        refine ix_own hA3.r (s := .own b) ?_ ?_
        · rw [e, List.reverse_cons, List.map_append]
          exact atI_last _ _
        · rw [e]; exact ⟨rfl, rfl⟩
    rintro s1 O4 ⟨rfl, rfl⟩
    refine sw_one ?_
    refine s1_expr ?_
    refine ew_append ?_
    refine ew_var 5 ?_
    refine ⟨?_, ?_⟩
    · exact ⟨rfl, _, hb⟩
    refine ew_var 4 ?_
    refine mb_append hb (by rw [List.length_map, List.length_map, hkids, sizeLine_eq]; exact Nat.lt_trans (kids_few hst hdl) (by decide)) ?_
    refine h _ ls' ?_ (hBut.up (.inl ?_)) fun b hb => .inl (List.mem_cons_of_mem _ hb)
    · exact take_done hA3 hkids
    · cases ls' with
      | nil => simp [Rw.keys]
      | cons b l => simp
end
theorem eqD_strR {a : Dat} {z : Str} (h : eqD a (.str z) = true) (hp : plain a = true) : a = .str z := by
  cases a with
  | str y =>
    rw [eqD_str] at h
    rw [of_decide_eq_true h]
  | _ => first | (cases hp; done) | exact absurd (show false = true from h) (by decide)
theorem isEv_of {d : Dat} (h : isEvD d = true) (ok : EvOk d) : (∃ n m, d = evD (some (n, m)) ∧ isNm n = true ∧ 0 ≤ m) ∨ d = evD none := by
  obtain ⟨a, r, rfl⟩ := isEv_cons h
  obtain ⟨_, hk⟩ := ok.kids _ rfl
  have h : (if isOpenD (a :: r) then isNmD ((a :: r).getD 1 .non) && isMkD ((a :: r).getD 2 .non) else eqD (.tup (a :: r)) (.tup [.str "close"])) = true := h
  cases e : isOpenD (a :: r) with
  | true =>
    rw [e, if_pos rfl] at h
    obtain ⟨x, y, z, e2⟩ := isOpen_three e
    rw [e2] at h e hk ⊢
    have hx := eqD_strR (show eqD x (.str "open") = true from e) (fine_all _ (hk x (List.mem_cons_self ..)).2.1).1
    obtain ⟨h1, h2⟩ := Bool.and_eq_true_iff.mp h
    have h1 : isNmD y = true := h1
    have h2 : isMkD z = true := h2
    subst hx
    cases y with
    | str n =>
      cases z with
      | int m => exact .inl ⟨n, m, rfl, h1, of_decide_eq_true h2⟩
      | _ => cases h2
    | _ => cases h1
  | false =>
    rw [e, if_neg (by decide), eqD_tup] at h
    right
    cases r with
    | nil =>
      have h : (PyData.eqv (toPy a) (toPy (.str "close")) && true) = true := h
      rw [Bool.and_true] at h
      rw [eqD_strR h (fine_all _ (hk a (List.mem_cons_self ..)).2.1).1]
      rfl
    | cons b r =>
      have h : (PyData.eqv (toPy a) (toPy (.str "close")) && false) = true := h
      rw [Bool.and_false] at h; cases h
def evOf : Dat → Ev
  | .tup [_, .str n, .int m] => some (n, m)
  | _ => none
theorem evOf_D (ev : Ev) : evOf (evD ev) = ev := by cases ev <;> rfl
def runR : Nat → List Nd × List Op → List Dat → Nat ⊕ (List Nd × List Op)
  | _, s, [] => .inr s
  | i, s, d :: ds => if !s.1.isEmpty || !canR s.2 d then .inl i else runR (i + 1) (stepR s (evOf d)) ds
def fromE (ds : List Dat) : Nat ⊕ Nd := match runR 0 ([], []) ds with
  | .inl i => .inl i
  | .inr (t :: _, _) => .inr t
  | .inr ([], _) => .inl ds.length
def smMark (d : Dat) : Prop := ∀ n m, d = evD (some (n, m)) → m < 1000000000000
/-- what stands in a row is small -/
structure RowOk (i : Nat) (s : List Nd × List Op) : Prop where
  st : ∀ q ∈ s.2, okT (.mk q.n q.m q.cs)
  done : ∀ t ∈ s.1, okT t
  sz : szNs s.1 + (s.2.map fun q => 1 + szNs q.cs).sum ≤ i
theorem szNs_app : ∀ (as bs : List Nd), szNs (as ++ bs) = szNs as + szNs bs
  | [], bs => by rw [List.nil_append, szNs]; omega
  | a :: as, bs => by rw [List.cons_append, szNs, szNs, szNs_app as bs]; omega
theorem okTs_app {as bs : List Nd} (h : okTs as) (h' : okTs bs) : okTs (as ++ bs) := by
  induction as with
  | nil => exact h'
  | cons a as ih =>
    rw [List.cons_append, okTs]
    rw [okTs] at h
    exact ⟨h.1, ih h.2⟩
theorem nm_len {z : Str} (h : isNm z = true) : z.length ≤ 8 := by
  have := (Bool.and_eq_true_iff.mp h).1
  exact (madeOf_pos this).2.1
theorem rowOk_step {i : Nat} {s : List Nd × List Op} {ev : Ev} (h : RowOk i s) (hn : ∀ n m, ev = some (n, m) → isNm n = true ∧ 0 ≤ m ∧ m < 1000000000000) : RowOk (i + 1) (stepR s ev) := by
  obtain ⟨done, st⟩ := s
  obtain ⟨h1, h2, h3⟩ := h
  cases ev with
  | some q =>
    obtain ⟨n, m⟩ := q
    obtain ⟨k1, k2, k3⟩ := hn n m rfl
    refine ⟨fun q hq => ?_, h2, ?_⟩
    · rcases List.mem_cons.mp (show q ∈ (⟨n, m, []⟩ : Op) :: st from hq) with rfl | hq
      · rw [okT]; exact ⟨nm_len k1, k2, k3, by rw [okTs]; trivial⟩
      · exact h1 q hq
    · show szNs done + (((⟨n, m, []⟩ : Op) :: st).map fun q => 1 + szNs q.cs).sum ≤ _
      rw [List.map_cons, List.sum_cons]
      have e : szNs (⟨n, m, []⟩ : Op).cs = 0 := by show szNs [] = 0; rw [szNs]
      rw [e]
      have h3 : szNs done + (st.map fun q => 1 + szNs q.cs).sum ≤ i := h3
      omega
  | none =>
    cases st with
    | nil =>
      show RowOk (i + 1) (done, [])
      exact ⟨h1, h2, Nat.le_succ_of_le h3⟩
    | cons q st =>
      have hq := h1 q (List.mem_cons_self ..)
      have h3 : szNs done + ((q :: st).map fun q => 1 + szNs q.cs).sum ≤ i := h3
      rw [List.map_cons, List.sum_cons] at h3
      have e : szNs [Nd.mk q.n q.m q.cs] = 1 + szNs q.cs := by rw [szNs, szNs, szN]; omega
      cases st with
      | nil =>
        refine ⟨(fun x hx => nomatch hx), fun t ht => ?_, ?_⟩
        · rcases List.mem_append.mp (show t ∈ done ++ [Nd.mk q.n q.m q.cs] from ht) with ht | ht
          · exact h2 t ht
          · rw [List.mem_singleton.mp ht]; exact hq
        · show szNs (done ++ [Nd.mk q.n q.m q.cs]) + 0 ≤ _
          rw [szNs_app, e]
          simp only [List.map_nil, List.sum_nil] at h3
          omega
      | cons p r =>
        have hp := h1 p (List.mem_cons_of_mem _ (List.mem_cons_self ..))
        refine ⟨fun x hx => ?_, h2, ?_⟩
        · rcases List.mem_cons.mp (show x ∈ (⟨p.n, p.m, p.cs ++ [Nd.mk q.n q.m q.cs]⟩ : Op) :: r from hx) with rfl | hx
          · rw [okT] at hp ⊢
            refine ⟨hp.1, hp.2.1, hp.2.2.1, okTs_app hp.2.2.2 ?_⟩
            rw [okTs, okTs]; exact ⟨hq, trivial⟩
          · exact h1 x (List.mem_cons_of_mem _ (List.mem_cons_of_mem _ hx))
        · show szNs done + (((⟨p.n, p.m, p.cs ++ [Nd.mk q.n q.m q.cs]⟩ : Op) :: r).map fun q => 1 + szNs q.cs).sum ≤ _
          rw [List.map_cons, List.sum_cons] at h3 ⊢
          have e2 : szNs (⟨p.n, p.m, p.cs ++ [Nd.mk q.n q.m q.cs]⟩ : Op).cs = szNs p.cs + (1 + szNs q.cs) := by
            show szNs (p.cs ++ [Nd.mk q.n q.m q.cs]) = _
            rw [szNs_app, e]
          rw [e2]
          omega
theorem sum_ge {q : Op} : ∀ {st : List Op}, q ∈ st → 1 + szNs q.cs ≤ (st.map fun q => 1 + szNs q.cs).sum
  | p :: st, h => by
    rw [List.map_cons, List.sum_cons]
    rcases List.mem_cons.mp h with rfl | h
    · omega
    · have := sum_ge h; omega
theorem sum_len : ∀ st : List Op, st.length ≤ (st.map fun q => 1 + szNs q.cs).sum
  | [] => Nat.zero_le _
  | p :: st => by
    have := sum_len st
    rw [List.map_cons, List.sum_cons, List.length_cons]; omega
def FromS (K : PySem.W.Frag) : SpecT := fun ss O R => ∃ (CT CR CN : Addr) (ds : List Dat), ss = [.dat (.cls CT), .dat (.lst ds)] ∧ clsAt K "Tree" CT ∧ clsAt K "Row" CR ∧ clsAt K "NoTree" CN ∧ ds.length ≤ 500 ∧ (∀ e ∈ ds, EvOk e ∧ smMark e) ∧
  (∀ i, fromE ds = .inl i → R (.exc (.own CN [("at", .int (i : Int))])) O) ∧ ∀ t, fromE ds = .inr t → R (.ret (.dat (ndD CT t))) O
def runsR (s : List Nd × List Op) (ds : List Dat) : List Nd × List Op := ds.foldl (fun s d => stepR s (evOf d)) s
def goodR : List Nd × List Op → List Dat → Prop
  | _, [] => True
  | s, d :: ds => (s.1.isEmpty = true ∧ canR s.2 d = true) ∧ goodR (stepR s (evOf d)) ds
theorem runR_app : ∀ {ds es : List Dat} {i : Nat} {s : List Nd × List Op}, goodR s ds → runR i s (ds ++ es) = runR (i + ds.length) (runsR s ds) es
  | [], _, _, _, _ => rfl
  | d :: ds, es, i, s, ⟨⟨h1, h2⟩, h3⟩ => by
    rw [List.cons_append, runR, h1, h2, if_neg (by decide), runR_app h3, List.length_cons, show i + (ds.length + 1) = i + 1 + ds.length by omega]
    rfl
theorem goodR_snoc : ∀ {ds : List Dat} {d : Dat} {s : List Nd × List Op}, goodR s ds → (runsR s ds).1.isEmpty = true → canR (runsR s ds).2 d = true → goodR s (ds ++ [d])
  | [], d, s, _, h1, h2 => ⟨⟨h1, h2⟩, trivial⟩
  | x :: ds, d, s, ⟨hx, h3⟩, h1, h2 => ⟨hx, goodR_snoc h3 h1 h2⟩
theorem runsR_snoc (s : List Nd × List Op) (ds : List Dat) (d : Dat) : runsR s (ds ++ [d]) = stepR (runsR s ds) (evOf d) := by
  unfold runsR
  rw [List.foldl_append]; rfl
/-- where a row stops -/
theorem from_stop {ds : List Dat} {i : Nat} {d : Dat} (hi : ds[i]? = some d) (hg : goodR ([], []) (ds.take i)) (hb : ((runsR ([], []) (ds.take i)).1.isEmpty && canR (runsR ([], []) (ds.take i)).2 d) = false) : fromE ds = .inl i := by
  have hl : i < ds.length := by
    rcases Nat.lt_or_ge i ds.length with q | q
    · exact q
    · rw [List.getElem?_eq_none q] at hi; cases hi
  have e : ds = ds.take i ++ d :: ds.drop (i + 1) := by
    rw [List.getElem?_eq_getElem hl] at hi
    injection hi with hi
    rw [← hi, List.getElem_cons_drop, List.take_append_drop]
  have e2 : runR 0 ([], []) ds = .inl i := by
    rw [e, runR_app hg, runR, if_pos, List.length_take, Nat.zero_add, Nat.min_eq_left (Nat.le_of_lt hl)]
    revert hb
    cases (runsR ([], []) (ds.take i)).1.isEmpty <;> cases canR (runsR ([], []) (ds.take i)).2 d <;> decide
  unfold fromE
  rw [e2]
theorem from_end {ds : List Dat} (hg : goodR ([], []) ds) : fromE ds = match (runsR ([], []) ds).1 with | [] => .inl ds.length | t :: _ => .inr t := by
  have e := runR_app (es := []) (i := 0) hg
  rw [List.append_nil] at e
  unfold fromE
  rw [e, runR]
  cases h : runsR ([], []) ds with
  | mk done st => cases done <;> rfl
section
variable {P : Program} {w : World} {K : PySem.W.Frag} {mg : Str → Option Value} {base : Heap}
theorem fn_Tree_from_events (T : TopOf K mg) (Z : Facts K) {f : Addr} {fd : FuncData} (F : L2.Fun K "from_events" "Tree.from_events" s_Tree_from_events f fd) : Fn P w K mg base false (10) f fd ["cls", "events"] (FromS K) := by
  have sc := sc_Tree_from_events
  refine fn_mk F sc_Tree_from_events (fun ss O R h => by first | (obtain ⟨_, rfl, _⟩ := h; rfl) | (obtain ⟨_, _, rfl, _⟩ := h; rfl) | (obtain ⟨_, _, _, rfl, _⟩ := h; rfl) | (obtain ⟨_, _, _, _, rfl, _⟩ := h; rfl) | (obtain ⟨_, _, _, _, _, rfl, _⟩ := h; rfl) | (obtain ⟨_, _, _, _, _, _, rfl, _⟩ := h; rfl) | (obtain ⟨_, _, _, _, _, _, _, rfl, _⟩ := h; rfl)) fun cdv A outer s H E ss O R hr hpo h => ?_
  obtain ⟨CT, CR, CN, ds, rfl, hCT, hCR, hCN, hl, hok, hx, hv⟩ := h
  obtain ⟨C', I_Row, mI, pW, mC, mT, ⟨q0, t_done⟩, ⟨q1, t_heads⟩, ⟨q2, t_rows⟩⟩ := Z.c_Row
  obtain rfl := at_inj hCR I_Row.at_
  have mk_Row : MkC P w K mg base 1 CR (RInitS K) [] := mkc_ofS I_Row mI (by walk_at "b1") fun f fd F => fn_Row_init T Z F
  have m_can : MCal P w K mg base false 5 CR "can_take" (CanS K) [] := mcal_of mC (by walk_at "b2") fun f fd F => fn_Row_can_take T Z F
  have m_take : MCal P w K mg base false 3 CR "take" (TakeS K) [] := mcal_of mT (by walk_at "b2") fun f fd F => fn_Row_take T Z F
  obtain ⟨CN', BN, XN, nfN, xc⟩ := xc_NoTree (P := P) (w := w) (base := base) T Z
  obtain rfl : CN' = CN := by
    have q := XN.a.at_.symm.trans hCN
    cases q
    rfl
  refine sw_drop ?_
  -- 0:cls 1:events 2:row 3:at 4:event
  refine sw_cons ?_
  refine s1_set 2 ?_ sc.nd
  refine ew_makeSl0 mk_Row (T.is I_Row.at_) hr ?_
  intro a adx ha hadx hne
  refine ⟨a, CR, adx, CT, rfl, hCR, up_at, fun A O1 e1 hA hb n1 n2 n3 => ⟨rfl, ?_⟩⟩
  subst e1
  have hsub : Sub O O1 := fun b c hbc => by
    have nb : b ≠ A.f := own_ne hbc ha
    exact hb b c (by simp [nb]) (by rw [up_ne nb]; exact hbc)
  refine sw_cons ?_
  refine s1_for hpo ?_
  refine iw_enum (T.no Z.n_enumerate) ?_
  refine aw_cons ?_
  refine ew_var 1 ?_
  refine aw_nil ?_
  refine ⟨_, rfl, ?_⟩
  refine ⟨fun i ρ' O' => ∃ (s3 s4 : Slot) (ls : List Addr), ρ' = [.dat (.cls CT), .dat (.lst ds), .own A.f, s3, s4] ∧ RwAt CR CT O' A ls (runsR ([], []) (ds.take i)).1 (runsR ([], []) (ds.take i)).2 ∧ Sub O O' ∧ goodR ([], []) (ds.take i) ∧ RowOk i (runsR ([], []) (ds.take i)) ∧ (∀ b ∈ A.keys ++ ls, O b = none), ?_, ?_, ?_⟩
  · refine ⟨_, _, [], rfl, hA, hsub, trivial, ⟨(fun q hq => nomatch hq), (fun t ht => nomatch ht), ?_⟩, fun b hb => ?_⟩
    · show szNs [] + 0 ≤ 0
      rw [szNs]; exact Nat.le_refl _
    · have q : ∀ y, (Kn.up O A.f (.slt CR adx [])) y = none → O y = none := fun y hy => by
        by_cases e : y = A.f
        · rw [e]; exact ha
        · rw [up_ne e] at hy; exact hy
      have hb : b ∈ [A.f, A.d, A.h, A.r] := by simpa [Rw.keys] using hb
      simp only [List.mem_cons, List.not_mem_nil, or_false] at hb
      rcases hb with rfl | rfl | rfl | rfl
      · exact ha
      · exact q _ n1
      · exact q _ n2
      · exact q _ n3
  · intro i d ρ2 O2 hj hd
    obtain ⟨s3, s4, ls, rfl, hA, hsub, hgd, hro, hnew⟩ := hj
    unfold enumD at hd
    rw [List.getElem?_mapIdx] at hd
    obtain ⟨e, hei, rfl⟩ := Option.map_eq_some_iff.mp hd
    obtain ⟨hev, hsm⟩ := hok e (List.mem_of_getElem? hei)
    have hil : i < ds.length := by
      rcases Nat.lt_or_ge i ds.length with q | q
      · exact q
      · rw [List.getElem?_eq_none q] at hei; cases hei
    have htk : ds.take (i + 1) = ds.take i ++ [e] := by rw [List.take_add_one, hei]; rfl
    have hst0 := from_stop (d := e) hei hgd
    have hgs := goodR_snoc (d := e) hgd
    have hrs := runsR_snoc ([], []) (ds.take i) e
    generalize runsR ([], []) (ds.take i) = S at hA hro hst0 hgs hrs
    obtain ⟨done, st⟩ := S
    refine gw_tup ?_
    refine gsw_cons ?_
    refine gw_name 3 ?_ sc.nd
    refine gsw_cons ?_
    refine gw_name 4 ?_ sc.nd
    refine gsw_nil ?_
    refine sw_cons ?_
    refine s1_if ?_
    refine tw_tv (t := !(done.isEmpty && canR st e)) ?_ ?_
    · refine tw_w ?_
      refine tww_or ?_
      refine tw_cmp ?_
      refine ew_callB (T.no Z.n_len) bt_len ?_
      refine aw_cons ?_
      refine ew_slot I_Row.sc t_done ?_
      refine ew_var 2 ?_
      refine ⟨A.f, A.dx, _, _, rfl, hA.f, rfl, ?_⟩
      refine aw_nil ?_
      refine cb_lenO hA.d ?_
      refine ew_int ?_
      refine ob_gt ?_
      refine ⟨_, rfl, fun ht => ?_, fun ht => ?_⟩
      · have ht := of_decide_eq_true ht
        cases done with
        | nil => exact absurd ht (show ¬ (0 : Int) < ((0 : Nat) : Int) by decide)
        | cons t r => exact ⟨rfl, rfl⟩
      · have ht := of_decide_eq_false ht
        cases done with
        | cons t r => exact absurd (show (0 : Int) < _ from by rw [List.length_map, List.length_map, List.length_cons]; omega) ht
        | nil =>
          refine tww_or1 ?_
          refine tw_not ?_
          refine tw_val ?_
          refine ew_methSl m_can I_Row.sc hr ?_
          refine ew_var 2 ?_
          refine ⟨⟨_, _, hA.f⟩, ?_⟩
          refine aw_cons ?_
          refine ew_var 4 ?_
          refine aw_nil ?_
          refine ⟨CR, CT, A, ls, [], st, e, rfl, hCR, hA, hev, ?_⟩
          exact ⟨_, rfl, rfl, rfl⟩
    refine ⟨fun ht => ?_, fun ht => ?_⟩
    · refine sw_one ?_
      refine s1_raise xc hr ?_
      refine aw_cons ?_
      refine ew_var 3 ?_
      refine aw_nil ?_
      refine raised1 flatD_int ?_
      refine ⟨O, hsub, hx i (hst0 ?_)⟩
      cases h9 : (done.isEmpty && canR st e) with
      | true => rw [h9] at ht; cases ht
      | false => rfl
    · obtain ⟨hde, hce⟩ : done.isEmpty = true ∧ canR st e = true := by simpa using ht
      obtain rfl : done = [] := List.isEmpty_iff.mp hde
      have hie : isEvD e = true := by
        unfold canR at hce
        exact (Bool.and_eq_true_iff.mp hce).1
      have heq : e = evD (evOf e) ∧ (∀ n m, evOf e = some (n, m) → isNm n = true ∧ 0 ≤ m ∧ m < 1000000000000) ∧ (evOf e = none → st ≠ []) := by
        rcases isEv_of hie hev with ⟨n, m, rfl, h1, h2⟩ | rfl
        · refine ⟨by rw [evOf_D], fun n' m' q => ?_, fun q => ?_⟩
          · rw [evOf_D] at q
            injection q with q
            injection q with q1 q2
            subst q1 q2
            exact ⟨h1, h2, hsm _ _ rfl⟩
          · rw [evOf_D] at q; cases q
        · refine ⟨by rw [evOf_D], fun n' m' q => ?_, fun _ q => ?_⟩
          · rw [evOf_D] at q; cases q
          · subst q
            have : canR [] (evD none) = false := by decide +kernel
            rw [this] at hce; cases hce
      obtain ⟨heq, hnm, hnn⟩ := heq
      have hro1 := rowOk_step hro hnm
      have hsz : (st.map fun q => 1 + szNs q.cs).sum ≤ i := by
        have := hro.sz
        have e0 : szNs ([] : List Nd) = 0 := by rw [szNs]
        have this : szNs ([] : List Nd) + (st.map fun q => 1 + szNs q.cs).sum ≤ i := this
        omega
      refine sw_nil ?_
      refine sw_one ?_
      refine s1_expr ?_
      refine ew_methSl m_take I_Row.sc hr ?_
      refine ew_var 2 ?_
      refine ⟨⟨_, _, hA.f⟩, ?_⟩
      refine aw_cons ?_
      refine ew_var 4 ?_
      refine aw_nil ?_
      refine ⟨CR, CT, A, ls, [], st, evOf e, by rw [← heq]; rfl, hCR, hCT, hA, hnn, fun q hq => ?_, ?_, Nat.zero_le _, fun O3 ls' hA' hb' hl' => ?_⟩
      · have h1 := sum_ge hq
        have h2 := szNs_len q.cs
        exact ⟨hro.st q hq, by omega, by omega⟩
      · have := sum_len st; omega
      refine ⟨_, _, ls', rfl, by rw [htk, hrs]; exact hA', fun b c hbc => ?_, by rw [htk]; exact hgs hde hce, by rw [htk, hrs]; exact hro1, fun b hb => ?_⟩
      · refine hb' b c (fun q => ?_) (hsub b c hbc)
        rw [hnew b q] at hbc; cases hbc
      · rcases List.mem_append.mp hb with hb | hb
        · exact hnew b (List.mem_append.mpr (.inl hb))
        · rcases hl' b hb with q | q
          · exact hnew b (List.mem_append.mpr (.inr q))
          · cases hO : O b with
            | none => rfl
            | some c => rw [hsub b c hO] at q; cases q
  · intro ρ2 O2 hj
    obtain ⟨s3, s4, ls, rfl, hA, hsub, hgd, hro, hnew⟩ := hj
    have e : ds.take (enumD ds).length = ds := by
      unfold enumD
      rw [List.length_mapIdx, List.take_length]
    rw [e] at hA hgd hro
    have hend := from_end hgd
    generalize runsR ([], []) ds = S at hA hro hend
    obtain ⟨done, st⟩ := S
    refine sw_cons ?_
    refine s1_if ?_
    refine tw_cmp ?_
    refine ew_callB (T.no Z.n_len) bt_len ?_
    refine aw_cons ?_
    refine ew_slot I_Row.sc t_done ?_
    refine ew_var 2 ?_
    refine ⟨A.f, A.dx, _, _, rfl, hA.f, rfl, ?_⟩
    refine aw_nil ?_
    refine cb_lenO hA.d ?_
    refine ew_int ?_
    walk_at "cmp Eq"
    refine ⟨_, rfl, fun ht => ?_, fun ht => ?_⟩
    · refine sw_one ?_
      refine s1_raise xc hr ?_
      refine aw_cons ?_
      refine ew_callB (T.no Z.n_len) bt_len ?_
      refine aw_cons ?_
      refine ew_var 1 ?_
      refine aw_nil ?_
      refine cb_lenL ?_
      refine aw_nil ?_
      refine raised1 flatD_int ?_
      have hd0 : done = [] := by
        have h8 := of_decide_eq_true ht
        rw [List.length_map, List.length_map] at h8
        have h8 : ((done.length : Nat) : Int) = 0 := h8
        exact List.length_eq_zero_iff.mp (by omega)
      subst hd0
      exact ⟨O, hsub, hx _ hend⟩
    · obtain ⟨t, r, rfl⟩ : ∃ t r, done = t :: r := by
        cases done with
        | nil => exact absurd rfl (of_decide_eq_false ht)
        | cons t r => exact ⟨t, r, rfl⟩
      refine sw_nil ?_
      refine sw_one ?_
      refine s1_ret ?_
      refine ew_ix ?_
      refine ew_slot I_Row.sc t_done ?_
      refine ew_var 2 ?_
      refine ⟨A.f, A.dx, _, _, rfl, hA.f, rfl, ?_⟩
      refine ew_int ?_
      refine ix_own hA.d (s := .dat (ndD CT t)) (atI_nat (j := 0) rfl) ?_
      exact ⟨O, hsub, hv t hend⟩
end
theorem digits_lt : ∀ (cs : List Nat) (a : Nat), (∀ c ∈ cs, 48 ≤ c ∧ c ≤ 57) → cs.foldl (fun acc c => acc * 10 + (c - 48)) a < (a + 1) * 10 ^ cs.length
  | [], a, _ => by
    show a < (a + 1) * 1
    omega
  | c :: cs, a, h => by
    have hc := h c List.mem_cons_self
    have e := digits_lt cs (a * 10 + (c - 48)) fun d hd => h d (List.mem_cons_of_mem _ hd)
    rw [List.foldl_cons, List.length_cons, Nat.pow_succ]
    refine Nat.lt_of_lt_of_le e ?_
    rw [Nat.mul_comm (10 ^ cs.length) 10, ← Nat.mul_assoc]
    exact Nat.mul_le_mul_right _ (by omega)
theorem figV_lt {z : Str} (h : isFg z = true) : 0 ≤ figV z ∧ figV z < 10 ^ 12 := by
  obtain ⟨h1, h2, h3⟩ := madeOf_pos (Bool.and_eq_true_iff.mp h).1
  have e := digits_lt (sgs z) 0 fun c hc => digs_mem.mp (h3 c hc)
  have e2 : (0 + 1) * 10 ^ (sgs z).length ≤ 10 ^ 12 := by
    rw [Nat.zero_add, Nat.one_mul, ← sgs_len]
    exact Nat.pow_le_pow_right (by decide) h2
  have e3 : NumText.digitsVal (sgs z) < 10 ^ 12 := Nat.lt_of_lt_of_le e e2
  refine ⟨Int.natCast_nonneg _, ?_⟩
  show ((NumText.digitsVal (sgs z) : Nat) : Int) < 10 ^ 12
  omega
theorem nm_sml {z : Str} (h : isNm z = true) : sml z := fun c hc => by
  have := ltrs_mem.mp ((madeOf_pos (Bool.and_eq_true_iff.mp h).1).2.2 c hc)
  omega
/-- an event that may be shown -/
def showE : Ev → Prop
  | none => True
  | some (n, m) => isNm n = true ∧ 0 ≤ m ∧ m < 10 ^ 12
theorem evS_show {y : Str} {e : Ev} (h : evS y = some e) : showE e := by
  unfold evS at h
  split at h
  · cases h; trivial
  · split at h
    · rename_i h2
      cases h
      simp only [Bool.and_eq_true] at h2
      exact ⟨h2.1, figV_lt h2.2.2⟩
    · cases h
theorem fine_str {s : Str} (h : sml s) : fine (.str s) = true := sml_b h
theorem fine_ev {e : Ev} (h : showE e) : fine (evD e) = true := by
  cases e with
  | none => exact (by decide +kernel : fine (.tup [.str "close"]) = true)
  | some q =>
    obtain ⟨n, m⟩ := q
    obtain ⟨h1, h2, h3⟩ := h
    show (fine (.str "open") && (fine (.str n) && (fine (.int m) && true))) = true
    rw [fine_str (nm_sml h1), fine_nat h2 h3, show fine (.str "open") = true by decide +kernel]; rfl
theorem ten12 : (10 : Int) ^ 12 = 1000000000000 := by decide
theorem ev_fine {ev : Ev} (h : showE ev) : EvOk (evD ev) ∧ smMark (evD ev) := by
  have hf := fine_ev h
  cases ev with
  | none =>
    refine ⟨⟨⟨(show "tuple" ≠ "" by decide), fun z q => nomatch q⟩, hf, by decide +kernel, fun ds e => ?_⟩, fun n m q => ?_⟩
    · have e : Dat.tup [.str "close"] = .tup ds := e
      injection e with e
      subst e
      refine ⟨by decide, fun d hd => ?_⟩
      rw [List.mem_singleton.mp hd]
      exact ⟨okD_str (by decide +kernel), by decide +kernel, by decide +kernel⟩
    · have q : Dat.tup [.str "close"] = .tup [.str "open", .str n, .int m] := q
      injection q with q
      injection q with q1 q2
      cases q2
  | some q =>
    obtain ⟨n, m⟩ := q
    obtain ⟨h1, h2, h3⟩ := h
    refine ⟨⟨⟨(show "tuple" ≠ "" by decide), fun z q => nomatch q⟩, hf, ?_, fun ds e => ?_⟩, fun n' m' q => ?_⟩
    · show dep (.tup [.str "open", .str n, .int m]) ≤ 8
      rw [dep_tup]
      show max 0 (max 0 (max 0 0)) + 1 ≤ 8
      decide
    · have e : Dat.tup [.str "open", .str n, .int m] = .tup ds := e
      injection e with e
      subst e
      refine ⟨by simp, fun d hd => ?_⟩
      simp only [List.mem_cons, List.not_mem_nil, or_false] at hd
      rcases hd with rfl | rfl | rfl
      · exact ⟨okD_str (by decide +kernel), by decide +kernel, by decide +kernel⟩
      · exact ⟨okD_str (Nat.le_trans (nm_len h1) (by decide)), fine_str (nm_sml h1), Nat.zero_le _⟩
      · exact ⟨⟨(show "int" ≠ "" by decide), fun z q => nomatch q⟩, fine_nat h2 h3, Nat.zero_le _⟩
    · have q : Dat.tup [.str "open", .str n, .int m] = .tup [.str "open", .str n', .int m'] := q
      injection q with q
      injection q with _ q
      injection q with q1 q
      injection q with q q3
      injection q with q
      rw [← q, ← ten12]; exact h3
theorem non_fine : EvOk .non ∧ smMark .non := ⟨⟨⟨(show "NoneType" ≠ "" by decide), fun z q => nomatch q⟩, rfl, Nat.zero_le _, fun ds q => nomatch q⟩, fun n m q => nomatch (show Dat.non = .tup [.str "open", .str n, .int m] from q)⟩
def evsT (z : Str) : List Dat := (wordsS z).map fun y => evR (evS y)
theorem evs_fine (z : Str) : ∀ e ∈ evsT z, EvOk e ∧ smMark e := fun e he => by
  obtain ⟨y, _, rfl⟩ := List.mem_map.mp he
  cases hy : evS y with
  | none => exact non_fine
  | some ev => exact ev_fine (evS_show hy)
def ReadS (K : PySem.W.Frag) : SpecT := fun ss O R => ∃ (CT CR CN : Addr) (z : Str), ss = [.dat (.cls CT), .dat (.str z)] ∧ clsAt K "Tree" CT ∧ clsAt K "Row" CR ∧ clsAt K "NoTree" CN ∧ z.length ≤ 100000 ∧ (wordsS z).length ≤ 500 ∧
  (∀ i, fromE (evsT z) = .inl i → R (.exc (.own CN [("at", .int (i : Int))])) O) ∧ ∀ t, fromE (evsT z) = .inr t → R (.ret (.dat (ndD CT t))) O
def TStrS (K : PySem.W.Frag) : SpecT := fun ss O R => ∃ (CT : Addr) (t : Nd), ss = [.dat (ndD CT t)] ∧ clsAt K "Tree" CT ∧ R (.ret (.dat (.str (txN t)))) O
section
variable {P : Program} {w : World} {K : PySem.W.Frag} {mg : Str → Option Value} {base : Heap}
theorem cm_from (T : TopOf K mg) (Z : Facts K) {C : Addr} (hC : clsAt K "Tree" C) : CMCal P w K mg base false 10 C "from_events" (FromS K) [] := by
  obtain ⟨C', I_Tree, tI, tRd, tFe, tL, tIt, tE, tS, tEv, na1, na2, na3, na4, na5⟩ := Z.c_Tree
  obtain rfl := at_inj hC I_Tree.at_
  exact cmcal_of I_Tree tFe (by walk_at "b2") fun f fd F => fn_Tree_from_events T Z F
theorem fn_Tree_read (T : TopOf K mg) (Z : Facts K) {f : Addr} {fd : FuncData} (F : L2.Fun K "read" "Tree.read" s_Tree_read f fd) : Fn P w K mg base false (12) f fd ["cls", "text"] (ReadS K) := by
  have sc := sc_Tree_read
  refine fn_mk F sc_Tree_read (fun ss O R h => by first | (obtain ⟨_, rfl, _⟩ := h; rfl) | (obtain ⟨_, _, rfl, _⟩ := h; rfl) | (obtain ⟨_, _, _, rfl, _⟩ := h; rfl) | (obtain ⟨_, _, _, _, rfl, _⟩ := h; rfl) | (obtain ⟨_, _, _, _, _, rfl, _⟩ := h; rfl) | (obtain ⟨_, _, _, _, _, _, rfl, _⟩ := h; rfl) | (obtain ⟨_, _, _, _, _, _, _, rfl, _⟩ := h; rfl)) fun cdv A outer s H E ss O R hr hpo h => ?_
  obtain ⟨CT, CR, CN, z, rfl, hCT, hCR, hCN, hz, hw, hx, hv⟩ := h
  -- 0:cls 1:text 2:word
  refine sw_one ?_
  refine s1_ret ?_
  refine ew_cmeth (cm_from T Z hCT) hr ?_
  refine ew_var 0 ?_
  refine ⟨rfl, ?_⟩
  refine aw_cons ?_
  refine ew_map1 (wordsS z) .str (fun y => evR (evS y)) [("word", 2)] sc.nd (.name (i := 2) (by decide) fun Y ⟨_, _, _, _, _, e⟩ => by subst e; exact pg_name (i := 2) sc.nd rfl (.inl rfl) (.inr rfl)) (blkOk_by (N := N_Tree_read) (sc := defScope s_Tree_read) (by decide +kernel)) (iw_list ?_) (Nat.le_trans hw (by decide)) (fun y hy => ⟨_, rfl, fun O' Y hY => ?_⟩) ?_
  · refine ew_call (c_split_words T Z) hr ?_
    refine aw_cons ?_
    refine ew_var 1 ?_
    refine aw_nil ?_
    exact ⟨z, rfl, hz, _, rfl, rfl, rfl⟩
  · obtain ⟨_, _, _, _, _, rfl⟩ := hY
    refine ew_call (c_event_of T Z) hr ?_
    refine aw_cons ?_
    refine ew_var 2 ?_
    refine aw_nil ?_
    exact ⟨y, rfl, Nat.le_trans (wordsS_len hy) hz, rfl, rfl⟩
  refine aw_nil ?_
  refine ⟨CT, CR, CN, evsT z, rfl, hCT, hCR, hCN, by unfold evsT; rw [List.length_map]; exact hw, evs_fine z, hx, ?_⟩
  exact hv
theorem fn_Tree_str (T : TopOf K mg) (Z : Facts K) {f : Addr} {fd : FuncData} (F : L2.Fun K "__str__" "Tree.__str__" s_Tree_str f fd) : Fn P w K mg base false (1) f fd ["self"] (TStrS K) := by
  have sc := sc_Tree_str
  refine fn_mk F sc_Tree_str (fun ss O R h => by first | (obtain ⟨_, rfl, _⟩ := h; rfl) | (obtain ⟨_, _, rfl, _⟩ := h; rfl) | (obtain ⟨_, _, _, rfl, _⟩ := h; rfl) | (obtain ⟨_, _, _, _, rfl, _⟩ := h; rfl) | (obtain ⟨_, _, _, _, _, rfl, _⟩ := h; rfl) | (obtain ⟨_, _, _, _, _, _, rfl, _⟩ := h; rfl) | (obtain ⟨_, _, _, _, _, _, _, rfl, _⟩ := h; rfl)) fun cdv A outer s H E ss O R hr hpo h => ?_
  obtain ⟨CT, t, rfl, hCT, h⟩ := h
  obtain ⟨C', I_Tree, tI, tRd, tFe, tL, tIt, tE, tS, tEv, na1, na2, na3, na4, na5⟩ := Z.c_Tree
  obtain rfl := at_inj hCT I_Tree.at_
  -- 0:self
  refine sw_one ?_
  refine s1_ret ?_
  refine ew_callTy (T.no Z.n_str) bt_str ?_
  refine aw_cons ?_
  refine ew_text I_Tree.ins.cl na5 ?_
  refine ew_var 0 ?_
  refine ⟨t, rfl, ?_⟩
  refine aw_nil ?_
  walk_at "cb str"
  exact h
end
mutual
def lwD : Nd → Dat
  | .mk n m cs => .tup [.str n, .int m, .tup (lwDs cs)]
def lwDs : List Nd → List Dat
  | [] => []
  | c :: cs => lwD c :: lwDs cs
end
theorem lwDs_map : ∀ cs : List Nd, lwDs cs = cs.map lwD
  | [] => by rw [lwDs]; rfl
  | c :: cs => by rw [lwDs, lwDs_map cs]; rfl
mutual
def htN : Nd → Nat
  | .mk _ _ cs => 1 + htNs cs
def htNs : List Nd → Nat
  | [] => 0
  | c :: cs => max (htN c) (htNs cs)
end
theorem htN_pos (t : Nd) : 1 ≤ htN t := by cases t; rw [htN]; omega
theorem htNs_mem : ∀ {cs : List Nd} {c : Nd}, c ∈ cs → htN c ≤ htNs cs
  | d :: cs, c, h => by
    rw [htNs]
    rcases List.mem_cons.mp h with rfl | h
    · exact Nat.le_max_left _ _
    · exact Nat.le_trans (htNs_mem h) (Nat.le_max_right _ _)
theorem nd_eq (t : Nd) : ∃ nm mk cs, t = Nd.mk nm mk cs := by cases t; exact ⟨_, _, _, rfl⟩
theorem lw_mk (nm : Str) (mk : Int) (cs : List Nd) : lwD (.mk nm mk cs) = .tup [.str nm, .int mk, .tup (lwDs cs)] := by rw [lwD]
mutual
/-- the events of a tree -/
def evsN : Nd → List Ev
  | .mk n m cs => some (n, m) :: (evsNs cs ++ [none])
def evsNs : List Nd → List Ev
  | [] => []
  | c :: cs => evsN c ++ evsNs cs
end
mutual
theorem evsN_len : ∀ t : Nd, (evsN t).length = 2 * szN t
  | .mk n m cs => by rw [evsN, szN, List.length_cons, List.length_append, evsNs_len cs, List.length_singleton]; omega
theorem evsNs_len : ∀ cs : List Nd, (evsNs cs).length = 2 * szNs cs
  | [] => by rw [evsNs, szNs]; rfl
  | c :: cs => by rw [evsNs, szNs, List.length_append, evsN_len c, evsNs_len cs]; omega
end
theorem evsNs_app (c : Nd) : ∀ cs : List Nd, evsNs (cs ++ [c]) = evsNs cs ++ evsN c
  | [] => by rw [List.nil_append, evsNs]; simp [evsNs]
  | d :: cs => by rw [List.cons_append, evsNs, evsNs_app c cs, evsNs, List.append_assoc]
theorem szNs_takeS : ∀ {cs : List Nd} {i : Nat} {c : Nd}, cs[i]? = some c → szNs (cs.take i) + szN c ≤ szNs cs
  | [], _, _, h => by simp at h
  | d :: cs, 0, c, h => by
    simp only [List.getElem?_cons_zero, Option.some.injEq] at h
    subst h
    rw [List.take_zero, szNs, szNs]; omega
  | d :: cs, i + 1, c, h => by
    rw [List.getElem?_cons_succ] at h
    have := szNs_takeS h
    rw [List.take_succ_cons, szNs, szNs]; omega
def LEvS (n : Nat) : SpecT := fun ss O R => ∃ t : Nd, ss = [.dat (lwD t)] ∧ htN t ≤ n ∧ szN t ≤ 1000 ∧ R (.ret (.dat (.lst ((evsN t).map evD)))) O
theorem zero_law_events {ss : List Slot} {O : Own} {R : Out → Own → Prop} (h : LEvS 0 ss O R) : False := by
  obtain ⟨t, _, h0, _⟩ := h
  have := htN_pos t
  omega
def TextS : SpecT := fun ss O R => ∃ es : List Ev, ss = [.dat (.lst (es.map evD))] ∧ es.length ≤ 1000 ∧ (∀ e ∈ es, smallE e) ∧ R (.ret (.dat (.str (textE es)))) O
/-- an event that the program takes -/
def goodE : Ev → Prop
  | none => True
  | some (n, m) => isNm n = true ∧ 0 ≤ m ∧ m < 10 ^ 9
theorem goodE.small {e : Ev} (h : goodE e) : smallE e := by
  cases e with
  | none => trivial
  | some q =>
    obtain ⟨n, m⟩ := q
    obtain ⟨h1, h2, h3⟩ := h
    obtain ⟨_, h4, _⟩ := madeOf_pos (Bool.and_eq_true_iff.mp h1).1
    exact ⟨by omega, h2, Int.lt_trans h3 (by decide)⟩
section
variable {P : Program} {w : World} {K : PySem.W.Frag} {mg : Str → Option Value} {base : Heap}
theorem fn_law_text (T : TopOf K mg) (Z : Facts K) {f : Addr} {fd : FuncData} (F : L2.Fun K "_law_text" "_law_text" s_law_text f fd) : Fn P w K mg base false 1 f fd ["_law_events_here"] TextS := by
  have sc := sc_law_text
  refine fn_mk F sc_law_text (fun ss O R h => by obtain ⟨_, rfl, _⟩ := h; rfl) fun cdv A outer s H E ss O R hr hpo h => ?_
  obtain ⟨es, rfl, hl, hs, h⟩ := h
  -- 0:_law_events 1:_law_event_here
  refine sw_one ?_
  refine s1_ret ?_
  refine ew_join ?_
  refine ew_str ?_
  refine ⟨_, rfl, ?_⟩
  refine ew_map1 es evD (fun e => .str (wordE e)) [("_law_event_here", 1)] sc.nd (.name (i := 1) (by decide) fun Y ⟨_, _, _, _, _, e⟩ => by subst e; exact pg_name (i := 1) sc.nd rfl (.inl rfl) (.inr rfl)) (blkOk_by (N := N_law_text) (sc := defScope s_law_text) (by decide +kernel)) (iw_list (ew_var 0 ⟨_, rfl, rfl, rfl⟩)) (Nat.le_trans hl (by decide)) (fun e he => ⟨_, rfl, fun O' Y hY => ?_⟩) ?_
  · obtain ⟨_, _, _, _, _, rfl⟩ := hY
    have hse := hs e he
    refine ew_if ?_
    refine tw_cmp ?_
    refine ew_callB (T.no Z.n_len) bt_len ?_
    refine aw_cons ?_
    refine ew_var 1 ?_
    refine aw_nil ?_
    cases e with
    | none =>
      refine cb_lenT ?_
      refine ew_int ?_
      walk_at "cmp Gt"
      refine ⟨_, rfl, fun ht => ?_, fun ht => ?_⟩
      · exact absurd ht (by decide +kernel)
      · refine ew_str ?_
        exact ⟨rfl, rfl⟩
    | some q =>
      obtain ⟨n, m⟩ := q
      obtain ⟨h1, h2, h3⟩ := hse
      have h4 := num_len h2 h3
      refine cb_lenT ?_
      refine ew_int ?_
      walk_at "cmp Gt"
      refine ⟨_, rfl, fun ht => ?_, fun ht => ?_⟩
      · refine ew_bin ?_
        refine ew_bin ?_
        refine ew_ix ?_
        refine ew_var 1 ?_
        refine ew_int ?_
        refine ix_tpl (atI_nat (j := 1) rfl) ?_
        refine ew_str ?_
        refine ob_cat (by rw [colon_len]; exact Nat.le_trans (Nat.add_le_add_right h1 1) (by decide)) ?_
        refine ew_callTy (T.no Z.n_str) bt_str ?_
        refine aw_cons ?_
        refine ew_ix ?_
        refine ew_var 1 ?_
        refine ew_int ?_
        refine ix_tpl (atI_nat (j := 2) rfl) ?_
        refine aw_nil ?_
        refine cb_strI (num_log h2 h3) ?_
        refine ob_cat (by rw [len_app, colon_len]; exact Nat.le_trans (Nat.add_le_add (Nat.add_le_add_right h1 1) h4) (by decide)) ?_
        exact ⟨rfl, rfl⟩
      · have ht : decide ((1 : Int) < 3) = false := ht
        exact absurd ht (by decide)
  · have e : (es.map fun e => Dat.str (wordE e)) = (es.map wordE).map .str := by rw [List.map_map]; rfl
    rw [e]
    refine m1_join ?_ h
    have hb := sum_le (g := fun e : Ev => (wordE e).length) (b := 201) fun e he => wordE_len (hs e he)
    rw [List.map_map, List.length_map, show (Str.ofString " ").length = 1 by decide +kernel]
    show (es.map fun e => (wordE e).length).sum + es.length * 1 ≤ _
    omega
theorem c_law_text (T : TopOf K mg) (Z : Facts K) : Cal P w K mg base false 1 "_law_text" TextS [] := cal_of T Z.d_law_text (by walk_at "b1") fun f fd F => fn_law_text T Z F
theorem fn_law_events (T : TopOf K mg) (Z : Facts K) : ∀ (n : Nat) {f : Addr} {fd : FuncData} (F : L2.Fun K "_law_events" "_law_events" s_law_events f fd), Fn P w K mg base false (n + 2) f fd ["_law_tree_here"] (LEvS n)
  | 0, f, fd, F => by
    refine fn_mk F sc_law_events (fun ss O R h => by first | (obtain ⟨_, rfl, _⟩ := h; rfl) | (obtain ⟨_, _, rfl, _⟩ := h; rfl) | (obtain ⟨_, _, _, rfl, _⟩ := h; rfl) | (obtain ⟨_, _, _, _, rfl, _⟩ := h; rfl)) fun cdv A outer s H E ss O R hr hpo h => ?_
    exact (zero_law_events h).elim
  | n + 1, f, fd, F => by
    have cr : Cal P w K mg base false (n + 2) "_law_events" (LEvS n) [] := cal_of T Z.d_law_events (by walk_at "b1") fun f fd F => fn_law_events T Z n F
    have sc := sc_law_events
    refine fn_mk F sc_law_events (fun ss O R h => by first | (obtain ⟨_, rfl, _⟩ := h; rfl) | (obtain ⟨_, _, rfl, _⟩ := h; rfl) | (obtain ⟨_, _, _, rfl, _⟩ := h; rfl) | (obtain ⟨_, _, _, _, rfl, _⟩ := h; rfl)) fun cdv A outer s H E ss O R hr hpo h => ?_
    obtain ⟨t, rfl, hn, hz, h⟩ := h
    obtain ⟨nm, mk, cs, rfl⟩ := nd_eq t
    rw [htN] at hn
    rw [szN] at hz
    rw [lw_mk]
    rw [evsN] at h
    -- 0:_law_tree_here 1:_law_name 2:_law_mark 3:_law_children 4:_law_found 5:_law_child
    refine sw_cons ?_
    refine s1_asg ?_
    refine ew_var 0 ?_
    refine gw_tup ?_
    refine gsw_cons ?_
    refine gw_name 1 ?_ sc.nd
    refine gsw_cons ?_
    refine gw_name 2 ?_ sc.nd
    refine gsw_cons ?_
    refine gw_name 3 ?_ sc.nd
    refine gsw_nil ?_
    refine sw_cons ?_
    refine s1_set 4 ?_ sc.nd
    refine ew_lst ?_
    refine aw_cons ?_
    refine ew_tup ?_
    refine aw_cons ?_
    refine ew_str ?_
    refine aw_cons ?_
    refine ew_var 1 ?_
    refine aw_cons ?_
    refine ew_var 2 ?_
    refine aw_nil ?_
    refine ⟨[_, _, _], rfl, by walk_at "few", ?_⟩
    refine aw_nil ?_
    refine ⟨Nat.le_of_ble_eq_true rfl, fun m hm => ?_⟩
    refine sw_cons ?_
    refine s1_for hpo ?_
    refine iw_tup ?_
    refine ew_var 3 ?_
    refine ⟨_, rfl, ?_⟩
    refine ⟨fun i ρ' O' => ∃ s5 : Slot, ρ' = [.dat (.tup [.str nm, .int mk, .tup (lwDs cs)]), .dat (.str nm), .dat (.int mk), .dat (.tup (lwDs cs)), .own m, s5] ∧ O' = up O m (.lst (((some (nm, mk) :: evsNs (cs.take i)).map evD).map .dat)), ?_, ?_, ?_⟩
    · refine ⟨_, rfl, ?_⟩
      rw [List.take_zero, evsNs]
      rfl
    · intro i d ρ2 O2 hj hd
      obtain ⟨s5, rfl, rfl⟩ := hj
      rw [lwDs_map, List.getElem?_map] at hd
      obtain ⟨c, hc, rfl⟩ := Option.map_eq_some_iff.mp hd
      have hta : cs.take (i + 1) = cs.take i ++ [c] := by rw [List.take_add_one, hc]; rfl
      have h1 := szNs_takeS hc
      have h2 := htNs_mem (List.mem_of_getElem? hc)
      refine gw_name 5 ?_ sc.nd
      refine sw_one ?_
      refine s1_expr ?_
      refine ew_extend ?_
      refine ew_var 4 ?_
      refine ⟨?_, ?_⟩
      · exact ⟨rfl, _, up_at⟩
      refine ew_call cr hr ?_ (hj := by omega)
      refine aw_cons ?_
      refine ew_var 5 ?_
      refine aw_nil ?_
      refine ⟨c, rfl, by omega, by omega, ?_⟩
      
      refine mb_extendL up_at (by rw [List.length_map, List.length_map, List.length_cons, evsNs_len, List.length_map, evsN_len, sizeLine_eq]; omega) ?_
      refine ⟨_, rfl, ?_⟩
      rw [up_up, hta, evsNs_app, ← List.map_append, ← List.map_append]
      rfl
    · intro ρ2 O2 hj
      obtain ⟨s5, rfl, rfl⟩ := hj
      rw [lwDs_map, List.length_map, List.take_length]
      refine sw_frz 4 (ds := (some (nm, mk) :: evsNs cs).map evD) up_at ?_
      rw [dn_up hm]
      refine sw_one ?_
      refine s1_ret ?_
      refine ew_bin ?_
      refine ew_var 4 ?_
      refine ew_lstD ?_
      refine aw_cons ?_
      refine ew_tup ?_
      refine aw_cons ?_
      refine ew_str ?_
      refine aw_nil ?_
      refine ⟨[_], rfl, by walk_at "few", ?_⟩
      refine aw_nil ?_
      refine ⟨[_], rfl, by walk_at "few", ?_⟩
      
      refine ob_catL (by rw [List.length_map, List.length_cons, evsNs_len, sizeLine_eq]; show _ + 1 ≤ _; omega) ?_
      rw [show ([Dat.tup [.str "close"]] : List Dat) = [(none : Ev)].map evD from rfl, ← List.map_append]
      exact h
theorem c_law_events (T : TopOf K mg) (Z : Facts K) (n : Nat) : Cal P w K mg base false (n + 2) "_law_events" (LEvS n) [] := cal_of T Z.d_law_events (by walk_at "b1") fun f fd F => fn_law_events T Z n F
end
mutual
def nmE : Nd → Prop
  | .mk n m cs => isNm n = true ∧ 0 ≤ m ∧ nmEs cs
def nmEs : List Nd → Prop
  | [] => True
  | c :: cs => nmE c ∧ nmEs cs
end
def pushT : List Nd × List Op → Nd → List Nd × List Op
  | (done, []), t => (done ++ [t], [])
  | (done, p :: r), t => (done, ⟨p.n, p.m, p.cs ++ [t]⟩ :: r)
theorem runsR_app (s : List Nd × List Op) (as bs : List Dat) : runsR s (as ++ bs) = runsR (runsR s as) bs := by
  unfold runsR
  rw [List.foldl_append]
theorem goodR_app : ∀ {as bs : List Dat} {s : List Nd × List Op}, goodR s as → goodR (runsR s as) bs → goodR s (as ++ bs)
  | [], _, _, _, h => h
  | a :: as, bs, s, ⟨h1, h2⟩, h => ⟨h1, goodR_app h2 h⟩
theorem can_open {st : List Op} {n : Str} {m : Int} (h1 : isNm n = true) (h2 : 0 ≤ m) : canR st (evD (some (n, m))) = true := by
  have e1 : isEvD (evD (some (n, m))) = true := by
    show (if isOpenD [.str "open", .str n, .int m] then isNmD (.str n) && isMkD (.int m) else eqD (.tup [.str "open", .str n, .int m]) (.tup [.str "close"])) = true
    rw [if_pos (show isOpenD [.str "open", .str n, .int m] = true from by
      show eqD (.str "open") (.str "open") = true
      decide +kernel)]
    show (isNm n && decide (0 ≤ m)) = true
    rw [h1, decide_eq_true h2]; rfl
  have e2 : isOpB (evD (some (n, m))) = true := by
    show eqD (.str "open") (.str "open") = true
    decide +kernel
  unfold canR
  rw [e1, e2]; rfl
theorem can_close {p : Op} {r : List Op} : canR (p :: r) (evD none) = true := by
  have e1 : isEvD (evD none) = true := by decide +kernel
  unfold canR
  rw [e1]
  show (true && (isOpB (evD none) || true)) = true
  rw [Bool.or_true]; rfl
mutual
theorem run_tree : ∀ (t : Nd), nmE t → ∀ st : List Op, goodR ([], st) ((evsN t).map evD) ∧ runsR ([], st) ((evsN t).map evD) = pushT ([], st) t
  | .mk n m cs, h, st => by
    rw [nmE] at h
    obtain ⟨h1, h2, h3⟩ := h
    obtain ⟨k1, k2⟩ := run_trees cs h3 ⟨n, m, []⟩ st
    rw [evsN, List.map_cons, List.map_append]
    have e0 : stepR ([], st) (evOf (evD (some (n, m)))) = ([], (⟨n, m, []⟩ : Op) :: st) := by rw [evOf_D]; rfl
    have e1 : runsR ([], (⟨n, m, []⟩ : Op) :: st) ((evsNs cs).map evD) = ([], (⟨n, m, cs⟩ : Op) :: st) := by rw [k2]; rfl
    refine ⟨⟨⟨rfl, can_open h1 h2⟩, ?_⟩, ?_⟩
    · rw [e0]
      refine goodR_app k1 ?_
      rw [e1]
      exact ⟨⟨rfl, can_close⟩, trivial⟩
    · show runsR (stepR ([], st) (evOf (evD (some (n, m))))) ((evsNs cs).map evD ++ [none].map evD) = _
      rw [e0, runsR_app, e1]
      show stepR ([], (⟨n, m, cs⟩ : Op) :: st) (evOf (evD none)) = _
      rw [evOf_D]
      cases st with
      | nil => rfl
      | cons p r => rfl
theorem run_trees : ∀ (cs : List Nd), nmEs cs → ∀ (p : Op) (r : List Op), goodR ([], p :: r) ((evsNs cs).map evD) ∧ runsR ([], p :: r) ((evsNs cs).map evD) = ([], ⟨p.n, p.m, p.cs ++ cs⟩ :: r)
  | [], _, p, r => by
    rw [evsNs]
    refine ⟨trivial, ?_⟩
    rw [List.append_nil]; rfl
  | c :: cs, h, p, r => by
    rw [nmEs] at h
    obtain ⟨k1, k2⟩ := run_tree c h.1 (p :: r)
    obtain ⟨k3, k4⟩ := run_trees cs h.2 ⟨p.n, p.m, p.cs ++ [c]⟩ r
    have e1 : runsR ([], p :: r) ((evsN c).map evD) = ([], (⟨p.n, p.m, p.cs ++ [c]⟩ : Op) :: r) := k2
    rw [evsNs, List.map_append]
    refine ⟨goodR_app k1 (by rw [e1]; exact k3), ?_⟩
    rw [runsR_app, e1, k4]
    show ([], (⟨p.n, p.m, (p.cs ++ [c]) ++ cs⟩ : Op) :: r) = _
    rw [List.append_assoc]; rfl
end
theorem from_evs {t : Nd} (h : nmE t) : fromE ((evsN t).map evD) = .inr t := by
  obtain ⟨h1, h2⟩ := run_tree t h []
  rw [from_end h1, h2]
  rfl
theorem app_assoc (a b c : Str) : a ++ b ++ c = a ++ (b ++ c) := sgs_ext (by simp [sgs_app])
theorem join_cons {y a : Str} {ks : List Str} (h : ks ≠ []) : Txt.join y (a :: ks) = a ++ y ++ Txt.join y ks := by
  rw [TL.join_eq, TL.join_eq]
  cases ks with
  | nil => exact absurd rfl h
  | cons b r => rfl
theorem txt_one (y a : Str) : Txt.join y [a] = a := by rw [TL.join_eq]; rfl
theorem join_app {y : Str} : ∀ {ks ls : List Str}, ks ≠ [] → ls ≠ [] → Txt.join y (ks ++ ls) = Txt.join y ks ++ y ++ Txt.join y ls
  | [a], ls, _, h => by
    rw [List.singleton_append, join_cons h, txt_one]
  | a :: b :: r, ls, _, h => by
    show Txt.join y (a :: ((b :: r) ++ ls)) = _
    rw [join_cons (by simp), join_app (ks := b :: r) (by simp) h, join_cons (ks := b :: r) (by simp), app_assoc, app_assoc, app_assoc, app_assoc, app_assoc]
mutual
/-- the text of a tree is the text of its events -/
theorem tx_evs : ∀ t : Nd, txN t = textE (evsN t)
  | .mk n m cs => by
    have e := txs_evs cs
    rw [txN, evsN]
    unfold textE
    rw [List.map_cons, List.map_append]
    show Txt.join " " ((n ++ ":" ++ Str.ofString (toString m)) :: (txNs cs ++ [("/" : Str)])) = Txt.join " " ((n ++ ":" ++ Str.ofString (toString m)) :: ((evsNs cs).map wordE ++ [("/" : Str)]))
    rw [join_cons (by simp), join_cons (by simp)]
    congr 1
    exact e _ (by simp)
theorem txs_evs : ∀ cs : List Nd, ∀ ls : List Str, ls ≠ [] → Txt.join " " (txNs cs ++ ls) = Txt.join " " ((evsNs cs).map wordE ++ ls)
  | [], ls, _ => by rw [txNs, evsNs]; rfl
  | c :: cs, ls, h => by
    have e1 := tx_evs c
    have e2 := txs_evs cs ls h
    have hne : (evsN c).map wordE ≠ [] := by
      obtain ⟨nm, mk, ds, rfl⟩ := nd_eq c
      rw [evsN]; simp
    have hn2 : txNs cs ++ ls ≠ [] := by simp [h]
    have hn3 : (evsNs cs).map wordE ++ ls ≠ [] := by simp [h]
    rw [txNs, evsNs, List.cons_append, join_cons hn2, List.map_append, List.append_assoc, join_app hne hn3, e2, e1]
    rfl
end
/-- the events of what stands in a row -/
def opsE : List Op → List Ev
  | [] => []
  | q :: r => opsE r ++ some (q.n, q.m) :: evsNs q.cs
def stE (s : List Nd × List Op) : List Ev := evsNs s.1 ++ opsE s.2
theorem evsNs_two (as bs : List Nd) : evsNs (as ++ bs) = evsNs as ++ evsNs bs := by
  induction as with
  | nil => rw [List.nil_append, evsNs, List.nil_append]
  | cons a as ih => rw [List.cons_append, evsNs, evsNs, ih, List.append_assoc]
theorem evsNs_one (t : Nd) : evsNs [t] = evsN t := by rw [evsNs, evsNs, List.append_nil]
theorem step_evs {s : List Nd × List Op} {ev : Ev} (h : ev = none → s.2 ≠ []) (h0 : s.1 = []) : stE (stepR s ev) = stE s ++ [ev] := by
  obtain ⟨done, st⟩ := s
  have h0 : done = [] := h0
  subst h0
  cases ev with
  | some q =>
    obtain ⟨n, m⟩ := q
    show evsNs [] ++ (opsE st ++ some (n, m) :: evsNs []) = (evsNs [] ++ opsE st) ++ [some (n, m)]
    rw [evsNs]
    simp
  | none =>
    cases st with
    | nil => exact absurd rfl (h rfl)
    | cons q r =>
      cases r with
      | nil =>
        show evsNs ([] ++ [Nd.mk q.n q.m q.cs]) ++ opsE [] = (evsNs [] ++ opsE [q]) ++ [none]
        rw [List.nil_append, evsNs_one, evsN, opsE, opsE, opsE, evsNs]
        simp
      | cons p r =>
        show evsNs [] ++ (opsE r ++ some (p.n, p.m) :: evsNs (p.cs ++ [Nd.mk q.n q.m q.cs])) = (evsNs [] ++ ((opsE r ++ some (p.n, p.m) :: evsNs p.cs) ++ some (q.n, q.m) :: evsNs q.cs)) ++ [none]
        rw [evsNs_two, evsNs_one, evsN, evsNs]
        simp
/-- how deep a row is behind some values -/
def dueR : Nat → Nat → List Dat → Option Nat
  | i, deep, [] => if deep = 0 ∧ 0 < i then none else some i
  | i, deep, d :: ds => if isEvD d = false ∨ (0 < i ∧ deep = 0) ∨ (evOf d = none ∧ deep = 0) then some i else dueR (i + 1) (if (evOf d).isSome then deep + 1 else deep - 1) ds
theorem step_deep {st : List Op} {ev : Ev} (h : ev = none → st ≠ []) : (stepR ([], st) ev).2.length = (if ev.isSome then st.length + 1 else st.length - 1) ∧ ((stepR ([], st) ev).1.isEmpty = false ↔ (ev = none ∧ st.length = 1)) := by
  cases ev with
  | some q => exact ⟨rfl, ⟨(fun q => nomatch q), fun q => nomatch q.1⟩⟩
  | none =>
    cases st with
    | nil => exact absurd rfl (h rfl)
    | cons q r =>
      cases r with
      | nil => exact ⟨rfl, ⟨fun _ => ⟨rfl, rfl⟩, fun _ => rfl⟩⟩
      | cons p r => exact ⟨rfl, ⟨(fun q => nomatch q), fun q => absurd q.2 (by simp)⟩⟩
structure RInv (i : Nat) (s : List Nd × List Op) : Prop where
  one : s.1 = [] ∨ ∃ t, s.1 = [t] ∧ s.2 = []
  zero : s.1 = [] → s.2 = [] → i = 0
  pos : s.1 ≠ [] → 0 < i
theorem rinv0 : RInv 0 ([], []) := ⟨.inl rfl, fun _ _ => rfl, fun h => absurd rfl h⟩
theorem can_of {st : List Op} {d : Dat} (h : canR st d = true) (ok : EvOk d) : d = evD (evOf d) ∧ (evOf d = none → st ≠ []) := by
  have hie : isEvD d = true := by
    unfold canR at h
    exact (Bool.and_eq_true_iff.mp h).1
  rcases isEv_of hie ok with ⟨n, m, rfl, _, _⟩ | rfl
  · exact ⟨by rw [evOf_D], fun q => by rw [evOf_D] at q; cases q⟩
  · refine ⟨by rw [evOf_D], fun _ q => ?_⟩
    subst q
    have : canR [] (evD none) = false := by decide +kernel
    rw [this] at h; cases h
theorem can_no {st : List Op} {d : Dat} (h : canR st d = false) (ok : EvOk d) : isEvD d = false ∨ (evOf d = none ∧ st = []) := by
  cases hie : isEvD d with
  | false => exact .inl rfl
  | true =>
    right
    unfold canR at h
    rw [hie, Bool.true_and] at h
    obtain ⟨h1, h2⟩ := Bool.or_eq_false_iff.mp h
    rcases isEv_of hie ok with ⟨n, m, rfl, _, _⟩ | rfl
    · have : isOpB (evD (some (n, m))) = true := by
        show eqD (.str "open") (.str "open") = true
        decide +kernel
      rw [this] at h1; cases h1
    · refine ⟨by rw [evOf_D], ?_⟩
      cases st with
      | nil => rfl
      | cons q r => cases h2
theorem step_inv {i : Nat} {st : List Op} {ev : Ev} (h : ev = none → st ≠ []) : RInv (i + 1) (stepR ([], st) ev) := by
  cases ev with
  | some q => exact ⟨.inl rfl, (fun _ q => nomatch q), fun h => absurd rfl h⟩
  | none =>
    cases st with
    | nil => exact absurd rfl (h rfl)
    | cons q r =>
      cases r with
      | nil => exact ⟨.inr ⟨_, rfl, rfl⟩, (fun q => nomatch q), fun _ => Nat.succ_pos _⟩
      | cons p r => exact ⟨.inl rfl, (fun _ q => nomatch q), fun h => absurd rfl h⟩
theorem run_due : ∀ (ds : List Dat) (i : Nat) (s : List Nd × List Op), RInv i s → (∀ d ∈ ds, EvOk d) →
    (∀ j, runR i s ds = .inl j → dueR i s.2.length ds = some j) ∧
    ∀ s', runR i s ds = .inr s' → RInv (i + ds.length) s' ∧ stE s' = stE s ++ ds.map evOf ∧ (∀ d ∈ ds, d = evD (evOf d)) ∧ dueR i s.2.length ds = if s'.1 = [] then some (i + ds.length) else none
  | [], i, s, hi, _ => by
    refine ⟨fun j q => ?_, fun s' q => ?_⟩
    · rw [runR] at q; cases q
    rw [runR] at q
    obtain rfl : s = s' := by injection q
    refine ⟨hi, by rw [List.map_nil, List.append_nil], (fun d q => nomatch q), ?_⟩
    rw [dueR]
    obtain ⟨done, st⟩ := s
    rcases hi.one with h | ⟨t, h1, h2⟩
    · have h : done = [] := h
      subst h
      rw [if_pos rfl]
      cases st with
      | nil =>
        have : i = 0 := hi.zero rfl rfl
        subst this
        rfl
      | cons p r => rw [if_neg (fun q => nomatch q.1)]; rfl
    · have h1 : done = [t] := h1
      have h2 : st = [] := h2
      subst h1 h2
      rw [if_neg (show ¬ ([t], ([] : List Op)).1 = [] from fun q => nomatch q), if_pos ⟨rfl, hi.pos (fun q => nomatch q)⟩]
  | d :: ds, i, s, hi, hok => by
    have hd := hok d (List.mem_cons_self ..)
    obtain ⟨done, st⟩ := s
    rw [runR, dueR]
    rcases hi.one with h | ⟨t, h1, h2⟩
    · have h : done = [] := h
      subst h
      cases hc : canR st d with
      | false =>
        rw [if_pos (show (!(([], st) : List Nd × List Op).1.isEmpty || !false) = true from rfl)]
        refine ⟨fun j q => ?_, (fun s' q => nomatch q)⟩
        obtain rfl : i = j := by injection q
        rw [if_pos]
        rcases can_no hc hd with q | ⟨q1, q2⟩
        · exact .inl q
        · exact .inr (.inr ⟨q1, by rw [q2]; rfl⟩)
      | true =>
        obtain ⟨k1, k2⟩ := can_of hc hd
        have hie : isEvD d = true := by
          unfold canR at hc
          exact (Bool.and_eq_true_iff.mp hc).1
        obtain ⟨e1, _⟩ := step_deep k2
        have hinv := step_inv (i := i) k2
        have ih := run_due ds (i + 1) (stepR ([], st) (evOf d)) hinv fun x hx => hok x (List.mem_cons_of_mem _ hx)
        rw [if_neg (show ¬ (!(([], st) : List Nd × List Op).1.isEmpty || !true) = true from fun q => nomatch q), if_neg, ← e1]
        · refine ⟨ih.1, fun s' q => ?_⟩
          obtain ⟨a1, a2, a3, a4⟩ := ih.2 s' q
          rw [List.length_cons, show i + (ds.length + 1) = i + 1 + ds.length by omega]
          refine ⟨a1, ?_, fun x hx => ?_, a4⟩
          · rw [a2, step_evs k2 rfl, List.map_cons, List.append_assoc]; rfl
          · rcases List.mem_cons.mp hx with rfl | hx
            · exact k1
            · exact a3 x hx
        · rintro (q | ⟨q1, q2⟩ | ⟨q1, q2⟩)
          · rw [hie] at q; cases q
          · have := hi.zero rfl (List.length_eq_zero_iff.mp q2)
            omega
          · exact k2 q1 (List.length_eq_zero_iff.mp q2)
    · have h1 : done = [t] := h1
      have h2 : st = [] := h2
      subst h1 h2
      rw [if_pos (show (!(([t], []) : List Nd × List Op).1.isEmpty || !canR (([t], []) : List Nd × List Op).2 d) = true from rfl)]
      refine ⟨fun j q => ?_, (fun s' q => nomatch q)⟩
      obtain rfl : i = j := by injection q
      rw [if_pos (.inr (.inl ⟨hi.pos (fun q => nomatch q), rfl⟩))]
/-- what is due is what a row gives -/
theorem due_from {ds : List Dat} (hok : ∀ d ∈ ds, EvOk d) : (∀ j, fromE ds = .inl j → dueR 0 0 ds = some j) ∧ ∀ t, fromE ds = .inr t → dueR 0 0 ds = none ∧ ds = (evsN t).map evD := by
  obtain ⟨h1, h2⟩ := run_due ds 0 ([], []) rinv0 hok
  unfold fromE
  cases hr : runR 0 ([], []) ds with
  | inl i =>
    refine ⟨fun j q => ?_, (fun t q => nomatch q)⟩
    obtain rfl : i = j := by injection q
    exact h1 i hr
  | inr s' =>
    obtain ⟨a1, a2, a3, a4⟩ := h2 s' hr
    obtain ⟨done, st⟩ := s'
    cases done with
    | nil =>
      refine ⟨fun j q => ?_, (fun t q => nomatch q)⟩
      obtain rfl : ds.length = j := by injection q
      rw [show dueR 0 0 ds = _ from a4, if_pos rfl, Nat.zero_add]
    | cons t r =>
      refine ⟨(fun j q => nomatch q), fun t' q => ?_⟩
      obtain rfl : t = t' := by injection q
      refine ⟨by rw [show dueR 0 0 ds = _ from a4, if_neg (fun q => nomatch q)], ?_⟩
      rcases a1.one with q | ⟨t2, q1, q2⟩
      · cases q
      · have q1 : t :: r = [t2] := q1
        have q2 : st = [] := q2
        injection q1 with q1 q3
        subst q1 q3 q2
        have e : evsN t = ds.map evOf := by
          have a2 : evsNs [t] ++ opsE [] = (evsNs [] ++ opsE []) ++ ds.map evOf := a2
          rw [evsNs_one, evsNs, opsE, List.append_nil] at a2
          exact a2
        rw [e, List.map_map]
        have : ∀ l : List Dat, (∀ d ∈ l, d = evD (evOf d)) → l = l.map (evD ∘ evOf) := fun l hl => by
          induction l with
          | nil => rfl
          | cons x l ih =>
            rw [List.map_cons, ← ih fun d hd => hl d (List.mem_cons_of_mem _ hd)]
            exact congrArg (· :: l) (hl x (List.mem_cons_self ..))
        exact this ds a3
section
variable {X : Cx} {O : Own} {k : Slot → Own → Prop}
theorem rpa_intsT {K : PySem.W.Frag} {G : Hp} : ∀ {vs : List V} {ns : List Int}, RpA K G vs (ns.map .int) → vs = ns.map V.int
  | _, [], h => by cases h; rfl
  | _, n :: ns, h => by
    cases h with
    | cons h1 h2 =>
      cases h1
      rw [rpa_intsT h2]; rfl
theorem all_flatI (ns : List Int) : (ns.map V.int).all flatV = true := by
  induction ns with
  | nil => rfl
  | cons w ws ih => rw [List.map_cons, List.all_cons, ih]; rfl
theorem inV_ints {i : Int} : ∀ {ns : List Int}, inV (.int i) (ns.map V.int) = decide (i ∈ ns)
  | [] => rfl
  | n :: ns => by
    have ih := inV_ints (i := i) (ns := ns)
    unfold inV at ih ⊢
    rw [List.map_cons, List.any_cons, ih]
    have e : eqV (.int n) (.int i) = decide (n = i) := by simp only [eqV]; rfl
    rw [e]
    by_cases h : n = i
    · subst h; simp
    · rw [decide_eq_false h, Bool.false_or]
      have : (i ∈ n :: ns) ↔ i ∈ ns := by
        rw [List.mem_cons]
        exact ⟨fun q => q.resolve_left fun e => h e.symm, .inr⟩
      simp only [this]
theorem ob_niI {i : Int} {ns : List Int} (h : k (.dat (.bl (!decide (i ∈ ns)))) O) : OpB X (compareOp .NotIn) (.dat (.int i)) (.dat (.tup (ns.map .int))) O k := ⟨_, op_notIn_seq, fun H0 σ ρ H v1 v2 st r1 r2 Q q => by
  cases r1
  cases r2 with
  | tup h1 h2 =>
    have e := rpa_intsT h2
    subst e
    refine ⟨_, _, rfl, .inr (sqt_mono hid_le h1), rfl, all_flatI ns, q _ H _ O h st ?_⟩
    rw [inV_ints]; exact .bl _⟩
end
/-- rows of one, as they occur -/
def oneOk (d : Dat) : Prop := ∀ x, d = .tup [x] → x = .str "close" ∨ x = .tup [.str "close"]
def LIsEvS : SpecT := fun ss O R => ∃ d : Dat, ss = [.dat d] ∧ EvOk d ∧ oneOk d ∧ (∀ a n m, d = .tup [a, .str n, m] → TxtOk n) ∧ R (.ret (.dat (.bl (isEvD d)))) O
theorem isEv_other {ds : List Dat} (h : isOpenD ds = false) : isEvD (.tup ds) = eqD (.tup ds) (.tup [.str "close"]) := by
  show (if isOpenD ds then isNmD (ds.getD 1 .non) && isMkD (ds.getD 2 .non) else eqD (.tup ds) (.tup [.str "close"])) = _
  rw [h]; rfl
theorem isEv_len {ds : List Dat} (h : ¬ ((ds.length : Int) ∈ ([1, 3] : List Int))) : isEvD (.tup ds) = false := by
  match ds, h with
  | [], _ => decide +kernel
  | [a], h => exact absurd (show ((1 : Nat) : Int) ∈ ([1, 3] : List Int) by decide) h
  | [a, b], _ =>
    rw [isEv_other rfl, eqD_tup]
    show (PyData.eqv (toPy a) (toPy (.str "close")) && false) = false
    rw [Bool.and_false]
  | [a, b, c], h => exact absurd (show ((3 : Nat) : Int) ∈ ([1, 3] : List Int) by decide) h
  | a :: b :: c :: e :: r, _ =>
    rw [isEv_other rfl, eqD_tup]
    show (PyData.eqv (toPy a) (toPy (.str "close")) && false) = false
    rw [Bool.and_false]
theorem close_repr : (reprD (.tup [.str "close"]) : Str) = "('close',)" ∧ ¬ (reprD (.tup [.tup [.str "close"]]) : Str) = "('close',)" := by decide +kernel
theorem close_ok : reprOk (.tup [.str "close"]) = true ∧ reprOk (.tup [.tup [.str "close"]]) = true := by decide +kernel
theorem close_ev : isEvD (.tup [.str "close"]) = true ∧ isEvD (.tup [.tup [.str "close"]]) = false := by decide +kernel
section
variable {P : Program} {w : World} {K : PySem.W.Frag} {mg : Str → Option Value} {base : Heap}
theorem fn_law_is_event (T : TopOf K mg) (Z : Facts K) {f : Addr} {fd : FuncData} (F : L2.Fun K "_law_is_event" "_law_is_event" s_law_is_event f fd) : Fn P w K mg base true (2) f fd ["_law_value"] (LIsEvS) := by
  have sc := sc_law_is_event
  refine fn_mk F sc_law_is_event (fun ss O R h => by first | (obtain ⟨_, rfl, _⟩ := h; rfl) | (obtain ⟨_, _, rfl, _⟩ := h; rfl) | (obtain ⟨_, _, _, rfl, _⟩ := h; rfl) | (obtain ⟨_, _, _, _, rfl, _⟩ := h; rfl) | (obtain ⟨_, _, _, _, _, rfl, _⟩ := h; rfl) | (obtain ⟨_, _, _, _, _, _, rfl, _⟩ := h; rfl) | (obtain ⟨_, _, _, _, _, _, _, rfl, _⟩ := h; rfl)) fun cdv A outer s H E ss O R hr hpo h => ?_
  obtain ⟨d, rfl, hd, h1, hnm, h⟩ := h
  -- 0:_law_value 1:_law_word 2:_law_name 3:_law_mark
  refine sw_cons ?_
  refine s1_if ?_
  refine tw_tv (t := !(match d with | .tup ds => decide ((ds.length : Int) ∈ ([1, 3] : List Int)) | _ => false)) ?_ ?_
  · refine tw_w ?_
    refine tww_or ?_
    refine tw_not ?_
    refine tw_val ?_
    refine ew_callB (T.no Z.n_isinstance) bt_isinstance ?_
    refine aw_cons ?_
    refine ew_var 0 ?_
    refine aw_cons ?_
    refine ew_bltn (T.no Z.n_tuple) bt_tuple ?_
    refine aw_nil ?_
    refine cb_isTy (kit_tup hd.ok.1) ?_ (hp := hd.ok.1)
    refine ⟨_, rfl, fun ht => ?_, fun ht => ?_⟩
    · cases d with
      | tup ds => cases ht
      | _ => exact ⟨rfl, rfl⟩
    · cases d with
      | tup ds =>
        refine tww_or1 ?_
        refine tw_cmp ?_
        refine ew_callB (T.no Z.n_len) bt_len ?_
        refine aw_cons ?_
        refine ew_var 0 ?_
        refine aw_nil ?_
        refine cb_lenT ?_
        refine ew_tup ?_
        refine aw_cons ?_
        refine ew_int ?_
        refine aw_cons ?_
        refine ew_int ?_
        refine aw_nil ?_
        refine ⟨[.int 1, .int 3], rfl, by walk_at "few", ?_⟩
        exact ob_niI (ns := [1, 3]) ⟨_, rfl, rfl, rfl⟩
      | _ => cases ht
  refine ⟨fun ht => ?_, fun ht => ?_⟩
  · have e : isEvD d = false := by
      cases d with
      | tup ds => exact isEv_len (by simpa using ht)
      | _ => rfl
    rw [e] at h
    refine sw_one ?_
    refine s1_ret ?_
    refine ew_bl ?_
    exact h
  · obtain ⟨ds, rfl, hds⟩ : ∃ ds, d = .tup ds ∧ (ds.length : Int) ∈ ([1, 3] : List Int) := by
      cases d with
      | tup ds =>
        refine ⟨ds, rfl, ?_⟩
        cases hm : decide ((ds.length : Int) ∈ ([1, 3] : List Int)) with
        | true => exact of_decide_eq_true hm
        | false =>
          have ht : (!decide ((ds.length : Int) ∈ ([1, 3] : List Int))) = false := ht
          rw [hm] at ht; cases ht
      | _ => cases ht
    obtain ⟨_, hk⟩ := hd.kids ds rfl
    refine sw_nil ?_
    refine sw_cons ?_
    refine s1_if ?_
    refine tw_cmp ?_
    refine ew_callB (T.no Z.n_len) bt_len ?_
    refine aw_cons ?_
    refine ew_var 0 ?_
    refine aw_nil ?_
    walk_at "cb len"
    refine ew_int ?_
    refine ob_eqI ?_
    refine ⟨_, rfl, fun ht => ?_, fun ht => ?_⟩
    · obtain ⟨x, rfl⟩ : ∃ x, ds = [x] := by
        match ds, ht with
        | [x], _ => exact ⟨x, rfl⟩
        | [], ht => cases ht
        | _ :: _ :: r, ht => exact absurd (of_decide_eq_true ht) (by simp only [List.length_cons]; omega)
      refine sw_one ?_
      refine s1_ret ?_
      refine ew_cmp ?_
      refine ew_callB (T.no Z.n_repr) bt_repr ?_
      refine aw_cons ?_
      refine ew_var 0 ?_
      refine aw_nil ?_
      rcases h1 x rfl with rfl | rfl
      · refine cb_reprT (hr.mono (by decide) fun e => e) close_ok.1 ?_
        refine ew_str ?_
        refine ob_eqS ?_
        rw [close_repr.1, decide_eq_true rfl]
        rw [close_ev.1] at h
        exact h
      · refine cb_reprT (hr.mono (by decide) fun e => e) close_ok.2 ?_
        refine ew_str ?_
        refine ob_eqS ?_
        rw [decide_eq_false close_repr.2]
        rw [close_ev.2] at h
        exact h
    · obtain ⟨a, b, c, rfl⟩ : ∃ a b c, ds = [a, b, c] := by
        refine three ?_
        have ht := of_decide_eq_false ht
        simp only [List.mem_cons, List.not_mem_nil, or_false] at hds
        rcases hds with q | q
        · exact absurd q ht
        · exact q
      have hka := hk a (by simp)
      have hkb := hk b (by simp)
      have hkc := hk c (by simp)
      refine sw_nil ?_
      refine sw_cons ?_
      refine s1_asg ?_
      refine ew_var 0 ?_
      refine gw_tup ?_
      refine gsw_cons ?_
      refine gw_name 1 ?_ sc.nd
      refine gsw_cons ?_
      refine gw_name 2 ?_ sc.nd
      refine gsw_cons ?_
      refine gw_name 3 ?_ sc.nd
      refine gsw_nil ?_
      refine sw_cons ?_
      refine s1_if ?_
      refine tw_tv (t := !(eqD a (.str "open") && isNmD b)) ?_ ?_
      · refine tw_w ?_
        refine tww_or ?_
        refine tw_cmp ?_
        refine ew_var 1 ?_
        refine ew_str ?_
        refine ob_ne (hr.r.mono (by decide)) (fine_all _ hka.2.1).1 (fine_all _ open_fine.1).1 (shape_of hka.2.1 (by have := hka.2.2; omega)) (shape_of open_fine.1 (by have := open_fine.2; omega)) ?_
        refine ⟨_, rfl, fun ht => ?_, fun ht => ?_⟩
        · have e : eqD a (.str "open") = false := by simpa using ht
          rw [e]; exact ⟨rfl, rfl⟩
        · have e : eqD a (.str "open") = true := by simpa using ht
          rw [e, Bool.true_and]
          refine tww_or ?_
          refine tw_not ?_
          refine tw_val ?_
          refine ew_callB (T.no Z.n_isinstance) bt_isinstance ?_
          refine aw_cons ?_
          refine ew_var 2 ?_
          refine aw_cons ?_
          refine ew_bltn (T.no Z.n_str) bt_str ?_
          refine aw_nil ?_
          refine cb_isTy (kit_str hkb.1.1) ?_ (hp := hkb.1.1)
          refine ⟨_, rfl, fun ht => ?_, fun ht => ?_⟩
          · cases b with
            | str n => cases ht
            | _ => exact ⟨rfl, rfl⟩
          · cases b with
            | str n =>
              refine tww_or1 ?_
              refine tw_not ?_
              refine tw_val ?_
              refine ew_call (c_law_is_name T Z) hr ?_
              refine aw_cons ?_
              refine ew_var 2 ?_
              refine aw_nil ?_
              exact ⟨n, rfl, hnm a n c rfl, _, rfl, rfl, rfl⟩
            | _ => cases ht
      refine ⟨fun ht => ?_, fun ht => ?_⟩
      · have e : isEvD (.tup [a, b, c]) = false := by
          cases e1 : eqD a (.str "open") with
          | false =>
            rw [isEv_other (show isOpenD [a, b, c] = false from e1), eqD_tup]
            show (PyData.eqv (toPy a) (toPy (.str "close")) && false) = false
            rw [Bool.and_false]
          | true =>
            rw [e1, Bool.true_and] at ht
            show (if isOpenD [a, b, c] then isNmD b && isMkD c else eqD (.tup [a, b, c]) (.tup [.str "close"])) = false
            rw [if_pos (show isOpenD [a, b, c] = true from e1), show isNmD b = false by simpa using ht]
            rfl
        rw [e] at h
        refine sw_one ?_
        refine s1_ret ?_
        refine ew_bl ?_
        exact h
      · have e : isEvD (.tup [a, b, c]) = isMkD c := by
          have h7 : (eqD a (.str "open") && isNmD b) = true := by
            cases h8 : (eqD a (.str "open") && isNmD b) with
            | true => rfl
            | false => rw [h8] at ht; cases ht
          obtain ⟨e1, e2⟩ := Bool.and_eq_true_iff.mp h7
          show (if isOpenD [a, b, c] then isNmD b && isMkD c else eqD (.tup [a, b, c]) (.tup [.str "close"])) = _
          rw [if_pos (show isOpenD [a, b, c] = true from e1), e2, Bool.true_and]
        rw [e] at h
        refine sw_nil ?_
        refine sw_one ?_
        refine s1_ret ?_
        refine ew_and ?_
        refine ew_notv ?_
        refine ew_callB (T.no Z.n_isinstance) bt_isinstance ?_
        refine aw_cons ?_
        refine ew_var 3 ?_
        refine aw_cons ?_
        refine ew_bltn (T.no Z.n_bool) bt_bool ?_
        refine aw_nil ?_
        refine cb_isTy (kit_bool hkc.1.1) ?_ (hp := hkc.1.1)
        refine ⟨_, rfl, ?_⟩
        refine ⟨_, rfl, fun hu => ?_, fun hu => ?_⟩
        · refine ew_and ?_
          refine ew_callB (T.no Z.n_isinstance) bt_isinstance ?_
          refine aw_cons ?_
          refine ew_var 3 ?_
          refine aw_cons ?_
          refine ew_bltn (T.no Z.n_int) bt_int ?_
          refine aw_nil ?_
          refine cb_isTy (kit_int hkc.1.1) ?_ (hp := hkc.1.1)
          refine ⟨_, rfl, fun ht => ?_, fun ht => ?_⟩
          · cases c with
            | int i =>
              refine ew_one ?_
              refine ew_cmp ?_
              refine ew_var 3 ?_
              refine ew_int ?_
              exact ob_ge h
            | bl b => cases hu
            | _ => cases ht
          · cases c with
            | int i => cases ht
            | bl b => cases hu
            | _ => exact h
        · cases c with
          | bl b => exact h
          | _ => cases hu
theorem c_law_is_event (T : TopOf K mg) (Z : Facts K) : Cal P w K mg base true (2) "_law_is_event" (LIsEvS) [] := cal_of T Z.d_law_is_event (by walk_at "b1") fun f fd F => fn_law_is_event T Z F
end
structure ValOk (d : Dat) : Prop where
  ev : EvOk d
  one : oneOk d
  nm : ∀ a n m, d = .tup [a, .str n, m] → TxtOk n
def dueDt : Option Nat → Dat
  | none => .non
  | some i => .int (i : Int)
def LDueS : SpecT := fun ss O R => ∃ ds : List Dat, ss = [.dat (.lst ds)] ∧ ds.length ≤ 500 ∧ (∀ d ∈ ds, ValOk d) ∧ R (.ret (.dat (dueDt (dueR 0 0 ds)))) O
theorem eqD_close {ev : Ev} : eqD (evD ev) (.tup [.str "close"]) = decide (ev = none) := by
  cases ev with
  | none => decide +kernel
  | some q =>
    obtain ⟨n, m⟩ := q
    show eqD (.tup [.str "open", .str n, .int m]) (.tup [.str "close"]) = false
    rw [eqD_tup]
    show (PyData.eqv (toPy (.str "open")) (toPy (.str "close")) && false) = false
    rw [Bool.and_false]
section
variable {P : Program} {w : World} {K : PySem.W.Frag} {mg : Str → Option Value} {base : Heap}
theorem fn_law_due (T : TopOf K mg) (Z : Facts K) {f : Addr} {fd : FuncData} (F : L2.Fun K "_law_due" "_law_due" s_law_due f fd) : Fn P w K mg base true (3) f fd ["_law_values"] (LDueS) := by
  have sc := sc_law_due
  refine fn_mk F sc_law_due (fun ss O R h => by first | (obtain ⟨_, rfl, _⟩ := h; rfl) | (obtain ⟨_, _, rfl, _⟩ := h; rfl) | (obtain ⟨_, _, _, rfl, _⟩ := h; rfl) | (obtain ⟨_, _, _, _, rfl, _⟩ := h; rfl) | (obtain ⟨_, _, _, _, _, rfl, _⟩ := h; rfl) | (obtain ⟨_, _, _, _, _, _, rfl, _⟩ := h; rfl) | (obtain ⟨_, _, _, _, _, _, _, rfl, _⟩ := h; rfl)) fun cdv A outer s H E ss O R hr hpo h => ?_
  obtain ⟨ds, rfl, hl, hok, h⟩ := h
  -- 0:_law_values 1:_law_deep 2:_law_at 3:_law_value
  refine sw_cons ?_
  refine s1_set 1 ?_ sc.nd
  refine ew_int ?_
  refine sw_cons ?_
  refine s1_for hpo ?_
  refine iw_enum (T.no Z.n_enumerate) ?_
  refine aw_cons ?_
  refine ew_var 0 ?_
  refine aw_nil ?_
  refine ⟨_, rfl, ?_⟩
  refine ⟨fun i ρ' O' => ∃ (deep : Nat) (s2 s3 : Slot), ρ' = [.dat (.lst ds), .dat (.int (deep : Int)), s2, s3] ∧ O' = O ∧ dueR 0 0 ds = dueR i deep (ds.drop i) ∧ deep ≤ i, ?_, ?_, ?_⟩
  · exact ⟨0, _, _, rfl, rfl, rfl, Nat.le_refl _⟩
  · intro i d ρ2 O2 hj hd
    obtain ⟨deep, s2, s3, rfl, rfl, hdue, hde⟩ := hj
    unfold enumD at hd
    rw [List.getElem?_mapIdx] at hd
    obtain ⟨e, hei, rfl⟩ := Option.map_eq_some_iff.mp hd
    obtain ⟨hev, hone, hnm⟩ := hok e (List.mem_of_getElem? hei)
    have hil : i < ds.length := by
      rcases Nat.lt_or_ge i ds.length with q | q
      · exact q
      · rw [List.getElem?_eq_none q] at hei; cases hei
    have hdr : ds.drop i = e :: ds.drop (i + 1) := by
      rw [List.getElem?_eq_getElem hil] at hei
      injection hei with hei
      rw [← hei, List.getElem_cons_drop]
    rw [hdr, dueR] at hdue
    refine gw_tup ?_
    refine gsw_cons ?_
    refine gw_name 2 ?_ sc.nd
    refine gsw_cons ?_
    refine gw_name 3 ?_ sc.nd
    refine gsw_nil ?_
    refine sw_cons ?_
    refine s1_if ?_
    refine tw_tv (t := !isEvD e || ((decide ((0 : Int) < (i : Int)) && decide ((deep : Int) = 0)) || (eqD e (.tup [.str "close"]) && decide ((deep : Int) = 0)))) (tv_w (tvw_or ?_ fun _ => tvw_or ?_ fun _ => tvw_or1 ?_)) ?_
    · refine tw_not ?_
      refine tw_val ?_
      refine ew_call (c_law_is_event T Z) hr ?_
      refine aw_cons ?_
      refine ew_var 3 ?_
      refine aw_nil ?_
      exact ⟨e, rfl, hev, hone, hnm, _, rfl, rfl, rfl⟩
    · exact tv_w (tvw_and (tw_cmp (ew_var 2 (ew_int (ob_gt ⟨_, rfl, rfl, rfl⟩)))) fun _ => tvw_and1 (tw_cmp (ew_var 1 (ew_int (ob_eqI ⟨_, rfl, rfl, rfl⟩)))))
    · refine tv_w (tvw_and ?_ fun _ => tvw_and1 (tw_cmp (ew_var 1 (ew_int (ob_eqI ⟨_, rfl, rfl, rfl⟩)))))
      refine tw_cmp ?_
      refine ew_var 3 ?_
      refine ew_tup ?_
      refine aw_cons ?_
      refine ew_str ?_
      refine aw_nil ?_
      refine ⟨[_], rfl, by walk_at "few", ?_⟩
      exact ob_eqF (hr.r.mono (by decide)) ⟨hev.fine, hev.dep⟩ close_fine ⟨_, rfl, rfl, rfl⟩
    refine ⟨fun ht => ?_, fun ht => ?_⟩
    · have hst : dueR 0 0 ds = some i := by
        rw [hdue, if_pos]
        rcases Bool.or_eq_true_iff.mp ht with q | q
        · exact .inl (by simpa using q)
        · rcases Bool.or_eq_true_iff.mp q with q | q
          · obtain ⟨q1, q2⟩ := Bool.and_eq_true_iff.mp q
            have q1 := of_decide_eq_true q1
            have q2 := of_decide_eq_true q2
            exact .inr (.inl ⟨by omega, by omega⟩)
          · obtain ⟨q1, q2⟩ := Bool.and_eq_true_iff.mp q
            have q2 := of_decide_eq_true q2
            cases hie : isEvD e with
            | false => exact .inl rfl
            | true =>
              rcases isEv_of hie hev with ⟨n, m, rfl, _, _⟩ | rfl
              · rw [eqD_close] at q1; cases q1
              · exact .inr (.inr ⟨by rw [evOf_D], by omega⟩)
      rw [hst] at h
      refine sw_one ?_
      refine s1_ret ?_
      refine ew_var 2 ?_
      exact h
    · have hb1 : isEvD e = true := by
        cases hie : isEvD e with
        | true => rfl
        | false => rw [hie] at ht; cases ht
      have hb2 : ¬ (0 < i ∧ deep = 0) := by
        rintro ⟨q1, q2⟩
        rw [hb1, decide_eq_true (show (0 : Int) < (i : Int) by omega), decide_eq_true (show (deep : Int) = 0 by omega)] at ht
        cases ht
      obtain ⟨ev, rfl⟩ : ∃ ev, e = evD ev := by
        rcases isEv_of hb1 hev with ⟨n, m, q, _, _⟩ | q
        · exact ⟨_, q⟩
        · exact ⟨_, q⟩
      have hb3 : ¬ (ev = none ∧ deep = 0) := by
        rintro ⟨q1, q2⟩
        subst q1
        rw [eqD_close, decide_eq_true (show (deep : Int) = 0 by omega)] at ht
        simp at ht
      rw [evOf_D, if_neg (by rintro (q | q | q); · { rw [hb1] at q; cases q }; · { exact hb2 q }; · { exact hb3 q })] at hdue
      rw [evD_P]
      refine sw_nil ?_
      refine sw_one ?_
      refine s1_set 1 ?_ sc.nd
      refine ew_bin ?_
      refine ew_var 1 ?_
      refine ew_if ?_
      refine tw_cmp ?_
      refine ew_callB (T.no Z.n_len) bt_len ?_
      refine aw_cons ?_
      refine ew_var 3 ?_
      refine aw_nil ?_
      refine cb_lenT ?_
      refine ew_int ?_
      refine ob_eqI ?_
      refine ⟨_, rfl, fun ht => ?_, fun ht => ?_⟩
      · refine ew_int ?_
        walk_at "op add"
        cases ev with
        | none => exact absurd (of_decide_eq_true ht) (show ¬ ((1 : Nat) : Int) = 3 by decide)
        | some q => exact ⟨deep + 1, _, _, rfl, rfl, hdue, by omega⟩
      · refine ew_un ?_
        refine ew_int ?_
        refine ou_neg ?_
        walk_at "op add"
        cases ev with
        | some q =>
          obtain ⟨n, m⟩ := q
          exact absurd (show (((evP (some (n, m))).length : Nat) : Int) = 3 from rfl) (of_decide_eq_false ht)
        | none =>
          obtain ⟨k, rfl⟩ : ∃ k, deep = k + 1 := by
            cases deep with
            | zero => exact absurd ⟨rfl, rfl⟩ hb3
            | succ k => exact ⟨k, rfl⟩
          rw [show ((k + 1 : Nat) : Int) + -1 = (k : Int) by omega]
          exact ⟨k, _, _, rfl, rfl, hdue, by omega⟩
  · intro ρ2 O2 hj
    obtain ⟨deep, s2, s3, rfl, rfl, hdue, _⟩ := hj
    have e : ds.drop (enumD ds).length = [] := by
      unfold enumD
      rw [List.length_mapIdx, List.drop_length]
    rw [e, dueR] at hdue
    have el : (enumD ds).length = ds.length := by unfold enumD; rw [List.length_mapIdx]
    rw [el] at hdue
    refine sw_one ?_
    refine s1_ret ?_
    refine ew_if ?_
    refine tw_tv (t := decide ((deep : Int) = 0) && decide ((0 : Int) < (ds.length : Int))) (tv_w (tvw_and (tw_cmp (ew_var 1 (ew_int (ob_eqI ⟨_, rfl, rfl, rfl⟩)))) fun _ => tvw_and1 ?_)) ?_
    · exact tw_cmp (ew_callB (T.no Z.n_len) bt_len (aw_cons (ew_var 0 (aw_nil (cb_lenL (ew_int (ob_gt ⟨_, rfl, rfl, rfl⟩)))))))
    refine ⟨fun ht => ?_, fun ht => ?_⟩
    · obtain ⟨q1, q2⟩ := Bool.and_eq_true_iff.mp ht
      have q1 := of_decide_eq_true q1
      have q2 := of_decide_eq_true q2
      rw [hdue, if_pos ⟨by omega, by omega⟩] at h
      refine ew_non ?_
      exact h
    · rw [hdue, if_neg (by
        rintro ⟨q1, q2⟩
        rw [decide_eq_true (show (deep : Int) = 0 by omega), decide_eq_true (show (0 : Int) < (ds.length : Int) by omega)] at ht
        cases ht)] at h
      refine ew_callB (T.no Z.n_len) bt_len ?_
      refine aw_cons ?_
      refine ew_var 0 ?_
      refine aw_nil ?_
      refine cb_lenL ?_
      exact h
theorem c_law_due (T : TopOf K mg) (Z : Facts K) : Cal P w K mg base true (3) "_law_due" (LDueS) [] := cal_of T Z.d_law_due (by walk_at "b1") fun f fd F => fn_law_due T Z F
end
def BentS : SpecT := fun ss O R => ∃ (p : Addr) (b : Cell) (vs odds : List Dat), ss = [.own p, .dat (.lst vs), .dat (.lst odds)] ∧ O p = some b ∧ isBox b ∧ vs.length ≤ 400 ∧ 0 < odds.length ∧ odds.length ≤ 400 ∧
  ∀ (b' : Cell) (us : List Dat), isBox b' → (∀ d ∈ us, d ∈ vs ∨ d ∈ odds) → us.length ≤ vs.length + 1 → R (.ret (.dat (.lst us))) (up O p b')
theorem cut_two {α : Type} {l : List α} {a b : Int} (h : 0 ≤ a) (hb : a ≤ b) : cutD l (some a) (some b) = (l.drop a.toNat).take (b.toNat - a.toNat) := by
  obtain ⟨m, rfl⟩ := Int.eq_ofNat_of_zero_le h
  obtain ⟨n, rfl⟩ := Int.eq_ofNat_of_zero_le (Int.le_trans h hb)
  have hmn : m ≤ n := by omega
  unfold Kn.cutD
  rw [show HT.sIx l.length 0 (some (m : Int)) = min m l.length from HT.sIx_nat _ _ m, show HT.sIx l.length l.length (some (n : Int)) = min n l.length from HT.sIx_nat _ _ n, Int.toNat_natCast, Int.toNat_natCast]
  by_cases q : m ≤ l.length
  · rw [Nat.min_eq_left q]
    by_cases q2 : n ≤ l.length
    · rw [Nat.min_eq_left q2]
    · rw [Nat.min_eq_right (by omega), List.take_of_length_le (by rw [List.length_drop]; omega), List.take_of_length_le (by rw [List.length_drop]; omega)]
  · rw [List.drop_of_length_le (show l.length ≤ min m l.length by omega), List.drop_of_length_le (show l.length ≤ m by omega), List.take_nil, List.take_nil]
section
variable {P : Program} {w : World} {K : PySem.W.Frag} {mg : Str → Option Value} {base : Heap}
theorem fn_law_bent (T : TopOf K mg) (Z : Facts K) {f : Addr} {fd : FuncData} (F : L2.Fun K "_law_bent" "_law_bent" s_law_bent f fd) : Fn P w K mg base false (2) f fd ["_law_box_here", "_law_values", "_law_odd_here"] (BentS) := by
  have sc := sc_law_bent
  refine fn_mk F sc_law_bent (fun ss O R h => by first | (obtain ⟨_, rfl, _⟩ := h; rfl) | (obtain ⟨_, _, rfl, _⟩ := h; rfl) | (obtain ⟨_, _, _, rfl, _⟩ := h; rfl) | (obtain ⟨_, _, _, _, rfl, _⟩ := h; rfl) | (obtain ⟨_, _, _, _, _, rfl, _⟩ := h; rfl) | (obtain ⟨_, _, _, _, _, _, rfl, _⟩ := h; rfl) | (obtain ⟨_, _, _, _, _, _, _, rfl, _⟩ := h; rfl)) fun cdv A outer s H E ss O R hr hpo h => ?_
  obtain ⟨p, b, vs, odds, rfl, hp, hb, hv, ho0, ho, h⟩ := h
  -- 0:_law_box_here 1:_law_values 2:_law_odd_here 3:_law_at 4:_law_form 5:_law_one 6:_law_other
  refine sw_cons ?_
  refine s1_par 3 4 ?_ sc.nd
  refine aw_cons ?_
  refine ew_call (c_law_take T Z) hr ?_
  refine aw_cons ?_
  refine ew_var 0 ?_
  refine aw_cons ?_
  refine ew_bin ?_
  refine ew_callB (T.no Z.n_len) bt_len ?_
  refine aw_cons ?_
  refine ew_var 1 ?_
  refine aw_nil ?_
  refine cb_lenL ?_
  refine ew_int ?_
  refine ob_add ?_
  refine aw_nil ?_
  refine ⟨p, _, b, rfl, hp, hb, by omega, by omega, fun a b1 ha0 ha1 hb1 => ?_⟩
  refine aw_cons ?_
  refine ew_call (c_law_take T Z) hr ?_
  refine aw_cons ?_
  refine ew_var 0 ?_
  refine aw_cons ?_
  refine ew_int ?_
  refine aw_nil ?_
  refine ⟨p, _, b1, rfl, up_at, hb1, by decide, by decide, fun fm b2 hf0 hf1 hb2 => ?_⟩
  rw [up_up]
  refine aw_nil ?_
  refine ⟨_, _, rfl, ?_⟩
  refine sw_cons ?_
  refine s1_if ?_
  refine tw_cmp ?_
  refine ew_var 4 ?_
  refine ew_int ?_
  walk_at "cmp Eq"
  refine ⟨_, rfl, fun ht => ?_, fun ht => ?_⟩
  · refine sw_one ?_
    refine s1_ret ?_
    refine ew_bin ?_
    refine ew_slice ?_
    refine ew_var 1 ?_
    refine ow_none ?_
    refine ow_some ?_
    refine ew_var 3 ?_
    refine ⟨_, rfl, ?_⟩
    refine sb_lst ?_
    refine ew_slice ?_
    refine ew_var 1 ?_
    refine ow_some ?_
    refine ew_bin ?_
    refine ew_var 3 ?_
    refine ew_int ?_
    refine ob_add ?_
    refine ⟨_, rfl, ?_⟩
    refine ow_none ?_
    
    refine sb_lst ?_
    rw [cut_take ha0, cut_drop (by omega)]
    refine ob_catL (by rw [List.length_take, List.length_drop, sizeLine_eq]; omega) ?_
    refine h b2 _ hb2 (fun d hd => .inl ?_) (by rw [List.length_append, List.length_take, List.length_drop]; omega)
    rcases List.mem_append.mp hd with q | q
    · exact List.mem_of_mem_take q
    · exact List.mem_of_mem_drop q
  · have hf1 : ¬ fm = 0 := of_decide_eq_false ht
    refine sw_nil ?_
    refine sw_cons ?_
    refine s1_if ?_
    refine tw_cmp ?_
    refine ew_var 4 ?_
    refine ew_int ?_
    walk_at "cmp Lt"
    refine ⟨_, rfl, fun ht => ?_, fun ht => ?_⟩
    · have hf3 := of_decide_eq_true ht
      refine sw_one ?_
      refine s1_ret ?_
      refine ew_bin ?_
      refine ew_bin ?_
      refine ew_slice ?_
      refine ew_var 1 ?_
      refine ow_none ?_
      refine ow_some ?_
      refine ew_var 3 ?_
      refine ⟨_, rfl, ?_⟩
      refine sb_lst ?_
      refine ew_lstD ?_
      refine aw_cons ?_
      refine ew_ix ?_
      refine ew_var 2 ?_
      refine ew_call (c_law_take T Z) hr ?_
      refine aw_cons ?_
      refine ew_var 0 ?_
      refine aw_cons ?_
      refine ew_callB (T.no Z.n_len) bt_len ?_
      refine aw_cons ?_
      refine ew_var 2 ?_
      refine aw_nil ?_
      walk_at "cb len"
      refine aw_nil ?_
      refine ⟨p, _, b2, rfl, up_at, hb2, by omega, by omega, fun j b3 hj0 hj1 hb3 => ?_⟩
      rw [up_up]
      obtain ⟨y, hy⟩ : ∃ y, odds[j.toNat]? = some y := ⟨_, List.getElem?_eq_getElem (by omega)⟩
      refine ix_lst (d := y) (by rw [show j = ((j.toNat : Nat) : Int) by omega]; exact atI_nat (by simpa using hy)) ?_
      refine aw_nil ?_
      refine ⟨[_], rfl, by walk_at "few", ?_⟩
      
      rw [cut_take ha0]
      refine ob_catL (by rw [List.length_take, sizeLine_eq]; show _ + 1 ≤ _; omega) ?_
      refine ew_slice ?_
      refine ew_var 1 ?_
      refine ow_some ?_
      refine ew_bin ?_
      refine ew_bin ?_
      refine ew_var 3 ?_
      refine ew_var 4 ?_
      refine ob_add ?_
      refine ew_int ?_
      refine ob_sub ?_
      refine ⟨_, rfl, ?_⟩
      refine ow_none ?_
      
      refine sb_lst ?_
      rw [cut_drop (by omega)]
      refine ob_catL (by rw [List.length_append, List.length_take, List.length_drop, sizeLine_eq]; simp only [List.length_cons, List.length_nil]; omega) ?_
      refine h b3 _ hb3 (fun d hd => ?_) (by rw [List.length_append, List.length_append, List.length_take, List.length_drop]; simp only [List.length_cons, List.length_nil]; omega)
      rcases List.mem_append.mp hd with q | q
      · rcases List.mem_append.mp q with q | q
        · exact .inl (List.mem_of_mem_take q)
        · rw [List.mem_singleton.mp q]; exact .inr (List.mem_of_getElem? hy)
      · exact .inl (List.mem_of_mem_drop q)
    · refine sw_nil ?_
      refine sw_cons ?_
      refine s1_par 5 6 ?_ sc.nd
      refine aw_cons ?_
      refine ew_slice ?_
      refine ew_var 1 ?_
      refine ow_some ?_
      refine ew_var 3 ?_
      refine ⟨_, rfl, ?_⟩
      refine ow_some ?_
      refine ew_bin ?_
      refine ew_var 3 ?_
      refine ew_int ?_
      refine ob_add ?_
      refine ⟨_, rfl, ?_⟩
      refine sb_lst ?_
      refine aw_cons ?_
      refine ew_slice ?_
      refine ew_var 1 ?_
      refine ow_some ?_
      refine ew_bin ?_
      refine ew_var 3 ?_
      refine ew_int ?_
      refine ob_add ?_
      refine ⟨_, rfl, ?_⟩
      refine ow_some ?_
      refine ew_bin ?_
      refine ew_var 3 ?_
      refine ew_int ?_
      refine ob_add ?_
      refine ⟨_, rfl, ?_⟩
      refine sb_lst ?_
      refine aw_nil ?_
      refine ⟨_, _, rfl, ?_⟩
      refine sw_one ?_
      refine s1_ret ?_
      refine ew_bin ?_
      refine ew_bin ?_
      refine ew_bin ?_
      refine ew_slice ?_
      refine ew_var 1 ?_
      refine ow_none ?_
      refine ow_some ?_
      refine ew_var 3 ?_
      refine ⟨_, rfl, ?_⟩
      refine sb_lst ?_
      refine ew_var 6 ?_
      
      rw [cut_take ha0]
      have c1 := cut_two (l := vs) (a := a) (b := a + 1) ha0 (by omega)
      have c2 := cut_two (l := vs) (a := a + 1) (b := a + 2) (by omega) (by omega)
      rw [c1, c2]
      refine ob_catL (by rw [List.length_take, List.length_take, List.length_drop, sizeLine_eq]; omega) ?_
      refine ew_var 5 ?_
      refine ob_catL (by rw [List.length_append, List.length_take, List.length_take, List.length_take, List.length_drop, List.length_drop, sizeLine_eq]; omega) ?_
      refine ew_slice ?_
      refine ew_var 1 ?_
      refine ow_some ?_
      refine ew_bin ?_
      refine ew_var 3 ?_
      refine ew_int ?_
      refine ob_add ?_
      refine ⟨_, rfl, ?_⟩
      refine ow_none ?_
      
      refine sb_lst ?_
      rw [cut_drop (by omega)]
      refine ob_catL (by rw [List.length_append, List.length_append, List.length_take, List.length_take, List.length_take, List.length_drop, List.length_drop, List.length_drop, sizeLine_eq]; omega) ?_
      refine h b2 _ hb2 (fun d hd => .inl ?_) (by rw [List.length_append, List.length_append, List.length_append, List.length_take, List.length_take, List.length_take, List.length_drop, List.length_drop, List.length_drop]; omega)
      rcases List.mem_append.mp hd with q | q
      · rcases List.mem_append.mp q with q | q
        · rcases List.mem_append.mp q with q | q
          · exact List.mem_of_mem_take q
          · exact List.mem_of_mem_drop (List.mem_of_mem_take q)
        · exact List.mem_of_mem_drop (List.mem_of_mem_take q)
      · exact List.mem_of_mem_drop q
theorem c_law_bent (T : TopOf K mg) (Z : Facts K) : Cal P w K mg base false (2) "_law_bent" (BentS) [] := cal_of T Z.d_law_bent (by walk_at "b3") fun f fd F => fn_law_bent T Z F
end
def TEqS (K : PySem.W.Frag) (n : Nat) : SpecT := fun ss O R => ∃ (CT : Addr) (t : Nd), ss = [.dat (ndD CT t), .dat (ndD CT t)] ∧ clsAt K "Tree" CT ∧ htN t ≤ n ∧ R (.ret (.dat (.bl true))) O
section
variable {P : Program} {w : World} {K : PySem.W.Frag} {mg : Str → Option Value} {base : Heap}
theorem fn_Tree_eqS (T : TopOf K mg) (Z : Facts K) (n : Nat) (EQ : ∀ C, clsAt K "Tree" C → EqC P w K mg base (3 * n + 1) C (TEqS K n)) {f : Addr} {fd : FuncData} (F : L2.Fun K "__eq__" "Tree.__eq__" s_Tree_eq f fd) : Fn P w K mg base false (3 * n + 4) f fd ["self", "other"] (TEqS K (n + 1)) := by
  have sc := sc_Tree_eq
  refine fn_mk F sc_Tree_eq (fun ss O R h => by first | (obtain ⟨_, rfl, _⟩ := h; rfl) | (obtain ⟨_, _, rfl, _⟩ := h; rfl) | (obtain ⟨_, _, _, rfl, _⟩ := h; rfl) | (obtain ⟨_, _, _, _, rfl, _⟩ := h; rfl) | (obtain ⟨_, _, _, _, _, rfl, _⟩ := h; rfl) | (obtain ⟨_, _, _, _, _, _, rfl, _⟩ := h; rfl) | (obtain ⟨_, _, _, _, _, _, _, rfl, _⟩ := h; rfl)) fun cdv A outer s H E ss O R hr hpo h => ?_
  obtain ⟨C, t, rfl, hC, hn, h⟩ := h
  obtain ⟨CT, I_Tree, tI, tRd, tFe, tL, tIt, tE, tS, tEv, na1, na2, na3, na4, na5⟩ := Z.c_Tree
  obtain rfl := at_inj hC I_Tree.at_
  obtain ⟨nm, mk, cs, rfl⟩ := nd_eq t
  rw [htN] at hn
  -- 0:self 1:other
  refine sw_cons ?_
  refine s1_if ?_
  refine tw_not ?_
  refine tw_val ?_
  refine ew_callB (T.no Z.n_isinstance) bt_isinstance ?_
  refine aw_cons ?_
  refine ew_var 1 ?_
  refine aw_cons ?_
  refine ew_cls (T.is I_Tree.at_) ?_
  refine aw_nil ?_
  refine cb_isC kit_self (.inr ⟨_, I_Tree.ins, by rw [ndD]; rfl, rfl⟩) ?_
  refine ⟨_, rfl, fun ht => ?_, fun ht => ?_⟩
  · cases ht
  · refine sw_nil ?_
    refine sw_one ?_
    refine s1_ret ?_
    refine ew_cmp ?_
    refine ew_tup ?_
    refine aw_cons ?_
    refine ew_name I_Tree.ins.cl na1 ?_
    refine ew_var 0 ?_
    refine ⟨_, rfl, ?_⟩
    refine aw_cons ?_
    refine ew_mark I_Tree.ins.cl na2 ?_
    refine ew_var 0 ?_
    refine ⟨_, rfl, ?_⟩
    refine aw_cons ?_
    refine ew_children I_Tree.ins.cl na3 ?_
    refine ew_var 0 ?_
    refine ⟨_, rfl, ?_⟩
    refine aw_nil ?_
    refine ⟨[_, _, _], rfl, by walk_at "few", ?_⟩
    refine ew_tup ?_
    refine aw_cons ?_
    refine ew_name I_Tree.ins.cl na1 ?_
    refine ew_var 1 ?_
    refine ⟨_, rfl, ?_⟩
    refine aw_cons ?_
    refine ew_mark I_Tree.ins.cl na2 ?_
    refine ew_var 1 ?_
    refine ⟨_, rfl, ?_⟩
    refine aw_cons ?_
    refine ew_children I_Tree.ins.cl na3 ?_
    refine ew_var 1 ?_
    refine ⟨_, rfl, ?_⟩
    refine aw_nil ?_
    refine ⟨[_, _, _], rfl, by walk_at "few", ?_⟩
    
    refine ob_eqTup3 (dom := fun d => ∃ c, d = ndD C c ∧ htN c ≤ n) (EQ _ hC) (fun d O R ⟨c, e, hc⟩ hR => by subst e; exact ⟨C, c, rfl, hC, hc, hR⟩) (fun d ⟨c, e, _⟩ => by
      subst e
      obtain ⟨a, b, ds, rfl⟩ := nd_eq c
      exact ⟨_, _, _, _, by rw [ndD]⟩) (hr.r.mono (by omega)) (fun d hd => ?_) ?_
    · rw [ndDs_map] at hd
      obtain ⟨c, hc, rfl⟩ := List.mem_map.mp hd
      have hc : c ∈ cs := hc
      exact ⟨c, rfl, by have := htNs_mem hc; have hn : 1 + htNs cs ≤ n + 1 := hn; omega⟩
    exact h
theorem fn_Tree_eqN (T : TopOf K mg) (Z : Facts K) : ∀ (n : Nat) {f : Addr} {fd : FuncData} (F : L2.Fun K "__eq__" "Tree.__eq__" s_Tree_eq f fd), Fn P w K mg base false (3 * n + 1) f fd ["self", "other"] (TEqS K n)
  | 0, f, fd, F => fn_mk F sc_Tree_eq (fun ss O R ⟨_, _, e, _⟩ => by rw [e]; rfl) fun cdv A outer s H E ss O R hr hpo h => by
    obtain ⟨_, t, _, _, h0, _⟩ := h
    have := htN_pos t
    omega
  | n + 1, f, fd, F => fn_Tree_eqS T Z n (fun C hC => by
    obtain ⟨CT, I_Tree, tI, tRd, tFe, tL, tIt, tE, tS, tEv, na1, na2, na3, na4, na5⟩ := Z.c_Tree
    obtain rfl := at_inj hC I_Tree.at_
    exact eqc_of I_Tree tE (by walk_at "b2") fun f fd F => fn_Tree_eqN T Z n F) F
theorem eq_Tree (T : TopOf K mg) (Z : Facts K) (n : Nat) {C : Addr} (hC : clsAt K "Tree" C) : EqC P w K mg base (3 * n + 1) C (TEqS K n) := by
  obtain ⟨CT, I_Tree, tI, tRd, tFe, tL, tIt, tE, tS, tEv, na1, na2, na3, na4, na5⟩ := Z.c_Tree
  obtain rfl := at_inj hC I_Tree.at_
  exact eqc_of I_Tree tE (by walk_at "b2") fun f fd F => fn_Tree_eqN T Z n F
end
def FromTS (K : PySem.W.Frag) : SpecT := fun ss O R => ∃ (CT CR CN : Addr) (ds : List Dat), ss = [.dat (.cls CT), .dat (.tup ds)] ∧ clsAt K "Tree" CT ∧ clsAt K "Row" CR ∧ clsAt K "NoTree" CN ∧ ds.length ≤ 500 ∧ (∀ e ∈ ds, EvOk e ∧ smMark e) ∧
  (∀ i, fromE ds = .inl i → R (.exc (.own CN [("at", .int (i : Int))])) O) ∧ ∀ t, fromE ds = .inr t → R (.ret (.dat (ndD CT t))) O
section
variable {P : Program} {w : World} {K : PySem.W.Frag} {mg : Str → Option Value} {base : Heap}
theorem fn_from_eventsT (T : TopOf K mg) (Z : Facts K) {f : Addr} {fd : FuncData} (F : L2.Fun K "from_events" "Tree.from_events" s_Tree_from_events f fd) : Fn P w K mg base false (10) f fd ["cls", "events"] (FromTS K) := by
  have sc := sc_Tree_from_events
  refine fn_mk F sc_Tree_from_events (fun ss O R h => by first | (obtain ⟨_, rfl, _⟩ := h; rfl) | (obtain ⟨_, _, rfl, _⟩ := h; rfl) | (obtain ⟨_, _, _, rfl, _⟩ := h; rfl) | (obtain ⟨_, _, _, _, rfl, _⟩ := h; rfl) | (obtain ⟨_, _, _, _, _, rfl, _⟩ := h; rfl) | (obtain ⟨_, _, _, _, _, _, rfl, _⟩ := h; rfl) | (obtain ⟨_, _, _, _, _, _, _, rfl, _⟩ := h; rfl)) fun cdv A outer s H E ss O R hr hpo h => ?_
  obtain ⟨CT, CR, CN, ds, rfl, hCT, hCR, hCN, hl, hok, hx, hv⟩ := h
  obtain ⟨C', I_Row, mI, pW, mC, mT, ⟨q0, t_done⟩, ⟨q1, t_heads⟩, ⟨q2, t_rows⟩⟩ := Z.c_Row
  obtain rfl := at_inj hCR I_Row.at_
  have mk_Row : MkC P w K mg base 1 CR (RInitS K) [] := mkc_ofS I_Row mI (by walk_at "b1") fun f fd F => fn_Row_init T Z F
  have m_can : MCal P w K mg base false 5 CR "can_take" (CanS K) [] := mcal_of mC (by walk_at "b2") fun f fd F => fn_Row_can_take T Z F
  have m_take : MCal P w K mg base false 3 CR "take" (TakeS K) [] := mcal_of mT (by walk_at "b2") fun f fd F => fn_Row_take T Z F
  obtain ⟨CN', BN, XN, nfN, xc⟩ := xc_NoTree (P := P) (w := w) (base := base) T Z
  obtain rfl : CN' = CN := by
    have q := XN.a.at_.symm.trans hCN
    cases q
    rfl
  refine sw_drop ?_
  -- 0:cls 1:events 2:row 3:at 4:event
  refine sw_cons ?_
  refine s1_set 2 ?_ sc.nd
  refine ew_makeSl0 mk_Row (T.is I_Row.at_) hr ?_
  intro a adx ha hadx hne
  refine ⟨a, CR, adx, CT, rfl, hCR, up_at, fun A O1 e1 hA hb n1 n2 n3 => ⟨rfl, ?_⟩⟩
  subst e1
  have hsub : Sub O O1 := fun b c hbc => by
    have nb : b ≠ A.f := own_ne hbc ha
    exact hb b c (by simp [nb]) (by rw [up_ne nb]; exact hbc)
  refine sw_cons ?_
  refine s1_for hpo ?_
  refine iw_enumT (T.no Z.n_enumerate) ?_
  refine aw_cons ?_
  refine ew_var 1 ?_
  refine aw_nil ?_
  refine ⟨_, rfl, ?_⟩
  refine ⟨fun i ρ' O' => ∃ (s3 s4 : Slot) (ls : List Addr), ρ' = [.dat (.cls CT), .dat (.tup ds), .own A.f, s3, s4] ∧ RwAt CR CT O' A ls (runsR ([], []) (ds.take i)).1 (runsR ([], []) (ds.take i)).2 ∧ Sub O O' ∧ goodR ([], []) (ds.take i) ∧ RowOk i (runsR ([], []) (ds.take i)) ∧ (∀ b ∈ A.keys ++ ls, O b = none), ?_, ?_, ?_⟩
  · refine ⟨_, _, [], rfl, hA, hsub, trivial, ⟨(fun q hq => nomatch hq), (fun t ht => nomatch ht), ?_⟩, fun b hb => ?_⟩
    · show szNs [] + 0 ≤ 0
      rw [szNs]; exact Nat.le_refl _
    · have q : ∀ y, (Kn.up O A.f (.slt CR adx [])) y = none → O y = none := fun y hy => by
        by_cases e : y = A.f
        · rw [e]; exact ha
        · rw [up_ne e] at hy; exact hy
      have hb : b ∈ [A.f, A.d, A.h, A.r] := by simpa [Rw.keys] using hb
      simp only [List.mem_cons, List.not_mem_nil, or_false] at hb
      rcases hb with rfl | rfl | rfl | rfl
      · exact ha
      · exact q _ n1
      · exact q _ n2
      · exact q _ n3
  · intro i d ρ2 O2 hj hd
    obtain ⟨s3, s4, ls, rfl, hA, hsub, hgd, hro, hnew⟩ := hj
    unfold enumD at hd
    rw [List.getElem?_mapIdx] at hd
    obtain ⟨e, hei, rfl⟩ := Option.map_eq_some_iff.mp hd
    obtain ⟨hev, hsm⟩ := hok e (List.mem_of_getElem? hei)
    have hil : i < ds.length := by
      rcases Nat.lt_or_ge i ds.length with q | q
      · exact q
      · rw [List.getElem?_eq_none q] at hei; cases hei
    have htk : ds.take (i + 1) = ds.take i ++ [e] := by rw [List.take_add_one, hei]; rfl
    have hst0 := from_stop (d := e) hei hgd
    have hgs := goodR_snoc (d := e) hgd
    have hrs := runsR_snoc ([], []) (ds.take i) e
    generalize runsR ([], []) (ds.take i) = S at hA hro hst0 hgs hrs
    obtain ⟨done, st⟩ := S
    refine gw_tup ?_
    refine gsw_cons ?_
    refine gw_name 3 ?_ sc.nd
    refine gsw_cons ?_
    refine gw_name 4 ?_ sc.nd
    refine gsw_nil ?_
    refine sw_cons ?_
    refine s1_if ?_
    refine tw_tv (t := !(done.isEmpty && canR st e)) ?_ ?_
    · refine tw_w ?_
      refine tww_or ?_
      refine tw_cmp ?_
      refine ew_callB (T.no Z.n_len) bt_len ?_
      refine aw_cons ?_
      refine ew_slot I_Row.sc t_done ?_
      refine ew_var 2 ?_
      refine ⟨A.f, A.dx, _, _, rfl, hA.f, rfl, ?_⟩
      refine aw_nil ?_
      refine cb_lenO hA.d ?_
      refine ew_int ?_
      refine ob_gt ?_
      refine ⟨_, rfl, fun ht => ?_, fun ht => ?_⟩
      · have ht := of_decide_eq_true ht
        cases done with
        | nil => exact absurd ht (show ¬ (0 : Int) < ((0 : Nat) : Int) by decide)
        | cons t r => exact ⟨rfl, rfl⟩
      · have ht := of_decide_eq_false ht
        cases done with
        | cons t r => exact absurd (show (0 : Int) < _ from by rw [List.length_map, List.length_map, List.length_cons]; omega) ht
        | nil =>
          refine tww_or1 ?_
          refine tw_not ?_
          refine tw_val ?_
          refine ew_methSl m_can I_Row.sc hr ?_
          refine ew_var 2 ?_
          refine ⟨⟨_, _, hA.f⟩, ?_⟩
          refine aw_cons ?_
          refine ew_var 4 ?_
          refine aw_nil ?_
          refine ⟨CR, CT, A, ls, [], st, e, rfl, hCR, hA, hev, ?_⟩
          exact ⟨_, rfl, rfl, rfl⟩
    refine ⟨fun ht => ?_, fun ht => ?_⟩
    · refine sw_one ?_
      refine s1_raise xc hr ?_
      refine aw_cons ?_
      refine ew_var 3 ?_
      refine aw_nil ?_
      refine raised1 flatD_int ?_
      refine ⟨O, hsub, hx i (hst0 ?_)⟩
      cases h9 : (done.isEmpty && canR st e) with
      | true => rw [h9] at ht; cases ht
      | false => rfl
    · obtain ⟨hde, hce⟩ : done.isEmpty = true ∧ canR st e = true := by simpa using ht
      obtain rfl : done = [] := List.isEmpty_iff.mp hde
      have hie : isEvD e = true := by
        unfold canR at hce
        exact (Bool.and_eq_true_iff.mp hce).1
      have heq : e = evD (evOf e) ∧ (∀ n m, evOf e = some (n, m) → isNm n = true ∧ 0 ≤ m ∧ m < 1000000000000) ∧ (evOf e = none → st ≠ []) := by
        rcases isEv_of hie hev with ⟨n, m, rfl, h1, h2⟩ | rfl
        · refine ⟨by rw [evOf_D], fun n' m' q => ?_, fun q => ?_⟩
          · rw [evOf_D] at q
            injection q with q
            injection q with q1 q2
            subst q1 q2
            exact ⟨h1, h2, hsm _ _ rfl⟩
          · rw [evOf_D] at q; cases q
        · refine ⟨by rw [evOf_D], fun n' m' q => ?_, fun _ q => ?_⟩
          · rw [evOf_D] at q; cases q
          · subst q
            have : canR [] (evD none) = false := by decide +kernel
            rw [this] at hce; cases hce
      obtain ⟨heq, hnm, hnn⟩ := heq
      have hro1 := rowOk_step hro hnm
      have hsz : (st.map fun q => 1 + szNs q.cs).sum ≤ i := by
        have := hro.sz
        have e0 : szNs ([] : List Nd) = 0 := by rw [szNs]
        have this : szNs ([] : List Nd) + (st.map fun q => 1 + szNs q.cs).sum ≤ i := this
        omega
      refine sw_nil ?_
      refine sw_one ?_
      refine s1_expr ?_
      refine ew_methSl m_take I_Row.sc hr ?_
      refine ew_var 2 ?_
      refine ⟨⟨_, _, hA.f⟩, ?_⟩
      refine aw_cons ?_
      refine ew_var 4 ?_
      refine aw_nil ?_
      refine ⟨CR, CT, A, ls, [], st, evOf e, by rw [← heq]; rfl, hCR, hCT, hA, hnn, fun q hq => ?_, ?_, Nat.zero_le _, fun O3 ls' hA' hb' hl' => ?_⟩
      · have h1 := sum_ge hq
        have h2 := szNs_len q.cs
        exact ⟨hro.st q hq, by omega, by omega⟩
      · have := sum_len st; omega
      refine ⟨_, _, ls', rfl, by rw [htk, hrs]; exact hA', fun b c hbc => ?_, by rw [htk]; exact hgs hde hce, by rw [htk, hrs]; exact hro1, fun b hb => ?_⟩
      · refine hb' b c (fun q => ?_) (hsub b c hbc)
        rw [hnew b q] at hbc; cases hbc
      · rcases List.mem_append.mp hb with hb | hb
        · exact hnew b (List.mem_append.mpr (.inl hb))
        · rcases hl' b hb with q | q
          · exact hnew b (List.mem_append.mpr (.inr q))
          · cases hO : O b with
            | none => rfl
            | some c => rw [hsub b c hO] at q; cases q
  · intro ρ2 O2 hj
    obtain ⟨s3, s4, ls, rfl, hA, hsub, hgd, hro, hnew⟩ := hj
    have e : ds.take (enumD ds).length = ds := by
      unfold enumD
      rw [List.length_mapIdx, List.take_length]
    rw [e] at hA hgd hro
    have hend := from_end hgd
    generalize runsR ([], []) ds = S at hA hro hend
    obtain ⟨done, st⟩ := S
    refine sw_cons ?_
    refine s1_if ?_
    refine tw_cmp ?_
    refine ew_callB (T.no Z.n_len) bt_len ?_
    refine aw_cons ?_
    refine ew_slot I_Row.sc t_done ?_
    refine ew_var 2 ?_
    refine ⟨A.f, A.dx, _, _, rfl, hA.f, rfl, ?_⟩
    refine aw_nil ?_
    refine cb_lenO hA.d ?_
    refine ew_int ?_
    walk_at "cmp Eq"
    refine ⟨_, rfl, fun ht => ?_, fun ht => ?_⟩
    · refine sw_one ?_
      refine s1_raise xc hr ?_
      refine aw_cons ?_
      refine ew_callB (T.no Z.n_len) bt_len ?_
      refine aw_cons ?_
      refine ew_var 1 ?_
      refine aw_nil ?_
      refine cb_lenT ?_
      refine aw_nil ?_
      refine raised1 flatD_int ?_
      have hd0 : done = [] := by
        have h8 := of_decide_eq_true ht
        rw [List.length_map, List.length_map] at h8
        have h8 : ((done.length : Nat) : Int) = 0 := h8
        exact List.length_eq_zero_iff.mp (by omega)
      subst hd0
      exact ⟨O, hsub, hx _ hend⟩
    · obtain ⟨t, r, rfl⟩ : ∃ t r, done = t :: r := by
        cases done with
        | nil => exact absurd rfl (of_decide_eq_false ht)
        | cons t r => exact ⟨t, r, rfl⟩
      refine sw_nil ?_
      refine sw_one ?_
      refine s1_ret ?_
      refine ew_ix ?_
      refine ew_slot I_Row.sc t_done ?_
      refine ew_var 2 ?_
      refine ⟨A.f, A.dx, _, _, rfl, hA.f, rfl, ?_⟩
      refine ew_int ?_
      refine ix_own hA.d (s := .dat (ndD CT t)) (atI_nat (j := 0) rfl) ?_
      exact ⟨O, hsub, hv t hend⟩
end
structure HT (O : Own) (p hq rq : Addr) (b : Cell) (st : List Op) (ls : List Addr) (O' : Own) : Prop where
  box : O' p = some b
  isb : isBox b
  h : O' hq = some (.lst ((st.reverse.map opD).map .dat))
  r : O' rq = some (.lst (ls.reverse.map .own))
  k : Paired (fun a q => O' a = some (.lst ((q.cs.map lwD).map .dat))) ls st
  ph : p ≠ hq
  pr : p ≠ rq
  hr : hq ≠ rq
  nk : ∀ a ∈ ls, a ≠ p ∧ a ≠ hq ∧ a ≠ rq
  nl : ls.Nodup
  keep : ∀ q v, q ≠ p → O q = some v → O' q = some v
  nh : O hq = none
  nr : O rq = none
  ns : ∀ a ∈ ls, O a = none
def closeOp (q q2 : Op) : Op := ⟨q2.n, q2.m, q2.cs ++ [Nd.mk q.n q.m q.cs]⟩
section
variable {O O' : Own} {p hq rq : Addr} {b : Cell} {st : List Op} {ls : List Addr}
theorem ne_free {x y : Addr} {v : Cell} (h : O x = none) (e : O y = some v) : y ≠ x := fun z => by rw [z, h] at e; cases e
theorem HT.draw {b' : Cell} (h : HT O p hq rq b st ls O') (hb : isBox b') : HT O p hq rq b' st ls (up O' p b') where
  box := up_at
  isb := hb
  h := by rw [up_ne h.ph.symm]; exact h.h
  r := by rw [up_ne h.pr.symm]; exact h.r
  k := by
    have hk := h.k
    have nk := h.nk
    clear h
    induction hk with
    | nil => exact .nil
    | cons e _ ih => exact .cons (by rw [up_ne (nk _ (List.mem_cons_self ..)).1]; exact e) (ih fun a ha => nk a (List.mem_cons_of_mem _ ha))
  ph := h.ph
  pr := h.pr
  hr := h.hr
  nk := h.nk
  nl := h.nl
  keep := fun q v n e => by rw [up_ne n]; exact h.keep q v n e
  nh := h.nh
  nr := h.nr
  ns := h.ns
theorem paired_keep {O1 : Own} {ls : List Addr} {st : List Op} (hk : Paired (fun a q => O' a = some (.lst ((q.cs.map lwD).map .dat))) ls st) (e : ∀ a ∈ ls, O1 a = O' a) : Paired (fun a q => O1 a = some (.lst ((q.cs.map lwD).map .dat))) ls st := by
  induction hk with
  | nil => exact .nil
  | cons h _ ih => exact .cons (by rw [e _ (List.mem_cons_self ..)]; exact h) (ih fun a ha => e a (List.mem_cons_of_mem _ ha))
/-- the last open node is closed -/
theorem HT.close {a a2 : Addr} {q q2 : Op} {r : List Op} (h : HT O p hq rq b (q :: q2 :: r) (a :: a2 :: ls) O') :
    HT O p hq rq b (closeOp q q2 :: r) (a2 :: ls) (up (up (dn (up O' rq (.lst ((a2 :: ls).reverse.map .own))) a) hq (.lst (((q2 :: r).reverse.map opD).map .dat))) a2 (.lst (((q2.cs ++ [Nd.mk q.n q.m q.cs]).map lwD).map .dat))) := by
  have na := h.nk a (List.mem_cons_self ..)
  have na2 := h.nk a2 (List.mem_cons_of_mem _ (List.mem_cons_self ..))
  have hnl := h.nl
  rw [List.nodup_cons, List.nodup_cons] at hnl
  have naa : a2 ≠ a := fun e => hnl.1 (by rw [← e]; exact List.mem_cons_self ..)
  have hk := h.k
  cases hk with
  | cons e1 hk =>
    cases hk with
    | cons e2 hk =>
      refine ⟨?_, h.isb, ?_, ?_, .cons (by rw [up_at]; rfl) (paired_keep hk fun c hc => ?_), h.ph, h.pr, h.hr, fun c hc => h.nk c (List.mem_cons_of_mem _ hc), by rw [List.nodup_cons]; exact hnl.2, fun x v n e => ?_, h.nh, h.nr, fun c hc => h.ns c (List.mem_cons_of_mem _ hc)⟩
      · rw [up_ne na2.1.symm, up_ne h.ph, dn_ne na.1.symm, up_ne h.pr]; exact h.box
      · rw [up_ne na2.2.1.symm, up_at, List.reverse_cons, List.reverse_cons, List.map_append (f := opD), List.map_append (f := opD)]; rfl
      · rw [up_ne na2.2.2.symm, up_ne h.hr.symm, dn_ne na.2.2.symm, up_at]
      · have nc := h.nk c (List.mem_cons_of_mem _ (List.mem_cons_of_mem _ hc))
        have c2 : c ≠ a2 := fun e => hnl.2.1 (e ▸ hc)
        have c1 : c ≠ a := fun e => hnl.1 (List.mem_cons_of_mem _ (e ▸ hc))
        rw [up_ne c2, up_ne nc.2.1, dn_ne c1, up_ne nc.2.2]
      · have x1 : x ≠ a2 := ne_free (h.ns a2 (List.mem_cons_of_mem _ (List.mem_cons_self ..))) e
        have x2 : x ≠ hq := ne_free h.nh e
        have x3 : x ≠ a := ne_free (h.ns a (List.mem_cons_self ..)) e
        have x4 : x ≠ rq := ne_free h.nr e
        rw [up_ne x1, up_ne x2, dn_ne x3, up_ne x4]; exact h.keep x v n e
/-- a node is opened -/
theorem HT.open {a : Addr} {n : Str} {m : Int} (h : HT O p hq rq b st ls O') (hn : up O' hq (.lst (((⟨n, m, []⟩ :: st : List Op).reverse.map opD).map .dat)) a = none) :
    HT O p hq rq b (⟨n, m, []⟩ :: st) (a :: ls) (up (up (up O' hq (.lst (((⟨n, m, []⟩ :: st : List Op).reverse.map opD).map .dat))) a (.lst [])) rq (.lst ((a :: ls).reverse.map .own))) := by
  have ah : a ≠ hq := fun e => by rw [e, up_at] at hn; cases hn
  have hn : O' a = none := by rw [up_ne ah] at hn; exact hn
  have ap : a ≠ p := fun e => by rw [e, h.box] at hn; cases hn
  have ar : a ≠ rq := fun e => by rw [e, h.r] at hn; cases hn
  have al : a ∉ ls := fun hm => by
    have : ∀ {ls : List Addr} {st : List Op}, Paired (fun a q => O' a = some (.lst ((q.cs.map lwD).map .dat))) ls st → a ∈ ls → ∃ v, O' a = some v := by
      intro ls st hk hm
      induction hk with
      | nil => cases hm
      | cons e _ ih =>
        rcases List.mem_cons.mp hm with rfl | hm
        · exact ⟨_, e⟩
        · exact ih hm
    obtain ⟨v, e⟩ := this h.k hm
    rw [hn] at e; cases e
  refine ⟨?_, h.isb, ?_, up_at, .cons ?_ (paired_keep h.k fun c hc => ?_), h.ph, h.pr, h.hr, fun c hc => ?_, List.nodup_cons.mpr ⟨al, h.nl⟩, fun x v n e => ?_, h.nh, h.nr, fun c hc => ?_⟩
  · rw [up_ne h.pr, up_ne ap.symm, up_ne h.ph]; exact h.box
  · rw [up_ne h.hr, up_ne ah.symm, up_at]
  · rw [up_ne ar, up_at]; rfl
  · have nc := h.nk c hc
    have ca : c ≠ a := fun e => al (by rw [← e]; exact hc)
    rw [up_ne nc.2.2, up_ne ca, up_ne nc.2.1]
  · rcases List.mem_cons.mp hc with rfl | hc
    · exact ⟨ap, ah, ar⟩
    · exact h.nk c hc
  · have x1 := ne_free h.nh e
    have x2 := ne_free h.nr e
    have e' := h.keep x v n e
    have x3 : x ≠ a := fun z => by rw [z, hn] at e'; cases e'
    rw [up_ne x2, up_ne x3, up_ne x1]; exact e'
  · rcases List.mem_cons.mp hc with rfl | hc
    · cases e : O c with
      | none => rfl
      | some v => rw [h.keep c v ap e] at hn; cases hn
    · exact h.ns c hc
end
def mkOk (m : Int) : Prop := 0 ≤ m ∧ m < 1000000
def gdT (t : Nd) : Prop := ∀ n m, some (n, m) ∈ evsN t → isNm n = true ∧ mkOk m
structure OpsG (st : List Op) (k : Nat) : Prop where
  nm : ∀ q ∈ st, isNm q.n = true ∧ mkOk q.m
  kids : ∀ q ∈ st, ∀ c ∈ q.cs, gdT c
  sz : (st.map fun q => 1 + szNs q.cs).sum = k
theorem evsNs_in {e : Ev} : ∀ {cs : List Nd}, e ∈ evsNs cs → ∃ c ∈ cs, e ∈ evsN c
  | [], h => by rw [evsNs] at h; cases h
  | c :: cs, h => by
    rw [evsNs] at h
    rcases List.mem_append.mp h with h | h
    · exact ⟨c, List.mem_cons_self .., h⟩
    · obtain ⟨d, h1, h2⟩ := evsNs_in h
      exact ⟨d, List.mem_cons_of_mem _ h1, h2⟩
theorem gd_mk {n : Str} {m : Int} {cs : List Nd} (h : isNm n = true ∧ mkOk m) (hc : ∀ c ∈ cs, gdT c) : gdT (Nd.mk n m cs) := fun n' m' e => by
  rw [evsN] at e
  rcases List.mem_cons.mp e with e | e
  · cases e; exact h
  · rcases List.mem_append.mp e with e | e
    · obtain ⟨c, h1, h2⟩ := evsNs_in e
      exact hc c h1 n' m' h2
    · cases List.mem_singleton.mp e
theorem szNs_snoc (c : Nd) : ∀ cs : List Nd, szNs (cs ++ [c]) = szNs cs + szN c
  | [] => by
    have e : szNs ([] : List Nd) = 0 := by rw [szNs]
    have e1 : szNs [c] = szN c + szNs [] := by simp only [szNs]
    rw [List.nil_append, e1, e]; omega
  | d :: cs => by rw [List.cons_append, szNs, szNs_snoc c cs, szNs]; omega
theorem OpsG.close {q q2 : Op} {r : List Op} {k : Nat} (h : OpsG (q :: q2 :: r) k) : OpsG (closeOp q q2 :: r) k := by
  have hq := h.nm q (List.mem_cons_self ..)
  have hq2 := h.nm q2 (List.mem_cons_of_mem _ (List.mem_cons_self ..))
  refine ⟨fun x hx => ?_, fun x hx c hc => ?_, ?_⟩
  · rcases List.mem_cons.mp hx with rfl | hx
    · exact hq2
    · exact h.nm x (List.mem_cons_of_mem _ (List.mem_cons_of_mem _ hx))
  · rcases List.mem_cons.mp hx with rfl | hx
    · rcases List.mem_append.mp hc with hc | hc
      · exact h.kids q2 (List.mem_cons_of_mem _ (List.mem_cons_self ..)) c hc
      · rw [List.mem_singleton.mp hc]
        exact gd_mk hq (h.kids q (List.mem_cons_self ..))
    · exact h.kids x (List.mem_cons_of_mem _ (List.mem_cons_of_mem _ hx)) c hc
  · have := h.sz
    rw [List.map_cons, List.map_cons, List.sum_cons, List.sum_cons] at this
    rw [List.map_cons, List.sum_cons]
    show 1 + szNs (q2.cs ++ [Nd.mk q.n q.m q.cs]) + _ = k
    rw [szNs_snoc, szN]; omega
theorem OpsG.open {st : List Op} {k : Nat} {n : Str} {m : Int} (h : OpsG st k) (hn : isNm n = true) (hm : mkOk m) : OpsG (⟨n, m, []⟩ :: st) (k + 1) := by
  refine ⟨fun x hx => ?_, fun x hx c hc => ?_, ?_⟩
  · rcases List.mem_cons.mp hx with rfl | hx
    · exact ⟨hn, hm⟩
    · exact h.nm x hx
  · rcases List.mem_cons.mp hx with rfl | hx
    · cases hc
    · exact h.kids x hx c hc
  · have := h.sz
    rw [List.map_cons, List.sum_cons]
    show 1 + szNs [] + _ = k + 1
    rw [szNs]; omega
def oddV1 (m : Int) : List Dat := [.tup [.str "close"], .tup [.str "open", .str "a", .int m], .tup [.str "open", .str "b", .int m], .tup [.str "close", .int 1], .tup [.str "open", .str "a"], .tup [.str "open", .str "A", .int 1], .str "/"]
def oddV2 : List Dat := [.non, .int 3, .lst [.str "close"], .tup [.str "open", .str "a", .int (0 - 1)], .tup [.str "open", .str "a", .bl true], .tup [.str "open", .str "a", .str "1"], .tup [.str "Open", .str "a", .int 1]]
def oddV3 : List Dat := [.tup [.str "open", .str "any", .int 1], .tup [], .str "close", .str "", .tup [.str "open", .int 1, .int 1], .tup [.str "open", .str "", .int 1], .lst [.str "open", .str "a", .int 1], .tup [.tup [.str "close"]]]
def oddV (m : Int) : List Dat := oddV1 m ++ oddV2 ++ oddV3
def oddW1 (m : Int) : List Str := ["/", Str.ofString "a:" ++ Str.ofString (toString m), Str.ofString "b:" ++ Str.ofString (toString m), "a", "A:1", "where:1", "", "/ /", "a:01", ":", "//", "a:1:1"]
def oddW2 : List Str := ["a:1\n/", "/\n", "a:1\n"]
def oddW3 : List Str := ["abcdefghi:1", Str.ofString "a:" ++ timesS "1" 13, "a:-1", "/:1"]
def oddW (m : Int) : List Str := oddW1 m ++ oddW2 ++ oddW3
def OddS : SpecT := fun ss O R => ∃ m : Int, ss = [.dat (.int m)] ∧ 0 ≤ m ∧ m < 1000000 ∧ R (.ret (.dat (.tup [.lst (oddV m), .lst ((oddW m).map .str)]))) O
section
variable {P : Program} {w : World} {K : PySem.W.Frag} {mg : Str → Option Value} {base : Heap}
theorem fn_law_odd (T : TopOf K mg) (Z : Facts K) {f : Addr} {fd : FuncData} (F : L2.Fun K "_law_odd" "_law_odd" s_law_odd f fd) : Fn P w K mg base false (1) f fd ["_law_fresh"] (OddS) := by
  have sc := sc_law_odd
  refine fn_mk F sc_law_odd (fun ss O R h => by first | (obtain ⟨_, rfl, _⟩ := h; rfl) | (obtain ⟨_, _, rfl, _⟩ := h; rfl) | (obtain ⟨_, _, _, rfl, _⟩ := h; rfl) | (obtain ⟨_, _, _, _, rfl, _⟩ := h; rfl) | (obtain ⟨_, _, _, _, _, rfl, _⟩ := h; rfl) | (obtain ⟨_, _, _, _, _, _, rfl, _⟩ := h; rfl) | (obtain ⟨_, _, _, _, _, _, _, rfl, _⟩ := h; rfl)) fun cdv A outer s H E ss O R hr hpo h => ?_
  obtain ⟨m, rfl, h0, h1, h⟩ := h
  have hlog : m.natAbs.log2 < 1920 := by
    by_cases hz : m.natAbs = 0
    · rw [hz]; decide
    · rw [Nat.log2_lt hz]
      exact Nat.lt_of_lt_of_le (show m.natAbs < 10 ^ 6 by omega) (by decide +kernel)
  have hts : (Str.ofString (toString m)).length ≤ 13 := by
    have := PyProof.Rows.toString_length_le (v := m) (k := 6) h0 (by decide) (by omega)
    exact Nat.le_trans this (by decide)
  -- 0:_law_fresh 1:_law_odd_here 2:_law_words
  refine sw_cons ?_
  refine s1_set 1 ?_ sc.nd
  refine ew_lst ?_
  refine aw_cons ?_
  refine ew_tup ?_
  refine aw_cons ?_
  refine ew_str ?_
  refine aw_nil ?_
  refine ⟨[_], rfl, by walk_at "few", ?_⟩
  refine aw_cons ?_
  refine ew_tup ?_
  refine aw_cons ?_
  refine ew_str ?_
  refine aw_cons ?_
  refine ew_str ?_
  refine aw_cons ?_
  refine ew_var 0 ?_
  refine aw_nil ?_
  refine ⟨[_, _, _], rfl, by walk_at "few", ?_⟩
  refine aw_cons ?_
  refine ew_tup ?_
  refine aw_cons ?_
  refine ew_str ?_
  refine aw_cons ?_
  refine ew_str ?_
  refine aw_cons ?_
  refine ew_var 0 ?_
  refine aw_nil ?_
  refine ⟨[_, _, _], rfl, by walk_at "few", ?_⟩
  refine aw_cons ?_
  refine ew_tup ?_
  refine aw_cons ?_
  refine ew_str ?_
  refine aw_cons ?_
  refine ew_int ?_
  refine aw_nil ?_
  refine ⟨[_, _], rfl, by walk_at "few", ?_⟩
  refine aw_cons ?_
  refine ew_tup ?_
  refine aw_cons ?_
  refine ew_str ?_
  refine aw_cons ?_
  refine ew_str ?_
  refine aw_nil ?_
  refine ⟨[_, _], rfl, by walk_at "few", ?_⟩
  refine aw_cons ?_
  refine ew_tup ?_
  refine aw_cons ?_
  refine ew_str ?_
  refine aw_cons ?_
  refine ew_str ?_
  refine aw_cons ?_
  refine ew_int ?_
  refine aw_nil ?_
  refine ⟨[_, _, _], rfl, by walk_at "few", ?_⟩
  refine aw_cons ?_
  refine ew_str ?_
  refine aw_nil ?_
  refine ⟨Nat.le_of_ble_eq_true rfl, fun q hq => ?_⟩
  refine sw_cons ?_
  refine s1_expr ?_
  refine ew_extend ?_
  refine ew_var 1 ?_
  refine ⟨?_, ?_⟩
  · exact ⟨rfl, _, up_at⟩
  refine ew_lstD ?_
  refine aw_cons ?_
  refine ew_non ?_
  refine aw_cons ?_
  refine ew_int ?_
  refine aw_cons ?_
  refine ew_lstD ?_
  refine aw_cons ?_
  refine ew_str ?_
  refine aw_nil ?_
  refine ⟨[_], rfl, by walk_at "few", ?_⟩
  refine aw_cons ?_
  refine ew_tup ?_
  refine aw_cons ?_
  refine ew_str ?_
  refine aw_cons ?_
  refine ew_str ?_
  refine aw_cons ?_
  refine ew_bin ?_
  refine ew_int ?_
  refine ew_int ?_
  refine ob_sub ?_
  refine aw_nil ?_
  refine ⟨[_, _, _], rfl, by walk_at "few", ?_⟩
  refine aw_cons ?_
  refine ew_tup ?_
  refine aw_cons ?_
  refine ew_str ?_
  refine aw_cons ?_
  refine ew_str ?_
  refine aw_cons ?_
  refine ew_bl ?_
  refine aw_nil ?_
  refine ⟨[_, _, _], rfl, by walk_at "few", ?_⟩
  refine aw_cons ?_
  refine ew_tup ?_
  refine aw_cons ?_
  refine ew_str ?_
  refine aw_cons ?_
  refine ew_str ?_
  refine aw_cons ?_
  refine ew_str ?_
  refine aw_nil ?_
  refine ⟨[_, _, _], rfl, by walk_at "few", ?_⟩
  refine aw_cons ?_
  refine ew_tup ?_
  refine aw_cons ?_
  refine ew_str ?_
  refine aw_cons ?_
  refine ew_str ?_
  refine aw_cons ?_
  refine ew_int ?_
  refine aw_nil ?_
  refine ⟨[_, _, _], rfl, by walk_at "few", ?_⟩
  refine aw_nil ?_
  refine ⟨[_, _, _, _, _, _, _], rfl, by walk_at "few", ?_⟩
  
  refine mb_extendL up_at (Nat.le_of_ble_eq_true rfl) ?_
  rw [up_up]
  refine sw_cons ?_
  refine s1_expr ?_
  refine ew_extend ?_
  refine ew_var 1 ?_
  refine ⟨?_, ?_⟩
  · exact ⟨rfl, _, up_at⟩
  refine ew_lstD ?_
  refine aw_cons ?_
  refine ew_tup ?_
  refine aw_cons ?_
  refine ew_str ?_
  refine aw_cons ?_
  refine ew_str ?_
  refine aw_cons ?_
  refine ew_int ?_
  refine aw_nil ?_
  refine ⟨[_, _, _], rfl, by walk_at "few", ?_⟩
  refine aw_cons ?_
  refine ew_tup ?_
  refine aw_nil ?_
  refine ⟨[], rfl, by walk_at "few", ?_⟩
  refine aw_cons ?_
  refine ew_str ?_
  refine aw_cons ?_
  refine ew_str ?_
  refine aw_cons ?_
  refine ew_tup ?_
  refine aw_cons ?_
  refine ew_str ?_
  refine aw_cons ?_
  refine ew_int ?_
  refine aw_cons ?_
  refine ew_int ?_
  refine aw_nil ?_
  refine ⟨[_, _, _], rfl, by walk_at "few", ?_⟩
  refine aw_cons ?_
  refine ew_tup ?_
  refine aw_cons ?_
  refine ew_str ?_
  refine aw_cons ?_
  refine ew_str ?_
  refine aw_cons ?_
  refine ew_int ?_
  refine aw_nil ?_
  refine ⟨[_, _, _], rfl, by walk_at "few", ?_⟩
  refine aw_cons ?_
  refine ew_lstD ?_
  refine aw_cons ?_
  refine ew_str ?_
  refine aw_cons ?_
  refine ew_str ?_
  refine aw_cons ?_
  refine ew_int ?_
  refine aw_nil ?_
  refine ⟨[_, _, _], rfl, by walk_at "few", ?_⟩
  refine aw_cons ?_
  refine ew_tup ?_
  refine aw_cons ?_
  refine ew_tup ?_
  refine aw_cons ?_
  refine ew_str ?_
  refine aw_nil ?_
  refine ⟨[_], rfl, by walk_at "few", ?_⟩
  refine aw_nil ?_
  refine ⟨[_], rfl, by walk_at "few", ?_⟩
  refine aw_nil ?_
  refine ⟨[_, _, _, _, _, _, _, _], rfl, by walk_at "few", ?_⟩
  
  refine mb_extendL up_at (Nat.le_of_ble_eq_true rfl) ?_
  rw [up_up]
  refine sw_cons ?_
  refine s1_set 2 ?_ sc.nd
  refine ew_lstD ?_
  refine aw_cons ?_
  refine ew_str ?_
  refine aw_cons ?_
  refine ew_bin ?_
  refine ew_str ?_
  refine ew_callTy (T.no Z.n_str) bt_str ?_
  refine aw_cons ?_
  refine ew_var 0 ?_
  refine aw_nil ?_
  refine cb_strI hlog ?_
  refine ob_cat (Nat.le_trans (Nat.add_le_add_left hts _) (Nat.le_of_ble_eq_true rfl)) ?_
  refine aw_cons ?_
  refine ew_bin ?_
  refine ew_str ?_
  refine ew_callTy (T.no Z.n_str) bt_str ?_
  refine aw_cons ?_
  refine ew_var 0 ?_
  refine aw_nil ?_
  refine cb_strI hlog ?_
  refine ob_cat (Nat.le_trans (Nat.add_le_add_left hts _) (Nat.le_of_ble_eq_true rfl)) ?_
  refine aw_cons ?_
  refine ew_str ?_
  refine aw_cons ?_
  refine ew_str ?_
  refine aw_cons ?_
  refine ew_str ?_
  refine aw_cons ?_
  refine ew_str ?_
  refine aw_cons ?_
  refine ew_str ?_
  refine aw_cons ?_
  refine ew_str ?_
  refine aw_cons ?_
  refine ew_str ?_
  refine aw_cons ?_
  refine ew_str ?_
  refine aw_cons ?_
  refine ew_str ?_
  refine aw_nil ?_
  refine ⟨[_, _, _, _, _, _, _, _, _, _, _, _], rfl, by walk_at "few", ?_⟩
  refine sw_cons ?_
  refine s1_set 2 ?_ sc.nd
  refine ew_bin ?_
  refine ew_var 2 ?_
  refine ew_lstD ?_
  refine aw_cons ?_
  refine ew_str ?_
  refine aw_cons ?_
  refine ew_str ?_
  refine aw_cons ?_
  refine ew_str ?_
  refine aw_nil ?_
  refine ⟨[_, _, _], rfl, by walk_at "few", ?_⟩
  refine ob_catL (Nat.le_of_ble_eq_true rfl) ?_
  refine sw_one ?_
  refine s1_ret ?_
  refine ew_tup ?_
  refine aw_cons ?_
  refine ew_frz ?_
  refine ew_var 1 ?_
  refine ⟨q, oddV m, rfl, by rw [up_at]; rfl, ?_⟩
  rw [dn_up hq]
  refine aw_cons ?_
  refine ew_bin ?_
  refine ew_var 2 ?_
  refine ew_lstD ?_
  refine aw_cons ?_
  refine ew_str ?_
  refine aw_cons ?_
  refine ew_bin ?_
  refine ew_str ?_
  refine ew_bin ?_
  refine ew_str ?_
  refine ew_int ?_
  refine ob_timesL ⟨by decide, by decide⟩ (by decide +kernel) ?_
  refine ob_cat (by decide +kernel) ?_
  refine aw_cons ?_
  refine ew_str ?_
  refine aw_cons ?_
  refine ew_str ?_
  refine aw_nil ?_
  refine ⟨[_, _, _, _], rfl, by walk_at "few", ?_⟩
  refine ob_catL (Nat.le_of_ble_eq_true rfl) ?_
  refine aw_nil ?_
  refine ⟨[_, _], rfl, by walk_at "few", ?_⟩
  exact h
theorem c_law_odd (T : TopOf K mg) (Z : Facts K) : Cal P w K mg base false (1) "_law_odd" (OddS) [] := cal_of T Z.d_law_odd (by walk_at "b1") fun f fd F => fn_law_odd T Z F
end
def TreeS : SpecT := fun ss O R => ∃ (p : Addr) (b : Cell) (ws : List Str) (m : Int), ss = [.own p, .dat (.lst (ws.map .str)), .dat (.int m)] ∧ O p = some b ∧ isBox b ∧ 0 < ws.length ∧ ws.length ≤ 20 ∧ (∀ y ∈ ws, isNm y = true) ∧ 1 ≤ m ∧ m ≤ 100 ∧
  ∀ (b' : Cell) (t : Nd), isBox b' → gdT t → (szN t : Int) ≤ m → R (.ret (.dat (lwD t))) (up O p b')
/-- the marks that are drawn from -/
def marks0 (n : Nat) : List Int := [0, 1, 2, 1000, 999999] ++ (List.range n).map fun (i : Nat) => 3 + (i : Int)
theorem marks0_len (n : Nat) : (marks0 n).length = 5 + n := by unfold marks0; rw [List.length_append, List.length_map, List.length_range]; rfl
theorem marks_eq (n : Nat) : ([.int 0, .int 1, .int 2, .int 1000, .int 999999] ++ rangeD 3 n : List Dat) = (marks0 n).map .int := by
  unfold marks0 rangeD
  rw [List.map_append, List.map_map]; rfl
theorem marks0_ok {n : Nat} {x : Int} (hn : n ≤ 1000) (h : x ∈ marks0 n) : mkOk x := by
  unfold marks0 at h
  rcases List.mem_append.mp h with h | h
  · simp only [List.mem_cons, List.not_mem_nil, or_false] at h
    rcases h with rfl | rfl | rfl | rfl | rfl <;> constructor <;> decide
  · obtain ⟨i, hi, rfl⟩ := List.mem_map.mp h
    have := List.mem_range.mp hi
    constructor <;> omega
section
variable {P : Program} {w : World} {K : PySem.W.Frag} {mg : Str → Option Value} {base : Heap}
theorem fn_law_tree (T : TopOf K mg) (Z : Facts K) {f : Addr} {fd : FuncData} (F : L2.Fun K "_law_tree" "_law_tree" s_law_tree f fd) : Fn P w K mg base false (4) f fd ["_law_box_here", "_law_names_here", "_law_most"] (TreeS) := by
  have sc := sc_law_tree
  refine fn_mk F sc_law_tree (fun ss O R h => by first | (obtain ⟨_, rfl, _⟩ := h; rfl) | (obtain ⟨_, _, rfl, _⟩ := h; rfl) | (obtain ⟨_, _, _, rfl, _⟩ := h; rfl) | (obtain ⟨_, _, _, _, rfl, _⟩ := h; rfl) | (obtain ⟨_, _, _, _, _, rfl, _⟩ := h; rfl) | (obtain ⟨_, _, _, _, _, _, rfl, _⟩ := h; rfl) | (obtain ⟨_, _, _, _, _, _, _, rfl, _⟩ := h; rfl)) fun cdv A outer s H E ss O R hr hpo h => ?_
  obtain ⟨p, b, ws, m, rfl, hp, hb, hw0, hw1, hwn, hm0, hm1, h⟩ := h
  refine sw_drop ?_
  -- 0:_law_box_here 1:_law_names_here 2:_law_most 3:_law_marks 4:_law_heads 5:_law_rows 6:_law_mark 7:_law_turn 8:_law_children
  refine sw_cons ?_
  refine s1_set 3 ?_ sc.nd
  refine ew_frz ?_
  refine ew_call (c_law_mixed T Z) hr ?_
  refine aw_cons ?_
  refine ew_var 0 ?_
  refine aw_cons ?_
  refine ew_bin ?_
  refine ew_lstD ?_
  refine aw_cons ?_
  refine ew_int ?_
  refine aw_cons ?_
  refine ew_int ?_
  refine aw_cons ?_
  refine ew_int ?_
  refine aw_cons ?_
  refine ew_int ?_
  refine aw_cons ?_
  refine ew_int ?_
  refine aw_nil ?_
  refine ⟨[_, _, _, _, _], rfl, by walk_at "few", ?_⟩
  refine ew_frz ?_
  refine ew_listRange2 (T.no Z.n_list) (T.no Z.n_range) ?_
  refine ew_int ?_
  refine ew_bin ?_
  refine ew_int ?_
  refine ew_var 2 ?_
  refine ob_add ?_
  refine ⟨3, 4 + m, rfl, rfl, ⟨by decide, by decide, by omega, by omega, by omega⟩, fun q0 hq0 => ?_⟩
  refine ⟨q0, _, rfl, up_at, ?_⟩
  rw [dn_up hq0]
  refine ob_catL (by rw [rangeD_len, sizeLine_eq]; simp only [List.length_cons, List.length_nil]; omega) ?_
  refine aw_nil ?_
  rw [marks_eq]
  refine ⟨Int, marks0 (4 + m - 3).toNat, .int, p, b, rfl, hp, hb, by rw [marks0_len]; omega, fun q1 b1 mks hq1 hb1 hperm => ?_⟩
  have n1p : q1 ≠ p := (own_ne hp hq1).symm
  refine ⟨q1, mks.map .int, rfl, up_at, ?_⟩
  rw [dn_up (by rw [up_ne n1p]; exact hq1)]
  have hmk : ∀ x ∈ mks, mkOk x := fun x hx => marks0_ok (by omega) (hperm.mem_iff.mp hx)
  have hml : mks.length = 6 + m.toNat := by rw [hperm.length_eq, marks0_len]; omega
  refine sw_cons ?_
  refine s1_par 4 5 ?_ sc.nd
  refine aw_cons ?_
  refine ew_lst ?_
  refine aw_cons ?_
  refine ew_tup ?_
  refine aw_cons ?_
  refine ew_ix ?_
  refine ew_var 1 ?_
  refine ew_call (c_law_take T Z) hr ?_
  refine aw_cons ?_
  refine ew_var 0 ?_
  refine aw_cons ?_
  refine ew_callB (T.no Z.n_len) bt_len ?_
  refine aw_cons ?_
  refine ew_var 1 ?_
  refine aw_nil ?_
  refine cb_lenL ?_
  rw [List.length_map]
  refine aw_nil ?_
  refine ⟨p, _, b1, rfl, up_at, hb1, by omega, by omega, fun d0 b2 hd0 hd1 hb2 => ?_⟩
  rw [up_up]
  obtain ⟨y0, hy0⟩ : ∃ y, ws[d0.toNat]? = some y := ⟨_, List.getElem?_eq_getElem (by omega)⟩
  refine ix_lst (d := .str y0) (by rw [show d0 = ((d0.toNat : Nat) : Int) by omega]; exact atI_nat (by simpa using hy0)) ?_
  refine aw_cons ?_
  refine ew_ix ?_
  refine ew_var 3 ?_
  refine ew_int ?_
  obtain ⟨m0, hm00⟩ : ∃ y, mks[0]? = some y := ⟨_, List.getElem?_eq_getElem (by omega)⟩
  refine ix_lst (d := .int m0) (atI_nat (j := 0) (by simpa using hm00)) ?_
  refine aw_nil ?_
  refine ⟨[_, _], rfl, by walk_at "few", ?_⟩
  refine aw_nil ?_
  refine ⟨Nat.le_of_ble_eq_true rfl, fun hq hhq => ?_⟩
  refine aw_cons ?_
  refine ew_lst ?_
  refine aw_cons ?_
  refine ew_lst ?_
  refine aw_nil ?_
  refine ⟨Nat.zero_le _, fun a0 ha0 => ?_⟩
  refine aw_nil ?_
  refine ⟨Nat.le_of_ble_eq_true rfl, fun rq hrq => ?_⟩
  refine aw_nil ?_
  refine ⟨_, _, rfl, ?_⟩
  have hT0 : HT O p hq rq b2 [⟨y0, m0, []⟩] [a0] (up (up (up (up O p b2) hq (.lst [.dat (.tup [.str y0, .int m0])])) a0 (.lst [])) rq (.lst [.own a0])) := by
    have nhp : hq ≠ p := fun e => by rw [e, up_at] at hhq; cases hhq
    have nah : a0 ≠ hq := fun e => by rw [e, up_at] at ha0; cases ha0
    have nap : a0 ≠ p := fun e => by rw [e, up_ne nhp.symm, up_at] at ha0; cases ha0
    have nra : rq ≠ a0 := fun e => by rw [e, up_at] at hrq; cases hrq
    have nrh : rq ≠ hq := fun e => by rw [e, up_ne nah.symm, up_at] at hrq; cases hrq
    have nrp : rq ≠ p := fun e => by rw [e, up_ne nap.symm, up_ne nhp.symm, up_at] at hrq; cases hrq
    have oh : O hq = none := by rw [up_ne nhp] at hhq; exact hhq
    have oa : O a0 = none := by rw [up_ne nah, up_ne nap] at ha0; exact ha0
    have or_ : O rq = none := by rw [up_ne nra, up_ne nrh, up_ne nrp] at hrq; exact hrq
    refine ⟨by rw [up_ne nrp.symm, up_ne nap.symm, up_ne nhp.symm, up_at], hb2, by rw [up_ne nrh.symm, up_ne nah.symm, up_at]; rfl, by rw [up_at]; rfl, .cons (by rw [up_ne nra.symm, up_at]; rfl) .nil, nhp.symm, nrp.symm, nrh.symm, fun x hx => by rw [List.mem_singleton.mp hx]; exact ⟨nap, nah, nra.symm⟩, by simp, fun x v n e => ?_, oh, or_, fun x hx => by rw [List.mem_singleton.mp hx]; exact oa⟩
    rw [up_ne (ne_free or_ e), up_ne (ne_free oa e), up_ne (ne_free oh e), up_ne n]; exact e
  have hG0 : OpsG [⟨y0, m0, []⟩] 1 := ⟨fun x hx => by rw [List.mem_singleton.mp hx]; exact ⟨hwn _ (List.mem_of_getElem? hy0), hmk _ (List.mem_of_getElem? hm00)⟩, fun x hx => (by rw [List.mem_singleton.mp hx]; exact fun c hc => (nomatch hc)), by rw [List.map_singleton, List.sum_singleton]; show 1 + szNs [] = 1; rw [szNs]⟩
  generalize (up (up (up (up O p b2) hq (.lst [.dat (.tup [.str y0, .int m0])])) a0 (.lst [])) rq (.lst [.own a0])) = O1 at hT0
  refine sw_cons ?_
  refine s1_for hpo ?_
  refine iw_list ?_
  refine ew_slice ?_
  refine ew_var 3 ?_
  refine ow_some ?_
  refine ew_int ?_
  refine ⟨_, rfl, ?_⟩
  refine ow_some ?_
  refine ew_bin ?_
  refine ew_int ?_
  refine ew_call (c_law_take T Z) hr ?_
  refine aw_cons ?_
  refine ew_var 0 ?_
  refine aw_cons ?_
  refine ew_var 2 ?_
  refine aw_nil ?_
  refine ⟨p, m, b2, rfl, hT0.box, hb2, by omega, by omega, fun dd b3 hdd0 hdd1 hb3 => ?_⟩
  refine ob_add ?_
  refine ⟨_, rfl, ?_⟩
  refine sb_lst ?_
  rw [cut_two (show (0 : Int) ≤ 1 by decide) (show (1 : Int) ≤ 1 + dd by omega)]
  refine ⟨_, rfl, ?_⟩
  have hT1 := hT0.draw hb3
  generalize up O1 p b3 = O2 at hT1
  refine ⟨fun i ρ' O' => ∃ (b' : Cell) (st : List Op) (ls : List Addr) (s6 s7 s8 : Slot), ρ' = [.own p, .dat (.lst (ws.map .str)), .dat (.int m), .dat (.lst (mks.map .int)), .own hq, .own rq, s6, s7, s8] ∧ HT O p hq rq b' st ls O' ∧ OpsG st (i + 1) ∧ st ≠ [], ?_, ?_, ?_⟩
  · exact ⟨b3, _, _, _, _, _, rfl, hT1, hG0, by simp⟩
  · intro i d ρ2 O2 hj hd
    obtain ⟨b', st, ls, s6, s7, s8, rfl, hT, hG, hne⟩ := hj
    have hil : i < m.toNat := by
      have h1 := (List.getElem?_eq_some_iff.mp hd).1
      rw [List.length_take] at h1
      omega
    obtain ⟨mk, hmkd, rfl⟩ : ∃ mk, mks[1 + i]? = some mk ∧ Dat.int mk = d := by
      rw [List.getElem?_take, List.getElem?_drop] at hd
      split at hd
      · rw [List.getElem?_map] at hd
        exact Option.map_eq_some_iff.mp hd
      · cases hd
    have hmo := hmk _ (List.mem_of_getElem? hmkd)
    refine gw_name 6 ?_ sc.nd
    refine sw_cons ?_
    refine s1_for hpo ?_
    refine iw_range1 (T.no Z.n_range) ?_
    refine aw_cons ?_
    refine ew_ix ?_
    refine ew_lstD ?_
    refine aw_cons ?_
    refine ew_int ?_
    refine aw_cons ?_
    refine ew_int ?_
    refine aw_cons ?_
    refine ew_int ?_
    refine aw_cons ?_
    refine ew_int ?_
    refine aw_nil ?_
    refine ⟨[_, _, _, _], rfl, by walk_at "few", ?_⟩
    refine ew_call (c_law_take T Z) hr ?_
    refine aw_cons ?_
    refine ew_var 0 ?_
    refine aw_cons ?_
    refine ew_int ?_
    refine aw_nil ?_
    refine ⟨p, _, b', rfl, hT.box, hT.isb, by decide, by decide, fun d4 b4 h40 h41 hb4 => ?_⟩
    
    obtain ⟨n4, e4, n40, n41⟩ : ∃ n : Int, atI [Dat.int 0, .int 0, .int 1, .int 2] d4 = some (.int n) ∧ 0 ≤ n ∧ n ≤ 2 := by
      rcases (show d4 = 0 ∨ d4 = 1 ∨ d4 = 2 ∨ d4 = 3 by omega) with rfl | rfl | rfl | rfl
      · exact ⟨0, atI_nat (j := 0) rfl, by decide, by decide⟩
      · exact ⟨0, atI_nat (j := 1) rfl, by decide, by decide⟩
      · exact ⟨1, atI_nat (j := 2) rfl, by decide, by decide⟩
      · exact ⟨2, atI_nat (j := 3) rfl, by decide, by decide⟩
    refine ix_lst e4 ?_
    refine aw_nil ?_
    refine ⟨n4, rfl, by constructor <;> omega, ?_⟩
    have hT4 := hT.draw hb4
    refine ⟨fun j ρ' O' => ∃ (b' : Cell) (st : List Op) (ls : List Addr) (s7 s8 : Slot), ρ' = [.own p, .dat (.lst (ws.map .str)), .dat (.int m), .dat (.lst (mks.map .int)), .own hq, .own rq, .dat (.int mk), s7, s8] ∧ HT O p hq rq b' st ls O' ∧ OpsG st (i + 1) ∧ st ≠ [], ?_, ?_, ?_⟩
    · exact ⟨b4, _, _, _, _, rfl, hT4, hG, hne⟩
    · intro i d ρ2 O2 hj hd
      clear hT4 hT hG hne
      obtain ⟨b', st, ls, s7, s8, rfl, hT, hG, hne⟩ := hj
      refine gw_name 7 ?_ sc.nd
      refine sw_one ?_
      refine s1_if ?_
      refine tw_cmp ?_
      refine ew_callB (T.no Z.n_len) bt_len ?_
      refine aw_cons ?_
      refine ew_var 4 ?_
      refine aw_nil ?_
      refine cb_lenO hT.h ?_
      rw [List.length_map, List.length_map, List.length_reverse]
      refine ew_int ?_
      walk_at "cmp Gt"
      refine ⟨_, rfl, fun ht => ?_, fun ht => ?_⟩
      · have hgt : 1 < st.length := by have := of_decide_eq_true ht; omega
        refine sw_cons ?_
        obtain ⟨q, q2, r, rfl⟩ : ∃ q q2 r, st = q :: q2 :: r := by
          cases st with
          | nil => exact absurd hgt (by simp)
          | cons q r => cases r with
            | nil => exact absurd hgt (by simp)
            | cons q2 r => exact ⟨q, q2, r, rfl⟩
        obtain ⟨a, a2, ls', rfl⟩ : ∃ a a2 ls', ls = a :: a2 :: ls' := by
          have := paired_len hT.k
          cases ls with
          | nil => cases this
          | cons a r => cases r with
            | nil => cases this
            | cons a2 r => exact ⟨a, a2, r, rfl⟩
        have hro : O2 rq = some (.lst ((a2 :: ls').reverse.map .own ++ [.own a])) := by rw [hT.r]; simp
        have na := hT.nk a (List.mem_cons_self ..)
        have na2 := hT.nk a2 (List.mem_cons_of_mem _ (List.mem_cons_self ..))
        have hnl := hT.nl
        rw [List.nodup_cons, List.nodup_cons] at hnl
        have naa : a2 ≠ a := fun e => hnl.1 (by rw [← e]; exact List.mem_cons_self ..)
        obtain ⟨e1, e2⟩ : O2 a = some (.lst ((q.cs.map lwD).map .dat)) ∧ O2 a2 = some (.lst ((q2.cs.map lwD).map .dat)) := by
          have hk := hT.k
          cases hk with
          | cons e1 hk => cases hk with
            | cons e2 _ => exact ⟨e1, e2⟩
        refine s1_set 8 ?_ sc.nd
        refine ew_callTy (T.no Z.n_tuple) bt_tuple ?_
        refine aw_cons ?_
        refine ew_frz ?_
        refine ew_pop ?_
        refine ew_var 5 ?_
        refine ⟨⟨rfl, _, hT.r⟩, ?_⟩
        refine mb_pop hro ?_
        refine ⟨a, q.cs.map lwD, rfl, by rw [up_ne na.2.2]; exact e1, ?_⟩
        refine aw_nil ?_
        refine cb_tupL ?_
        refine sw_one ?_
        have hr1 : (dn (up O2 rq (.lst ((a2 :: ls').reverse.map .own))) a) rq = some (.lst ((a2 :: ls').reverse.map .own)) := by rw [dn_ne na.2.2.symm, up_at]
        have hh1 : (dn (up O2 rq (.lst ((a2 :: ls').reverse.map .own))) a) hq = some (.lst (((q2 :: r).reverse.map opD).map .dat ++ [.dat (opD q)])) := by
          rw [dn_ne na.2.1.symm, up_ne hT.hr, hT.h]; simp
        have ha1 : (up (dn (up O2 rq (.lst ((a2 :: ls').reverse.map .own))) a) hq (.lst (((q2 :: r).reverse.map opD).map .dat))) a2 = some (.lst ((q2.cs.map lwD).map .dat)) := by
          rw [up_ne na2.2.1, dn_ne naa, up_ne na2.2.2]; exact e2
        have ha0 : (dn (up O2 rq (.lst ((a2 :: ls').reverse.map .own))) a) a2 = some (.lst ((q2.cs.map lwD).map .dat)) := by
          rw [dn_ne naa, up_ne na2.2.2]; exact e2
        have hsz : q2.cs.length ≤ 200 := by
          have h1 := hG.sz
          rw [List.map_cons, List.map_cons, List.sum_cons, List.sum_cons] at h1
          have h2 := szNs_len q2.cs
          omega
        refine s1_expr ?_
        refine ew_append ?_
        refine ew_ix ?_
        refine ew_var 5 ?_
        refine ew_bin ?_
        refine ew_callB (T.no Z.n_len) bt_len ?_
        refine aw_cons ?_
        refine ew_var 5 ?_
        refine aw_nil ?_
        refine cb_lenO hr1 ?_
        refine ew_int ?_
        refine ob_sub ?_
        refine ix_own hr1 (s := .own a2) ?_ ?_
        · rw [List.reverse_cons, List.map_append, List.length_append, List.length_map]
          rw [show (((ls'.reverse.length + (([a2] : List Addr).map Slot.own).length : Nat) : Int) - 1) = ((ls'.reverse.length : Nat) : Int) by simp]
          refine atI_nat ?_
          rw [List.getElem?_append_right (by rw [List.length_map]; exact Nat.le_refl _), List.length_map, Nat.sub_self]
          rfl
        refine ⟨⟨rfl, _, ha0⟩, ?_⟩
        refine ew_bin ?_
        refine ew_pop ?_
        refine ew_var 4 ?_
        refine ⟨⟨rfl, _, hh1⟩, ?_⟩
        refine mb_pop hh1 ?_
        refine ew_tup ?_
        refine aw_cons ?_
        refine ew_var 8 ?_
        refine aw_nil ?_
        refine ⟨[_], rfl, by walk_at "few", ?_⟩
        refine ob_catT (Nat.le_of_ble_eq_true rfl) ?_
        refine mb_append ha1 (by rw [List.length_map, List.length_map, sizeLine_eq]; omega) ?_
        have hcl : up (up (dn (up O2 rq (.lst ((a2 :: ls').reverse.map .own))) a) hq (.lst (((q2 :: r).reverse.map opD).map .dat))) a2 (.lst ((q2.cs.map lwD).map .dat ++ [.dat (.tup ([.str q.n, .int q.m] ++ [.tup (q.cs.map lwD)]))])) = up (up (dn (up O2 rq (.lst ((a2 :: ls').reverse.map .own))) a) hq (.lst (((q2 :: r).reverse.map opD).map .dat))) a2 (.lst (((q2.cs ++ [Nd.mk q.n q.m q.cs]).map lwD).map .dat)) := by
          congr 1
          rw [List.map_append, List.map_append, List.map_singleton, lw_mk, lwDs_map]; rfl
        rw [show opD q = .tup [.str q.n, .int q.m] from rfl] at *
        rw [hcl]
        exact ⟨b', _, _, _, _, rfl, hT.close, hG.close, by simp⟩
      · refine sw_nil ?_
        exact ⟨b', st, ls, _, _, rfl, hT, hG, hne⟩
    · intro ρ2 O2 hj
      clear hT4 hT hG hne
      obtain ⟨b', st, ls, s7, s8, rfl, hT, hG, hne⟩ := hj
      have hstl : st.length ≤ 200 := by
        have h1 := hG.sz
        have h2 := sum_len st
        omega
      refine sw_cons ?_
      refine s1_expr ?_
      refine ew_append ?_
      refine ew_var 4 ?_
      refine ⟨⟨rfl, _, hT.h⟩, ?_⟩
      refine ew_tup ?_
      refine aw_cons ?_
      refine ew_ix ?_
      refine ew_var 1 ?_
      refine ew_call (c_law_take T Z) hr ?_
      refine aw_cons ?_
      refine ew_var 0 ?_
      refine aw_cons ?_
      refine ew_callB (T.no Z.n_len) bt_len ?_
      refine aw_cons ?_
      refine ew_var 1 ?_
      refine aw_nil ?_
      refine cb_lenL ?_
      rw [List.length_map]
      refine aw_nil ?_
      refine ⟨p, _, b', rfl, hT.box, hT.isb, by omega, by omega, fun d5 b5 hd50 hd51 hb5 => ?_⟩
      have hT5 := hT.draw hb5
      obtain ⟨y5, hy5⟩ : ∃ y, ws[d5.toNat]? = some y := ⟨_, List.getElem?_eq_getElem (by omega)⟩
      refine ix_lst (d := .str y5) (by rw [show d5 = ((d5.toNat : Nat) : Int) by omega]; exact atI_nat (by simpa using hy5)) ?_
      refine aw_cons ?_
      refine ew_var 6 ?_
      refine aw_nil ?_
      refine ⟨[_, _], rfl, by walk_at "few", ?_⟩
      refine mb_append hT5.h (by rw [List.length_map, List.length_map, List.length_reverse, sizeLine_eq]; omega) ?_
      have e5 : ((st.reverse.map opD).map Slot.dat ++ [.dat (.tup [.str y5, .int mk])]) = (((⟨y5, mk, []⟩ :: st : List Op).reverse.map opD).map Slot.dat) := by
        rw [List.reverse_cons, List.map_append, List.map_append]; rfl
      rw [e5]
      refine sw_one ?_
      refine s1_expr ?_
      refine ew_append ?_
      refine ew_var 5 ?_
      refine ⟨⟨rfl, _, by rw [up_ne hT5.hr.symm]; exact hT5.r⟩, ?_⟩
      refine ew_lst ?_
      refine aw_nil ?_
      refine ⟨Nat.zero_le _, fun a ha => ?_⟩
      have nar : a ≠ rq := fun e => by rw [e, up_ne hT5.hr.symm, hT5.r] at ha; cases ha
      refine mb_append (by rw [up_ne nar.symm, up_ne hT5.hr.symm]; exact hT5.r) (by rw [List.length_map, List.length_reverse, paired_len hT5.k, sizeLine_eq]; omega) ?_
      have e6 : (ls.reverse.map Slot.own ++ [.own a]) = ((a :: ls).reverse.map Slot.own) := by rw [List.reverse_cons, List.map_append]; rfl
      rw [e6]
      exact ⟨b5, _, _, _, _, _, rfl, hT5.open ha, hG.open (hwn _ (List.mem_of_getElem? hy5)) hmo, by simp⟩
  · intro ρ2 O2 hj
    clear hT1 hG0
    obtain ⟨b', st, ls, s6, s7, s8, rfl, hT, hG, hne⟩ := hj
    have hkm : (((mks.map Dat.int).drop (1 : Int).toNat).take ((1 + dd).toNat - (1 : Int).toNat)).length + 1 ≤ m.toNat := by
      rw [List.length_take]; omega
    generalize (((mks.map Dat.int).drop (1 : Int).toNat).take ((1 + dd).toNat - (1 : Int).toNat)).length + 1 = kk at hG hkm
    refine sw_cons ?_
    refine s1_while hpo (fun n ρ' O' => ∃ (b' : Cell) (st : List Op) (ls : List Addr) (s6 s7 s8 : Slot), ρ' = [.own p, .dat (.lst (ws.map .str)), .dat (.int m), .dat (.lst (mks.map .int)), .own hq, .own rq, s6, s7, s8] ∧ HT O p hq rq b' st ls O' ∧ OpsG st kk ∧ st ≠ [] ∧ st.length = n) ?_ fun n ρ2 O' hj => ?_
    · exact ⟨st.length, b', st, ls, _, _, _, rfl, hT, hG, hne, rfl⟩
    · clear hT hG hne
      obtain ⟨b', st, ls, s6, s7, s8, rfl, hT, hG, hne, hn⟩ := hj
      refine tw_cmp ?_
      refine ew_callB (T.no Z.n_len) bt_len ?_
      refine aw_cons ?_
      refine ew_var 4 ?_
      refine aw_nil ?_
      refine cb_lenO hT.h ?_
      rw [List.length_map, List.length_map, List.length_reverse]
      refine ew_int ?_
      walk_at "cmp Gt"
      refine ⟨_, rfl, fun ht => ?_, fun ht => ?_⟩
      · have hgt : 1 < st.length := by have := of_decide_eq_true ht; omega
        have hi9 : kk ≤ 200 := by omega
        refine sw_cons ?_
        obtain ⟨q, q2, r, rfl⟩ : ∃ q q2 r, st = q :: q2 :: r := by
          cases st with
          | nil => exact absurd hgt (by simp)
          | cons q r => cases r with
            | nil => exact absurd hgt (by simp)
            | cons q2 r => exact ⟨q, q2, r, rfl⟩
        obtain ⟨a, a2, ls', rfl⟩ : ∃ a a2 ls', ls = a :: a2 :: ls' := by
          have := paired_len hT.k
          cases ls with
          | nil => cases this
          | cons a r => cases r with
            | nil => cases this
            | cons a2 r => exact ⟨a, a2, r, rfl⟩
        have hro : O' rq = some (.lst ((a2 :: ls').reverse.map .own ++ [.own a])) := by rw [hT.r]; simp
        have na := hT.nk a (List.mem_cons_self ..)
        have na2 := hT.nk a2 (List.mem_cons_of_mem _ (List.mem_cons_self ..))
        have hnl := hT.nl
        rw [List.nodup_cons, List.nodup_cons] at hnl
        have naa : a2 ≠ a := fun e => hnl.1 (by rw [← e]; exact List.mem_cons_self ..)
        obtain ⟨e1, e2⟩ : O' a = some (.lst ((q.cs.map lwD).map .dat)) ∧ O' a2 = some (.lst ((q2.cs.map lwD).map .dat)) := by
          have hk := hT.k
          cases hk with
          | cons e1 hk => cases hk with
            | cons e2 _ => exact ⟨e1, e2⟩
        refine s1_set 8 ?_ sc.nd
        refine ew_callTy (T.no Z.n_tuple) bt_tuple ?_
        refine aw_cons ?_
        refine ew_frz ?_
        refine ew_pop ?_
        refine ew_var 5 ?_
        refine ⟨⟨rfl, _, hT.r⟩, ?_⟩
        refine mb_pop hro ?_
        refine ⟨a, q.cs.map lwD, rfl, by rw [up_ne na.2.2]; exact e1, ?_⟩
        refine aw_nil ?_
        refine cb_tupL ?_
        refine sw_one ?_
        have hr1 : (dn (up O' rq (.lst ((a2 :: ls').reverse.map .own))) a) rq = some (.lst ((a2 :: ls').reverse.map .own)) := by rw [dn_ne na.2.2.symm, up_at]
        have hh1 : (dn (up O' rq (.lst ((a2 :: ls').reverse.map .own))) a) hq = some (.lst (((q2 :: r).reverse.map opD).map .dat ++ [.dat (opD q)])) := by
          rw [dn_ne na.2.1.symm, up_ne hT.hr, hT.h]; simp
        have ha1 : (up (dn (up O' rq (.lst ((a2 :: ls').reverse.map .own))) a) hq (.lst (((q2 :: r).reverse.map opD).map .dat))) a2 = some (.lst ((q2.cs.map lwD).map .dat)) := by
          rw [up_ne na2.2.1, dn_ne naa, up_ne na2.2.2]; exact e2
        have ha0 : (dn (up O' rq (.lst ((a2 :: ls').reverse.map .own))) a) a2 = some (.lst ((q2.cs.map lwD).map .dat)) := by
          rw [dn_ne naa, up_ne na2.2.2]; exact e2
        have hsz : q2.cs.length ≤ 200 := by
          have h1 := hG.sz
          rw [List.map_cons, List.map_cons, List.sum_cons, List.sum_cons] at h1
          have h2 := szNs_len q2.cs
          omega
        refine s1_expr ?_
        refine ew_append ?_
        refine ew_ix ?_
        refine ew_var 5 ?_
        refine ew_bin ?_
        refine ew_callB (T.no Z.n_len) bt_len ?_
        refine aw_cons ?_
        refine ew_var 5 ?_
        refine aw_nil ?_
        refine cb_lenO hr1 ?_
        refine ew_int ?_
        refine ob_sub ?_
        refine ix_own hr1 (s := .own a2) ?_ ?_
        · rw [List.reverse_cons, List.map_append, List.length_append, List.length_map]
          rw [show (((ls'.reverse.length + (([a2] : List Addr).map Slot.own).length : Nat) : Int) - 1) = ((ls'.reverse.length : Nat) : Int) by simp]
          refine atI_nat ?_
          rw [List.getElem?_append_right (by rw [List.length_map]; exact Nat.le_refl _), List.length_map, Nat.sub_self]
          rfl
        refine ⟨⟨rfl, _, ha0⟩, ?_⟩
        refine ew_bin ?_
        refine ew_pop ?_
        refine ew_var 4 ?_
        refine ⟨⟨rfl, _, hh1⟩, ?_⟩
        refine mb_pop hh1 ?_
        refine ew_tup ?_
        refine aw_cons ?_
        refine ew_var 8 ?_
        refine aw_nil ?_
        refine ⟨[_], rfl, by walk_at "few", ?_⟩
        refine ob_catT (Nat.le_of_ble_eq_true rfl) ?_
        refine mb_append ha1 (by rw [List.length_map, List.length_map, sizeLine_eq]; omega) ?_
        have hcl : up (up (dn (up O' rq (.lst ((a2 :: ls').reverse.map .own))) a) hq (.lst (((q2 :: r).reverse.map opD).map .dat))) a2 (.lst ((q2.cs.map lwD).map .dat ++ [.dat (.tup ([.str q.n, .int q.m] ++ [.tup (q.cs.map lwD)]))])) = up (up (dn (up O' rq (.lst ((a2 :: ls').reverse.map .own))) a) hq (.lst (((q2 :: r).reverse.map opD).map .dat))) a2 (.lst (((q2.cs ++ [Nd.mk q.n q.m q.cs]).map lwD).map .dat)) := by
          congr 1
          rw [List.map_append, List.map_append, List.map_singleton, lw_mk, lwDs_map]; rfl
        rw [show opD q = .tup [.str q.n, .int q.m] from rfl] at *
        rw [hcl]
        refine ⟨(closeOp q q2 :: r).length, by rw [← hn, List.length_cons, List.length_cons, List.length_cons]; omega, b', _, _, _, _, _, rfl, hT.close, hG.close, by simp, rfl⟩
      · obtain ⟨q, rfl⟩ : ∃ q, st = [q] := by
          have := of_decide_eq_false ht
          cases st with
          | nil => exact absurd rfl hne
          | cons q r => cases r with
            | nil => exact ⟨q, rfl⟩
            | cons q2 r => rw [List.length_cons, List.length_cons] at this; exact absurd (by omega) this
        obtain ⟨a, rfl⟩ : ∃ a, ls = [a] := by
          have := paired_len hT.k
          cases ls with
          | nil => cases this
          | cons a r => cases r with
            | nil => exact ⟨a, rfl⟩
            | cons a2 r => cases this
        have e1 : O' a = some (.lst ((q.cs.map lwD).map .dat)) := by
          have hk := hT.k
          cases hk with
          | cons e1 hk => exact e1
        have na := hT.nk a (List.mem_cons_self ..)
        refine sw_one ?_
        refine s1_ret ?_
        refine ew_bin ?_
        refine ew_ix ?_
        refine ew_var 4 ?_
        refine ew_int ?_
        refine ix_own hT.h (s := .dat (opD q)) (atI_nat (j := 0) rfl) ?_
        refine ew_tup ?_
        refine aw_cons ?_
        refine ew_callTy (T.no Z.n_tuple) bt_tuple ?_
        refine aw_cons ?_
        refine ew_frz ?_
        refine ew_ix ?_
        refine ew_var 5 ?_
        refine ew_int ?_
        refine ix_own hT.r (s := .own a) (atI_nat (j := 0) rfl) ?_
        refine ⟨a, q.cs.map lwD, rfl, e1, ?_⟩
        refine aw_nil ?_
        refine cb_tupL ?_
        refine aw_nil ?_
        refine ⟨[_], rfl, by walk_at "few", ?_⟩
        refine ob_catT (Nat.le_of_ble_eq_true rfl) ?_
        have et : Dat.tup ([.str q.n, .int q.m] ++ [.tup (q.cs.map lwD)]) = lwD (.mk q.n q.m q.cs) := by rw [lw_mk, lwDs_map]; rfl
        rw [et]
        have hzz := hG.sz
        rw [List.map_singleton, List.sum_singleton] at hzz
        refine ⟨up O p b', fun x v hv => ?_, h b' _ hT.isb (gd_mk (hG.nm q (List.mem_singleton.mpr rfl)) (hG.kids q (List.mem_singleton.mpr rfl))) (by rw [szN]; omega)⟩
        by_cases hx : x = p
        · subst hx
          rw [up_at] at hv
          rw [dn_ne na.1.symm, hT.box, hv]
        · rw [up_ne hx] at hv
          rw [dn_ne (ne_free (hT.ns a (List.mem_cons_self ..)) hv)]
          exact hT.keep x v hx hv
theorem c_law_tree (T : TopOf K mg) (Z : Facts K) : Cal P w K mg base false (4) "_law_tree" (TreeS) [] := cal_of T Z.d_law_tree (by walk_at "b3") fun f fd F => fn_law_tree T Z F
end
mutual
def preN : Nd → List Nd
  | .mk n m cs => .mk n m cs :: preNs cs
def preNs : List Nd → List Nd
  | [] => []
  | c :: cs => preN c ++ preNs cs
end
mutual
theorem preN_len : ∀ t : Nd, (preN t).length = szN t
  | .mk n m cs => by rw [preN, szN, List.length_cons, preNs_len cs]; omega
theorem preNs_len : ∀ cs : List Nd, (preNs cs).length = szNs cs
  | [] => by rw [preNs, szNs]; rfl
  | c :: cs => by rw [preNs, szNs, List.length_append, preN_len c, preNs_len cs]
end
mutual
theorem be_pre (C : Addr) : ∀ t : Nd, ndD C t :: beD C t = (preN t).map (ndD C)
  | .mk n m cs => by rw [beD, al_pre C cs, preN, List.map_cons]
theorem al_pre (C : Addr) : ∀ cs : List Nd, alDs C cs = (preNs cs).map (ndD C)
  | [] => by rw [alDs, preNs]; rfl
  | c :: cs => by rw [alDs, preNs, List.map_append, ← be_pre C c, ← al_pre C cs]; rfl
end
theorem bt_iter : bootBuiltins "iter" = some (.builtin "iter") := by decide +kernel
def ItrS (K : PySem.W.Frag) : Nat → SpecT := fun N ss O R => ∃ (CT : Addr) (t : Nd), ss = [.dat (ndD CT t)] ∧ clsAt K "Tree" CT ∧ ∀ it, O it = none → N ≤ it → R (.ret (.own it)) (up O it (.itr ((preN t).map (ndD CT))))
def TLenS (K : PySem.W.Frag) : SpecT := fun ss O R => ∃ (CT : Addr) (t : Nd), ss = [.dat (ndD CT t)] ∧ clsAt K "Tree" CT ∧ R (.ret (.dat (.int ((szN t : Nat) : Int)))) O
/-- what a call by the law's def gives, from what the lambda gives -/
def HeardS (K : PySem.W.Frag) : Thk → Thk := fun S O R => ∃ (CT CN : Addr), clsAt K "Tree" CT ∧ clsAt K "NoTree" CN ∧ ∀ R' : Out → Own → Prop, (∀ t O', R (.ret (.dat (.tup [.str "tree", .str (txN t)]))) O' → R' (.ret (.dat (ndD CT t))) O') → (∀ (i : Int) O', R (.ret (.dat (.tup [.str "at", .int i]))) O' → R' (.exc (.own CN [("at", .int i)])) O') → S O R'
section
variable {P : Program} {w : World} {K : PySem.W.Frag} {mg : Str → Option Value} {base : Heap}
theorem fn_Tree_len (T : TopOf K mg) (Z : Facts K) {f : Addr} {fd : FuncData} (F : L2.Fun K "__len__" "Tree.__len__" s_Tree_len f fd) : Fn P w K mg base false (1) f fd ["self"] (TLenS K) := by
  have sc := sc_Tree_len
  refine fn_mk F sc_Tree_len (fun ss O R h => by first | (obtain ⟨_, rfl, _⟩ := h; rfl) | (obtain ⟨_, _, rfl, _⟩ := h; rfl) | (obtain ⟨_, _, _, rfl, _⟩ := h; rfl) | (obtain ⟨_, _, _, _, rfl, _⟩ := h; rfl) | (obtain ⟨_, _, _, _, _, rfl, _⟩ := h; rfl) | (obtain ⟨_, _, _, _, _, _, rfl, _⟩ := h; rfl) | (obtain ⟨_, _, _, _, _, _, _, rfl, _⟩ := h; rfl)) fun cdv A outer s H E ss O R hr hpo h => ?_
  obtain ⟨CT, t, rfl, hCT, h⟩ := h
  obtain ⟨C2, I_Tree, tI, tRd, tFe, tL, tIt, tE, tS, tEv, na1, na2, na3, na4, na5⟩ := Z.c_Tree
  obtain rfl := at_inj hCT I_Tree.at_
  -- 0:self
  refine sw_one ?_
  refine s1_ret ?_
  refine ew_callB (T.no Z.n_len) bt_len ?_
  refine aw_cons ?_
  refine ew_nodes I_Tree.ins.cl na4 ?_
  refine ew_var 0 ?_
  refine ⟨t, rfl, ?_⟩
  refine aw_nil ?_
  
  refine cb_lenT ?_
  rw [be_pre, List.length_map, preN_len]
  exact h
theorem fn_Tree_iter (T : TopOf K mg) (Z : Facts K) {f : Addr} {fd : FuncData} (F : L2.Fun K "__iter__" "Tree.__iter__" s_Tree_iter f fd) : FnN P w K mg base 1 f fd ["self"] (ItrS K) := by
  have sc := sc_Tree_iter
  refine fnN_mk F sc_Tree_iter (fun n ss O R h => by obtain ⟨_, _, rfl, _⟩ := h; rfl) fun cdv A outer s H E ss O R hr hpo h => ?_
  obtain ⟨CT, t, rfl, hCT, h⟩ := h
  obtain ⟨C2, I_Tree, tI, tRd, tFe, tL, tIt, tE, tS, tEv, na1, na2, na3, na4, na5⟩ := Z.c_Tree
  obtain rfl := at_inj hCT I_Tree.at_
  refine sw_one ?_
  refine s1_ret ?_
  refine ew_callB (T.no Z.n_iter) bt_iter ?_
  refine aw_cons ?_
  refine ew_nodes I_Tree.ins.cl na4 ?_
  refine ew_var 0 ?_
  refine ⟨t, rfl, ?_⟩
  refine aw_nil ?_
  refine cb_iterT fun it hit hN => ?_
  rw [be_pre]
  exact h it hit hN
theorem m_iter (T : TopOf K mg) (Z : Facts K) {CT : Addr} (hC : clsAt K "Tree" CT) : MIter P w K mg base 1 CT (ItrS K) := by
  obtain ⟨C2, I_Tree, tI, tRd, tFe, tL, tIt, tE, tS, tEv, na1, na2, na3, na4, na5⟩ := Z.c_Tree
  obtain rfl := at_inj hC I_Tree.at_
  obtain ⟨f, fd, hm, F⟩ := tIt.ex
  exact ⟨f, fd, _, hm.at_, hm.fn, fn_Tree_iter T Z F, mbinds F (by walk_at "b1")⟩
theorem m_len (T : TopOf K mg) (Z : Facts K) {CT : Addr} (hC : clsAt K "Tree" CT) : MCal P w K mg base false 1 CT "__len__" (TLenS K) [] := by
  obtain ⟨C2, I_Tree, tI, tRd, tFe, tL, tIt, tE, tS, tEv, na1, na2, na3, na4, na5⟩ := Z.c_Tree
  obtain rfl := at_inj hC I_Tree.at_
  exact mcal_of tL (by walk_at "b1") fun f fd F => fn_Tree_len T Z F
theorem c_heard (T : TopOf K mg) (Z : Facts K) : CalT P w K mg base false 12 "_law_heard" (HeardS K) := by
  obtain ⟨f, fd, at_, F⟩ := Z.d_law_heard.ex
  have sc := sc_law_heard
  refine ⟨f, fd, s_law_heard, N_law_heard, "_law_call", T.is at_, F.kp, funX_of F, sc, F.binds (by walk_at "b1"), rfl, .inl rfl, by decide, by decide, ?_⟩
  intro cdv A outer s H E fl vs ds S O R hr hpo act h
  obtain ⟨CT, CN, hCT, hCN, h⟩ := h
  obtain ⟨C2, I_Tree, tI, tRd, tFe, tL, tIt, tE, tS, tEv, na1, na2, na3, na4, na5⟩ := Z.c_Tree
  obtain rfl := at_inj hCT I_Tree.at_
  obtain ⟨CN', BN, XN, nfN⟩ := Z.x_NoTree
  obtain rfl : CN' = CN := at_inj XN.a.at_ hCN
  refine sw_cons ?_
  refine s1_set 1 ?_ sc.nd
  refine ew_tup ?_
  refine aw_cons ?_
  refine ew_str ?_
  refine aw_cons ?_
  refine ew_int ?_
  refine aw_nil ?_
  refine ⟨[_, _], rfl, by walk_at "few", ?_⟩
  refine sw_cons ?_
  refine s1_try_as 2 sc.nd ⟨rfl, by decide, .inl (T.is XN.a.at_)⟩ fun pn xe hpo2 => ?_
  refine sw_one ?_
  refine s1_set 1 ?_ sc.nd
  refine ew_tup ?_
  refine aw_cons ?_
  refine ew_str ?_
  refine aw_cons ?_
  refine ew_callTy (T.no Z.n_str) bt_str ?_
  refine aw_cons ?_
  refine act _ _ _ _ _ _ _ _ rfl (h _ (fun t O' hR => ?_) fun i O' hR => ?_)
  · refine aw_nil ?_
    obtain ⟨nm, mk, cs, rfl⟩ := nd_eq t
    obtain ⟨g0, fd0, hm0, F0⟩ := tS.ex
    refine cb_strOwn hm0.at_ hm0.fn (fn_Tree_str T Z F0) (mbinds F0 (by walk_at "b1")) (hr.r.mono (by decide)) (by rw [ndD]; rfl) ⟨CT, _, rfl, hCT, ?_⟩
    refine ⟨_, rfl, ?_⟩
    refine aw_nil ?_
    refine ⟨[_, _], rfl, by walk_at "few", ?_⟩
    refine sw_one ?_
    refine s1_ret ?_
    refine ew_var 1 ?_
    exact hR
  · refine ⟨true, XN.exm, fun _ => ?_, fun e => by cases e⟩
    intro a dd oe pn2 hzc hf ha
    obtain ⟨CK, eK1, eK2, eK3⟩ := Z.e_cls_KeptError
    obtain ⟨CB, eB1, eB2, eB3⟩ := Z.e_cls_NoBundle
    obtain ⟨x1, x2, y1, y2, y3⟩ := Z.e_NoTree_NoBundle
    obtain rfl := at_inj hCN y1
    obtain rfl := at_inj eB1 y2
    refine sw_one ?_
    refine s1_set 1 ?_ sc.nd
    refine ew_if ?_
    refine tw_w ?_
    refine tww_and ?_
    refine tw_val ?_
    refine ew_callB (T.no Z.n_isinstance) bt_isinstance ?_
    refine aw_cons ?_
    refine ew_var 2 ?_
    refine aw_cons ?_
    refine ew_cls (T.is XN.bat) ?_
    refine aw_nil ?_
    refine cb_isE XN.ec hzc hf XN.kit ?_
    refine ⟨true, rfl, fun _ => ?_, fun e => by cases e⟩
    refine tww_and1 ?_
    refine tw_not ?_
    refine tw_val ?_
    refine ew_callB (T.no Z.n_isinstance) bt_isinstance ?_
    refine aw_cons ?_
    refine ew_var 2 ?_
    refine aw_cons ?_
    refine ew_cls (T.is eB1) ?_
    refine aw_nil ?_
    have nCB : (Value.ref CN') ≠ .ref CB := fun e => by
      have e2 : CN' = CB := by injection e
      rw [← e2, XN.own] at y3
      cases y3
    refine cb_isE XN.ec hzc hf (kit_of_sub nCB eB2 eB3 y3) ?_
    refine ⟨false, rfl, fun _ => ?_, fun e => by cases e⟩
    refine ew_tup ?_
    refine aw_cons ?_
    refine ew_str ?_
    refine aw_cons ?_
    refine ew_exf XN.xf nfN hzc hf ?_
    refine ew_var 2 ?_
    refine ⟨_, _, rfl, rfl, ?_⟩
    refine aw_nil ?_
    refine ⟨[_, _], rfl, by walk_at "few", ?_⟩
    refine sw_one ?_
    refine s1_ret ?_
    refine ew_var 1 ?_
    exact hR
end
theorem sml_of {z : Str} (h : smlB z = true) : sml z := fun c hc => by
  unfold smlB at h
  rw [Array.all_eq_true_iff_forall_mem] at h
  exact of_decide_eq_true (h c (Array.mem_toList_iff.mp hc))
theorem num_head : ∀ k : Nat, k ≠ 0 → (TL.numL k).head? ≠ some 48 := by
  intro k
  induction k using Nat.strongRecOn with
  | _ k ih =>
    intro hk
    by_cases h : k < 10
    · rw [TL.numL_lt h]
      intro e
      have e : 48 + k = 48 := Option.some.inj e
      omega
    · rw [TL.numL_step (by omega)]
      have h1 := ih (k / 10) (by omega) (by omega)
      cases hn : TL.numL (k / 10) with
      | nil => exact absurd hn (TL.numL_ne _)
      | cons a r => rw [hn] at h1; exact h1
theorem num_fig (k : Nat) : figL (TL.numL k) = true := by
  unfold figL
  by_cases h : k = 0
  · subst h
    rw [TL.numL_lt (by decide)]
    rfl
  · rw [decide_eq_true (num_head k h), Bool.or_true]
theorem num_sgs {m : Int} (h0 : 0 ≤ m) : sgs (Str.ofString (toString m)) = TL.numL m.toNat := by
  obtain ⟨k, rfl⟩ := Int.eq_ofNat_of_zero_le h0
  exact TL.tl_num k
theorem num_isFg {m : Int} (h0 : 0 ≤ m) (h : m < 10 ^ 12) : isFg (Str.ofString (toString m)) = true ∧ figV (Str.ofString (toString m)) = m := by
  have e := num_sgs h0
  have hl : (TL.numL m.toNat).length ≤ 12 := TL.numL_len (by decide) (by omega)
  have hp : 0 < (TL.numL m.toNat).length := List.length_pos_iff.mpr (TL.numL_ne _)
  constructor
  · unfold isFg
    rw [madeOf_of (by rw [sgs_len, e]; exact hp) (by rw [sgs_len, e]; exact hl) (fun c hc => by
      rw [e] at hc
      exact digs_mem.mpr (TL.numL_digits _ c hc)), e, num_fig]
    rfl
  · unfold figV
    rw [e, TL.numL_val]
    omega
theorem colon_sgs : sgs (Str.ofString ":") = [58] := by decide +kernel
theorem word_sgs {n : Str} {m : Int} (h0 : 0 ≤ m) : sgs (wordE (some (n, m))) = sgs n ++ [58] ++ TL.numL m.toNat := by
  show sgs (n ++ Str.ofString ":" ++ Str.ofString (toString m)) = _
  rw [sgs_app, sgs_app, colon_sgs, num_sgs h0]
theorem nm_free {n : Str} (h : isNm n = true) {c : Nat} (hc : c < 97) : c ∉ sgs n := fun hm => by
  have := ltrs_mem.mp ((madeOf_pos (Bool.and_eq_true_iff.mp h).1).2.2 c hm)
  omega
theorem word_free {e : Ev} (h : goodE e) : 32 ∉ sgs (wordE e) := by
  cases e with
  | none => exact (by decide +kernel : 32 ∉ sgs (Str.ofString "/"))
  | some q =>
    obtain ⟨n, m⟩ := q
    obtain ⟨h1, h2, _⟩ := h
    rw [word_sgs h2]
    intro hm
    rcases List.mem_append.mp hm with hm | hm
    · rcases List.mem_append.mp hm with hm | hm
      · exact nm_free h1 (by decide) hm
      · exact absurd (List.mem_singleton.mp hm) (by decide)
    · exact TL.numL_free (.inl (by decide)) hm
theorem ev_back {e : Ev} (h : goodE e) : evS (wordE e) = some e := by
  cases e with
  | none => exact if_pos rfl
  | some q =>
    obtain ⟨n, m⟩ := q
    obtain ⟨h1, h2, h3⟩ := h
    obtain ⟨f1, f2⟩ := num_isFg h2 (Int.lt_trans h3 (by decide))
    have hne : ¬ wordE (some (n, m)) = "/" := fun e => by
      have e2 := congrArg sgs e
      rw [word_sgs h2] at e2
      have hm : 58 ∈ sgs (Str.ofString "/") := by
        rw [← e2]
        exact List.mem_append.mpr (.inl (List.mem_append.mpr (.inr (List.mem_singleton.mpr rfl))))
      exact absurd hm (by decide +kernel)
    have hp : Txt.partition (wordE (some (n, m))) ":" = (n, Str.ofString ":", Str.ofString (toString m)) := TL.partition_app (s := 58) (S := []) colon_sgs (nm_free h1 (by decide))
    have g := evS_open hne (by rw [hp]; exact h1) (by rw [hp]; exact (by decide +kernel : decide (Str.ofString ":" = Str.ofString "") = false)) (by rw [hp]; exact f1)
    rw [g, hp, f2]
theorem word_pos {e : Ev} (h : goodE e) : 1 ≤ (wordE e).length := by
  cases e with
  | none => exact (by decide +kernel : 1 ≤ (Str.ofString "/").length)
  | some q =>
    obtain ⟨n, m⟩ := q
    rw [sgs_len, word_sgs h.2.1, List.length_append, List.length_append, List.length_singleton]
    omega
theorem words_back {es : List Ev} (h : ∀ e ∈ es, goodE e) : wordsS (textE es) = es.map wordE := by
  unfold textE
  cases es with
  | nil => exact if_pos (by decide +kernel)
  | cons a r =>
    have hne : (a :: r).map wordE ≠ [] := fun e => by cases e
    have hl := join_len " " _ hne
    rw [sp1, Nat.mul_one] at hl
    have h0 : ¬ Txt.join " " ((a :: r).map wordE) = "" := fun e => by
      rw [e] at hl
      have h1 := word_pos (h a List.mem_cons_self)
      have e0 : (Str.ofString "").length = 0 := by decide +kernel
      rw [e0] at hl
      have hs : (((a :: r).map wordE).map (·.length)).sum = (wordE a).length + ((r.map wordE).map (·.length)).sum := rfl
      rw [hs, List.length_map, List.length_cons] at hl
      omega
    unfold wordsS
    rw [if_neg h0]
    refine TL.split_join (s := 32) (S := []) (by decide +kernel) (by decide +kernel) hne fun p hp => ?_
    obtain ⟨e, he, rfl⟩ := List.mem_map.mp hp
    exact word_free (h e he)
theorem goodE.show {e : Ev} (h : goodE e) : showE e := by
  cases e with
  | none => trivial
  | some q => exact ⟨h.1, h.2.1, Int.lt_trans h.2.2 (by decide)⟩
theorem word18 {e : Ev} (h : goodE e) : (wordE e).length ≤ 18 := by
  cases e with
  | none => exact (by decide +kernel : (Str.ofString "/").length ≤ 18)
  | some q =>
    obtain ⟨n, m⟩ := q
    obtain ⟨h1, h2, h3⟩ := h
    have e1 := nm_len h1
    have e2 : (TL.numL m.toNat).length ≤ 9 := TL.numL_len (by decide) (by omega)
    rw [sgs_len, word_sgs h2, List.length_append, List.length_append, List.length_singleton, ← sgs_len]
    omega
theorem word_sml {e : Ev} (h : goodE e) : sml (wordE e) := by
  cases e with
  | none => exact sml_of (by decide +kernel)
  | some q =>
    obtain ⟨n, m⟩ := q
    obtain ⟨h1, h2, _⟩ := h
    intro c hc
    rw [word_sgs h2] at hc
    rcases List.mem_append.mp hc with hc | hc
    · rcases List.mem_append.mp hc with hc | hc
      · exact nm_sml h1 c hc
      · rw [List.mem_singleton.mp hc]; decide
    · have := TL.numL_digits _ c hc
      omega
theorem wgt_ev {e : Ev} (h : showE e) : wgt (evD e) ≤ 100 := by
  cases e with
  | none => exact (by decide +kernel : wgt (.tup [.str "close"]) ≤ 100)
  | some q =>
    obtain ⟨n, m⟩ := q
    obtain ⟨h1, h2, h3⟩ := h
    have e1 := wgt_nat h2 h3
    have e2 := nm_len h1
    show wgt (.str "open") + 1 + (n.cps.size + 1 + (wgt (.int m) + 1 + 0)) ≤ 100
    have e3 : wgt (.str "open") = 4 := by decide +kernel
    have e4 : n.cps.size ≤ 8 := e2
    omega
theorem dval_snoc (l : List Nat) (d : Nat) : NumText.digitsVal (l ++ [d]) = NumText.digitsVal l * 10 + (d - 48) := by
  unfold NumText.digitsVal
  rw [List.foldl_append]; rfl
theorem snoc_ind {α : Type} {p : List α → Prop} (h0 : p []) (h1 : ∀ l d, p l → p (l ++ [d])) (l : List α) : p l := by
  have h : ∀ r : List α, p r.reverse := by
    intro r
    induction r with
    | nil => exact h0
    | cons d r ih => rw [List.reverse_cons]; exact h1 _ _ ih
  rw [← List.reverse_reverse l]
  exact h _
theorem dval_pos (l : List Nat) : ∀ a : Nat, (∀ c ∈ a :: l, 48 ≤ c ∧ c ≤ 57) → a ≠ 48 → 1 ≤ NumText.digitsVal (a :: l) := by
  refine snoc_ind (p := fun l => ∀ a : Nat, (∀ c ∈ a :: l, 48 ≤ c ∧ c ≤ 57) → a ≠ 48 → 1 ≤ NumText.digitsVal (a :: l)) ?_ ?_ l
  · intro a h ha
    have := h a (List.mem_cons_self ..)
    show 1 ≤ 0 * 10 + (a - 48)
    omega
  · intro l d ih a h ha
    rw [← List.cons_append, dval_snoc]
    have := ih a (fun c hc => h c (by rw [← List.cons_append]; exact List.mem_append.mpr (.inl hc))) ha
    omega
theorem num_show (l : List Nat) : l ≠ [] → (∀ c ∈ l, 48 ≤ c ∧ c ≤ 57) → figL l = true → TL.numL (NumText.digitsVal l) = l := by
  refine snoc_ind (p := fun l => l ≠ [] → (∀ c ∈ l, 48 ≤ c ∧ c ≤ 57) → figL l = true → TL.numL (NumText.digitsVal l) = l) (fun h _ _ => absurd rfl h) ?_ l
  intro l d ih _ h hf
  have hd := h d (List.mem_append.mpr (.inr (List.mem_singleton.mpr rfl)))
  rw [dval_snoc]
  cases l with
  | nil =>
    have e0 : NumText.digitsVal [] = 0 := rfl
    rw [e0, TL.numL_lt (by omega), show 48 + (0 * 10 + (d - 48)) = d by omega]; rfl
  | cons a l =>
    have hfa : a ≠ 48 := fun e => by
      unfold figL at hf
      rw [Bool.or_eq_true, decide_eq_true_eq, decide_eq_true_eq] at hf
      rcases hf with hf | hf
      · rw [List.cons_append] at hf
        have := congrArg List.length hf
        simp at this
      · exact hf (by rw [e]; rfl)
    have hp := dval_pos l a (fun c hc => h c (List.mem_append.mpr (.inl hc))) hfa
    have ihh := ih (by simp) (fun c hc => h c (List.mem_append.mpr (.inl hc))) (by
      unfold figL
      rw [Bool.or_eq_true, decide_eq_true_eq, decide_eq_true_eq]
      exact .inr fun e => hfa (Option.some.inj e))
    rw [TL.numL_step (by omega), show (NumText.digitsVal (a :: l) * 10 + (d - 48)) / 10 = NumText.digitsVal (a :: l) by omega, show 48 + (NumText.digitsVal (a :: l) * 10 + (d - 48)) % 10 = d by omega, ihh]
theorem fig_show {z : Str} (h : isFg z = true) : Str.ofString (toString (figV z)) = z := by
  obtain ⟨h1, h2⟩ := Bool.and_eq_true_iff.mp h
  obtain ⟨h3, _, h5⟩ := madeOf_pos h1
  refine sgs_ext ?_
  rw [show sgs (Str.ofString (toString (figV z))) = TL.numL (NumText.digitsVal (sgs z)) from TL.tl_num _]
  exact num_show _ (fun e => by rw [sgs_len, e] at h3; exact absurd h3 (by decide)) (fun c hc => digs_mem.mp (h5 c hc)) h2
theorem word_show {y : Str} {ev : Ev} (h : evS y = some ev) : wordE ev = y := by
  unfold evS at h
  split at h
  · rename_i e
    cases h
    exact e.symm
  · split at h
    · rename_i h2
      cases h
      simp only [Bool.and_eq_true] at h2
      obtain ⟨g1, g2, g3⟩ := h2
      have hm : (Txt.partition y ":").2.1 = ":" := by
        revert g2
        unfold Txt.partition
        split
        · exact fun _ => rfl
        · intro g2
          exact absurd g2 (show ¬ (!decide (Str.empty = Str.ofString "")) = true by decide +kernel)
      have hs := PySem.StrLaws.partition_sum y ":"
      show (Txt.partition y ":").1 ++ ":" ++ Str.ofString (toString (figV (Txt.partition y ":").2.2)) = y
      rw [fig_show g3]
      rw [hm] at hs
      exact hs
    · cases h
theorem evD_inj {a b : Ev} (h : evD a = evD b) : a = b := by rw [← evOf_D a, h, evOf_D]
theorem evR_ev {o : Option Ev} {e : Ev} (h : evR o = evD e) : o = some e := by
  cases o with
  | none => cases e <;> cases h
  | some a => rw [evD_inj (a := a) (b := e) h]
theorem words_show : ∀ {ys : List Str} {es : List Ev}, ys.map (fun y => evR (evS y)) = es.map evD → es.map wordE = ys
  | [], [], _ => rfl
  | [], _ :: _, h => nomatch h
  | _ :: _, [], h => nomatch h
  | y :: ys, e :: es, h => by
    rw [List.map_cons, List.map_cons] at h
    injection h with h1 h2
    rw [List.map_cons, words_show h2, word_show (evR_ev h1)]
/-- a text that is read as a tree is the tree's text -/
theorem text_show {z : Str} {t : Nd} (h : evsT z = (evsN t).map evD) : txN t = z := by
  have hw := words_show h
  rw [tx_evs]
  unfold textE
  rw [hw]
  unfold wordsS at hw ⊢
  split
  · rename_i e
    rw [if_pos e] at hw
    have := evsN_len t
    have h2 : (evsN t).length = 0 := by rw [← List.length_map (f := wordE), hw]; rfl
    cases t with
    | mk n m cs => rw [evsN] at h2; simp at h2
  · exact join_split z " " (by decide +kernel)
/-- a tree's text is read as its events -/
theorem read_show {t : Nd} (h : ∀ e ∈ evsN t, goodE e) : evsT (textE (evsN t)) = (evsN t).map evD := by
  unfold evsT
  rw [words_back h, List.map_map]
  refine List.map_congr_left fun e he => ?_
  show evR (evS (wordE e)) = evD e
  rw [ev_back (h e he)]; rfl
structure VG (d : Dat) : Prop where
  ok : ValOk d
  sm : smMark d
  w : wgt d ≤ 200
def txB (z : Str) : Bool := Nat.ble z.length 1000 && smlB z
def okB (d : Dat) : Bool := decide (tyName d ≠ "") && (match d with
  | .str z => Nat.ble z.length 100000
  | _ => true)
def kidB (d : Dat) : Bool := okB d && (Kn.fine d && Nat.ble (Kn.dep d) 8)
def oneB : Dat → Bool
  | .tup [x] => (match x with
    | .str y => decide (y = "close")
    | .tup [.str y] => decide (y = "close")
    | _ => false)
  | _ => true
def nmB : Dat → Bool
  | .tup [_, x, _] => (match x with
    | .str n => txB n
    | _ => true)
  | _ => true
def smB : Dat → Bool
  | .tup [_, _, x] => (match x with
    | .int m => decide (m < 1000000000000)
    | _ => true)
  | _ => true
def kidsB : Dat → Bool
  | .tup ds => Nat.ble ds.length 8 && ds.all kidB
  | _ => true
def vgB (d : Dat) : Bool := kidB d && (kidsB d && (oneB d && (nmB d && (smB d && Nat.ble (wgt d) 200))))
theorem tx_of {z : Str} (h : txB z = true) : TxtOk z := by
  obtain ⟨h1, h2⟩ := Bool.and_eq_true_iff.mp h
  exact ⟨Nat.le_of_ble_eq_true h1, sml_of h2⟩
theorem okD_of {d : Dat} (h : okB d = true) : okD d := by
  obtain ⟨h1, h2⟩ := Bool.and_eq_true_iff.mp h
  refine ⟨of_decide_eq_true h1, fun z e => ?_⟩
  subst e
  exact Nat.le_of_ble_eq_true h2
theorem kid_of {d : Dat} (h : kidB d = true) : okD d ∧ Kn.fine d = true ∧ Kn.dep d ≤ 8 := by
  obtain ⟨h1, h2⟩ := Bool.and_eq_true_iff.mp h
  obtain ⟨h2, h3⟩ := Bool.and_eq_true_iff.mp h2
  exact ⟨okD_of h1, h2, Nat.le_of_ble_eq_true h3⟩
theorem vg_of {d : Dat} (h : vgB d = true) : VG d := by
  obtain ⟨h1, h⟩ := Bool.and_eq_true_iff.mp h
  obtain ⟨h2, h⟩ := Bool.and_eq_true_iff.mp h
  obtain ⟨h3, h⟩ := Bool.and_eq_true_iff.mp h
  obtain ⟨h4, h⟩ := Bool.and_eq_true_iff.mp h
  obtain ⟨h5, h6⟩ := Bool.and_eq_true_iff.mp h
  obtain ⟨g1, g2, g3⟩ := kid_of h1
  refine ⟨⟨⟨g1, g2, g3, fun ds e => ?_⟩, fun x e => ?_, fun a n m e => ?_⟩, fun n m e => ?_, Nat.le_of_ble_eq_true h6⟩
  · subst e
    obtain ⟨k1, k2⟩ := Bool.and_eq_true_iff.mp h2
    exact ⟨Nat.le_of_ble_eq_true k1, fun e he => kid_of (List.all_eq_true.mp k2 e he)⟩
  · subst e
    unfold oneB at h3
    dsimp only at h3
    split at h3
    · exact .inl (by rw [of_decide_eq_true h3])
    · exact .inr (by rw [of_decide_eq_true h3])
    · cases h3
  · subst e
    exact tx_of h4
  · subst e
    exact of_decide_eq_true h5
theorem odd_vg {m : Int} (h : m = 5000 ∨ m = 5001) : (∀ d ∈ oddV m, VG d) ∧ 0 < (oddV m).length ∧ (oddV m).length ≤ 400 := by
  rcases h with rfl | rfl
  · exact ⟨fun d hd => vg_of (List.all_eq_true.mp (show (oddV 5000).all vgB = true by decide +kernel) d hd), by decide, by decide⟩
  · exact ⟨fun d hd => vg_of (List.all_eq_true.mp (show (oddV 5001).all vgB = true by decide +kernel) d hd), by decide, by decide⟩
theorem ev_vg {e : Ev} (h : goodE e) : VG (evD e) := by
  obtain ⟨h1, h2⟩ := ev_fine h.show
  refine ⟨⟨h1, fun x q => ?_, fun a n m q => ?_⟩, h2, Nat.le_trans (wgt_ev h.show) (by decide)⟩
  · cases e with
    | none => cases q; exact .inl rfl
    | some p => cases q
  · cases e with
    | none => cases q
    | some p =>
      obtain ⟨n', m'⟩ := p
      cases q
      exact ⟨Nat.le_trans (nm_len h.1) (by decide), nm_sml h.1⟩
theorem evT_ok (z : Str) : ∀ d ∈ evsT z, ValOk d := fun d hd => by
  obtain ⟨y, _, rfl⟩ := List.mem_map.mp hd
  cases hy : evS y with
  | none => exact ⟨non_fine.1, (fun x q => nomatch (show Dat.non = .tup [x] from q)), (fun a n m q => nomatch (show Dat.non = .tup [a, .str n, m] from q))⟩
  | some e =>
    have hs := evS_show hy
    refine ⟨(ev_fine hs).1, fun x q => ?_, fun a n m q => ?_⟩
    · cases e with
      | none => cases q; exact .inl rfl
      | some p => cases q
    · cases e with
      | none => cases q
      | some p =>
        obtain ⟨n', m'⟩ := p
        cases q
        exact ⟨Nat.le_trans (nm_len hs.1) (by decide), nm_sml hs.1⟩
def WG (y : Str) : Prop := y.length ≤ 18 ∧ sml y
def wgB (y : Str) : Bool := Nat.ble y.length 18 && smlB y
theorem wg_of {y : Str} (h : wgB y = true) : WG y := by
  obtain ⟨h1, h2⟩ := Bool.and_eq_true_iff.mp h
  exact ⟨Nat.le_of_ble_eq_true h1, sml_of h2⟩
def WD (d : Dat) : Prop := ∃ y, d = .str y ∧ WG y
theorem odd_wg {m : Int} (h : m = 5000 ∨ m = 5001) : (∀ d ∈ (oddW m).map Dat.str, WD d) ∧ 0 < ((oddW m).map Dat.str).length ∧ ((oddW m).map Dat.str).length ≤ 400 := by
  rcases h with rfl | rfl
  · refine ⟨fun d hd => ?_, by decide, by decide⟩
    obtain ⟨y, hy, rfl⟩ := List.mem_map.mp hd
    exact ⟨y, rfl, wg_of (List.all_eq_true.mp (show (oddW 5000).all wgB = true by decide +kernel) y hy)⟩
  · refine ⟨fun d hd => ?_, by decide, by decide⟩
    obtain ⟨y, hy, rfl⟩ := List.mem_map.mp hd
    exact ⟨y, rfl, wg_of (List.all_eq_true.mp (show (oddW 5001).all wgB = true by decide +kernel) y hy)⟩
theorem wd_words : ∀ {us : List Dat}, (∀ d ∈ us, WD d) → ∃ ys : List Str, us = ys.map .str ∧ ∀ y ∈ ys, WG y
  | [], _ => ⟨[], rfl, fun y h => nomatch h⟩
  | d :: us, h => by
    obtain ⟨y, rfl, hy⟩ := h d (List.mem_cons_self ..)
    obtain ⟨ys, rfl, hys⟩ := wd_words fun d hd => h d (List.mem_cons_of_mem _ hd)
    exact ⟨y :: ys, rfl, fun x hx => by
      rcases List.mem_cons.mp hx with rfl | hx
      · exact hy
      · exact hys x hx⟩
theorem join_ok {ys : List Str} (h : ∀ y ∈ ys, WG y) (hl : ys.length ≤ 26) : (Txt.join " " ys).length ≤ 494 ∧ sml (Txt.join " " ys) := by
  refine ⟨Nat.le_trans join_le ?_, sml_join fun x hx => (h x hx).2⟩
  have := sum_le (g := fun y : Str => y.length) (b := 18) fun y hy => (h y hy).1
  omega
theorem word_wd {es : List Ev} (h : ∀ e ∈ es, goodE e) : ∀ d ∈ (es.map wordE).map Dat.str, WD d := fun d hd => by
  obtain ⟨y, hy, rfl⟩ := List.mem_map.mp hd
  obtain ⟨e, he, rfl⟩ := List.mem_map.mp hy
  exact ⟨_, rfl, word18 (h e he), word_sml (h e he)⟩
theorem words_ok {z y : Str} (hz : TxtOk z) (hy : y ∈ wordsS z) : TxtOk y := by
  refine ⟨Nat.le_trans (wordsS_len hy) hz.1, ?_⟩
  unfold wordsS at hy
  split at hy
  · cases hy
  · exact sml_word hz.2 hy
def ansL : Nat ⊕ Nd → List Dat
  | .inl i => [.str "at", .int (i : Int)]
  | .inr t => [.str "tree", .str (txN t)]
theorem wgts_le {b : Nat} : ∀ {ds : List Dat}, (∀ d ∈ ds, wgt d ≤ b) → wgts ds ≤ ds.length * (b + 1)
  | [], _ => Nat.zero_le _
  | d :: ds, h => by
    have h1 := h d (List.mem_cons_self ..)
    have h2 := wgts_le fun d hd => h d (List.mem_cons_of_mem _ hd)
    have e : wgts (d :: ds) = wgt d + 1 + wgts ds := rfl
    rw [e, List.length_cons, Nat.add_mul, Nat.one_mul]
    omega
theorem rep_vals {ds : List Dat} (h : ∀ d ∈ ds, VG d) (hl : ds.length ≤ 500) : reprOk (.lst ds) = true := by
  have f : fine (.lst ds) = true := by
    have := fines_map (f := fun d : Dat => d) (l := ds) fun d hd => (h d hd).ok.ev.fine
    rw [List.map_id'] at this
    exact this
  have dd := deps_map (f := fun d : Dat => d) (l := ds) (b := 8) fun d hd => (h d hd).ok.ev.dep
  have ww := wgts_le (b := 200) fun d hd => (h d hd).w
  rw [List.map_id'] at dd
  refine reprOk_of f ?_ ?_
  · rw [dep_lst]; omega
  · rw [wgt_lst]; omega
theorem rep_at {i : Nat} (hi : i ≤ 2000) : reprOk (.tup [.str "at", .int (i : Int)]) = true := by
  have e1 : 0 ≤ (i : Int) := by omega
  have e2 : (i : Int) < 10 ^ 12 := by omega
  refine reprOk_of ?_ (show 0 + 1 ≤ 64 by decide) ?_
  · show (fine (.str "at") && (fine (.int (i : Int)) && true)) = true
    rw [fine_nat e1 e2, show fine (.str "at") = true by decide +kernel]; rfl
  · show wgt (.str "at") + 1 + (wgt (.int (i : Int)) + 1 + 0) ≤ 2 ^ 20
    have e := wgt_nat e1 e2
    have e3 : wgt (.str "at") = 2 := by decide +kernel
    omega
theorem rep_tree {z : Str} (hz : sml z) (hl : z.length ≤ 100000) : reprOk (.tup [.str "tree", .str z]) = true := by
  refine reprOk_of ?_ (show 0 + 1 ≤ 64 by decide) ?_
  · show (fine (.str "tree") && (fine (.str z) && true)) = true
    rw [fine_str hz, show fine (.str "tree") = true by decide +kernel]; rfl
  · show wgt (.str "tree") + 1 + (z.cps.size + 1 + 0) ≤ 2 ^ 20
    have e3 : wgt (.str "tree") = 4 := by decide +kernel
    have e4 : z.cps.size ≤ 100000 := hl
    omega
theorem runR_le : ∀ (ds : List Dat) (i j : Nat) (s : List Nd × List Op), runR i s ds = .inl j → j ≤ i + ds.length
  | [], i, j, s, h => by unfold runR at h; cases h
  | d :: ds, i, j, s, h => by
    unfold runR at h
    split at h
    · cases h; omega
    · have := runR_le ds (i + 1) j _ h
      rw [List.length_cons]; omega
theorem from_le {ds : List Dat} {j : Nat} (hok : ∀ d ∈ ds, EvOk d) (h : fromE ds = .inl j) : j ≤ ds.length := by
  unfold fromE at h
  split at h
  · rename_i e
    cases h
    have := runR_le ds 0 _ _ e
    omega
  · cases h
  · cases h; exact Nat.le_refl _
theorem runR_ev : ∀ (ds : List Dat) (i : Nat) (s s' : List Nd × List Op), runR i s ds = .inr s' → ∀ d ∈ ds, isEvD d = true
  | [], _, _, _, _, d, hd => nomatch hd
  | e :: ds, i, s, s', h, d, hd => by
    unfold runR at h
    split at h
    · cases h
    · rename_i hc
      rcases List.mem_cons.mp hd with rfl | hd
      · cases hv : isEvD d with
        | true => rfl
        | false =>
          have : canR s.2 d = false := by unfold canR; rw [hv]; rfl
          rw [this] at hc
          simp at hc
      · exact runR_ev ds (i + 1) _ s' h d hd
theorem from_ev {ds : List Dat} {t : Nd} (h : fromE ds = .inr t) : ∀ d ∈ ds, isEvD d = true := by
  unfold fromE at h
  split at h
  · cases h
  · rename_i e
    exact runR_ev ds 0 _ _ e
  · cases h
/-- the events of a tree that is made of the law's values -/
theorem vals_show {ds : List Dat} {t : Nd} (hv : ∀ d ∈ ds, VG d) (h : fromE ds = .inr t) (e : ds = (evsN t).map evD) : ∀ x ∈ evsN t, showE x := fun x hx => by
  have hm : evD x ∈ ds := by rw [e]; exact List.mem_map.mpr ⟨x, hx, rfl⟩
  have h1 := from_ev h _ hm
  have h2 := hv _ hm
  rcases isEv_of h1 h2.ok.ev with ⟨n, m, q, q1, q2⟩ | q
  · rw [evD_inj (b := some (n, m)) q]
    exact ⟨q1, q2, by rw [ten12]; exact h2.sm n m q⟩
  · rw [evD_inj (b := none) q]; trivial
theorem show_small {e : Ev} (h : showE e) : smallE e := by
  cases e with
  | none => trivial
  | some q =>
    obtain ⟨n, m⟩ := q
    exact ⟨Nat.le_trans (nm_len h.1) (by decide), h.2.1, Int.lt_trans h.2.2 (by decide)⟩
theorem word_wg {e : Ev} (h : showE e) : (wordE e).length ≤ 30 ∧ sml (wordE e) := by
  cases e with
  | none => exact ⟨by decide +kernel, sml_of (by decide +kernel)⟩
  | some q =>
    obtain ⟨n, m⟩ := q
    obtain ⟨h1, h2, h3⟩ := h
    have e1 := nm_len h1
    have e2 : (TL.numL m.toNat).length ≤ 12 := TL.numL_len (by decide) (by rw [ten12] at h3; omega)
    constructor
    · rw [sgs_len, word_sgs h2, List.length_append, List.length_append, List.length_singleton, ← sgs_len]
      omega
    · intro c hc
      rw [word_sgs h2] at hc
      rcases List.mem_append.mp hc with hc | hc
      · rcases List.mem_append.mp hc with hc | hc
        · exact nm_sml h1 c hc
        · rw [List.mem_singleton.mp hc]; decide
      · have := TL.numL_digits _ c hc
        omega
theorem show_text {es : List Ev} (h : ∀ e ∈ es, showE e) (hl : es.length ≤ 500) : (textE es).length ≤ 100000 ∧ sml (textE es) := by
  constructor
  · refine Nat.le_trans join_le ?_
    have := sum_le (g := fun e : Ev => (wordE e).length) (b := 30) fun e he => (word_wg (h e he)).1
    rw [List.map_map, List.length_map]
    show (es.map fun e => (wordE e).length).sum + es.length ≤ 100000
    omega
  · refine sml_join fun x hx => ?_
    obtain ⟨e, he, rfl⟩ := List.mem_map.mp hx
    exact (word_wg (h e he)).2
theorem rep_ans {ds : List Dat} (hv : ∀ d ∈ ds, VG d) (hl : ds.length ≤ 500) : reprOk (.tup (ansL (fromE ds))) = true := by
  have hE : ∀ d ∈ ds, EvOk d := fun d hd => (hv d hd).ok.ev
  cases h : fromE ds with
  | inl i => exact rep_at (Nat.le_trans (from_le hE h) (by omega))
  | inr t =>
    obtain ⟨_, e⟩ := (due_from hE).2 t h
    have hs := vals_show hv h e
    have hl2 : (evsN t).length ≤ 500 := by rw [e, List.length_map] at hl; exact hl
    obtain ⟨k1, k2⟩ := show_text hs hl2
    show reprOk (.tup [.str "tree", .str (txN t)]) = true
    rw [tx_evs]
    exact rep_tree k2 k1
theorem rep_ansT {z : Str} (hz : z.length ≤ 494) (hs : sml z) : reprOk (.tup (ansL (fromE (evsT z)))) = true := by
  have hE : ∀ d ∈ evsT z, EvOk d := fun d hd => (evs_fine z d hd).1
  cases h : fromE (evsT z) with
  | inl i =>
    refine rep_at (Nat.le_trans (from_le hE h) ?_)
    have := wordsS_count z
    unfold evsT
    rw [List.length_map]; omega
  | inr t =>
    obtain ⟨_, e⟩ := (due_from hE).2 t h
    show reprOk (.tup [.str "tree", .str (txN t)]) = true
    rw [text_show e]
    exact rep_tree hs (by omega)
theorem ne_self {α : Type} [DecidableEq α] {a b : α} (h : a = b) : ¬ (!decide (a = b)) = true := by
  rw [decide_eq_true h]; decide
theorem notFirst_self {K : PySem.W.Frag} {C : Addr} : PySem.W.notFirst K C (.ref C) = true := by
  unfold PySem.W.notFirst
  rw [beq_self_eq_true]; rfl
def qL : Str := ("law" ++ ".<locals>.") ++ "<lambda>"
theorem tabO_of {O O' : Own} {T : Addr} {q : Str} (h : TabO O T q) (k : ∀ x u, O x = some (.obj u) → O' x = some (.obj u)) : TabO O' T q := by
  obtain ⟨ps, h1, h2, h3⟩ := h
  refine ⟨ps, k _ _ h1, h2, fun pos cv e => ?_⟩
  obtain ⟨c, e1, e2⟩ := h3 pos cv e
  exact ⟨c, e1, k _ _ e2⟩
theorem tab_new {O : Own} {T p : Addr} {q : Str} {c : Cell} (h : TabO O T q) (hp : O p = none) : TabO (up O p c) T q := tabO_of h fun x u e => by
  rw [up_ne (fun z => by rw [z, hp] at e; cases e)]; exact e
theorem tab_box {O : Own} {T p : Addr} {q : Str} {b c : Cell} (h : TabO O T q) (hp : O p = some b) (hb : isBox b) : TabO (up O p c) T q := tabO_of h fun x u e => by
  rw [up_ne (fun z => by
    obtain ⟨_, _, _, rfl, _⟩ := hb
    rw [z, hp] at e; cases e)]; exact e
theorem made_box {O O1 : Own} {T p c : Addr} {q : Str} {b : Cell} (m : Made T q O O1 c) (h : TabO O T q) (hp : O p = some b) (hb : isBox b) : O1 p = some b := m.keep p b (fun z => by
  obtain ⟨_, _, _, rfl, _⟩ := hb
  obtain ⟨ps, h1, _⟩ := h
  rw [z, h1] at hp; cases hp) hp
mutual
theorem gd_nm : ∀ t : Nd, gdT t → nmE t
  | .mk n m cs, h => by
    have h0 := h n m (by rw [evsN]; exact List.mem_cons_self ..)
    rw [nmE]
    exact ⟨h0.1, h0.2.1, gds_nm cs fun n' m' e => h n' m' (by rw [evsN]; exact List.mem_cons_of_mem _ (List.mem_append.mpr (.inl e)))⟩
theorem gds_nm : ∀ cs : List Nd, (∀ n m, some (n, m) ∈ evsNs cs → isNm n = true ∧ mkOk m) → nmEs cs
  | [], _ => by rw [nmEs]; trivial
  | c :: cs, h => by
    rw [nmEs]
    exact ⟨gd_nm c fun n m e => h n m (by rw [evsNs]; exact List.mem_append.mpr (.inl e)), gds_nm cs fun n m e => h n m (by rw [evsNs]; exact List.mem_append.mpr (.inr e))⟩
end
mutual
theorem ht_sz : ∀ t : Nd, htN t ≤ szN t
  | .mk n m cs => by rw [htN, szN]; have := hts_sz cs; omega
theorem hts_sz : ∀ cs : List Nd, htNs cs ≤ szNs cs
  | [] => by rw [htNs, szNs]; exact Nat.le_refl _
  | c :: cs => by
    rw [htNs, szNs]
    have h1 := ht_sz c
    have h2 := hts_sz cs
    exact Nat.max_le.mpr ⟨by omega, by omega⟩
end
theorem gd_good {t : Nd} (h : gdT t) : ∀ e ∈ evsN t, goodE e := fun e he => by
  cases e with
  | none => trivial
  | some q =>
    obtain ⟨n, m⟩ := q
    obtain ⟨h1, h2, h3⟩ := h n m he
    exact ⟨h1, h2, Int.lt_trans h3 (by decide)⟩
/-- what reading makes of values, as it is heard -/
def FromTh (CT CN : Addr) (ds : List Dat) : Thk := fun O R => (∀ i, fromE ds = .inl i → R (.exc (.own CN [("at", .int (i : Int))])) O) ∧ ∀ t, fromE ds = .inr t → R (.ret (.dat (ndD CT t))) O
theorem heard_of {K : PySem.W.Frag} {CT CN : Addr} {ds : List Dat} {O O1 : Own} {T c : Addr} {q : Str} {R : Out → Own → Prop} (hCT : clsAt K "Tree" CT) (hCN : clsAt K "NoTree" CN) (m : Made T q O O1 c) (h : R (.ret (.dat (.tup (ansL (fromE ds))))) O1) :
    HeardS K (fun O2 R => O2 c = some (.obj (LamX.CodeO c q)) ∧ FromTh CT CN ds O2 R) O1 R :=
  ⟨CT, CN, hCT, hCN, fun R' h1 h2 => ⟨m.code, fun i hi => h2 _ _ (by rw [hi] at h; exact h), fun t ht => h1 _ _ (by rw [ht] at h; exact h)⟩⟩
section
variable {X : Cx} {O : Own} {ρ : List Slot} {x : ExK} {k : Slot → Own → Prop} {e : Expr} {p pos : Pos} {CT : Addr}
theorem ew_listTree (M : MIter X.prog X.w X.K X.mg X.base 1 CT (ItrS X.K)) (ml : MCal X.prog X.w X.K X.mg X.base false 1 CT "__len__" (TLenS X.K) []) (hl : X.mg "list" = none) (hC : clsAt X.K "Tree" CT) (hr : Room 4 X.A)
    (h : EW X O ρ e x fun s O1 => ∃ t, s = .dat (ndD CT t) ∧ szN t ≤ 10000 ∧ k (.dat (.lst ((preN t).map (ndD CT)))) O1) (hg : Gl X "list" := by rfl) (hs : starEach (e :: []) X.env = (false, eval e X.env) :: starEach [] X.env := by rfl) :
    EW X O ρ (.Call (.Name "list" p) [e] [] pos) x k := by
  refine ew_frz (ew_callTy hl bt_list (aw_cons (h.mono fun s O1 ⟨t, e, hz, hk⟩ => aw_nil ?_) hs) hg (hs := hs))
  subst e
  refine cb_listOwn (n := 1) M ml hr (Nat.le_refl _) (Nat.le_refl _) (by obtain ⟨nm, mk, cs, rfl⟩ := nd_eq t; rw [ndD]; rfl) fun N => ⟨CT, t, rfl, hC, fun it hit hN => ⟨it, (preN t).map (ndD CT), rfl, hit, hN, rfl, ?_, CT, t, rfl, hC, _, rfl, by omega, by omega, rfl, fun q hq => ⟨q, _, rfl, up_at, ?_⟩⟩⟩
  · rw [List.length_map, preN_len, sizeLine_eq]; omega
  · rw [dn_up hq]; exact hk
end
section
variable {P : Program} {w : World} {K : PySem.W.Frag} {mg : Str → Option Value} {base : Heap}
theorem cm_fromT (T : TopOf K mg) (Z : Facts K) {C : Addr} (hC : clsAt K "Tree" C) : CMCal P w K mg base false 10 C "from_events" (FromTS K) [] := by
  obtain ⟨C', I_Tree, tI, tRd, tFe, tL, tIt, tE, tS, tEv, na1, na2, na3, na4, na5⟩ := Z.c_Tree
  obtain rfl := at_inj hC I_Tree.at_
  exact cmcal_of I_Tree tFe (by walk_at "b2") fun f fd F => fn_from_eventsT T Z F
theorem cm_read (T : TopOf K mg) (Z : Facts K) {C : Addr} (hC : clsAt K "Tree" C) : CMCal P w K mg base false 12 C "read" (ReadS K) [] := by
  obtain ⟨C', I_Tree, tI, tRd, tFe, tL, tIt, tE, tS, tEv, na1, na2, na3, na4, na5⟩ := Z.c_Tree
  obtain rfl := at_inj hC I_Tree.at_
  exact cmcal_of I_Tree tRd (by walk_at "b2") fun f fd F => fn_Tree_read T Z F
theorem fn_law (T : TopOf K mg) (Z : Facts K) {f c TA : Addr} {fd : FuncData} (F : L2.Fun K "law" "law" s_law f fd) (hc : fd.code = .ref c) (TB : LamX.TabB base mg c TA) : Fn P w K mg base true (60) f fd ["_law_script"] (LawTS TA) := by
  have sc := sc_law
  refine fn_mkCode (funX_of F) hc sc_law (fun ss O R h => by obtain ⟨_, rfl, _⟩ := h; rfl) fun A outer s H E ss O R hr hpo h => ?_
  obtain ⟨ns, rfl, hns, hT, h⟩ := h
  obtain ⟨CT, I_Tree, tI, tRd, tFe, tL, tIt, tE, tS, tEv, na1, na2, na3, na4, na5⟩ := Z.c_Tree
  obtain ⟨CR, I_Row, _⟩ := Z.c_Row
  obtain ⟨CN, BN, XN, nfN⟩ := Z.x_NoTree
  have hCT := I_Tree.at_
  have hCR := I_Row.at_
  have hCN := XN.a.at_
  -- 0:_law_script 1:_law_k 2:_law_box_here 3:_law_names_here 4:_law_events_here 5:_law_text_here 6:_law_made 7:_law_other 8:_law_node 9:_law_turn 10:_law_values 11:_law_words 12:_law_more 13:_law_odd_here 14:_law_others 15:_law_at 16:_law_kept 17:_law_own 18:_law_due_here 19:_law_some 20:_law_word 21:_law_found
  refine sw_cons ?_
  refine s1_for hpo ?_
  refine iw_range1 (T.no Z.n_range) ?_
  refine aw_cons ?_
  refine ew_callB (T.no Z.n_max) bt_max ?_
  refine aw_cons ?_
  refine ew_int ?_
  refine aw_cons ?_
  refine ew_callB (T.no Z.n_min) bt_min ?_
  refine aw_cons ?_
  refine ew_int ?_
  refine aw_cons ?_
  refine ew_callB (T.no Z.n_len) bt_len ?_
  refine aw_cons ?_
  refine ew_var 0 ?_
  refine aw_nil ?_
  walk_at "cb len"
  refine aw_nil ?_
  walk_at "cb min"
  refine aw_nil ?_
  walk_at "cb max"
  refine aw_nil ?_
  refine ⟨_, rfl, by constructor <;> (repeat' split) <;> omega, ?_⟩
  refine ⟨fun i ρ' O' => ∃ (s1 s2 s3 s4 s5 s6 s7 s9 s10 s11 s12 s13 s14 s15 s16 s17 s18 s19 s21 : Slot), ρ' = [.dat (.fro (ns.map .int)), s1, s2, s3, s4, s5, s6, s7, .unk, s9, s10, s11, s12, s13, s14, s15, s16, s17, s18, s19, .unk, s21] ∧ TabO O' TA qL, ?_, ?_, ?_⟩
  · exact ⟨_, _, _, _, _, _, _, _, _, _, _, _, _, _, _, _, _, _, _, rfl, tabO_nil hT⟩
  · intro i d ρ2 O2 hj hd
    obtain ⟨s1, s2, s3, s4, s5, s6, s7, s9, s10, s11, s12, s13, s14, s15, s16, s17, s18, s19, s21, rfl, hTO⟩ := hj
    obtain ⟨hi, rfl⟩ := rangeD_at hd
    have hi : i < 6 := by
      rw [List.length_map] at hi
      revert hi
      (repeat' split) <;> omega
    refine gw_name 1 ?_ sc.nd
    refine sw_cons ?_
    refine s1_set 2 ?_ sc.nd
    refine ew_call (c_law_box T Z) hr ?_
    refine aw_cons ?_
    refine ew_var 0 ?_
    refine aw_cons ?_
    refine ew_var 1 ?_
    refine aw_cons ?_
    refine ew_int ?_
    refine aw_nil ?_
    refine ⟨ns, _, _, rfl, by omega, by omega, by decide, by decide, fun p b hp hb => ?_⟩
    refine sw_cons ?_
    refine s1_set 3 ?_ sc.nd
    refine ew_call (c_law_names T Z) hr ?_
    refine aw_cons ?_
    refine ew_var 2 ?_
    refine aw_cons ?_
    refine ew_bin ?_
    refine ew_int ?_
    refine ew_call (c_law_take T Z) hr ?_
    refine aw_cons ?_
    refine ew_var 2 ?_
    refine aw_cons ?_
    refine ew_int ?_
    refine aw_nil ?_
    refine ⟨p, _, b, rfl, up_at, hb, by decide, by decide, fun many b1 hm0 hm1 hb1 => ?_⟩
    walk_at "op add"
    refine aw_nil ?_
    refine ⟨p, b1, _, rfl, up_at, hb1, by omega, by omega, fun b2 ws hb2 hw0 hwl hws => ?_⟩
    rw [up_up, up_up]
    refine sw_cons ?_
    refine s1_set 4 ?_ sc.nd
    refine ew_call (c_law_events T Z 12) hr ?_
    refine aw_cons ?_
    refine ew_call (c_law_tree T Z) hr ?_
    refine aw_cons ?_
    refine ew_var 2 ?_
    refine aw_cons ?_
    refine ew_var 3 ?_
    refine aw_cons ?_
    refine ew_int ?_
    refine aw_nil ?_
    refine ⟨p, b2, ws, 12, rfl, up_at, hb2, hw0, hwl, hws, by decide, by decide, fun b3 t hb3 hgd hsz => ?_⟩
    rw [up_up]
    have hTO3 := tab_new (c := b3) hTO hp
    have hO3 : (up O2 p b3) p = some b3 := up_at
    generalize up O2 p b3 = O3 at hTO3 hO3
    have hsz' : szN t ≤ 12 := by omega
    have hht := ht_sz t
    refine aw_nil ?_
    refine ⟨t, rfl, by omega, by omega, ?_⟩
    have hge := gd_good hgd
    have hlen := evsN_len t
    have hsm : ∀ e ∈ evsN t, smallE e := fun e he => (hge e he).small
    have hfe := from_evs (gd_nm t hgd)
    have hok : ∀ d ∈ (evsN t).map evD, EvOk d ∧ smMark d := fun d hd => by
      obtain ⟨e, he, rfl⟩ := List.mem_map.mp hd
      exact ev_fine (hge e he).show
    have hrs := read_show hge
    have htx := tx_evs t
    have hwb := words_back hge
    have hwz : wordsS (textE (evsN t)) = Txt.split (textE (evsN t)) " " := by
      unfold wordsS
      refine if_neg fun e => ?_
      unfold wordsS at hwb
      rw [if_pos e] at hwb
      have := congrArg List.length hwb
      rw [List.length_map, hlen] at this
      have := htN_pos t
      simp at *
      omega
    have hwd := word_wd hge
    obtain ⟨htl, hts⟩ : (textE (evsN t)).length ≤ 494 ∧ sml (textE (evsN t)) := join_ok (ys := (evsN t).map wordE) (fun y hy => by
      obtain ⟨y', e, hw⟩ := hwd (.str y) (List.mem_map.mpr ⟨y, hy, rfl⟩)
      cases e; exact hw) (by rw [List.length_map]; omega)
    refine sw_cons ?_
    refine s1_set 5 ?_ sc.nd
    refine ew_call (c_law_text T Z) hr ?_
    refine aw_cons ?_
    refine ew_var 4 ?_
    refine aw_nil ?_
    refine ⟨evsN t, rfl, by omega, hsm, ?_⟩
    refine sw_cons ?_
    refine s1_par 6 7 ?_ sc.nd
    refine aw_cons ?_
    refine ew_cmeth (cm_from T Z hCT) hr ?_
    refine ew_cls (T.is hCT) ?_
    refine ⟨rfl, ?_⟩
    refine aw_cons ?_
    refine ew_var 4 ?_
    refine aw_nil ?_
    refine ⟨CT, CR, CN, (evsN t).map evD, rfl, hCT, hCR, hCN, by rw [List.length_map]; omega, hok, fun i hi => (by cases hfe.symm.trans hi), fun t' ht' => ?_⟩
    obtain rfl : t = t' := by
      have := hfe.symm.trans ht'
      injection this
    refine aw_cons ?_
    refine ew_cmeth (cm_read T Z hCT) hr ?_
    refine ew_cls (T.is hCT) ?_
    refine ⟨rfl, ?_⟩
    refine aw_cons ?_
    refine ew_var 5 ?_
    refine aw_nil ?_
    refine ⟨CT, CR, CN, textE (evsN t), rfl, hCT, hCR, hCN, by omega, by rw [hwb, List.length_map]; omega, fun i hi => (by rw [hrs] at hi; cases hfe.symm.trans hi), fun t' ht' => ?_⟩
    obtain rfl : t = t' := by
      rw [hrs] at ht'
      have := hfe.symm.trans ht'
      injection this
    refine aw_nil ?_
    refine ⟨_, _, rfl, ?_⟩
    refine sw_cons ?_
    refine s1_if ?_
    refine tw_w ?_
    refine tww_or ?_
    refine tw_cmp ?_
    refine ew_callTy (T.no Z.n_str) bt_str ?_
    refine aw_cons ?_
    refine ew_var 6 ?_
    refine aw_nil ?_
    obtain ⟨g0, fd0, hm0, F0⟩ := tS.ex
    refine cb_strOwn hm0.at_ hm0.fn (fn_Tree_str T Z F0) (mbinds F0 (by walk_at "b1")) (hr.r.mono (by decide)) (by obtain ⟨nm, mk, cs, rfl⟩ := nd_eq t; rw [ndD]; rfl) ⟨CT, t, rfl, hCT, _, rfl, ?_⟩
    refine ew_var 5 ?_
    refine ob_neS ?_
    refine ⟨_, rfl, fun ht => absurd ht (ne_self htx), fun _ => ?_⟩
    refine tww_or1 ?_
    refine tw_cmp ?_
    refine ew_var 7 ?_
    refine ew_cmeth (cm_fromT T Z hCT) hr ?_
    refine ew_cls (T.is hCT) ?_
    refine ⟨rfl, ?_⟩
    refine aw_cons ?_
    refine ew_callTy (T.no Z.n_tuple) bt_tuple ?_
    refine aw_cons ?_
    refine ew_var 4 ?_
    refine aw_nil ?_
    refine cb_tupL ?_
    refine aw_nil ?_
    refine ⟨CT, CR, CN, (evsN t).map evD, rfl, hCT, hCR, hCN, by rw [List.length_map]; omega, hok, fun i hi => (by cases hfe.symm.trans hi), fun t' ht' => ?_⟩
    obtain rfl : t = t' := by
      have := hfe.symm.trans ht'
      injection this
    refine ob_ownNe (eq_Tree T Z 12 hCT) (hr.r.mono (by decide)) (by obtain ⟨nm, mk, cs, rfl⟩ := nd_eq t; rw [ndD]; rfl) (by obtain ⟨nm, mk, cs, rfl⟩ := nd_eq t; rw [ndD]; rfl) notFirst_self ⟨CT, t, rfl, hCT, by omega, _, rfl, ?_⟩
    refine ⟨_, rfl, fun ht => absurd ht (by decide), fun _ => ?_⟩
    refine sw_nil ?_
    refine sw_cons ?_
    refine s1_if ?_
    refine tw_cmp ?_
    refine ew_map (preN t ++ preN t) (ndD CT) (ndD CT) (fun _ => false) [("_law_node", 8)] sc.nd (.name (i := 8) (by decide) fun Y ⟨_, _, _, _, _, e⟩ => by subst e; exact pg_name (i := 8) sc.nd rfl (.inl rfl) (.inr rfl)) (blkOk_by (N := N_law) (sc := defScope s_law) (by decide +kernel)) (iw_list ?_) (by rw [List.length_append, preN_len, sizeLine_eq]; omega) (fun c hc => ⟨_, rfl, fun O' Y hY => ?_⟩) ?_
    · refine ew_bin ?_
      refine ew_listTree (m_iter T Z hCT) (m_len T Z hCT) (T.no Z.n_list) hCT (hr.r.mono (by decide)) ?_
      refine ew_var 6 ?_
      refine ⟨t, rfl, by omega, ?_⟩
      refine ew_listTree (m_iter T Z hCT) (m_len T Z hCT) (T.no Z.n_list) hCT (hr.r.mono (by decide)) ?_
      refine ew_var 7 ?_
      refine ⟨t, rfl, by omega, ?_⟩
      refine ob_catL (by rw [List.length_map, preN_len, sizeLine_eq]; omega) ?_
      exact ⟨_, rfl, by rw [List.map_append], rfl⟩
    · obtain ⟨_, _, _, _, _, rfl⟩ := hY
      refine ⟨tsw_one ?_, fun h => (nomatch h)⟩
      refine tw_not ?_
      refine tw_val ?_
      refine ew_callB (T.no Z.n_isinstance) bt_isinstance ?_
      refine aw_cons ?_
      refine ew_children I_Tree.ins.cl na3 ?_
      refine ew_var 8 ?_
      refine ⟨c, rfl, ?_⟩
      refine aw_cons ?_
      refine ew_bltn (T.no Z.n_tuple) bt_tuple ?_
      refine aw_nil ?_
      refine cb_isTy (kit_tup (show "tuple" ≠ "" by decide)) ?_ (show "tuple" ≠ "" by decide)
      exact ⟨_, rfl, rfl, rfl⟩
    have enil : ((preN t ++ preN t).filter fun _ => false).map (ndD CT) = [] := by simp
    rw [enil]
    refine ew_lstD ?_
    refine aw_nil ?_
    refine ⟨[], rfl, by decide, ?_⟩
    refine ob_ne (hr.r.mono (by decide)) rfl rfl shaped_nil shaped_nil ?_
    refine ⟨_, rfl, fun ht => absurd ht (by decide +kernel), fun _ => ?_⟩
    refine sw_nil ?_
    refine sw_one ?_
    refine s1_for hpo ?_
    refine iw_range1 (T.no Z.n_range) ?_
    refine aw_cons ?_
    refine ew_int ?_
    refine aw_nil ?_
    refine ⟨_, rfl, by decide, ?_⟩
    refine ⟨fun j ρ' O' => ∃ (b : Cell) (s1 s9 s10 s11 s12 s13 s14 s15 s16 s17 s18 s19 s21 : Slot), ρ' = [.dat (.fro (ns.map .int)), s1, .own p, .dat (.lst (ws.map .str)), .dat (.lst ((evsN t).map evD)), .dat (.str (textE (evsN t))), .dat (ndD CT t), .dat (ndD CT t), .unk, s9, s10, s11, s12, s13, s14, s15, s16, s17, s18, s19, .unk, s21] ∧ O' p = some b ∧ isBox b ∧ TabO O' TA qL, ?_, ?_, ?_⟩
    · exact ⟨b3, _, _, _, _, _, _, _, _, _, _, _, _, _, rfl, hO3, hb3, hTO3⟩
    · intro i d ρ2 O2 hj hd
      obtain ⟨b4, s1, s9, s10, s11, s12, s13, s14, s15, s16, s17, s18, s19, s21, rfl, hO4, hb4, hTO4⟩ := hj
      refine gw_name 9 ?_ sc.nd
      refine sw_cons ?_
      refine s1_par 10 11 ?_ sc.nd
      refine aw_cons ?_
      refine ew_frz ?_
      refine ew_callTy (T.no Z.n_list) bt_list ?_
      refine aw_cons ?_
      refine ew_var 4 ?_
      refine aw_nil ?_
      refine cb_listL fun q hq => ?_
      refine ⟨q, _, rfl, up_at, ?_⟩
      rw [dn_up hq]
      refine aw_cons ?_
      refine ew_split ?_
      refine ew_var 5 ?_
      refine ⟨_, rfl, ?_⟩
      refine ew_str ?_
      refine m1_split (by decide +kernel) (by rw [sizeLine_eq]; omega) ?_
      rw [← hwz, hwb]
      refine aw_nil ?_
      refine ⟨_, _, rfl, ?_⟩
      refine sw_cons ?_
      refine s1_for hpo ?_
      refine iw_range1 (T.no Z.n_range) ?_
      refine aw_cons ?_
      refine ew_bin ?_
      refine ew_int ?_
      refine ew_call (c_law_take T Z) hr ?_
      refine aw_cons ?_
      refine ew_var 2 ?_
      refine aw_cons ?_
      refine ew_int ?_
      refine aw_nil ?_
      refine ⟨p, _, b4, rfl, hO4, hb4, by decide, by decide, fun d0 b5 hd00 hd01 hb5 => ?_⟩
      walk_at "op add"
      refine aw_nil ?_
      have hTO5 := tab_box (c := b5) hTO4 hO4 hb4
      have hO5 : (up O2 p b5) p = some b5 := up_at
      generalize up O2 p b5 = O5 at hTO5 hO5
      refine ⟨_, rfl, by constructor <;> omega, ?_⟩
      refine ⟨fun m ρ' O' => ∃ (b : Cell) (vs wds : List Dat) (s1 s9 s12 s13 s14 s15 s16 s17 s18 s19 s21 : Slot), ρ' = [.dat (.fro (ns.map .int)), s1, .own p, .dat (.lst (ws.map .str)), .dat (.lst ((evsN t).map evD)), .dat (.str (textE (evsN t))), .dat (ndD CT t), .dat (ndD CT t), .unk, s9, .dat (.lst vs), .dat (.lst wds), s12, s13, s14, s15, s16, s17, s18, s19, .unk, s21] ∧ O' p = some b ∧ isBox b ∧ TabO O' TA qL ∧ (∀ d ∈ vs, VG d) ∧ vs.length ≤ 24 + m ∧ (∀ d ∈ wds, WD d) ∧ wds.length ≤ 24 + m, ?_, ?_, ?_⟩
      · refine ⟨b5, _, _, _, _, _, _, _, _, _, _, _, _, _, rfl, hO5, hb5, hTO5, fun d hd => ?_, by rw [List.length_map]; omega, hwd, by rw [List.length_map, List.length_map]; omega⟩
        obtain ⟨e, he, rfl⟩ := List.mem_map.mp hd
        exact ev_vg (hge e he)
      · intro i d ρ2 O2 hj hd
        obtain ⟨b6, vs, wds, s1, s9, s12, s13, s14, s15, s16, s17, s18, s19, s21, rfl, hO6, hb6, hTO6, hvs, hvl, hwds, hwl2⟩ := hj
        obtain ⟨hi2, rfl⟩ := rangeD_at hd
        have hi2 : i < 2 := by omega
        have hm2 : (5000 + (0 + (i : Int)) = 5000) ∨ (5000 + (0 + (i : Int)) = 5001) := by omega
        obtain ⟨ov1, ov2, ov3⟩ := odd_vg hm2
        obtain ⟨ow1, ow2, ow3⟩ := odd_wg hm2
        refine gw_name 12 ?_ sc.nd
        refine sw_cons ?_
        refine s1_asg ?_
        refine ew_call (c_law_odd T Z) hr ?_
        refine aw_cons ?_
        refine ew_bin ?_
        refine ew_int ?_
        refine ew_var 12 ?_
        walk_at "op add"
        refine aw_nil ?_
        refine ⟨_, rfl, by omega, by omega, ?_⟩
        refine gw_tup ?_
        refine gsw_cons ?_
        refine gw_name 13 ?_ sc.nd
        refine gsw_cons ?_
        refine gw_name 14 ?_ sc.nd
        refine gsw_nil ?_
        refine sw_one ?_
        refine s1_par 10 11 ?_ sc.nd
        refine aw_cons ?_
        refine ew_call (c_law_bent T Z) hr ?_
        refine aw_cons ?_
        refine ew_var 2 ?_
        refine aw_cons ?_
        refine ew_var 10 ?_
        refine aw_cons ?_
        refine ew_var 13 ?_
        refine aw_nil ?_
        refine ⟨p, b6, vs, _, rfl, hO6, hb6, by omega, ov2, ov3, fun b7 us hb7 hus hul => ?_⟩
        refine aw_cons ?_
        refine ew_call (c_law_bent T Z) hr ?_
        refine aw_cons ?_
        refine ew_var 2 ?_
        refine aw_cons ?_
        refine ew_var 11 ?_
        refine aw_cons ?_
        refine ew_var 14 ?_
        refine aw_nil ?_
        refine ⟨p, b7, wds, _, rfl, up_at, hb7, by omega, ow2, ow3, fun b8 us2 hb8 hus2 hul2 => ?_⟩
        rw [up_up]
        refine aw_nil ?_
        refine ⟨_, _, rfl, ?_⟩
        refine ⟨b8, us, us2, _, _, _, _, _, _, _, _, _, _, _, rfl, up_at, hb8, tab_box hTO6 hO6 hb6, fun d hd => ?_, by omega, fun d hd => ?_, by omega⟩
        · rcases hus d hd with q | q
          · exact hvs d q
          · exact ov1 d q
        · rcases hus2 d hd with q | q
          · exact hwds d q
          · exact ow1 d q
      · intro ρ2 O2 hj
        clear hO5 hTO5
        obtain ⟨b6, vs, wds, s1, s9, s12, s13, s14, s15, s16, s17, s18, s19, s21, rfl, hO6, hb6, hTO6, hvs, hvl, hwds, hwl2⟩ := hj
        rw [rangeD_len] at hvl hwl2
        have hvl : vs.length ≤ 26 := by omega
        have hwl2 : wds.length ≤ 26 := by omega
        obtain ⟨ys, rfl, hys⟩ := wd_words hwds
        rw [List.length_map] at hwl2
        obtain ⟨hzl, hzs⟩ := join_ok hys (by omega)
        generalize hoz : Txt.join " " ys = z at hzl hzs
        have hvE : ∀ d ∈ vs, EvOk d := fun d hd => (hvs d hd).ok.ev
        obtain ⟨due1, due2⟩ := due_from hvE
        have hzE : ∀ d ∈ evsT z, EvOk d := fun d hd => (evs_fine z d hd).1
        obtain ⟨dueT1, dueT2⟩ := due_from hzE
        have hrv := rep_vals hvs (by omega)
        have hra := rep_ans hvs (by omega)
        have hrz := rep_ansT hzl hzs
        have hzc : (wordsS z).length ≤ 500 := Nat.le_trans (wordsS_count z) (by omega)
        refine sw_cons ?_
        refine s1_asg ?_
        refine ew_tup ?_
        refine aw_cons ?_
        refine ew_call (c_law_due T Z) hr ?_
        refine aw_cons ?_
        refine ew_var 10 ?_
        refine aw_nil ?_
        refine ⟨vs, rfl, by omega, fun d hd => (hvs d hd).ok, ?_⟩
        refine aw_cons ?_
        refine ew_callB (T.no Z.n_repr) bt_repr ?_
        refine aw_cons ?_
        refine ew_var 10 ?_
        refine aw_nil ?_
        refine cb_reprL (hr.mono (by decide) (fun e => e)) hrv ?_
        refine aw_cons ?_
        refine ew_join ?_
        refine ew_str ?_
        refine ⟨_, rfl, ?_⟩
        refine ew_var 11 ?_
        refine m1_join (by
          have := sum_le (g := fun y : Str => y.length) (b := 18) fun y hy => (hys y hy).1
          rw [sp1]; omega) ?_
        rw [hoz]
        refine aw_nil ?_
        refine ⟨[_, _, _], rfl, by walk_at "few", ?_⟩
        refine gw_tup ?_
        refine gsw_cons ?_
        refine gw_name 15 ?_ sc.nd
        refine gsw_cons ?_
        refine gw_name 16 ?_ sc.nd
        refine gsw_cons ?_
        refine gw_name 17 ?_ sc.nd
        refine gsw_nil ?_
        refine sw_cons ?_
        refine s1_set 18 (EW.mono (k := fun s O' => s = .dat (.tup (ansL (fromE vs))) ∧ O' = O2) ?_ fun s O' hs => ?_) sc.nd
        · refine ew_if ?_
          refine tw_cmp ?_
          refine ew_var 15 ?_
          refine ew_non ?_
          refine ob_isN ?_
          cases hfr : fromE vs with
          | inl i =>
            rw [due1 i hfr]
            refine ⟨false, rfl, fun ht => absurd ht (by decide), fun _ => ?_⟩
            refine ew_tup ?_
            refine aw_cons ?_
            refine ew_str ?_
            refine aw_cons ?_
            refine ew_var 15 ?_
            refine aw_nil ?_
            exact ⟨[_, _], rfl, by walk_at "few", rfl, rfl⟩
          | inr t' =>
            obtain ⟨q1, q2⟩ := due2 t' hfr
            rw [q1]
            refine ⟨true, rfl, fun _ => ?_, fun ht => absurd ht (by decide)⟩
            refine ew_tup ?_
            refine aw_cons ?_
            refine ew_str ?_
            refine aw_cons ?_
            refine ew_call (c_law_text T Z) hr ?_
            refine aw_cons ?_
            refine ew_var 10 ?_
            refine aw_nil ?_
            refine ⟨evsN t', by rw [← q2]; rfl, by
              have := congrArg List.length q2
              rw [List.length_map] at this; omega, fun e he => show_small (vals_show hvs hfr q2 e he), ?_⟩
            refine aw_nil ?_
            exact ⟨[_, _], rfl, by walk_at "few", by rw [show ansL (.inr t') = [.str "tree", .str (txN t')] from rfl, tx_evs], rfl⟩
        obtain ⟨rfl, rfl⟩ := hs
        refine sw_cons ?_
        refine s1_for hpo ?_
        refine iw_tup ?_
        refine ew_tup ?_
        refine aw_cons ?_
        refine ew_var 10 ?_
        refine aw_cons ?_
        refine ew_callTy (T.no Z.n_tuple) bt_tuple ?_
        refine aw_cons ?_
        refine ew_var 10 ?_
        refine aw_nil ?_
        refine cb_tupL ?_
        refine aw_nil ?_
        refine ⟨[_, _], rfl, by walk_at "few", ?_⟩
        refine ⟨_, rfl, ?_⟩
        refine ⟨fun m ρ' O' => ∃ (s1 s9 s12 s13 s14 s19 s21 : Slot), ρ' = [.dat (.fro (ns.map .int)), s1, .own p, .dat (.lst (ws.map .str)), .dat (.lst ((evsN t).map evD)), .dat (.str (textE (evsN t))), .dat (ndD CT t), .dat (ndD CT t), .unk, s9, .dat (.lst vs), .dat (.lst (ys.map .str)), s12, s13, s14, .dat (dueDt (dueR 0 0 vs)), .dat (.str (reprD (.lst vs))), .dat (.str z), .dat (.tup (ansL (fromE vs))), s19, .unk, s21] ∧ O' p = some b6 ∧ TabO O' TA qL, ?_, ?_, ?_⟩
        · exact ⟨_, _, _, _, _, _, _, rfl, hO6, hTO6⟩
        · intro i d ρ2 O2 hj hd
          clear hO6 hTO6
          obtain ⟨s1, s9, s12, s13, s14, s19, s21, rfl, hO6, hTO6⟩ := hj
          have hdd : d = .lst vs ∨ d = .tup vs := by
            match i, hd with
            | 0, hd => cases hd; exact .inl rfl
            | 1, hd => cases hd; exact .inr rfl
          refine gw_name 19 ?_ sc.nd
          refine sw_one ?_
          refine s1_if ?_
          refine tw_w ?_
          refine tww_or ?_
          refine tw_cmp ?_
          refine ew_callB (T.no Z.n_repr) bt_repr ?_
          refine aw_cons ?_
          refine ew_lamCall (j := 20) (CS := HeardS K) (S := FromTh CT CN vs) (c_heard T Z) (hr.mono (by decide) (fun e => nomatch e)) TB rfl hTO6 (fun A outer s H E f c' hrl O R hS => ?_) (fun c' O1 md => heard_of hCT hCN md ?_) (LamX.lamS_by (sc := defScope s_law) (by decide +kernel))
          · rcases hdd with rfl | rfl
            · refine ew_cmeth (cm_from T Z hCT) hrl ?_
              refine ew_cls (T.is hCT) ?_
              refine ⟨rfl, ?_⟩
              refine aw_cons ?_
              refine ew_var 19 ?_
              refine aw_nil ?_
              exact ⟨CT, CR, CN, vs, rfl, hCT, hCR, hCN, by omega, fun e he => ⟨hvE e he, (hvs e he).sm⟩, hS.1, hS.2⟩
            · refine ew_cmeth (cm_fromT T Z hCT) hrl ?_
              refine ew_cls (T.is hCT) ?_
              refine ⟨rfl, ?_⟩
              refine aw_cons ?_
              refine ew_var 19 ?_
              refine aw_nil ?_
              exact ⟨CT, CR, CN, vs, rfl, hCT, hCR, hCN, by omega, fun e he => ⟨hvE e he, (hvs e he).sm⟩, hS.1, hS.2⟩
          refine aw_nil ?_
          refine cb_reprT (hr.mono (by decide) (fun e => e)) hra ?_
          refine ew_callB (T.no Z.n_repr) bt_repr ?_
          refine aw_cons ?_
          refine ew_var 18 ?_
          refine aw_nil ?_
          refine cb_reprT (hr.mono (by decide) (fun e => e)) hra ?_
          refine ob_neS ?_
          refine ⟨_, rfl, fun ht => absurd ht (ne_self rfl), fun _ => ?_⟩
          refine tww_or1 ?_
          refine tw_cmp ?_
          refine ew_callB (T.no Z.n_repr) bt_repr ?_
          refine aw_cons ?_
          refine ew_var 10 ?_
          refine aw_nil ?_
          refine cb_reprL (hr.mono (by decide) (fun e => e)) hrv ?_
          refine ew_var 16 ?_
          refine ob_neS ?_
          refine ⟨_, rfl, fun ht => absurd ht (ne_self rfl), fun _ => ?_⟩
          refine sw_nil ?_
          exact ⟨_, _, _, _, _, _, _, rfl, made_box md hTO6 hO6 hb6, md.tab⟩
        · intro ρ2 O2 hj
          clear hO6 hTO6
          obtain ⟨s1, s9, s12, s13, s14, s19, s21, rfl, hO6, hTO6⟩ := hj
          refine sw_cons ?_
          refine s1_set 15 ?_ sc.nd
          refine ew_call (c_law_due T Z) hr ?_
          refine aw_cons ?_
          refine EW.mono (k := fun s O' => s = .dat (.lst (evsT z)) ∧ O' = O2) ?_ fun s O' hs => ?_
          · refine ew_if ?_
            refine tw_cmp ?_
            refine ew_var 17 ?_
            refine ew_str ?_
            refine ob_neS ?_
            refine ⟨_, rfl, fun ht => ?_, fun ht => ?_⟩
            · have hz0 : ¬ z = "" := fun e => absurd ht (ne_self e)
              refine ew_map1 (Txt.split z " ") .str (fun y => evR (evS y)) [("_law_word", 20)] sc.nd (.name (i := 20) (by decide) fun Y ⟨_, _, _, _, _, e⟩ => by subst e; exact pg_name (i := 20) sc.nd rfl (.inl rfl) (.inr rfl)) (blkOk_by (N := N_law) (sc := defScope s_law) (by decide +kernel)) (iw_list ?_) (by unfold wordsS at hzc; rw [if_neg hz0] at hzc; exact Nat.le_trans hzc (by decide)) (fun y hy => ⟨_, rfl, fun O' Y hY => ?_⟩) ?_
              · refine ew_split ?_
                refine ew_var 17 ?_
                refine ⟨_, rfl, ?_⟩
                refine ew_str ?_
                refine m1_split (by decide +kernel) (by rw [sizeLine_eq]; omega) ?_
                exact ⟨_, rfl, rfl, rfl⟩
              · obtain ⟨_, _, _, _, _, rfl⟩ := hY
                refine ew_call (c_law_event T Z) hr ?_
                refine aw_cons ?_
                refine ew_var 20 ?_
                refine aw_nil ?_
                exact ⟨y, rfl, words_ok (z := z) ⟨by omega, hzs⟩ (by unfold wordsS; rw [if_neg hz0]; exact hy), rfl, rfl⟩
              · exact ⟨by unfold evsT wordsS; rw [if_neg hz0], rfl⟩
            · have hz0 : z = "" := by
                have := of_decide_eq_true (p := z = "") (by simpa using ht)
                exact this
              refine ew_lstD ?_
              refine aw_nil ?_
              exact ⟨[], rfl, by decide, by unfold evsT wordsS; rw [if_pos hz0]; rfl, rfl⟩
          obtain ⟨rfl, rfl⟩ := hs
          refine aw_nil ?_
          refine ⟨evsT z, rfl, by unfold evsT; rw [List.length_map]; exact hzc, evT_ok z, ?_⟩
          refine sw_one ?_
          refine s1_if ?_
          refine tw_cmp ?_
          refine ew_callB (T.no Z.n_repr) bt_repr ?_
          refine aw_cons ?_
          refine ew_lamCall (j := 20) (CS := HeardS K) (S := FromTh CT CN (evsT z)) (c_heard T Z) (hr.mono (by decide) (fun e => nomatch e)) TB rfl hTO6 (fun A outer s H E f c' hrl O R hS => ?_) (fun c' O1 md => heard_of hCT hCN md ?_) (LamX.lamS_by (sc := defScope s_law) (by decide +kernel))
          · refine ew_cmeth (cm_read T Z hCT) hrl ?_
            refine ew_cls (T.is hCT) ?_
            refine ⟨rfl, ?_⟩
            refine aw_cons ?_
            refine ew_var 17 ?_
            refine aw_nil ?_
            exact ⟨CT, CR, CN, z, rfl, hCT, hCR, hCN, by omega, hzc, hS.1, hS.2⟩
          refine aw_nil ?_
          refine cb_reprT (hr.mono (by decide) (fun e => e)) hrz ?_
          refine ew_callB (T.no Z.n_repr) bt_repr ?_
          refine aw_cons ?_
          refine EW.mono (k := fun s O' => s = .dat (.tup (ansL (fromE (evsT z)))) ∧ O' = O1) ?_ fun s O' hs => ?_
          · refine ew_if ?_
            refine tw_cmp ?_
            refine ew_var 15 ?_
            refine ew_non ?_
            refine ob_isN ?_
            cases hfr : fromE (evsT z) with
            | inl i =>
              rw [dueT1 i hfr]
              refine ⟨false, rfl, fun ht => absurd ht (by decide), fun _ => ?_⟩
              refine ew_tup ?_
              refine aw_cons ?_
              refine ew_str ?_
              refine aw_cons ?_
              refine ew_var 15 ?_
              refine aw_nil ?_
              exact ⟨[_, _], rfl, by walk_at "few", rfl, rfl⟩
            | inr t' =>
              obtain ⟨q1, q2⟩ := dueT2 t' hfr
              rw [q1]
              refine ⟨true, rfl, fun _ => ?_, fun ht => absurd ht (by decide)⟩
              refine ew_tup ?_
              refine aw_cons ?_
              refine ew_str ?_
              refine aw_cons ?_
              refine ew_var 17 ?_
              refine aw_nil ?_
              exact ⟨[_, _], rfl, by walk_at "few", by rw [show ansL (.inr t') = [.str "tree", .str (txN t')] from rfl, text_show q2], rfl⟩
          obtain ⟨rfl, rfl⟩ := hs
          refine aw_nil ?_
          refine cb_reprT (hr.mono (by decide) (fun e => e)) hrz ?_
          refine ob_neS ?_
          refine ⟨_, rfl, fun ht => absurd ht (ne_self rfl), fun _ => ?_⟩
          refine sw_nil ?_
          exact ⟨b6, _, _, _, _, _, _, _, _, _, _, _, _, _, rfl, made_box md hTO6 hO6 hb6, hb6, md.tab⟩
    · intro ρ2 O2 hj
      obtain ⟨b4, s1, s9, s10, s11, s12, s13, s14, s15, s16, s17, s18, s19, s21, rfl, hO4, hb4, hTO4⟩ := hj
      exact ⟨_, _, _, _, _, _, _, _, _, _, _, _, _, _, _, _, _, _, _, rfl, hTO4⟩
  · intro ρ2 O2 hj
    obtain ⟨s1, s2, s3, s4, s5, s6, s7, s9, s10, s11, s12, s13, s14, s15, s16, s17, s18, s19, s21, rfl, hTO⟩ := hj
    have w0 : evsT "" = [] := by unfold evsT wordsS; rw [if_pos rfl]; rfl
    refine sw_cons ?_
    refine s1_set 21 ?_ sc.nd
    refine ew_lamCall (j := 20) (CS := HeardS K) (S := FromTh CT CN (evsT "")) (c_heard T Z) (hr.mono (by decide) (fun e => nomatch e)) TB rfl hTO (fun A outer s H E f c' hrl O R hS => ?_) (fun c' O1 md => heard_of hCT hCN md ?_) (LamX.lamS_by (sc := defScope s_law) (by decide +kernel))
    · refine ew_cmeth (cm_read T Z hCT) hrl ?_
      refine ew_cls (T.is hCT) ?_
      refine ⟨rfl, ?_⟩
      refine aw_cons ?_
      refine ew_str ?_
      refine aw_nil ?_
      exact ⟨CT, CR, CN, "", rfl, hCT, hCR, hCN, by decide +kernel, by unfold wordsS; rw [if_pos rfl]; exact Nat.zero_le _, hS.1, hS.2⟩
    rw [w0]
    have hTO1 := md.tab
    have ea : eqD (.tup [.str "at", .int 0]) (.tup [.str "at", .int 0]) = true := by decide +kernel
    have es : SeqAt.shaped (toPy (.tup [.str "at", .int 0])) = true := by decide +kernel
    have ep : plain (.tup [.str "at", .int 0]) = true := by decide +kernel
    refine sw_one ?_
    refine s1_ret ?_
    refine ew_and ?_
    refine ew_cmp ?_
    refine ew_var 21 ?_
    refine ew_tup ?_
    refine aw_cons ?_
    refine ew_str ?_
    refine aw_cons ?_
    refine ew_int ?_
    refine aw_nil ?_
    refine ⟨[_, _], rfl, by walk_at "few", ?_⟩
    refine ob_eq (d1 := .tup [.str "at", .int 0]) (hr.r.mono (by decide)) ep ep es es ?_
    rw [ea]
    refine ⟨true, rfl, fun _ => ?_, fun ht => absurd ht (by decide)⟩
    refine ew_one ?_
    refine ew_cmp ?_
    refine ew_lamCall (j := 20) (CS := HeardS K) (S := FromTh CT CN []) (c_heard T Z) (hr.mono (by decide) (fun e => nomatch e)) TB rfl hTO1 (fun A outer s H E f c' hrl O R hS => ?_) (fun c' O1 md => heard_of hCT hCN md ?_) (LamX.lamS_by (sc := defScope s_law) (by decide +kernel))
    · refine ew_cmeth (cm_from T Z hCT) hrl ?_
      refine ew_cls (T.is hCT) ?_
      refine ⟨rfl, ?_⟩
      refine aw_cons ?_
      refine ew_lstD ?_
      refine aw_nil ?_
      refine ⟨[], rfl, by decide, ?_⟩
      refine aw_nil ?_
      exact ⟨CT, CR, CN, [], rfl, hCT, hCR, hCN, by decide, fun e he => (nomatch he), hS.1, hS.2⟩
    refine ew_var 21 ?_
    refine ob_eq (d1 := .tup [.str "at", .int 0]) (d2 := .tup [.str "at", .int 0]) (hr.r.mono (by decide)) ep ep es es ?_
    rw [ea]
    exact h _
end
end Lw
namespace LwE
open PySem PySem.W PyProof.Rows Lw
def says0_0 : List (Frag → Bool) := [Kn.freeB "isinstance",
  Kn.freeB "str",
  Kn.freeB "all",
  Kn.freeB "len",
  Kn.freeB "int",
  Kn.freeB "bool",
  Kn.freeB "list",
  Kn.freeB "tuple",
  Kn.freeB "property",
  Kn.freeB "classmethod",
  Kn.freeB "enumerate",
  Kn.freeB "iter",
  Kn.freeB "abs",
  Kn.freeB "range",
  Kn.freeB "repr",
  Kn.freeB "max"]
def says0_1 : List (Frag → Bool) := [Kn.freeB "min",
  Kn.defB "split_words",
  Kn.defB "is_made_of",
  Kn.defB "is_name",
  Kn.defB "is_figure",
  Kn.defB "is_mark",
  Kn.defB "own_copy",
  Kn.defB "is_event",
  Kn.defB "event_of",
  Kn.defB "_law_box",
  Kn.defB "_law_take",
  Kn.defB "_law_mixed",
  Kn.defB "_law_names",
  Kn.defB "_law_tree",
  Kn.defB "_law_events",
  Kn.defB "_law_text"]
def says0_2 : List (Frag → Bool) := [Kn.defB "_law_is_name",
  Kn.defB "_law_is_figure",
  Kn.defB "_law_event",
  Kn.defB "_law_is_event",
  Kn.defB "_law_due",
  Kn.defB "_law_heard",
  Kn.defB "_law_bent",
  Kn.defB "_law_odd",
  Kn.defB "law",
  Kn.textB "NAME_LETTERS" k_NAME_LETTERS,
  Kn.textB "DIGITS" k_DIGITS,
  Kn.textsB "TAKEN" k_TAKEN,
  Kn.excB "NoTree" "NoTree.__init__" "KeptError" ["at"],
  Kn.excB "NoBundle" "NoBundle.__init__" "KeptError" ["at"],
  Kn.slsB "Row",
  Kn.methB "Row" "__init__" "Row.__init__"]
def says0_3 : List (Frag → Bool) := [Kn.propB "Row" "is_whole" "Row.is_whole",
  Kn.methB "Row" "can_take" "Row.can_take",
  Kn.methB "Row" "take" "Row.take",
  Kn.slotB "Row" "done" 0,
  Kn.slotB "Row" "heads" 1,
  Kn.slotB "Row" "rows" 2,
  Kn.clsB "Tree",
  Kn.methDB "Tree" "__init__" "Tree.__init__",
  Kn.cmethB "Tree" "read" "Tree.read",
  Kn.cmethB "Tree" "from_events" "Tree.from_events",
  Kn.methB "Tree" "__len__" "Tree.__len__",
  Kn.methB "Tree" "__iter__" "Tree.__iter__",
  Kn.methB "Tree" "__eq__" "Tree.__eq__",
  Kn.methB "Tree" "__str__" "Tree.__str__",
  Kn.methB "Tree" "events" "Tree.events",
  Kn.noAtB "Tree" "name"]
def says0_4 : List (Frag → Bool) := [Kn.noAtB "Tree" "mark",
  Kn.noAtB "Tree" "children",
  Kn.noAtB "Tree" "nodes",
  Kn.noAtB "Tree" "text"]
def says0_ : List (Frag → Bool) := says0_0 ++ says0_1 ++ says0_2 ++ says0_3 ++ says0_4
def funs0_0 : List (Kn.Place × Str × Str × Stmt) := [(Kn.pGlo "split_words", "split_words", "split_words", s_split_words),
  (Kn.pGlo "is_made_of", "is_made_of", "is_made_of", s_is_made_of),
  (Kn.pGlo "is_name", "is_name", "is_name", s_is_name),
  (Kn.pGlo "is_figure", "is_figure", "is_figure", s_is_figure),
  (Kn.pGlo "is_mark", "is_mark", "is_mark", s_is_mark),
  (Kn.pGlo "own_copy", "own_copy", "own_copy", s_own_copy),
  (Kn.pGlo "is_event", "is_event", "is_event", s_is_event),
  (Kn.pGlo "event_of", "event_of", "event_of", s_event_of),
  (Kn.pGlo "_law_box", "_law_box", "_law_box", s_law_box),
  (Kn.pGlo "_law_take", "_law_take", "_law_take", s_law_take),
  (Kn.pGlo "_law_mixed", "_law_mixed", "_law_mixed", s_law_mixed),
  (Kn.pGlo "_law_names", "_law_names", "_law_names", s_law_names),
  (Kn.pGlo "_law_tree", "_law_tree", "_law_tree", s_law_tree),
  (Kn.pGlo "_law_events", "_law_events", "_law_events", s_law_events),
  (Kn.pGlo "_law_text", "_law_text", "_law_text", s_law_text),
  (Kn.pGlo "_law_is_name", "_law_is_name", "_law_is_name", s_law_is_name)]
def funs0_1 : List (Kn.Place × Str × Str × Stmt) := [(Kn.pGlo "_law_is_figure", "_law_is_figure", "_law_is_figure", s_law_is_figure),
  (Kn.pGlo "_law_event", "_law_event", "_law_event", s_law_event),
  (Kn.pGlo "_law_is_event", "_law_is_event", "_law_is_event", s_law_is_event),
  (Kn.pGlo "_law_due", "_law_due", "_law_due", s_law_due),
  (Kn.pGlo "_law_heard", "_law_heard", "_law_heard", s_law_heard),
  (Kn.pGlo "_law_bent", "_law_bent", "_law_bent", s_law_bent),
  (Kn.pGlo "_law_odd", "_law_odd", "_law_odd", s_law_odd),
  (Kn.pGlo "law", "law", "law", s_law),
  (Kn.pMeth "NoTree" "__init__", "__init__", "NoTree.__init__", s_NoTree_init),
  (Kn.pMeth "NoBundle" "__init__", "__init__", "NoBundle.__init__", s_NoBundle_init),
  (Kn.pMeth "Row" "__init__", "__init__", "Row.__init__", s_Row_init),
  (Kn.pProp "Row" "is_whole", "is_whole", "Row.is_whole", s_Row_is_whole),
  (Kn.pMeth "Row" "can_take", "can_take", "Row.can_take", s_Row_can_take),
  (Kn.pMeth "Row" "take", "take", "Row.take", s_Row_take),
  (Kn.pMeth "Tree" "__init__", "__init__", "Tree.__init__", s_Tree_init),
  (Kn.pCls "Tree" "read", "read", "Tree.read", s_Tree_read)]
def funs0_2 : List (Kn.Place × Str × Str × Stmt) := [(Kn.pCls "Tree" "from_events", "from_events", "Tree.from_events", s_Tree_from_events),
  (Kn.pMeth "Tree" "__len__", "__len__", "Tree.__len__", s_Tree_len),
  (Kn.pMeth "Tree" "__iter__", "__iter__", "Tree.__iter__", s_Tree_iter),
  (Kn.pMeth "Tree" "__eq__", "__eq__", "Tree.__eq__", s_Tree_eq),
  (Kn.pMeth "Tree" "__str__", "__str__", "Tree.__str__", s_Tree_str),
  (Kn.pMeth "Tree" "events", "events", "Tree.events", s_Tree_events)]
def funs0_ : List (Kn.Place × Str × Str × Stmt) := funs0_0 ++ funs0_1 ++ funs0_2
def look0 : Kn.Look := ⟨says0_, funs0_⟩
def says1_0 : List (Frag → Bool) := [Kn.sub2B "NoTree" "KeptError" true,
  Kn.sub2B "NoTree" "NoBundle" false,
  Kn.isClsB "Row",
  Kn.isClsB "Tree",
  Kn.isClsB "NoTree",
  Kn.isClsB "NoBundle",
  Kn.isClsB "KeptError"]
def says1_ : List (Frag → Bool) := says1_0
def look1 : Kn.Look := ⟨says1_, []⟩
def looks : List Kn.Look := [look0, look1]
def bound0 : List Str := ["__name__",
  "NAME_LETTERS",
  "DIGITS",
  "TAKEN",
  "split_words",
  "is_made_of",
  "is_name",
  "is_figure",
  "is_mark",
  "own_copy",
  "KeptError",
  "NoTree",
  "NoBundle",
  "is_event",
  "event_of",
  "Row"]
def bound1 : List Str := ["Tree",
  "_law_box",
  "_law_take",
  "_law_mixed",
  "_law_names",
  "_law_tree",
  "_law_events",
  "_law_text",
  "_law_is_name",
  "_law_is_figure",
  "_law_event",
  "_law_is_event",
  "_law_due",
  "_law_heard",
  "_law_bent",
  "_law_odd"]
def bound : List Str := bound0 ++ bound1
set_option maxHeartbeats 0 in
theorem facts_of (K : Frag) (c : ∀ L ∈ looks, L.Holds K) : Facts K := by
  have c0 : look0.Holds K := c _ (.head _)
  have c1 : look1.Holds K := c _ (.tail _ (.head _))
  constructor
  · exact Kn.free_look (c0.say 0)
  · exact Kn.free_look (c0.say 1)
  · exact Kn.free_look (c0.say 2)
  · exact Kn.free_look (c0.say 3)
  · exact Kn.free_look (c0.say 4)
  · exact Kn.free_look (c0.say 5)
  · exact Kn.free_look (c0.say 6)
  · exact Kn.free_look (c0.say 7)
  · exact Kn.free_look (c0.say 8)
  · exact Kn.free_look (c0.say 9)
  · exact Kn.free_look (c0.say 10)
  · exact Kn.free_look (c0.say 11)
  · exact Kn.free_look (c0.say 12)
  · exact Kn.free_look (c0.say 13)
  · exact Kn.free_look (c0.say 14)
  · exact Kn.free_look (c0.say 15)
  · exact Kn.free_look (c0.say 16)
  · exact Kn.def_look (c0.say 17) (c0.txt 0)
  · exact Kn.def_look (c0.say 18) (c0.txt 1)
  · exact Kn.def_look (c0.say 19) (c0.txt 2)
  · exact Kn.def_look (c0.say 20) (c0.txt 3)
  · exact Kn.def_look (c0.say 21) (c0.txt 4)
  · exact Kn.def_look (c0.say 22) (c0.txt 5)
  · exact Kn.def_look (c0.say 23) (c0.txt 6)
  · exact Kn.def_look (c0.say 24) (c0.txt 7)
  · exact Kn.def_look (c0.say 25) (c0.txt 8)
  · exact Kn.def_look (c0.say 26) (c0.txt 9)
  · exact Kn.def_look (c0.say 27) (c0.txt 10)
  · exact Kn.def_look (c0.say 28) (c0.txt 11)
  · exact Kn.def_look (c0.say 29) (c0.txt 12)
  · exact Kn.def_look (c0.say 30) (c0.txt 13)
  · exact Kn.def_look (c0.say 31) (c0.txt 14)
  · exact Kn.def_look (c0.say 32) (c0.txt 15)
  · exact Kn.def_look (c0.say 33) (c0.txt 16)
  · exact Kn.def_look (c0.say 34) (c0.txt 17)
  · exact Kn.def_look (c0.say 35) (c0.txt 18)
  · exact Kn.def_look (c0.say 36) (c0.txt 19)
  · exact Kn.def_look (c0.say 37) (c0.txt 20)
  · exact Kn.def_look (c0.say 38) (c0.txt 21)
  · exact Kn.def_look (c0.say 39) (c0.txt 22)
  · exact Kn.def_look (c0.say 40) (c0.txt 23)
  · exact Kn.text_look (c0.say 41)
  · exact Kn.text_look (c0.say 42)
  · exact Kn.texts_look (c0.say 43)
  · obtain ⟨C, B, E, no⟩ := Kn.exc_look (c0.say 44) (c0.txt 24)
    exact ⟨C, B, E, no _ (.head _)⟩
  · obtain ⟨C, B, E, no⟩ := Kn.exc_look (c0.say 45) (c0.txt 25)
    exact ⟨C, B, E, no _ (.head _)⟩
  · exact ⟨He.ga K "Row", Kn.sls_look (c0.say 46), Kn.meth_look (c0.say 47) (c0.txt 26), Kn.prop_look (c0.say 48) (c0.txt 27), Kn.meth_look (c0.say 49) (c0.txt 28), Kn.meth_look (c0.say 50) (c0.txt 29), Kn.slot_look (c0.say 51), Kn.slot_look (c0.say 52), Kn.slot_look (c0.say 53)⟩
  · exact ⟨He.ga K "Tree", Kn.cls_look (c0.say 54), Kn.methD_look (c0.say 55) (c0.txt 30), Kn.cmeth_look (c0.say 56) (c0.txt 31), Kn.cmeth_look (c0.say 57) (c0.txt 32), Kn.meth_look (c0.say 58) (c0.txt 33), Kn.meth_look (c0.say 59) (c0.txt 34), Kn.meth_look (c0.say 60) (c0.txt 35), Kn.meth_look (c0.say 61) (c0.txt 36), Kn.meth_look (c0.say 62) (c0.txt 37), Kn.noAt_look (c0.say 63), Kn.noAt_look (c0.say 64), Kn.noAt_look (c0.say 65), Kn.noAt_look (c0.say 66), Kn.noAt_look (c0.say 67)⟩
  · exact Kn.sub2_look (c1.say 0)
  · exact Kn.sub2_look (c1.say 1)
  · exact Kn.isCls_look (c1.say 2)
  · exact Kn.isCls_look (c1.say 3)
  · exact Kn.isCls_look (c1.say 4)
  · exact Kn.isCls_look (c1.say 5)
  · exact Kn.isCls_look (c1.say 6)
abbrev R : OpenRow := OpenLaw.row PySem.Challenge.rw_keptnomore_k04_trees_read_or_refused
abbrev qv : Program := view R.prog [35]
noncomputable abbrev endW (w : World) (os : OsState) : Option SharedT := HandSHeadRun.endF (HandSHeadRun.stepQ (HandSHeadRun.denQ HandSHeadRun.tabQ) R.prog w) 20000 R.prog w os
set_option maxHeartbeats 0 in
theorem run_all (w : World) (os : OsState) : (endW w os).map (fun s => (HandSHeadRun.looksF R.prog (boot_heap w.params) s.abs, HandSHeadRun.seenQ qv bound (importedModules R.prog.main.body) (fun s => xlAt qv [] s && recOk R.toRowW.records s) s.abs)) = some (true, openGood qv bound) := by
  kernel_rfl
set_option maxHeartbeats 0 in
theorem run_0 (w : World) (os : OsState) : (endW w os).map (look0.obT 4 2500) = some look0.good := by
  kernel_rfl
set_option maxHeartbeats 0 in
theorem run_1 (w : World) (os : OsState) : (endW w os).map (look1.obT 4 2500) = some look1.good := by
  kernel_rfl
theorem run (w : World) : HandSHeadRun.RunEq R qv (Kn.hookLT 4 2500 looks) (Kn.obLT 4 2500 looks) 20000 bound w := fun os => Kn.run_partsT (run_all w os) fun L hL => by
  rcases List.mem_cons.mp hL with rfl | hL
  · exact run_0 w os
  rw [List.mem_singleton.mp hL]; exact run_1 w os
end LwE
open PySem PySem.W PyProof.Rows
set_option maxHeartbeats 0 in
theorem PySem.Challenge.cw_keptnomore_k04_trees_read_or_refused_holds : PySem.Challenge.rw_keptnomore_k04_trees_read_or_refused.Holds := by
  w_on; o_law
  refine HandSHeadRun.head_any (r := OpenLaw.row PySem.Challenge.rw_keptnomore_k04_trees_read_or_refused) (q := LwE.qv) (H := Kn.hookLT 4 2500 LwE.looks) (ob := Kn.obLT 4 2500 LwE.looks) (M := 20000) (loose := LwE.bound) (d := HandSHeadRun.topDef (OpenLaw.row PySem.Challenge.rw_keptnomore_k04_trees_read_or_refused).prog 35) (kwd := []) (Kn.obLT_eq _ _ _)
    (by kernel_rfl) (fun s => by kernel_rfl) LwE.run (by kernel_rfl) (by kernel_rfl) (by kernel_rfl) (by rfl) (by first | assumption | decide +kernel) (by decide +kernel) ⟨rfl, rfl, rfl, rfl, rfl, by decide +kernel⟩ ?hw ?hc
  case hw => w_witness2
  case hc =>
    refine Kn.law_lookT (l := PySem.Challenge.rw_keptnomore_k04_trees_read_or_refused) (n := 60) (x := "_law_script") (nm := "law") (st := Lw.s_law) (Z := Lw.Facts) rfl (by kernel_rfl) (by kernel_rfl) (List.mem_of_getElem? (i := 0) (by kernel_rfl)) ⟨rfl, by decide, by decide⟩ rfl LwE.facts_of (fun K Z => Z.d_law) ?B ?F
    case B => exact fun _ _ _ _ _ _ us hl => match us, hl with | [_], _ => rfl
    case F => exact fun w K mg f c TA fd Z T F hc base hb TB => Lw.fn_law T Z F hc TB
