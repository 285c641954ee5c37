import PyProof.Rows.All
import HandS.ForMost
import HandS.ForExc
import HandS.IsInst
import HandS.Flow
import HandS.ExcInit
import HandS.TryMany
import HandS.ExcField
import HandS.ExcIs
import HandS.ClsMeth
import HandS.Slots
import HandS.Defaults
import KE.KExcIs
import HandS.FStr
import HandS.RaiseMore
import HandS.StrMore
import HandS.Deep
import HandS.TupAny
import HandS.Codes
import HandS.Wide
import HandS.Ends
import HandS.CallLocal
import HandS.SlotsOwn
import KE.KCallOwn
import PyProof.RulesMatch
import HandS.Star
import KE.KUnpackStar
import HandS.Style
import HandS.Strs
import HandS.More
import HandS.SetTxt0
import HandS.SetFor
import KE.KOpsOwn
import HandS.ReplaceLit
import HandS.StrSplit
import HandS.SetBool
import HandS.Property
import KE.DatumOrd
import PyProof.Rows.CallKwBuiltin
import HandS.Dict
import HandS.TupMul
import HandS.Text
import HandS.SortKw
import KE.KDictDisplayH
import KE.SortData
import PyProof.Rows.TupDisplay
import KE.KDictZip
import KE.KDictItemsList
import HandS.IterVal
import KE.KOwnIter
import HandS.Head2
import HandS.HeadHook2
import HandS.ListItems
import HandS.WordsDict
import HandS.Finally
import HandS.DictEq
import HandS.DeepEq
import HandS.OwnEq
import KE.GoesEnum
import HandS.Conv
import HandS.Lambda
import HandS.Keys
import PyProof.CollectWalk
import PyProof.WalksMore
import PySem.Challenge.RW_keptnomore_k01_errors_and_their_fields
set_option Elab.async false
set_option linter.all false
set_option maxRecDepth 100000
set_option maxHeartbeats 4000000
namespace Kn
open PySem PySem.Spec PyProof.Rows
open L2 hiding St
abbrev SV := L2.St
inductive Dat where
  | non | bl (b : Bool) | int (i : Int) | str (x : Str)
  | lst (xs : List Dat) | tup (xs : List Dat)
  | ins (C : Addr) (fs : List (Str × Dat))
  | cls (C : Addr) | ty (n : String)
  | exc (a dd : Addr) (fs : List (Str × Dat))
  | fro (xs : List Dat)
  | slo (C : Addr) (ds : List Dat)
  | tre (C : Addr) (d1 : List (Str × Dat)) (g : Str) (es : List Dat) (d2 : List (Str × Dat))
  | key (ks : List Key)
  | dct (kvs : List (Key × Dat))
  | env (f : Addr) (vs : List V) (ds : List Dat)
  | xcv (C : Addr) (fs : List (Str × Dat))
  | xc0 (C : Addr)
theorem sql_at {K : PySem.W.Frag} {G : Hp} {a : Addr} {xs : List V} (h : G a = some (.lst xs)) : SqL K G a xs := .inl (.inl h)
/-- what a name or a place holds: nothing known, data, or a cell that its holder may still change -/
inductive Slot where
  | unk | dat (d : Dat) | own (p : Addr)
/-- a cell that may still change -/
inductive Cell where
  | lst (xs : List Slot)
  | ins (C dx : Addr) (fs : List (Str × Slot))
  | dK (kvs : List (Key × Slot))
  | dT (kvs : List (List Key × Slot))
  | exo (C : Addr) (d : Option Addr)
  | exd (fs : List (Str × Slot))
  | slt (C dx : Addr) (fs : List (Option Slot))
  | obj (o : HO)
  | tpl (xs : List Slot)
  | itr (ds : List Dat)
/-- at p an iterator over the tuple at t, at its start -/
def TuO (t p : Addr) : HO := .ext fun h => h.IsTupleIter p t 0
abbrev Own := Addr → Option Cell
def up (O : Own) (p : Addr) (c : Cell) : Own := fun b => if b = p then some c else O b
def dn (O : Own) (p : Addr) : Own := fun b => if b = p then none else O b
theorem up_at {O : Own} {p : Addr} {c : Cell} : up O p c p = some c := if_pos rfl
theorem up_ne {O : Own} {p q : Addr} {c : Cell} (h : q ≠ p) : up O p c q = O q := if_neg h
theorem dn_at {O : Own} {p : Addr} : dn O p p = none := if_pos rfl
theorem dn_ne {O : Own} {p q : Addr} (h : q ≠ p) : dn O p q = O q := if_neg h
theorem dn_up {O : Own} {p : Addr} {c : Cell} (h : O p = none) : dn (up O p c) p = O := by
  funext b
  by_cases e : b = p
  · subst e; rw [dn_at, h]
  · rw [dn_ne e, up_ne e]
theorem up_up {O : Own} {p : Addr} {c d : Cell} : up (up O p c) p d = up O p d := by
  funext b
  by_cases e : b = p
  · subst e; rw [up_at, up_at]
  · rw [up_ne e, up_ne e, up_ne e]
theorem own_ne {O : Own} {p q : Addr} {c : Cell} (hp : O p = some c) (hq : O q = none) : p ≠ q := by
  intro e; rw [e, hq] at hp; cases hp
/-- the heap without the cells -/
def hid (O : Own) (H : Hp) : Hp := fun b => match O b with | some _ => none | none => H b
theorem hid_none {O : Own} {H : Hp} {b : Addr} (h : O b = none) : hid O H b = H b := by
  show (match O b with | some _ => none | none => H b) = _
  rw [h]
theorem hid_some {O : Own} {H : Hp} {b : Addr} {c : Cell} (h : O b = some c) : hid O H b = none := by
  show (match O b with | some _ => none | none => H b) = _
  rw [h]
theorem of_hid {O : Own} {H : Hp} {b : Addr} {o : HO} (h : hid O H b = some o) : O b = none ∧ H b = some o := by
  cases e : O b with
  | none => exact ⟨rfl, (hid_none (H := H) e).symm.trans h⟩
  | some c => rw [hid_some e] at h; cases h
section
variable (K : PySem.W.Frag) (G : Hp)
mutual
inductive Rp : V → Dat → Prop
  | non : Rp .non .non
  | bl (b : Bool) : Rp (.bl b) (.bl b)
  | int (i : Int) : Rp (.int i) (.int i)
  | str (x : Str) : Rp (.str x) (.str x)
  | lst {a : Addr} {xs : List V} {ds : List Dat} : G a = some (.lst xs) → RpA xs ds → Rp (.ref a) (.lst ds)
  | fro {a : Addr} {xs : List V} {ds : List Dat} : SqL K G a xs → RpA xs ds → Rp (.ref a) (.fro ds)
  | tup {a : Addr} {xs : List V} {ds : List Dat} : SqT K G a xs → RpA xs ds → Rp (.ref a) (.tup ds)
  | ins {a C dx : Addr} {fs : List (Str × V)} {ds : List (Str × Dat)} : G a = some (.ins C dx fs) → RpF fs ds → Rp (.ref a) (.ins C ds)
  | cls (C : Addr) : Rp (.ref C) (.cls C)
  | ty (n : String) : Rp (.ty n) (.ty n)
  | exc {a dd : Addr} {fs : List (Str × V)} {ds : List (Str × Dat)} : G dd = some (.xd fs) → RpF fs ds → Rp (.ref a) (.exc a dd ds)
  | slo {a C dx : Addr} {vs : List V} {ds : List Dat} : G a = some (SlX.SlO a C dx (vs.map some)) → G dx = some (.xd []) → dx ≠ a → RpA vs ds → Rp (.ref a) (.slo C ds)
  | tre {a C dx n : Addr} {f1 f2 : List (Str × V)} {us : List V} {d1 d2 : List (Str × Dat)} {g : Str} {es : List Dat} : G a = some (.ins C dx (f1 ++ (g, .ref n) :: f2)) → G n = some (.tup (.ref a :: us)) → RpF f1 d1 → RpF f2 d2 → RpA us es → Rp (.ref a) (.tre C d1 g es d2)
  | key {a : Addr} {ks : List Key} : G a = some (.tup (ks.map kV)) → Rp (.ref a) (.key ks)
  | dct {a : Addr} {o : Obj} {kvs : List (Key × V)} {ds : List (Key × Dat)} : G a = some (.frz o (.dK kvs)) → RpK kvs ds → Rp (.ref a) (.dct ds)
  | env {f : Addr} {vs : List V} {ds : List Dat} : RpA vs ds → Rp (.ref f) (.env f vs ds)
  | xcv {a C dx : Addr} {fs : List (Str × V)} {ds : List (Str × Dat)} : G a = some (L2.exo a C (some dx)) → G dx = some (L2.exd dx fs) → RpF fs ds → Rp (.ref a) (.xcv C ds)
  | xc0 {a C : Addr} : G a = some (L2.exo a C none) → Rp (.ref a) (.xc0 C)
inductive RpA : List V → List Dat → Prop
  | nil : RpA [] []
  | cons {v : V} {vs : List V} {d : Dat} {ds : List Dat} : Rp v d → RpA vs ds → RpA (v :: vs) (d :: ds)
inductive RpF : List (Str × V) → List (Str × Dat) → Prop
  | nil : RpF [] []
  | cons {f : Str} {v : V} {fs : List (Str × V)} {d : Dat} {ds : List (Str × Dat)} : Rp v d → RpF fs ds → RpF ((f, v) :: fs) ((f, d) :: ds)
inductive RpK : List (Key × V) → List (Key × Dat) → Prop
  | nil : RpK [] []
  | cons {f : Key} {v : V} {fs : List (Key × V)} {d : Dat} {ds : List (Key × Dat)} : Rp v d → RpK fs ds → RpK ((f, v) :: fs) ((f, d) :: ds)
end
def SlOk (v : V) : Slot → Prop
  | .unk => True
  | .dat d => Rp K G v d
  | .own p => v = .ref p
def FlOk (a : Str × V) (b : Str × Slot) : Prop := a.1 = b.1 ∧ SlOk K G a.2 b.2
def OpOk : Option V → Option Slot → Prop
  | some v, some s => SlOk K G v s
  | none, none => True
  | _, _ => False
def KyOk (a : Key × V) (b : Key × Slot) : Prop := a.1 = b.1 ∧ SlOk K G a.2 b.2
def KtOk (a : List Key × V) (b : List Key × Slot) : Prop := a.1 = b.1 ∧ SlOk K G a.2 b.2
def ClOk (p : Addr) (o : HO) : Cell → Prop
  | .lst ss => ∃ vs, o = .lst vs ∧ Paired (SlOk K G) vs ss
  | .ins C dx ss => ∃ fs, o = .ins C dx fs ∧ Paired (FlOk K G) fs ss
  | .dK ss => ∃ kvs, o = .dK kvs ∧ Paired (KyOk K G) kvs ss
  | .dT ss => ∃ kvs, o = .dT kvs ∧ Paired (KtOk K G) kvs ss
  | .exo C d => o = L2.exo p C d
  | .exd ss => ∃ fs, o = L2.exd p fs ∧ Paired (FlOk K G) fs ss
  | .slt C dx ss => G dx = some (.xd []) ∧ dx ≠ p ∧ ∃ vs, o = SlX.SlO p C dx vs ∧ Paired (OpOk K G) vs ss
  | .obj u => o = u
  | .tpl ss => ∃ vs, o = .tup vs ∧ Paired (SlOk K G) vs ss
  | .itr ds => ∃ t xs, o = TuO t p ∧ SqT K G t xs ∧ RpA K G xs ds
end
theorem sql_mono {K : PySem.W.Frag} {G G' : Hp} {a : Addr} {xs : List V} (e : Same G G') : SqL K G a xs → SqL K G' a xs
  | .inl (.inl h) => .inl (.inl (e a _ h))
  | .inl (.inr ⟨o, h⟩) => .inl (.inr ⟨o, e a _ h⟩)
  | .inr h => .inr h
theorem sqt_mono {K : PySem.W.Frag} {G G' : Hp} {a : Addr} {xs : List V} (e : Same G G') : SqT K G a xs → SqT K G' a xs
  | .inl (.inl h) => .inl (.inl (e a _ h))
  | .inl (.inr ⟨o, h⟩) => .inl (.inr ⟨o, e a _ h⟩)
  | .inr h => .inr h
section
variable {K : PySem.W.Frag} {G G' : Hp}
mutual
theorem Rp.mono (e : Same G G') {v : V} : ∀ {d : Dat}, Rp K G v d → Rp K G' v d
  | .non, h => by cases h; exact .non
  | .bl b, h => by cases h; exact .bl b
  | .int i, h => by cases h; exact .int i
  | .str x, h => by cases h; exact .str x
  | .lst ds, h => by
    cases h with
    | lst h1 h2 => exact .lst (e _ _ h1) (RpA.mono e h2)
  | .tup ds, h => by
    cases h with
    | tup h1 h2 => exact .tup (sqt_mono e h1) (RpA.mono e h2)
  | .ins C fs, h => by
    cases h with
    | ins h1 h2 => exact .ins (e _ _ h1) (RpF.mono e h2)
  | .cls C, h => by cases h; exact .cls C
  | .ty n, h => by cases h; exact .ty n
  | .exc a dd fs, h => by
    cases h with
    | exc h1 h2 => exact .exc (e _ _ h1) (RpF.mono e h2)
  | .fro ds, h => by
    cases h with
    | fro h1 h2 => exact .fro (sql_mono e h1) (RpA.mono e h2)
  | .slo C ds, h => by
    cases h with
    | slo h1 h2 h3 h4 => exact .slo (e _ _ h1) (e _ _ h2) h3 (RpA.mono e h4)
  | .tre C d1 g es d2, h => by
    cases h with
    | tre h1 h2 h3 h4 h5 => exact .tre (e _ _ h1) (e _ _ h2) (RpF.mono e h3) (RpF.mono e h4) (RpA.mono e h5)
  | .key ks, h => by
    cases h with
    | key h1 => exact .key (e _ _ h1)
  | .dct ds, h => by
    cases h with
    | dct h1 h2 => exact .dct (e _ _ h1) (RpK.mono e h2)
  | .env f vs ds, h => by
    cases h with
    | env h1 => exact .env (RpA.mono e h1)
  | .xcv C ds, h => by
    cases h with
    | xcv h1 h2 h3 => exact .xcv (e _ _ h1) (e _ _ h2) (RpF.mono e h3)
  | .xc0 C, h => by
    cases h with
    | xc0 h1 => exact .xc0 (e _ _ h1)
theorem RpA.mono (e : Same G G') : ∀ {vs : List V} {ds : List Dat}, RpA K G vs ds → RpA K G' vs ds
  | _, [], h => by cases h; exact .nil
  | _, d :: ds, h => by
    cases h with
    | cons h1 h2 => exact .cons (Rp.mono e h1) (RpA.mono e h2)
theorem RpF.mono (e : Same G G') : ∀ {vs : List (Str × V)} {ds : List (Str × Dat)}, RpF K G vs ds → RpF K G' vs ds
  | _, [], h => by cases h; exact .nil
  | _, (f, d) :: ds, h => by
    cases h with
    | cons h1 h2 => exact .cons (Rp.mono e h1) (RpF.mono e h2)
theorem RpK.mono (e : Same G G') : ∀ {vs : List (Key × V)} {ds : List (Key × Dat)}, RpK K G vs ds → RpK K G' vs ds
  | _, [], h => by cases h; exact .nil
  | _, (f, d) :: ds, h => by
    cases h with
    | cons h1 h2 => exact .cons (Rp.mono e h1) (RpK.mono e h2)
end
theorem SlOk.mono (e : Same G G') {v : V} {s : Slot} (h : SlOk K G v s) : SlOk K G' v s := by
  cases s with
  | unk => trivial
  | dat d => exact Rp.mono e h
  | own p => exact h
theorem pmap {α β : Type} {F F' : α → β → Prop} (e : ∀ a b, F a b → F' a b) : ∀ {xs : List α} {ys : List β}, Paired F xs ys → Paired F' xs ys
  | _, _, .nil => .nil
  | _, _, .cons h t => .cons (e _ _ h) (pmap e t)
theorem OpOk.mono (e : Same G G') {v : Option V} {s : Option Slot} (h : OpOk K G v s) : OpOk K G' v s := by
  cases v with
  | none => cases s with
    | none => trivial
    | some s => exact h.elim
  | some v => cases s with
    | none => exact h.elim
    | some s => exact SlOk.mono e (v := v) h
theorem ClOk.mono (e : Same G G') {p : Addr} {o : HO} {c : Cell} (h : ClOk K G p o c) : ClOk K G' p o c := by
  cases c with
  | lst ss =>
    obtain ⟨vs, h1, h2⟩ := h
    exact ⟨vs, h1, pmap (fun _ _ q => SlOk.mono e q) h2⟩
  | ins C dx ss =>
    obtain ⟨vs, h1, h2⟩ := h
    exact ⟨vs, h1, pmap (fun _ _ q => ⟨q.1, SlOk.mono e q.2⟩) h2⟩
  | dK ss =>
    obtain ⟨vs, h1, h2⟩ := h
    exact ⟨vs, h1, pmap (fun _ _ q => ⟨q.1, SlOk.mono e q.2⟩) h2⟩
  | dT ss =>
    obtain ⟨vs, h1, h2⟩ := h
    exact ⟨vs, h1, pmap (fun _ _ q => ⟨q.1, SlOk.mono e q.2⟩) h2⟩
  | exo C d => exact h
  | obj u => exact h
  | tpl ss =>
    obtain ⟨vs, h1, h2⟩ := h
    exact ⟨vs, h1, pmap (fun _ _ q => SlOk.mono e q) h2⟩
  | itr ds =>
    obtain ⟨t, xs, h1, h2, h3⟩ := h
    exact ⟨t, xs, h1, sqt_mono e h2, RpA.mono e h3⟩
  | exd ss =>
    obtain ⟨vs, h1, h2⟩ := h
    exact ⟨vs, h1, pmap (fun _ _ q => ⟨q.1, SlOk.mono e q.2⟩) h2⟩
  | slt C dx ss =>
    obtain ⟨h1, h2, vs, h3, h4⟩ := h
    exact ⟨e _ _ h1, h2, vs, h3, pmap (fun _ _ q => OpOk.mono e q) h4⟩
theorem RpA.length {vs : List V} {ds : List Dat} : RpA K G vs ds → vs.length = ds.length
  | .nil => rfl
  | .cons _ t => by rw [List.length_cons, List.length_cons, RpA.length t]
theorem RpA.get : ∀ {vs : List V} {ds : List Dat} {i : Nat} {d : Dat}, RpA K G vs ds → ds[i]? = some d → ∃ v, vs[i]? = some v ∧ Rp K G v d
  | _, _, _, _, .nil, e => by cases e
  | _, _, 0, _, .cons r _, e => by cases e; exact ⟨_, rfl, r⟩
  | _, _, i + 1, d, .cons _ t, e => RpA.get (i := i) t e
theorem RpA.append : ∀ {vs ws : List V} {ds es : List Dat}, RpA K G vs ds → RpA K G ws es → RpA K G (vs ++ ws) (ds ++ es)
  | _, _, _, _, .nil, h => h
  | _, _, _, _, .cons h t, q => .cons h (RpA.append t q)
theorem RpA.paired : ∀ {vs : List V} {ds : List Dat}, RpA K G vs ds → Paired (SlOk K G) vs (ds.map .dat)
  | _, _, .nil => .nil
  | _, _, .cons h t => .cons h (RpA.paired t)
theorem RpA.of_paired : ∀ {vs : List V} {ds : List Dat}, Paired (SlOk K G) vs (ds.map .dat) → RpA K G vs ds
  | _, [], h => by cases h; exact .nil
  | _, d :: ds, h => by
    cases h with
    | cons h t => exact .cons h (RpA.of_paired t)
theorem RpF.of_paired : ∀ {vs : List (Str × V)} {ds : List (Str × Dat)}, Paired (FlOk K G) vs (ds.map fun p => (p.1, .dat p.2)) → RpF K G vs ds
  | _, [], h => by cases h; exact .nil
  | _, (f, d) :: ds, h => by
    cases h with
    | cons h t =>
      rename_i a _
      obtain ⟨f', v⟩ := a
      obtain ⟨e, r⟩ := h
      cases e
      exact .cons r (RpF.of_paired t)
theorem RpF.lookup {f : Str} {d : Dat} : ∀ {vs : List (Str × V)} {ds : List (Str × Dat)}, RpF K G vs ds → ds.lookup f = some d → ∃ v, vs.lookup f = some v ∧ Rp K G v d
  | _, _, .nil, e => by cases e
  | _, _, .cons (f := g) h t, e => by
    rw [List.lookup_cons] at e ⊢
    split at e
    · rename_i q
      cases e
      exact ⟨_, rfl, h⟩
    · exact RpF.lookup t e
theorem paired_len {α β : Type} {F : α → β → Prop} : ∀ {xs : List α} {ys : List β}, Paired F xs ys → xs.length = ys.length
  | _, _, .nil => rfl
  | _, _, .cons _ t => by rw [List.length_cons, List.length_cons, paired_len t]
theorem paired_get {α β : Type} {F : α → β → Prop} : ∀ {xs : List α} {ys : List β} {i : Nat} {y : β}, Paired F xs ys → ys[i]? = some y → ∃ x, xs[i]? = some x ∧ F x y
  | _, _, _, _, .nil, e => by cases e
  | _, _, 0, _, .cons r _, e => by cases e; exact ⟨_, rfl, r⟩
  | _, _, i + 1, d, .cons _ t, e => paired_get (i := i) t e
theorem paired_set {α β : Type} {F : α → β → Prop} {x : α} {y : β} (r : F x y) : ∀ {xs : List α} {ys : List β} (i : Nat), Paired F xs ys → Paired F (xs.set i x) (ys.set i y)
  | _, _, _, .nil => .nil
  | _, _, 0, .cons _ t => .cons r t
  | _, _, i + 1, .cons h t => .cons h (paired_set r i t)
theorem paired_app {α β : Type} {F : α → β → Prop} : ∀ {xs xs' : List α} {ys ys' : List β}, Paired F xs ys → Paired F xs' ys' → Paired F (xs ++ xs') (ys ++ ys')
  | _, _, _, _, .nil, h => h
  | _, _, _, _, .cons h t, q => .cons h (paired_app t q)
end
structure OwnOk (K : PySem.W.Frag) (O : Own) (H : Hp) : Prop where
  cell : ∀ p c, O p = some c → ∃ o, H p = some o ∧ ClOk K (hid O H) p o c
def EnvOk (K : PySem.W.Frag) (G : Hp) (x : Option V) : Slot → Prop
  | .unk => True
  | .dat d => ∃ v, x = some v ∧ Rp K G v d
  | .own p => x = some (.ref p)
structure StOk (K : PySem.W.Frag) (H0 : Hp) (O : Own) (σ : SV) (ρ : List Slot) (H : Hp) : Prop where
  own : OwnOk K O H
  base : Same H0 (hid O H)
  env : Paired (EnvOk K (hid O H)) σ ρ
theorem EnvOk.mono {K : PySem.W.Frag} {G G' : Hp} (e : Same G G') {x : Option V} {s : Slot} (h : EnvOk K G x s) : EnvOk K G' x s := by
  cases s with
  | unk => trivial
  | dat d =>
    obtain ⟨v, q, r⟩ := h
    exact ⟨v, q, Rp.mono e r⟩
  | own p => exact h
section
variable {K : PySem.W.Frag} {H0 H1 H H' : Hp} {O O' : Own} {σ : SV} {ρ : List Slot}
theorem StOk.rebase (h : StOk K H0 O σ ρ H) (e : Same H1 H0) : StOk K H1 O σ ρ H := ⟨h.own, e.trans h.base, h.env⟩
/-- the greatest base -/
theorem StOk.top (h : StOk K H0 O σ ρ H) : StOk K (hid O H) O σ ρ H := ⟨h.own, Same.refl _, h.env⟩
theorem hid_same (e : Same H H') : Same (hid O H) (hid O H') := fun b o h => by
  obtain ⟨h1, h2⟩ := of_hid h
  rw [hid_none h1]
  exact e b o h2
/-- all that was tracked stays -/
theorem StOk.grow (h : StOk K H0 O σ ρ H) (e : Same H H') : StOk K H0 O σ ρ H' := by
  have g : Same (hid O H) (hid O H') := hid_same e
  refine ⟨⟨fun p c hp => ?_⟩, h.base.trans g, pmap (fun _ _ q => EnvOk.mono g q) h.env⟩
  obtain ⟨o, h1, h2⟩ := h.own.cell p c hp
  exact ⟨o, e p o h1, ClOk.mono g h2⟩
theorem StOk.len (h : StOk K H0 O σ ρ H) : σ.length = ρ.length := paired_len h.env
theorem StOk.set {i : Nat} {v : V} {s : Slot} (h : StOk K H0 O σ ρ H) (r : SlOk K (hid O H) v s) : StOk K H0 O (σ.set i (some v)) (ρ.set i s) H := by
  refine ⟨h.own, h.base, paired_set ?_ i h.env⟩
  cases s with
  | unk => trivial
  | dat d => exact ⟨v, rfl, r⟩
  | own p => exact congrArg some r
theorem own_free (h : OwnOk K O H) {p : Addr} (hp : H p = none) : O p = none := by
  cases e : O p with
  | none => rfl
  | some c =>
    obtain ⟨o, h1, _⟩ := h.cell p c e
    rw [hp] at h1; cases h1
/-- a new object, a cell from now on -/
theorem StOk.alloc {p : Addr} {o : HO} {c : Cell} (h : StOk K H0 O σ ρ H) (hp : H p = none) (r : ClOk K (hid O H) p o c) : StOk K H0 (up O p c) σ ρ (upd H p o) := by
  have hO : O p = none := own_free h.own hp
  have g : Same (hid O H) (hid (up O p c) (upd H p o)) := fun b u q => by
    obtain ⟨h1, h2⟩ := of_hid q
    have nb : b ≠ p := ne_of_none h2 hp
    rw [hid_none (by rw [up_ne nb]; exact h1), upd_ne nb]
    exact h2
  refine ⟨⟨fun q d hq => ?_⟩, h.base.trans g, pmap (fun _ _ z => EnvOk.mono g z) h.env⟩
  by_cases e : q = p
  · subst e
    rw [up_at] at hq; cases hq
    exact ⟨o, upd_same, ClOk.mono g r⟩
  · rw [up_ne e] at hq
    obtain ⟨u, h1, h2⟩ := h.own.cell q d hq
    exact ⟨u, by rw [upd_ne e]; exact h1, ClOk.mono g h2⟩
theorem same_new {p : Addr} {o : HO} (h : H p = none) : Same H (upd H p o) := fun b u e => by
  rw [upd_ne (ne_of_none e h)]
  exact e
/-- a cell is written -/
theorem StOk.write {p : Addr} {o : HO} {c c0 : Cell} (h : StOk K H0 O σ ρ H) (hp : O p = some c0) (r : ClOk K (hid O H) p o c) : StOk K H0 (up O p c) σ ρ (upd H p o) := by
  have g : Same (hid O H) (hid (up O p c) (upd H p o)) := fun b u q => by
    obtain ⟨h1, h2⟩ := of_hid q
    have nb : b ≠ p := fun z => by rw [z, hp] at h1; cases h1
    rw [hid_none (by rw [up_ne nb]; exact h1), upd_ne nb]
    exact h2
  refine ⟨⟨fun q d hq => ?_⟩, h.base.trans g, pmap (fun _ _ z => EnvOk.mono g z) h.env⟩
  by_cases e : q = p
  · subst e
    rw [up_at] at hq; cases hq
    exact ⟨o, upd_same, ClOk.mono g r⟩
  · rw [up_ne e] at hq
    obtain ⟨u, h1, h2⟩ := h.own.cell q d hq
    exact ⟨u, by rw [upd_ne e]; exact h1, ClOk.mono g h2⟩
theorem hid_write {p : Addr} {o : HO} {c c0 : Cell} (hp : O p = some c0) : Same (hid O H) (hid (up O p c) (upd H p o)) := fun b u q => by
  obtain ⟨h1, h2⟩ := of_hid q
  have nb : b ≠ p := fun z => by rw [z, hp] at h1; cases h1
  rw [hid_none (by rw [up_ne nb]; exact h1), upd_ne nb]
  exact h2
/-- a cell becomes data -/
theorem hid_dn {p : Addr} : Same (hid O H) (hid (dn O p) H) := fun b o h => by
  obtain ⟨h1, h2⟩ := of_hid h
  by_cases e : b = p
  · subst e
    rw [hid_none dn_at]; exact h2
  · rw [hid_none (by rw [dn_ne e]; exact h1)]; exact h2
theorem OwnOk.freeze {p : Addr} (h : OwnOk K O H) : OwnOk K (dn O p) H := ⟨fun q c hq => by
  by_cases e : q = p
  · subst e; rw [dn_at] at hq; cases hq
  · rw [dn_ne e] at hq
    obtain ⟨o, h1, h2⟩ := h.cell q c hq
    exact ⟨o, h1, ClOk.mono hid_dn h2⟩⟩
theorem StOk.freeze {p : Addr} (h : StOk K H0 O σ ρ H) : StOk K H0 (dn O p) σ ρ H :=
  ⟨h.own.freeze, h.base.trans hid_dn, pmap (fun _ _ q => EnvOk.mono hid_dn q) h.env⟩
/-- the list cell as data -/
theorem OwnOk.lst {p : Addr} {ds : List Dat} (h : OwnOk K O H) (hp : O p = some (.lst (ds.map .dat))) : Rp K (hid (dn O p) H) (.ref p) (.lst ds) := by
  obtain ⟨o, h1, xs, rfl, h2⟩ := h.cell p _ hp
  exact .lst (by rw [hid_none dn_at]; exact h1) (RpA.of_paired (pmap (fun _ _ q => SlOk.mono hid_dn q) h2))
theorem OwnOk.ins {p C dx : Addr} {ds : List (Str × Dat)} (h : OwnOk K O H) (hp : O p = some (.ins C dx (ds.map fun q => (q.1, .dat q.2)))) : Rp K (hid (dn O p) H) (.ref p) (.ins C ds) := by
  obtain ⟨o, h1, fs, rfl, h2⟩ := h.cell p _ hp
  exact .ins (by rw [hid_none dn_at]; exact h1) (RpF.of_paired (pmap (fun _ _ q => ⟨q.1, SlOk.mono hid_dn q.2⟩) h2))
end
inductive Exn where
  | own (C : Addr) (fs : List (Str × Dat))
  | ty (n : String)
abbrev ExK := Exn → List Slot → Own → Prop
def noX : ExK := fun _ _ _ => False
def ExOk (K : PySem.W.Frag) (O : Own) (H : Hp) (cls : Value) (d : Option Addr) : Exn → Prop
  | .own C fs => cls = .ref C ∧ ∃ (dx : Addr) (fv : List (Str × V)), d = some dx ∧ O dx = none ∧ H dx = some (.xd fv) ∧ RpF K (hid O H) fv fs
  | .ty n => cls = .type n
def Wsem (K : PySem.W.Frag) (H0 : Hp) (x : ExK) : WX := fun cls d σ H => ∃ e ρ O, x e ρ O ∧ StOk K H0 O σ ρ H ∧ ExOk K O H cls d e
theorem takes_base {X : Cx} {K : PySem.W.Frag} {H0 H1 : Hp} {x : ExK} (t : Takes X (Wsem K H0 x)) (e : Same H0 H1) : Takes X (Wsem K H1 x) :=
  t.imp fun _ _ _ _ ⟨a, ρ, O, h1, h2, h3⟩ => ⟨a, ρ, O, h1, h2.rebase e, h3⟩
theorem takes_no {X : Cx} {K : PySem.W.Frag} {H0 : Hp} : Takes X (Wsem K H0 noX) := takes0.imp fun _ _ _ _ ⟨_, _, _, h, _⟩ => h
theorem takes_x {X : Cx} {K : PySem.W.Frag} {H0 : Hp} {x y : ExK} (t : Takes X (Wsem K H0 x)) (h : ∀ e ρ O, y e ρ O → x e ρ O) : Takes X (Wsem K H0 y) :=
  t.imp fun _ _ _ _ ⟨a, ρ, O, h1, h2, h3⟩ => ⟨a, ρ, O, h _ _ _ h1, h2, h3⟩
/-- a wall: what is behind it is not reduced -/
structure Bx (p : Prop) : Prop where
  r : p
section
variable (X : Cx)
def We (e : Expr) : TE := fun σ H Q => Bx (∀ (pins : List (Addr × Obj)) (s : Shared), Inv X pins σ H s → wpAny (model X.prog X.w) X.A (eval e X.env) (EP X pins σ Q) X.xe s)
def Wt (e : Expr) : TT := fun σ H Q => Bx (∀ (pins : List (Addr × Obj)) (s : Shared), Inv X pins σ H s → wpAny (model X.prog X.w) X.A (isTrue e X.env (eval e X.env)) (TP X pins σ Q) X.xe s)
def Wa (es : List Expr) : TA := fun σ H Q => Bx (∀ (pos : Pos) (pins : List (Addr × Obj)) (s : Shared), Inv X pins σ H s → wpAny (model X.prog X.w) X.A (spliced (backTo pos (starEach es X.env))) (AP X pins σ Q) X.xe s)
def Ws (st : Stmt) : TS := fun D σ H => Bx (∀ (pins : List (Addr × Obj)) (s : Shared), Inv X pins σ H s → wpAny (model X.prog X.w) X.A (exec st X.env) (SP X pins D) X.xe s)
def Wss (st : List Stmt) : TS := fun D σ H => Bx (∀ (pins : List (Addr × Obj)) (s : Shared), Inv X pins σ H s → wpAny (model X.prog X.w) X.A (execs st X.env) (SP X pins D) X.xe s)
end
section
variable {X : Cx}
theorem pe_w {e : Expr} : PE X e (We X e) := ⟨fun pins s σ H Q I h => h.r pins s I⟩
theorem pt_w {e : Expr} : PT X e (Wt X e) := ⟨fun pins s σ H Q I h => h.r pins s I⟩
theorem pa_w {es : List Expr} : PA X es (Wa X es) := ⟨fun pos pins s σ H Q I h => h.r pos pins s I⟩
theorem ps_w {st : Stmt} : PS X st (Ws X st) := ⟨fun pins s σ H D I h => h.r pins s I⟩
theorem pss_w {st : List Stmt} : PSs X st (Wss X st) := ⟨fun pins s σ H D I h => h.r pins s I⟩
theorem we_of {e : Expr} {t : TE} (h : PE X e t) {σ : SV} {H : Hp} {Q : VK} (q : t σ H Q) : We X e σ H Q := ⟨fun pins s I => h.run pins s σ H Q I q⟩
theorem wt_of {e : Expr} {t : TT} (h : PT X e t) {σ : SV} {H : Hp} {Q : Bool → Hp → Prop} (q : t σ H Q) : Wt X e σ H Q := ⟨fun pins s I => h.run pins s σ H Q I q⟩
theorem wa_of {es : List Expr} {t : TA} (h : PA X es t) {σ : SV} {H : Hp} {Q : List V → Hp → Prop} (q : t σ H Q) : Wa X es σ H Q := ⟨fun pos pins s I => h.run pos pins s σ H Q I q⟩
theorem ws_of {st : Stmt} {t : TS} (h : PS X st t) {σ : SV} {H : Hp} {D : Ends} (q : t D σ H) : Ws X st D σ H := ⟨fun pins s I => h.run pins s σ H D I q⟩
theorem wss_of {st : List Stmt} {t : TS} (h : PSs X st t) {σ : SV} {H : Hp} {D : Ends} (q : t D σ H) : Wss X st D σ H := ⟨fun pins s I => h.run pins s σ H D I q⟩
end
section
variable (X : Cx)
def EW (O : Own) (ρ : List Slot) (e : Expr) (x : ExK) (k : Slot → Own → Prop) : Prop :=
  ∀ H0 σ H, StOk X.K H0 O σ ρ H → Takes X (Wsem X.K H0 x) → ∀ Q : VK, (∀ v H' s O', k s O' → StOk X.K H0 O' σ ρ H' → SlOk X.K (hid O' H') v s → Q v H') → We X e σ H Q
def AW (O : Own) (ρ : List Slot) (es : List Expr) (x : ExK) (k : List Slot → Own → Prop) : Prop :=
  ∀ H0 σ H, StOk X.K H0 O σ ρ H → Takes X (Wsem X.K H0 x) → ∀ Q : List V → Hp → Prop, (∀ vs H' ss O', k ss O' → StOk X.K H0 O' σ ρ H' → Paired (SlOk X.K (hid O' H')) vs ss → Q vs H') → Wa X es σ H Q
def TW (O : Own) (ρ : List Slot) (e : Expr) (x : ExK) (k : Bool → Own → Prop) : Prop :=
  ∀ H0 σ H, StOk X.K H0 O σ ρ H → Takes X (Wsem X.K H0 x) → ∀ Q : Bool → Hp → Prop, (∀ b H' O', k b O' → StOk X.K H0 O' σ ρ H' → Q b H') → Wt X e σ H Q
structure SD where
  nx : List Slot → Own → Prop
  rt : Slot → Own → Prop
  bk : List Slot → Own → Prop := fun _ _ => False
  ct : List Slot → Own → Prop := fun _ _ => False
structure EndsOk (K : PySem.W.Frag) (H0 : Hp) (D : SD) (E : Ends) : Prop where
  nx : ∀ σ ρ O H, D.nx ρ O → StOk K H0 O σ ρ H → E.nx σ H
  rt : ∀ v s O H, D.rt s O → OwnOk K O H → Same H0 (hid O H) → SlOk K (hid O H) v s → E.rt v H
  bk : ∀ σ ρ O H, D.bk ρ O → StOk K H0 O σ ρ H → E.bk σ H
  ct : ∀ σ ρ O H, D.ct ρ O → StOk K H0 O σ ρ H → E.ct σ H
def S1 (O : Own) (ρ : List Slot) (st : Stmt) (x : ExK) (D : SD) : Prop :=
  ∀ H0 σ H, StOk X.K H0 O σ ρ H → Takes X (Wsem X.K H0 x) → ∀ E, EndsOk X.K H0 D E → Ws X st E σ H
def SW (O : Own) (ρ : List Slot) (st : List Stmt) (x : ExK) (D : SD) : Prop :=
  ∀ H0 σ H, StOk X.K H0 O σ ρ H → Takes X (Wsem X.K H0 x) → ∀ E, EndsOk X.K H0 D E → Wss X st E σ H
end
theorem EndsOk.base {K : PySem.W.Frag} {H0 H1 : Hp} {D : SD} {E : Ends} (h : EndsOk K H0 D E) (e : Same H0 H1) : EndsOk K H1 D E :=
  ⟨fun σ ρ O H q s => h.nx σ ρ O H q (s.rebase e), fun v s O H q o b r => h.rt v s O H q o (e.trans b) r, fun σ ρ O H q s => h.bk σ ρ O H q (s.rebase e), fun σ ρ O H q s => h.ct σ ρ O H q (s.rebase e)⟩
end Kn
namespace Kn
open PySem PySem.Spec PyProof.Rows
open L2 hiding St
def Slot.known : Slot → Bool
  | .unk => false
  | _ => true
section
variable {es : List Expr} {env : Env} {p : Pos}
theorem star_const {c : Const} {j} : starEach ((.Constant c j p) :: es) env = (false, eval (.Constant c j p) env) :: starEach es env := rfl
theorem star_name {n : Str} : starEach ((.Name n p) :: es) env = (false, eval (.Name n p) env) :: starEach es env := rfl
theorem star_call {f : Expr} {as} {kw} : starEach ((.Call f as kw p) :: es) env = (false, eval (.Call f as kw p) env) :: starEach es env := rfl
theorem star_attr {o : Expr} {n} : starEach ((.Attribute o n p) :: es) env = (false, eval (.Attribute o n p) env) :: starEach es env := rfl
theorem star_sub {o i : Expr} : starEach ((.Subscript o i p) :: es) env = (false, eval (.Subscript o i p) env) :: starEach es env := rfl
theorem star_bin {a : Expr} {o} {b : Expr} : starEach ((.BinOp a o b p) :: es) env = (false, eval (.BinOp a o b p) env) :: starEach es env := rfl
theorem star_un {o} {b : Expr} : starEach ((.UnaryOp o b p) :: es) env = (false, eval (.UnaryOp o b p) env) :: starEach es env := rfl
theorem star_cmp {a : Expr} {os} {bs} : starEach ((.Compare a os bs p) :: es) env = (false, eval (.Compare a os bs p) env) :: starEach es env := rfl
theorem star_bool {o} {bs} : starEach ((.BoolOp o bs p) :: es) env = (false, eval (.BoolOp o bs p) env) :: starEach es env := rfl
theorem star_if {a b c : Expr} : starEach ((.IfExp a b c p) :: es) env = (false, eval (.IfExp a b c p) env) :: starEach es env := rfl
theorem star_list {xs} : starEach ((.List xs p) :: es) env = (false, eval (.List xs p) env) :: starEach es env := rfl
theorem star_tup {xs} {j} : starEach ((.Tuple xs j p) :: es) env = (false, eval (.Tuple xs j p) env) :: starEach es env := rfl
theorem star_comp {e : Expr} {gs} {sc} : starEach ((.ListComp e gs sc p) :: es) env = (false, eval (.ListComp e gs sc p) env) :: starEach es env := rfl
theorem star_join {xs} : starEach ((.JoinedStr xs p) :: es) env = (false, eval (.JoinedStr xs p) env) :: starEach es env := rfl
end
section
variable {X : Cx} {O : Own} {ρ : List Slot} {x : ExK} {k k' : Slot → Own → Prop} {kl kl' : List Slot → Own → Prop} {kt kt' : Bool → Own → Prop} {e a b c : Expr} {es : List Expr} {pos : Pos} {D : SD}
theorem EW.mono (h : EW X O ρ e x k) (m : ∀ s O', k s O' → k' s O') : EW X O ρ e x k' := fun H0 σ H st tk Q q =>
  h H0 σ H st tk Q fun v H' s O' ks s' r => q v H' s O' (m _ _ ks) s' r
theorem TW.mono (h : TW X O ρ e x kt) (m : ∀ s O', kt s O' → kt' s O') : TW X O ρ e x kt' := fun H0 σ H st tk Q q =>
  h H0 σ H st tk Q fun v H' O' ks s' => q v H' O' (m _ _ ks) s'
theorem AW.mono (h : AW X O ρ es x kl) (m : ∀ s O', kl s O' → kl' s O') : AW X O ρ es x kl' := fun H0 σ H st tk Q q =>
  h H0 σ H st tk Q fun v H' s O' ks s' r => q v H' s O' (m _ _ ks) s' r
theorem EW.exc {y : ExK} (h : EW X O ρ e y k) (m : ∀ e ρ O, y e ρ O → x e ρ O) : EW X O ρ e x k := fun H0 σ H st tk Q q => h H0 σ H st (takes_x tk m) Q q
theorem known_env {K : PySem.W.Frag} {G : Hp} {s : Slot} (h : s.known = true) {o : Option V} (e : EnvOk K G o s) : ∃ v, o = some v ∧ SlOk K G v s := by
  cases s with
  | unk => cases h
  | dat d => exact e
  | own p => exact ⟨_, e, rfl⟩
theorem ew_var (i : Nat) {nm : Str} {s : Slot} (h : k s O) (hρ : ρ[i]? = some s := by rfl) (hk : s.known = true := by rfl) (hN : X.N[i]? = some nm := by rfl)
    (hv : Vis X.env.scope nm := by first | exact Or.inl rfl | exact Or.inr (Or.inl rfl) | exact Or.inr (Or.inr rfl)) (hd : (nm == ("__debug__" : Str)) = false := by decide)
    (hcd : (nm == ("__classdict__" : Str)) = false := by decide) : EW X O ρ (.Name nm pos) x k := fun H0 σ H st tk Q q => by
  obtain ⟨o, h1, h2⟩ := paired_get st.env hρ
  obtain ⟨v, h3, h4⟩ := known_env hk h2
  exact we_of (pe_var (i := i) hN hv hd hcd) ⟨v, by rw [h1, h3], q v H s O h st h4⟩
theorem ew_int {i : Int} {j} (h : k (.dat (.int i)) O) : EW X O ρ (.Constant (.int i) j pos) x k := fun H0 σ H st tk Q q => we_of pe_int (q _ H _ O h st (.int i))
theorem ew_bl {i : Bool} {j} (h : k (.dat (.bl i)) O) : EW X O ρ (.Constant (.bool i) j pos) x k := fun H0 σ H st tk Q q => we_of pe_bl (q _ H _ O h st (.bl i))
theorem ew_non {j} (h : k (.dat .non) O) : EW X O ρ (.Constant .none j pos) x k := fun H0 σ H st tk Q q => we_of pe_non (q _ H _ O h st .non)
theorem ew_str {z : Str} {j} (h : k (.dat (.str z)) O) : EW X O ρ (.Constant (.str z) j pos) x k := fun H0 σ H st tk Q q => we_of pe_str (q _ H _ O h st (.str z))
/-- a module's name that holds data -/
def GlobD (K : PySem.W.Frag) (mg : Str → Option Value) (nm : Str) (d : Dat) : Prop := ∃ v u, mg nm = some u ∧ RelV v u ∧ ∀ G, Rp K G v d
theorem aw_nil (h : kl [] O) : AW X O ρ [] x kl := fun H0 σ H st tk Q q => wa_of pa_nil (q [] H [] O h st .nil)
theorem aw_cons (h : EW X O ρ a x fun s O1 => AW X O1 ρ es x fun ss O2 => kl (s :: ss) O2) (hs : starEach (a :: es) X.env = (false, eval a X.env) :: starEach es X.env := by first | exact star_const | exact star_name | exact star_call | exact star_attr | exact star_sub | exact star_bin | exact star_un | exact star_cmp | exact star_bool | exact star_if | exact star_list | exact star_tup | exact star_comp | exact star_join | rfl) : AW X O ρ (a :: es) x kl := fun H0 σ H st tk Q q =>
  wa_of (pa_cons pe_w pa_w hs) (h H0 σ H st tk _ fun v H1 s O1 h1 st1 r1 =>
    h1 (hid O1 H1) σ H1 st1.top (takes_base tk st1.base) _ fun vs H2 ss O2 h2 st2 r2 => q (v :: vs) H2 (s :: ss) O2 h2 (st2.rebase st1.base) (.cons (SlOk.mono st2.base r1) r2))
def R1D (K : PySem.W.Frag) (r : V → Hp → VK → Prop) (s1 : Slot) (O : Own) (k : Slot → Own → Prop) : Prop :=
  ∀ H0 σ ρ H v1, StOk K H0 O σ ρ H → SlOk K (hid O H) v1 s1 → ∀ Q : VK, (∀ v H' s O', k s O' → StOk K H0 O' σ ρ H' → SlOk K (hid O' H') v s → Q v H') → r v1 H Q
def R2D (K : PySem.W.Frag) (r : R2) (s1 s2 : Slot) (O : Own) (k : Slot → Own → Prop) : Prop :=
  ∀ H0 σ ρ H v1 v2, StOk K H0 O σ ρ H → SlOk K (hid O H) v1 s1 → SlOk K (hid O H) v2 s2 → ∀ Q : VK, (∀ v H' s O', k s O' → StOk K H0 O' σ ρ H' → SlOk K (hid O' H') v s → Q v H') → r v1 v2 H Q
def RlD (K : PySem.W.Frag) (r : List V → Hp → VK → Prop) (ss : List Slot) (O : Own) (k : Slot → Own → Prop) : Prop :=
  ∀ H0 σ ρ H vs, StOk K H0 O σ ρ H → Paired (SlOk K (hid O H)) vs ss → ∀ Q : VK, (∀ v H' s O', k s O' → StOk K H0 O' σ ρ H' → SlOk K (hid O' H') v s → Q v H') → r vs H Q
def OpB (X : Cx) (f : Value → Value → Sem Value) (s1 s2 : Slot) (O : Own) (k : Slot → Own → Prop) : Prop := ∃ r, OpR X f r ∧ R2D X.K r s1 s2 O k
def OpU (X : Cx) (f : Value → Sem Value) (s1 : Slot) (O : Own) (k : Slot → Own → Prop) : Prop := ∃ r, UnR X f r ∧ R1D X.K r s1 O k
def IxB (X : Cx) (s1 s2 : Slot) (O : Own) (k : Slot → Own → Prop) : Prop := ∃ r, IxR X r ∧ R2D X.K r s1 s2 O k
def CaB (X : Cx) (f : Value) (ss : List Slot) (O : Own) (k : Slot → Own → Prop) : Prop := ∃ r, CallR X f r ∧ RlD X.K r ss O k
theorem two {P : Slot → Slot → Own → Prop} (h : EW X O ρ a x fun s1 O1 => EW X O1 ρ b x fun s2 O2 => P s1 s2 O2) {H0 : Hp} {σ : SV} {H : Hp} (st : StOk X.K H0 O σ ρ H) (tk : Takes X (Wsem X.K H0 x))
    {Q : V → V → Hp → Prop} (q : ∀ v1 v2 s1 s2 O2 H2, P s1 s2 O2 → StOk X.K H0 O2 σ ρ H2 → SlOk X.K (hid O2 H2) v1 s1 → SlOk X.K (hid O2 H2) v2 s2 → Q v1 v2 H2) :
    We X a σ H fun v1 H1 => We X b σ H1 fun v2 H2 => Q v1 v2 H2 :=
  h H0 σ H st tk _ fun v1 H1 s1 O1 h1 st1 r1 => h1 (hid O1 H1) σ H1 st1.top (takes_base tk st1.base) _ fun v2 H2 s2 O2 h2 st2 r2 =>
    q v1 v2 s1 s2 O2 H2 h2 (st2.rebase st1.base) (SlOk.mono st2.base r1) r2
theorem ew_bin {op : Operator} (h : EW X O ρ a x fun s1 O1 => EW X O1 ρ b x fun s2 O2 => OpB X (binaryOp op) s1 s2 O2 k) : EW X O ρ (.BinOp a op b pos) x k := fun H0 σ H st tk Q q => by
  refine ⟨fun pins s I => ?_⟩
  refine wpAny_BinOp (bin pe_w pe_w I (two h st tk (Q := fun v1 v2 H2 => ∃ r, OpR X (binaryOp op) r ∧ r v1 v2 H2 Q) fun v1 v2 s1 s2 O2 H2 hp st2 r1 r2 => ?_) fun v u s2 z y H2 I2 rx ry hq => ?_)
  · obtain ⟨r, ho, hr⟩ := hp
    exact ⟨r, ho, hr H0 σ ρ H2 v1 v2 st2 r1 r2 Q q⟩
  · obtain ⟨r, ho, hr⟩ := hq
    exact ho pins s2 σ H2 z y v u Q I2 rx ry hr
theorem ew_cmp {op : CmpOp} (h : EW X O ρ a x fun s1 O1 => EW X O1 ρ b x fun s2 O2 => OpB X (compareOp op) s1 s2 O2 k) (hm : behindInMarks op b = false := by first | exact nomark _ | rfl) : EW X O ρ (.Compare a [op] [b] pos) x k := fun H0 σ H st tk Q q => by
  have main : OpR X (compareOp op) (fun v1 v2 H2 Q => ∃ r, OpR X (compareOp op) r ∧ r v1 v2 H2 Q) := fun pins s σ H x y v u Q I rx ry ⟨r, ho, hr⟩ => ho pins s σ H x y v u Q I rx ry hr
  refine we_of (pe_cmpR main pe_w pe_w hm) (two h st tk (Q := fun v1 v2 H2 => ∃ r, OpR X (compareOp op) r ∧ r v1 v2 H2 Q) fun v1 v2 s1 s2 O2 H2 hp st2 r1 r2 => ?_)
  obtain ⟨r, ho, hr⟩ := hp
  exact ⟨r, ho, hr H0 σ ρ H2 v1 v2 st2 r1 r2 Q q⟩
theorem ew_un {op : UnaryOp} (h : EW X O ρ a x fun s1 O1 => OpU X (unaryOp op) s1 O1 k) : EW X O ρ (.UnaryOp op a pos) x k := fun H0 σ H st tk Q q => by
  have main : UnR X (unaryOp op) (fun v1 H2 Q => ∃ r, UnR X (unaryOp op) r ∧ r v1 H2 Q) := fun pins s σ H y v Q I rx ⟨r, ho, hr⟩ => ho pins s σ H y v Q I rx hr
  refine we_of (pe_un main pe_w) (h H0 σ H st tk _ fun v H1 s O1 hp st1 r1 => ?_)
  obtain ⟨r, ho, hr⟩ := hp
  exact ⟨r, ho, hr H0 σ ρ H1 v st1 r1 Q q⟩
theorem ew_ix (h : EW X O ρ a x fun s1 O1 => EW X O1 ρ b x fun s2 O2 => IxB X s1 s2 O2 k) (hs : PlainIx b := by intro _ _; rfl) : EW X O ρ (.Subscript a b pos) x k := fun H0 σ H st tk Q q => by
  have main : IxR X (fun v1 v2 H2 Q => ∃ r, IxR X r ∧ r v1 v2 H2 Q) := fun value slice pins s σ H z y v u Q I rx ry ⟨r, ho, hr⟩ hs => ho value slice pins s σ H z y v u Q I rx ry hr hs
  refine we_of (pe_ix main pe_w pe_w hs) (two h st tk (Q := fun v1 v2 H2 => ∃ r, IxR X r ∧ r v1 v2 H2 Q) fun v1 v2 s1 s2 O2 H2 hp st2 r1 r2 => ?_)
  obtain ⟨r, ho, hr⟩ := hp
  exact ⟨r, ho, hr H0 σ ρ H2 v1 v2 st2 r1 r2 Q q⟩
/-- a built-in function, a built-in class, called -/
theorem ew_callB {nm : Str} {id : String} {p : Pos} (hm : X.mg nm = none) (hv : bootBuiltins nm = some (.builtin id)) (h : AW X O ρ (e :: es) x fun ss O1 => CaB X (.builtin id) ss O1 k) (hg : Gl X nm := by rfl)
    (hn : nm ≠ "__name__" := by decide) (hd : (nm == ("__debug__" : Str)) = false := by decide) (hs : starEach (e :: es) X.env = (false, eval e X.env) :: starEach es X.env := by rfl) (hpl : (backTo pos (starEach es X.env)).any (·.1) = false := by rfl) :
    EW X O ρ (.Call (.Name nm p) (e :: es) [] pos) x k := fun H0 σ H st tk Q q => by
  have main : CallR X (.builtin id) (fun vs H2 Q => ∃ r, CallR X (.builtin id) r ∧ r vs H2 Q) := fun pins s σ H xs us Q I rx ⟨r, ho, hr⟩ => ho pins s σ H xs us Q I rx hr
  refine we_of (pe_callB main hg hm hv pa_w (hn := hn) (hdb := hd) (he := hs) (hpl := hpl)) (h H0 σ H st tk _ fun vs H1 ss O1 hp st1 r1 => ?_)
  obtain ⟨r, ho, hr⟩ := hp
  exact ⟨r, ho, hr H0 σ ρ H1 vs st1 r1 Q q⟩
theorem ew_callTy {nm : Str} {id : String} {p : Pos} (hm : X.mg nm = none) (hv : bootBuiltins nm = some (.type id)) (h : AW X O ρ (e :: es) x fun ss O1 => CaB X (.type id) ss O1 k) (hg : Gl X nm := by rfl)
    (hn : nm ≠ "__name__" := by decide) (hd : (nm == ("__debug__" : Str)) = false := by decide) (hs : starEach (e :: es) X.env = (false, eval e X.env) :: starEach es X.env := by rfl) (hpl : (backTo pos (starEach es X.env)).any (·.1) = false := by rfl) :
    EW X O ρ (.Call (.Name nm p) (e :: es) [] pos) x k := fun H0 σ H st tk Q q => by
  have main : CallR X (.type id) (fun vs H2 Q => ∃ r, CallR X (.type id) r ∧ r vs H2 Q) := fun pins s σ H xs us Q I rx ⟨r, ho, hr⟩ => ho pins s σ H xs us Q I rx hr
  refine we_of (pe_callTy main hg hm hv pa_w (hn := hn) (hdb := hd) (he := hs) (hpl := hpl)) (h H0 σ H st tk _ fun vs H1 ss O1 hp st1 r1 => ?_)
  obtain ⟨r, ho, hr⟩ := hp
  exact ⟨r, ho, hr H0 σ ρ H1 vs st1 r1 Q q⟩
theorem tw_val (h : EW X O ρ e x fun s O1 => ∃ t, s = .dat (.bl t) ∧ kt t O1) (he : ∀ whole, isTrue e X.env whole = (do let v ← whole; standAt e.pos; holding [v] (truthy v)) := by intro _; rfl) : TW X O ρ e x kt := fun H0 σ H st tk Q q =>
  wt_of (pt_val pe_w he) (h H0 σ H st tk _ fun v H1 s O1 ⟨t, e1, h1⟩ st1 r1 => by
    subst e1
    cases r1
    exact ⟨t, rfl, q t H1 O1 h1 st1⟩)
theorem tw_cmp {op : CmpOp} (h : EW X O ρ a x fun s1 O1 => EW X O1 ρ b x fun s2 O2 => OpB X (compareOp op) s1 s2 O2 fun s O3 => ∃ t, s = .dat (.bl t) ∧ kt t O3) (hm : behindInMarks op b = false := by first | exact nomark _ | rfl) : TW X O ρ (.Compare a [op] [b] pos) x kt := fun H0 σ H st tk Q q => by
  have main : OpR X (compareOp op) (fun v1 v2 H2 Q => ∃ r, OpR X (compareOp op) r ∧ r v1 v2 H2 Q) := fun pins s σ H x y v u Q I rx ry ⟨r, ho, hr⟩ => ho pins s σ H x y v u Q I rx ry hr
  refine wt_of (pt_cmpR main pe_w pe_w hm) (two h st tk (Q := fun v1 v2 H2 => ∃ r, OpR X (compareOp op) r ∧ r v1 v2 H2 fun z H3 => ∃ k, z = .bl k ∧ Q k H3) fun v1 v2 s1 s2 O2 H2 hp st2 r1 r2 => ?_)
  obtain ⟨r, ho, hr⟩ := hp
  exact ⟨r, ho, hr H0 σ ρ H2 v1 v2 st2 r1 r2 _ fun z H3 s O3 ⟨t, e1, h1⟩ st3 r3 => by
    subst e1
    cases r3
    exact ⟨t, rfl, q t H3 O3 h1 st3⟩⟩
theorem tw_not (h : TW X O ρ a x fun t O1 => kt (!t) O1) : TW X O ρ (.UnaryOp .Not a pos) x kt := fun H0 σ H st tk Q q =>
  wt_of (pt_not pt_w) (h H0 σ H st tk _ fun t H1 O1 h1 st1 => q (!t) H1 O1 h1 st1)
/-- and, or as tests, whatever their whole is -/
def TWw (X : Cx) (O : Own) (ρ : List Slot) (e : Expr) (x : ExK) (kt : Bool → Own → Prop) : Prop :=
  ∀ H0 σ H, StOk X.K H0 O σ ρ H → Takes X (Wsem X.K H0 x) → ∀ Q : Bool → Hp → Prop, (∀ b H' O', kt b O' → StOk X.K H0 O' σ ρ H' → Q b H') → Bx (∀ (whole : Sem Value) (pins : List (Addr × Obj)) (s : Shared), Inv X pins σ H s →
    wpAny (model X.prog X.w) X.A (isTrue e X.env whole) (TP X pins σ Q) X.xe s)
theorem tw_w (h : TWw X O ρ e x kt) : TW X O ρ e x kt := fun H0 σ H st tk Q q => ⟨fun pins s I => (h H0 σ H st tk Q q).r _ pins s I⟩
def Wp (X : Cx) (e : Expr) : TT := fun σ H Q => Bx (∀ (whole : Sem Value) (pins : List (Addr × Obj)) (s : Shared), Inv X pins σ H s → wpAny (model X.prog X.w) X.A (isTrue e X.env whole) (TP X pins σ Q) X.xe s)
theorem pw_w : PW X e (Wp X e) := ⟨fun wh pins s σ H Q I h => h.r wh pins s I⟩
theorem wp_of {t : TT} (h : PW X e t) {σ : SV} {H : Hp} {Q : Bool → Hp → Prop} (q : t σ H Q) : Wp X e σ H Q := ⟨fun wh pins s I => h.run wh pins s σ H Q I q⟩
theorem tww_or1 (h : TW X O ρ a x kt) : TWw X O ρ (.BoolOp .Or [a] pos) x kt := fun H0 σ H st tk Q q => wp_of (pw_or1 pt_w) (h H0 σ H st tk Q q)
theorem tww_or (h : TW X O ρ a x fun t O1 => (t = true → kt true O1) ∧ (t = false → TWw X O1 ρ (.BoolOp .Or (b :: es) pos) x kt)) : TWw X O ρ (.BoolOp .Or (a :: b :: es) pos) x kt := fun H0 σ H st tk Q q =>
  wp_of (pw_or pt_w pw_w) (h H0 σ H st tk _ fun t H1 O1 h1 st1 => by
    cases t with
    | true => exact q true H1 O1 (h1.1 rfl) st1
    | false => exact (h1.2 rfl) H0 σ H1 st1 tk Q q)
theorem ew_if (h : TW X O ρ c x fun t O1 => (t = true → EW X O1 ρ a x k) ∧ (t = false → EW X O1 ρ b x k)) : EW X O ρ (.IfExp c a b pos) x k := fun H0 σ H st tk Q q =>
  we_of (pe_ifExp pt_w pe_w pe_w) (h H0 σ H st tk _ fun t H1 O1 h1 st1 => by
    cases t with
    | true => exact iteT ((h1.1 rfl) H0 σ H1 st1 tk Q q)
    | false => exact iteF ((h1.2 rfl) H0 σ H1 st1 tk Q q))
variable {st0 : Stmt} {sts body orelse : List Stmt}
theorem sw_nil (h : D.nx ρ O) : SW X O ρ [] x D := fun H0 σ H st tk E ok => wss_of pss_nil (ok.nx σ ρ O H h st)
theorem sw_cons (h : S1 X O ρ st0 x { D with nx := fun ρ' O' => SW X O' ρ' sts x D }) : SW X O ρ (st0 :: sts) x D := fun H0 σ H st tk E ok =>
  wss_of (pss_cons ps_w pss_w) (h H0 σ H st tk _ ⟨fun σ' ρ' O' H' q s => q H0 σ' H' s tk E ok, ok.rt, ok.bk, ok.ct⟩)
theorem sw_one (h : S1 X O ρ st0 x D) : SW X O ρ [st0] x D := fun H0 σ H st tk E ok => wss_of (pss_one ps_w) (h H0 σ H st tk E ok)
theorem s1_expr (h : EW X O ρ e x fun _ O' => D.nx ρ O') (hs : swapsWith e none pos.line X.env = pure false := by rfl) : S1 X O ρ (.Expr e pos) x D := fun H0 σ H st tk E ok => ws_of (ps_expr pe_w hs) (h H0 σ H st tk _ fun v H' s O' q st' r => ok.nx σ ρ O' H' q st')
theorem s1_ret (h : EW X O ρ e x D.rt) : S1 X O ρ (.Return (some e) pos) x D := fun H0 σ H st tk E ok => ws_of (ps_ret pe_w) (h H0 σ H st tk _ fun v H' s O' q st' r => ok.rt v s O' H' q st'.own st'.base r)
theorem s1_if (h : TW X O ρ c x fun t O1 => (t = true → SW X O1 ρ body x D) ∧ (t = false → SW X O1 ρ orelse x D)) : S1 X O ρ (.If c body orelse pos) x D := fun H0 σ H st tk E ok =>
  ws_of (ps_if pt_w pss_w pss_w) (h H0 σ H st tk _ fun t H1 O1 h1 st1 => by
    cases t with
    | true => exact iteT ((h1.1 rfl) H0 σ H1 st1 tk E ok)
    | false => exact iteF ((h1.2 rfl) H0 σ H1 st1 tk E ok))
theorem s1_set (i : Nat) {nm : Str} {p : Pos} (h : EW X O ρ e x fun s O' => D.nx (ρ.set i s) O') (hN : X.N.Nodup) (hi : X.N[i]? = some nm := by rfl) (hx : Loc X.env.scope nm := by first | exact .inl rfl | exact .inr rfl)
    (hs : swapsWith e (some (.Name nm p)) pos.line X.env = pure false := by rfl) (hf : X.fn nm = true ∨ X.env.scope.names.lookup nm = some .local := by first | exact .inl rfl | exact .inr rfl | assumption) :
    S1 X O ρ (.Assign [.Name nm p] e pos) x D := fun H0 σ H st tk E ok =>
  ws_of (ps_set hN hi hx pe_w hs hf) (h H0 σ H st tk _ fun v H' s O' q st' r => ok.nx _ _ O' H' q (st'.set r))
def Wg (X : Cx) (tg : Expr) : TG := fun v σ H Q => Bx (∀ (pins : List (Addr × Obj)) (s : Shared) (u : Value), Inv X pins σ H s → RelV v u → wpAny (model X.prog X.w) X.A (assign tg X.env u) (fun _ s' => ∃ σ' H', Inv X pins σ' H' s' ∧ Q σ' H') X.xe s)
theorem pg_w {tg : Expr} : PG X tg (Wg X tg) := ⟨fun pins s σ H v u Q I r h => h.r pins s u I r⟩
theorem wg_of {tg : Expr} {t : TG} (h : PG X tg t) {v : V} {σ : SV} {H : Hp} {Q : SV → Hp → Prop} (q : t v σ H Q) : Wg X tg v σ H Q := ⟨fun pins s u I r => h.run pins s σ H v u Q I r q⟩
def GW (X : Cx) (O : Own) (ρ : List Slot) (tg : Expr) (s : Slot) (x : ExK) (k : List Slot → Own → Prop) : Prop :=
  ∀ H0 σ H v, StOk X.K H0 O σ ρ H → SlOk X.K (hid O H) v s → Takes X (Wsem X.K H0 x) → ∀ Q : SV → Hp → Prop, (∀ σ' H' ρ' O', k ρ' O' → StOk X.K H0 O' σ' ρ' H' → Q σ' H') → Wg X tg v σ H Q
theorem gw_name (i : Nat) {nm : Str} {s : Slot} (h : kl (ρ.set i s) O) (hN : X.N.Nodup) (hi : X.N[i]? = some nm := by rfl) (hx : Loc X.env.scope nm := by first | exact .inl rfl | exact .inr rfl)
    (hf : X.fn nm = true ∨ X.env.scope.names.lookup nm = some .local := by first | exact .inl rfl | exact .inr rfl | assumption) : GW X O ρ (.Name nm pos) s x kl := fun H0 σ H v st r tk Q q =>
  wg_of (pg_name hN hi hx hf) (q _ H _ O h (st.set r))
/-- several targets -/
def GsW (X : Cx) (O : Own) (ρ : List Slot) (tgs : List Expr) (ss : List Slot) (x : ExK) (k : List Slot → Own → Prop) : Prop :=
  ∀ H0 σ H vs, StOk X.K H0 O σ ρ H → Paired (SlOk X.K (hid O H)) vs ss → Takes X (Wsem X.K H0 x) → ∀ Q : SV → Hp → Prop, (∀ σ' H' ρ' O', k ρ' O' → StOk X.K H0 O' σ' ρ' H' → Q σ' H') →
    Bx (∀ (pins : List (Addr × Obj)) (s : Shared) (us : List Value), Inv X pins σ H s → Vals vs us → wpAny (model X.prog X.w) X.A (assignInOrder ((assignEach tgs X.env).map (·.2)) us) (fun _ s' => ∃ σ' H', Inv X pins σ' H' s' ∧ Q σ' H') X.xe s)
def Wgs (X : Cx) (tgs : List Expr) : TGs := fun vs σ H Q => Bx (∀ (pins : List (Addr × Obj)) (s : Shared) (us : List Value), Inv X pins σ H s → Vals vs us → wpAny (model X.prog X.w) X.A (assignInOrder ((assignEach tgs X.env).map (·.2)) us) (fun _ s' => ∃ σ' H', Inv X pins σ' H' s' ∧ Q σ' H') X.xe s)
theorem pgs_w {tgs : List Expr} : PGs X tgs (Wgs X tgs) := ⟨fun pins s σ H vs us Q I r h => h.r pins s us I r⟩
theorem gsw_nil (h : kl ρ O) : GsW X O ρ [] [] x kl := fun H0 σ H vs st r tk Q q => ⟨fun pins s us I rv => by
  cases r
  exact pgs_nil.run pins s σ H [] us Q I rv ⟨rfl, q σ H ρ O h st⟩⟩
theorem gsw_cons {tg : Expr} {tgs : List Expr} {s : Slot} {ss : List Slot} (h : GW X O ρ tg s x fun ρ1 O1 => GsW X O1 ρ1 tgs ss x kl) (hs : (assignEach (tg :: tgs) X.env).map (·.2) = assign tg X.env :: (assignEach tgs X.env).map (·.2) := by rfl) : GsW X O ρ (tg :: tgs) (s :: ss) x kl := fun H0 σ H vs st r tk Q q => ⟨fun pins sh us I rv => by
  cases r with
  | cons r1 r2 =>
    refine (pgs_cons pg_w pgs_w hs).run pins sh σ H _ us Q I rv ⟨_, _, rfl, h (hid O H) σ H _ st.top r1 (takes_base tk st.base) _ fun σ1 H1 ρ1 O1 h1 st1 => ?_⟩
    exact h1 H0 σ1 H1 _ (st1.rebase st.base) (pmap (fun _ _ z => SlOk.mono st1.base z) r2) tk Q q⟩
theorem gw_tup {tgs : List Expr} {kk : Nat} {ds : List Dat} (h : GsW X O ρ tgs (ds.map .dat) x kl) (hc : X.calm = true := by rfl) (hn : (assignEach tgs X.env).length = ds.length := by rfl) (hst : (assignEach tgs X.env).findIdx? (·.1) = none := by rfl) :
    GW X O ρ (.Tuple tgs kk pos) (.dat (.tup ds)) x kl := fun H0 σ H v st r tk Q q => by
  cases r with
  | tup h1 h2 =>
    refine wg_of (pg_tup hc pgs_w hn hst) ⟨_, _, rfl, sqt_mono (fun b o hb => (of_hid hb).2) h1, RpA.length h2, ?_⟩
    exact h H0 σ H _ st h2.paired tk Q q
theorem s1_asg {tg : Expr} (h : EW X O ρ e x fun s O' => GW X O' ρ tg s x D.nx) (hs : swapsWithSole [tg] e pos.line X.env = pure false := by rfl) (hw : swappedStores [tg] e X.env = pure none := by rfl)
    (h1 : (assignEach [tg] X.env).map (·.2) = [assign tg X.env] := by rfl) : S1 X O ρ (.Assign [tg] e pos) x D := fun H0 σ H st tk E ok =>
  ws_of (ps_asg pe_w pg_w hs hw h1) (h H0 σ H st tk _ fun v H' s O' q st' r => q H0 σ H' v st' r tk _ fun σ' H'' ρ' O'' q2 st2 => ok.nx σ' ρ' O'' H'' q2 st2)
/-- a, b = c, d with plain local names -/
theorem s1_par (i j : Nat) {nx ny : Str} {px py pt : Pos} {kt1 k2 pt2} (h : AW X O ρ [a, b] x fun ss O' => ∃ s1 s2, ss = [s1, s2] ∧ D.nx ((ρ.set i s1).set j s2) O') (hN : X.N.Nodup) (hc : X.calm = true := by rfl) (hi : X.N[i]? = some nx := by rfl) (hj : X.N[j]? = some ny := by rfl) (hij : i ≠ j := by decide)
    (hx : X.env.scope.names.lookup nx = some .local := by rfl) (hy : X.env.scope.names.lookup ny = some .local := by rfl)
    (hw : swappedStores [.Tuple [.Name nx px, .Name ny py] kt1 pt] (.Tuple [a, b] k2 pt2) X.env = pure (some [nx, ny]) := by rfl)
    (hs : swapsWithSole [.Tuple [.Name nx px, .Name ny py] kt1 pt] (.Tuple [a, b] k2 pt2) pos.line X.env = pure false := by rfl) :
    S1 X O ρ (.Assign [.Tuple [.Name nx px, .Name ny py] kt1 pt] (.Tuple [a, b] k2 pt2) pos) x D := fun H0 σ H st tk E ok =>
  ws_of (ps_par hc hN hi hj hij hx hy pa_w hw hs) (h H0 σ H st tk _ fun vs H' ss O' ⟨s1, s2, e1, q⟩ st' r => by
    subst e1
    cases r with
    | cons r1 r =>
      cases r with
      | cons r2 r =>
        cases r
        exact ⟨_, _, rfl, ok.nx _ _ O' H' q ((st'.set r1).set r2)⟩)
end
end Kn
namespace Kn
open PySem PySem.Spec PyProof.Rows
open L2 hiding St
def ItD (K : PySem.W.Frag) (G : Hp) (J : It) (ds : List Dat) : Prop := ∀ O H, OwnOk K O H → Same G (hid O H) → ∀ i,
  (∀ d, ds[i]? = some d → J.go i H ∧ ∀ v H', J.yld i H v H' → Same H H' ∧ Rp K (hid O H') v d) ∧ (ds[i]? = none → J.stop i H)
def Wi (X : Cx) (tg iter : Expr) : TI := fun σ H R => Bx (∀ (pins : List (Addr × Obj)) (s : Shared), Inv X pins σ H s →
  wpAny (model X.prog X.w) X.A (eval iter X.env) (fun v s1 => wpAny (model X.prog X.w) X.A (pyIter v) (PIE X pins σ tg R) X.xe s1) X.xe s)
def IW (X : Cx) (O : Own) (ρ : List Slot) (tg iter : Expr) (x : ExK) (k : List Dat → Own → Prop) : Prop :=
  ∀ H0 σ H, StOk X.K H0 O σ ρ H → Takes X (Wsem X.K H0 x) → ∀ R : It → Hp → Prop, (∀ J H' ds O', k ds O' → StOk X.K H0 O' σ ρ H' → ItD X.K (hid O' H') J ds → R J H') → Wi X tg iter σ H R
theorem hid_le {O : Own} {H : Hp} : Same (hid O H) H := fun b o h => (of_hid h).2
theorem itd_list {K : PySem.W.Frag} {G : Hp} {a : Addr} {xs : List V} {ds : List Dat} (h : SqL K G a xs) (r : RpA K G xs ds) : ItD K G (Itl K a) ds := fun O H ok sm i => by
  have hS : SqL K H a xs := sql_mono (sm.trans hid_le) h
  refine ⟨fun d hd => ?_, fun hn => ⟨xs, hS, by rw [r.length]; exact List.getElem?_eq_none_iff.mp hn⟩⟩
  obtain ⟨v, h1, h2⟩ := r.get hd
  refine ⟨⟨xs, v, hS, h1⟩, fun v' H' hy => ?_⟩
  obtain ⟨rfl, hv⟩ := hy
  refine ⟨Same.refl _, ?_⟩
  have e : v = v' := Option.some.inj (h1.symm.trans (hv xs hS))
  rw [← e]
  exact Rp.mono sm h2
theorem itd_tup {K : PySem.W.Frag} {G : Hp} {a : Addr} {xs : List V} {ds : List Dat} (h : SqT K G a xs) (r : RpA K G xs ds) : ItD K G (Itt K a) ds := fun O H ok sm i => by
  have hS : SqT K H a xs := sqt_mono (sm.trans hid_le) h
  refine ⟨fun d hd => ?_, fun hn => ⟨xs, hS, by rw [r.length]; exact List.getElem?_eq_none_iff.mp hn⟩⟩
  obtain ⟨v, h1, h2⟩ := r.get hd
  refine ⟨⟨xs, v, hS, h1⟩, fun v' H' hy => ?_⟩
  obtain ⟨rfl, hv⟩ := hy
  refine ⟨Same.refl _, ?_⟩
  have e : v = v' := Option.some.inj (h1.symm.trans (hv xs hS))
  rw [← e]
  exact Rp.mono sm h2
def rangeD (lo : Int) (n : Nat) : List Dat := (List.range n).map fun (i : Nat) => Dat.int (lo + (i : Int))
theorem rangeD_len (lo : Int) (n : Nat) : (rangeD lo n).length = n := by unfold rangeD; rw [List.length_map, List.length_range]
theorem rangeD_at {lo : Int} {n i : Nat} {d : Dat} (h : (rangeD lo n)[i]? = some d) : i < n ∧ d = .int (lo + (i : Int)) := by
  have hl : i < (rangeD lo n).length := (List.getElem?_eq_some_iff.mp h).1
  rw [rangeD_len] at hl
  refine ⟨hl, ?_⟩
  unfold rangeD at h
  rw [List.getElem?_map, List.getElem?_range hl] at h
  exact (Option.some.inj h).symm
theorem itd_range {K : PySem.W.Frag} {G : Hp} {lo : Int} {n : Nat} : ItD K G (Itr lo n) (rangeD lo n) := fun O H ok sm i => by
  refine ⟨fun d hd => ?_, fun hn => ?_⟩
  · obtain ⟨h1, rfl⟩ := rangeD_at hd
    refine ⟨h1, fun v H' hy => ?_⟩
    obtain ⟨rfl, rfl⟩ := hy
    exact ⟨Same.refl _, .int _⟩
  · have h1 := List.getElem?_eq_none_iff.mp hn
    rw [rangeD_len] at h1
    exact h1
def enumD (ds : List Dat) : List Dat := ds.mapIdx fun i d => .tup [.int (i : Int), d]
theorem itd_enum {K : PySem.W.Frag} {G : Hp} {a : Addr} {xs : List V} {ds : List Dat} (h : SqL K G a xs) (r : RpA K G xs ds) : ItD K G (Ite K a) (enumD ds) := fun O H ok sm i => by
  have hS : SqL K H a xs := sql_mono (sm.trans hid_le) h
  refine ⟨fun d hd => ?_, fun hn => ⟨xs, hS, ?_⟩⟩
  · unfold enumD at hd
    rw [List.getElem?_mapIdx] at hd
    cases hc : ds[i]? with
    | none => rw [hc] at hd; cases hd
    | some d0 =>
      rw [hc] at hd
      cases hd
      obtain ⟨v, h1, h2⟩ := r.get hc
      refine ⟨⟨xs, v, hS, h1⟩, fun v' H' hy => ?_⟩
      obtain ⟨T, x, rfl, nT, rfl, hv⟩ := hy
      have e : v = x := Option.some.inj (h1.symm.trans (hv xs hS))
      rw [← e]
      refine ⟨same_new nT, .tup (.inl (.inl ?_)) (.cons (.int _) (.cons (Rp.mono (sm.trans (hid_same (same_new nT))) h2) .nil))⟩
      rw [hid_none (own_free ok nT), upd_same]
  · have h1 := List.getElem?_eq_none_iff.mp hn
    unfold enumD at h1
    rw [List.length_mapIdx] at h1
    rw [r.length]; exact h1
section
variable {X : Cx} {O : Own} {ρ : List Slot} {x : ExK} {k k' : Slot → Own → Prop} {kl kl' : List Slot → Own → Prop} {kd : List Dat → Own → Prop} {kt kt' : Bool → Own → Prop} {e a b c tg iter : Expr} {es : List Expr} {pos p : Pos} {D : SD}
theorem pi_w : PI X tg iter (Wi X tg iter) := ⟨fun pins s σ H R I h => h.r pins s I⟩
theorem wi_of {t : TI} (h : PI X tg iter t) {σ : SV} {H : Hp} {R : It → Hp → Prop} (q : t σ H R) : Wi X tg iter σ H R := ⟨fun pins s I => h.run pins s σ H R I q⟩
theorem iw_list (h : EW X O ρ e x fun s O' => ∃ ds, s = .dat (.lst ds) ∧ kd ds O') : IW X O ρ tg e x kd := fun H0 σ H st tk R q =>
  wi_of (pi_list pe_w) (h H0 σ H st tk _ fun v H' s O' ⟨ds, e1, h1⟩ st' r => by
    subst e1
    cases r with
    | lst h2 h3 => exact ⟨_, rfl, ⟨_, sql_at (hid_le _ _ h2)⟩, q _ H' ds O' h1 st' (itd_list (sql_at h2) h3)⟩)
theorem iw_tup (h : EW X O ρ e x fun s O' => ∃ ds, s = .dat (.tup ds) ∧ kd ds O') : IW X O ρ tg e x kd := fun H0 σ H st tk R q =>
  wi_of (pi_tup pe_w) (h H0 σ H st tk _ fun v H' s O' ⟨ds, e1, h1⟩ st' r => by
    subst e1
    cases r with
    | tup h2 h3 => exact ⟨_, rfl, ⟨_, sqt_mono hid_le h2⟩, q _ H' ds O' h1 st' (itd_tup h2 h3)⟩)
theorem iw_range1 (hm : X.mg "range" = none) (h : AW X O ρ [a] x fun ss O' => ∃ n : Int, ss = [.dat (.int n)] ∧ (-(2 ^ 62) ≤ n ∧ n < 2 ^ 62) ∧ kd (rangeD 0 n.toNat) O') (hg : Gl X "range" := by rfl) (hs : starEach [a] X.env = [(false, eval a X.env)] := by rfl) :
    IW X O ρ tg (.Call (.Name "range" p) [a] [] pos) x kd := fun H0 σ H st tk R q =>
  wi_of (pi_range1 hg hm pa_w hs) (h H0 σ H st tk _ fun vs H' ss O' ⟨n, e1, h1, h2⟩ st' r => by
    subst e1
    cases r with
    | cons r1 r2 =>
      cases r1
      cases r2
      exact ⟨n, rfl, h1.1, h1.2, q _ H' _ O' h2 st' itd_range⟩)
theorem iw_enum {elts : List Expr} {kk : Nat} {tpos : Pos} (hm : X.mg "enumerate" = none) (h : AW X O ρ [e] x fun ss O' => ∃ ds, ss = [.dat (.lst ds)] ∧ kd (enumD ds) O') (hg : Gl X "enumerate" := by rfl) (hs : starEach [e] X.env = [(false, eval e X.env)] := by rfl) :
    IW X O ρ (.Tuple elts kk tpos) (.Call (.Name "enumerate" p) [e] [] pos) x kd := fun H0 σ H st tk R q =>
  wi_of (pi_enum hg hm pa_w hs) (h H0 σ H st tk _ fun vs H' ss O' ⟨ds, e1, h1⟩ st' r => by
    subst e1
    cases r with
    | cons r1 r2 =>
      cases r2
      cases r1 with
      | lst h2 h3 => exact ⟨_, _, rfl, sql_at (hid_le _ _ h2), q _ H' _ O' h1 st' (itd_enum (sql_at h2) h3)⟩)
theorem s1_for {body : List Stmt} (hpo : PassesOwn (model X.prog X.w) X.A X.env X.xe)
    (h : IW X O ρ tg iter x fun ds O1 => ∃ J : Nat → List Slot → Own → Prop, J 0 ρ O1 ∧
      (∀ i d ρ' O', J i ρ' O' → ds[i]? = some d → GW X O' ρ' tg (.dat d) x fun ρ2 O2 => SW X O2 ρ2 body x { nx := J (i + 1), rt := D.rt, bk := D.nx, ct := J (i + 1) }) ∧
      ∀ ρ' O', J ds.length ρ' O' → D.nx ρ' O')
    (hc : X.calm = true := by rfl) (hs : ∀ x, foldedSetIterable iter X.env x = pure x := by intro _; rfl) : S1 X O ρ (.For tg iter body [] pos) x D := fun H0 σ H st tk E ok => by
  refine ws_of (ps_for hpo hc pi_w pg_w pss_w hs) (h H0 σ H st tk _ fun J0 H1 ds O1 ⟨J, j0, js, je⟩ st1 it => ?_)
  have tkB := takes_base tk st1.base
  have okB := ok.base st1.base
  refine ⟨fun i m σ' H' => i + m = ds.length ∧ ∃ ρ' O', J i ρ' O' ∧ StOk X.K (hid O1 H1) O' σ' ρ' H', ⟨ds.length, by omega, ρ, O1, j0, st1.top⟩, fun i m σ' H' hW => ?_⟩
  obtain ⟨em, ρ', O', hj, st'⟩ := hW
  obtain ⟨i1, i2⟩ := it O' H' st'.own st'.base i
  cases hd : ds[i]? with
  | none =>
    have hi : ds.length ≤ i := List.getElem?_eq_none_iff.mp hd
    have ei : i = ds.length := by omega
    subst ei
    exact .inl ⟨i2 hd, okB.nx σ' ρ' O' H' (je ρ' O' hj) st'⟩
  | some d =>
    have hi : i < ds.length := (List.getElem?_eq_some_iff.mp hd).1
    obtain ⟨g1, g2⟩ := i1 d hd
    refine .inr ⟨g1, fun σ'' H'' => ∃ ρ'' O'', J (i + 1) ρ'' O'' ∧ StOk X.K (hid O1 H1) O'' σ'' ρ'' H'', fun σ'' H'' hN => ⟨m - 1, by omega, by omega, hN⟩, fun v H2 hy => ?_⟩
    obtain ⟨s1, r1⟩ := g2 v H2 hy
    refine js i d ρ' O' hj hd (hid O1 H1) σ' H2 v (st'.grow s1) r1 tkB _ fun σ3 H3 ρ3 O3 h3 st3 => ?_
    exact h3 (hid O1 H1) σ3 H3 st3 tkB _ ⟨fun σ4 ρ4 O4 H4 q s => ⟨ρ4, O4, q, s⟩, okB.rt, okB.nx, fun σ4 ρ4 O4 H4 q s => ⟨ρ4, O4, q, s⟩⟩
theorem ew_lst (h : AW X O ρ es x fun ss O' => ss.length ≤ sizeLine ∧ ∀ p, O' p = none → k (.own p) (up O' p (.lst ss))) : EW X O ρ (.List es pos) x k := fun H0 σ H st tk Q q =>
  we_of (pe_lst pa_w) (h H0 σ H st tk _ fun vs H' ss O' ⟨h1, h2⟩ st' r => ⟨by rw [paired_len r]; exact h1, fun p hp =>
    q _ _ _ _ (h2 p (own_free st'.own hp)) (st'.alloc hp ⟨vs, rfl, r⟩) rfl⟩)
/-- the cell is given away at once -/
theorem ew_frz (h : EW X O ρ e x fun s O' => ∃ p ds, s = .own p ∧ O' p = some (.lst (ds.map .dat)) ∧ k (.dat (.lst ds)) (dn O' p)) : EW X O ρ e x k := fun H0 σ H st tk Q q =>
  h H0 σ H st tk Q fun v H' s O' ⟨p, ds, e1, h1, h2⟩ st' r => by
    subst e1
    obtain rfl : v = .ref p := r
    exact q _ H' _ _ h2 st'.freeze (st'.own.lst h1)
theorem ew_lstD (h : AW X O ρ es x fun ss O' => ∃ ds, ss = ds.map .dat ∧ ds.length ≤ sizeLine ∧ k (.dat (.lst ds)) O') : EW X O ρ (.List es pos) x k :=
  ew_frz (ew_lst (h.mono fun ss O' ⟨ds, e1, h1, h2⟩ => by
    subst e1
    exact ⟨by rw [List.length_map]; exact h1, fun p hp => ⟨p, ds, rfl, up_at, by rw [dn_up hp]; exact h2⟩⟩))
theorem ew_tup {x1} (h : AW X O ρ es x fun ss O' => ∃ ds, ss = ds.map .dat ∧ ds.length ≤ sizeLine ∧ k (.dat (.tup ds)) O') : EW X O ρ (.Tuple es x1 pos) x k := fun H0 σ H st tk Q q =>
  we_of (pe_tup pa_w) (h H0 σ H st tk _ fun vs H' ss O' ⟨ds, e1, h1, h2⟩ st' r => by
    subst e1
    have r' := RpA.of_paired r
    refine ⟨by rw [r'.length]; exact h1, fun p hp => q _ _ _ _ h2 (st'.grow (same_new hp)) ?_⟩
    have hO := own_free st'.own hp
    exact Rp.tup (.inl (.inl (by rw [hid_none hO, upd_same]))) (RpA.mono (hid_same (same_new hp)) r'))
def Blk (X : Cx) (scope : Scope) (Y : Cx) : Prop := ∃ (s : Shared) (H : Hp) (C : Addr) (cl : List (Str × Addr)) (fp : List Addr), Y = X.blk s H scope (compEnvC scope cl C X.env) fp
def TsW (Y : Cx) (O : Own) (ρ : List Slot) (ifs : List Expr) (x : ExK) (kt : Bool → Own → Prop) : Prop :=
  ∀ H0 σ H, StOk Y.K H0 O σ ρ H → Takes Y (Wsem Y.K H0 x) → ∀ Q : Bool → Hp → Prop, (∀ b H' O', kt b O' → StOk Y.K H0 O' σ ρ H' → Q b H') → Bx (∀ (pins : List (Addr × Obj)) (s : Shared), Inv Y pins σ H s →
    wpAny (model Y.prog Y.w) Y.A (forIn ifs true fun c r => if r = true then do let ok ← isTrue c Y.env (eval c Y.env); pure (ForInStep.yield ok) else pure (ForInStep.yield r)) (TP Y pins σ Q) Y.xe s)
theorem tsw_nil (h : kt true O) : TsW X O ρ [] x kt := fun H0 σ H st tk Q q => ⟨fun pins s I => pts_nil.run pins s σ H Q I (q true H O h st)⟩
theorem tsw_one (h : TW X O ρ c x kt) : TsW X O ρ [c] x kt := fun H0 σ H st tk Q q => ⟨fun pins s I => (pts_one pt_w).run pins s σ H Q I (h H0 σ H st tk Q q)⟩
def wipeS (ρ : List Slot) : List Nat → List Slot
  | [] => ρ
  | v :: vs => (wipeS ρ vs).set v .unk
theorem env_none {K : PySem.W.Frag} {G : Hp} {o : Option V} : EnvOk K G o .unk := trivial
theorem wipe_env {K : PySem.W.Frag} {G : Hp} {σ : SV} {ρ : List Slot} (h : Paired (EnvOk K G) σ ρ) : ∀ vs, Paired (EnvOk K G) (wipe σ vs) (wipeS ρ vs)
  | [] => h
  | v :: vs => paired_set (x := none) env_none v (wipe_env h vs)
theorem StOk.wipe {K : PySem.W.Frag} {H0 H : Hp} {σ : SV} (h : StOk K H0 O σ ρ H) (vs : List Nat) : StOk K H0 O (wipe σ vs) (wipeS ρ vs) H := ⟨h.own, h.base, wipe_env h.env vs⟩
theorem wipe_at {σ : SV} : ∀ {vs : List Nat} {i : Nat}, i ∈ vs → ∀ v, wipe (σ.set i v) vs = wipe σ vs
  | j :: vs, i, h, v => by
    show (wipe (σ.set i v) vs).set j none = (wipe σ vs).set j none
    by_cases e : i ∈ vs
    · rw [wipe_at e v]
    · have ej : i = j := by
        rcases List.mem_cons.mp h with q | q
        · exact q
        · exact absurd q e
      subst ej
      have : ∀ (vs : List Nat) (σ : SV), i ∉ vs → wipe (σ.set i v) vs = (wipe σ vs).set i v := by
        intro vs
        induction vs with
        | nil => intro σ _; rfl
        | cons z zs ih =>
          intro σ hz
          show (wipe (σ.set i v) zs).set z none = ((wipe σ zs).set z none).set i v
          rw [ih σ fun q => hz (List.mem_cons_of_mem _ q)]
          exact List.set_comm _ _ fun q => hz (by rw [q]; exact List.mem_cons_self)
      rw [this vs σ e, List.set_set]
theorem wipe_wipe {σ : SV} : ∀ {vs ws : List Nat}, (∀ i ∈ ws, i ∈ vs) → wipe (wipe σ ws) vs = wipe σ vs
  | vs, [], _ => rfl
  | vs, w :: ws, h => by
    show wipe ((wipe σ ws).set w none) vs = _
    rw [wipe_at (h w List.mem_cons_self), wipe_wipe fun i hi => h i (List.mem_cons_of_mem _ hi)]
/-- what a comprehension's target is -/
inductive Tgt (X : Cx) (scope : Scope) (vs : List Nat) : Expr → (Dat → List Slot → List Slot → Prop) → Prop
  | name {nm : Str} {p : Pos} {i : Nat} (hi : i ∈ vs) (hg : ∀ Y, Blk X scope Y → PG Y (.Name nm p) (gName i)) : Tgt X scope vs (.Name nm p) (fun d ρ ρ' => ρ' = ρ.set i (.dat d))
  | two {n1 n2 : Str} {p1 p2 p : Pos} {kk i j : Nat} (hi : i ∈ vs) (hj : j ∈ vs) (hg : ∀ Y, Blk X scope Y → PG Y (.Tuple [.Name n1 p1, .Name n2 p2] kk p) (gTup X.K 2 (gCons (gName i) (gCons (gName j) gNil)))) :
    Tgt X scope vs (.Tuple [.Name n1 p1, .Name n2 p2] kk p) (fun d ρ ρ' => ∃ d1 d2, d = .tup [d1, d2] ∧ ρ' = (ρ.set i (.dat d1)).set j (.dat d2))
  | three {n1 n2 n3 : Str} {p1 p2 p3 p : Pos} {kk i j l : Nat} (hi : i ∈ vs) (hj : j ∈ vs) (hl : l ∈ vs) (hg : ∀ Y, Blk X scope Y → PG Y (.Tuple [.Name n1 p1, .Name n2 p2, .Name n3 p3] kk p) (gTup X.K 3 (gCons (gName i) (gCons (gName j) (gCons (gName l) gNil))))) :
    Tgt X scope vs (.Tuple [.Name n1 p1, .Name n2 p2, .Name n3 p3] kk p) (fun d ρ ρ' => ∃ d1 d2 d3, d = .tup [d1, d2, d3] ∧ ρ' = ((ρ.set i (.dat d1)).set j (.dat d2)).set l (.dat d3))
theorem tgt_run {scope : Scope} {vs : List Nat} {T : Dat → List Slot → List Slot → Prop} (h : Tgt X scope vs tg T) :
    ∃ g : TG, (∀ Y, Blk X scope Y → PG Y tg g) ∧ ∀ {H0 H : Hp} {O : Own} {σ : SV} {ρ ρ' : List Slot} {v : V} {d : Dat} {Q : SV → Hp → Prop}, StOk X.K H0 O (wipe σ vs) ρ H → Rp X.K (hid O H) v d → T d ρ ρ' →
      (∀ σ', StOk X.K H0 O σ' ρ' H → wipe σ' vs = wipe σ vs → Q σ' H) → g v (wipe σ vs) H Q := by
  cases h with
  | name hi hg =>
    refine ⟨_, hg, fun {H0 H O σ ρ ρ' v d Q} st r t q => ?_⟩
    subst t
    exact q _ (st.set r) (by rw [wipe_at hi, wipe_wipe fun _ z => z])
  | two hi hj hg =>
    refine ⟨_, hg, fun {H0 H O σ ρ ρ' v d Q} st r t q => ?_⟩
    obtain ⟨d1, d2, rfl, rfl⟩ := t
    cases r with
    | tup h1 h2 =>
      cases h2 with
      | cons r1 h2 =>
        cases h2 with
        | cons r2 h2 =>
          cases h2
          refine ⟨_, _, rfl, sqt_mono hid_le h1, rfl, _, _, rfl, _, _, rfl, rfl, q _ ((st.set (s := .dat d1) r1).set (s := .dat d2) r2) ?_⟩
          rw [wipe_at hj, wipe_at hi, wipe_wipe fun _ z => z]
  | three hi hj hl hg =>
    refine ⟨_, hg, fun {H0 H O σ ρ ρ' v d Q} st r t q => ?_⟩
    obtain ⟨d1, d2, d3, rfl, rfl⟩ := t
    cases r with
    | tup h1 h2 =>
      cases h2 with
      | cons r1 h2 =>
        cases h2 with
        | cons r2 h2 =>
          cases h2 with
          | cons r3 h2 =>
            cases h2
            refine ⟨_, _, rfl, sqt_mono hid_le h1, rfl, _, _, rfl, _, _, rfl, _, _, rfl, rfl, q _ (((st.set (s := .dat d1) r1).set (s := .dat d2) r2).set (s := .dat d3) r3) ?_⟩
            rw [wipe_at hl, wipe_at hj, wipe_at hi, wipe_wipe fun _ z => z]
theorem tlc_of {elt : Expr} {ifs : List Expr} {scope : Scope} {vs : List Nat} {T : Dat → List Slot → List Slot → Prop} {g : TG}
    (hg : ∀ {H0 H : Hp} {O : Own} {σ : SV} {ρ ρ' : List Slot} {v : V} {d : Dat} {Q : SV → Hp → Prop}, StOk X.K H0 O (wipe σ vs) ρ H → Rp X.K (hid O H) v d → T d ρ ρ' → (∀ σ', StOk X.K H0 O σ' ρ' H → wipe σ' vs = wipe σ vs → Q σ' H) → g v (wipe σ vs) H Q)
    (h : IW X O ρ tg iter x fun ds O1 => ds.length ≤ sizeLine ∧ ∃ J : Nat → List Slot → Own → Prop, J 0 [] O1 ∧
      (∀ i d acc O', J i acc O' → ds[i]? = some d → ∃ ρ', T d (wipeS ρ vs) ρ' ∧ ∀ Dd, O' Dd = none → ∀ Y, Blk X scope Y → TsW Y (up O' Dd (.lst acc)) ρ' ifs noX fun t O2 =>
        (t = true → ∀ Z, Blk X scope Z → EW Z O2 ρ' elt noX fun s O3 => ∃ O4, O3 = up O4 Dd (.lst acc) ∧ O4 Dd = none ∧ J (i + 1) (acc ++ [s]) O4) ∧ (t = false → ∃ O4, O2 = up O4 Dd (.lst acc) ∧ O4 Dd = none ∧ J (i + 1) acc O4)) ∧
      ∀ acc O', J ds.length acc O' → ∀ p, O' p = none → k (.own p) (up O' p (.lst acc))) {H0 : Hp} {σ : SV} {H : Hp} {Q : VK} (st : StOk X.K H0 O σ ρ H) (tk : Takes X (Wsem X.K H0 x))
    (q : ∀ v H' s O', k s O' → StOk X.K H0 O' σ ρ H' → SlOk X.K (hid O' H') v s → Q v H') :
    tLc (Wi X tg iter) g (fun σ H Q => ∀ Y, Blk X scope Y → ∀ (pins : List (Addr × Obj)) (s : Shared), Inv Y pins σ H s →
      wpAny (model Y.prog Y.w) Y.A (forIn ifs true fun c r => if r = true then do let ok ← isTrue c Y.env (eval c Y.env); pure (ForInStep.yield ok) else pure (ForInStep.yield r)) (TP Y pins σ Q) Y.xe s)
      (fun σ H Q => ∀ Y, Blk X scope Y → We Y elt σ H Q) vs σ H Q := by
  refine h H0 σ H st tk _ fun J0 H1 ds O1 ⟨hz, J, j0, js, je⟩ st1 it => ?_
  intro Dd hD
  have hOD : O1 Dd = none := own_free st1.own hD
  have gS : Same (hid O1 H1) (hid (up O1 Dd (.lst [])) (upd H1 Dd (.lst []))) := fun b o hb => by
    obtain ⟨z1, z2⟩ := of_hid hb
    have nb := ne_of_none z2 hD
    rw [hid_none (by rw [up_ne nb]; exact z1), upd_ne nb]
    exact z2
  -- the store with the new list as a cell, over the greatest base
  refine ⟨fun i m H' => i + m = ds.length ∧ ∃ acc O', J i acc O' ∧ O' Dd = none ∧ acc.length ≤ i ∧ StOk X.K (hid O1 H1) (up O' Dd (.lst acc)) σ ρ H',
    ⟨ds.length, by omega, [], O1, j0, hOD, Nat.le_refl _, ⟨?_, gS, pmap (fun _ _ z => EnvOk.mono gS z) st1.env⟩⟩, fun i m H' hW => ?_⟩
  · exact (st1.alloc (o := .lst []) (c := .lst []) hD ⟨[], rfl, .nil⟩).own
  · obtain ⟨em, acc, O', hj, nD, hacc, st'⟩ := hW
    obtain ⟨i1, i2⟩ := it _ H' st'.own st'.base i
    cases hd : ds[i]? with
    | none =>
      have hi : ds.length ≤ i := List.getElem?_eq_none_iff.mp hd
      have ei : i = ds.length := by omega
      subst ei
      exact .inl ⟨i2 hd, q _ H' _ _ (je acc O' hj Dd nD) (st'.rebase st1.base) rfl⟩
    | some d =>
      have hi : i < ds.length := (List.getElem?_eq_some_iff.mp hd).1
      obtain ⟨g1, g2⟩ := i1 d hd
      obtain ⟨ρ', ht, hb⟩ := js i d acc O' hj hd
      have hb := hb Dd nD
      refine .inr ⟨g1, fun H'' => ∃ acc2 O2, J (i + 1) acc2 O2 ∧ O2 Dd = none ∧ acc2.length ≤ i + 1 ∧ StOk X.K (hid O1 H1) (up O2 Dd (.lst acc2)) σ ρ H'', fun H'' hN => ⟨m - 1, by omega, by omega, hN⟩, fun v H2 hy => ?_⟩
      obtain ⟨s1, r1⟩ := g2 v H2 hy
      have st2 := st'.grow s1
      refine hg (σ := σ) (st2.wipe vs) r1 ht fun σ' st3 hw => ⟨hw, fun Y hY pins s I => ?_⟩
      obtain ⟨sY, HY, CY, clY, fpY, eY⟩ := id hY
      have eK : Y.K = X.K := by rw [eY]
      have st3Y : StOk Y.K (hid O1 H1) (up O' Dd (.lst acc)) σ' ρ' H2 := by rw [eK]; exact st3
      refine (hb Y hY (hid O1 H1) σ' H2 st3Y takes_no _ fun t H3 O3 h3 st4 => ?_).r pins s I
      -- the way back to the outer names
      have env2 : Paired (EnvOk X.K (hid (up O' Dd (.lst acc)) H2)) σ ρ := st2.env
      cases t with
      | false =>
        obtain ⟨O4, e4, n4, j4⟩ := h3.2 rfl
        subst e4
        refine iteF ⟨acc, O4, j4, n4, by omega, ?_⟩
        rw [eK] at st4
        exact ⟨st4.own, st4.base, pmap (fun _ _ z => EnvOk.mono st4.base z) st1.env⟩
      | true =>
        refine iteT fun Z hZ => ?_
        obtain ⟨sZ, HZ, CZ, clZ, fpZ, eZ⟩ := id hZ
        have eKZ : Z.K = X.K := by rw [eZ]
        have eYZ : Z.K = Y.K := by rw [eZ, eY]
        refine (h3.1 rfl) Z hZ (hid O1 H1) σ' H3 (by rw [eYZ]; exact st4) takes_no _ fun u H5 s5 O5 h5 st5 r5 => ?_
        obtain ⟨O4, e4, n4, j4⟩ := h5
        subst e4
        rw [eKZ] at st5 r5
        obtain ⟨o5, c1, xs5, rfl, c2⟩ := st5.own.cell Dd _ up_at
        have lx : xs5.length = acc.length := paired_len c2
        have gw : Same (hid (up O4 Dd (.lst acc)) H5) (hid (up O4 Dd (.lst (acc ++ [s5]))) (upd H5 Dd (.lst (xs5 ++ [u])))) := by
          have := hid_write (H := H5) (o := .lst (xs5 ++ [u])) (c := .lst (acc ++ [s5])) (O := up O4 Dd (.lst acc)) up_at
          rw [up_up] at this
          exact this
        have st6 := st5.write (o := .lst (xs5 ++ [u])) (c := .lst (acc ++ [s5])) up_at ⟨_, rfl, paired_app c2 (.cons r5 .nil)⟩
        rw [up_up] at st6
        refine ⟨xs5, c1, by omega, acc ++ [s5], O4, j4, n4, by rw [List.length_append]; exact Nat.add_le_add_right hacc 1, ⟨st6.own, st6.base, pmap (fun _ _ z => EnvOk.mono st6.base z) st1.env⟩⟩
theorem ew_lc (own : List (Str × Nat)) {elt : Expr} {ifs : List Expr} {scope : Scope} {T : Dat → List Slot → List Slot → Prop} (hN : X.N.Nodup) (tg_ok : Tgt X scope (own.map (·.2)) tg T) (ok : BlkOk X.N X.env.scope scope own)
    (h : IW X O ρ tg iter x fun ds O1 => ds.length ≤ sizeLine ∧ ∃ J : Nat → List Slot → Own → Prop, J 0 [] O1 ∧
      (∀ i d acc O', J i acc O' → ds[i]? = some d → ∃ ρ', T d (wipeS ρ (own.map (·.2))) ρ' ∧ ∀ Dd, O' Dd = none → ∀ Y, Blk X scope Y → TsW Y (up O' Dd (.lst acc)) ρ' ifs noX fun t O2 =>
        (t = true → ∀ Z, Blk X scope Z → EW Z O2 ρ' elt noX fun s O3 => ∃ O4, O3 = up O4 Dd (.lst acc) ∧ O4 Dd = none ∧ J (i + 1) (acc ++ [s]) O4) ∧ (t = false → ∃ O4, O2 = up O4 Dd (.lst acc) ∧ O4 Dd = none ∧ J (i + 1) acc O4)) ∧
      ∀ acc O', J ds.length acc O' → ∀ p, O' p = none → k (.own p) (up O' p (.lst acc))) (hc : X.calm = true := by rfl) (hs : ∀ x, foldedSetIterable iter X.env x = pure x := by intro _; rfl) :
    EW X O ρ (.ListComp elt [⟨tg, iter, ifs, 0⟩] scope pos) x k := fun H0 σ H st tk Q q => by
  obtain ⟨g, g1, g2⟩ := tgt_run tg_ok
  exact we_of (pe_lc hc hN pi_w ok (fun s H C cl fp => g1 _ ⟨s, H, C, cl, fp, rfl⟩) (fun s H C cl fp => ⟨fun pins sh σ H5 Q I hq => hq _ ⟨s, H, C, cl, fp, rfl⟩ pins sh I⟩) (fun s H C cl fp => ⟨fun pins sh σ H5 Q I hq => (hq _ ⟨s, H, C, cl, fp, rfl⟩).r pins sh I⟩) hs)
    (tlc_of g2 h st tk q)
end
end Kn
namespace Kn
open PySem PySem.Spec PyProof.Rows
open L2 hiding St
inductive Out where
  | ret (s : Slot)
  | exc (e : Exn)
/-- a contract: the arguments, the cells, and what is wanted of each way out -/
abbrev SpecT := List Slot → Own → (Out → Own → Prop) → Prop
structure RoomB (g : Bool) (k : Nat) (A : Around) : Prop where
  r : Room k A
  g : g = true → A.guards = some []
theorem RoomB.mono {g g' : Bool} {j k : Nat} {A : Around} (h : RoomB g k A) (hk : j ≤ k) (hg : g' = true → g = true) : RoomB g' j A := ⟨h.r.mono hk, fun e => h.g (hg e)⟩
def RetOk (K : PySem.W.Frag) (O : Own) (H : Hp) (R : Out → Own → Prop) (Q : VK) : Prop :=
  ∀ v H' s O', R (.ret s) O' → OwnOk K O' H' → Same (hid O H) (hid O' H') → SlOk K (hid O' H') v s → Q v H'
def ErrOk (K : PySem.W.Frag) (O : Own) (H : Hp) (R : Out → Own → Prop) (E : XK) : Prop :=
  ∀ cls d e H' O', R (.exc e) O' → OwnOk K O' H' → Same (hid O H) (hid O' H') → ExOk K O' H' cls d e → E cls d H'
def spS (K : PySem.W.Frag) (S : SpecT) : Sp := fun vs H Q E => ∃ O ss R, OwnOk K O H ∧ Paired (SlOk K (hid O H)) vs ss ∧ S ss O R ∧ RetOk K O H R Q ∧ ErrOk K O H R E
structure Fn (P : Program) (w : World) (K : PySem.W.Frag) (mg : Str → Option Value) (base : Heap) (g : Bool) (k : Nat) (f : Addr) (fd : FuncData) (ps : List Str) (S : SpecT) : Prop where
  len : ∀ ss O R, S ss O R → ss.length = ps.length
  run : ∀ (A : Around) (outer : List Env) (s : Shared) (H : Hp) (args : Args) (us : List Value) (vs : List V) (Q : VK) (E : XK), RoomB g k A → Env0 P w K mg base A outer s H → BindsTo s fd args (ps.zip us) → Vals vs us → spS K S vs H Q E →
    codeAny (model P w) A (.call (.ref f) args) (CR (L2.CX P w) outer P w H s Q E) s
section
variable {P : Program} {w : World} {K : PySem.W.Frag} {mg : Str → Option Value} {base : Heap} {g : Bool} {k : Nat} {f : Addr} {fd : FuncData} {ps : List Str} {S : SpecT}
theorem spS_len (len : ∀ ss O R, S ss O R → ss.length = ps.length) : ∀ vs H Q E, spS K S vs H Q E → vs.length = ps.length := fun vs H Q E ⟨O, ss, R, _, pr, hS, _⟩ => (paired_len pr).trans (len _ _ _ hS)
theorem Fn.ok (F : Fn P w K mg base false k f fd ps S) : FnOk P w K mg base (L2.CX P w) k f fd ps (spS K S) :=
  ⟨spS_len F.len, fun A outer s H args us vs Q E hr e0 hb r hs => F.run A outer s H args us vs Q E ⟨hr, fun e => nomatch e⟩ e0 hb r hs⟩
def startS (N : List Str) (ss : List Slot) : List Slot := ss ++ List.replicate (N.length - ss.length) .unk
theorem paired_rep {α β : Type} {F : α → β → Prop} {a : α} {b : β} (h : F a b) : ∀ n, Paired F (List.replicate n a) (List.replicate n b)
  | 0 => .nil
  | n + 1 => .cons h (paired_rep h n)
theorem env_of {G : Hp} : ∀ {vs : List V} {ss : List Slot}, Paired (SlOk K G) vs ss → Paired (EnvOk K G) (vs.map some) ss
  | _, _, .nil => .nil
  | _, s :: _, .cons h t => .cons (by
      cases s with
      | unk => trivial
      | dat d => exact ⟨_, rfl, h⟩
      | own p => exact congrArg some h) (env_of t)
theorem start_env {G : Hp} {N : List Str} {vs : List V} {ss : List Slot} (h : Paired (SlOk K G) vs ss) : Paired (EnvOk K G) (L2.start N vs) (startS N ss) := by
  unfold L2.start startS
  rw [paired_len h]
  exact paired_app (env_of h) (paired_rep trivial _)
theorem roomB_deeper {A : Around} (r : RoomB g (k + 1) A) (env : Env) : RoomB g k (A.deeper env) := ⟨r.r.deeper env, fun e => r.g e⟩
/-- a def as it stands behind the top, whatever its defaults -/
def FunX (K : PySem.W.Frag) (x qual : Str) (st : Stmt) (f : Addr) (fd : FuncData) : Prop := ∃ (oc : Value) (od : Option Addr) (dV kV doc pm : Value) (an : Option Addr) (cdv ct : Value) (osl : Array (Option Value)),
  fd = PySem.W.fnOf x qual (defArgs st) (defBody st) (defScope st) dV kV doc pm an cdv ct ∧ K.lookup f = some ⟨oc, od, .func fd, osl⟩ ∧ PySem.W.codeIn K cdv qual = true
theorem funX_of {x qual : Str} {st : Stmt} (F : L2.Fun K x qual st f fd) : FunX K x qual st f fd := by
  obtain ⟨oc, od, kV, doc, pm, an, cdv, ct, osl, h⟩ := F.ex
  exact ⟨oc, od, .none, kV, doc, pm, an, cdv, ct, osl, h⟩
/-- a def keeps its contract -/
theorem fn_mkX {x qual : Str} {st : Stmt} {N : List Str} (F : FunX K x qual st f fd) (Sc : FnScope N ps (defScope st)) (len : ∀ ss O R, S ss O R → ss.length = ps.length)
    (body : ∀ (cdv : Value) (A : Around) (outer : List Env) (s : Shared) (H : Hp) (E : XK) (ss : List Slot) (O : Own) (R : Out → Own → Prop), RoomB g k (cxOf (L2.CX P w) P w K mg base N qual (defScope st) f cdv A outer s H E).A →
      PassesOwn (model P w) (cxOf (L2.CX P w) P w K mg base N qual (defScope st) f cdv A outer s H E).A (cxOf (L2.CX P w) P w K mg base N qual (defScope st) f cdv A outer s H E).env (cxOf (L2.CX P w) P w K mg base N qual (defScope st) f cdv A outer s H E).xe → S ss O R →
      SW (cxOf (L2.CX P w) P w K mg base N qual (defScope st) f cdv A outer s H E) O (startS N ss) (defBody st) (fun e _ O' => R (.exc e) O') { nx := fun _ O' => R (.ret (.dat .non)) O', rt := fun z O' => R (.ret z) O' }) :
    Fn P w K mg base g (k + 1) f fd ps S := by
  obtain ⟨oc, od, dV, kV, doc, pm, an, cdv, ct, osl, rfl, lk, hcd⟩ := F
  refine ⟨len, fun A outer s H args us vs Q E hr e0 hb r hsp => ?_⟩
  obtain ⟨O, ss, R, own, pr, hS, hret, herr⟩ := hsp
  have hl : vs.length = ps.length := (paired_len pr).trans (len _ _ _ hS)
  have KX : K.In s.heap := e0.mod.kin.keeps fun b o e => (e0.bs b o e).1
  have lim : s.heap.NoLimit := e0.mod.nolimit.keeps fun b o e => (e0.bs b o e).1
  have hkind : ∀ y ∈ ps.zip us, (defScope st).names.lookup y.1 = some .local ∨ ((defScope st).names.lookup y.1 = some .cell ∧ ((cellsFrom (s.heap.objs.size + 1) (defScope st).names []).lookup y.1).isSome = true) := fun y hy => by
    rcases Sc.par y.1 (List.of_mem_zip (show (y.1, y.2) ∈ ps.zip us from hy)).1 with q | q
    · exact .inl q
    · exact .inr ⟨q, PySem.W.cellsFrom_some _ _ _ (.inl q)⟩
  refine codeAny_call_function hr.r.depth (KX _ _ lk) rfl Sc.co Sc.gen rfl (PySem.W.codeRec_of KX hcd) (hb _ _ _ _ ?_)
  refine wpAny_newFunctionEnv_cells Sc.kind hkind fun env he s1 hin => ?_
  subst he
  refine ⟨lim.keeps hin.toInCall.keep, codeAny_func ?_⟩
  have I := inv_start (CX := L2.CX P w) (E := E) Sc hr.r.hd e0 hl r hin
  have hrD : RoomB g k (cxOf (L2.CX P w) P w K mg base N qual (defScope st) f cdv A outer s H E).A := roomB_deeper hr _
  have hpo : PassesOwn (model P w) (cxOf (L2.CX P w) P w K mg base N qual (defScope st) f cdv A outer s H E).A (cxOf (L2.CX P w) P w K mg base N qual (defScope st) f cdv A outer s H E).env (cxOf (L2.CX P w) P w K mg base N qual (defScope st) f cdv A outer s H E).xe :=
    passes_of (X := cxOf (L2.CX P w) P w K mg base N qual (defScope st) f cdv A outer s H E) rfl
  have hst : StOk K (hid O H) O (L2.start N vs) (startS N ss) H := ⟨own, Same.refl _, start_env pr⟩
  have tk : Takes (cxOf (L2.CX P w) P w K mg base N qual (defScope st) f cdv A outer s H E) (Wsem K (hid O H) fun e _ O' => R (.exc e) O') :=
    (takes_of (X := cxOf (L2.CX P w) P w K mg base N qual (defScope st) f cdv A outer s H E) rfl rfl rfl rfl).imp fun cls d σ' H' ⟨e, ρ', O', h1, h2, h3⟩ => herr cls d e H' O' h1 h2.own h2.base h3
  have main := (body cdv A outer s H E ss O R hrD hpo hS (hid O H) (L2.start N vs) H hst tk { nx := fun _ H' => Q .non H', rt := Q }
    ⟨fun σ' ρ' O' H' h1 h2 => hret .non H' _ O' h1 h2.own h2.base .non, fun v z O' H' h1 h2 h3 h4 => hret v H' z O' h1 h2 h3 h4, fun _ _ _ _ h _ => h.elim, fun _ _ _ _ h _ => h.elim⟩).r [] s1 I
  refine wpAny_mono main (fun fl s' hs => ?_) fun e s' hs => hs
  have fin : ∀ {σ' : SV} {H' : Hp} {v : V} {u : Value}, L2.Inv (cxOf (L2.CX P w) P w K mg base N qual (defScope st) f cdv A outer s H E) [] σ' H' s' → RelV v u → Q v H' → CE outer P w H s Q u s' :=
    fun {σ' H' v u} J rv q => ⟨v, H', J.os, J.bare, J.base, J.hok, rv, q⟩
  cases fl with
  | ret u =>
    obtain ⟨v, σ', H', J, rv, q⟩ := hs
    exact fin J rv q
  | next =>
    obtain ⟨σ', H', J, q⟩ := hs
    exact fin (v := V.non) (u := Value.none) J rfl q
  | brk =>
    obtain ⟨_, _, _, q⟩ := hs
    exact False.elim q
  | cont =>
    obtain ⟨_, _, _, q⟩ := hs
    exact False.elim q
theorem fn_mk {x qual : Str} {st : Stmt} {N : List Str} (F : L2.Fun K x qual st f fd) (Sc : FnScope N ps (defScope st)) (len : ∀ ss O R, S ss O R → ss.length = ps.length)
    (body : ∀ (cdv : Value) (A : Around) (outer : List Env) (s : Shared) (H : Hp) (E : XK) (ss : List Slot) (O : Own) (R : Out → Own → Prop), RoomB g k (cxOf (L2.CX P w) P w K mg base N qual (defScope st) f cdv A outer s H E).A →
      PassesOwn (model P w) (cxOf (L2.CX P w) P w K mg base N qual (defScope st) f cdv A outer s H E).A (cxOf (L2.CX P w) P w K mg base N qual (defScope st) f cdv A outer s H E).env (cxOf (L2.CX P w) P w K mg base N qual (defScope st) f cdv A outer s H E).xe → S ss O R →
      SW (cxOf (L2.CX P w) P w K mg base N qual (defScope st) f cdv A outer s H E) O (startS N ss) (defBody st) (fun e _ O' => R (.exc e) O') { nx := fun _ O' => R (.ret (.dat .non)) O', rt := fun z O' => R (.ret z) O' }) :
    Fn P w K mg base g (k + 1) f fd ps S := fn_mkX (funX_of F) Sc len body
end
/-- a module's def by its name, with its contract and the defaults that fill up -/
def Cal (P : Program) (w : World) (K : PySem.W.Frag) (mg : Str → Option Value) (base : Heap) (g : Bool) (k : Nat) (nm : Str) (S : SpecT) (df : List Dat) : Prop :=
  ∃ (f : Addr) (fd : FuncData) (ps : List Str) (ds : List Value) (dvs : List V), mg nm = some (.ref f) ∧ PySem.W.keepIn K (.ref f) = true ∧ Fn P w K mg base g k f fd ps S ∧ Binds K fd ps ds ∧ Vals dvs ds ∧ ∀ G, RpA K G dvs df
section
variable {X : Cx} {O : Own} {ρ : List Slot} {x : ExK} {k k' : Slot → Own → Prop} {kl kl' : List Slot → Own → Prop} {e a b c : Expr} {es : List Expr} {pos p : Pos} {D : SD} {g g' : Bool} {j n : Nat} {S : SpecT} {df : List Dat}
theorem StOk.next {K : PySem.W.Frag} {H0 H H' : Hp} {O O' : Own} {σ : SV} {ρ : List Slot} (h : StOk K H0 O σ ρ H) (o : OwnOk K O' H') (s : Same (hid O H) (hid O' H')) : StOk K H0 O' σ ρ H' :=
  ⟨o, h.base.trans s, pmap (fun _ _ z => EnvOk.mono s z) h.env⟩
/-- what follows a call -/
@[reducible] def kOut (x : ExK) (ρ : List Slot) (k : Slot → Own → Prop) : Out → Own → Prop
  | .ret s, O => k s O
  | .exc e, O => x e ρ O
theorem run_call {f : Addr} {fd : FuncData} {ps : List Str} {ds : List Value} {dvs vs : List V} {us : List Value} {ss : List Slot} {pins : List (Addr × Obj)} {s : Shared} {σ : SV} {H0 H : Hp} {Q : VK}
    (F : Fn X.prog X.w X.K X.mg X.base g n f fd ps S) (hr : RoomB g n X.A) (hb : Binds X.K fd ps ds) (hd : Vals dvs ds) (hdf : ∀ G, RpA X.K G dvs df) (I : Inv X pins σ H s) (st : StOk X.K H0 O σ ρ H) (tk : Takes X (Wsem X.K H0 x)) (rv : Vals vs us)
    (pr : Paired (SlOk X.K (hid O H)) vs ss) (hS : S (ss ++ df.map .dat) O (kOut x ρ k)) (q : ∀ v H' s O', k s O' → StOk X.K H0 O' σ ρ H' → SlOk X.K (hid O' H') v s → Q v H') :
    wpAny (model X.prog X.w) X.A (call (.ref f) us) (EP X pins σ Q) X.xe s := by
  have r2 : Vals (vs ++ dvs) (us ++ ds) := rv.append hd
  have sp : spS X.K S (vs ++ dvs) H Q (fun cls d H' => Wsem X.K H0 x cls d σ H') := ⟨O, ss ++ df.map .dat, kOut x ρ k, st.own, paired_app pr (hdf _).paired, hS,
    fun v H' s' O' h1 h2 h3 h4 => q v H' s' O' h1 (st.next h2 h3) h4, fun cls d e H' O' h1 h2 h3 h4 => ⟨e, ρ, O', h1, st.next h2 h3, h4⟩⟩
  have hl : (us ++ ds).length = ps.length := by rw [← r2.length]; exact spS_len F.len _ _ _ _ sp
  refine wpAny_call (codeAny_mono (F.run X.A X.stack s H ⟨us, []⟩ (us ++ ds) (vs ++ dvs) Q _ hr I.env0 (hb s us I.kIn hl) r2 sp) fun r s' hq => ?_)
  cases r with
  | error e => exact tk e s' (XE.of_call I (fun _ _ _ h => h) hq)
  | ok fl =>
    cases fl with
    | ret u => exact I.after hq
    | next => exact False.elim hq
    | brk => exact False.elim hq
    | cont => exact False.elim hq
theorem ew_call {nm : Str} (cl : Cal X.prog X.w X.K X.mg X.base g n nm S df) (hr : RoomB g' j X.A) (h : AW X O ρ (e :: es) x fun ss O1 => S (ss ++ df.map .dat) O1 (kOut x ρ k)) (hj : n ≤ j := by decide) (hgg : g = true → g' = true := by first | exact fun _ => rfl | exact fun h => h | exact fun h => nomatch h)
    (hg : Gl X nm := by rfl) (hdb : (nm == ("__debug__" : Str)) = false := by decide) (he : starEach (e :: es) X.env = (false, eval e X.env) :: starEach es X.env := by rfl) (hpl : (backTo pos (starEach es X.env)).any (·.1) = false := by rfl) :
    EW X O ρ (.Call (.Name nm p) (e :: es) [] pos) x k := fun H0 σ H st tk Q q => ⟨fun pins s I => by
  obtain ⟨f, fd, ps, ds, dvs, hm, hk, F, hb, hd, hdf⟩ := cl
  refine wpAny_Call_Name_kw (ld_glob I hg hm ?_ hdb)
  refine PySem.W.callWith_K (h₀ := X.base) I.ok.mod.kin hk (thn ((pa_w (es := e :: es)).run pos pins s σ H (fun vs H1 => ∃ ss O1, StOk X.K H0 O1 σ ρ H1 ∧ Paired (SlOk X.K (hid O1 H1)) vs ss ∧ S (ss ++ df.map .dat) O1 (kOut x ρ k)) I (h H0 σ H st tk _ fun vs H1 ss O1 h1 st1 r1 => ⟨ss, O1, st1, r1, h1⟩)) fun us s1 hq => ?_) he hpl
  obtain ⟨vs, H1, I1, rv, ss, O1, st1, pr, hS⟩ := hq
  exact ⟨I1.kIn, run_call F (hr.mono hj hgg) hb hd hdf I1 st1 tk rv pr hS q⟩⟩
/-- __init__ of such a class: the new exception at a -/
def MkEx (C : Addr) (S : SpecT) (x : ExK) (ρ : List Slot) : List Slot → Own → Prop := fun ss O1 => ss.length ≤ 1000 ∧ ∀ a, O1 a = none → S (.own a :: ss) (up O1 a (.exo C none)) fun o O2 =>
  ∃ s, o = .ret s ∧ s = .dat .non ∧ ∃ (d : Addr) (fs : List (Str × Dat)), O2 a = some (.exo C (some d)) ∧ O2 d = some (.exd (fs.map fun q => (q.1, .dat q.2))) ∧ O1 d = none ∧ x (.own C fs) ρ (dn (dn O2 a) d)
/-- raise NAME(e, ..), from the reading of the exception's making -/
theorem s1_raise_of {nm : Str} {C : Addr} {pos2 : Pos} (pm : PMk X (.Call (.Name nm p) (e :: es) [] pos) (tMkO C (spS X.K S) [] (Wa X (e :: es)))) (h : AW X O ρ (e :: es) x (MkEx C S x ρ)) (hc : X.calm = true := by rfl) :
    S1 X O ρ (.Raise (some (.Call (.Name nm p) (e :: es) [] pos)) none pos2) x D := fun H0 σ H st tk E ok => by
  refine ws_of (ps_raise hc tk pm) ?_
  refine h H0 σ H st tk _ fun vs H1 ss O1 hm st1 pr => ?_
  obtain ⟨hl, hm⟩ := hm
  refine ⟨by rw [paired_len pr]; exact hl, fun a ha => ?_⟩
  have hO : O1 a = none := own_free st1.own ha
  have st2 := st1.alloc (o := L2.exo a C none) (c := .exo C none) ha rfl
  rw [List.append_nil]
  refine ⟨up O1 a (.exo C none), .own a :: ss, _, st2.own, .cons rfl (pmap (fun _ _ z => SlOk.mono (by
    intro b o hb
    obtain ⟨z1, z2⟩ := of_hid hb
    have nb := ne_of_none z2 ha
    rw [hid_none (by rw [up_ne nb]; exact z1), upd_ne nb]
    exact z2) z) pr), hm a hO, fun v H2 s O2 hR own2 sm2 r2 => ?_, fun cls d ee H2 O2 hR => ?_⟩
  · obtain ⟨s', e1, e2, d, fs, ca, cd, nd, hx⟩ := hR
    cases e1
    subst e2
    cases r2
    obtain ⟨oa, ha1, ha2⟩ := own2.cell a _ ca
    obtain ⟨od, hd1, fv, hd2, hd3⟩ := own2.cell d _ cd
    subst ha2 hd2
    have nda : d ≠ a := fun z => by rw [z, ca] at cd; cases cd
    have sm1 : Same (hid O1 H1) (hid (up O1 a (.exo C none)) (upd H1 a (L2.exo a C none))) := fun b o hb => by
      obtain ⟨z1, z2⟩ := of_hid hb
      have nb := ne_of_none z2 ha
      rw [hid_none (by rw [up_ne nb]; exact z1), upd_ne nb]
      exact z2
    have hd0 : H1 d = none := by
      cases hz : H1 d with
      | none => rfl
      | some o =>
        have z1 : hid O1 H1 d = some o := by rw [hid_none nd]; exact hz
        have z2 := sm2 d o (sm1 d o z1)
        rw [hid_some cd] at z2; cases z2
    have gS : Same (hid O2 H2) (hid (dn (dn O2 a) d) (upd (del H2 a) d (.xd fv))) := fun b o hb => by
      obtain ⟨z1, z2⟩ := of_hid hb
      have nba : b ≠ a := fun z => by rw [z, ca] at z1; cases z1
      have nbd : b ≠ d := fun z => by rw [z, cd] at z1; cases z1
      rw [hid_none (by rw [dn_ne nbd, dn_ne nba]; exact z1), upd_ne nbd, del_ne nba]
      exact z2
    have own3 : OwnOk X.K (dn (dn O2 a) d) (upd (del H2 a) d (.xd fv)) := ⟨fun q c hq => by
      have nqd : q ≠ d := fun z => by rw [z, dn_at] at hq; cases hq
      rw [dn_ne nqd] at hq
      have nqa : q ≠ a := fun z => by rw [z, dn_at] at hq; cases hq
      rw [dn_ne nqa] at hq
      obtain ⟨o, z1, z2⟩ := own2.cell q c hq
      exact ⟨o, by rw [upd_ne nqd, del_ne nqa]; exact z1, ClOk.mono gS z2⟩⟩
    refine ⟨rfl, d, fv, ha1, hd1, hd0, _, ρ, _, hx, st1.next own3 ((sm1.trans sm2).trans gS), rfl, d, fv, rfl, dn_at, upd_same, RpF.of_paired (pmap (fun _ _ z => ⟨z.1, SlOk.mono gS z.2⟩) hd3)⟩
  · obtain ⟨s', e1, _⟩ := hR
    cases e1
end
end Kn
namespace Kn
open PySem PySem.Spec PyProof.Rows
open L2 hiding St
section
open PySem.W PySem.Calls
variable {prog : Program} {w : World} {A : Around} {E : Value → Shared → Prop} {s : Shared} {K : Frag} {x D : Addr} {ox : Obj} {od : Option Obj}
theorem class_of_exc {Q : Option Value → Shared → Prop} (T : ExcC K D) (X : K.In s.heap) (I : InstAt s.heap x ox D od) (h : Q (some (.ref D)) { s with toks := s.toks + 1 }) : wpAny (model prog w) A (getAttr? (.ref x) "__class__") Q E s :=
  kx_classE X I T.hg T.hk T.hs (findObj_dataE (let ⟨_, e, _⟩ := any_some T.hd; e ▸ rfl) T.ha T.hn T.ht) T.hm h
/-- an exception's class lies in K, as a class -/
theorem exc_cls (T : ExcC K D) : ∃ o, K.lookup D = some o ∧ (∃ cd, o.data = .cls cd) := by
  obtain ⟨cd, e, _⟩ := any_some T.hd
  unfold clsIn at e
  split at e
  · rename_i k
    exact ⟨_, k, _, rfl⟩
  · cases e
theorem kit_exc (T : ExcC K D) : KitX K (.ref x) (.ref D) (fun h => ∃ od, InstAt h x ox D od) where
  ty := fun _ _ _ ⟨_, I⟩ => I.type
  it := fun _ _ X _ A Q E s keep q => by
    obtain ⟨o, k, _, isCls⟩ := exc_cls T
    unfold isType loadHead
    refine wpAny_bind (wpAny_loadPart (keep _ _ (X _ _ k)) ?_)
    rw [isCls]
    exact wpAny_pure q
  ne := fun h tp dd its n sl X tup => by
    obtain ⟨o, k, _, isCls⟩ := exc_cls T
    rw [beq_eq_false_iff_ne]
    intro same
    rw [← Value.ref.inj same, X _ _ k] at tup
    rw [Option.some.inj tup] at isCls
    cases isCls
  ca := fun X ⟨_, I⟩ kk => class_of_exc T X I kk
end
section
variable {X : Cx} {O : Own} {ρ : List Slot} {x : ExK} {k k' : Slot → Own → Prop} {kl kl' : List Slot → Own → Prop} {e a b c o : Expr} {es : List Expr} {pos p p1 p2 p' : Pos} {D : SD} {g g' : Bool} {j n : Nat} {S : SpecT} {df : List Dat}
/-- Base.__init__(self, ..): Base a class of one's own (over ValueError) that has no __init__ -/
structure BaseIni (K : PySem.W.Frag) (mg : Str → Option Value) (nm : Str) : Prop where
  ex : ∃ (C : Addr) (mc : Value), mg nm = some (.ref C) ∧ ClX.CRead K C mc ∧ PySem.W.findCls K (.ref C) mc "__init__" = some (.val (.builtin "ValueError.__init__"))
theorem pe_kinit {nm : Str} {ta : TA} {pl : Sem Bool} (T : BaseIni X.K X.mg nm) (hg : Gl X nm) (ha : PA X (e :: es) ta)
    (hc : eval (.Call (.Attribute (.Name nm p1) "__init__" p2) (e :: es) [] pos) X.env = (do
      let ov ← eval (.Name nm p1) X.env
      standAt p2.atName
      let (f, first) ← holding [ov] (getMethod ov "__init__" pl)
      callWith pos f first (backTo pos (starEach (e :: es) X.env)) (backToKw pos (keywordEach [] X.env))) := by rfl)
    (he : starEach (e :: es) X.env = (false, eval e X.env) :: starEach es X.env := by rfl) (hpl : (backTo pos (starEach es X.env)).any (·.1) = false := by rfl) (hdb : (nm == ("__debug__" : Str)) = false := by decide) :
    PE X (.Call (.Attribute (.Name nm p1) "__init__" p2) (e :: es) [] pos) (tVeI X.K ta) := by
  obtain ⟨C0, mc, hm, hr, hf⟩ := T.ex
  constructor
  intro pins s σ H Q I want
  refine PySem.W.methodCall_KW (ld_glob I hg hm ?_ hdb) hc
  refine PySem.W.method_cls I.kIn hr.ga (PySem.W.cls_value I.kIn hr.rd hf (by decide +kernel) ?_)
  show wpAny _ _ (callWith pos _ _ _ _) _ _ _
  refine PyProof.Rows.callWith_method1 (thn (ha.run pos pins _ σ H _ (I.tok _) want) ?_) he hpl
  rintro us t ⟨vs, H1, I1, r1, a, C, ws, rfl, size, T, at_, q⟩
  cases r1 with
  | @cons _ u _ us' same rest =>
    cases (show u = Value.ref a from same)
    exact oinit_ok T I1 at_ (by rw [← Paired.length rest, sizeLine_eq]; omega) fun t J => ⟨.non, H1, J, rfl, q⟩
theorem ew_kinit {nm : Str} {pl : Sem Bool} (T : BaseIni X.K X.mg nm) (h : AW X O ρ (e :: es) x fun ss O1 => ∃ (a C : Addr) (ws : List Slot), ss = .own a :: ws ∧ ws.length ≤ 1000 ∧ OexC X.K C ∧ O1 a = some (.exo C none) ∧ k (.dat .non) O1) (hg : Gl X nm := by rfl)
    (hc : eval (.Call (.Attribute (.Name nm p1) "__init__" p2) (e :: es) [] pos) X.env = (do
      let ov ← eval (.Name nm p1) X.env
      standAt p2.atName
      let (f, first) ← holding [ov] (getMethod ov "__init__" pl)
      callWith pos f first (backTo pos (starEach (e :: es) X.env)) (backToKw pos (keywordEach [] X.env))) := by rfl)
    (he : starEach (e :: es) X.env = (false, eval e X.env) :: starEach es X.env := by rfl) (hpl : (backTo pos (starEach es X.env)).any (·.1) = false := by rfl) (hdb : (nm == ("__debug__" : Str)) = false := by decide) :
    EW X O ρ (.Call (.Attribute (.Name nm p1) "__init__" p2) (e :: es) [] pos) x k := fun H0 σ H st tk Q q =>
  we_of (pe_kinit (pl := pl) T hg pa_w hc he hpl hdb) (h H0 σ H st tk _ fun vs H1 ss O1 ⟨a, C, ws, e1, h1, h2, h3, h4⟩ st1 pr => by
    subst e1
    cases pr with
    | cons r1 r2 =>
      rename_i v vs'
      obtain rfl : v = .ref a := r1
      obtain ⟨oa, z1, z2⟩ := st1.own.cell a _ h3
      subst z2
      exact ⟨a, C, vs', rfl, by rw [paired_len r2]; exact h1, h2, z1, q _ H1 _ O1 h4 st1 .non⟩)
/-- self.f = e, self an exception that is being made -/
theorem s1_ost {f : Str} (h : EW X O ρ e x fun s1 O1 => EW X O1 ρ o x fun s2 O2 => ∃ a C, s2 = .own a ∧ OexC X.K C ∧ PySem.W.findIn X.K (.ref C) f = some none ∧
      ((O2 a = some (.exo C none) ∧ ∀ dx, O2 dx = none → D.nx ρ (up (up O2 dx (.exd [(f, s1)])) a (.exo C (some dx)))) ∨
        ∃ dx fs, O2 a = some (.exo C (some dx)) ∧ O2 dx = some (.exd fs) ∧ fs.length ≤ 900 ∧ D.nx ρ (up O2 dx (.exd ((f, s1) :: fs)))))
    (hs : swapsWith e (some (.Attribute o f p')) pos.line X.env = pure false := by rfl) : S1 X O ρ (.Assign [.Attribute o f p'] e pos) x D := fun H0 σ H st tk E ok => by
  refine ws_of (ps_ost pe_w pe_w hs) (two h st tk (Q := fun y v2 H2 => ∃ a C : Addr, v2 = .ref a ∧ OexC X.K C ∧ PySem.W.findIn X.K (.ref C) f = some none ∧ ((H2 a = some (exo a C none) ∧ ∀ dx, H2 dx = none → dx ≠ a → E.nx σ (upd (upd H2 dx (exd dx [(f, y)])) a (exo a C (some dx)))) ∨
    ∃ (dx : Addr) (fs : List (Str × V)), H2 a = some (exo a C (some dx)) ∧ H2 dx = some (exd dx fs) ∧ fs.length ≤ 900 ∧ E.nx σ (upd H2 dx (exd dx ((f, y) :: fs))))) fun y v2 s1 s2 O2 H2 hp st2 r1 r2 => ?_)
  obtain ⟨a, C, e1, h1, h2, h3⟩ := hp
  subst e1
  obtain rfl : v2 = .ref a := r2
  refine ⟨a, C, rfl, h1, h2, ?_⟩
  rcases h3 with ⟨ca, hn⟩ | ⟨dx, fs, ca, cd, hl, hn⟩
  · obtain ⟨oa, z1, z2⟩ := st2.own.cell a _ ca
    subst z2
    refine .inl ⟨z1, fun dx hd nda => ?_⟩
    have hO := own_free st2.own hd
    have st3 := st2.alloc (o := exd dx [(f, y)]) (c := .exd [(f, s1)]) hd ⟨_, rfl, .cons ⟨rfl, r1⟩ .nil⟩
    have st4 := st3.write (p := a) (o := exo a C (some dx)) (c := .exo C (some dx)) (by rw [up_ne nda.symm]; exact ca) rfl
    exact ok.nx σ ρ _ _ (hn dx hO) st4
  · obtain ⟨oa, z1, z2⟩ := st2.own.cell a _ ca
    subst z2
    obtain ⟨od, z3, fv, z4, z5⟩ := st2.own.cell dx _ cd
    subst z4
    refine .inr ⟨dx, fv, z1, z3, by rw [paired_len z5]; exact hl, ?_⟩
    exact ok.nx σ ρ _ _ hn (st2.write (o := exd dx ((f, y) :: fv)) (c := .exd ((f, s1) :: fs)) cd ⟨_, rfl, .cons ⟨rfl, r1⟩ z5⟩)
def ExMt (K : PySem.W.Frag) (e : Exn) (c : Value) (b : Bool) : Prop := match e with
  | .own C _ => PySem.W.exmOne K (.ref C) c = some b
  | .ty n => PySem.W.exmOne K (.type n) c = some b
theorem exMt_of {K : PySem.W.Frag} {O : Own} {H : Hp} {cls : Value} {d : Option Addr} {e : Exn} {c : Value} {b : Bool} (h : ExMt K e c b) (q : ExOk K O H cls d e) : PySem.W.exmOne K cls c = some b := by
  cases e with
  | own C fs => rw [q.1]; exact h
  | ty n =>
    have q : cls = .type n := q
    rw [q]; exact h
/-- the suite of a clause, for each way in which the exception may lie; i: the place of its name -/
def Suite (X : Cx) (i : Option Nat) (suite : List Stmt) (D : SD) (e : Exn) (ρ : List Slot) (O : Own) : Prop := match e with
  | .own C fs => ∀ (a dd : Addr) (oe : Obj) (pn : List (Addr × Obj)), Zc (.ref C) (some dd) oe → (∃ vs, oe.data = .fields vs) → O a = none →
      SW (X.suite a ((a, oe) :: pn)) O (match i with | some j => ρ.set j (.dat (.exc a dd fs)) | none => ρ) suite noX D
  | .ty n => ∀ (a : Addr) (d : Option Addr) (oe : Obj) (pn : List (Addr × Obj)), Zc (.type n) d oe → (∃ vs, oe.data = .fields vs) → O a = none →
      SW (X.suite a ((a, oe) :: pn)) O (match i with | some j => ρ.set j (.own a) | none => ρ) suite noX D
theorem StOk.unset {K : PySem.W.Frag} {H0 H : Hp} {σ : SV} (h : StOk K H0 O σ ρ H) (i : Nat) : StOk K H0 O (σ.set i none) (ρ.set i .unk) H := ⟨h.own, h.base, paired_set (x := none) env_none i h.env⟩
theorem suite_of {i : Option Nat} {suite : List Stmt} {ex : Exn} {H0 H : Hp} {σ : SV} {cls : Value} {d : Option Addr} {E : Ends} {a : Addr} {oe : Obj} {pn : List (Addr × Obj)} (h : Suite X i suite D ex ρ O) (st : StOk X.K H0 O σ ρ H) (hx : ExOk X.K O H cls d ex) (ha : H a = none)
    (hz : Zc cls d oe) (hf : ∃ vs, oe.data = .fields vs) (ok : EndsOk X.K H0 D E) : Wss (X.suite a ((a, oe) :: pn)) suite E (match i with | some j => σ.set j (some (.ref a)) | none => σ) H := by
  have hO := own_free st.own ha
  cases ex with
  | own C fs =>
    obtain ⟨e1, dd, fv, e2, n1, h1, h2⟩ := hx
    subst e1 e2
    have rr : SlOk X.K (hid O H) (.ref a) (.dat (.exc a dd fs)) := Rp.exc (by rw [hid_none n1]; exact h1) h2
    cases i with
    | none => exact h a dd oe pn hz hf hO H0 σ H st takes_no E ok
    | some j => exact h a dd oe pn hz hf hO H0 _ H (st.set (i := j) rr) takes_no E ok
  | ty nn =>
    have e1 : cls = .type nn := hx
    subst e1
    cases i with
    | none => exact h a d oe pn hz hf hO H0 σ H st takes_no E ok
    | some j => exact h a d oe pn hz hf hO H0 _ H (st.set (i := j) (v := .ref a) (s := .own a) rfl) takes_no E ok
theorem ew_exf {f : Str} {aa dd C : Addr} {oe : Obj} {pn : List (Addr × Obj)} (T : XfC X.K C) (hno : PySem.W.findIn X.K (.ref C) f = some none) (hz : Zc (.ref C) (some dd) oe) (hf : ∃ vs, oe.data = .fields vs)
    (h : EW (X.suite aa ((aa, oe) :: pn)) O ρ e x fun s O1 => ∃ fs d, s = .dat (.exc aa dd fs) ∧ fs.lookup f = some d ∧ k (.dat d) O1) (hb : attributeBase e f X.env (eval e X.env) = eval e X.env := by rfl) :
    EW (X.suite aa ((aa, oe) :: pn)) O ρ (.Attribute e f pos) x k := fun H0 σ H st tk Q q =>
  we_of (pe_xf T hno hz hf pe_w hb) (h H0 σ H st tk _ fun v H1 s O1 ⟨fs, d, e1, h1, h2⟩ st1 r1 => by
    subst e1
    cases r1 with
    | exc h3 h4 =>
      obtain ⟨v, h5, h6⟩ := h4.lookup h1
      exact ⟨rfl, rfl, dd, _, v, rfl, hid_le _ _ h3, h5, q v H1 _ O1 h2 st1 h6⟩)
end
end Kn
namespace Kn
open PySem PySem.Spec PyProof.Rows
open L2 hiding St
def kyP : Key → PyData
  | .inl i => .int i
  | .inr z => .str z
mutual
def toPy : Dat → PyData
  | .non => .none
  | .bl b => .bool b
  | .int i => .int i
  | .str x => .str x
  | .lst xs => .list (toPys xs)
  | .fro xs => .list (toPys xs)
  | .tup xs => .tuple (toPys xs)
  | .key ks => .tuple (ks.map kyP)
  | _ => .none
def toPys : List Dat → List PyData
  | [] => []
  | d :: ds => toPy d :: toPys ds
end
mutual
def plain : Dat → Bool
  | .non => true
  | .bl _ => true
  | .int _ => true
  | .str _ => true
  | .lst xs => plains xs
  | .fro xs => plains xs
  | .tup xs => plains xs
  | .key _ => true
  | _ => false
def plains : List Dat → Bool
  | [] => true
  | d :: ds => plain d && plains ds
end
section
variable {K : PySem.W.Frag} {G H : Hp} {O : Own}
theorem dp_keys : ∀ ks : List Key, DpAll K G (ks.map kV) (ks.map kyP)
  | [] => .nil
  | .inl i :: ks => .cons (.int i) (dp_keys ks)
  | .inr z :: ks => .cons (.str z) (dp_keys ks)
mutual
theorem Rp.dp {v : V} : ∀ {d : Dat}, plain d = true → Rp K G v d → Dp K G v (toPy d)
  | .non, _, h => by cases h; exact .non
  | .bl b, _, h => by cases h; exact .bl b
  | .int i, _, h => by cases h; exact .int i
  | .str x, _, h => by cases h; exact .str x
  | .lst ds, p, h => by
    cases h with
    | lst h1 h2 => exact .lst (sql_at h1) (RpA.dp p h2)
  | .fro ds, p, h => by
    cases h with
    | fro h1 h2 => exact .lst h1 (RpA.dp p h2)
  | .tup ds, p, h => by
    cases h with
    | tup h1 h2 => exact .tup h1 (RpA.dp p h2)
  | .key ks, _, h => by
    cases h with
    | key h1 => exact .tup (.inl (.inl h1)) (dp_keys ks)
theorem RpA.dp : ∀ {vs : List V} {ds : List Dat}, plains ds = true → RpA K G vs ds → DpAll K G vs (toPys ds)
  | _, [], _, h => by cases h; exact .nil
  | _, d :: ds, p, h => by
    cases h with
    | cons h1 h2 =>
      obtain ⟨p1, p2⟩ := Bool.and_eq_true_iff.mp p
      exact .cons (Rp.dp p1 h1) (RpA.dp p2 h2)
end
theorem Rp.tk {v : V} {d : Dat} (h : Rp K (hid O H) v d) : Rp K H v d := Rp.mono hid_le h
end
section
variable {X : Cx} {O : Own} {ρ : List Slot} {x : ExK} {k k' : Slot → Own → Prop} {kl kl' : List Slot → Own → Prop} {e a b c o : Expr} {es : List Expr} {pos p apos : Pos} {D : SD}
theorem ob_add {i j : Int} (h : k (.dat (.int (i + j))) O) : OpB X (binaryOp .Add) (.dat (.int i)) (.dat (.int j)) O k := ⟨_, op_add, fun H0 σ ρ H v1 v2 st r1 r2 Q q => by
  cases r1; cases r2; exact ⟨i, j, rfl, rfl, q _ H _ O h st (.int _)⟩⟩
theorem ob_sub {i j : Int} (h : k (.dat (.int (i - j))) O) : OpB X (binaryOp .Sub) (.dat (.int i)) (.dat (.int j)) O k := ⟨_, op_sub, fun H0 σ ρ H v1 v2 st r1 r2 Q q => by
  cases r1; cases r2; exact ⟨i, j, rfl, rfl, q _ H _ O h st (.int _)⟩⟩
theorem ob_mul {i j : Int} (hb : (-(2 ^ 64) < i ∧ i < 2 ^ 64) ∨ (-(2 ^ 64) < j ∧ j < 2 ^ 64)) (h : k (.dat (.int (i * j))) O) : OpB X (binaryOp .Mult) (.dat (.int i)) (.dat (.int j)) O k := ⟨_, op_mul, fun H0 σ ρ H v1 v2 st r1 r2 Q q => by
  cases r1; cases r2; exact ⟨i, j, rfl, rfl, hb, q _ H _ O h st (.int _)⟩⟩
theorem ob_mod {i j : Int} (hb : 0 < j) (h : k (.dat (.int (i % j))) O) : OpB X (binaryOp .Mod) (.dat (.int i)) (.dat (.int j)) O k := ⟨_, op_mod, fun H0 σ ρ H v1 v2 st r1 r2 Q q => by
  cases r1; cases r2; exact ⟨i, j, rfl, rfl, hb, q _ H _ O h st (.int _)⟩⟩
theorem ob_fdiv {i j : Int} (hb : 0 < j ∧ j < 1073741824) (h : k (.dat (.int (i / j))) O) : OpB X (binaryOp .FloorDiv) (.dat (.int i)) (.dat (.int j)) O k := ⟨_, op_fdiv, fun H0 σ ρ H v1 v2 st r1 r2 Q q => by
  cases r1; cases r2; exact ⟨i, j, rfl, rfl, hb, q _ H _ O h st (.int _)⟩⟩
theorem ob_pow {i j : Int} (hb : 0 ≤ j ∧ j ≤ 1000000 ∧ i.natAbs < 2 ^ 64) (h : k (.dat (.int (i ^ j.toNat))) O) : OpB X (binaryOp .Pow) (.dat (.int i)) (.dat (.int j)) O k := ⟨_, op_pow, fun H0 σ ρ H v1 v2 st r1 r2 Q q => by
  cases r1; cases r2; exact ⟨i, j, rfl, rfl, hb, q _ H _ O h st (.int _)⟩⟩
theorem ob_lt {i j : Int} (h : k (.dat (.bl (decide (i < j)))) O) : OpB X (compareOp .Lt) (.dat (.int i)) (.dat (.int j)) O k := ⟨_, op_lt, fun H0 σ ρ H v1 v2 st r1 r2 Q q => by
  cases r1; cases r2; exact ⟨i, j, rfl, rfl, q _ H _ O h st (.bl _)⟩⟩
theorem ob_le {i j : Int} (h : k (.dat (.bl (decide (i ≤ j)))) O) : OpB X (compareOp .LtE) (.dat (.int i)) (.dat (.int j)) O k := ⟨_, op_le, fun H0 σ ρ H v1 v2 st r1 r2 Q q => by
  cases r1; cases r2; exact ⟨i, j, rfl, rfl, q _ H _ O h st (.bl _)⟩⟩
theorem ob_gt {i j : Int} (h : k (.dat (.bl (decide (j < i)))) O) : OpB X (compareOp .Gt) (.dat (.int i)) (.dat (.int j)) O k := ⟨_, op_gt, fun H0 σ ρ H v1 v2 st r1 r2 Q q => by
  cases r1; cases r2; exact ⟨i, j, rfl, rfl, q _ H _ O h st (.bl _)⟩⟩
theorem ob_ge {i j : Int} (h : k (.dat (.bl (decide (j ≤ i)))) O) : OpB X (compareOp .GtE) (.dat (.int i)) (.dat (.int j)) O k := ⟨_, op_ge, fun H0 σ ρ H v1 v2 st r1 r2 Q q => by
  cases r1; cases r2; exact ⟨i, j, rfl, rfl, q _ H _ O h st (.bl _)⟩⟩
theorem ou_neg {i : Int} (h : k (.dat (.int (-i))) O) : OpU X (unaryOp .USub) (.dat (.int i)) O k := ⟨_, un_neg, fun H0 σ ρ H v1 st r1 Q q => by
  cases r1; exact ⟨i, rfl, q _ H _ O h st (.int _)⟩⟩
def eqD (a b : Dat) : Bool := PyData.eqv (toPy a) (toPy b)
theorem ob_eq {d1 d2 : Dat} (hr : Room 0 X.A) (p1 : plain d1 = true) (p2 : plain d2 = true) (s1 : SeqAt.shaped (toPy d1) = true) (s2 : SeqAt.shaped (toPy d2) = true) (h : k (.dat (.bl (eqD d1 d2))) O) : OpB X (compareOp .Eq) (.dat d1) (.dat d2) O k :=
  ⟨_, op_eqD hr.units, fun H0 σ ρ H v1 v2 st r1 r2 Q q => ⟨_, _, Rp.dp p1 (Rp.tk r1), Rp.dp p2 (Rp.tk r2), s1, s2, q _ H _ O h st (.bl _)⟩⟩
theorem ob_ne {d1 d2 : Dat} (hr : Room 0 X.A) (p1 : plain d1 = true) (p2 : plain d2 = true) (s1 : SeqAt.shaped (toPy d1) = true) (s2 : SeqAt.shaped (toPy d2) = true) (h : k (.dat (.bl (!eqD d1 d2))) O) : OpB X (compareOp .NotEq) (.dat d1) (.dat d2) O k :=
  ⟨_, op_neD hr.units, fun H0 σ ρ H v1 v2 st r1 r2 Q q => ⟨_, _, Rp.dp p1 (Rp.tk r1), Rp.dp p2 (Rp.tk r2), s1, s2, q _ H _ O h st (.bl _)⟩⟩
theorem ob_eqI {i j : Int} (h : k (.dat (.bl (decide (i = j)))) O) : OpB X (compareOp .Eq) (.dat (.int i)) (.dat (.int j)) O k := ⟨_, op_eq, fun H0 σ ρ H v1 v2 st r1 r2 Q q => by
  cases r1; cases r2
  refine ⟨rfl, q _ H _ O h st ?_⟩
  rw [show decide (V.int i = V.int j) = decide (i = j) by by_cases e : i = j <;> simp [e]]
  exact .bl _⟩
theorem ob_neI {i j : Int} (h : k (.dat (.bl (!decide (i = j)))) O) : OpB X (compareOp .NotEq) (.dat (.int i)) (.dat (.int j)) O k := ⟨_, op_ne, fun H0 σ ρ H v1 v2 st r1 r2 Q q => by
  cases r1; cases r2
  refine ⟨rfl, q _ H _ O h st ?_⟩
  rw [show decide (V.int i = V.int j) = decide (i = j) by by_cases e : i = j <;> simp [e]]
  exact .bl _⟩
theorem ob_eqS {y z : Str} (h : k (.dat (.bl (decide (y = z)))) O) : OpB X (compareOp .Eq) (.dat (.str y)) (.dat (.str z)) O k := ⟨_, op_eq, fun H0 σ ρ H v1 v2 st r1 r2 Q q => by
  cases r1; cases r2
  refine ⟨rfl, q _ H _ O h st ?_⟩
  rw [show decide (V.str y = V.str z) = decide (y = z) by by_cases e : y = z <;> simp [e]]
  exact .bl _⟩
theorem ob_neS {y z : Str} (h : k (.dat (.bl (!decide (y = z)))) O) : OpB X (compareOp .NotEq) (.dat (.str y)) (.dat (.str z)) O k := ⟨_, op_ne, fun H0 σ ρ H v1 v2 st r1 r2 Q q => by
  cases r1; cases r2
  refine ⟨rfl, q _ H _ O h st ?_⟩
  rw [show decide (V.str y = V.str z) = decide (y = z) by by_cases e : y = z <;> simp [e]]
  exact .bl _⟩
theorem ob_eqB {y z : Bool} (h : k (.dat (.bl (decide (y = z)))) O) : OpB X (compareOp .Eq) (.dat (.bl y)) (.dat (.bl z)) O k := ⟨_, op_eq, fun H0 σ ρ H v1 v2 st r1 r2 Q q => by
  cases r1; cases r2
  refine ⟨rfl, q _ H _ O h st ?_⟩
  rw [show decide (V.bl y = V.bl z) = decide (y = z) by cases y <;> cases z <;> rfl]
  exact .bl _⟩
def isNon : Dat → Bool
  | .non => true
  | _ => false
theorem ob_isN {d : Dat} (h : k (.dat (.bl (isNon d))) O) : OpB X (compareOp .Is) (.dat d) (.dat .non) O k := ⟨_, op_isN, fun H0 σ ρ H v1 v2 st r1 r2 Q q => by
  cases r2
  refine ⟨rfl, q _ H _ O h st ?_⟩
  have e : decide (v1 = .non) = isNon d := by cases r1 <;> rfl
  rw [e]; exact .bl _⟩
theorem ob_isNotN {d : Dat} (h : k (.dat (.bl (!isNon d))) O) : OpB X (compareOp .IsNot) (.dat d) (.dat .non) O k := ⟨_, op_notN, fun H0 σ ρ H v1 v2 st r1 r2 Q q => by
  cases r2
  refine ⟨rfl, q _ H _ O h st ?_⟩
  have e : decide (v1 = .non) = isNon d := by cases r1 <;> rfl
  rw [e]; exact .bl _⟩
/-- a text among texts -/
theorem eqV_str (y z : Str) : eqV (.str y) (.str z) = (y == z) := rfl
theorem inV_strs {z : Str} : ∀ {ws : List Str}, inV (.str z) (ws.map V.str) = ws.any (· == z)
  | [] => rfl
  | y :: ws => by
    show (eqV (.str y) (.str z) || inV (.str z) (ws.map V.str)) = _
    rw [inV_strs, eqV_str]; rfl
theorem rpa_strs {K : PySem.W.Frag} {G : Hp} : ∀ {vs : List V} {ws : List Str}, RpA K G vs (ws.map .str) → vs = ws.map V.str
  | _, [], h => by cases h; rfl
  | _, w :: ws, h => by
    cases h with
    | cons h1 h2 =>
      cases h1
      rw [rpa_strs h2]; rfl
theorem all_flat (ws : List Str) : (ws.map V.str).all flatV = true := by
  induction ws with
  | nil => rfl
  | cons w ws ih =>
    rw [List.map_cons, List.all_cons, ih]; rfl
theorem ob_inT {z : Str} {ws : List Str} (h : k (.dat (.bl (ws.any (· == z)))) O) : OpB X (compareOp .In) (.dat (.str z)) (.dat (.tup (ws.map .str))) O k := ⟨_, op_in_seq, fun H0 σ ρ H v1 v2 st r1 r2 Q q => by
  cases r1
  cases r2 with
  | tup h1 h2 =>
    have e := rpa_strs h2
    subst e
    refine ⟨_, _, rfl, .inr (sqt_mono hid_le h1), rfl, all_flat ws, q _ H _ O h st ?_⟩
    rw [inV_strs]; exact .bl _⟩
theorem ob_niT {z : Str} {ws : List Str} (h : k (.dat (.bl (!ws.any (· == z)))) O) : OpB X (compareOp .NotIn) (.dat (.str z)) (.dat (.tup (ws.map .str))) O k := ⟨_, op_notIn_seq, fun H0 σ ρ H v1 v2 st r1 r2 Q q => by
  cases r1
  cases r2 with
  | tup h1 h2 =>
    have e := rpa_strs h2
    subst e
    refine ⟨_, _, rfl, .inr (sqt_mono hid_le h1), rfl, all_flat ws, q _ H _ O h st ?_⟩
    rw [inV_strs]; exact .bl _⟩
theorem ob_inL {z : Str} {ws : List Str} (h : k (.dat (.bl (ws.any (· == z)))) O) : OpB X (compareOp .In) (.dat (.str z)) (.dat (.lst (ws.map .str))) O k := ⟨_, op_in_seq, fun H0 σ ρ H v1 v2 st r1 r2 Q q => by
  cases r1
  cases r2 with
  | lst h1 h2 =>
    have e := rpa_strs h2
    subst e
    refine ⟨_, _, rfl, .inl (sql_at (hid_le _ _ h1)), rfl, all_flat ws, q _ H _ O h st ?_⟩
    rw [inV_strs]; exact .bl _⟩
theorem ob_niL {z : Str} {ws : List Str} (h : k (.dat (.bl (!ws.any (· == z)))) O) : OpB X (compareOp .NotIn) (.dat (.str z)) (.dat (.lst (ws.map .str))) O k := ⟨_, op_notIn_seq, fun H0 σ ρ H v1 v2 st r1 r2 Q q => by
  cases r1
  cases r2 with
  | lst h1 h2 =>
    have e := rpa_strs h2
    subst e
    refine ⟨_, _, rfl, .inl (sql_at (hid_le _ _ h1)), rfl, all_flat ws, q _ H _ O h st ?_⟩
    rw [inV_strs]; exact .bl _⟩
/-- one sign in a text -/
theorem ob_inS {c : Nat} {z : Str} (h : k (.dat (.bl (decide (c ∈ z.cps.toList)))) O) : OpB X (compareOp .In) (.dat (.str ⟨#[c]⟩)) (.dat (.str z)) O k := ⟨_, op_in_sign, fun H0 σ ρ H v1 v2 st r1 r2 Q q => by
  cases r1; cases r2; exact ⟨c, z, rfl, rfl, q _ H _ O h st (.bl _)⟩⟩
theorem ob_niS {c : Nat} {z : Str} (h : k (.dat (.bl (!decide (c ∈ z.cps.toList)))) O) : OpB X (compareOp .NotIn) (.dat (.str ⟨#[c]⟩)) (.dat (.str z)) O k := ⟨_, op_notIn_sign, fun H0 σ ρ H v1 v2 st r1 r2 Q q => by
  cases r1; cases r2; exact ⟨c, z, rfl, rfl, q _ H _ O h st (.bl _)⟩⟩
theorem ob_cat {y z : Str} (hl : y.length + z.length ≤ sizeLine) (h : k (.dat (.str (y ++ z))) O) : OpB X (binaryOp .Add) (.dat (.str y)) (.dat (.str z)) O k := ⟨_, op_add_str, fun H0 σ ρ H v1 v2 st r1 r2 Q q => by
  cases r1; cases r2; exact ⟨y, z, rfl, rfl, hl, q _ H _ O h st (.str _)⟩⟩
theorem ob_catL {ds es : List Dat} (hl : ds.length + es.length ≤ sizeLine) (h : k (.dat (.lst (ds ++ es))) O) : OpB X (binaryOp .Add) (.dat (.lst ds)) (.dat (.lst es)) O k := ⟨_, op_cat, fun H0 σ ρ H v1 v2 st r1 r2 Q q => by
  cases r1 with
  | lst h1 h2 =>
    cases r2 with
    | lst h3 h4 =>
      refine ⟨_, _, _, _, rfl, rfl, hid_le _ _ h1, hid_le _ _ h3, by rw [h2.length, h4.length]; exact hl, fun p hp => q _ _ _ O h (st.grow (same_new hp)) ?_⟩
      exact .lst (by rw [hid_none (own_free st.own hp), upd_same]) (RpA.mono (hid_same (same_new hp)) (h2.append h4))⟩
theorem ob_catT {ds es : List Dat} (hl : ds.length + es.length ≤ sizeLine) (h : k (.dat (.tup (ds ++ es))) O) : OpB X (binaryOp .Add) (.dat (.tup ds)) (.dat (.tup es)) O k := ⟨_, op_catA, fun H0 σ ρ H v1 v2 st r1 r2 Q q => by
  cases r1 with
  | tup h1 h2 =>
    cases r2 with
    | tup h3 h4 =>
      refine ⟨_, _, _, _, rfl, rfl, sqt_mono hid_le h1, sqt_mono hid_le h3, by rw [h2.length, h4.length]; exact hl, fun e1 => ?_, fun e1 e2 => ?_, fun e1 e2 p hp => ?_⟩
      · subst e1
        cases h2
        exact q _ H _ O h st (.tup h3 h4)
      · subst e2
        cases h4
        rw [List.append_nil] at h
        exact q _ H _ O h st (.tup h1 h2)
      · refine q _ _ _ O h (st.grow (same_new hp)) ?_
        exact .tup (.inl (.inl (by rw [hid_none (own_free st.own hp), upd_same]))) (RpA.mono (hid_same (same_new hp)) (h2.append h4))⟩
theorem replicate_rp {K : PySem.W.Frag} {G : Hp} {vs : List V} {ds : List Dat} (h : RpA K G vs ds) : ∀ n, RpA K G (List.replicate n vs).flatten (List.replicate n ds).flatten
  | 0 => .nil
  | n + 1 => by
    rw [List.replicate_succ, List.replicate_succ, List.flatten_cons, List.flatten_cons]
    exact h.append (replicate_rp h n)
theorem ob_rep {ds : List Dat} {n : Int} (hn : -(2 ^ 63) ≤ n ∧ n < 2 ^ 63) (hl : ds.length * n.toNat ≤ sizeLine) (h : k (.dat (.lst (List.replicate n.toNat ds).flatten)) O) : OpB X (binaryOp .Mult) (.dat (.lst ds)) (.dat (.int n)) O k := ⟨_, op_rep, fun H0 σ ρ H v1 v2 st r1 r2 Q q => by
  cases r2
  cases r1 with
  | lst h1 h2 =>
    refine ⟨_, n, _, rfl, rfl, hid_le _ _ h1, hn.1, hn.2, by rw [h2.length]; exact hl, fun p hp => q _ _ _ O h (st.grow (same_new hp)) ?_⟩
    exact .lst (by rw [hid_none (own_free st.own hp), upd_same]) (RpA.mono (hid_same (same_new hp)) (replicate_rp h2 _))⟩
/-- a text n times -/
def timesS (z : Str) (n : Int) : Str := if n < 1 then Str.empty else if (n == 1 || z.length == 0) = true then z else ⟨(List.replicate n.toNat z.cps).foldl (· ++ ·) #[]⟩
theorem op_timesS : OpR X (binaryOp .Mult) (fun v1 v2 H Q => ∃ z n, v1 = .str z ∧ v2 = .int n ∧ n < 1000 ∧ -1000 < n ∧ z.length ≤ 1000 ∧ Q (.str (timesS z n)) H) := by
  intro pins s σ H y z v u Q I rx ry h
  obtain ⟨zz, n, rfl, rfl, h1, h2, h3, q⟩ := h
  obtain ⟨t, rfl⟩ := rx
  obtain ⟨t', rfl⟩ := ry
  have hlen : zz.length * n.toNat ≤ 1000 * 1000 := Nat.mul_le_mul h3 (by omega)
  have hT : Builtin.Str.tooLong (zz.length * n.toNat) = false := by
    unfold Builtin.Str.tooLong
    rw [sizeLine_eq]
    exact decide_eq_false (by omega)
  refine PySem.P.mul_str (by rw [decide_eq_false (by omega), decide_eq_false (by omega)]; rfl) (fun g1 g2 => ?_) (fun g1 g2 => ?_) ?_
  · have e1 : (2 ^ 63 - 1 : Int) / n ≥ (2 ^ 63 - 1) / 1000 := by
      have hn : 0 < n := by omega
      have := Int.ediv_nonneg (show (0 : Int) ≤ 2 ^ 63 - 1 by decide) (show (0 : Int) ≤ n by omega)
      refine (Int.le_ediv_iff_mul_le hn).mpr ?_
      have h5 : ((2 ^ 63 - 1 : Int) / 1000) * n ≤ ((2 ^ 63 - 1 : Int) / 1000) * 1000 := Int.mul_le_mul_of_nonneg_left (by omega) (by decide)
      have h6 : ((2 ^ 63 - 1 : Int) / 1000) * 1000 ≤ 2 ^ 63 - 1 := by decide
      omega
    have e2 : (1000 : Int) ≤ (2 ^ 63 - 1) / 1000 := by decide
    omega
  · exact hT
  · by_cases g1 : n < 1
    · rw [if_pos g1]
      have e : timesS zz n = Str.empty := if_pos g1
      rw [e] at q
      exact ⟨by decide, .str Str.empty, H, I.tok _, ⟨_, rfl⟩, q⟩
    · rw [if_neg g1]
      by_cases g2 : (n == 1 || zz.length == 0) = true
      · rw [if_pos g2]
        have e : timesS zz n = zz := by unfold timesS; rw [if_neg g1, if_pos g2]
        rw [e] at q
        exact ⟨.str zz, H, I, ⟨_, rfl⟩, q⟩
      · rw [if_neg g2]
        have e : timesS zz n = ⟨(List.replicate n.toNat zz.cps).foldl (· ++ ·) #[]⟩ := by unfold timesS; rw [if_neg g1, if_neg g2]
        rw [e] at q
        exact ⟨fits_reps hT, .str _, H, I.tok _, ⟨_, rfl⟩, q⟩
theorem ob_times {z : Str} {n : Int} (hn : n < 1000 ∧ -1000 < n) (hz : z.length ≤ 1000) (h : k (.dat (.str (timesS z n))) O) : OpB X (binaryOp .Mult) (.dat (.str z)) (.dat (.int n)) O k := ⟨_, op_timesS, fun H0 σ ρ H v1 v2 st r1 r2 Q q => by
  cases r1; cases r2; exact ⟨z, n, rfl, rfl, hn.1, hn.2, hz, q _ H _ O h st (.str _)⟩⟩
theorem atI_rp {K : PySem.W.Frag} {G : Hp} {vs : List V} {ds : List Dat} {i : Int} {d : Dat} (h : RpA K G vs ds) (e : atI ds i = some d) : ∃ v, atI vs i = some v ∧ Rp K G v d := by
  unfold atI at e ⊢
  rw [h.length]
  cases hj : ixN ds.length i with
  | none => rw [hj] at e; cases e
  | some j =>
    rw [hj] at e
    exact h.get e
theorem atI_pd {F : V → Slot → Prop} {vs : List V} {ss : List Slot} {i : Int} {s : Slot} (h : Paired F vs ss) (e : atI ss i = some s) : ∃ v, atI vs i = some v ∧ F v s := by
  unfold atI at e ⊢
  rw [paired_len h]
  cases hj : ixN ss.length i with
  | none => rw [hj] at e; cases e
  | some j =>
    rw [hj] at e
    exact paired_get h e
theorem ix_lst {ds : List Dat} {i : Int} {d : Dat} (e : atI ds i = some d) (h : k (.dat d) O) : IxB X (.dat (.lst ds)) (.dat (.int i)) O k := ⟨_, ix_list, fun H0 σ ρ H v1 v2 st r1 r2 Q q => by
  cases r2
  cases r1 with
  | lst h1 h2 =>
    obtain ⟨v, h3, h4⟩ := atI_rp h2 e
    exact ⟨_, _, i, v, rfl, rfl, sql_at (hid_le _ _ h1), h3, q _ H _ O h st h4⟩⟩
theorem ix_fro {ds : List Dat} {i : Int} {d : Dat} (e : atI ds i = some d) (h : k (.dat d) O) : IxB X (.dat (.fro ds)) (.dat (.int i)) O k := ⟨_, ix_list, fun H0 σ ρ H v1 v2 st r1 r2 Q q => by
  cases r2
  cases r1 with
  | fro h1 h2 =>
    obtain ⟨v, h3, h4⟩ := atI_rp h2 e
    exact ⟨_, _, i, v, rfl, rfl, sql_mono hid_le h1, h3, q _ H _ O h st h4⟩⟩
theorem ix_tpl {ds : List Dat} {i : Int} {d : Dat} (e : atI ds i = some d) (h : k (.dat d) O) : IxB X (.dat (.tup ds)) (.dat (.int i)) O k := ⟨_, ix_tup, fun H0 σ ρ H v1 v2 st r1 r2 Q q => by
  cases r2
  cases r1 with
  | tup h1 h2 =>
    obtain ⟨v, h3, h4⟩ := atI_rp h2 e
    exact ⟨_, _, i, v, rfl, rfl, sqt_mono hid_le h1, h3, q _ H _ O h st h4⟩⟩
theorem ix_own {p : Addr} {ss : List Slot} {i : Int} {s : Slot} (hp : O p = some (.lst ss)) (e : atI ss i = some s) (h : k s O) : IxB X (.own p) (.dat (.int i)) O k := ⟨_, ix_list, fun H0 σ ρ H v1 v2 st r1 r2 Q q => by
  cases r2
  obtain rfl : v1 = .ref p := r1
  obtain ⟨o, h1, vs, rfl, h2⟩ := st.own.cell p _ hp
  obtain ⟨v, h3, h4⟩ := atI_pd h2 e
  exact ⟨p, vs, i, v, rfl, rfl, sql_at h1, h3, q _ H _ O h st h4⟩⟩
def Wo (X : Cx) (e : Option Expr) : TO := fun σ H Q => Bx (∀ (pins : List (Addr × Obj)) (s : Shared), Inv X pins σ H s → wpAny (model X.prog X.w) X.A (evalPart e X.env) (fun u s' => ∃ o H', Inv X pins σ H' s' ∧ IsPart u o ∧ Q o H') X.xe s)
variable {ko : Option Int → Own → Prop}
theorem RpA.drop {K : PySem.W.Frag} {G : Hp} : ∀ {vs : List V} {ds : List Dat} (n : Nat), RpA K G vs ds → RpA K G (vs.drop n) (ds.drop n)
  | _, _, 0, h => h
  | _, _, n + 1, .nil => .nil
  | _, _, n + 1, .cons _ t => RpA.drop n t
theorem RpA.take {K : PySem.W.Frag} {G : Hp} : ∀ {vs : List V} {ds : List Dat} (n : Nat), RpA K G vs ds → RpA K G (vs.take n) (ds.take n)
  | _, _, 0, _ => .nil
  | _, _, n + 1, .nil => .nil
  | _, _, n + 1, .cons h t => .cons h (RpA.take n t)
theorem cb_abs {i : Int} (h : k (.dat (.int (if i < 0 then -i else i))) O) : CaB X (.builtin "abs") [.dat (.int i)] O k := ⟨_, call_abs, fun H0 σ ρ H vs st pr Q q => by
  cases pr with
  | cons r1 pr => cases pr; cases r1; exact ⟨i, rfl, q _ H _ O h st (.int _)⟩⟩
theorem cb_max {i j : Int} (hc : X.calm = true) (h : k (.dat (.int (if j > i then j else i))) O) : CaB X (.builtin "max") [.dat (.int i), .dat (.int j)] O k := ⟨_, call_max2 hc, fun H0 σ ρ H vs st pr Q q => by
  cases pr with
  | cons r1 pr =>
    cases pr with
    | cons r2 pr => cases pr; cases r1; cases r2; exact ⟨i, j, rfl, q _ H _ O h st (.int _)⟩⟩
theorem cb_min {i j : Int} (hc : X.calm = true) (h : k (.dat (.int (if j < i then j else i))) O) : CaB X (.builtin "min") [.dat (.int i), .dat (.int j)] O k := ⟨_, call_min2 hc, fun H0 σ ρ H vs st pr Q q => by
  cases pr with
  | cons r1 pr =>
    cases pr with
    | cons r2 pr => cases pr; cases r1; cases r2; exact ⟨i, j, rfl, q _ H _ O h st (.int _)⟩⟩
theorem cb_intB {t : Bool} (h : k (.dat (.int (if t then 1 else 0))) O) : CaB X (.type "int") [.dat (.bl t)] O k := ⟨_, call_int1, fun H0 σ ρ H vs st pr Q q => by
  cases pr with
  | cons r1 pr => cases pr; cases r1; exact .inr ⟨t, rfl, q _ H _ O h st (.int _)⟩⟩
theorem cb_strI {n : Int} (hl : n.natAbs.log2 < 1920) (h : k (.dat (.str (toString n))) O) : CaB X (.type "str") [.dat (.int n)] O k := ⟨_, call_str_int, fun H0 σ ρ H vs st pr Q q => by
  cases pr with
  | cons r1 pr => cases pr; cases r1; exact ⟨n, rfl, hl, q _ H _ O h st (.str _)⟩⟩
theorem cb_strS {z : Str} (h : k (.dat (.str z)) O) : CaB X (.type "str") [.dat (.str z)] O k := ⟨_, SkE.call_str_str, fun H0 σ ρ H vs st pr Q q => by
  cases pr with
  | cons r1 pr => cases pr; cases r1; exact ⟨z, rfl, q _ H _ O h st (.str _)⟩⟩
theorem cb_lenS {z : Str} (hl : z.length ≤ sizeLine) (h : k (.dat (.int (z.length : Int))) O) : CaB X (.builtin "len") [.dat (.str z)] O k := ⟨_, call_len_str, fun H0 σ ρ H vs st pr Q q => by
  cases pr with
  | cons r1 pr => cases pr; cases r1; exact ⟨z, rfl, hl, q _ H _ O h st (.int _)⟩⟩
theorem cb_lenL {ds : List Dat} (h : k (.dat (.int (ds.length : Int))) O) : CaB X (.builtin "len") [.dat (.lst ds)] O k := ⟨_, call_len_seq, fun H0 σ ρ H vs st pr Q q => by
  cases pr with
  | cons r1 pr =>
    cases pr
    cases r1 with
    | lst h1 h2 =>
      refine ⟨_, _, rfl, .inl (sql_at (hid_le _ _ h1)), q _ H _ O h st ?_⟩
      rw [h2.length]; exact .int _⟩
theorem cb_lenF {ds : List Dat} (h : k (.dat (.int (ds.length : Int))) O) : CaB X (.builtin "len") [.dat (.fro ds)] O k := ⟨_, call_len_seq, fun H0 σ ρ H vs st pr Q q => by
  cases pr with
  | cons r1 pr =>
    cases pr
    cases r1 with
    | fro h1 h2 =>
      refine ⟨_, _, rfl, .inl (sql_mono hid_le h1), q _ H _ O h st ?_⟩
      rw [h2.length]; exact .int _⟩
theorem cb_lenT {ds : List Dat} (h : k (.dat (.int (ds.length : Int))) O) : CaB X (.builtin "len") [.dat (.tup ds)] O k := ⟨_, call_len_seq, fun H0 σ ρ H vs st pr Q q => by
  cases pr with
  | cons r1 pr =>
    cases pr
    cases r1 with
    | tup h1 h2 =>
      refine ⟨_, _, rfl, .inr (sqt_mono hid_le h1), q _ H _ O h st ?_⟩
      rw [h2.length]; exact .int _⟩
theorem cb_lenO {p : Addr} {ss : List Slot} (hp : O p = some (.lst ss)) (h : k (.dat (.int (ss.length : Int))) O) : CaB X (.builtin "len") [.own p] O k := ⟨_, call_len_seq, fun H0 σ ρ H vs st pr Q q => by
  cases pr with
  | cons r1 pr =>
    cases pr
    rename_i v
    obtain rfl : v = .ref p := r1
    obtain ⟨o, h1, xs, rfl, h2⟩ := st.own.cell p _ hp
    refine ⟨_, _, rfl, .inl (sql_at h1), q _ H _ O h st ?_⟩
    rw [paired_len h2]; exact .int _⟩
/-- list(xs), a new cell -/
theorem cb_listL {ds : List Dat} (h : ∀ p, O p = none → k (.own p) (up O p (.lst (ds.map .dat)))) : CaB X (.type "list") [.dat (.lst ds)] O k := ⟨_, call_list_of, fun H0 σ ρ H vs st pr Q q => by
  cases pr with
  | cons r1 pr =>
    cases pr
    cases r1 with
    | lst h1 h2 => exact ⟨_, _, rfl, .inl (sql_at (hid_le _ _ h1)), fun p hp => q _ _ _ _ (h p (own_free st.own hp)) (st.alloc hp ⟨_, rfl, h2.paired⟩) rfl⟩⟩
theorem cb_listT {ds : List Dat} (h : ∀ p, O p = none → k (.own p) (up O p (.lst (ds.map .dat)))) : CaB X (.type "list") [.dat (.tup ds)] O k := ⟨_, call_list_of, fun H0 σ ρ H vs st pr Q q => by
  cases pr with
  | cons r1 pr =>
    cases pr
    cases r1 with
    | tup h1 h2 => exact ⟨_, _, rfl, .inr (sqt_mono hid_le h1), fun p hp => q _ _ _ _ (h p (own_free st.own hp)) (st.alloc hp ⟨_, rfl, h2.paired⟩) rfl⟩⟩
theorem cb_tupL {ds : List Dat} (h : k (.dat (.tup ds)) O) : CaB X (.type "tuple") [.dat (.lst ds)] O k := ⟨_, call_tuple_of, fun H0 σ ρ H vs st pr Q q => by
  cases pr with
  | cons r1 pr =>
    cases pr
    cases r1 with
    | lst h1 h2 =>
      refine ⟨_, _, rfl, .inl ⟨sql_at (hid_le _ _ h1), fun p hp => q _ _ _ O h (st.grow (same_new hp)) ?_⟩⟩
      exact .tup (.inl (.inl (by rw [hid_none (own_free st.own hp), upd_same]))) (RpA.mono (hid_same (same_new hp)) h2)⟩
theorem cb_tupT {ds : List Dat} (h : k (.dat (.tup ds)) O) : CaB X (.type "tuple") [.dat (.tup ds)] O k := ⟨_, call_tuple_of, fun H0 σ ρ H vs st pr Q q => by
  cases pr with
  | cons r1 pr =>
    cases pr
    cases r1 with
    | tup h1 h2 => exact ⟨_, _, rfl, .inr ⟨sqt_mono hid_le h1, q _ H _ O h st (.tup h1 h2)⟩⟩⟩
/-- repr of data -/
def reprOk (d : Dat) : Bool := plain d && (toPy d).layable0 && (toPy d).showable && !(toPy d).hasDict && (toPy d).intsShort 13
def reprD (d : Dat) : Str := (toPy d).shown
theorem call_reprD (hr : RoomB true 0 X.A) : CallR X (.builtin "repr") (fun xs H Q => ∃ (a : Addr) (d : PyData), xs = [.ref a] ∧ Dp X.K H (.ref a) d ∧ d.layable0 = true ∧ d.showable = true ∧ d.hasDict = false ∧ d.intsShort 13 = true ∧ Q (.str d.shown) H) := by
  intro pins s σ H xs us Q I r hq
  obtain ⟨a, d, rfl, hd, h1, h2, h3, h4, q⟩ := hq
  cases r with
  | cons rx rr =>
    cases rr
    cases rx
    obtain ⟨as, rd⟩ := Dp.reads I d _ _ hd (show RelV (.ref a) (.ref a) from rfl)
    have hz : d.shown.length ≤ sizeLine := Nat.le_trans (shown_le13 h1 h4) (by rw [sizeLine_eq]; decide)
    have h5 : (PyData.canLay0 d && decide (PyData.depth d ≤ 64) && decide (PyData.weight d ≤ 2 ^ 20)) = true := h1
    simp only [Bool.and_eq_true, decide_eq_true_eq] at h5
    refine repr_of_reads' rd h2 (PyData.noDict_hsm h3) (hr.g rfl) (by have := hr.r.un; omega) (fun _ _ z => z) (fun h' u tk hk => ?_) hz
    exact ⟨.str d.shown, H, I.kept hk, ⟨_, rfl⟩, q⟩
theorem reprOk_and {d : Dat} (h : reprOk d = true) : plain d = true ∧ (toPy d).layable0 = true ∧ (toPy d).showable = true ∧ (toPy d).hasDict = false ∧ (toPy d).intsShort 13 = true := by
  unfold reprOk at h
  simp only [Bool.and_eq_true, Bool.not_eq_true'] at h
  exact ⟨h.1.1.1.1, h.1.1.1.2, h.1.1.2, h.1.2, h.2⟩
theorem cb_reprL (hr : RoomB true 0 X.A) {ds : List Dat} (e : reprOk (.lst ds) = true) (h : k (.dat (.str (reprD (.lst ds)))) O) : CaB X (.builtin "repr") [.dat (.lst ds)] O k := ⟨_, call_reprD hr, fun H0 σ ρ H vs st pr Q q => by
  obtain ⟨e1, e2, e3, e4, e5⟩ := reprOk_and e
  cases pr with
  | cons r1 pr =>
    cases pr
    have r1 : Rp X.K (hid O H) _ (.lst ds) := r1
    have r2 := Rp.dp e1 (Rp.tk r1)
    cases r1
    exact ⟨_, _, rfl, r2, e2, e3, e4, e5, q _ H _ O h st (.str _)⟩⟩
theorem cb_reprT (hr : RoomB true 0 X.A) {ds : List Dat} (e : reprOk (.tup ds) = true) (h : k (.dat (.str (reprD (.tup ds)))) O) : CaB X (.builtin "repr") [.dat (.tup ds)] O k := ⟨_, call_reprD hr, fun H0 σ ρ H vs st pr Q q => by
  obtain ⟨e1, e2, e3, e4, e5⟩ := reprOk_and e
  cases pr with
  | cons r1 pr =>
    cases pr
    have r1 : Rp X.K (hid O H) _ (.tup ds) := r1
    have r2 := Rp.dp e1 (Rp.tk r1)
    cases r1
    exact ⟨_, _, rfl, r2, e2, e3, e4, e5, q _ H _ O h st (.str _)⟩⟩
end
end Kn
namespace Kn
open PySem PySem.Spec PyProof.Rows
open L2 hiding St
section
variable {X : Cx} {O : Own} {ρ : List Slot} {x : ExK} {k k' : Slot → Own → Prop} {kl kl' : List Slot → Own → Prop} {e a b c o : Expr} {es : List Expr} {pos p apos cpos : Pos} {D : SD}
def TyS (T : String) (O : Own) : Slot → Prop
  | .own p => T = "list" ∧ ∃ ss, O p = some (.lst ss)
  | .dat (.lst _) => T = "list"
  | .dat (.str _) => T = "str"
  | _ => False
theorem tyV_of {T : String} {s : Slot} {H0 H : Hp} {σ : SV} {v : V} (h : TyS T O s) (st : StOk X.K H0 O σ ρ H) (r : SlOk X.K (hid O H) v s) : tyV X.K T v H := by
  cases s with
  | unk => exact h.elim
  | own p =>
    obtain ⟨e1, ss, h2⟩ := h
    obtain rfl : v = .ref p := r
    obtain ⟨o, h3, vs, rfl, _⟩ := st.own.cell p _ h2
    exact .inl ⟨e1, _, sql_at h3⟩
  | dat d =>
    cases d with
    | lst ds =>
      cases r with
      | lst h1 h2 => exact .inl ⟨h, _, sql_at (hid_le _ _ h1)⟩
    | str z => cases r; exact h
    | _ => exact h.elim
def MtB (X : Cx) (id : String) (s : Slot) (ss : List Slot) (O : Own) (k : Slot → Own → Prop) : Prop := ∃ r, MtR X id r ∧ ∀ H0 σ ρ H v vs, StOk X.K H0 O σ ρ H → SlOk X.K (hid O H) v s → Paired (SlOk X.K (hid O H)) vs ss →
  ∀ Q : VK, (∀ v H' s O', k s O' → StOk X.K H0 O' σ ρ H' → SlOk X.K (hid O' H') v s → Q v H') → r v vs H Q
theorem ew_bm {T id : String} {name : Str} (pa : PlainAttrs T) (slot : PySem.Slot T name id) (hty : typeOf (.builtin id) = pure (.type "method_descriptor"))
    (h : EW X O ρ o x fun s O1 => TyS T O1 s ∧ AW X O1 ρ (e :: es) x fun ss O2 => MtB X id s ss O2 k) (hbase : attributeBase o name X.env (eval o X.env) = eval o X.env := by rfl)
    (hfew : ((backTo cpos (starEach (e :: es) X.env)).all (fun x => !x.1) && (backToKw cpos (keywordEach [] X.env)).all (fun x => x.1.isSome)
      && decide ((e :: es).length + ([] : List Keyword).length + (if ([] : List Keyword).isEmpty then 0 else 1) < 30)) = true := by rfl)
    (hline : (apos.endLine == cpos.line) = true := by rfl) (hs : starEach (e :: es) X.env = (false, eval e X.env) :: starEach es X.env := by rfl) (hplain : (backTo cpos (starEach es X.env)).any (·.1) = false := by rfl) :
    EW X O ρ (.Call (.Attribute o name apos) (e :: es) [] cpos) x k := fun H0 σ H st tk Q q => by
  have main : MtR X id (fun v vs H Q => ∃ r, MtR X id r ∧ r v vs H Q) := fun pins s σ H x xs v us Q I rx rv ⟨r, ho, hr⟩ => ho pins s σ H x xs v us Q I rx rv hr
  refine we_of (pe_bm pa slot hty main pe_w pa_w hbase hfew hline hs hplain) (h H0 σ H st tk _ fun v H1 s O1 ⟨t1, h1⟩ st1 r1 => ?_)
  refine ⟨tyV_of t1 st1 r1, h1 (hid O1 H1) σ H1 st1.top (takes_base tk st1.base) _ fun vs H2 ss O2 ⟨r, ho, hr⟩ st2 pr => ⟨r, ho, ?_⟩⟩
  exact hr H0 σ ρ H2 v vs (st2.rebase st1.base) (SlOk.mono st2.base r1) pr Q q
theorem mb_append {p : Addr} {ss : List Slot} {s : Slot} (hp : O p = some (.lst ss)) (hl : ss.length < sizeLine) (h : k (.dat .non) (up O p (.lst (ss ++ [s])))) : MtB X "list.append" (.own p) [s] O k := ⟨_, mt_append, fun H0 σ ρ H v vs st r pr Q q => by
  obtain rfl : v = .ref p := r
  cases pr with
  | cons r1 pr =>
    cases pr
    obtain ⟨o, h1, xs, rfl, h2⟩ := st.own.cell p _ hp
    exact ⟨p, xs, _, rfl, rfl, h1, by rw [paired_len h2]; exact hl, q _ _ _ _ h (st.write hp ⟨_, rfl, paired_app h2 (.cons r1 .nil)⟩) .non⟩⟩
theorem mb_extendL {p : Addr} {ss : List Slot} {ds : List Dat} (hp : O p = some (.lst ss)) (hl : ss.length + ds.length ≤ sizeLine) (h : k (.dat .non) (up O p (.lst (ss ++ ds.map .dat)))) : MtB X "list.extend" (.own p) [.dat (.lst ds)] O k := ⟨_, mt_extend, fun H0 σ ρ H v vs st r pr Q q => by
  obtain rfl : v = .ref p := r
  cases pr with
  | cons r1 pr =>
    cases pr
    obtain ⟨o, h1, xs, rfl, h2⟩ := st.own.cell p _ hp
    cases r1 with
    | lst h3 h4 => exact ⟨p, _, xs, _, rfl, rfl, h1, hid_le _ _ h3, by rw [paired_len h2, h4.length]; exact hl, q _ _ _ _ h (st.write hp ⟨_, rfl, paired_app h2 h4.paired⟩) .non⟩⟩
theorem strs_rp {K : PySem.W.Frag} {G : Hp} : ∀ ys : List Str, RpA K G (ys.map V.str) (ys.map .str)
  | [] => .nil
  | y :: ys => .cons (.str y) (strs_rp ys)
/-- a text's method with one argument -/
def M1B (X : Cx) (id : String) (z : Str) (s : Slot) (O : Own) (k : Slot → Own → Prop) : Prop := ∃ r, MtR X id r ∧ ∀ H0 σ ρ H v, StOk X.K H0 O σ ρ H → SlOk X.K (hid O H) v s →
  ∀ Q : VK, (∀ v H' s O', k s O' → StOk X.K H0 O' σ ρ H' → SlOk X.K (hid O' H') v s → Q v H') → r (.str z) [v] H Q
theorem m1_split {z y : Str} (hy : (y.length == 0) = false) (hz : z.length + 2 ≤ sizeLine) (h : k (.dat (.lst ((Txt.split z y).map .str))) O) : M1B X "str.split" z (.dat (.str y)) O k := ⟨_, mt_split, fun H0 σ ρ H v st r Q q => by
  cases r
  refine ⟨z, y, rfl, rfl, hy, hz, fun p hp => q _ _ _ O h (st.grow (same_new hp)) ?_⟩
  exact .lst (by rw [hid_none (own_free st.own hp), upd_same]) (strs_rp _)⟩
theorem m1_partition {z y : Str} (hy : (y.length == 0) = false) (hz : z.length ≤ sizeLine) (h : k (.dat (.tup [.str (Txt.partition z y).1, .str (Txt.partition z y).2.1, .str (Txt.partition z y).2.2])) O) : M1B X "str.partition" z (.dat (.str y)) O k := ⟨_, mt_partition, fun H0 σ ρ H v st r Q q => by
  cases r
  refine ⟨z, y, rfl, rfl, hy, hz, fun p hp => q _ _ _ O h (st.grow (same_new hp)) ?_⟩
  exact .tup (.inl (.inl (by rw [hid_none (own_free st.own hp), upd_same]))) (.cons (.str _) (.cons (.str _) (.cons (.str _) .nil)))⟩
theorem m1_find {z y : Str} (h : k (.dat (.int (Txt.find z y))) O) : M1B X "str.find" z (.dat (.str y)) O k := ⟨_, mt_find, fun H0 σ ρ H v st r Q q => by
  cases r; exact ⟨z, y, rfl, rfl, q _ H _ O h st (.int _)⟩⟩
def EV (X : Cx) (O : Own) (ρ : List Slot) (e : Expr) (x : ExK) (d : Dat) : Prop := EW X O ρ e x fun s O' => s = .dat d ∧ O' = O
/-- [elt for tg in iter if ..] over data that ι tells of l: f the element, g whether it is taken -/
theorem ew_map {α : Type} (l : List α) (ι f : α → Dat) (g : α → Bool) (own : List (Str × Nat)) {elt tg iter : Expr} {ifs : List Expr} {scope : Scope} {T : Dat → List Slot → List Slot → Prop} (hN : X.N.Nodup) (tg_ok : Tgt X scope (own.map (·.2)) tg T) (ok : BlkOk X.N X.env.scope scope own)
    (hi : IW X O ρ tg iter x fun ds' O1 => ds' = l.map ι ∧ O1 = O) (hz : l.length ≤ sizeLine)
    (hb : ∀ d, d ∈ l → ∃ ρ', T (ι d) (wipeS ρ (own.map (·.2))) ρ' ∧ ∀ O' Y, Blk X scope Y → TsW Y O' ρ' ifs noX (fun t O2 => t = g d ∧ O2 = O') ∧ (g d = true → EV Y O' ρ' elt noX (f d)))
    (h : k (.dat (.lst ((l.filter g).map f))) O) (hc : X.calm = true := by rfl) (hs : ∀ x, foldedSetIterable iter X.env x = pure x := by intro _; rfl) : EW X O ρ (.ListComp elt [⟨tg, iter, ifs, 0⟩] scope pos) x k := by
  refine ew_frz (ew_lc own hN tg_ok ok (fun H0 σ H st tk R q => hi H0 σ H st tk R fun J H' ds' O1 ⟨e1, e2⟩ st' it => q J H' ds' O1 ?_ st' it) hc hs)
  subst e1 e2
  refine ⟨by rw [List.length_map]; exact hz, fun i acc O' => O' = O1 ∧ acc = (((l.take i).filter g).map f).map .dat, ⟨rfl, rfl⟩, fun i d0 acc O' hj hd0 => ?_, fun acc O' hj p hp => ?_⟩
  · obtain ⟨rfl, rfl⟩ := hj
    rw [List.getElem?_map] at hd0
    obtain ⟨d, hd, rfl⟩ := Option.map_eq_some_iff.mp hd0
    obtain ⟨ρ', ht, hb⟩ := hb d (List.mem_of_getElem? hd)
    refine ⟨ρ', ht, fun Dd nD Y hY => ?_⟩
    have htake : l.take (i + 1) = l.take i ++ [d] := by rw [List.take_add_one, hd]; rfl
    obtain ⟨h1, _⟩ := hb (up O' Dd (.lst ((((l.take i).filter g).map f).map .dat))) Y hY
    refine fun H0 σ H st tk Q q => h1 H0 σ H st tk Q fun t H' O2 ⟨e1, e2⟩ st2 => q t H' O2 ⟨fun ht => fun Z hZ => ?_, fun ht => ?_⟩ st2
    · subst e2
      have hg : g d = true := e1 ▸ ht
      refine ((hb (up O' Dd (.lst ((((l.take i).filter g).map f).map .dat))) Z hZ).2 hg).mono fun s O3 ⟨e3, e4⟩ => ?_
      subst e3 e4
      refine ⟨O', rfl, nD, rfl, ?_⟩
      rw [htake, List.filter_append, List.filter_cons_of_pos hg]
      simp
    · subst e2
      have hg : g d = false := e1 ▸ ht
      refine ⟨O', rfl, nD, rfl, ?_⟩
      rw [htake, List.filter_append, List.filter_cons_of_neg (by rw [hg]; exact Bool.false_ne_true)]
      simp
  · obtain ⟨rfl, rfl⟩ := hj
    refine ⟨p, (l.filter g).map f, rfl, by rw [List.length_map, List.take_length]; exact up_at, ?_⟩
    rw [dn_up hp]
    exact h
theorem filter_yes {α : Type} (l : List α) : l.filter (fun _ => true) = l := List.filter_eq_self.mpr fun _ _ => rfl
theorem ew_map1 {α : Type} (l : List α) (ι f : α → Dat) (own : List (Str × Nat)) {elt tg iter : Expr} {scope : Scope} {T : Dat → List Slot → List Slot → Prop} (hN : X.N.Nodup) (tg_ok : Tgt X scope (own.map (·.2)) tg T) (ok : BlkOk X.N X.env.scope scope own)
    (hi : IW X O ρ tg iter x fun ds' O1 => ds' = l.map ι ∧ O1 = O) (hz : l.length ≤ sizeLine)
    (hb : ∀ d, d ∈ l → ∃ ρ', T (ι d) (wipeS ρ (own.map (·.2))) ρ' ∧ ∀ O' Y, Blk X scope Y → EV Y O' ρ' elt noX (f d))
    (h : k (.dat (.lst (l.map f))) O) (hc : X.calm = true := by rfl) (hs : ∀ x, foldedSetIterable iter X.env x = pure x := by intro _; rfl) : EW X O ρ (.ListComp elt [⟨tg, iter, [], 0⟩] scope pos) x k :=
  ew_map l ι f (fun _ => true) own hN tg_ok ok hi hz (fun d hd => by
    obtain ⟨ρ', h1, h2⟩ := hb d hd
    exact ⟨ρ', h1, fun O' Y hY => ⟨tsw_nil ⟨rfl, rfl⟩, fun _ => h2 O' Y hY⟩⟩) (by rw [filter_yes]; exact h) hc hs
end
section
variable {X : Cx} {O : Own} {ρ : List Slot} {x : ExK} {k : Slot → Own → Prop} {e a o : Expr} {es : List Expr} {apos cpos pos : Pos}
theorem few1 {env : Env} {cpos : Pos} {e : Expr} (hs : starEach [e] env = [(false, eval e env)]) : ((backTo cpos (starEach [e] env)).all (fun x => !x.1) && (backToKw cpos (keywordEach [] env)).all (fun x => x.1.isSome)
      && decide (([e] : List Expr).length + ([] : List Keyword).length + (if ([] : List Keyword).isEmpty then 0 else 1) < 30)) = true := by
  rw [hs]; rfl
theorem ew_lm {id : String} {name : Str} (slot : PySem.Slot "list" name id) (hty : typeOf (.builtin id) = pure (.type "method_descriptor"))
    (h : EW X O ρ o x fun s O1 => TyS "list" O1 s ∧ EW X O1 ρ e x fun s2 O2 => MtB X id s [s2] O2 k) (hs : starEach [e] X.env = [(false, eval e X.env)] := by rfl) (hbase : attributeBase o name X.env (eval o X.env) = eval o X.env := by rfl)
    (hline : (apos.endLine == cpos.line) = true := by rfl) : EW X O ρ (.Call (.Attribute o name apos) [e] [] cpos) x k :=
  ew_bm PySem.F.plainAttrs_list slot hty (h.mono fun s O1 ⟨h1, h2⟩ => ⟨h1, aw_cons (h2.mono fun s2 O2 h3 => aw_nil h3) hs⟩) hbase (few1 hs) hline hs rfl
theorem ew_append (h : EW X O ρ o x fun s O1 => TyS "list" O1 s ∧ EW X O1 ρ e x fun s2 O2 => MtB X "list.append" s [s2] O2 k) (hs : starEach [e] X.env = [(false, eval e X.env)] := by rfl) (hbase : attributeBase o "append" X.env (eval o X.env) = eval o X.env := by rfl)
    (hline : (apos.endLine == cpos.line) = true := by rfl) : EW X O ρ (.Call (.Attribute o "append" apos) [e] [] cpos) x k := ew_lm PySem.F.slot_list_append PySem.F.type_list_append h hs hbase hline
theorem ew_extend (h : EW X O ρ o x fun s O1 => TyS "list" O1 s ∧ EW X O1 ρ e x fun s2 O2 => MtB X "list.extend" s [s2] O2 k) (hs : starEach [e] X.env = [(false, eval e X.env)] := by rfl) (hbase : attributeBase o "extend" X.env (eval o X.env) = eval o X.env := by rfl)
    (hline : (apos.endLine == cpos.line) = true := by rfl) : EW X O ρ (.Call (.Attribute o "extend" apos) [e] [] cpos) x k := ew_lm PySem.F.slot_list_extend PySem.F.type_list_extend h hs hbase hline
end
section
variable {X : Cx} {O : Own} {ρ : List Slot} {x : ExK} {kl : List Slot → Own → Prop} {o i : Expr} {pos : Pos} {s : Slot}
/-- o[i] = v, o a cell -/
theorem gw_set (h : EW X O ρ o x fun s1 O1 => EW X O1 ρ i x fun s2 O2 => ∃ p ss n j, s1 = .own p ∧ s2 = .dat (.int n) ∧ O2 p = some (.lst ss) ∧ ixN ss.length n = some j ∧ kl ρ (up O2 p (.lst (ss.set j s))))
    (ha : ∀ v, assign (.Subscript o i pos) X.env v = (do { let ov ← holding [v] (eval o X.env); let iv ← holding [v, ov] (eval i X.env); standAt pos; holding [v, ov, iv] (setItem ov iv v); release [v, ov, iv] [] }) := by intro _; rfl) : GW X O ρ (.Subscript o i pos) s x kl := fun H0 σ H v st r tk Q q => by
  refine wg_of (pg_sub pe_w pe_w set_list ha) (two h st.top (takes_base tk st.base) (Q := fun v1 v2 H2 => rSetL v1 v2 v H2 fun H3 => Q σ H3) fun v1 v2 s1 s2 O2 H2 hp st2 r1 r2 => ?_)
  obtain ⟨p, ss, n, j, e1, e2, h1, h2, h3⟩ := hp
  subst e1 e2
  obtain rfl : v1 = .ref p := r1
  cases r2
  obtain ⟨oo, h4, vs, rfl, h5⟩ := st2.own.cell p _ h1
  refine ⟨p, vs, n, j, rfl, rfl, h4, by rw [paired_len h5]; exact h2, q σ _ ρ _ h3 ((st2.rebase st.base).write h1 ⟨_, rfl, paired_set (SlOk.mono st2.base r) j h5⟩)⟩
end
end Kn
namespace Kn
open PySem PySem.Spec PyProof.Rows
open L2 hiding St
section
variable {X : Cx} {O : Own} {ρ : List Slot} {x : ExK} {k : Slot → Own → Prop} {e a o : Expr} {es : List Expr} {apos cpos pos : Pos}
theorem ew_bltn {nm : Str} {n : String} (hm : X.mg nm = none) (hv : bootBuiltins nm = some (.type n)) (h : k (.dat (.ty n)) O) (hg : Gl X nm := by rfl) (hn : nm ≠ "__name__" := by decide) (hd : (nm == ("__debug__" : Str)) = false := by decide) : EW X O ρ (.Name nm pos) x k := fun H0 σ H st tk Q q =>
  we_of (pe_bltn (v := .ty n) hg hm hv rfl hn hd) (q _ H _ O h st (.ty n))
/-- a class of one's own as a value -/
theorem ew_cls {nm : Str} {C : Addr} (hm : X.mg nm = some (.ref C)) (h : k (.dat (.cls C)) O) (hg : Gl X nm := by rfl) (hd : (nm == ("__debug__" : Str)) = false := by decide) : EW X O ρ (.Name nm pos) x k := fun H0 σ H st tk Q q =>
  we_of (pe_glob (v := .ref C) hg hm rfl hd) (q _ H _ O h st (.cls C))
def tyName : Dat → String
  | .non => "NoneType"
  | .bl _ => "bool"
  | .int _ => "int"
  | .str _ => "str"
  | .lst _ => "list"
  | .fro _ => "list"
  | .tup _ => "tuple"
  | _ => ""
theorem tyX_of {K : PySem.W.Frag} {O : Own} {H : Hp} {v : V} {d : Dat} (p : tyName d ≠ "") (r : Rp K (hid O H) v d) : TyX K H v (.type (tyName d)) := by
  cases r with
  | non => exact .base .non
  | bl b => exact .base (.bl b)
  | int i => exact .base (.int i)
  | str z => exact .base (.str z)
  | lst h1 h2 => exact .base (.lst (hid_le _ _ h1))
  | fro h1 h2 =>
    rcases h1 with (h1 | ⟨ob, h1⟩) | ⟨ob, its, n, h1, h3, _⟩
    · exact .base (.lst (hid_le _ _ h1))
    · exact .base (.frz (hid_le _ _ h1))
    · exact .kList h1 h3
  | tup h1 h2 =>
    rcases h1 with (h1 | ⟨ob, h1⟩) | ⟨ob, its, n, h1, h3, _⟩
    · exact .base (.tup (hid_le _ _ h1))
    · exact .fTuple (hid_le _ _ h1)
    · exact .kTuple h1 h3
  | ins h1 h2 => exact absurd rfl p
  | cls C => exact absurd rfl p
  | ty n => exact absurd rfl p
  | exc h1 h2 => exact absurd rfl p
  | slo h1 h2 h3 h4 => exact absurd rfl p
  | tre h1 h2 h3 h4 h5 => exact absurd rfl p
  | key h1 => exact absurd rfl p
  | dct h1 h2 => exact absurd rfl p
  | env h1 => exact absurd rfl p
  | xcv h1 h2 h3 => exact absurd rfl p
  | xc0 h1 => exact absurd rfl p
theorem cb_isTy {d : Dat} {n : String} {t : Bool} (hk : kitB (tyName d) n = some t) (h : k (.dat (.bl t)) O) (hp : tyName d ≠ "" := by first | decide | assumption) : CaB X (.builtin "isinstance") [.dat d, .dat (.ty n)] O k := ⟨_, call_isi, fun H0 σ ρ H vs st pr Q q => by
  cases pr with
  | cons r1 pr =>
    cases pr with
    | cons r2 pr =>
      cases pr
      cases r2
      exact ⟨_, _, _, _, t, rfl, .ty n, tyX_of hp r1, kit_ty hk, q _ H _ O h st (.bl t)⟩⟩
def isLstD : Dat → Bool | .lst _ => true | .fro _ => true | _ => false
def isTupD : Dat → Bool | .tup _ => true | _ => false
theorem kit_lst {d : Dat} (hp : tyName d ≠ "") : kitB (tyName d) "list" = some (isLstD d) := by
  cases d <;> first | exact absurd rfl hp | exact (show kitB "NoneType" "list" = some false by decide +kernel) | exact (show kitB "bool" "list" = some false by decide +kernel) | exact (show kitB "int" "list" = some false by decide +kernel) | exact (show kitB "str" "list" = some false by decide +kernel) | exact (show kitB "list" "list" = some true by decide +kernel) | exact (show kitB "tuple" "list" = some false by decide +kernel)
theorem kit_tup {d : Dat} (hp : tyName d ≠ "") : kitB (tyName d) "tuple" = some (isTupD d) := by
  cases d <;> first | exact absurd rfl hp | exact (show kitB "NoneType" "tuple" = some false by decide +kernel) | exact (show kitB "bool" "tuple" = some false by decide +kernel) | exact (show kitB "int" "tuple" = some false by decide +kernel) | exact (show kitB "str" "tuple" = some false by decide +kernel) | exact (show kitB "list" "tuple" = some false by decide +kernel) | exact (show kitB "tuple" "tuple" = some true by decide +kernel)
end
end Kn
namespace Kn
open PySem PySem.Spec PyProof.Rows
open L2 hiding St
theorem bt_abs : bootBuiltins "abs" = some (.builtin "abs") := by decide +kernel
theorem bt_max : bootBuiltins "max" = some (.builtin "max") := by decide +kernel
theorem bt_min : bootBuiltins "min" = some (.builtin "min") := by decide +kernel
theorem bt_len : bootBuiltins "len" = some (.builtin "len") := by decide +kernel
theorem bt_repr : bootBuiltins "repr" = some (.builtin "repr") := by decide +kernel
theorem bt_isinstance : bootBuiltins "isinstance" = some (.builtin "isinstance") := by decide +kernel
theorem bt_int : bootBuiltins "int" = some (.type "int") := by decide +kernel
theorem bt_list : bootBuiltins "list" = some (.type "list") := by decide +kernel
theorem bt_tuple : bootBuiltins "tuple" = some (.type "tuple") := by decide +kernel
end Kn
namespace Kn
open PySem PySem.Spec PyProof.Rows
open L2 hiding St
def Sub (O' O : Own) : Prop := ∀ p c, O' p = some c → O p = some c
theorem Sub.refl {O : Own} : Sub O O := fun _ _ h => h
theorem Sub.trans {O1 O2 O3 : Own} (h : Sub O1 O2) (h' : Sub O2 O3) : Sub O1 O3 := fun p c e => h' p c (h p c e)
theorem Sub.up {O : Own} {p : Addr} {c : Cell} (h : O p = none) : Sub O (up O p c) := fun q d e => by
  rw [up_ne (own_ne e h)]; exact e
theorem Sub.upw {O' O : Own} {p : Addr} {c : Cell} (h : Sub O' O) (n : O' p = none) : Sub O' (Kn.up O p c) := fun q d e => by
  rw [up_ne (own_ne e n)]; exact h q d e
theorem Sub.none {O' O : Own} {p : Addr} (h : Sub O' O) (n : O p = none) : O' p = none := by
  cases e : O' p with
  | none => rfl
  | some c => rw [h p c e] at n; cases n
theorem hid_sub {O' O : Own} {H : Hp} (h : Sub O' O) : Same (hid O H) (hid O' H) := fun b o e => by
  obtain ⟨h1, h2⟩ := of_hid e
  rw [hid_none (h.none h1)]
  exact h2
section
variable {K : PySem.W.Frag} {H0 H : Hp} {O O' : Own} {σ : SV} {ρ : List Slot}
theorem OwnOk.sub (h : OwnOk K O H) (s : Sub O' O) : OwnOk K O' H := ⟨fun p c e => by
  obtain ⟨o, h1, h2⟩ := h.cell p c (s p c e)
  exact ⟨o, h1, ClOk.mono (hid_sub s) h2⟩⟩
theorem StOk.sub (h : StOk K H0 O σ ρ H) (s : Sub O' O) : StOk K H0 O' σ ρ H := ⟨h.own.sub s, h.base.trans (hid_sub s), pmap (fun _ _ q => EnvOk.mono (hid_sub s) q) h.env⟩
theorem ExOk.sub {cls : Value} {d : Option Addr} {e : Exn} (h : ExOk K O H cls d e) (s : Sub O' O) : ExOk K O' H cls d e := by
  cases e with
  | own C fs =>
    obtain ⟨h1, dx, fv, h2, h3, h4, h5⟩ := h
    exact ⟨h1, dx, fv, h2, s.none h3, h4, RpF.mono (hid_sub s) h5⟩
  | ty n => exact h
end
/-- .. forgotten at the way out -/
def drX (x : ExK) : ExK := fun e ρ O => ∃ O', Sub O' O ∧ x e ρ O'
def drR (r : Slot → Own → Prop) : Slot → Own → Prop := fun z O => ∃ O', Sub O' O ∧ r z O'
def drN (r : List Slot → Own → Prop) : List Slot → Own → Prop := fun z O => ∃ O', Sub O' O ∧ r z O'
section
variable {X : Cx} {O : Own} {ρ : List Slot} {x : ExK} {D : SD} {sts : List Stmt} {e : Expr} {k : Slot → Own → Prop}
theorem takes_dr {H0 : Hp} (t : Takes X (Wsem X.K H0 x)) : Takes X (Wsem X.K H0 (drX x)) := t.imp fun _ _ _ _ ⟨e, ρ, O, ⟨O', s, h1⟩, h2, h3⟩ => ⟨e, ρ, O', h1, h2.sub s, h3.sub s⟩
theorem sw_drop (h : SW X O ρ sts (drX x) { nx := drN D.nx, rt := drR D.rt, bk := drN D.bk, ct := drN D.ct }) : SW X O ρ sts x D := fun H0 σ H st tk E ok =>
  h H0 σ H st (takes_dr tk) E ⟨fun σ ρ O H ⟨O', s, q⟩ z => ok.nx σ ρ O' H q (z.sub s), fun v z O H ⟨O', s, q⟩ o b r => ok.rt v z O' H q (o.sub s) (b.trans (hid_sub s)) (SlOk.mono (hid_sub s) r), fun σ ρ O H ⟨O', s, q⟩ z => ok.bk σ ρ O' H q (z.sub s), fun σ ρ O H ⟨O', s, q⟩ z => ok.ct σ ρ O' H q (z.sub s)⟩
end
/-- mg is what the written part says of the module's names -/
def TopOf (K : PySem.W.Frag) (mg : Str → Option Value) : Prop := ∃ h : Heap, K.In h ∧ h.Ns mainGlobals mg
theorem TopOf.no {K : PySem.W.Frag} {mg : Str → Option Value} {nm : Str} (T : TopOf K mg) (e : PySem.W.nsIn K mainGlobals nm = some none) : mg nm = none := by
  obtain ⟨h, h1, h2⟩ := T
  exact PySem.W.mg_none_of h1 h2 e
theorem TopOf.is {K : PySem.W.Frag} {mg : Str → Option Value} {nm : Str} {v : Value} (T : TopOf K mg) (e : PySem.W.nsIn K mainGlobals nm = some (some v)) : mg nm = some v := by
  obtain ⟨h, h1, h2⟩ := T
  exact PySem.W.mg_of h1 h2 e
/-- a def without defaults under its name -/
structure DefIn (K : PySem.W.Frag) (nm : Str) (st : Stmt) : Prop where
  ex : ∃ (f : Addr) (fd : FuncData), PySem.W.nsIn K mainGlobals nm = some (some (.ref f)) ∧ L2.Fun K nm nm st f fd
/-- how the arguments of a def of n parameters bind -/
def BindsAs (nm : Str) (st : Stmt) (ps : List Str) : Prop := ∀ (kV doc pm : Value) (an : Option Addr) (cdv ct : Value) (us : List Value), us.length = ps.length →
  bindArgs (PySem.W.fnOf nm nm (defArgs st) (defBody st) (defScope st) .none kV doc pm an cdv ct) ⟨us, []⟩ = pure (ps.zip us)
/-- a text, a tuple of texts under a module's name -/
def TextIn (K : PySem.W.Frag) (nm z : Str) : Prop := ∃ t, PySem.W.nsIn K mainGlobals nm = some (some (.str z t))
theorem TextIn.glob {K : PySem.W.Frag} {mg : Str → Option Value} {nm z : Str} (h : TextIn K nm z) (T : TopOf K mg) : GlobD K mg nm (.str z) := by
  obtain ⟨t, a⟩ := h
  exact ⟨.str z, .str z t, T.is a, ⟨t, rfl⟩, fun G => .str z⟩
def strsOf : List Value → Option (List Str)
  | [] => some []
  | .str z _ :: r => (strsOf r).map (z :: ·)
  | _ :: _ => none
theorem vals_strsOf : ∀ {us : List Value} {zs : List Str}, strsOf us = some zs → Vals (zs.map V.str) us
  | [], zs, h => by cases h; exact .nil
  | u :: us, zs, h => by
    cases u with
    | str z t =>
      cases q : strsOf us with
      | none =>
        unfold strsOf at h
        rw [q] at h; cases h
      | some ys =>
        unfold strsOf at h
        rw [q] at h; cases h
        exact .cons ⟨t, rfl⟩ (vals_strsOf q)
    | _ => cases h
def TextsIn (K : PySem.W.Frag) (nm : Str) (zs : List Str) : Prop := ∃ (a : Addr) (od : Option Addr) (its : Array Value) (n : Nat) (sl : Array (Option Value)), PySem.W.nsIn K mainGlobals nm = some (some (.ref a)) ∧ K.lookup a = some ⟨.type "tuple", od, .seq its n, sl⟩ ∧ its.size ≤ sizeLine ∧ strsOf its.toList = some zs
theorem TextsIn.glob {K : PySem.W.Frag} {mg : Str → Option Value} {nm : Str} {zs : List Str} (h : TextsIn K nm zs) (T : TopOf K mg) : GlobD K mg nm (.tup (zs.map .str)) := by
  obtain ⟨a, od, its, n, sl, h1, h2, h3, h4⟩ := h
  exact ⟨.ref a, .ref a, T.is h1, rfl, fun G => .tup (xs := zs.map V.str) (.inr ⟨_, its, n, h2, rfl, rfl, h3, vals_strsOf h4⟩) (strs_rp zs)⟩
/-- an exception class of one's own with an __init__ of its own -/
structure ExcAt (K : PySem.W.Frag) (nm qual : Str) (st : Stmt) (C : Addr) : Prop where
  at_ : PySem.W.nsIn K mainGlobals nm = some (some (.ref C))
  oex : OexC K C
  ini : ∃ f fd, PySem.W.findIn K (.ref C) "__init__" = some (some (.ref f)) ∧ PySem.W.typeIn K (.ref f) = some (.type "function") ∧ L2.Fun K "__init__" qual st f fd
/-- .. with all that is asked of it where it is caught; B: the class that it is derived from -/
structure ExcIn (K : PySem.W.Frag) (nm qual bn : Str) (st : Stmt) (C B : Addr) : Prop where
  a : ExcAt K nm qual st C
  xf : XfC K C
  ec : ExcC K C
  own : PySem.W.subIn K (.ref C) (.ref C) = some true
  bat : PySem.W.nsIn K mainGlobals bn = some (some (.ref B))
  sup : PySem.W.subIn K (.ref C) (.ref B) = some true
  bty : PySem.W.typeIn K (.ref B) = some (.type "type")
  bcl : PySem.W.isClsIn K B = true
  brd : ClX.CRead K B (.type "type")
  bin : PySem.W.findCls K (.ref B) (.type "type") "__init__" = some (.val (.builtin "ValueError.__init__"))
section
variable {K : PySem.W.Frag} {nm qual bn : Str} {st : Stmt} {C B : Addr} {mg : Str → Option Value}
theorem ExcIn.ini (h : ExcIn K nm qual bn st C B) (T : TopOf K mg) : BaseIni K mg bn := ⟨B, .type "type", T.is h.bat, h.brd, h.bin⟩
end
section
variable {P : Program} {w : World} {K : PySem.W.Frag} {mg : Str → Option Value} {base : Heap} {g : Bool} {k : Nat} {ps : List Str} {S : SpecT}
theorem cal_of {nm : Str} {st : Stmt} (T : TopOf K mg) (D : DefIn K nm st) (b : BindsAs nm st ps) (h : ∀ f fd, L2.Fun K nm nm st f fd → Fn P w K mg base g k f fd ps S) : Cal P w K mg base g k nm S [] := by
  obtain ⟨f, fd, a, F⟩ := D.ex
  exact ⟨f, fd, ps, [], [], T.is a, F.kp, h f fd F, F.binds b, .nil, fun _ => .nil⟩
/-- how the arguments of an __init__ bind -/
def IniAs (qual : Str) (st : Stmt) (ps : List Str) : Prop := ∀ (kV doc pm : Value) (an : Option Addr) (cdv ct : Value) (us : List Value), us.length = ps.length →
  bindArgs (PySem.W.fnOf "__init__" qual (defArgs st) (defBody st) (defScope st) .none kV doc pm an cdv ct) ⟨us, []⟩ = pure (ps.zip us)
end
/-- what a law has to do: given the script it says True -/
def LawS : SpecT := fun ss O R => ∃ ns : List Int, ss = [.dat (.fro (ns.map .int))] ∧ ns.length ≤ 63 ∧ ∀ O', R (.ret (.dat (.bl true))) O'
theorem ints_rp {K : PySem.W.Frag} {G : Hp} : ∀ ns : List Int, RpA K G (ns.map V.int) (ns.map Dat.int)
  | [] => .nil
  | n :: ns => .cons (.int n) (ints_rp ns)
def noO : Own := fun _ => none
theorem hid_no {H : Hp} : hid noO H = H := by
  funext b
  exact hid_none rfl
theorem fn_at {P : Program} {w : World} {K : PySem.W.Frag} {mg : Str → Option Value} {base : Heap} {n : Nat} {fa a : Addr} {fd : FuncData} {x : Str} {ns : List Int} {s : Shared} {H : Hp}
    (F : Fn P w K mg base true n fa fd [x] LawS) (hr : RoomB true n callerA) (e0 : Env0 P w K mg base callerA [] s H) (hb : BindsTo s fd ⟨[.ref a], []⟩ [(x, .ref a)]) (hS : SqL K H a (ns.map V.int)) (hl : ns.length ≤ 63) :
    codeAny (model P w) callerA (.call (.ref fa) ⟨[.ref a], []⟩) (CR (L2.CX P w) [] P w H s (fun v _ => v = .bl true) fun _ _ _ => False) s := by
  refine F.run callerA [] s H ⟨[.ref a], []⟩ [.ref a] [.ref a] _ _ hr e0 hb (.cons rfl .nil) ?_
  refine ⟨noO, [.dat (.fro (ns.map .int))], fun o _ => o = .ret (.dat (.bl true)), ⟨fun p c hp => by cases hp⟩, .cons ?_ .nil, ⟨ns, rfl, hl, fun _ => rfl⟩, fun v H' z O' e1 _ _ r => ?_, fun cls d e H' O' e1 => ?_⟩
  · refine Rp.fro (xs := ns.map V.int) ?_ (ints_rp ns)
    rw [hid_no]; exact hS
  · cases e1
    cases r
    rfl
  · cases e1
/-- the law's def, called with the script -/
theorem run_law {P : Program} {w : World} {K : PySem.W.Frag} {mg mb : Str → Option Value} {n : Nat} {fa a : Addr} {fd : FuncData} {x : Str} {sh : Shared} {vs : List Value} {ns : List Int}
    (kin : K.In sh.heap) (glob : sh.heap.Ns mainGlobals mg) (blt : sh.heap.Ns builtinsNs mb) (bltE : ∀ y : Str, y ≠ "__name__" → mb y = bootBuiltins y) (lim : sh.heap.NoLimit) (gen : sh.gens = #[])
    (hobj : sh.heap.get? a = some { cls := .type "list", data := .seq vs.toArray }) (hint : IntsAre vs ns) (hlen : ns.length ≤ 63) (hr : RoomB true n callerA)
    (F : ∀ base : Heap, K.In base → base.Ns mainGlobals mg → Fn P w K mg base true n fa fd [x] LawS) (hbind : ∀ (s : Shared) (u : Value), BindsTo s fd ⟨[u], []⟩ [(x, u)]) :
    codeAny (model P w) callerA (.call (.ref fa) ⟨[.ref a], []⟩) (fun r s' => r = .ok (.ret (.bool true)) ∧ OldK sh.heap s'.heap ∧ s'.os = sh.os ∧ AllBare s'.gens) sh := by
  have vals := vals_ints hint
  have lenV := hint.length
  have small : ns.length ≤ sizeLine := Nat.le_trans hlen (by decide)
  -- H tells of the script alone, or of nothing
  suffices main : ∀ H : Hp, Only H → SqL K H a (ns.map V.int) → HOk P w H sh.heap → (∀ b, H b ≠ none → b = a) → (H a ≠ none → K.lookup a = none) →
      codeAny (model P w) callerA (.call (.ref fa) ⟨[.ref a], []⟩) (fun r s' => r = .ok (.ret (.bool true)) ∧ OldK sh.heap s'.heap ∧ s'.os = sh.os ∧ AllBare s'.gens) sh by
    by_cases hk : ∃ o, K.lookup a = some o
    · obtain ⟨o, hk⟩ := hk
      have eo := (kin a o hk).symm.trans hobj
      cases eo
      have frz : SqL K (fun _ => none) a (ns.map V.int) := .inr ⟨_, vs.toArray, _, hk, rfl, rfl, rfl, by rw [List.size_toArray, lenV]; exact small, by simpa using vals⟩
      exact main (fun _ => none) (fun _ => .inl rfl) frz (fun b u z => by
        have z' : (none : Option HO) = some u := z
        cases z') (fun b z => absurd rfl z) fun z => absurd rfl z
    · have hk : K.lookup a = none := by
        cases q : K.lookup a with
        | none => rfl
        | some o => exact absurd ⟨o, q⟩ hk
      let O1 : HO := .frz { cls := .type "list", data := .seq vs.toArray } (.lst (ns.map V.int))
      have at1 : ∀ b u, (if b = a then some O1 else none) = some u → b = a ∧ O1 = u := fun b u z => by
        by_cases q : b = a
        · rw [if_pos q] at z
          exact ⟨q, Option.some.inj z⟩
        · rw [if_neg q] at z
          cases z
      refine main (fun b => if b = a then some O1 else none) (fun b => ?_) (.inl (.inr ⟨_, if_pos rfl⟩)) (fun b u z => ?_) (fun b z => ?_) fun _ => hk
      · by_cases q : b = a
        · exact .inr ⟨_, _, if_pos q⟩
        · exact .inl (if_neg q)
      · obtain ⟨rfl, rfl⟩ := at1 b u z
        exact ⟨hobj, by rw [List.length_map]; exact small, vs, _, vals, hobj⟩
      · cases q : (if b = a then some O1 else none) with
        | none => exact absurd q z
        | some u => exact (at1 b u q).1
  intro H only hS hok isA notK
  -- the base: the heap without the script
  have at_base : ∀ {b : Addr} {o : Obj}, sh.heap.get? b = some o → H b = none → (hidT sh.heap H).get? b = some o := fun e z => hidT_get e z
  have dict_free : ∀ {b : Addr} {o : Obj} {es : Array DictEntry} {ep : Nat}, sh.heap.get? b = some o → o.data = .dict es ep → H b = none := fun {b o es ep} e d => by
    cases q : H b with
    | none => rfl
    | some u =>
      obtain rfl := isA b (by rw [q]; exact fun z => by cases z)
      have eo := e.symm.trans hobj
      cases eo
      have d : Data.seq vs.toArray _ = Data.dict es ep := d
      cases d
  have nsB : ∀ {b : Addr} {m : Str → Option Value}, sh.heap.Ns b m → (hidT sh.heap H).Ns b m := fun {b m} z => by
    obtain ⟨o, es, ep, e, d, r⟩ := z
    exact ⟨o, es, ep, at_base e (dict_free e d), d, r⟩
  have kinB : K.In (hidT sh.heap H) := fun b o e => at_base (kin b o e) (by
    cases q : H b with
    | none => rfl
    | some u =>
      obtain rfl := isA b (by rw [q]; exact fun z => by cases z)
      rw [notK (by rw [q]; exact fun z => by cases z)] at e
      cases e)
  have limB : (hidT sh.heap H).NoLimit := by
    obtain ⟨mc, h1, h2⟩ := lim
    exact ⟨mc, nsB h1, h2⟩
  have e0 : Env0 P w K mg (hidT sh.heap H) callerA [] sh H :=
    { frames := rfl, mod := ⟨kinB, nsB glob, ⟨mb, nsB blt, bltE⟩, limB⟩, bs := fun b o e => of_hidT e, bsz := Nat.le_of_eq (hidT_size _ _), funs := trivial, frf := fun b hb => absurd (show b ∈ ([] : List Addr) from hb) List.not_mem_nil, hok := hok, bare := .of_eq gen }
  refine codeAny_mono (fn_at (F _ kinB (nsB glob)) hr e0 (hbind sh (.ref a)) hS hlen) fun r s' h => ?_
  cases r with
  | error e =>
    have h : L2.CX P w [] H sh (fun _ _ _ => False) e s' := h
    obtain ⟨_, _, _, _, _, _, _, _, _, _, h⟩ := h
    exact False.elim h.2.2
  | ok fl =>
    cases fl with
    | next => exact False.elim h
    | brk => exact False.elim h
    | cont => exact False.elim h
    | ret u =>
      obtain ⟨v, H', os, bare, un, hok', rv, q⟩ := h
      have q : v = .bl true := q
      subst q
      obtain rfl : u = Value.bool true := rv
      refine ⟨rfl, OldK.of_keep fun b o e => ?_, os, bare⟩
      cases q : H b with
      | none => exact un.keep b o e q (fun z => absurd (show b ∈ ([] : List Addr) from z) List.not_mem_nil) (by simp)
      | some u =>
        rcases only b with z | ⟨ob, xs, z⟩
        · rw [q] at z; cases z
        · obtain ⟨e1, _⟩ := hok b _ z
          obtain ⟨e2, _⟩ := hok' b _ (un.frzs b ob _ z)
          cases e.symm.trans e1
          exact e2
end Kn
namespace Kn
open PySem PySem.Spec PyProof.Rows
open L2 hiding St
end Kn
namespace Kn
open PySem PySem.Spec PyProof.Rows
open L2 hiding St
def smlB (z : Str) : Bool := z.cps.all (· < 0x110000)
mutual
def fine : Dat → Bool
  | .non => true
  | .bl _ => true
  | .int i => decide ((PyData.shown (.int i)).length ≤ 13) && decide (i.natAbs.log2 < 1920)
  | .str x => smlB x
  | .lst xs => fines xs
  | .fro xs => fines xs
  | .tup xs => fines xs
  | _ => false
def fines : List Dat → Bool
  | [] => true
  | d :: ds => fine d && fines ds
end
mutual
theorem fine_all : ∀ d : Dat, fine d = true → plain d = true ∧ (toPy d).canLay0 = true ∧ (toPy d).showable = true ∧ (toPy d).hasDict = false ∧ (toPy d).intsShort 13 = true
  | .non, _ => ⟨rfl, rfl, rfl, rfl, rfl⟩
  | .bl _, _ => ⟨rfl, rfl, rfl, rfl, rfl⟩
  | .int i, h => by
    have h : (decide ((PyData.shown (.int i)).length ≤ 13) && decide (i.natAbs.log2 < 1920)) = true := h
    obtain ⟨h1, h2⟩ := Bool.and_eq_true_iff.mp h
    exact ⟨rfl, rfl, h2, rfl, h1⟩
  | .str x, h => ⟨rfl, h, rfl, rfl, rfl⟩
  | .lst xs, h => by
    obtain ⟨h1, h2, h3, h4, h5⟩ := fines_all xs h
    exact ⟨h1, h2, h3, h4, h5⟩
  | .fro xs, h => by
    obtain ⟨h1, h2, h3, h4, h5⟩ := fines_all xs h
    exact ⟨h1, h2, h3, h4, h5⟩
  | .tup xs, h => by
    obtain ⟨h1, h2, h3, h4, h5⟩ := fines_all xs h
    exact ⟨h1, h2, h3, h4, h5⟩
theorem fines_all : ∀ ds : List Dat, fines ds = true → plains ds = true ∧ PyData.canLayAll0 (toPys ds) = true ∧ PyData.showableAll (toPys ds) = true ∧ PyData.hasDictAll (toPys ds) = false ∧ PyData.intsShortAll 13 (toPys ds) = true
  | [], _ => ⟨rfl, rfl, rfl, rfl, rfl⟩
  | d :: ds, h => by
    have h : (fine d && fines ds) = true := h
    obtain ⟨h1, h2⟩ := Bool.and_eq_true_iff.mp h
    obtain ⟨a1, a2, a3, a4, a5⟩ := fine_all d h1
    obtain ⟨b1, b2, b3, b4, b5⟩ := fines_all ds h2
    refine ⟨?_, ?_, ?_, ?_, ?_⟩
    · show (plain d && plains ds) = true
      rw [a1, b1]; rfl
    · show (PyData.canLay0 (toPy d) && PyData.canLayAll0 (toPys ds)) = true
      rw [a2, b2]; rfl
    · show (PyData.showable (toPy d) && PyData.showableAll (toPys ds)) = true
      rw [a3, b3]; rfl
    · show (PyData.hasDict (toPy d) || PyData.hasDictAll (toPys ds)) = false
      rw [a4, b4]; rfl
    · show (PyData.intsShort 13 (toPy d) && PyData.intsShortAll 13 (toPys ds)) = true
      rw [a5, b5]; rfl
end
def dep (d : Dat) : Nat := (toPy d).depth
def wgt (d : Dat) : Nat := (toPy d).weight
theorem reprOk_of {d : Dat} (h : fine d = true) (hd : dep d ≤ 64) (hw : wgt d ≤ 2 ^ 20) : reprOk d = true := by
  obtain ⟨h1, h2, h3, h4, h5⟩ := fine_all d h
  have h6 : (toPy d).layable0 = true := by
    unfold PyData.layable0
    rw [h2, decide_eq_true (show (toPy d).depth ≤ 64 from hd), decide_eq_true (show (toPy d).weight ≤ 2 ^ 20 from hw)]; rfl
  unfold reprOk
  rw [h1, h6, h3, h4, h5]; rfl
def deps : List Dat → Nat := fun ds => PyData.depthAll (toPys ds)
def wgts : List Dat → Nat := fun ds => PyData.weightAll (toPys ds)
section
variable {α : Type} {f : α → Dat} {l : List α} {b : Nat}
theorem fines_map : ∀ {l : List α}, (∀ a ∈ l, fine (f a) = true) → fines (l.map f) = true
  | [], _ => rfl
  | a :: l, h => by
    show (fine (f a) && fines (l.map f)) = true
    rw [h a List.mem_cons_self, fines_map fun c hc => h c (List.mem_cons_of_mem a hc)]; rfl
theorem deps_map : ∀ {l : List α}, (∀ a ∈ l, dep (f a) ≤ b) → deps (l.map f) ≤ b
  | [], _ => Nat.zero_le _
  | a :: l, h => Nat.max_le.mpr ⟨h a List.mem_cons_self, deps_map fun c hc => h c (List.mem_cons_of_mem a hc)⟩
theorem wgts_map : ∀ {l : List α}, (∀ a ∈ l, wgt (f a) ≤ b) → wgts (l.map f) ≤ l.length * (b + 1)
  | [], _ => Nat.zero_le _
  | a :: l, h => by
    have h1 := h a List.mem_cons_self
    have h2 := wgts_map (l := l) fun c hc => h c (List.mem_cons_of_mem a hc)
    show wgt (f a) + 1 + wgts (l.map f) ≤ (l.length + 1) * (b + 1)
    rw [Nat.succ_mul]
    omega
end
theorem dep_lst {ds : List Dat} : dep (.lst ds) = deps ds + 1 := rfl
theorem wgt_lst {ds : List Dat} : wgt (.lst ds) = wgts ds := rfl
theorem fine_nat {m : Int} (h0 : 0 ≤ m) (h : m < 10 ^ 12) : fine (.int m) = true := by
  have h1 : (PyData.shown (.int m)).length ≤ 13 := by
    have := PyProof.Rows.toString_length_le (v := m) (k := 12) h0 (by decide) h
    exact Nat.le_trans this (by decide)
  have h2 : m.natAbs.log2 < 1920 := by
    by_cases hz : m.natAbs = 0
    · rw [hz]; decide
    · rw [Nat.log2_lt hz]
      have e : m.natAbs < 10 ^ 12 := by omega
      exact Nat.lt_of_lt_of_le e (by decide +kernel)
  show (decide _ && decide _) = true
  rw [decide_eq_true h1, decide_eq_true h2]; rfl
theorem wgt_nat {m : Int} (h0 : 0 ≤ m) (h : m < 10 ^ 12) : wgt (.int m) ≤ 41 := by
  show (if m == 0 then 0 else m.natAbs.log2 + 1) ≤ 41
  split
  · exact Nat.zero_le _
  · rename_i hm
    have hz : m.natAbs ≠ 0 := fun e => hm (by rw [show m = 0 by omega]; rfl)
    have h2 : m.natAbs.log2 < 40 := by
      rw [Nat.log2_lt hz]
      have e : m.natAbs < 10 ^ 12 := by omega
      exact Nat.lt_of_lt_of_le e (by decide +kernel)
    omega
end Kn
namespace Kn
open PySem PySem.Spec PyProof.Rows
open L2 hiding St
section
variable {X : Cx} {O : Own} {ρ : List Slot} {x : ExK} {k k' : Slot → Own → Prop} {kl kl' : List Slot → Own → Prop} {e a b c o : Expr} {es : List Expr} {pos p apos pos2 : Pos} {D : SD} {g g' : Bool} {j n : Nat} {S : SpecT} {df : List Dat} {m f : Str}
/-- m is a def of the class at C, with its contract -/
def MCal (P : Program) (w : World) (K : PySem.W.Frag) (mg : Str → Option Value) (base : Heap) (g : Bool) (k : Nat) (C : Addr) (m : Str) (S : SpecT) (df : List Dat) : Prop :=
  ∃ (f : Addr) (fd : FuncData) (ps : List Str) (ds : List Value) (dvs : List V), Meth K C m f ∧ Fn P w K mg base g k f fd ps S ∧ Binds K fd ps ds ∧ Vals dvs ds ∧ ∀ G, RpA K G dvs df
@[reducible] def kMake (x : ExK) (ρ : List Slot) (k : Slot → Own → Prop) (a : Addr) : Out → Own → Prop
  | .ret s, O => s = .dat .non ∧ k (.own a) O
  | .exc e, O => x e ρ O
/-- the class at C has the __init__ with the contract -/
def MkC (P : Program) (w : World) (K : PySem.W.Frag) (mg : Str → Option Value) (base : Heap) (k : Nat) (C : Addr) (S : SpecT) (df : List Dat) : Prop :=
  ∃ (f : Addr) (fd : FuncData) (ps : List Str) (ds : List Value) (dvs : List V), Mk K C f ∧ Fn P w K mg base false k f fd ps S ∧ Binds K fd ps ds ∧ Vals dvs ds ∧ ∀ G, RpA K G dvs df
theorem MkC.kp {P : Program} {w : World} {K : PySem.W.Frag} {mg : Str → Option Value} {base : Heap} {C : Addr} (M : MkC P w K mg base n C S df) : PySem.W.keepIn K (.ref C) = true := by
  obtain ⟨f, fd, ps, ds, dvs, M, _⟩ := M
  exact M.kp
end
end Kn
namespace KnX
open PySem PySem.Spec PyProof.Rows
end KnX
namespace Kn
open PySem PySem.Spec PyProof.Rows
open L2 hiding St
end Kn
namespace Kn
open PySem PySem.Spec PyProof.Rows
open L2 hiding St
/-- a clause: its class, the place of its name, its suite's reading -/
structure Cls1 where
  c : Value
  i : Option Nat
  ts : Addr → Value → Option Addr → TS
def unI (D : Ends) : Option Nat → Ends
  | none => D
  | some j => ⟨fun σ H => D.nx (σ.set j none) H, D.rt, fun σ H => D.bk (σ.set j none) H, fun σ H => D.ct (σ.set j none) H⟩
def inI (σ : SV) (a : Addr) : Option Nat → SV
  | none => σ
  | some j => σ.set j (some (.ref a))
def wAny (K : PySem.W.Frag) (Wo : WX) (D : Ends) : List Cls1 → WX
  | [] => Wo
  | z :: r => fun cls d σ H => ∃ b, PySem.W.exmOne K cls z.c = some b ∧ (b = true → ∀ a, H a = none → z.ts a cls d (unI D z.i) (inI σ a z.i) H) ∧ (b = false → wAny K Wo D r cls d σ H)
def nmOf (X : Cx) (nn : Option Str) (i : Option Nat) : Prop := match nn, i with
  | none, none => True
  | some n, some j => X.N[j]? = some n ∧ X.env.kindOf n = some .local
  | _, _ => False
inductive HdAny (X : Cx) : List ExceptHandler → List Cls1 → Prop
  | nil : HdAny X [] []
  | cons {x : Str} {c : Value} {i : Option Nat} {nn : Option Str} {ts : Addr → Value → Option Addr → TS} {b₀ : Stmt} {suite : List Stmt} {np pos' : Pos} {hds : List ExceptHandler} {l : List Cls1} (hc : Names X x c) (hn : nmOf X nn i)
      (hsu : ∀ (a : Addr) (oe : Obj) (cls : Value) (d : Option Addr) (pn : List (Addr × Obj)), Zc cls d oe → (∃ vs, oe.data = .fields vs) → PSs (X.suite a ((a, oe) :: pn)) (b₀ :: suite) (ts a cls d)) (r : HdAny X hds l) :
      HdAny X (.ExceptHandler (some (.Name x np)) nn (b₀ :: suite) pos' :: hds) (⟨c, i, ts⟩ :: l)
/-- an exception at a that has come down to our frame; s0: the state in which it was let out -/
structure Down (X : Cx) (pins : List (Addr × Obj)) (σ : SV) (H : Hp) (cls : Value) (d : Option Addr) (a : Addr) (B : Heap) (s0 s : Shared) : Prop where
  inv : Inv X pins σ H s0
  ground : ∀ b o, s0.heap.get? b = some o → b ∉ frs X.stack → B.get? b = some o
  fly : HandSPX.FlyingZ B X.stack a (Zc cls d) s.heap
  up : s0.heap.UpToSlots s.heap
  free : H a = none
  os : s.os = s0.os
  bare : AllBare s.gens
section
variable {X : Cx} {pins : List (Addr × Obj)} {σ : SV} {H : Hp} {cls : Value} {d : Option Addr} {a : Addr} {B : Heap} {s0 s : Shared} {oe : Obj}
theorem Down.now (w : Down X pins σ H cls d a B s0 s) : Inv X pins σ H s := w.inv.landed w.ground w.fly.1 w.up w.os w.bare
theorem Down.move (w : Down X pins σ H cls d a B s0 s) {h : Heap} (f : HandSPX.FlyingZ B X.stack a (Zc cls d) h) (u : s.heap.UpToSlots h) : Down X pins σ H cls d a B s0 { s with heap := h } :=
  { w with fly := f, up := w.up.trans u }
/-- the frame's note is taken away -/
theorem Down.quiet (w : Down X pins σ H cls d a B s0 s) {M : Model} {A : Around} {E : Value → Shared → Prop} {Q : Unit → Shared → Prop} (k : ∀ t, Down X pins σ H cls d a B s0 t → Q () t) : wpAny M A (setFlight (.ref a) none) Q E s :=
  HandSPX.lands_againZ w.fly fun _ f u => k _ (w.move f u)
theorem Down.obj (w : Down X pins σ H cls d a B s0 s) : ∃ oe, s.heap.get? a = some oe ∧ Zc cls d oe ∧ ∃ vs, oe.data = .fields vs :=
  let ⟨oe, vs, h1, h2, h3⟩ := w.fly.there
  ⟨oe, h1, h2, vs, h3⟩
/-- no frame lies where it lies -/
theorem Down.noFrame (w : Down X pins σ H cls d a B s0 s) {b : Addr} (hb : b ∈ frs X.stack) : a ≠ b := by
  rintro rfl
  obtain ⟨oe, h1, _, vs, h3⟩ := w.obj
  obtain ⟨_, o, h4, h5⟩ := w.fly.2.2.1.mem hb
  rw [h1] at h4
  cases h4
  exact h5 vs h3
theorem Down.enter (w : Down X pins σ H cls d a B s0 s) (hs : X.stack = X.env :: X.outer) (hf : X.env.frame = some X.env.locals) (h : s.heap.get? a = some oe) (hd : ∃ vs, oe.data = .fields vs) : Inv (X.suite a ((a, oe) :: (X.pn ++ pins))) [] σ H s := by
  obtain ⟨vs, hd⟩ := hd
  have top : X.env.locals ∈ frs X.stack := by
    rw [hs]
    exact List.mem_filterMap.mpr ⟨X.env, .head _, hf⟩
  refine w.now.suite h hd w.free (w.noFrame top) fun hm => ?_
  have sub : a ∈ frs X.stack := by
    obtain ⟨e, h1, h2⟩ := List.mem_filterMap.mp hm
    rw [hs]
    exact List.mem_filterMap.mpr ⟨e, .tail _ h1, h2⟩
  exact w.noFrame sub rfl
/-- no clause is left: it goes on, out of our frame -/
theorem Down.goesOn (w : Down X pins σ H cls d a B s0 s) (hf : X.env.frame = some X.env.locals) {Wo : WX} (tk : Takes X Wo) (hw : Wo cls d σ H) {Q : Flow → Shared → Prop} : wpAny (model X.prog X.w) X.A (handleBy (.ref a) X.env []) Q X.xe s := by
  refine wpAny_handleBy_nil ?_
  have out : wpAny (model X.prog X.w) X.A (setFlight (.ref a) X.env.frame) (fun _ t => wpAny (model X.prog X.w) X.A (throw (.ref a) : Sem Flow) Q X.xe t) X.xe s := by
    rw [hf]
    exact HandSPX.setFlight_upZ w.fly fun h held u => wpAny_throw (tk _ _ ⟨a, B, s0, pins, σ, H, cls, d, rfl, w.inv, w.ground, w.up.trans u, .inr (.inr held), w.free, w.os, w.bare, hw⟩)
  obtain ⟨_, _, _, oe, vs, T, _, _, h1, _, h2, h3, _⟩ := w.fly
  have noted : ¬ (Value.ref T == Value.none) = true := by simp
  show wpAny _ _ (passOn _ _ _) _ _ _
  unfold PySem.passOn
  refine wpAny_bind (wpAny_field h1 h2 h3 ?_)
  rw [if_neg noted]
  first
    | exact wpAny_bind (wpAny_pure (wpAny_bind out))
    | exact wpAny_bind out
theorem suite_out {q : Addr × Obj} {E : Ends} {f : Flow} {t : Shared} (ok : X.Ok) (sp : SP (X.suite a (q :: (X.pn ++ pins))) [] E f t) : SP X pins E f t := by
  cases f with
  | next => exact sp.imp fun _ => Exists.imp fun _ => And.imp_left fun I => I.unsuite ok
  | brk => exact sp.imp fun _ => Exists.imp fun _ => And.imp_left fun I => I.unsuite ok
  | cont => exact sp.imp fun _ => Exists.imp fun _ => And.imp_left fun I => I.unsuite ok
  | ret u => exact sp.imp fun _ => Exists.imp fun _ => Exists.imp fun _ => And.imp_left fun I => I.unsuite ok
/-- the clause's name goes -/
theorem name_gone {D : Ends} {f : Flow} {t : Shared} {j : Nat} {n : Str} {pos : Pos} {M : Model} {A : Around} {E : Value → Shared → Prop} (hN : X.N.Nodup) (hi : X.N[j]? = some n) (hl : X.env.kindOf n = some .local) (sp : SP X pins (unI D (some j)) f t) :
    wpAny M A (do bindName X.env n .none; unbindBehindTheSuite X.env n pos) (fun _ t' => SP X pins D f t') E t := by
  cases f with
  | next => obtain ⟨σ', H', I, h⟩ := sp; exact gone_ok I hN hi hl fun _ J => ⟨_, _, J, h⟩
  | brk => obtain ⟨σ', H', I, h⟩ := sp; exact gone_ok I hN hi hl fun _ J => ⟨_, _, J, h⟩
  | cont => obtain ⟨σ', H', I, h⟩ := sp; exact gone_ok I hN hi hl fun _ J => ⟨_, _, J, h⟩
  | ret u => obtain ⟨v, σ', H', I, r, h⟩ := sp; exact gone_ok I hN hi hl fun _ J => ⟨v, _, _, J, r, h⟩
/-- a clause's class, while the exception is handled -/
theorem Down.asks (w : Down X pins σ H cls d a B s0 s) (hs : X.stack = X.env :: X.outer) (hf : X.env.frame = some X.env.locals) {nm : Str} {c : Value} {np : Pos} (is : Names X nm c) {Q E : Value → Shared → Prop} (k : Q c s) :
    wpAny (model X.prog X.w) (X.A.mark (some (.ref a))) (eval (.Name nm np) X.env) Q E s := by
  obtain ⟨oe, h1, _, h3⟩ := w.obj
  have I := w.enter hs hf h1 h3
  rcases is with ⟨glob, nodbg, known | ⟨known, boot, notNone⟩⟩
  · exact ld_glob (X := X.suite a _) I glob known k nodbg
  · exact ld_blt (X := X.suite a _) I glob known boot k notNone nodbg
/-- the clauses one after the other -/
theorem Down.handled (w : Down X pins σ H cls d a B s0 s) (hs : X.stack = X.env :: X.outer) (hf : X.env.frame = some X.env.locals) (hN : X.N.Nodup) {Wo : WX} (tk : Takes X Wo) {D : Ends} {ks : List ExceptHandler} {l : List Cls1} (hk : HdAny X ks l) :
    wAny X.K Wo D l cls d σ H → wpAny (model X.prog X.w) X.A (handleBy (.ref a) X.env ks) (SP X pins D) X.xe s := by
  induction hk with
  | nil => exact fun hw => w.goesOn hf tk hw
  | @cons nm c i nn ts b₀ suite np pos' more l' is place runs _ ih =>
    rintro ⟨b, meets, yes, no⟩
    refine wpAny_handleBy_cons (codeAny_handlers_test (w.asks hs hf is ?_)) (fun q => nomatch q)
    obtain ⟨oe, here, z, _⟩ := w.obj
    have kind : PySem.W.Looks (model X.prog X.w) s.heap (typeOf (.ref a)) cls := fun _ _ _ _ k q => wpAny_typeOf_ref (k _ _ here) (z.1.symm ▸ q)
    refine (PySem.W.exm_one w.now.kIn kind meets).here ?_
    match b, yes, no with
    | false, _, no => exact ih (no rfl)
    | true, yes, _ =>
      match nn, i, place with
      | none, none, _ =>
        refine codeAny_handlers_suite (w.quiet fun t w' => ?_)
        obtain ⟨oe', here', z', fl'⟩ := w'.obj
        exact wpAny_mono ((runs a oe' cls d (X.pn ++ pins) z' fl').run [] _ _ H _ (w'.enter hs hf here' fl') (yes rfl a w.free)) (fun f t' sp => suite_out w.inv.ok sp) fun _ _ => False.elim
      | some n, some j, ⟨at_, loc⟩ =>
        refine codeAny_handlers_suite_as (w.quiet fun t w' => ?_)
        obtain ⟨oe', here', z', fl'⟩ := w'.obj
        refine store_ok (X := X.suite a _) (v := .ref a) (w'.enter hs hf here' fl') hN at_ (.inl loc) rfl (fun t2 I2 => ?_) (.inr loc)
        exact wpAny_mono ((runs a oe' cls d (X.pn ++ pins) z' fl').run [] t2 _ H _ I2 (yes rfl a w.free)) (fun f t' sp => name_gone hN at_ loc (suite_out w.inv.ok sp)) fun _ _ => False.elim
end
/-- try, with any clauses that name classes -/
theorem ps_try_any {X : Cx} {body : List Stmt} {h1 : ExceptHandler} {hds : List ExceptHandler} {l : List Cls1} {pos : Pos} {tb : WX → TS} {Wo : WX} (hs : X.stack = X.env :: X.outer) (hf : X.env.frame = some X.env.locals) (hN : X.N.Nodup) (tk : Takes X Wo)
    (within : ∀ (W : WX) (pn : List (Addr × Obj)) (xe : Value → Shared → Prop), Takes (X.tr pn xe) W → PassesOwn (model X.prog X.w) X.A X.env xe → PSs (X.tr pn xe) body (tb W)) (clauses : HdAny X (h1 :: hds) l) :
    PS X (.Try body (h1 :: hds) [] [] pos) (fun D σ H => tb (wAny X.K Wo D l) D σ H) := by
  constructor
  intro pins s σ H D I h
  have frames : X.A.frames = some (X.env :: X.outer) := hs ▸ I.ok.frames
  refine wpAny_Try_except (wpAny_mono ((within _ (X.pn ++ pins) _ (fun u t raised => ?_) PassesOwn.looking).run [] s σ H D (I.toTry _) h) (fun f t left => ?_) fun _ _ => id)
  · obtain ⟨a, B, t0, _, σ', H', cls, d, rfl, J, ground, up, sky, free, os, bare, want⟩ := raised
    have J := J.ofTry (pins := pins) I.ok
    refine Sky.land Zc.steady frames hf (hs ▸ sky) fun h2 fly up2 => ?_
    have w : Down X pins σ' H' cls d a B t0 { t with heap := h2 } := ⟨J, ground, hs ▸ fly, up.trans up2, free, os, bare⟩
    exact w.handled hs hf hN tk clauses want
  · cases f with
    | next => exact wpAny_execs_nil (left.imp fun _ => Exists.imp fun _ => And.imp_left fun J => J.ofTry I.ok)
    | brk => exact left.imp fun _ => Exists.imp fun _ => And.imp_left fun J => J.ofTry I.ok
    | cont => exact left.imp fun _ => Exists.imp fun _ => And.imp_left fun J => J.ofTry I.ok
    | ret u => exact left.imp fun _ => Exists.imp fun _ => Exists.imp fun _ => And.imp_left fun J => J.ofTry I.ok
/-- the clauses, in the words of the layer -/
structure Hd where
  c : Value
  i : Option Nat
  b : Stmt
  su : List Stmt
def unD (D : SD) : Option Nat → SD
  | none => D
  | some j => { nx := fun ρ2 O2 => D.nx (ρ2.set j .unk) O2, rt := D.rt, bk := fun ρ2 O2 => D.bk (ρ2.set j .unk) O2, ct := fun ρ2 O2 => D.ct (ρ2.set j .unk) O2 }
def Caught (X : Cx) (D : SD) (x : ExK) : List Hd → ExK
  | [] => x
  | z :: r => fun e ρ O => ∃ t, ExMt X.K e z.c t ∧ (t = true → Suite X z.i (z.b :: z.su) (unD D z.i) e ρ O) ∧ (t = false → Caught X D x r e ρ O)
inductive HdsAre (X : Cx) : List ExceptHandler → List Hd → Prop
  | nil : HdsAre X [] []
  | cons {x : Str} {c : Value} {i : Option Nat} {nn : Option Str} {b₀ : Stmt} {suite : List Stmt} {np pos' : Pos} {hds : List ExceptHandler} {l : List Hd} (hc : Names X x c) (hn : nmOf X nn i) (r : HdsAre X hds l) :
      HdsAre X (.ExceptHandler (some (.Name x np)) nn (b₀ :: suite) pos' :: hds) (⟨c, i, b₀, suite⟩ :: l)
section
variable {X : Cx} {O : Own} {ρ : List Slot} {x : ExK} {D : SD} {pos : Pos} {body : List Stmt}
def tsOf (X : Cx) (z : Hd) : Addr → Value → Option Addr → TS := fun a cls d D σ H => ∀ oe pn, Zc cls d oe → (∃ vs, oe.data = .fields vs) → Wss (X.suite a ((a, oe) :: pn)) (z.b :: z.su) D σ H
theorem hds_any : ∀ {hds : List ExceptHandler} {l : List Hd}, HdsAre X hds l → HdAny X hds (l.map fun z => ⟨z.c, z.i, tsOf X z⟩)
  | _, _, .nil => .nil
  | _, _, .cons hc hn r => .cons hc hn (fun a oe cls d pn hz hf => ⟨fun pins s σ H D I q => (q oe pn hz hf).r pins s I⟩) (hds_any r)
theorem s1_try {h1 : ExceptHandler} {hds : List ExceptHandler} (l : List Hd) (hN : X.N.Nodup) (hh : HdsAre X (h1 :: hds) l)
    (h : ∀ (pn : List (Addr × Obj)) (xe : Value → Shared → Prop), PassesOwn (model X.prog X.w) X.A X.env xe → SW (X.tr pn xe) O ρ body (Caught X D x l) D)
    (hs : X.stack = X.env :: X.outer := by rfl) (hf : X.env.frame = some X.env.locals := by rfl) :
    S1 X O ρ (.Try body (h1 :: hds) [] [] pos) x D := fun H0 σ H st tk E ok => by
  refine ws_of (ps_try_any (X := X) (tb := fun W D σ H => ∀ pn xe, Takes (X.tr pn xe) W → PassesOwn (model X.prog X.w) X.A X.env xe → Wss (X.tr pn xe) body D σ H)
    hs hf hN tk (fun W pn xe tkW hpo => ⟨fun pins s σ H D I q => (q pn xe tkW hpo).r pins s I⟩) (hds_any hh)) ?_
  intro pn xe tkW hpo
  refine h pn xe hpo H0 σ H st (tkW.imp fun cls d σ' H' hw => ?_) E ok
  obtain ⟨ex, ρ', O', hc, st', hx⟩ := hw
  clear hh h tkW
  induction l with
  | nil => exact ⟨ex, ρ', O', hc, st', hx⟩
  | cons z r ih =>
    obtain ⟨t, hm, hy, hn⟩ := hc
    refine ⟨t, exMt_of hm hx, fun ht a ha oe pn' hz hf' => ?_, fun ht => ih (hn ht)⟩
    obtain ⟨c, i, b0, su⟩ := z
    cases i with
    | none => exact suite_of (i := none) (hy ht) st' hx ha hz hf' ok
    | some j => exact suite_of (i := some j) (hy ht) st' hx ha hz hf' ⟨fun σ2 ρ2 O2 H2 q s => ok.nx _ _ O2 H2 q (s.unset j), ok.rt, fun σ2 ρ2 O2 H2 q s => ok.bk _ _ O2 H2 q (s.unset j), fun σ2 ρ2 O2 H2 q s => ok.ct _ _ O2 H2 q (s.unset j)⟩
end
end Kn
namespace Kn
open PySem PySem.Spec PyProof.Rows
open L2 hiding St
/-- an int under a module's name -/
def IntIn (K : PySem.W.Frag) (nm : Str) (i : Int) : Prop := ∃ t, PySem.W.nsIn K mainGlobals nm = some (some (.int i t))
theorem IntIn.glob {K : PySem.W.Frag} {mg : Str → Option Value} {nm : Str} {i : Int} (h : IntIn K nm i) (T : TopOf K mg) : GlobD K mg nm (.int i) := by
  obtain ⟨t, a⟩ := h
  exact ⟨.int i, .int i t, T.is a, ⟨t, rfl⟩, fun G => .int i⟩
end Kn
namespace Kn
open PySem PySem.Spec PyProof.Rows
open L2 hiding St
end Kn
namespace KnX
open PySem PySem.Spec PyProof.Rows L2
/-- an exception that a call within X let out -/
def Flies (X : Cx) (W : XK) (u : Value) (t : Shared) : Prop :=
  ∃ (a : Addr) (B : Heap) (s0 : Shared) (pins : List (Addr × Obj)) (σ : L2.St) (H : Hp) (cls : Value) (d : Option Addr), u = .ref a ∧ Kn.Down X pins σ H cls d a B s0 t ∧ W cls d H
/-- a traced exception's note -/
theorem traced_note {h B B' : Heap} {a : Addr} {Z Z' : Obj → Prop} {x y : Value} (p : HandSPX.TracedZ h B a Z x) (q : HandSPX.TracedZ h B' a Z' y) : x = y := by
  obtain ⟨o1, f1, T1, p1, t1, a1, _, a2, a3, _, _, a4, a5, a6⟩ := p
  obtain ⟨o2, f2, T2, p2, t2, b1, _, b2, b3, _, _, b4, b5, b6⟩ := q
  obtain rfl : o1 = o2 := Option.some.inj (a1.symm.trans b1)
  obtain rfl : f1 = f2 := by rw [a2] at b2; cases b2; rfl
  obtain rfl : T1 = T2 := by rw [a3] at b3; cases b3; rfl
  obtain rfl := Option.some.inj (a4.symm.trans b4)
  rw [a5] at b5
  cases b5
  exact Option.some.inj (a6.symm.trans b6)
/-- of all that may be in the air, a call lets out what flies -/
theorem Flies.of_call {X : Cx} {pins : List (Addr × Obj)} {σ : L2.St} {H : Hp} {s s' : Shared} {E W : XK} (I : Inv X pins σ H s) (hW : ∀ cls d H', E cls d H' → W cls d H') {u : Value} (c : L2.CX X.prog X.w X.stack H s E u s') : Flies X W u s' := by
  have x : XE X (fun cls d _ H' => W cls d H') u s' := XE.of_call I hW c
  obtain ⟨a, B, s0, pins', σ', H', cls, d, same, J, ground, up, sky, free, os, bare, want⟩ := x
  obtain ⟨a', _, _, _, _, same', fly, _⟩ := c
  obtain rfl : a = a' := Value.ref.inj (same.symm.trans same')
  have noted := fly.2.2.2
  refine ⟨a, B, s0, pins', σ', H', cls, d, same, ⟨J, ground, ?_, up, free, os, bare⟩, want⟩
  rcases sky with ⟨_, _, _, oe, vs, here, _, data, bare1⟩ | flying | held
  · obtain ⟨oe', vs', T, _, _, here', _, data', traced, _⟩ := noted
    obtain rfl : oe = oe' := Option.some.inj (here.symm.trans here')
    rw [data] at data'
    cases data'
    rw [bare1] at traced
    cases traced
  · exact flying
  · have z := traced_note noted held.2.2.2
    cases z
/-- the context of a block whose exceptions come to xe -/
abbrev blkE (X : Cx) (s : Shared) (H : Hp) (scope : Scope) (ce : Env) (fp : List Addr) (xe : Value → Shared → Prop) : Cx := { X.blk s H scope ce fp with xe := xe }
section
variable {X : Cx} {xe xe' : Value → Shared → Prop} {s0 s : Shared} {H H0 : Hp} {scope : Scope} {ce : Env} {fp : List Addr} {pins : List (Addr × Obj)} {σ : L2.St}
theorem ok_blkE (I : (blkE X s H scope ce fp xe).Ok) : (blkE X s H scope ce fp xe').Ok :=
  ⟨I.mod, I.kind, I.glob, I.blt, I.above, I.inj, I.has, I.cab, I.hd, I.frames, I.stk, I.exf, I.bs, I.bsz, I.noex, I.exfs, I.funs, I.frf⟩
theorem inv_blkE (I : Inv (blkE X s0 H0 scope ce fp xe) pins σ H s) : Inv (blkE X s0 H0 scope ce fp xe') pins σ H s :=
  ⟨ok_blkE I.ok, I.os, I.bare, I.base, I.loc, I.cell, I.free, I.freeC, I.pin, I.hok, I.len⟩
end
end KnX
namespace KnX
open PySem PySem.Spec PyProof.Rows L2
structure Mid (Y : Cx) (k : Nat) (fp : List Addr) (tn : Nat → Heap → Prop) (σ : L2.St) (i : Nat) (H : Hp) (t : Shared) : Prop where
  inv : Inv Y [] σ H t
  toks : k ≤ t.toks
  at_ : tn i t.heap
  free : ∀ b ∈ fp, H b = none
section
variable {X : Cx} {s0 : Shared} {H0 : Hp} {scope : Scope} {ce : Env} {fp : List Addr} {tn : Nat → Heap → Prop} {σ : L2.St} {i : Nat} {H : Hp} {t : Shared} {tg elt iter : Expr} {ifs : List Expr} {J : It} {it : Addr} {k : Nat}
/-- a turn's body is done: the next may come -/
theorem Mid.next {xe : Value → Shared → Prop} {vs : List Nat} {τ : L2.St} {h7 : Heap} (T : Turn X.prog X.w X.K tg J fp it tn) (at_ : tn (i + 1) h7) (hw : wipe τ vs = wipe σ vs) (tk : k ≤ t.toks) (I : Inv (blkE X s0 H0 scope ce fp xe) ([] ++ pinsAt fp h7) τ H t) :
    Mid (blkE X s0 H0 scope ce fp (fun _ _ => False)) k fp tn (wipe σ vs) (i + 1) H t := by
  have stays : ∀ b ∈ fp, ∀ o, h7.get? b = some o → t.heap.get? b = some o ∧ H b = none := fun b hb o e => by
    have q := I.pin (b, o) (List.mem_append.mpr (.inr (List.mem_append.mpr (.inr (mem_pinsAt hb e)))))
    exact ⟨q.1, q.2.1⟩
  refine ⟨inv_blkE (I.unpinned (pins := [])) |>.weak ?_ fun j v e => ?_, tk, T.keep _ _ _ at_ fun b hb o e => (stays b hb o e).1, fun b hb => ?_⟩
  · rw [← hw, wipe_length]
  · rw [← hw] at e
    exact (wipe_some e).1
  · obtain ⟨o, e, _⟩ := T.obj _ _ at_ b hb
    exact (stays b hb o e).2
end
end KnX
namespace Kn
open PySem PySem.Spec PyProof.Rows
open L2 hiding St
end Kn
namespace Kn
open PySem PySem.Spec PyProof.Rows
open L2 hiding St
theorem bt_ValueError : bootBuiltins "ValueError" = some (.type "ValueError") := by decide +kernel
theorem bt_KeyError : bootBuiltins "KeyError" = some (.type "KeyError") := by decide +kernel
end Kn
namespace Kn
open PySem PySem.Spec PyProof.Rows
open L2 hiding St
end Kn
namespace Kn
open PySem PySem.Spec PyProof.Rows
open L2 hiding St
end Kn
namespace Kn
open PySem PySem.Spec PyProof.Rows
open L2 hiding St
end Kn
namespace Kn
open PySem PySem.Spec PyProof.Rows
open L2 hiding St
end Kn
namespace Kn
open PySem PySem.Spec PyProof.Rows
open L2 hiding St
end Kn
namespace Kn
open PySem PySem.Spec PyProof.Rows
open L2 hiding St
section
variable {X : Cx} {O : Own} {ρ : List Slot} {x : ExK} {k : Slot → Own → Prop} {tg iter tg1 iter1 : Expr} {pos : Pos} {D : SD}
theorem StOk.outer {K : PySem.W.Frag} {H0 H1 H2 : Hp} {O1 O2 : Own} {σ σ' : SV} {ρ ρ' : List Slot} (st1 : StOk K H0 O1 σ ρ H1) (st2 : StOk K (hid O1 H1) O2 σ' ρ' H2) : StOk K (hid O1 H1) O2 σ ρ H2 := ⟨st2.own, st2.base, pmap (fun _ _ z => EnvOk.mono st2.base z) st1.env⟩
theorem StOk.push {K : PySem.W.Frag} {H0 H : Hp} {O : Own} {σ : SV} {ρ : List Slot} {Dd : Addr} {acc : List Slot} {xs : List V} {u : V} {s : Slot} (st : StOk K H0 (up O Dd (.lst acc)) σ ρ H) (c : H Dd = some (.lst xs)) (c2 : Paired (SlOk K (hid (up O Dd (.lst acc)) H)) xs acc) (r : SlOk K (hid (up O Dd (.lst acc)) H) u s) :
    StOk K H0 (up O Dd (.lst (acc ++ [s]))) σ ρ (upd H Dd (.lst (xs ++ [u]))) := by
  have st6 := st.write (o := .lst (xs ++ [u])) (c := .lst (acc ++ [s])) up_at ⟨_, rfl, paired_app c2 (.cons r .nil)⟩
  rw [up_up] at st6
  exact st6
end
end Kn
namespace Kn
open PySem PySem.Spec PyProof.Rows
open L2 hiding St
def ItO (K : PySem.W.Frag) (J : It) (p : Addr) (ds fds : List Dat) : Prop := ∀ O H, OwnOk K O H → O p = some (.lst (ds.map .dat)) → ∀ i,
  (∀ d, fds[i]? = some d → J.go i H ∧ ∀ v H', J.yld i H v H' → Same H H' ∧ Rp K (hid O H') v d) ∧ (fds[i]? = none → J.stop i H)
theorem own_list {K : PySem.W.Frag} {O : Own} {H : Hp} {p : Addr} {ds : List Dat} (ok : OwnOk K O H) (hp : O p = some (.lst (ds.map .dat))) : ∃ xs, H p = some (.lst xs) ∧ RpA K (hid O H) xs ds := by
  obtain ⟨o, h1, xs, rfl, h2⟩ := ok.cell p _ hp
  exact ⟨xs, h1, RpA.of_paired h2⟩
theorem ito_list {K : PySem.W.Frag} {p : Addr} {ds : List Dat} : ItO K (Itl K p) p ds ds := fun O H ok hp i => by
  obtain ⟨xs, h1, r⟩ := own_list ok hp
  have hS : SqL K H p xs := sql_at h1
  refine ⟨fun d hd => ?_, fun hn => ⟨xs, hS, ?_⟩⟩
  · obtain ⟨v, e1, e2⟩ := r.get hd
    refine ⟨⟨xs, v, hS, e1⟩, fun v' H' hy => ?_⟩
    obtain ⟨rfl, hv⟩ := hy
    obtain rfl : v = v' := Option.some.inj (e1.symm.trans (hv xs hS))
    exact ⟨Same.refl _, e2⟩
  · rw [r.length]; exact List.getElem?_eq_none_iff.mp hn
section
variable {X : Cx} {O : Own} {ρ : List Slot} {x : ExK} {k : Slot → Own → Prop} {tg iter e : Expr} {pos p : Pos} {D : SD} {sts : List Stmt}
def IWO (X : Cx) (O : Own) (ρ : List Slot) (tg iter : Expr) (x : ExK) (k : Addr → List Dat → List Dat → Own → Prop) : Prop :=
  ∀ H0 σ H, StOk X.K H0 O σ ρ H → Takes X (Wsem X.K H0 x) → ∀ R : It → Hp → Prop, (∀ J H' p ds fds O', k p ds fds O' → StOk X.K H0 O' σ ρ H' → ItO X.K J p ds fds → R J H') → Wi X tg iter σ H R
theorem iwo_list {ko : Addr → List Dat → List Dat → Own → Prop} (h : EW X O ρ e x fun s O' => ∃ p ds, s = .own p ∧ O' p = some (.lst (ds.map .dat)) ∧ ko p ds ds O') : IWO X O ρ tg e x ko := fun H0 σ H st tk R q =>
  wi_of (pi_list pe_w) (h H0 σ H st tk _ fun v H' s O' ⟨p, ds, e1, hp, h1⟩ st' r => by
    subst e1
    cases r
    obtain ⟨xs, h2, h3⟩ := own_list st'.own hp
    exact ⟨_, rfl, ⟨_, sql_at h2⟩, q _ H' p ds ds O' h1 st' ito_list⟩)
end
end Kn
namespace Kn
open PySem PySem.Spec PyProof.Rows
open L2 hiding St
end Kn
namespace Kn
open PySem PySem.Spec PyProof.Rows
open L2 hiding St
end Kn
namespace Kn
open PySem PySem.Spec PyProof.Rows
open L2 hiding St
end Kn
namespace Kn
open PySem PySem.Spec PyProof.Rows
open L2 hiding St
/-- the unlike ones of some texts, as they come -/
def stS (acc : List Str) (v : Str) : List Str := if acc.any (· == v) = true then acc else acc ++ [v]
def ddS (xs : List Str) : List Str := xs.foldl stS []
theorem stS_len (acc : List Str) (v : Str) : (stS acc v).length = if acc.any (· == v) = true then acc.length else acc.length + 1 := by
  unfold stS
  split <;> simp
theorem ddS_le : ∀ (xs acc : List Str), (xs.foldl stS acc).length ≤ acc.length + xs.length
  | [], acc => Nat.le_refl _
  | x :: xs, acc => by
    have h1 := ddS_le xs (stS acc x)
    have h2 := stS_len acc x
    have h3 : (stS acc x).length ≤ acc.length + 1 := by rw [h2]; split <;> omega
    rw [List.foldl_cons, List.length_cons]; omega
theorem any_is {acc : List Str} {v : Str} : acc.any (· == v) = true ↔ v ∈ acc := by
  rw [List.any_eq_true]
  exact ⟨fun ⟨z, hz, e⟩ => (eq_of_beq e : z = v) ▸ hz, fun h => ⟨v, h, beq_self_eq_true v⟩⟩
theorem stS_old {acc : List Str} {v : Str} (h : v ∈ acc) : stS acc v = acc := if_pos (any_is.mpr h)
theorem stS_new {acc : List Str} {v : Str} (h : v ∉ acc) : stS acc v = acc ++ [v] := if_neg fun q => h (any_is.mp q)
theorem ddS_snoc (xs : List Str) (v : Str) : ddS (xs ++ [v]) = stS (ddS xs) v := by
  show (xs ++ [v]).foldl stS [] = _
  rw [List.foldl_append]; rfl
end Kn
namespace KnS
open PySem PySem.Spec PyProof.Rows L2
open PySem.Froz (SD sObj TxOk addTx add_x add_ok is_str)
open Kn (stS ddS stS_old stS_new ddS_snoc ddS_le stS_len)
theorem stS_nodup {acc : List Str} (h : acc.Nodup) (v : Str) : (stS acc v).Nodup := by
  by_cases q : v ∈ acc
  · rw [stS_old q]; exact h
  · rw [stS_new q]
    refine List.nodup_append.mpr ⟨h, List.pairwise_singleton _ _, fun a ha b hb e => q ?_⟩
    rw [← List.mem_singleton.mp hb, ← e]; exact ha
/-- its table can be read in order -/
def Told (w : World) (t : SetTable) : Prop := Ris t.place.toList ∧ (w.params.followText "set-order" = true ∨ t.led = true)
/-- at a lies the set of just the texts l -/
def TxS (P : Program) (w : World) (h : Heap) (a : Addr) (l : List Str) : Prop := ∃ D : SD, h.get? a = some (sObj "set" D) ∧ TxOk P w D l ∧ l.Nodup ∧ Told w D.2.2
theorem Told.tail {w : World} {ep : Nat} {es : Array (Int × Value)} {t : SetTable} {b : Bool} (h : Told w t) : Told w (PySem.Froz.tailTx ep es t b).2.2 := by
  unfold PySem.Froz.tailTx
  split
  · exact ⟨relayAll_ris _ _ _, h.2.imp id fun q => (relayAll_led _ _ _).trans q⟩
  · exact h
theorem Told.add {w : World} {D : SD} (h : Told w D.2.2) (k : Int) (v : Value) : Told w (addTx k v D).2.2 := by
  have laid : Told w (layNew D.2.2 D.1 k v).2.1 := ⟨layNew_ris _ _ _ _ h.1, h.2.imp id fun q => (layNew_led _ _ _ _).trans q⟩
  refine Told.tail ?_
  split
  · exact laid
  · exact laid
theorem TxOk.reorder {P : Program} {w : World} {D : SD} {l l' : List Str} (h : TxOk P w D l) (p : l'.Perm l) : TxOk P w D l' := ⟨h.el, fun k => p.mem_iff.trans (h.mem k), h.sz.trans p.length_eq.symm, h.fit⟩
section
variable {P : Program} {w : World} {h h' : Heap} {a : Addr} {l : List Str}
theorem TxS.keep (R : TxS P w h a l) (k : ∀ o, h.get? a = some o → h'.get? a = some o) : TxS P w h' a l := R.imp fun _ ⟨at_, r⟩ => ⟨k _ at_, r⟩
theorem TxS.there (R : TxS P w h a l) : ∃ o, h.get? a = some o := R.imp' (fun D => sObj "set" D) fun _ => And.left
/-- the new set, as the model makes it -/
def emptyS (w : World) : Obj := sObj "set" (#[], 0, .fresh 0 0 (!w.params.followText "set-order"))
theorem TxS.new (k : h.get? a = some (emptyS w)) : TxS P w h a [] := by
  refine ⟨_, k, PySem.Froz.TxOk.nil rfl, List.nodup_nil, List.Pairwise.nil, ?_⟩
  show _ ∨ (!w.params.followText "set-order") = true
  cases w.params.followText "set-order" <;> simp
end
section
variable {P : Program} {w : World} {A : Around} {E : Value → Shared → Prop} {s : Shared} {a : Addr} {l : List Str}
/-- a text that is in it already -/
theorem add_old {D : SD} {k : Str} {u : Tok} {Q : Bool → Shared → Prop} (at_ : s.heap.get? a = some (sObj "set" D)) (F : TxOk P w D l) (hk : k ∈ l) (few : l.length < scanBound) (q : Q false s) : wpAny (model P w) A (setAddHashed a (.str k u) (hashStr w k)) Q E s := by
  obtain ⟨es, ep, t⟩ := D
  have few' : es.size < scanBound := by rw [show es.size = l.length from F.sz]; exact few
  unfold setAddHashed setAddHashedIn
  apply wpAny_holding
  apply wpAny_bind
  refine wpAny_setState_of at_ rfl F.fit ?_
  dsimp only
  rw [byScan_of (knd := strKind P w) rfl few' F.el]
  unfold setAddByScan
  simp only [if_true]
  apply wpAny_bind
  apply wpAny_bind
  apply wpAny_rule
  apply wpAny_bind
  refine wpAny_setScan_of (knd := strKind P w) (k := k) (is_str k u) at_ rfl F.fit F.el ?_
  rcases met : List.findIdx? (fun e => (strKind P w).is k e.2) es.toList with _ | j
  · obtain ⟨e, he, z⟩ := (F.mem k).mp hk
    have no := List.findIdx?_eq_none_iff.mp met e he
    rw [z] at no
    cases no
  · rw [met]
    exact wpAny_pure (wpAny_pure q)
theorem add_any {k : Str} {u : Tok} {Q : Bool → Shared → Prop} (R : TxS P w s.heap a l) (few : l.length + 1 < scanBound) (q : ∀ (b : Bool) h', Heap.SameBut a s.heap h' → TxS P w h' a (stS l k) → Q b { s with heap := h' }) :
    wpAny (model P w) A (setAddHashed a (.str k u) (hashStr w k)) Q E s := by
  by_cases hk : k ∈ l
  · obtain ⟨D, at_, F, _⟩ := id R
    refine add_old at_ F hk (Nat.lt_of_succ_lt few) ?_
    have z := q false s.heap (Heap.SameBut.refl a s.heap)
    rw [stS_old hk] at z
    exact z R
  · obtain ⟨D, at_, F, nd, told⟩ := R
    refine add_x at_ F hk few (q true _ (Heap.SameBut.update ..) ?_)
    have nd' := stS_nodup nd k
    rw [stS_new hk] at nd' ⊢
    exact ⟨_, PySem.Froz.get_upd _ at_ rfl, TxOk.reorder (add_ok u F) (List.perm_append_singleton k l), nd', told.add _ _⟩
/-- the model's way to put one in -/
theorem put_in {k : Str} {u : Tok} {Q : Bool → Shared → Prop} (R : TxS P w s.heap a l) (few : l.length + 1 < scanBound) (q : ∀ (b : Bool) h', Heap.SameBut a s.heap h' → TxS P w h' a (stS l k) → Q b { s with heap := h', toks := s.toks + 1 }) :
    wpAny (model P w) A (setAdd a (.str k u)) Q E s := by
  unfold setAdd
  apply wpAny_holding
  apply wpAny_bind
  refine (strKind P w).pyHash (k := k) (is_str k u) ?_
  exact add_any (s := { s with toks := s.toks + 1 }) R few q
end
section
variable {P : Program} {w : World} {A : Around} {I : Addr} {fp wr : List Addr} {n : Nat} {Pv : Nat → Value → Prop} {St : Nat → Heap → Prop}
/-- the loop that fills it: done lies in it, rest is to come -/
theorem fill_loop (W : Walks P w A.in1 I fp wr n Pv St) {a : Addr} (out : a ∉ fp) {xs : List Str} (len : xs.length = n) (few : n + 1 < scanBound) (are : ∀ i v, Pv i v → ∃ c u, xs[i]? = some c ∧ v = .str c u) {R : Result → Shared → Prop} :
    ∀ (rest done : List Str) (s : Shared), done ++ rest = xs → St done.length s.heap → TxS P w s.heap a (ddS done) →
      (∀ h' tk, (∀ b o, b ≠ a → b ∉ wr → s.heap.get? b = some o → h'.get? b = some o) → TxS P w h' a (ddS xs) → R (.ok (.ret .none)) { s with heap := h', toks := tk }) →
      codeAny (model P w) A (.builtin "set.update.loop" ⟨[.ref a, .ref I], []⟩) R s := by
  intro rest
  have offW : ∀ {b}, b ∉ fp → b ∉ wr := fun h z => h (W.sub _ z)
  induction rest with
  | nil =>
    intro done s all st R1 fin
    rw [List.append_nil] at all
    subst all
    refine codeAny_builtin PyProof.Rows.F.entry_set_update_loop ?_
    rw [Around.under_plainId PyProof.Rows.F.plain_set_update_loop _]
    apply wpAny_bind
    rw [len] at st
    refine W.done s _ _ st fun h' tk keep => ?_
    exact wpAny_pure (fin h' tk (fun b o _ hb e => keep b o hb e) (R1.keep fun o e => keep a o (offW out) e))
  | cons c rest ih =>
    intro done s all st R1 fin
    have here : xs[done.length]? = some c := by rw [← all, List.getElem?_append_right (Nat.le_refl _), Nat.sub_self]; rfl
    have lt : done.length < n := by rw [← len]; exact (List.getElem?_eq_some_iff.mp here).1
    refine codeAny_builtin PyProof.Rows.F.entry_set_update_loop ?_
    rw [Around.under_plainId PyProof.Rows.F.plain_set_update_loop _]
    apply wpAny_bind
    refine W.item done.length s _ _ lt st fun v h1 tk1 pv st1 keep => ?_
    obtain ⟨c', u, at_, rfl⟩ := are _ _ pv
    obtain rfl : c = c' := Option.some.inj (here.symm.trans at_)
    have size : (ddS done).length ≤ 0 + done.length := ddS_le done []
    refine wpAny_bind (wpAny_holding (put_in (s := { s with heap := h1, toks := tk1 }) (R1.keep fun o e => keep a o (offW out) e) (by omega) fun _ h2 same R2 => ?_))
    rw [← ddS_snoc] at R2
    refine wpAny_pure ⟨plainId_quiet PyProof.Rows.F.plain_set_update_loop _, ih (done ++ [c]) _ (by rw [List.append_assoc]; exact all) ?_ R2 fun h3 tk3 keep3 R3 => ?_⟩
    · rw [List.length_append]
      exact W.frame _ h1 h2 st1 fun b hb o e => (same.2 b fun z => out (z ▸ hb)).trans e
    · exact fin h3 tk3 (fun b o nb hb e => keep3 b o nb hb ((same.2 b nb).trans (keep b o hb e))) R3
end
section
variable {P : Program} {w : World} {A : Around} {E : Value → Shared → Prop} {s : Shared}
theorem code_wants {c : Code} {Q1 : Value → Shared → Prop} (h : codeAny (model P w) A c (wants Q1 E) s) {R : Result → Shared → Prop} (ok : ∀ v t, Q1 v t → R (.ok (.ret v)) t) (bad : ∀ e t, E e t → R (.error e) t) : codeAny (model P w) A c R s :=
  codeAny_mono h fun r t q => match r, q with
    | .ok (.ret v), q => ok v t q
    | .error e, q => bad e t q
/-- set(x) is to make a new one and to fill it out of x -/
theorem set_made {x : Value} {Q : Value → Shared → Prop}
    (fill : ∀ B : Around, B.handled = A.handled → wpAny (model P w) B (Builtin.Frozenset.updateFrom "set.__init__" s.heap.objs.size x) (fun _ t => Q (.ref s.heap.objs.size) t) E { s with heap := s.heap.push (emptyS w) }) :
    wpAny (model P w) A (call (.type "set") [x]) Q E s := by
  have made := PySem.F.called_set.made
  have sub := PySem.F.called_set.sub
  have notType := PySem.F.called_set.notType
  have can := PySem.F.called_set.canCreate
  have args := PySem.F.typeCall_set_1 x
  have ⟨_, _, order⟩ := PySem.F.called_set.mro
  have new0 : (s.heap.push (emptyS w)).get? s.heap.objs.size = some (emptyS w) := Heap.get?_push_size _ rfl
  have isSet : Shared.TypeIs { s with heap := s.heap.push (emptyS w) } (.ref s.heap.objs.size) "set" := ⟨_, new0, rfl⟩
  apply wpAny_call
  apply codeAny_of_tree
  show wpAny _ _ (callAny (.type "set") _) _ _ _
  refine wpAny_pure ⟨Code.quiet_builtin _ (by decide +kernel), codeAny_builtin PySem.F.entry_type_call ?_⟩
  rw [Around.under_plain (weight_type_call_type "set" [x] []) rfl]
  repeat (any_goals (first | assumption | wp_step))
  refine code_wants (code_set_led1 x (E := E) (Q₁ := fun v t => v = .ref s.heap.objs.size ∧ t = { s with heap := s.heap.push (emptyS w) }) ⟨rfl, rfl⟩) (fun v t ⟨e1, e2⟩ => ?_) fun _ _ => id
  subst e1 e2
  have look := PySem.F.called_set.init.lookup
  have bound := PySem.F.called_set.init.bind (.ref s.heap.objs.size)
  repeat (any_goals (first | assumption | wp_step))
  refine code_wants (codeAny_call_builtin (R := wants (fun v t => v = .none ∧ Q (.ref s.heap.objs.size) t) E) PySem.F.called_set.init.plain PySem.F.entry_set_init (check_set_init_1 isSet ?_)) (fun v t ⟨e, q⟩ => ?_) fun _ _ => id
  · unfold Builtin.«set.__init__» noKeywords
    have f := fill A.in1.in1 (by simp)
    generalize Builtin.Frozenset.updateFrom = up at f ⊢
    wp_walk
    exact wpAny_mono f (fun _ t q => wpAny_pure ⟨rfl, q⟩) fun _ _ => id
  · subst e
    repeat (any_goals (first | assumption | wp_step))
/-- what is no set and no dict is walked -/
theorem walked {T : String} {a l : Addr} {Q : Unit → Shared → Prop} (is : s.TypeIs (.ref l) T) (no1 : isSubtype (.type T) (.type "set") = pure false) (no2 : isSubtype (.type T) (.type "frozenset") = pure false) (no3 : (Value.type T == .type "dict") = false)
    (h : wpAny (model P w) A (pyIter (.ref l)) (fun it t => codeAny (model P w) A (.builtin "set.update.loop" ⟨[.ref a, it], []⟩) (wants (fun _ t => Q () t) E) t) E s) : wpAny (model P w) A (Builtin.Frozenset.updateFrom "set.__init__" a (.ref l)) Q E s := by
  unfold Builtin.Frozenset.updateFrom
  generalize pyIter = it at h ⊢
  wp_walk
  refine wpAny_mono h (fun v t q => ?_) fun _ _ => id
  exact wpAny_bind (wpAny_runValue (code_wants q (fun _ _ q => wpAny_pure q) fun _ _ => id))
/-- set(texts), of what is walked by an iterator o -/
theorem set_filled {T : String} {l : Addr} {o : Obj} {xs : List Str} {fp : List Addr} {Pv : Nat → Value → Prop} {St : Nat → Heap → Prop} {Q : Value → Shared → Prop} (hh : A.handled = none) (no1 : isSubtype (.type T) (.type "set") = pure false) (no2 : isSubtype (.type T) (.type "frozenset") = pure false) (no3 : (Value.type T == .type "dict") = false)
    (is : s.TypeIs (.ref l) T) (iter : ∀ (B : Around) (Q' : Value → Shared → Prop), Q' (.ref (s.heap.objs.size + 1)) { s with heap := (s.heap.push (emptyS w)).push o } → wpAny (model P w) B (pyIter (.ref l)) Q' E { s with heap := s.heap.push (emptyS w) })
    (walk : ∀ B : Around, B.handled = none → Walks P w B (s.heap.objs.size + 1) fp [s.heap.objs.size + 1] xs.length Pv St) (st : St 0 ((s.heap.push (emptyS w)).push o)) (out : s.heap.objs.size ∉ fp) (few : xs.length + 1 < scanBound)
    (are : ∀ i v, Pv i v → ∃ c u, xs[i]? = some c ∧ v = .str c u) (q : ∀ h' tk, (∀ b u, s.heap.get? b = some u → h'.get? b = some u) → TxS P w h' s.heap.objs.size (ddS xs) → Q (.ref s.heap.objs.size) { s with heap := h', toks := tk }) :
    wpAny (model P w) A (call (.type "set") [.ref l]) Q E s := by
  refine set_made fun B hB => walked (T := T) ?_ no1 no2 no3 (iter B _ ?_)
  · obtain ⟨ob, at_, cl⟩ := is
    exact ⟨ob, Heap.get?_push_of_some _ at_, cl⟩
  · refine fill_loop (walk B.in1 (by simp [hB, hh])) out rfl few are xs [] _ rfl st (TxS.new ?_) fun h' tk keep R => ?_
    · exact Heap.get?_push_of_some _ (Heap.get?_push_size _ rfl)
    · refine q h' tk (fun b u e => keep b u ?_ ?_ (Heap.get?_push_of_some _ (Heap.get?_push_of_some _ e))) R
      · exact Nat.ne_of_lt (Heap.lt_size e)
      · rw [List.mem_singleton]
        exact Nat.ne_of_lt (Nat.lt_succ_of_lt (Heap.lt_size e))
theorem text_at {its : Array Value} {xs : List Str} (are : StrsAre its.toList xs) {i : Nat} {v : Value} (e : its[i]? = some v) : ∃ c u, xs[i]? = some c ∧ v = .str c u := by
  rw [← Array.getElem?_toList] at e
  generalize its.toList = vs at are e
  induction are generalizing i with
  | nil => cases e
  | cons c u _ ih =>
    rcases i with _ | i
    · cases e; exact ⟨c, u, rfl, rfl⟩
    · exact ih e
theorem set_list {l : Addr} {its : Array Value} {xs : List Str} {Q : Value → Shared → Prop} (hh : A.handled = none) (is : s.heap.IsList l its) (are : StrsAre its.toList xs) (few : xs.length + 1 < scanBound)
    (q : ∀ h' tk, (∀ b u, s.heap.get? b = some u → h'.get? b = some u) → TxS P w h' s.heap.objs.size (ddS xs) → Q (.ref s.heap.objs.size) { s with heap := h', toks := tk }) : wpAny (model P w) A (call (.type "set") [.ref l]) Q E s := by
  have size : xs.length = its.size := (StrsAre.len_eq are).symm.trans Array.length_toList
  have lt : l < s.heap.objs.size := let ⟨_, at_, _⟩ := is; Heap.lt_size at_
  have one : (s.heap.push (emptyS w)).objs.size = s.heap.objs.size + 1 := Heap.size_push ..
  have is1 : (s.heap.push (emptyS w)).IsList l its := is.push _
  refine set_filled (T := "list") (o := { cls := .type "list_iterator", data := .fields #[.ref l, .int 0 0] }) hh PySem.F.sub_list_set PySem.F.sub_list_frozenset (by decide) is.typeIs (fun B Q' q' => ?_) (fun B hB => size ▸ Walks.list hB _ l (Nat.ne_of_lt (Nat.lt_succ_of_lt lt)) its) ?_ ?_ few (fun i v => text_at are) q
  · refine wpAny_pyIter_list is1 ?_
    rw [one]
    exact q'
  · refine ⟨⟨_, (?_ : Heap.get? _ _ = some { cls := .type "list_iterator", data := .fields #[.ref l, .int 0 0] }), rfl, rfl⟩, is1.push _⟩
    show Heap.get? _ (s.heap.objs.size + 1) = _
    rw [← one]
    exact Heap.get?_push_size _ rfl
  · rw [List.mem_cons, List.mem_singleton, not_or]
    exact ⟨Nat.ne_of_lt (Nat.lt_succ_self _), Nat.ne_of_gt lt⟩
end
end KnS
namespace Kn
open PySem PySem.Spec PyProof.Rows
open L2 hiding St
open KnS
end Kn
namespace Kn
open PySem PySem.Spec PyProof.Rows
open L2 hiding St
end Kn
namespace KnX
open PySem PySem.Spec PyProof.Rows L2
end KnX
namespace Kn
open PySem PySem.Spec PyProof.Rows KnX
open L2 hiding St
end Kn
namespace Kn
open PySem PySem.Spec PyProof.Rows
open L2 hiding St
theorem of_someD {K : PySem.W.Frag} {G : Hp} : ∀ {vs : List (Option V)} {ds : List Dat}, Paired (OpOk K G) vs (ds.map fun d => some (.dat d)) → ∃ ws : List V, vs = ws.map some ∧ RpA K G ws ds
  | _, [], h => by cases h; exact ⟨[], rfl, .nil⟩
  | _, d :: ds, h => by
    cases h with
    | cons h t =>
      rename_i a _
      obtain ⟨ws, rfl, h2⟩ := of_someD t
      cases a with
      | none => exact h.elim
      | some v => exact ⟨v :: ws, rfl, .cons h h2⟩
theorem OwnOk.slt {K : PySem.W.Frag} {O : Own} {H : Hp} {p C dx : Addr} {ds : List Dat} (h : OwnOk K O H) (hp : O p = some (.slt C dx (ds.map fun d => some (.dat d)))) : Rp K (hid (dn O p) H) (.ref p) (.slo C ds) := by
  obtain ⟨o, h1, h2, h3, vs, rfl, h4⟩ := h.cell p _ hp
  obtain ⟨ws, rfl, h5⟩ := of_someD (pmap (fun _ _ q => OpOk.mono hid_dn q) h4)
  exact .slo (by rw [hid_none dn_at]; exact h1) (hid_dn _ _ h2) h3 h5
end Kn
namespace Kn
open PySem PySem.Spec PyProof.Rows
open L2 hiding St
end Kn
namespace KnS
open PySem PySem.Spec PyProof.Rows L2
open PySem.Froz (SD sObj TxOk)
open Kn (stS ddS)
theorem TxS.any {P P' : Program} {w : World} {h : Heap} {a : Addr} {l : List Str} (R : TxS P w h a l) : TxS P' w h a l := R.imp fun _ ⟨e, F, r⟩ => ⟨e, ⟨F.el, F.mem, F.sz, F.fit⟩, r⟩
end KnS
namespace Kn
open PySem PySem.Spec PyProof.Rows
open L2 hiding St
open KnS
end Kn
namespace Kn
open PySem PySem.Spec PyProof.Rows
open L2 hiding St
section
variable {X : Cx} {O : Own} {ρ : List Slot} {x : ExK} {k k' : Slot → Own → Prop} {kl kl' : List Slot → Own → Prop} {e a b c o : Expr} {es : List Expr} {pos p p1 p2 apos pos2 : Pos} {D : SD} {g g' : Bool} {j n : Nat} {S : SpecT} {df : List Dat} {m f : Str} {s1 s2 s : Slot}
/-- a method's def alone -/
theorem MCal.bare {P : Program} {w : World} {K : PySem.W.Frag} {mg : Str → Option Value} {base : Heap} {C : Addr} (mc : MCal P w K mg base false n C m S []) :
    ∃ (f : Addr) (fd : FuncData) (ps : List Str), PySem.W.findIn K (.ref C) m = some (some (.ref f)) ∧ PySem.W.isFn K (.ref f) = true ∧ Fn P w K mg base false n f fd ps S ∧ Binds K fd ps [] := by
  obtain ⟨f, fd, ps, ds, dvs, hm, F, hb, hd, hdf⟩ := mc
  have e := hdf (fun _ => none)
  cases e
  cases hd
  exact ⟨f, fd, ps, hm.at_, hm.fn, F, hb⟩
end
end Kn
namespace Kn
open PySem PySem.Spec PyProof.Rows
open L2 hiding St
end Kn
namespace Kn
open PySem PySem.Spec PyProof.Rows
open L2 hiding St
end Kn
namespace Kn
open PySem PySem.Spec PyProof.Rows
open L2 hiding St
theorem flF_app {K : PySem.W.Frag} {G : Hp} {n : Addr} {g : Str} : ∀ {d1 : List (Str × Dat)} {d2 : List (Str × Dat)} {fs : List (Str × V)}, Paired (FlOk K G) fs (d1.map (fun q => (q.1, Slot.dat q.2)) ++ (g, .own n) :: d2.map fun q => (q.1, Slot.dat q.2)) →
    ∃ f1 f2, fs = f1 ++ (g, .ref n) :: f2 ∧ RpF K G f1 d1 ∧ RpF K G f2 d2
  | [], d2, _, h => by
    cases h with
    | @cons a _ fs _ h t =>
      obtain ⟨g', v⟩ := a
      obtain ⟨e, r⟩ := h
      have e : g' = g := e
      have r : v = .ref n := r
      subst e r
      exact ⟨[], fs, rfl, .nil, RpF.of_paired t⟩
  | (f, d) :: d1, d2, _, h => by
    cases h with
    | @cons a _ fs _ h t =>
      obtain ⟨f', v⟩ := a
      obtain ⟨e, r⟩ := h
      have e : f' = f := e
      subst e
      obtain ⟨f1, f2, rfl, h1, h2⟩ := flF_app t
      exact ⟨(f', v) :: f1, f2, rfl, .cons r h1, h2⟩
theorem OwnOk.tre {K : PySem.W.Frag} {O : Own} {H : Hp} {p C dx n : Addr} {d1 d2 : List (Str × Dat)} {g : Str} {es : List Dat} (h : OwnOk K O H) (hp : O p = some (.ins C dx (d1.map (fun q => (q.1, Slot.dat q.2)) ++ (g, .own n) :: d2.map fun q => (q.1, Slot.dat q.2))))
    (hn : O n = some (.tpl (.own p :: es.map .dat))) : Rp K (hid (dn (dn O p) n) H) (.ref p) (.tre C d1 g es d2) := by
  have hne : n ≠ p := fun e => by rw [e, hp] at hn; cases hn
  obtain ⟨o, h1, fs, rfl, h2⟩ := h.cell p _ hp
  obtain ⟨o, h3, vs, rfl, h4⟩ := h.cell n _ hn
  have mono : Same (hid O H) (hid (dn (dn O p) n) H) := fun b u q => hid_dn _ _ (hid_dn _ _ q)
  obtain ⟨f1, f2, rfl, r1, r2⟩ := flF_app (pmap (fun _ _ q => ⟨q.1, SlOk.mono mono q.2⟩) h2)
  cases h4 with
  | @cons v _ vs _ h5 h6 =>
    have h5 : v = .ref p := h5
    subst h5
    refine .tre (n := n) (dx := dx) ?_ ?_ r1 r2 (RpA.of_paired (pmap (fun _ _ q => SlOk.mono mono q) h6))
    · rw [hid_none (by rw [dn_ne hne.symm]; exact dn_at)]; exact h1
    · rw [hid_none dn_at]; exact h3
end Kn
namespace Kn
open PySem PySem.Spec PyProof.Rows
open L2 hiding St
end Kn
namespace KnX
open PySem PySem.Spec PyProof.Rows L2
end KnX
namespace Kn
open PySem PySem.Spec PyProof.Rows
open L2 hiding St
end Kn
namespace Kn
open PySem PySem.Spec PyProof.Rows
open L2 hiding St
end Kn
namespace Kn
open PySem PySem.Spec PyProof.Rows
open L2 hiding St
end Kn
namespace Kn
open PySem PySem.Spec PyProof.Rows
open L2 hiding St
end Kn
namespace Kn
open PySem PySem.Spec PyProof.Rows
open L2 hiding St
open PySem.W (EachIs AllAlike Sortable dataLe)
end Kn
namespace KnZp
open PySem PySem.W PySem.Calls PyProof.Rows PySem.Spec
/-- where the objects of a zip lie -/
structure Lie where
  z : Addr
  TI : Addr
  TO : Addr
  i1 : Addr
  i2 : Addr
  l1 : Addr
  l2 : Addr
/-- a zip of two lists at the place k -/
structure At (p : Lie) (xs ys : Array Value) (B : Addr) (k : Nat) (h : Heap) : Prop where
  apart : ZipApart p.z p.TI p.TO p.i1 p.i2 p.l1 p.l2
  low : p.z < B ∧ p.TI < B ∧ p.TO < B ∧ p.i1 < B ∧ p.i2 < B ∧ p.l1 < B ∧ p.l2 < B
  ti : IsPair h p.TI (.ref p.i1) (.ref p.i2)
  it1 : h.IsListIter p.i1 p.l1 k
  it2 : h.IsListIter p.i2 p.l2 k
  ls1 : h.IsList p.l1 xs
  ls2 : h.IsList p.l2 ys
  self : (IsZip h p.z p.TI p.TO .none ∧ ∃ a b, IsPair h p.TO a b) ∨ ∃ T f oT, IsZipHeld h p.z p.TI p.TO T f ∧ h.get? T = some oT ∧ B ≤ T
variable {prog : Program} {w : World} {A : Around} {E : Value → Shared → Prop} {s : Shared}
/-- what does not touch it leaves it -/
theorem At.keep {p : Lie} {xs ys : Array Value} {B S : Addr} {k : Nat} {h h' : Heap} (a : At p xs ys B k h) (hS : S ≠ p.z ∧ S ≠ p.TI ∧ S ≠ p.TO ∧ S ≠ p.i1 ∧ S ≠ p.i2 ∧ S ≠ p.l1 ∧ S ≠ p.l2 ∧ S < B)
    (e : ∀ c o, c ≠ S → h.get? c = some o → h'.get? c = some o) : At p xs ys B k h' := by
  obtain ⟨s1, s2, s3, s4, s5, s6, s7, s8⟩ := hS
  refine ⟨a.apart, a.low, e _ _ s2.symm a.ti, ?_, ?_, ?_, ?_, ?_⟩
  · exact let ⟨o, q, r⟩ := a.it1; ⟨o, e _ _ s4.symm q, r⟩
  · exact let ⟨o, q, r⟩ := a.it2; ⟨o, e _ _ s5.symm q, r⟩
  · exact let ⟨o, q, r⟩ := a.ls1; ⟨o, e _ _ s6.symm q, r⟩
  · exact let ⟨o, q, r⟩ := a.ls2; ⟨o, e _ _ s7.symm q, r⟩
  · rcases a.self with ⟨hz, u, v, hT⟩ | ⟨T, f, oT, hz, hT, hTB⟩
    · exact .inl ⟨e _ _ s1.symm hz, u, v, e _ _ s3.symm hT⟩
    · exact .inr ⟨T, f, oT, e _ _ s1.symm hz, e _ _ (Nat.ne_of_gt (Nat.lt_of_lt_of_le s8 hTB)) hT, hTB⟩
end KnZp
namespace KnZp
open PySem PySem.W PySem.Calls PyProof.Rows PySem.Spec
variable {prog : Program} {w : World} {A : Around} {E : Value → Shared → Prop} {s : Shared}
/-- a zip that nobody has asked yet -/
structure Fresh (p : Lie) (xs ys : Array Value) (h : Heap) : Prop where
  apart : ZipApart p.z p.TI p.TO p.i1 p.i2 p.l1 p.l2
  z : IsZip h p.z p.TI p.TO .none
  ti : IsPair h p.TI (.ref p.i1) (.ref p.i2)
  to : ∃ a b, IsPair h p.TO a b
  it1 : h.IsListIter p.i1 p.l1 0
  it2 : h.IsListIter p.i2 p.l2 0
  ls1 : h.IsList p.l1 xs
  ls2 : h.IsList p.l2 ys
theorem Fresh.at {p : Lie} {xs ys : Array Value} {h : Heap} (f : Fresh p xs ys h) {B : Addr} (hB : h.objs.size ≤ B) : At p xs ys B 0 h := by
  have lt : ∀ {b : Addr} {o : Obj}, h.get? b = some o → b < B := fun e => Nat.lt_of_lt_of_le (Heap.lt_size e) hB
  refine ⟨f.apart, ⟨lt f.z, lt f.ti, ?_, ?_, ?_, ?_, ?_⟩, f.ti, f.it1, f.it2, f.ls1, f.ls2, .inl ⟨f.z, f.to⟩⟩
  · obtain ⟨a, b, e⟩ := f.to; exact lt e
  · obtain ⟨o, e, _⟩ := f.it1; exact lt e
  · obtain ⟨o, e, _⟩ := f.it2; exact lt e
  · obtain ⟨o, e, _⟩ := f.ls1; exact lt e
  · obtain ⟨o, e, _⟩ := f.ls2; exact lt e
theorem Fresh.keep {p : Lie} {xs ys : Array Value} {h h' : Heap} (f : Fresh p xs ys h) {S : Addr} (hS : h.objs.size ≤ S) (e : ∀ c o, c ≠ S → h.get? c = some o → h'.get? c = some o) : Fresh p xs ys h' := by
  have k : ∀ {b : Addr} {o : Obj}, h.get? b = some o → h'.get? b = some o := fun q => e _ _ (Nat.ne_of_lt (Nat.lt_of_lt_of_le (Heap.lt_size q) hS)) q
  exact ⟨f.apart, k f.z, k f.ti, let ⟨a, b, q⟩ := f.to; ⟨a, b, k q⟩, let ⟨o, q, r⟩ := f.it1; ⟨o, k q, r⟩, let ⟨o, q, r⟩ := f.it2; ⟨o, k q, r⟩, let ⟨o, q, r⟩ := f.ls1; ⟨o, k q, r⟩, let ⟨o, q, r⟩ := f.ls2; ⟨o, k q, r⟩⟩
end KnZp
namespace Kn
open PySem PySem.Spec PyProof.Rows
open L2 hiding St
end Kn
namespace Kn
open PySem PySem.Spec PyProof.Rows
open L2 hiding St
end Kn
namespace Kn
open PySem PySem.Spec PyProof.Rows
open L2 hiding St
end Kn
namespace Kn
open PySem PySem.Spec PyProof.Rows
open L2 hiding St
open PySem.W (EachIs AllAlike Sortable dataLe sorted_data)
section
variable {X : Cx} {O : Own} {ρ : List Slot} {x : ExK} {k : Slot → Own → Prop} {kd : List Dat → Own → Prop} {D : SD} {e o i tg : Expr} {pos p p1 p2 : Pos} {g' : Bool} {j : Nat}
theorem ew_mapS {α : Type} (l : List α) (ι f : α → Dat) (g : α → Bool) (own : List (Str × Nat)) (O1 : Own) {elt tg iter : Expr} {ifs : List Expr} {scope : Scope} {T : Dat → List Slot → List Slot → Prop} (hN : X.N.Nodup) (tg_ok : Tgt X scope (own.map (·.2)) tg T) (ok : BlkOk X.N X.env.scope scope own)
    (hi : IW X O ρ tg iter x fun ds' O' => ds' = l.map ι ∧ O' = O1) (hz : l.length ≤ sizeLine)
    (hb : ∀ d, d ∈ l → ∃ ρ', T (ι d) (wipeS ρ (own.map (·.2))) ρ' ∧ ∀ O' Y, Sub O1 O' → Blk X scope Y → TsW Y O' ρ' ifs noX (fun t O2 => t = g d ∧ O2 = O') ∧ (g d = true → EV Y O' ρ' elt noX (f d)))
    (h : k (.dat (.lst ((l.filter g).map f))) O1) (hc : X.calm = true := by rfl) (hs : ∀ x, foldedSetIterable iter X.env x = pure x := by intro _; rfl) : EW X O ρ (.ListComp elt [⟨tg, iter, ifs, 0⟩] scope pos) x k := by
  refine ew_frz (ew_lc own hN tg_ok ok (fun H0 σ H st tk R q => hi H0 σ H st tk R fun J H' ds' O2 ⟨e1, e2⟩ st' it => q J H' ds' O2 ?_ st' it) hc hs)
  subst e1 e2
  refine ⟨by rw [List.length_map]; exact hz, fun i acc O' => O' = O2 ∧ acc = (((l.take i).filter g).map f).map .dat, ⟨rfl, rfl⟩, fun i d0 acc O' hj hd0 => ?_, fun acc O' hj p hp => ?_⟩
  · obtain ⟨rfl, rfl⟩ := hj
    rw [List.getElem?_map] at hd0
    obtain ⟨d, hd, rfl⟩ := Option.map_eq_some_iff.mp hd0
    obtain ⟨ρ', ht, hb⟩ := hb d (List.mem_of_getElem? hd)
    refine ⟨ρ', ht, fun Dd nD Y hY => ?_⟩
    have htake : l.take (i + 1) = l.take i ++ [d] := by rw [List.take_add_one, hd]; rfl
    have hsb : Sub O' (up O' Dd (.lst ((((l.take i).filter g).map f).map .dat))) := Sub.up nD
    obtain ⟨h1, _⟩ := hb _ Y hsb hY
    refine fun H0 σ H st tk Q q => h1 H0 σ H st tk Q fun t H' O2 ⟨e1, e2⟩ st2 => q t H' O2 ⟨fun ht => fun Z hZ => ?_, fun ht => ?_⟩ st2
    · subst e2
      have hg : g d = true := e1 ▸ ht
      refine ((hb _ Z hsb hZ).2 hg).mono fun s O3 ⟨e3, e4⟩ => ?_
      subst e3 e4
      refine ⟨O', rfl, nD, rfl, ?_⟩
      rw [htake, List.filter_append, List.filter_cons_of_pos hg]
      simp
    · subst e2
      have hg : g d = false := e1 ▸ ht
      refine ⟨O', rfl, nD, rfl, ?_⟩
      rw [htake, List.filter_append, List.filter_cons_of_neg (by rw [hg]; exact Bool.false_ne_true)]
      simp
  · obtain ⟨rfl, rfl⟩ := hj
    refine ⟨p, (l.filter g).map f, rfl, by rw [List.length_map, List.take_length]; exact up_at, ?_⟩
    rw [dn_up hp]
    exact h
theorem ew_mapS1 {α : Type} (l : List α) (ι f : α → Dat) (own : List (Str × Nat)) (O1 : Own) {elt tg iter : Expr} {scope : Scope} {T : Dat → List Slot → List Slot → Prop} (hN : X.N.Nodup) (tg_ok : Tgt X scope (own.map (·.2)) tg T) (ok : BlkOk X.N X.env.scope scope own)
    (hi : IW X O ρ tg iter x fun ds' O' => ds' = l.map ι ∧ O' = O1) (hz : l.length ≤ sizeLine)
    (hb : ∀ d, d ∈ l → ∃ ρ', T (ι d) (wipeS ρ (own.map (·.2))) ρ' ∧ ∀ O' Y, Sub O1 O' → Blk X scope Y → EV Y O' ρ' elt noX (f d))
    (h : k (.dat (.lst (l.map f))) O1) (hc : X.calm = true := by rfl) (hs : ∀ x, foldedSetIterable iter X.env x = pure x := by intro _; rfl) : EW X O ρ (.ListComp elt [⟨tg, iter, [], 0⟩] scope pos) x k :=
  ew_mapS l ι f (fun _ => true) own O1 hN tg_ok ok hi hz (fun d hd => by
    obtain ⟨ρ', h1, h2⟩ := hb d hd
    exact ⟨ρ', h1, fun O' Y hS hY => ⟨tsw_nil ⟨rfl, rfl⟩, fun _ => h2 O' Y hS hY⟩⟩) (by rw [filter_yes]; exact h) hc hs
end
end Kn
namespace Kn
open PySem PySem.Spec PyProof.Rows
open L2 hiding St
end Kn
namespace Kn
open PySem PySem.Spec PyProof.Rows
open L2 hiding St
end Kn
namespace Kn
open PySem PySem.Spec PyProof.Rows
open L2 hiding St
end Kn
namespace Kn
open PySem PySem.Spec PyProof.Rows
open L2 hiding St
/-- a list run to its end, its addresses as numbers -/
def ran {α : Type} : PySem.W.Frag → (PySem.W.Frag → α) → α
  | [], k => k []
  | q :: r, k => HandSHeadRun.frNat q.1 fun a => ran r fun z => k ((a, q.2) :: z)
theorem ran_eq {α : Type} : ∀ (l : PySem.W.Frag) (k : PySem.W.Frag → α), ran l k = k l
  | [], k => rfl
  | q :: r, k => by
    show HandSHeadRun.frNat q.1 (fun a => ran r fun z => k ((a, q.2) :: z)) = _
    rw [HandSHeadRun.frNat_eq, ran_eq r]
/-- the places from lo on, n of them -/
def places (lo : Nat) : Nat → List Addr
  | 0 => []
  | n + 1 => lo :: places (lo + 1) n
/-- the objects that are looked at: the module's names, the built-in ones, and what stands at the places -/
def partOf (g : Addr → Option Obj) (lo n : Nat) : PySem.W.Frag := He.frG g (mainGlobals :: cStatics :: builtinsNs :: places lo n)
abbrev Place := PySem.W.Frag → Addr
def pGlo (x : Str) : Place := fun K => He.ga K x
def pMeth (C m : Str) : Place := fun K => He.ma K (He.ga K C) m
def txtOf : Data → He.FnW
  | .func d => some (d.name, d.qualname, d.params, d.body, d.scope, d.globals, d.closure, d.builtins)
  | _ => none
def txtAt (K : PySem.W.Frag) (a : Addr) : He.FnW := (K.lookup a).bind fun o => txtOf o.data
def txtIs (nm qual : Str) (st : Stmt) : He.FnW := some (nm, qual, defArgs st, .stmts (defBody st), defScope st, mainGlobals, [], builtinsNs)
/-- what its defaults are: none, or one object -/
def dflNo (d : FuncData) : Bool := decide (d.defaults = .none)
def fnB (K : PySem.W.Frag) (a : Addr) (qual : Str) (dfl : FuncData → Bool) : Bool := PySem.W.keepIn K (.ref a) && match (K.lookup a).map Obj.data with
  | some (.func d) => PySem.W.codeIn K d.code qual && dfl d
  | _ => false
section
variable {K : PySem.W.Frag} {a : Addr} {nm qual : Str} {st : Stmt} {dfl : FuncData → Bool}
theorem fn_seen (e : txtAt K a = txtIs nm qual st) (c : fnB K a qual dfl = true) : ∃ (oc : Value) (od : Option Addr) (dV kV doc pm : Value) (an : Option Addr) (cdv ct : Value) (osl : Array (Option Value)),
    K.lookup a = some ⟨oc, od, .func (PySem.W.fnOf nm qual (defArgs st) (defBody st) (defScope st) dV kV doc pm an cdv ct), osl⟩ ∧ PySem.W.codeIn K cdv qual = true ∧
    dfl (PySem.W.fnOf nm qual (defArgs st) (defBody st) (defScope st) dV kV doc pm an cdv ct) = true ∧ PySem.W.keepIn K (.ref a) = true := by
  unfold fnB at c
  unfold txtAt at e
  obtain ⟨c1, c2⟩ := Bool.and_eq_true_iff.mp c
  cases q : K.lookup a with
  | none => rw [q] at e; cases e
  | some o =>
    obtain ⟨oc, od, dt, osl⟩ := o
    rw [q] at e c2
    cases dt with
    | func d =>
      obtain ⟨a1, a2, a3, a4, a5, a6, a7, dV, kV, doc, pm, an, cdv, ct, a15⟩ := d
      have e1 : (some (a1, a2, a3, a4, a5, a6, a7, a15) : He.FnW) = txtIs nm qual st := e
      unfold txtIs at e1
      simp only [Option.some.injEq, Prod.mk.injEq] at e1
      obtain ⟨rfl, rfl, rfl, rfl, rfl, rfl, rfl, rfl⟩ := e1
      obtain ⟨c3, c4⟩ := Bool.and_eq_true_iff.mp c2
      exact ⟨oc, od, dV, kV, doc, pm, an, cdv, ct, osl, rfl, c3, c4, c1⟩
    | _ => cases e
theorem fun_seen (e : txtAt K a = txtIs nm qual st) (c : fnB K a qual dflNo = true) : ∃ fd, L2.Fun K nm qual st a fd := by
  obtain ⟨oc, od, dV, kV, doc, pm, an, cdv, ct, osl, l, c1, c2, k⟩ := fn_seen e c
  obtain rfl : dV = .none := of_decide_eq_true c2
  exact ⟨_, fun_mk l c1 k⟩
end
section
variable {K : PySem.W.Frag} {x y nm qual bn C m f : Str} {st : Stmt} {i : Int} {zs : List Str}
abbrev val (K : PySem.W.Frag) (x : Str) : Option (Option Value) := PySem.W.nsIn K mainGlobals x
abbrev att (K : PySem.W.Frag) (C : Addr) (x : Str) : Option (Option Value) := PySem.W.findIn K (.ref C) x
def isV (r : Option (Option Value)) (v : Value) : Bool := He.eqO r (some (some v))
def isNo (r : Option (Option Value)) : Bool := He.eqO r (some none)
theorem isV_ok {r : Option (Option Value)} {v : Value} (h : isV r v = true) : r = some (some v) := He.eqO_ok h
theorem isNo_ok {r : Option (Option Value)} (h : isNo r = true) : r = some none := He.eqO_ok h
theorem bothB {a b : Bool} (h : (a && b) = true) : a = true ∧ b = true := Bool.and_eq_true_iff.mp h
def freeB (x : Str) (K : PySem.W.Frag) : Bool := isNo (val K x)
theorem free_look (h : freeB x K = true) : PySem.W.nsIn K mainGlobals x = some none := isNo_ok h
def gloB (x : Str) (K : PySem.W.Frag) : Bool := isV (val K x) (.ref (He.ga K x))
def defB (x : Str) (K : PySem.W.Frag) : Bool := gloB x K && fnB K (He.ga K x) x dflNo
theorem def_look (h : defB x K = true) (e : txtAt K (pGlo x K) = txtIs x x st) : DefIn K x st := by
  obtain ⟨h1, h2⟩ := bothB h
  obtain ⟨fd, F⟩ := fun_seen e h2
  exact ⟨⟨_, fd, isV_ok h1, F⟩⟩
def subB (K : PySem.W.Frag) (C : Addr) (v : Value) (b : Bool) : Bool := decide (PySem.W.subIn K (.ref C) v = some b)
def tyB (K : PySem.W.Frag) (a : Addr) (v : Value) : Bool := decide (PySem.W.typeIn K (.ref a) = some v)
def rdB (K : PySem.W.Frag) (C : Addr) : Bool := PySem.W.readsIn K C (.type "type") && isV (PySem.W.specialIn K (.ref C) "__getattribute__") (.builtin "type.__getattribute__")
theorem rd_seen {C : Addr} (h : rdB K C = true) : ClX.CRead K C (.type "type") := ⟨(bothB h).1, isV_ok (bothB h).2⟩
def excB0 (K : PySem.W.Frag) (C : Addr) : Bool := match K.lookup C with
  | some ⟨.type c, _, .cls cd, ⟨[_, _, _, _, some (.builtin z), _]⟩⟩ => decide (c = "type") && (decide (z = "ValueError.__new__") && (cd.hasDict && (!cd.hasDel && match cd.mro with
    | .ref D :: bm => decide (D = C) && PySem.HandSPX.refsVE bm
    | _ => false)))
  | _ => false
theorem exc_seen0 {C : Addr} (h : excB0 K C = true) : ∃ nm q N bs bm sn sub ab col dd k0 k1 k2 k3 k5, K.lookup C = some (excClassObj nm q C N bs bm true sn sub ab col dd k0 k1 k2 k3 k5 "ValueError.__new__") ∧ PySem.HandSPX.refsVE bm = true := by
  unfold excB0 at h
  split at h
  · rename_i c dd cd k0 k1 k2 k3 z k5 q
    obtain ⟨nm, bs, mro, ns, qn, hd, sn, sub, ab, col, del⟩ := cd
    obtain ⟨h1, ha⟩ := bothB h
    obtain ⟨h2, hb⟩ := bothB ha
    obtain ⟨h3, hc⟩ := bothB hb
    obtain ⟨h4, hl⟩ := bothB hc
    obtain rfl := of_decide_eq_true h1
    obtain rfl := of_decide_eq_true h2
    obtain rfl : hd = true := h3
    obtain rfl : del = false := by cases del with
      | false => rfl
      | true => cases h4
    cases mro with
    | nil => cases hl
    | cons v bm =>
      cases v with
      | ref D =>
        obtain ⟨h5, h6⟩ := bothB hl
        obtain rfl := of_decide_eq_true h5
        exact ⟨nm, qn, ns, bs, bm, sn, sub, ab, col, dd, k0, k1, k2, k3, k5, q, h6⟩
      | _ => cases hl
  · cases h
def xgB (K : PySem.W.Frag) (C : Addr) : Bool := isV (att K C "__getattribute__") (.builtin "BaseException.__getattribute__") && (isNo (att K C "__getattr__") && (subB K C (.type "BaseException") true && PySem.W.hasDictIn K C))
def clB (K : PySem.W.Frag) (C : Addr) : Bool := isV (att K C "__class__") (.builtin "object.__class__") && (isV (PySem.W.specialIn K (.builtin "object.__class__") "__get__") (.builtin "getset_descriptor.__get__") && (decide (PySem.W.takesIn K (.builtin "object.__class__") = some true) && decide (PySem.W.mroIn K C (.type "object") = some true)))
/-- what of the class itself is asked, what of the one that it is derived from -/
def excB1 (K : PySem.W.Frag) (C : Addr) : Bool := excB0 K C && (isV (att K C "__setattr__") (.builtin "object.__setattr__") && (tyB K C (.type "type") && (PySem.W.keepIn K (.ref C) && (xgB K C && (clB K C && subB K C (.ref C) true)))))
def baseB (K : PySem.W.Frag) (C B : Addr) : Bool := subB K C (.ref B) true && (tyB K B (.type "type") && (PySem.W.isClsIn K B && (rdB K B && match PySem.W.findCls K (.ref B) (.type "type") "__init__" with
  | some (.val (.builtin z)) => decide (z = "ValueError.__init__")
  | _ => false)))
def iniB (K : PySem.W.Frag) (C : Addr) (qual : Str) : Bool := isV (att K C "__init__") (.ref (He.ma K C "__init__")) && (tyB K (He.ma K C "__init__") (.type "function") && fnB K (He.ma K C "__init__") qual dflNo)
def excB (nm qual bn : Str) (fs : List Str) (K : PySem.W.Frag) : Bool := gloB nm K && (gloB bn K && (excB1 K (He.ga K nm) && (baseB K (He.ga K nm) (He.ga K bn) && (iniB K (He.ga K nm) qual && fs.all fun f => isNo (att K (He.ga K nm) f)))))
theorem exc_look {fs : List Str} (h : excB nm qual bn fs K = true) (e : txtAt K (pMeth nm "__init__" K) = txtIs "__init__" qual st) : ∃ C B, ExcIn K nm qual bn st C B ∧ ∀ f ∈ fs, PySem.W.findIn K (.ref C) f = some none := by
  obtain ⟨g1, h⟩ := bothB h
  obtain ⟨g2, h⟩ := bothB h
  obtain ⟨a1, h⟩ := bothB h
  obtain ⟨b1, h⟩ := bothB h
  obtain ⟨i1, n1⟩ := bothB h
  obtain ⟨x0, a1⟩ := bothB a1
  obtain ⟨x1, a1⟩ := bothB a1
  obtain ⟨x2, a1⟩ := bothB a1
  obtain ⟨x3, a1⟩ := bothB a1
  obtain ⟨x4, a1⟩ := bothB a1
  obtain ⟨x5, x6⟩ := bothB a1
  obtain ⟨y1, x4⟩ := bothB x4
  obtain ⟨y2, x4⟩ := bothB x4
  obtain ⟨y3, y4⟩ := bothB x4
  obtain ⟨z1, x5⟩ := bothB x5
  obtain ⟨z2, x5⟩ := bothB x5
  obtain ⟨z3, z4⟩ := bothB x5
  obtain ⟨c1, b1⟩ := bothB b1
  obtain ⟨c2, b1⟩ := bothB b1
  obtain ⟨c3, b1⟩ := bothB b1
  obtain ⟨c4, c5⟩ := bothB b1
  obtain ⟨i2, i1⟩ := bothB i1
  obtain ⟨i3, i4⟩ := bothB i1
  obtain ⟨fd, F⟩ := fun_seen e i4
  refine ⟨_, _, ⟨⟨isV_ok g1, ⟨exc_seen0 x0, isV_ok x1, of_decide_eq_true y3, of_decide_eq_true x2, x3⟩, _, fd, isV_ok i2, of_decide_eq_true i3, F⟩, ⟨isV_ok y1, isNo_ok y2, of_decide_eq_true y3, y4⟩,
    ⟨isV_ok y1, isNo_ok y2, of_decide_eq_true y3, y4, isV_ok z1, isV_ok z2, of_decide_eq_true z3, of_decide_eq_true z4⟩, of_decide_eq_true x6, isV_ok g2, of_decide_eq_true c1, of_decide_eq_true c2, c3, rd_seen c4, ?_⟩, fun f hf => isNo_ok (List.all_eq_true.mp n1 f hf)⟩
  split at c5
  · rename_i z q
    obtain rfl := of_decide_eq_true c5
    exact q
  · cases c5
end
structure Look where
  says : List (PySem.W.Frag → Bool)
  funs : List (Place × Str × Str × Stmt)
namespace Look
abbrev Got : Type := Bool × List He.FnW
def seen (L : Look) (K : PySem.W.Frag) : Got := (L.says.all fun f => f K, L.funs.map fun q => txtAt K (q.1 K))
def good (L : Look) : Got := (true, L.funs.map fun q => txtIs q.2.1 q.2.2.1 q.2.2.2)
def Holds (L : Look) (K : PySem.W.Frag) : Prop := L.seen K = L.good
theorem Holds.say {L : Look} {K : PySem.W.Frag} (c : L.Holds K) (i : Nat) {f : PySem.W.Frag → Bool} (h : L.says[i]? = some f := by rfl) : f K = true :=
  List.all_eq_true.mp (show (L.says.all fun f => f K) = true from congrArg Prod.fst c) f (List.mem_of_getElem? h)
theorem Holds.txt {L : Look} {K : PySem.W.Frag} (c : L.Holds K) (i : Nat) {p : Place} {nm qual : Str} {st : Stmt} (h : L.funs[i]? = some (p, nm, qual, st) := by rfl) : txtAt K (p K) = txtIs nm qual st := by
  have e : L.funs.map (fun q => txtAt K (q.1 K)) = L.funs.map fun q => txtIs q.2.1 q.2.2.1 q.2.2.2 := congrArg Prod.snd c
  have e2 := congrArg (fun l : List He.FnW => l[i]?) e
  simp only [List.getElem?_map, h] at e2
  exact Option.some.inj e2
/-- what is seen off the tree -/
def ob (L : Look) (lo len : Nat) (s : PySem.W.SharedT) : Got := ran (partOf (HandSHeadRun.getT s) lo len) L.seen
end Look
section
variable (lo len : Nat) (Ls : List Look)
def obL (s : PySem.W.SharedT) : List Look.Got := Ls.map fun L => L.ob lo len s
def hookL : PySem.W.Hook where
  α := List Look.Got
  obs := fun s => Ls.map fun L => ran (partOf s.heap.get? lo len) L.seen
  val := fun _ => Ls.map Look.good
  says := fun _ h => ∃ K : PySem.W.Frag, K.In h ∧ ∀ L ∈ Ls, L.Holds K
  of := fun _ s e => ⟨partOf s.heap.get? lo len, He.frG_in, fun L hL => (ran_eq _ _).symm.trans (List.map_inj_left.mp e L hL)⟩
  keeps := fun _ _ _ ⟨K, hK, c⟩ k => ⟨K, PySem.W.Frag.In.keeps hK k, c⟩
theorem obL_eq (s : PySem.W.SharedT) : obL lo len Ls s = (hookL lo len Ls).obs s.abs := by
  have e : HandSHeadRun.getT s = s.abs.heap.get? := funext fun a => HandSHeadRun.getT_eq s a
  unfold obL Look.ob
  rw [e]
  rfl
variable {lo len Ls}
/-- the parts of the run put together -/
theorem run_parts {β γ : Type} {f : Option PySem.W.SharedT} {A : PySem.W.SharedT → β} {B : PySem.W.SharedT → γ} {a : β} {b : γ} (h0 : f.map (fun s => (A s, B s)) = some (a, b)) (h : ∀ L ∈ Ls, f.map (L.ob lo len) = some L.good) :
    f.map (fun s => (A s, B s, obL lo len Ls s)) = some (a, b, Ls.map Look.good) := by
  cases f with
  | none => cases h0
  | some s =>
    have e0 : (A s, B s) = (a, b) := Option.some.inj h0
    have e1 : A s = a := congrArg Prod.fst e0
    have e2 : B s = b := congrArg Prod.snd e0
    have e3 : obL lo len Ls s = Ls.map Look.good := List.map_inj_left.mpr fun L hL => Option.some.inj (h L hL)
    show some (A s, B s, obL lo len Ls s) = _
    rw [e1, e2, e3]
end
/-- the end of a law over such a head -/
theorem law_look {l : PySem.W.OpenLaw} {n : Nat} {q : Program} {loose : List Str} {XP : (Str → Option Value) → Heap → Prop} {d : DefRec} {x nm : Str} {st : Stmt} {Z : PySem.W.Frag → Prop} {lo len : Nat} {Ls : List Look}
    (hn : l.most = some 63) (hdf : d.params.defaults = []) (hnm : d.name = nm) (hr : Room n callerA) (hg : callerA.guards = some []) (hz : ∀ K, (∀ L ∈ Ls, L.Holds K) → Z K) (hD : ∀ K, Z K → DefIn K nm st) (hb : BindsAs nm st [x])
    (F : ∀ (w : World) (K : PySem.W.Frag) (mg : Str → Option Value) (f : Addr) (fd : FuncData), Z K → TopOf K mg → L2.Fun K nm nm st f fd → ∀ base : Heap, K.In base → Fn l.prog w K mg base true n f fd [x] LawS) :
    PySem.W.WalkO q loose XP (hookL lo len Ls).says l.row.toRowW d [] (fun f vs => PySem.call f vs) := by
  refine Att.attach_call hn hdf fun w s0 s1 mg mb fa o pm cd doc a vs ns G Y ho hd hcd hmg hobj hints hlen hgen => ?_
  obtain ⟨K, kin, c⟩ := Y
  have T : TopOf K mg := ⟨_, kin, G.T.g⟩
  obtain ⟨f, fd, ha, hF⟩ := (hD K (hz K c)).ex
  rw [hnm] at hmg
  have e := hmg.symm.trans (T.is ha)
  cases e
  obtain ⟨oc, od, kV, doc', pm', an, cdv, ct, osl, rfl, _, _⟩ := id hF.ex
  exact run_law kin G.T.g G.T.b G.T.builtins G.T.nolimit hgen hobj hints hlen ⟨hr, fun _ => hg⟩ (fun base kb nb => F w K mg fa _ (hz K c) T hF base kb) fun s u => .of_eq (hb _ _ _ _ _ _ [u] rfl)
end Kn
namespace Kn
open PySem PySem.Spec PyProof.Rows
open L2 hiding St
end Kn
namespace Kn
open PySem PySem.Spec PyProof.Rows
open L2 hiding St
end Kn
namespace Kn
open PySem PySem.Spec PyProof.Rows
open L2 hiding St
end Kn
namespace Kn
open PySem PySem.Spec PyProof.Rows
open L2 hiding St
end Kn
namespace Kn
open PySem PySem.Spec PyProof.Rows
open L2 hiding St
end Kn
namespace Kn
open PySem PySem.Spec PyProof.Rows
open L2 hiding St
end Kn
namespace Kn
open PySem PySem.Spec PyProof.Rows
open L2 hiding St
end Kn
namespace Kn
open PySem PySem.Spec PyProof.Rows
open L2 hiding St
end Kn
namespace Kn
open PySem PySem.Spec PyProof.Rows
open L2 hiding St
open LamX (CodeO TabB LamS lamCx lamEnv)
end Kn
namespace Kn
open PySem PySem.Spec PyProof.Rows
open L2 hiding St
open LamX (TabB)
end Kn
namespace Kn
open PySem PySem.Spec PyProof.Rows
open L2 hiding St
end Kn
namespace Kn
open PySem PySem.Spec PyProof.Rows
open L2 hiding St
/-- what is asked of the built-in __init__ that such a class inherits or calls -/
structure IniF (B id : String) : Prop where
  plain : plainId id = true
  entry : entryFor table id = some Builtin.«BaseException.__init__»
  split : splitId id = some (B, "__init__")
  kind : builtinKind id = some .slot
  row : Manifest.signature? id = some ⟨.positional, "*", B, .self, [⟨"args", .varPos, false⟩]⟩
  star : (B != "*") = true
  bind : ∀ self, bindSpecial (.builtin id) self = pure (.builtin id, [self])
theorem iniF_key : IniF "KeyError" "KeyError.__init__" where
  plain := by decide +kernel
  entry := entryFor_alias (id' := "BaseException.__init__") (by rw [fastTable_eq_tree]; kernel_rfl) (by first | rfl | decide +kernel) (by decide +kernel) (by rw [fastTable_eq_tree]; kernel_rfl)
  split := by kernel_rfl
  kind := by kernel_rfl
  row := by kernel_rfl
  star := by decide +kernel
  bind := fun self => by kernel_rfl
theorem iniF_val : IniF "ValueError" "ValueError.__init__" :=
  ⟨F.excBase_ValueError.init.plain, F.excBase_ValueError.initEntry, F.excBase_ValueError.initSplit, F.excBase_ValueError.initKind, F.excBase_ValueError.initRow, F.excBase_ValueError.noStar, F.excBase_ValueError.init.bind⟩
/-- the line of such a class: it holds B, and neither of the two whose objects have fields of their own -/
structure Line (B : String) (bm : List Value) : Prop where
  has : bm.contains (.type B) = true
  noA : bm.contains (.type "AttributeError") = false
  noN : bm.contains (.type "NameError") = false
section
variable {P : Program} {w : World} {A : Around} {h : Heap} {gs : Array GenState} {dr : Drawn} {tk : Nat} {os : OsState} {R : Result → Shared → Prop}
variable {nm q B Bi newId iid id : String} {nmS qS : Str} {C N : Addr} {bs bm bb : List Value} {hd ab : Bool} {sn : List Str} {sub : List Value} {col : Option Bool} {dd : Option Addr} {k0 k1 k2 k3 k5 : Option Value} {us : List Value}
theorem line_mem (L : Line B bm) : (Value.ref C :: bm).contains (.type B) = true := (List.contains_cons ..).trans (by rw [L.has, Bool.or_true])
theorem line_noA (L : Line B bm) : (Value.ref C :: bm).contains (.type "AttributeError") = false := (List.contains_cons ..).trans (by rw [L.noA]; rfl)
theorem line_noN (L : Line B bm) : (Value.ref C :: bm).contains (.type "NameError") = false := (List.contains_cons ..).trans (by rw [L.noN]; rfl)
/-- the two objects that __new__ lays: the tuple of what was handed in, the exception -/
abbrev laidX (h : Heap) (C : Addr) (us : List Value) : Heap := (h.push (PySem.W.kdv_tup us)).push (PySem.HandSPX.excO C h.objs.size)
/-- __new__ of the class further up, asked for an own class -/
theorem xc_new (T : ExcBaseFacts B newId iid bb) (L : Line B bm) (hC : h.get? C = some (excClassObj nmS qS C N bs bm hd sn sub ab col dd k0 k1 k2 k3 k5 newId)) (size : us.length ≤ sizeLine)
    (want : R (.ok (.ret (.ref (h.objs.size + 1)))) ⟨laidX h C us, gs, dr, tk, os⟩) : codeAny (model P w) A (.call (.builtin newId) ⟨.ref C :: us, []⟩) R ⟨h, gs, dr, tk, os⟩ := by
  refine codeAny_call_builtin_code (Code.quiet_builtin _ T.quiet) ?_
  have z1 := T.noStar
  have z2 := T.ends
  have m1 : (Value.ref C :: bm).contains (.type B) = true := line_mem L
  have m2 : (Value.ref C :: bm).contains (.type "AttributeError") = false := line_noA L
  have m3 : (Value.ref C :: bm).contains (.type "NameError") = false := line_noN L
  simp only [checkBuiltinCall, T.newKind, T.newSplit, T.newRow]
  repeat (first
    | refine wpAny_loadPart_at hC ?_
    | (refine wpAny_isSubtype_exc hC ?_; rw [m1])
    | refine wpAny_staticBase_exc hC ?_
    | refine wpAny_madeBy_exc hC ?_
    | simp only [bne_self_eq_false, Bool.false_eq_true, if_false]
    | wp_step)
  refine codeAny_builtinAt T.entry ?_
  unfold Builtin.«BaseException.__new__»
  refine PySem.wpAt_bind ?_
  show PySem.wpAt _ _ _ (stack >>= _) _ _ _
  refine PySem.wpAt_bind (PySem.wpAt_stack fun p below => PySem.wpAt_of_wpAny ?_)
  wp_walk
  refine PySem.wpAt_of_wpAny ?_
  rw [T.owner]
  repeat (first
    | with_reducible refine wpAny_madeHere_exc T.canon hC ?_
    | with_reducible refine wpAny_loadPart_at hC ?_
    | (with_reducible refine wpAny_isSubtype_exc hC ?_; first | rw [m1] | rw [m2] | rw [m3])
    | wp_step)
  show R _ _
  rw [Heap.size_push]
  exact want
/-- the class is called: __new__, then what stands as its __init__ -/
theorem xc_call {iv : Value} (T : ExcBaseFacts B newId iid bb) (L : Line B bm) (hC : h.get? C = some (excClassObj nmS qS C N bs bm hd sn sub ab col dd k0 k1 k2 k3 k5 newId)) (size : us.length ≤ sizeLine)
    (hi : PySem.W.Looks (model P w) h (typeLookup (.ref C) "__init__") (some iv)) (hb : ∀ self, PySem.W.Looks (model P w) h (bindSpecial iv self) (iv, [self]))
    (want : codeAny (model P w) (A.under (.builtin "type.__call__" ⟨.ref C :: us, []⟩)) (.call iv ⟨.ref (h.objs.size + 1) :: us, []⟩) (PySem.W.InitBack (h.objs.size + 1) R) ⟨laidX h C us, gs, dr, tk, os⟩) :
    codeAny (model P w) A (.call (.ref C) ⟨us, []⟩) R ⟨h, gs, dr, tk, os⟩ := by
  have f1 := tc_lookup
  have f2 := tc_bind (.ref C)
  have ty : (⟨h, gs, dr, tk, os⟩ : Shared).TypeIs (.ref C) "type" := ⟨_, hC, rfl⟩
  refine codeAny_of_tree ?_
  show wpAny _ _ (callAny (.ref C) _) _ _ _
  repeat (any_goals (first
    | assumption
    | with_reducible refine wpAny_loadPart_at hC ?_
    | wp_step))
  refine ⟨rfl, codeAny_call_builtin_at (Code.quiet_builtin _ (by decide +kernel)) entry_typeCall (wpAny_check_type_call_sub hC ?_)⟩
  repeat (first
    | with_reducible refine wpAny_loadPart_at hC ?_
    | with_reducible refine wpAny_madeBy_exc hC ?_
    | wp_step)
  refine xc_new T L hC size ?_
  show wpAny _ _ _ _ _ _
  have keep : ∀ b o, h.get? b = some o → (laidX h C us).get? b = some o := fun b o e => Heap.get?_push_of_some _ (Heap.get?_push_of_some _ e)
  have there : (laidX h C us).get? (h.objs.size + 1) = some (PySem.HandSPX.excO C h.objs.size) := by heap_get
  have cls2 := keep _ _ hC
  have self2 : (Value.ref C :: bm).contains (.ref C) = true := by simp
  have look2 := hi.keeps keep
  have bind2 := (hb (.ref (h.objs.size + 1))).keeps keep
  unfold isInstance
  repeat (first
    | with_reducible refine wpAny_loadPart_at there ?_
    | (change wpAny _ _ (isSubtype (Value.ref C) (Value.ref C)) _ _ _; refine wpAny_isSubtype_exc cls2 ?_; rw [self2])
    | wp_step)
  show wpAny _ _ (typeLookup (.ref C) _) _ _ _
  refine look2.at (wpAny_holding (wpAny_bind (bind2.at (wpAny_bind (wpAny_call (codeAny_mono want fun r s' z => ?_))))))
  cases r with
  | error e => exact z
  | ok fl =>
    cases fl with
    | ret v =>
      obtain ⟨rfl, z⟩ := z
      first
        | exact wpAny_pure (wpAny_pure z)
        | (wp_walk; exact z)
    | _ => exact False.elim z
/-- the built-in __init__ on such an exception: what is kept as its args is laid anew -/
theorem xc_init {e t0 : Addr} (T : IniF B id) (L : Line B bm) (hC : h.get? C = some (excClassObj nmS qS C N bs bm hd sn sub ab col dd k0 k1 k2 k3 k5 newId)) (he : h.get? e = some (PySem.HandSPX.excO C t0)) (size : us.length ≤ sizeLine)
    (want : ∀ h' t1, (∀ b o, b ≠ e → h.get? b = some o → h'.get? b = some o) → h'.get? e = some (PySem.HandSPX.excO C t1) → R (.ok (.ret .none)) ⟨h', gs, dr, tk, os⟩) :
    codeAny (model P w) A (.call (.builtin id) ⟨.ref e :: us, []⟩) R ⟨h, gs, dr, tk, os⟩ := by
  refine codeAny_call_builtin T.plain T.entry ?_
  have m1 : (Value.ref C :: bm).contains (.type B) = true := line_mem L
  have z1 := T.star
  simp only [checkBuiltinCall, T.kind, T.split, T.row]
  repeat (first
    | (with_reducible refine wpAny_loadPart_at he ?_; dsimp only)
    | with_reducible refine wpAny_loadPart_at hC ?_
    | (with_reducible refine wpAny_isSubtype_exc hC ?_; rw [m1])
    | wp_step)
  refine wpAny_onRaise ?_
  have plain : ∀ (a b : String) (n : Nat), Bind.check ⟨.positional, "*", B, .self, [⟨"args", .varPos, false⟩]⟩ a b n (List.map (fun x => x.fst) ({ pos := Value.ref e :: us } : Args).kw) = pure () := fun a b n => check_star_args ..
  rw [plain]
  refine wpAny_pure ?_
  wp_walk
  refine want _ h.objs.size (fun b o nb hb => ?_) ?_
  · exact (Heap.get?_update_other _ _ (Ne.symm nb)).trans (Heap.get?_push_of_some _ hb)
  · exact Heap.get?_update_self _ (Heap.get?_push_of_some _ he) rfl
end
end Kn
namespace Kn
open PySem PySem.Spec PyProof.Rows
open L2 hiding St
/-- the line of an own exception class: B makes its objects, I's __init__ is called on them -/
structure XLine (B I : String) (bm : List Value) : Prop where
  makes : Line B bm
  inits : Line I bm
  top : bm.contains (.type "object") = true
  pass : ∀ (self : Value) (C : Addr), refuseLoop self "__setattr__" (.ref C :: bm) = pure ()
structure XbIn (K : PySem.W.Frag) (C : Addr) (B newId I : String) : Prop where
  cls : ∃ nm q N bs bm sn sub ab col dd k0 k1 k2 k3 k5, K.lookup C = some (excClassObj nm q C N bs bm true sn sub ab col dd k0 k1 k2 k3 k5 newId) ∧ XLine B I bm
  made : ∃ iid bb, ExcBaseFacts B newId iid bb
  sa : PySem.W.findIn K (.ref C) "__setattr__" = some (some (.builtin "object.__setattr__"))
  exC : PySem.W.subIn K (.ref C) (.type "BaseException") = some true
  tyC : PySem.W.typeIn K (.ref C) = some (.type "type")
  kC : PySem.W.keepIn K (.ref C) = true
theorem xline_val {bm : List Value} (h : PySem.HandSPX.refsVE bm = true) : XLine "ValueError" "ValueError" bm where
  makes := ⟨(PySem.HandSPX.refsVE_contains _ _ h).trans (by decide +kernel), (PySem.HandSPX.refsVE_contains _ _ h).trans (by decide +kernel), (PySem.HandSPX.refsVE_contains _ _ h).trans (by decide +kernel)⟩
  inits := ⟨(PySem.HandSPX.refsVE_contains _ _ h).trans (by decide +kernel), (PySem.HandSPX.refsVE_contains _ _ h).trans (by decide +kernel), (PySem.HandSPX.refsVE_contains _ _ h).trans (by decide +kernel)⟩
  top := (PySem.HandSPX.refsVE_contains _ _ h).trans (by decide +kernel)
  pass := fun self C => PySem.HandSPX.refsVE_pass self (.ref C :: bm) h
theorem xb_val {K : PySem.W.Frag} {C : Addr} (T : OexC K C) : XbIn K C "ValueError" "ValueError.__new__" "ValueError" where
  cls := by
    obtain ⟨nm, q, N, bs, bm, sn, sub, ab, col, dd, k0, k1, k2, k3, k5, h1, h2⟩ := T.cls
    exact ⟨nm, q, N, bs, bm, sn, sub, ab, col, dd, k0, k1, k2, k3, k5, h1, xline_val h2⟩
  made := ⟨_, _, F.excBase_ValueError⟩
  sa := T.sa
  exC := T.exC
  tyC := T.tyC
  kC := T.kC
/-- KeyError's own line -/
abbrev keyTail : List Value := [.type "KeyError", .type "LookupError", .type "Exception", .type "BaseException", .type "object"]
theorem xline_key : XLine "LookupError" "KeyError" keyTail where
  makes := ⟨by decide +kernel, by decide +kernel, by decide +kernel⟩
  inits := ⟨by decide +kernel, by decide +kernel, by decide +kernel⟩
  top := by decide +kernel
  pass := fun self C => by
    rw [refuseLoop_ref]
    kernel_rfl
section
open Builtin Builtin.ObjectAttr
variable {P : Program} {w : World} {A : Around} {h : Heap} {gs : Array GenState} {dr : Drawn} {tk : Nat} {os : OsState} {R : Result → Shared → Prop} {K : PySem.W.Frag} {C a : Addr} {f : Str} {t : Tok} {v : Value} {bm fv : List Value} {B I : String}
/-- object.__setattr__ on such an exception ends at its own dict -/
theorem xc_put {cd : ClassData} {ox : Obj} {od : Option Obj} (hK : K.In h) (J : PySem.W.InstAt h a ox C od) (hc : PySem.W.clsIn K C = some cd) (hl : cd.mro = .ref C :: bm) (L : XLine B I bm) (hno : PySem.W.findIn K (.ref C) f = some none)
    (want : wpAny (model P w) A.in1 (storeInOwnDict (.ref a) (.ref C) (.str f t) f v false) (fun fin s' => match fin with | .done z => R (.ok z) s' | .again c' => c'.quiet = true ∧ codeAny (model P w) A c' R s') (fun e s' => R (.error e) s') ⟨h, gs, dr, tk, os⟩) :
    codeAny (model P w) A (.call (.builtin "object.__setattr__") ⟨[.ref a, .str f t, v], []⟩) R ⟨h, gs, dr, tk, os⟩ := by
  have top : PySem.W.mroIn K C (.type "object") = some true := by
    unfold PySem.W.mroIn
    rw [hc, Option.bind_some, hl, if_neg (by simp), List.contains_cons, L.top, Bool.or_true]
  have isObj : PySem.W.Looks (model P w) h (isInstance (.ref a) (.type "object")) true := J.type.andThen (PySem.W.looks_mroIn hK top)
  have line : PySem.W.Looks (model P w) h (mroOf (.ref C)) (.ref C :: bm) := by
    have q : PySem.W.Looks (model P w) h (mroOf (.ref C)) cd.mro := (PySem.W.looks_clsIn hK hc).andThen .now
    rw [hl] at q
    exact q
  have nobody : PySem.W.Looks (model P w) h (storeTaker? none) none := .now
  have O := F.store_object
  refine codeAny_call_builtin O.slot.plain O.entry (@PySem.W.check_slot (model P w) _ _ ⟨h, gs, dr, tk, os⟩ "object.__setattr__" "object" "__setattr__" (.ref a) [.str f t, v] [] _ O.kind O.split isObj (O.args (.ref a) (.str f t) v) ?_)
  rw [PySem.W.osa_eq, refuse_eq]
  refine wpAny_bind (wpAny_bind (J.type.at (wpAny_bind (line.at ?_))))
  rw [L.pass]
  exact wpAny_pure (wpAny_bind (J.type.at (wpAny_bind ((PySem.W.looks_findIn hK hno).at (wpAny_bind (nobody.at want))))))
/-- the first field: the dict is laid -/
theorem xc_put1 {cd : ClassData} {vs : Array Value} (hK : K.In h) (there : h.get? a = some { cls := .ref C, data := .fields vs }) (hc : PySem.W.clsIn K C = some cd) (hl : cd.mro = .ref C :: bm) (hd : cd.hasDict = true) (L : XLine B I bm) (hno : PySem.W.findIn K (.ref C) f = some none)
    (want : ∀ h2 tk2 dx, (∀ b o, b ≠ a → h.get? b = some o → h2.get? b = some o) → h.objs.size ≤ dx → dx ≠ a → h2.get? a = some { cls := .ref C, dict := some dx, data := .fields vs } → h2.Ns1 dx (fun y => if y = f then some v else none) → R (.ok (.ret .none)) ⟨h2, gs, dr, tk2, os⟩) :
    codeAny (model P w) A (.call (.builtin "object.__setattr__") ⟨[.ref a, .str f t, v], []⟩) R ⟨h, gs, dr, tk, os⟩ := by
  have na : a ≠ h.objs.size := Nat.ne_of_lt (Heap.lt_size there)
  have read : PySem.W.Looks (model P w) h (classData C) cd := PySem.W.looks_clsIn hK hc
  refine xc_put hK (ox := { cls := .ref C, data := .fields vs }) (od := none) ⟨there, rfl, rfl, trivial⟩ hc hl L hno ?_
  obtain ⟨c1, c2, c3, c4, c5, c6, c7, c8, c9, c10, c11⟩ := cd
  cases (show c6 = true from hd)
  (unfold storeInOwnDict; unfold ownDictForStores)
  repeat (first
    | with_reducible refine PySem.HandSPX.store_in_new ?_ ?_
    | with_reducible refine wpAny_loadPart_at there ?_
    | with_reducible refine read.at ?_
    | wp_step)
  · refine ⟨_, #[], _, (Heap.get?_update_ne _ _ _ _ na.symm).trans (Heap.get?_push_at rfl rfl), rfl, fun e he => absurd he (by simp), fun _ => rfl⟩
  · intro h2 tk2 ns same
    have there2 : (h.push { cls := .type "dict", data := .dict #[] }).get? a = some { cls := .ref C, data := .fields vs } := Heap.get?_push_of_some _ there
    exact want h2 tk2 h.objs.size (fun b o nb hb => (same.2 b (Nat.ne_of_lt (Heap.lt_size hb))).trans ((Heap.get?_update_ne _ _ _ _ nb).trans (Heap.get?_push_of_some _ hb))) (Nat.le_refl _) na.symm
      ((same.2 a na).trans (Heap.get?_update_self _ there2 rfl)) ns
/-- a further field -/
theorem xc_put2 {cd : ClassData} {dx : Addr} {vs : Array Value} {m0 : Str → Option Value} {ns : List Str} (hK : K.In h) (there : h.get? a = some { cls := .ref C, dict := some dx, data := .fields vs }) (hn : h.Ns1 dx m0) (hw : Within m0 ns) (few : ns.length ≤ 1000) (hc : PySem.W.clsIn K C = some cd) (hl : cd.mro = .ref C :: bm) (hd : cd.hasDict = true) (L : XLine B I bm)
    (hno : PySem.W.findIn K (.ref C) f = some none) (want : ∀ h2 tk2, (∀ b o, b ≠ dx → h.get? b = some o → h2.get? b = some o) → h2.Ns1 dx (fun y => if y = f then some v else m0 y) → R (.ok (.ret .none)) ⟨h2, gs, dr, tk2, os⟩) :
    codeAny (model P w) A (.call (.builtin "object.__setattr__") ⟨[.ref a, .str f t, v], []⟩) R ⟨h, gs, dr, tk, os⟩ := by
  obtain ⟨oD, _, _, hoD, _, _⟩ := hn.count hw
  have read : PySem.W.Looks (model P w) h (classData C) cd := PySem.W.looks_clsIn hK hc
  refine xc_put hK (ox := { cls := .ref C, dict := some dx, data := .fields vs }) (od := some oD) ⟨there, rfl, rfl, hoD⟩ hc hl L hno ?_
  obtain ⟨c1, c2, c3, c4, c5, c6, c7, c8, c9, c10, c11⟩ := cd
  cases (show c6 = true from hd)
  (unfold storeInOwnDict; unfold ownDictForStores)
  repeat (first
    | with_reducible refine PySem.OEX.store_in_old hn hw few ?_
    | with_reducible refine wpAny_loadPart_at there ?_
    | with_reducible refine read.at ?_
    | wp_step)
  intro h2 tk2 ns2 same
  exact want h2 tk2 (fun b o nb hb => (same.2 b nb).trans hb) ns2
end
end Kn
namespace Kn
open PySem PySem.Spec PyProof.Rows
open L2 hiding St
section
variable {X : Cx} {pins : List (Addr × Obj)} {σ : SV} {H : Hp} {s : Shared} {a C dx : Addr} {f : Str} {y : V} {u : Value} {fs : List (Str × V)} {Q : Unit → Shared → Prop} {E : Value → Shared → Prop} {A : Around} {B nI Bi id : String}
theorem clsIn_of {K : PySem.W.Frag} {nm q : Str} {N : Addr} {bs bm : List Value} {sn : List Str} {sub : List Value} {ab : Bool} {col : Option Bool} {dd : Option Addr} {k0 k1 k2 k3 k5 : Option Value} {newId : String}
    (h : K.lookup C = some (excClassObj nm q C N bs bm true sn sub ab col dd k0 k1 k2 k3 k5 newId)) : PySem.W.clsIn K C = some { name := nm, bases := bs, mro := .ref C :: bm, ns := N, qualname := q, hasDict := true, slotNames := sn, subclasses := sub, abstract := ab, collection := col, hasDel := false } := by
  unfold PySem.W.clsIn
  rw [h] <;> rfl
theorem xo_new (T : XbIn X.K C B nI Bi) (I : Inv X pins σ H s) (ha : H a = some (exo a C none)) (hno : PySem.W.findIn X.K (.ref C) f = some none) (ry : RelV y u)
    (want : ∀ dx s', H dx = none → dx ≠ a → Inv X pins σ (upd (upd H dx (exd dx [(f, y)])) a (exo a C (some dx))) s' → Q () s') : wpAny (model X.prog X.w) A (setAttr (.ref a) f u) Q E s := by
  obtain ⟨nm, q, N, bs, bm, sn, sub, ab, col, dd, k0, k1, k2, k3, k5, hC, L⟩ := T.cls
  obtain ⟨t1, at1⟩ := exo_at I.hok ha
  obtain ⟨hp, g, dr, t, os⟩ := s
  refine PySem.W.set_plain I.kIn (ox := { cls := .ref C, dict := none, data := .fields #[.ref t1, .none, .none, .none, .bool false, .none] }) (od := none) ⟨at1, rfl, rfl, trivial⟩ T.sa ?_
  refine xc_put1 I.kIn at1 (clsIn_of hC) rfl rfl L hno fun h2 tk2 dx keep new nda here dict => ?_
  have free : H dx = none := I.hok.fresh new
  have old : ∀ {b : Addr} {o : Obj}, hp.get? b = some o → b ≠ dx := fun {b o} z => Nat.ne_of_lt (Nat.lt_of_lt_of_le (Heap.lt_size z) new)
  have nota : ∀ {b : Addr}, H b = none → b ≠ a := fun {b} n z => by
    rw [z, ha] at n
    exact nomatch n
  have other : ∀ {b : Addr}, b ≠ a → b ≠ dx → upd (upd H dx (exd dx [(f, y)])) a (exo a C (some dx)) b = H b := fun {b} z1 z2 => by rw [upd_ne z1, upd_ne z2]
  have still : ∀ {b : Addr} {o : HO}, H b = some o → exo a C none ≠ o → upd (upd H dx (exd dx [(f, y)])) a (exo a C (some dx)) b = some o := fun {b o} z d => (other (at_ne ha z d) (ne_of_none z free)).trans z
  refine want dx _ free nda (I.un (t' := tk2) ⟨fun b o z n _ _ => keep b o (nota n) z, fun b o z n _ _ => ⟨o.slots, keep b o (nota n) z⟩, fun b o z n _ => (other (nota n) (old z)).trans n, fun b o z _ => ?_, fun b xs z => still z exo_tup, fun b o v z => still z exo_frz,
    fun b ps z => ⟨#[], by rw [still z exo_tbl]; simp⟩⟩ fun b o z => ?_)
  · rcases Decidable.em (b = a) with rfl | nb
    · exact ⟨_, here⟩
    · exact ⟨o, keep b o nb z⟩
  · rcases Decidable.em (b = a) with rfl | nb
    · rw [upd_same] at z
      cases z
      exact exo_ok here
    · rcases Decidable.em (b = dx) with rfl | nd
      · rw [upd_ne nb, upd_same] at z
        cases z
        exact exd_ok dict (relO_put (fs := []) ry fun g => True.intro)
      · rw [other nb nd] at z
        exact (I.hok b o z).stay (fun c v hc k => keep c v (by
            rcases hc with rfl | hc
            · exact nb
            · exact at_ne ha hc exo_own) k)
          (fun c hc => still hc exo_own) fun c xs hc => still hc exo_tup
theorem xo_old (T : XbIn X.K C B nI Bi) (I : Inv X pins σ H s) (ha : H a = some (exo a C (some dx))) (hd : H dx = some (exd dx fs)) (few : fs.length ≤ 900) (hno : PySem.W.findIn X.K (.ref C) f = some none) (ry : RelV y u)
    (want : ∀ s', Inv X pins σ (upd H dx (exd dx ((f, y) :: fs))) s' → Q () s') : wpAny (model X.prog X.w) A (setAttr (.ref a) f u) Q E s := by
  obtain ⟨nm, q, N, bs, bm, sn, sub, ab, col, dd, k0, k1, k2, k3, k5, hC, L⟩ := T.cls
  obtain ⟨t1, at1⟩ := exo_at I.hok ha
  obtain ⟨mA, ns, rel⟩ := exd_at I.hok hd
  have wn := within_of rel
  obtain ⟨hp, g, dr, t, os⟩ := s
  obtain ⟨oD, _, _, atD, _, _⟩ := ns.count wn
  refine PySem.W.set_plain I.kIn (ox := { cls := .ref C, dict := some dx, data := .fields #[.ref t1, .none, .none, .none, .bool false, .none] }) (od := some oD) ⟨at1, rfl, rfl, atD⟩ T.sa ?_
  refine xc_put2 I.kIn at1 ns wn (by rw [List.length_map]; omega) (clsIn_of hC) rfl rfl L hno fun h2 tk2 keep dict => ?_
  obtain ⟨o2, _, _, at2, _⟩ := id dict
  exact want _ (I.write (t' := tk2) (x := dx) (e := dx) (o := exd dx ((f, y) :: fs)) (by rw [hd]; exact True.intro) (.inl rfl) keep ⟨o2, at2⟩ (exd_ok dict (relO_put ry rel)))
/-- the built-in __init__, called on it from its own one -/
theorem xo_init {us : List Value} {Q : Value → Shared → Prop} (T : XbIn X.K C B nI Bi) (F : IniF Bi id) (I : Inv X pins σ H s) (ha : H a = some (exo a C none)) (size : us.length ≤ sizeLine) (want : ∀ s', Inv X pins σ H s' → Q .none s') :
    wpAny (model X.prog X.w) A (call (.builtin id) (.ref a :: us)) Q E s := by
  obtain ⟨nm, q, N, bs, bm, sn, sub, ab, col, dd, k0, k1, k2, k3, k5, hC, L⟩ := T.cls
  obtain ⟨t1, at1⟩ := exo_at I.hok ha
  obtain ⟨hp, g, dr, t, os⟩ := s
  refine wpAny_call (xc_init F L.inits (I.kIn _ _ hC) at1 size fun h2 t2 keep here => want _ ?_)
  have J := I.write (t' := t) (x := a) (e := a) (o := exo a C none) (by rw [ha]; exact True.intro) (.inl rfl) keep ⟨_, here⟩ (exo_ok here)
  have same : upd H a (exo a C none) = H := funext fun b => by
    rcases Decidable.em (b = a) with rfl | nb
    · rw [upd_same, ha]
    · rw [upd_ne nb]
  rw [same] at J
  exact J
end
end Kn
namespace Kn
open PySem PySem.Spec PyProof.Rows
open L2 hiding St
def IsXb (K : PySem.W.Frag) (C : Addr) : Prop := ∃ B nI Bi, XbIn K C B nI Bi
def tXput (K : PySem.W.Frag) (f : Str) (to te : TE) : TS := fun D σ H => te σ H fun y H1 => to σ H1 fun x H2 => ∃ a C : Addr, x = .ref a ∧ IsXb K C ∧ PySem.W.findIn K (.ref C) f = some none ∧
  ((H2 a = some (exo a C none) ∧ ∀ dx, H2 dx = none → dx ≠ a → D.nx σ (upd (upd H2 dx (exd dx [(f, y)])) a (exo a C (some dx)))) ∨
    ∃ (dx : Addr) (fs : List (Str × V)), H2 a = some (exo a C (some dx)) ∧ H2 dx = some (exd dx fs) ∧ fs.length ≤ 900 ∧ D.nx σ (upd H2 dx (exd dx ((f, y) :: fs))))
def tTini (K : PySem.W.Frag) (Bi : String) (ta : TA) : TE := fun σ H Q => ta σ H fun vs H1 => ∃ (a C : Addr) (ws : List V), vs = .ref a :: ws ∧ ws.length ≤ 1000 ∧ (∃ B nI, XbIn K C B nI Bi) ∧ H1 a = some (exo a C none) ∧ Q .non H1
section
variable {X : Cx} {O : Own} {ρ : List Slot} {x : ExK} {k : Slot → Own → Prop} {e o : Expr} {es : List Expr} {pos p p1 p2 p' : Pos} {D : SD} {g : Bool} {j n : Nat} {S : SpecT} {C : Addr}
theorem ps_xput {to te : TE} {f : Str} (ho : PE X o to) (he : PE X e te) (hs : swapsWith e (some (.Attribute o f p')) pos.line X.env = pure false := by rfl) : PS X (.Assign [.Attribute o f p'] e pos) (tXput X.K f to te) :=
  ⟨fun pins s σ H D I h => plainObj_wpAny_Assign_Attribute (thn (he.run pins s σ H _ I h) fun v s1 ⟨y, H1, I1, r1, q1⟩ => thn (ho.run pins s1 σ H1 _ I1 q1) fun u s2 ⟨z, H2, I2, r2, a, C, ez, ⟨B, nI, Bi, T⟩, no, q⟩ => by
    subst ez
    obtain rfl : u = Value.ref a := r2
    rcases q with ⟨ha, q⟩ | ⟨dx, fs, ha, hd, few, q⟩
    · exact xo_new T I2 ha no r1 fun dx s' z1 z2 J => ⟨σ, _, J, q dx z1 z2⟩
    · exact xo_old T I2 ha hd few no r1 fun s' J => ⟨σ, _, J, q⟩) hs⟩
/-- self.f = e, self an exception that is being made -/
theorem s1_xput {f : Str} (h : EW X O ρ e x fun s1 O1 => EW X O1 ρ o x fun s2 O2 => ∃ a C, s2 = .own a ∧ IsXb X.K C ∧ PySem.W.findIn X.K (.ref C) f = some none ∧
      ((O2 a = some (.exo C none) ∧ ∀ dx, O2 dx = none → D.nx ρ (up (up O2 dx (.exd [(f, s1)])) a (.exo C (some dx)))) ∨
        ∃ dx fs, O2 a = some (.exo C (some dx)) ∧ O2 dx = some (.exd fs) ∧ fs.length ≤ 900 ∧ D.nx ρ (up O2 dx (.exd ((f, s1) :: fs)))))
    (hs : swapsWith e (some (.Attribute o f p')) pos.line X.env = pure false := by rfl) : S1 X O ρ (.Assign [.Attribute o f p'] e pos) x D := fun H0 σ H st tk E ok => by
  refine ws_of (ps_xput pe_w pe_w hs) (two h st tk (Q := fun y v2 H2 => ∃ a C : Addr, v2 = .ref a ∧ IsXb X.K C ∧ PySem.W.findIn X.K (.ref C) f = some none ∧ ((H2 a = some (exo a C none) ∧ ∀ dx, H2 dx = none → dx ≠ a → E.nx σ (upd (upd H2 dx (exd dx [(f, y)])) a (exo a C (some dx)))) ∨
    ∃ (dx : Addr) (fs : List (Str × V)), H2 a = some (exo a C (some dx)) ∧ H2 dx = some (exd dx fs) ∧ fs.length ≤ 900 ∧ E.nx σ (upd H2 dx (exd dx ((f, y) :: fs))))) fun y v2 s1 s2 O2 H2 hp st2 r1 r2 => ?_)
  obtain ⟨a, C, rfl, isX, no, way⟩ := hp
  obtain rfl : v2 = .ref a := r2
  refine ⟨a, C, rfl, isX, no, ?_⟩
  rcases way with ⟨ca, next⟩ | ⟨dx, fs, ca, cd, few, next⟩
  · obtain ⟨_, z1, rfl⟩ := st2.own.cell a _ ca
    exact .inl ⟨z1, fun dx free nda => ok.nx σ ρ _ _ (next dx (own_free st2.own free)) ((st2.alloc (o := exd dx [(f, y)]) (c := .exd [(f, s1)]) free ⟨_, rfl, .cons ⟨rfl, r1⟩ .nil⟩).write (p := a) (o := exo a C (some dx)) (c := .exo C (some dx)) (by rw [up_ne nda.symm]; exact ca) rfl)⟩
  · obtain ⟨_, z1, rfl⟩ := st2.own.cell a _ ca
    obtain ⟨_, z2, fv, rfl, z3⟩ := st2.own.cell dx _ cd
    exact .inr ⟨dx, fv, z1, z2, by rw [paired_len z3]; exact few, ok.nx σ ρ _ _ next (st2.write (o := exd dx ((f, y) :: fv)) (c := .exd ((f, s1) :: fs)) cd ⟨_, rfl, .cons ⟨rfl, r1⟩ z3⟩)⟩
/-- TY.__init__(self, ..), TY a built-in exception class -/
structure TyIni (K : PySem.W.Frag) (Bi id : String) : Prop where
  ini : IniF Bi id
  ty : typeOf (.type Bi) = pure (.type "type")
  stub : Manifest.isStub Bi = false
  get : PySem.W.findCls K (.type Bi) (.type "type") "__init__" = some (.val (.builtin id))
  hand : PySem.W.handedIn (.builtin id) = true
theorem pe_tini {Bi id : String} {nm : Str} {ta : TA} {pl : Sem Bool} (T : TyIni X.K Bi id) (hg : Gl X nm) (hm : X.mg nm = none) (hv : bootBuiltins nm = some (.type Bi)) (ha : PA X (e :: es) ta)
    (hc : eval (.Call (.Attribute (.Name nm p1) "__init__" p2) (e :: es) [] pos) X.env = (do
      let ov ← eval (.Name nm p1) X.env
      standAt p2.atName
      let (f, first) ← holding [ov] (getMethod ov "__init__" pl)
      callWith pos f first (backTo pos (starEach (e :: es) X.env)) (backToKw pos (keywordEach [] X.env))) := by rfl)
    (he : starEach (e :: es) X.env = (false, eval e X.env) :: starEach es X.env := by rfl) (hpl : (backTo pos (starEach es X.env)).any (·.1) = false := by rfl) (hnm : nm ≠ "__name__" := by decide) (hdb : (nm == ("__debug__" : Str)) = false := by decide) :
    PE X (.Call (.Attribute (.Name nm p1) "__init__" p2) (e :: es) [] pos) (tTini X.K Bi ta) := ⟨fun pins s σ H Q I want => by
  refine PySem.W.methodCall_KW (ld_blt I hg hm hv ?_ hnm hdb) hc
  obtain ⟨m, fr⟩ := I.fr
  refine PySem.W.method_type fr I.ok.mod.kin T.ty T.stub T.get T.hand ?_
  show wpAny _ _ (callWith pos _ [] _ []) _ _ _
  refine PyProof.Rows.callWith_method1 (thn (ha.run pos pins _ σ H _ (I.tok _) want) ?_) he hpl
  rintro us t ⟨vs, H1, I1, r1, a, C, ws, rfl, size, ⟨B, nI, XB⟩, at_, q⟩
  cases r1 with
  | @cons _ u _ us' same rest =>
    cases (show u = Value.ref a from same)
    exact xo_init XB T.ini I1 at_ (by rw [← Paired.length rest, sizeLine_eq]; omega) fun t J => ⟨.non, H1, J, rfl, q⟩⟩
theorem ew_tini {Bi id : String} {nm : Str} {pl : Sem Bool} (T : TyIni X.K Bi id) (hm : X.mg nm = none) (hv : bootBuiltins nm = some (.type Bi)) (h : AW X O ρ (e :: es) x fun ss O1 => ∃ (a C : Addr) (ws : List Slot), ss = .own a :: ws ∧ ws.length ≤ 1000 ∧ (∃ B nI, XbIn X.K C B nI Bi) ∧ O1 a = some (.exo C none) ∧ k (.dat .non) O1)
    (hg : Gl X nm := by rfl)
    (hc : eval (.Call (.Attribute (.Name nm p1) "__init__" p2) (e :: es) [] pos) X.env = (do
      let ov ← eval (.Name nm p1) X.env
      standAt p2.atName
      let (f, first) ← holding [ov] (getMethod ov "__init__" pl)
      callWith pos f first (backTo pos (starEach (e :: es) X.env)) (backToKw pos (keywordEach [] X.env))) := by rfl)
    (he : starEach (e :: es) X.env = (false, eval e X.env) :: starEach es X.env := by rfl) (hpl : (backTo pos (starEach es X.env)).any (·.1) = false := by rfl) (hnm : nm ≠ "__name__" := by decide) (hdb : (nm == ("__debug__" : Str)) = false := by decide) :
    EW X O ρ (.Call (.Attribute (.Name nm p1) "__init__" p2) (e :: es) [] pos) x k := fun H0 σ H st tk Q q =>
  we_of (pe_tini (pl := pl) T hg hm hv pa_w hc he hpl hnm hdb) (h H0 σ H st tk _ fun vs H1 ss O1 ⟨a, C, ws, e1, size, isX, ca, hk⟩ st1 pr => by
    subst e1
    cases pr with
    | cons r1 r2 =>
      rename_i v vs'
      obtain rfl : v = .ref a := r1
      obtain ⟨_, z1, rfl⟩ := st1.own.cell a _ ca
      exact ⟨a, C, vs', rfl, by rw [paired_len r2]; exact size, isX, z1, q _ H1 _ O1 hk st1 .non⟩)
end
end Kn
namespace Kn
open PySem PySem.Spec PyProof.Rows
open L2 hiding St
/-- an own exception class with an __init__ of its own, and what this keeps -/
structure XbCls (P : Program) (w : World) (K : PySem.W.Frag) (mg : Str → Option Value) (base : Heap) (n : Nat) (C : Addr) (S : SpecT) : Prop where
  ex : IsXb K C
  ini : ∃ (f : Addr) (fd : FuncData) (ps : List Str), PySem.W.findIn K (.ref C) "__init__" = some (some (.ref f)) ∧ PySem.W.typeIn K (.ref f) = some (.type "function") ∧ Fn P w K mg base false n f fd ps S ∧ Binds K fd ps []
section
variable {X : Cx} {O : Own} {ρ : List Slot} {x : ExK} {k : Slot → Own → Prop} {e o : Expr} {es : List Expr} {pos p p2 : Pos} {D : SD} {g : Bool} {j n : Nat} {S : SpecT} {C : Addr} {f : Str}
/-- its __init__ is called on the new exception -/
def MkXb (C : Addr) (S : SpecT) (x : ExK) (ρ : List Slot) (k : Slot → Own → Prop) (ss : List Slot) (O : Own) : Prop :=
  ss.length ≤ 1000 ∧ ∀ a, O a = none → S (.own a :: ss) (up O a (.exo C none)) (kMake x ρ k a)
/-- the store with the new exception in it -/
theorem laid_inv {us : List Value} {pins : List (Addr × Obj)} {σ : SV} {H : Hp} {hp : Heap} {gg : Array GenState} {dr : Drawn} {tok : Nat} {os : OsState} (I : Inv X pins σ H ⟨hp, gg, dr, tok, os⟩) :
    Inv X pins σ (upd H (hp.objs.size + 1) (L2.exo (hp.objs.size + 1) C none)) ⟨laidX hp C us, gg, dr, tok, os⟩ :=
  I.laid (t' := tok) (fun b o e => Heap.get?_push_of_some _ (Heap.get?_push_of_some _ e)) (Nat.le_succ _) (exo_ok (by heap_get))
theorem run_mkXb {vs : List V} {us : List Value} {ss : List Slot} {pins : List (Addr × Obj)} {s : Shared} {σ : SV} {H0 H : Hp} {Q : VK} (T : XbCls X.prog X.w X.K X.mg X.base n C S) (hr : RoomB g (n + 1) X.A) (I : Inv X pins σ H s) (st : StOk X.K H0 O σ ρ H)
    (tk : Takes X (Wsem X.K H0 x)) (rv : Vals vs us) (pr : Paired (SlOk X.K (hid O H)) vs ss) (h : MkXb C S x ρ k ss O) (q : ∀ v H' s O', k s O' → StOk X.K H0 O' σ ρ H' → SlOk X.K (hid O' H') v s → Q v H') :
    wpAny (model X.prog X.w) X.A (call (.ref C) us) (EP X pins σ Q) X.xe s := by
  obtain ⟨B, nI, Bi, TC⟩ := T.ex
  obtain ⟨iid, bb, TB⟩ := TC.made
  obtain ⟨f, fd, ps, iC, tI, F, hb⟩ := T.ini
  obtain ⟨nm, qn, N, bs, bm, sn, sub, ab, col, dd, k0, k1, k2, k3, k5, hC, L⟩ := TC.cls
  obtain ⟨hp, gg, dr, tok, os⟩ := s
  obtain ⟨few, h⟩ := h
  have hn : H (hp.objs.size + 1) = none := I.hok.fresh (Nat.le_succ _)
  have hO : O (hp.objs.size + 1) = none := own_free st.own hn
  have st2 := st.alloc (o := L2.exo (hp.objs.size + 1) C none) (c := .exo C none) hn rfl
  have I2 := laid_inv (C := C) (us := us) I
  have gm : Same (hid O H) (hid (up O (hp.objs.size + 1) (.exo C none)) (upd H (hp.objs.size + 1) (L2.exo (hp.objs.size + 1) C none))) := fun b o z => by
    obtain ⟨z1, z2⟩ := of_hid z
    rw [hid_none (by rw [up_ne (ne_of_none z2 hn)]; exact z1), upd_ne (ne_of_none z2 hn)]
    exact z2
  have r2 : Vals (V.ref (hp.objs.size + 1) :: vs) (Value.ref (hp.objs.size + 1) :: us) := .cons rfl rv
  have sp : spS X.K S (V.ref (hp.objs.size + 1) :: vs) (upd H (hp.objs.size + 1) (L2.exo (hp.objs.size + 1) C none)) (fun v H2 => v = .non ∧ Q (.ref (hp.objs.size + 1)) H2) (fun cls d H' => Wsem X.K H0 x cls d σ H') :=
    ⟨_, .own (hp.objs.size + 1) :: ss, kMake x ρ k _, st2.own, .cons rfl (pmap (fun _ _ z => SlOk.mono gm z) pr), h _ hO,
      fun v H' s' O' ⟨e1, hk⟩ own2 sm2 r => by
        subst e1
        cases r
        exact ⟨rfl, q _ H' _ O' hk (st2.next own2 sm2) rfl⟩, fun cls d e H' O' h1 own2 sm2 h4 => ⟨e, ρ, O', h1, st2.next own2 sm2, h4⟩⟩
  have hlen : (Value.ref (hp.objs.size + 1) :: us).length = ps.length := r2.length.symm.trans (spS_len F.len _ _ _ _ sp)
  have hus : us.length ≤ sizeLine := by
    have z1 := paired_len pr
    have z2 := rv.length
    rw [sizeLine_eq]; omega
  have hbind := hb _ (Value.ref (hp.objs.size + 1) :: us) I2.kIn (by rw [List.append_nil]; exact hlen)
  rw [List.append_nil] at hbind
  refine wpAny_call (xc_call TB L.makes (I.kIn _ _ hC) hus (PySem.W.looks_findIn I.kIn iC) (fun self => PySem.W.bind_fn I.kIn self tI)
    (codeAny_mono (F.ok.run _ X.stack _ _ ⟨Value.ref (hp.objs.size + 1) :: us, []⟩ (Value.ref (hp.objs.size + 1) :: us) _ _ _ (hr.r.make C us []) (I2.env0.make C us []) hbind r2 sp) fun r s' hq' => ?_))
  match r, hq' with
  | .error e, hq' => exact tk e s' (XE.of_call I2 (fun _ _ _ h => h) hq')
  | .ok (.ret u), hq' =>
    obtain ⟨v, H', I3, rv, ev, q3⟩ := I2.after hq'
    subst ev
    exact ⟨rv, ⟨V.ref (hp.objs.size + 1), H', I3, rfl, q3⟩⟩
  | .ok .next, hq' => exact False.elim hq'
  | .ok .brk, hq' => exact False.elim hq'
  | .ok .cont, hq' => exact False.elim hq'
/-- NAME(e, ..) -/
theorem ew_mkXb {nm : Str} (M : XbCls X.prog X.w X.K X.mg X.base n C S) (hm : X.mg nm = some (.ref C)) (hr : RoomB g j X.A) (h : AW X O ρ (e :: es) x (MkXb C S x ρ k)) (hj : n + 1 ≤ j := by decide)
    (hg : Gl X nm := by rfl) (hdb : (nm == ("__debug__" : Str)) = false := by decide) (he : starEach (e :: es) X.env = (false, eval e X.env) :: starEach es X.env := by rfl) (hpl : (backTo pos (starEach es X.env)).any (·.1) = false := by rfl) :
    EW X O ρ (.Call (.Name nm p) (e :: es) [] pos) x k := fun H0 σ H st tk Q q => ⟨fun pins s I => by
  obtain ⟨B, nI, Bi, TC⟩ := M.ex
  refine wpAny_Call_Name_kw (ld_glob I hg hm ?_ hdb)
  refine PySem.W.callWith_K (h₀ := X.base) I.ok.mod.kin TC.kC (thn ((pa_w (es := e :: es)).run pos pins s σ H (fun vs H1 => ∃ ss O1, StOk X.K H0 O1 σ ρ H1 ∧ Paired (SlOk X.K (hid O1 H1)) vs ss ∧ MkXb C S x ρ k ss O1) I (h H0 σ H st tk _ fun vs H1 ss O1 h1 st1 r1 => ⟨ss, O1, st1, r1, h1⟩)) fun us s1 hq => ?_) he hpl
  obtain ⟨vs, H1, I1, rv, ss, O1, st1, pr, hS⟩ := hq
  exact ⟨I1.kIn, run_mkXb M (hr.mono hj (fun e => e)) I1 st1 tk rv pr hS q⟩⟩
/-- NAME(), the class has no __init__ of its own -/
theorem ew_mkXb0 {nm : Str} {id B nI Bi : String} (TC : XbIn X.K C B nI Bi) (Fi : IniF Bi id) (iC : PySem.W.findIn X.K (.ref C) "__init__" = some (some (.builtin id))) (hm : X.mg nm = some (.ref C)) (h : ∀ a, O a = none → k (.own a) (up O a (.exo C none)))
    (hg : Gl X nm := by rfl) (hdb : (nm == ("__debug__" : Str)) = false := by decide) :
    EW X O ρ (.Call (.Name nm p) [] [] pos) x k := fun H0 σ H st tk Q q => ⟨fun pins s I => by
  obtain ⟨iid, bb, TB⟩ := TC.made
  obtain ⟨nm', qn, N, bs, bm, sn, sub, ab, col, dd, k0, k1, k2, k3, k5, hC, L⟩ := TC.cls
  refine wpAny_Call_Name_kw (ld_glob I hg hm ?_ hdb)
  refine PySem.W.callWith_K0 I.kIn TC.kC ?_
  obtain ⟨hp, gg, dr, tok, os⟩ := s
  have hn : H (hp.objs.size + 1) = none := I.hok.fresh (Nat.le_succ _)
  have I2 := laid_inv (C := C) (us := []) I
  have h0 : (0 : Nat) ≤ sizeLine := Nat.zero_le _
  refine wpAny_call (xc_call TB L.makes (I.kIn _ _ hC) h0 (PySem.W.looks_findIn I.kIn iC) (fun self => by rw [Fi.bind]; exact .now) ?_)
  refine xc_init (e := hp.objs.size + 1) (t0 := hp.objs.size) Fi L.inits (I2.kIn _ _ hC) (by heap_get) h0 fun h' t1 keep here => ⟨rfl, ?_⟩
  have J := I2.write (t' := tok) (h' := h') (x := hp.objs.size + 1) (e := hp.objs.size + 1) (o := exo (hp.objs.size + 1) C none) (by rw [upd_same]; exact True.intro) (.inl rfl) keep ⟨_, here⟩ (exo_ok here)
  have same : upd (upd H (hp.objs.size + 1) (exo (hp.objs.size + 1) C none)) (hp.objs.size + 1) (exo (hp.objs.size + 1) C none) = upd H (hp.objs.size + 1) (exo (hp.objs.size + 1) C none) := funext fun b => by
    rcases Decidable.em (b = hp.objs.size + 1) with rfl | nb
    · rw [upd_same, upd_same]
    · rw [upd_ne nb]
  rw [same] at J
  exact ⟨V.ref (hp.objs.size + 1), _, J, rfl, q _ _ _ _ (h _ (own_free st.own hn)) (st.alloc (o := exo (hp.objs.size + 1) C none) (c := .exo C none) hn rfl) rfl⟩⟩
theorem ew_frzX (h : EW X O ρ e x fun s O' => ∃ a dx C fs, s = .own a ∧ O' a = some (.exo C (some dx)) ∧ O' dx = some (.exd (fs.map fun q => (q.1, .dat q.2))) ∧ k (.dat (.xcv C fs)) (dn (dn O' dx) a)) : EW X O ρ e x k := fun H0 σ H st tk Q q =>
  h H0 σ H st tk Q fun v H' s O' ⟨a, dx, C, fs, es, ca, cd, hk⟩ st' r => by
    subst es
    obtain rfl : v = .ref a := r
    have ne : a ≠ dx := fun z => by
      rw [z, cd] at ca
      cases ca
    refine q _ H' _ _ hk st'.freeze.freeze ?_
    obtain ⟨_, h1, rfl⟩ := st'.own.cell a _ ca
    obtain ⟨_, h2, fv, rfl, h3⟩ := st'.own.cell dx _ cd
    exact .xcv (by rw [hid_none dn_at]; exact h1) (by rw [hid_none (by rw [dn_ne ne.symm]; exact dn_at)]; exact h2) (RpF.of_paired (pmap (fun _ _ z => ⟨z.1, SlOk.mono (hid_dn.trans hid_dn) z.2⟩) h3))
theorem ew_frzX0 (h : EW X O ρ e x fun s O' => ∃ a C, s = .own a ∧ O' a = some (.exo C none) ∧ k (.dat (.xc0 C)) (dn O' a)) : EW X O ρ e x k := fun H0 σ H st tk Q q =>
  h H0 σ H st tk Q fun v H' s O' ⟨a, C, es, ca, hk⟩ st' r => by
    subst es
    obtain rfl : v = .ref a := r
    refine q _ H' _ _ hk st'.freeze ?_
    obtain ⟨_, h1, rfl⟩ := st'.own.cell a _ ca
    exact .xc0 (by rw [hid_none dn_at]; exact h1)
/-- where such an exception lies -/
theorem xcv_inst {pins : List (Addr × Obj)} {σ : SV} {H : Hp} {s : Shared} {a dx : Addr} {fv : List (Str × V)} (I : Inv X pins σ H s) (h1 : H a = some (exo a C (some dx))) (h2 : H dx = some (exd dx fv)) :
    ∃ ox od, PySem.W.InstAt s.heap a ox C (some od) ∧ ∀ f v, fv.lookup f = some v → ∃ u, PySem.W.lookIn f od = some (some u) ∧ RelV v u := by
  obtain ⟨t1, at1⟩ := exo_at I.hok h1
  obtain ⟨mA, ns, rel⟩ := exd_at I.hok h2
  obtain ⟨od, ho, hl⟩ := lookIn_ns ns
  refine ⟨_, od, ⟨at1, rfl, rfl, ho⟩, fun f v e => ?_⟩
  obtain ⟨u, hu, ru⟩ := RelO.some_of (v := v) (o := mA f) (by rw [← e]; exact rel f)
  exact ⟨u, by rw [hl, hu], ru⟩
theorem ew_xfld (h : EW X O ρ o x fun s O1 => ∃ C fs d, s = .dat (.xcv C fs) ∧ XfC X.K C ∧ PySem.W.findIn X.K (.ref C) f = some none ∧ fs.lookup f = some d ∧ k (.dat d) O1) (hb : attributeBase o f X.env (eval o X.env) = eval o X.env := by rfl) :
    EW X O ρ (.Attribute o f pos) x k := fun H0 σ H st tk Q q => ⟨fun pins s I => by
  refine attr_of hb (thn ((pe_w (e := o)).run pins s σ H (fun v H1 => ∃ O1 a dx C fv fs d, v = .ref a ∧ StOk X.K H0 O1 σ ρ H1 ∧ H1 a = some (exo a C (some dx)) ∧ H1 dx = some (exd dx fv) ∧ RpF X.K (hid O1 H1) fv fs ∧ XfC X.K C ∧ PySem.W.findIn X.K (.ref C) f = some none ∧ fs.lookup f = some d ∧ k (.dat d) O1) I
    (h H0 σ H st tk _ fun v H1 s1 O1 ⟨C, fs, d, e1, T, no, l, hk⟩ st1 r1 => ?_)) fun u s1 ⟨v, H1, I1, rv, O1, a, dx, C, fv, fs, d, ev, st1, h1, h2, h3, T, no, l, hk⟩ => ?_)
  · subst e1
    cases r1 with
    | xcv g1 g2 g3 => exact ⟨O1, _, _, C, _, fs, d, rfl, st1, hid_le _ _ g1, hid_le _ _ g2, g3, T, no, l, hk⟩
  · subst ev
    obtain rfl : u = Value.ref a := rv
    obtain ⟨ox, od, J, look⟩ := xcv_inst I1 h1 h2
    obtain ⟨v, l2, rp⟩ := h3.lookup l
    obtain ⟨u, lu, ru⟩ := look f v l2
    exact PySem.HandSPX.exc_get I1.kIn J T.ga T.gg T.exC (PySem.W.findObj_own T.hdC no rfl lu) (handed_of ru) ⟨v, H1, I1.tok _, ru, q _ H1 _ O1 hk st1 rp⟩⟩
/-- an own exception as data: its class -/
def xcOf : Dat → Option Addr
  | .xcv C _ => some C
  | .xc0 C => some C
  | _ => none
theorem xc_inst {d : Dat} {pins : List (Addr × Obj)} {σ : SV} {H : Hp} {s : Shared} {v : V} (h : xcOf d = some C) (I : Inv X pins σ H s) (r : Rp X.K (hid O H) v d) : ∃ a ox od, v = .ref a ∧ PySem.W.InstAt s.heap a ox C od := by
  cases d with
  | xcv C' fs =>
    cases h
    cases r with
    | xcv g1 g2 g3 =>
      obtain ⟨ox, od, J, _⟩ := xcv_inst I (hid_le _ _ g1) (hid_le _ _ g2)
      exact ⟨_, ox, some od, rfl, J⟩
  | xc0 C' =>
    cases h
    cases r with
    | xc0 g1 =>
      obtain ⟨t1, at1⟩ := exo_at I.hok (hid_le _ _ g1)
      exact ⟨_, _, none, rfl, ⟨at1, rfl, rfl, True.intro⟩⟩
  | _ => cases h
theorem cb_isX {d : Dat} {cv : Value} {s2 : Slot} {b : Bool} (T : ExcC X.K C) (hd : xcOf d = some C) (hk : PySem.W.kitOne X.K (.ref C) cv = some b) (hc : (∃ A, s2 = .dat (.cls A) ∧ cv = .ref A) ∨ ∃ t, s2 = .dat (.ty t) ∧ cv = .type t) (h : k (.dat (.bl b)) O) :
    CaB X (.builtin "isinstance") [.dat d, s2] O k := by
  refine ⟨fun xs H Q => ∃ (v c : V) (O1 : Own), xs = [v, c] ∧ ClsV c cv ∧ Rp X.K (hid O1 H) v d ∧ Q (.bl b) H, ?_, ?_⟩
  · intro pins s σ H xs us Q I r hq
    obtain ⟨v, c, O1, rfl, kc, rp, q⟩ := hq
    obtain ⟨u1, u2, rfl, r1, r2⟩ := vals2 r
    have e2 := kc.eq r2
    subst e2
    obtain ⟨a, ox, od, rfl, J⟩ := xc_inst hd I rp
    obtain rfl : u1 = Value.ref a := r1
    exact PySem.W.kia_one (kit_exc T) I.kIn ⟨od, J⟩ hk (fun z => nomatch z) fun tk => ⟨.bl b, H, I.tok tk, rfl, q⟩
  · intro H0 σ ρ H vs st pr Q q
    match vs, pr with
    | [v, c], .cons r1 (.cons r2 .nil) =>
      refine ⟨v, c, O, rfl, ?_, r1, q _ H _ O h st (.bl b)⟩
      rcases hc with ⟨A, rfl, rfl⟩ | ⟨t, rfl, rfl⟩
      · cases r2
        exact .own A
      · cases r2
        exact .ty t
end
end Kn
namespace Kn
open PySem PySem.Spec PyProof.Rows
open L2 hiding St
section
variable {X : Cx} {O : Own} {ρ : List Slot} {x : ExK} {k : Slot → Own → Prop} {e o tg iter : Expr} {es : List Expr} {pos p p2 : Pos} {D : SD} {g g' : Bool} {j n : Nat} {S : SpecT} {C : Addr} {f : Str}
/-- a cell's address as data, and back -/
theorem ew_ownD (h : EW X O ρ e x fun s O1 => ∃ q, s = .own q ∧ k (.dat (.cls q)) O1) : EW X O ρ e x k := fun H0 σ H st tk Q want =>
  h H0 σ H st tk Q fun v H' s O' ⟨q, es, hk⟩ st' r => by
    subst es
    obtain rfl : v = .ref q := r
    exact want _ H' _ O' hk st' (.cls q)
theorem sw_dOwn (i : Nat) {q : Addr} {sts : List Stmt} (h : SW X O (ρ.set i (.own q)) sts x D) (hi : ρ[i]? = some (.dat (.cls q))) : SW X O ρ sts x D := fun H0 σ H st tk E ok => h H0 σ H ⟨st.own, st.base, by
    obtain ⟨a, e1, e2⟩ := paired_get st.env hi
    obtain ⟨v, e3, r⟩ := e2
    cases r
    have z := paired_set (F := EnvOk X.K (hid O H)) (x := a) (y := .own q) (show EnvOk X.K (hid O H) a (.own q) from e3) i st.env
    have same : σ.set i a = σ := by
      apply List.ext_getElem?
      intro m
      rcases Nat.decEq i m with ne | rfl
      · rw [List.getElem?_set_ne ne]
      · rw [List.getElem?_set_self (List.getElem?_eq_some_iff.mp e1).1, e1]
    rw [same] at z
    exact z⟩ tk E ok
/-- isinstance(a list that may still change, a built-in type) -/
theorem cb_isOL {q : Addr} {cs : List Slot} {nm : String} {t : Bool} (hq : O q = some (.lst cs)) (hk : kitB "list" nm = some t) (h : k (.dat (.bl t)) O) : CaB X (.builtin "isinstance") [.own q, .dat (.ty nm)] O k := ⟨_, call_isi, fun H0 σ ρ H vs st pr Q want => by
  match vs, pr with
  | [v, c], .cons r1 (.cons r2 .nil) =>
    obtain rfl : v = .ref q := r1
    obtain ⟨_, h1, _, rfl, _⟩ := st.own.cell q _ hq
    cases r2
    exact ⟨_, _, _, _, t, rfl, .ty nm, .base (.lst h1), kit_ty hk, want _ H _ O h st (.bl t)⟩⟩
theorem tlcO_of {elt : Expr} {ifs : List Expr} {scope : Scope} {vs : List Nat} {T : Dat → List Slot → List Slot → Prop} {g : TG}
    (hg : ∀ {H0 H : Hp} {O : Own} {σ : SV} {ρ ρ' : List Slot} {v : V} {d : Dat} {Q : SV → Hp → Prop}, StOk X.K H0 O (wipe σ vs) ρ H → Rp X.K (hid O H) v d → T d ρ ρ' → (∀ σ', StOk X.K H0 O σ' ρ' H → wipe σ' vs = wipe σ vs → Q σ' H) → g v (wipe σ vs) H Q)
    (h : IWO X O ρ tg iter x fun p0 es0 ds O1 => ds.length ≤ sizeLine ∧ ∃ J : Nat → List Slot → Own → Prop, J 0 [] O1 ∧ (∀ i acc O', J i acc O' → O' p0 = some (.lst (es0.map .dat))) ∧
      (∀ i d acc O', J i acc O' → ds[i]? = some d → ∃ ρ', T d (wipeS ρ vs) ρ' ∧ ∀ Dd, O' Dd = none → ∀ Y, Blk X scope Y → TsW Y (up O' Dd (.lst acc)) ρ' ifs noX fun t O2 =>
        (t = true → ∀ Z, Blk X scope Z → EW Z O2 ρ' elt noX fun s O3 => ∃ O4, O3 = up O4 Dd (.lst acc) ∧ O4 Dd = none ∧ J (i + 1) (acc ++ [s]) O4) ∧ (t = false → ∃ O4, O2 = up O4 Dd (.lst acc) ∧ O4 Dd = none ∧ J (i + 1) acc O4)) ∧
      ∀ acc O', J ds.length acc O' → ∀ p, O' p = none → k (.own p) (up O' p (.lst acc))) {H0 : Hp} {σ : SV} {H : Hp} {Q : VK} (st : StOk X.K H0 O σ ρ H) (tk : Takes X (Wsem X.K H0 x))
    (q : ∀ v H' s O', k s O' → StOk X.K H0 O' σ ρ H' → SlOk X.K (hid O' H') v s → Q v H') :
    tLc (Wi X tg iter) g (fun σ H Q => ∀ Y, Blk X scope Y → ∀ (pins : List (Addr × Obj)) (s : Shared), Inv Y pins σ H s →
      wpAny (model Y.prog Y.w) Y.A (forIn ifs true fun c r => if r = true then do let ok ← isTrue c Y.env (eval c Y.env); pure (ForInStep.yield ok) else pure (ForInStep.yield r)) (TP Y pins σ Q) Y.xe s)
      (fun σ H Q => ∀ Y, Blk X scope Y → We Y elt σ H Q) vs σ H Q := by
  refine h H0 σ H st tk _ fun J0 H1 p0 es0 ds O1 ⟨hz, J, j0, jk, js, je⟩ st1 it => ?_
  intro Dd hD
  have hOD : O1 Dd = none := own_free st1.own hD
  have gS : Same (hid O1 H1) (hid (up O1 Dd (.lst [])) (upd H1 Dd (.lst []))) := fun b o hb => by
    obtain ⟨z1, z2⟩ := of_hid hb
    have nb := ne_of_none z2 hD
    rw [hid_none (by rw [up_ne nb]; exact z1), upd_ne nb]
    exact z2
  -- the store with the new list as a cell, over the greatest base
  refine ⟨fun i m H' => i + m = ds.length ∧ ∃ acc O', J i acc O' ∧ O' Dd = none ∧ acc.length ≤ i ∧ StOk X.K (hid O1 H1) (up O' Dd (.lst acc)) σ ρ H',
    ⟨ds.length, by omega, [], O1, j0, hOD, Nat.le_refl _, ⟨?_, gS, pmap (fun _ _ z => EnvOk.mono gS z) st1.env⟩⟩, fun i m H' hW => ?_⟩
  · exact (st1.alloc (o := .lst []) (c := .lst []) hD ⟨[], rfl, .nil⟩).own
  · obtain ⟨em, acc, O', hj, nD, hacc, st'⟩ := hW
    obtain ⟨i1, i2⟩ := it _ H' st'.own (by rw [up_ne (own_ne (jk i acc O' hj) nD)]; exact jk i acc O' hj) i
    cases hd : ds[i]? with
    | none =>
      have hi : ds.length ≤ i := List.getElem?_eq_none_iff.mp hd
      have ei : i = ds.length := by omega
      subst ei
      exact .inl ⟨i2 hd, q _ H' _ _ (je acc O' hj Dd nD) (st'.rebase st1.base) rfl⟩
    | some d =>
      have hi : i < ds.length := (List.getElem?_eq_some_iff.mp hd).1
      obtain ⟨g1, g2⟩ := i1 d hd
      obtain ⟨ρ', ht, hb⟩ := js i d acc O' hj hd
      have hb := hb Dd nD
      refine .inr ⟨g1, fun H'' => ∃ acc2 O2, J (i + 1) acc2 O2 ∧ O2 Dd = none ∧ acc2.length ≤ i + 1 ∧ StOk X.K (hid O1 H1) (up O2 Dd (.lst acc2)) σ ρ H'', fun H'' hN => ⟨m - 1, by omega, by omega, hN⟩, fun v H2 hy => ?_⟩
      obtain ⟨s1, r1⟩ := g2 v H2 hy
      have st2 := st'.grow s1
      refine hg (σ := σ) (st2.wipe vs) r1 ht fun σ' st3 hw => ⟨hw, fun Y hY pins s I => ?_⟩
      obtain ⟨sY, HY, CY, clY, fpY, eY⟩ := id hY
      have eK : Y.K = X.K := by rw [eY]
      have st3Y : StOk Y.K (hid O1 H1) (up O' Dd (.lst acc)) σ' ρ' H2 := by rw [eK]; exact st3
      refine (hb Y hY (hid O1 H1) σ' H2 st3Y takes_no _ fun t H3 O3 h3 st4 => ?_).r pins s I
      -- the way back to the outer names
      have env2 : Paired (EnvOk X.K (hid (up O' Dd (.lst acc)) H2)) σ ρ := st2.env
      cases t with
      | false =>
        obtain ⟨O4, e4, n4, j4⟩ := h3.2 rfl
        subst e4
        refine iteF ⟨acc, O4, j4, n4, by omega, ?_⟩
        rw [eK] at st4
        exact ⟨st4.own, st4.base, pmap (fun _ _ z => EnvOk.mono st4.base z) st1.env⟩
      | true =>
        refine iteT fun Z hZ => ?_
        obtain ⟨sZ, HZ, CZ, clZ, fpZ, eZ⟩ := id hZ
        have eKZ : Z.K = X.K := by rw [eZ]
        have eYZ : Z.K = Y.K := by rw [eZ, eY]
        refine (h3.1 rfl) Z hZ (hid O1 H1) σ' H3 (by rw [eYZ]; exact st4) takes_no _ fun u H5 s5 O5 h5 st5 r5 => ?_
        obtain ⟨O4, e4, n4, j4⟩ := h5
        subst e4
        rw [eKZ] at st5 r5
        obtain ⟨o5, c1, xs5, rfl, c2⟩ := st5.own.cell Dd _ up_at
        have lx : xs5.length = acc.length := paired_len c2
        have gw : Same (hid (up O4 Dd (.lst acc)) H5) (hid (up O4 Dd (.lst (acc ++ [s5]))) (upd H5 Dd (.lst (xs5 ++ [u])))) := by
          have := hid_write (H := H5) (o := .lst (xs5 ++ [u])) (c := .lst (acc ++ [s5])) (O := up O4 Dd (.lst acc)) up_at
          rw [up_up] at this
          exact this
        have st6 := st5.write (o := .lst (xs5 ++ [u])) (c := .lst (acc ++ [s5])) up_at ⟨_, rfl, paired_app c2 (.cons r5 .nil)⟩
        rw [up_up] at st6
        refine ⟨xs5, c1, by omega, acc ++ [s5], O4, j4, n4, by rw [List.length_append]; exact Nat.add_le_add_right hacc 1, ⟨st6.own, st6.base, pmap (fun _ _ z => EnvOk.mono st6.base z) st1.env⟩⟩
theorem ew_lcO (own : List (Str × Nat)) {elt : Expr} {ifs : List Expr} {scope : Scope} {T : Dat → List Slot → List Slot → Prop} (hN : X.N.Nodup) (tg_ok : Tgt X scope (own.map (·.2)) tg T) (ok : BlkOk X.N X.env.scope scope own)
    (h : IWO X O ρ tg iter x fun p0 es0 ds O1 => ds.length ≤ sizeLine ∧ ∃ J : Nat → List Slot → Own → Prop, J 0 [] O1 ∧ (∀ i acc O', J i acc O' → O' p0 = some (.lst (es0.map .dat))) ∧
      (∀ i d acc O', J i acc O' → ds[i]? = some d → ∃ ρ', T d (wipeS ρ (own.map (·.2))) ρ' ∧ ∀ Dd, O' Dd = none → ∀ Y, Blk X scope Y → TsW Y (up O' Dd (.lst acc)) ρ' ifs noX fun t O2 =>
        (t = true → ∀ Z, Blk X scope Z → EW Z O2 ρ' elt noX fun s O3 => ∃ O4, O3 = up O4 Dd (.lst acc) ∧ O4 Dd = none ∧ J (i + 1) (acc ++ [s]) O4) ∧ (t = false → ∃ O4, O2 = up O4 Dd (.lst acc) ∧ O4 Dd = none ∧ J (i + 1) acc O4)) ∧
      ∀ acc O', J ds.length acc O' → ∀ p, O' p = none → k (.own p) (up O' p (.lst acc))) (hc : X.calm = true := by rfl) (hs : ∀ x, foldedSetIterable iter X.env x = pure x := by intro _; rfl) :
    EW X O ρ (.ListComp elt [⟨tg, iter, ifs, 0⟩] scope pos) x k := fun H0 σ H st tk Q q => by
  obtain ⟨g, g1, g2⟩ := tgt_run tg_ok
  exact we_of (pe_lc hc hN pi_w ok (fun s H C cl fp => g1 _ ⟨s, H, C, cl, fp, rfl⟩) (fun s H C cl fp => ⟨fun pins sh σ H5 Q I hq => hq _ ⟨s, H, C, cl, fp, rfl⟩ pins sh I⟩) (fun s H C cl fp => ⟨fun pins sh σ H5 Q I hq => (hq _ ⟨s, H, C, cl, fp, rfl⟩).r pins sh I⟩) hs)
    (tlcO_of g2 h st tk q)
/-- .. whose parts change nothing -/
theorem ew_mapSO {α : Type} (l : List α) (ι f : α → Dat) (own : List (Str × Nat)) (q : Addr) (O1 : Own) {elt : Expr} {scope : Scope} {T : Dat → List Slot → List Slot → Prop} (hN : X.N.Nodup) (tg_ok : Tgt X scope (own.map (·.2)) tg T) (ok : BlkOk X.N X.env.scope scope own)
    (hi : IWO X O ρ tg iter x fun q' es' ds' O' => q' = q ∧ es' = l.map ι ∧ ds' = l.map ι ∧ O' = O1) (hq : O1 q = some (.lst ((l.map ι).map .dat))) (hz : l.length ≤ sizeLine)
    (hb : ∀ d, d ∈ l → ∃ ρ', T (ι d) (wipeS ρ (own.map (·.2))) ρ' ∧ ∀ O' Y, Sub O1 O' → Blk X scope Y → EV Y O' ρ' elt noX (f d))
    (h : k (.dat (.lst (l.map f))) O1) (hc : X.calm = true := by rfl) (hs : ∀ x, foldedSetIterable iter X.env x = pure x := by intro _; rfl) : EW X O ρ (.ListComp elt [⟨tg, iter, [], 0⟩] scope pos) x k := by
  refine ew_frz (ew_lcO own hN tg_ok ok (fun H0 σ H st tk R w => hi H0 σ H st tk R fun J H' q' es' ds' O2 ⟨e1, e2, e3, e4⟩ st' it => w J H' q' es' ds' O2 ?_ st' it) hc hs)
  subst e1 e2 e3 e4
  refine ⟨by rw [List.length_map]; exact hz, fun i acc O' => O' = O2 ∧ acc = ((l.take i).map f).map .dat, ⟨rfl, rfl⟩, fun i acc O' ⟨e, _⟩ => by rw [e]; exact hq, fun i d0 acc O' hj hd0 => ?_, fun acc O' hj p hp => ?_⟩
  · obtain ⟨rfl, rfl⟩ := hj
    rw [List.getElem?_map] at hd0
    obtain ⟨d, hd, rfl⟩ := Option.map_eq_some_iff.mp hd0
    obtain ⟨ρ', ht, hb⟩ := hb d (List.mem_of_getElem? hd)
    have htake : l.take (i + 1) = l.take i ++ [d] := by rw [List.take_add_one, hd]; rfl
    refine ⟨ρ', ht, fun Dd nD Y hY => tsw_nil ⟨fun _ Z hZ => (hb _ Z (Sub.up nD) hZ).mono fun s O3 ⟨e3, e4⟩ => ?_, fun z => nomatch z⟩⟩
    subst e3 e4
    refine ⟨O', rfl, nD, rfl, ?_⟩
    rw [htake]
    simp
  · obtain ⟨rfl, rfl⟩ := hj
    refine ⟨p, l.map f, rfl, by rw [List.length_map, List.take_length]; exact up_at, ?_⟩
    rw [dn_up hp]
    exact h
theorem pmk_xb {fI : Addr} {kk : Nat} {fd : FuncData} {ps : List Str} {sp : Sp} {nm : Str} {ta : TA} (T : IsXb X.K C) (iC : PySem.W.findIn X.K (.ref C) "__init__" = some (some (.ref fI))) (tI : PySem.W.typeIn X.K (.ref fI) = some (.type "function"))
    (F1 : FnOk X.prog X.w X.K X.mg X.base (L2.CX X.prog X.w) kk fI fd ps sp) (hr : Room (kk + 1) X.A) (hb : Binds X.K fd ps []) (hg : Gl X nm) (hm : X.mg nm = some (.ref C)) (ha : PA X (e :: es) ta)
    (hdb : (nm == ("__debug__" : Str)) = false := by decide) (he : starEach (e :: es) X.env = (false, eval e X.env) :: starEach es X.env := by rfl) (hpl : (backTo pos (starEach es X.env)).any (·.1) = false := by rfl) :
    PMk X (.Call (.Name nm p) (e :: es) [] pos) (tMkO C sp [] ta) := fun pins s σ H Q I want => by
  obtain ⟨B, nI, Bi, TC⟩ := T
  obtain ⟨iid, bb, TB⟩ := TC.made
  obtain ⟨nm', qn, N, bs, bm, sn, sub, ab, col, dd, k0, k1, k2, k3, k5, hC, L⟩ := TC.cls
  refine wpAny_Call_Name_kw (ld_glob I hg hm ?_ hdb)
  refine PySem.W.callWith_K (h₀ := X.base) I.ok.mod.kin TC.kC (thn (ha.run pos pins s σ H _ I want) fun us s1 ⟨vs, H1, I1, r1, few, mk⟩ => ⟨I1.kIn, ?_⟩) he hpl
  obtain ⟨hp, gg, dr, tok, os⟩ := s1
  have I2 := laid_inv (C := C) (us := us) I1
  have goal := mk _ (I1.hok.fresh (Nat.le_succ hp.objs.size))
  rw [List.append_nil] at goal
  have r2 : Vals (V.ref (hp.objs.size + 1) :: vs) (Value.ref (hp.objs.size + 1) :: us) := .cons rfl r1
  have hlen : (Value.ref (hp.objs.size + 1) :: us).length = ps.length := r2.length.symm.trans (F1.len _ _ _ _ goal)
  have hbind := hb _ (Value.ref (hp.objs.size + 1) :: us) I2.kIn (by rw [List.append_nil]; exact hlen)
  rw [List.append_nil] at hbind
  have hus : us.length ≤ sizeLine := by
    have z := r1.length
    rw [sizeLine_eq]; omega
  show wpAny _ _ (call (.ref C) us) _ _ _
  refine wpAny_call (xc_call TB L.makes (I1.kIn _ _ hC) hus (PySem.W.looks_findIn I1.kIn iC) (fun self => PySem.W.bind_fn I1.kIn self tI)
    (codeAny_mono (F1.run _ X.stack _ _ ⟨Value.ref (hp.objs.size + 1) :: us, []⟩ (Value.ref (hp.objs.size + 1) :: us) _ _ (fun _ _ _ => False) (hr.make C us []) (I2.env0.make C us []) hbind r2 goal) fun r s' got => ?_))
  match r, got with
  | .error er, got => exact passL pins σ _ _ er s' I2 got
  | .ok (.ret u), got =>
    obtain ⟨v, H2, os2, bare2, un2, hok2, rv, ev, d, fs, ea, ed, hd1, q2⟩ := got
    subst ev
    exact ⟨rv, mk_end (raises_own TC.exC TC.tyC) I1 (Nat.le_succ _) (fun b o z => Heap.get?_push_of_some _ (Heap.get?_push_of_some _ z)) un2 hok2 os2 bare2 ea ed hd1 q2⟩
  | .ok .next, got => exact False.elim got
  | .ok .brk, got => exact False.elim got
  | .ok .cont, got => exact False.elim got
theorem s1_raiseXb {nm : Str} {pos2 : Pos} (M : XbCls X.prog X.w X.K X.mg X.base n C S) (hm : X.mg nm = some (.ref C)) (hr : RoomB g' j X.A) (h : AW X O ρ (e :: es) x (MkEx C S x ρ)) (hj : n + 1 ≤ j := by decide) (hc : X.calm = true := by rfl)
    (hg : Gl X nm := by rfl) (hdb : (nm == ("__debug__" : Str)) = false := by decide) (he : starEach (e :: es) X.env = (false, eval e X.env) :: starEach es X.env := by rfl) (hpl : (backTo pos (starEach es X.env)).any (·.1) = false := by rfl) :
    S1 X O ρ (.Raise (some (.Call (.Name nm p) (e :: es) [] pos)) none pos2) x D := by
  obtain ⟨f, fd, ps, iC, tI, F, hb⟩ := M.ini
  exact s1_raise_of (pmk_xb M.ex iC tI F.ok (hr.r.mono hj) hb hg hm pa_w hdb he hpl) h hc
end
end Kn
namespace Kn
open PySem PySem.Spec PyProof.Rows
open L2 hiding St
/-- lists stay -/
def Lk (O O' : Own) : Prop := ∀ p xs, O p = some (.lst xs) → O' p = some (.lst xs)
def isLC : Option Cell → Bool
  | some (.lst _) => true
  | _ => false
theorem Lk.refl {O : Own} : Lk O O := fun _ _ h => h
theorem Lk.trans {O O1 O2 : Own} (a : Lk O O1) (b : Lk O1 O2) : Lk O O2 := fun p xs h => b p xs (a p xs h)
theorem Lk.sub {O O' : Own} (h : Sub O O') : Lk O O' := fun p xs e => h p _ e
theorem Lk.up {O : Own} {a : Addr} {c : Cell} (h : isLC (O a) = false) : Lk O (up O a c) := fun p xs e => by
  have ne : p ≠ a := fun z => by
    rw [← z, e] at h
    cases h
  rw [up_ne ne]; exact e
def leafD : Dat → Bool
  | .non => true | .bl _ => true | .int _ => true | .str _ => true
  | _ => false
def Cpy (O : Own) : Nat → Dat → Dat → Prop
  | 0, _, _ => False
  | n + 1, d, e => (leafD d = true ∧ e = d) ∨ ∃ l : List (Dat × Dat), l.length ≤ 1000 ∧ (∀ q ∈ l, Cpy O n q.1 q.2) ∧
      ((d = .lst (l.map (·.1)) ∧ e = .lst (l.map (·.2))) ∨ (d = .tup (l.map (·.1)) ∧ e = .tup (l.map (·.2))) ∨ ∃ p, d = .cls p ∧ O p = some (.lst ((l.map (·.1)).map .dat)) ∧ e = .lst (l.map (·.2)))
theorem Cpy.keep {O O' : Own} (k : Lk O O') : ∀ {n : Nat} {d e : Dat}, Cpy O n d e → Cpy O' n d e
  | 0, _, _, h => h
  | n + 1, d, e, h => by
    rcases h with h | ⟨l, hl, hq, h⟩
    · exact .inl h
    · refine .inr ⟨l, hl, fun q m => Cpy.keep k (hq q m), ?_⟩
      rcases h with h | h | ⟨p, e1, e2, e3⟩
      · exact .inl h
      · exact .inr (.inl h)
      · exact .inr (.inr ⟨p, e1, k p _ e2, e3⟩)
theorem Cpy.leaf {O : Own} {n : Nat} {d : Dat} (h : leafD d = true) : Cpy O (n + 1) d d := .inl ⟨h, rfl⟩
theorem Cpy.more {O : Own} : ∀ {n : Nat} {d e : Dat}, Cpy O n d e → Cpy O (n + 1) d e
  | 0, d, e, h => h.elim
  | n + 1, d, e, h => by
    rcases h with h | ⟨l, hl, hq, h⟩
    · exact .inl h
    · exact .inr ⟨l, hl, fun q m => Cpy.more (hq q m), h⟩
theorem Cpy.up {O : Own} {n m : Nat} {d e : Dat} (h : Cpy O n d e) (k : n ≤ m := by decide) : Cpy O m d e := by
  induction k with
  | refl => exact h
  | step _ ih => exact ih.more
theorem Cpy.own {O : Own} {n : Nat} {p : Addr} {d e : Dat} (hp : O p = some (.lst [.dat d])) (h : Cpy O n d e) : Cpy O (n + 1) (.cls p) (.lst [e]) :=
  .inr ⟨[(d, e)], show 1 ≤ 1000 by decide, fun q m => by rw [List.mem_singleton.mp m]; exact h, .inr (.inr ⟨p, rfl, hp, rfl⟩)⟩
theorem Cpy.two {O : Own} {n : Nat} {d1 e1 d2 e2 : Dat} (h1 : Cpy O n d1 e1) (h2 : Cpy O n d2 e2) : Cpy O (n + 1) (.tup [d1, d2]) (.tup [e1, e2]) :=
  .inr ⟨[(d1, e1), (d2, e2)], show 2 ≤ 1000 by decide, fun q m => by
    rcases List.mem_cons.mp m with rfl | m
    · exact h1
    · rw [List.mem_singleton.mp m]; exact h2, .inr (.inl ⟨rfl, rfl⟩)⟩
/-- a row of leaves -/
theorem Cpy.leaves {O : Own} {n : Nat} {ds : List Dat} (h : ds.all leafD = true) (hl : ds.length ≤ 1000) : Cpy O (n + 2) (.tup ds) (.tup ds) ∧ Cpy O (n + 2) (.lst ds) (.lst ds) := by
  have e1 : (ds.map fun d => (d, d)).map (·.1) = ds := by rw [List.map_map]; exact List.map_id _
  have e2 : (ds.map fun d => (d, d)).map (·.2) = ds := by rw [List.map_map]; exact List.map_id _
  have k : ∀ q ∈ ds.map fun d => (d, d), Cpy O (n + 1) q.1 q.2 := fun q m => by
    obtain ⟨d, hd, rfl⟩ := List.mem_map.mp m
    exact .leaf (List.all_eq_true.mp h d hd)
  have hl' : (ds.map fun d => (d, d)).length ≤ 1000 := by rw [List.length_map]; exact hl
  exact ⟨.inr ⟨_, hl', k, .inr (.inl ⟨by rw [e1], by rw [e2]⟩)⟩, .inr ⟨_, hl', k, .inl ⟨by rw [e1], by rw [e2]⟩⟩⟩
theorem leaf_ty {d : Dat} (h : leafD d = true) : tyName d ≠ "" ∧ isLstD d = false ∧ isTupD d = false := by
  cases d with
  | non => exact ⟨by decide +kernel, rfl, rfl⟩
  | bl b => exact ⟨show ("bool" : String) ≠ "" by decide +kernel, rfl, rfl⟩
  | int i => exact ⟨show ("int" : String) ≠ "" by decide +kernel, rfl, rfl⟩
  | str z => exact ⟨show ("str" : String) ≠ "" by decide +kernel, rfl, rfl⟩
  | _ => cases h
/-- what own_copy answers -/
def CopyS (n : Nat) : SpecT := fun ss O R => ∃ d e, ss = [.dat d] ∧ Cpy O n d e ∧ R (.ret (.dat e)) O
def Xi1 (n : Nat) (C : Addr) (f : Str) : SpecT := fun ss O R => ∃ (a : Addr) (d e : Dat), ss = [.own a, .dat d] ∧ Cpy O n d e ∧ O a = some (.exo C none) ∧ ∀ dx, O dx = none → R (.ret (.dat .non)) (Kn.up (Kn.up O dx (.exd [(f, .dat e)])) a (.exo C (some dx)))
def Xi2 (n : Nat) (C : Addr) (f1 f2 : Str) : SpecT := fun ss O R => ∃ (a : Addr) (d1 e1 d2 e2 : Dat), ss = [.own a, .dat d1, .dat d2] ∧ Cpy O n d1 e1 ∧ Cpy O n d2 e2 ∧ O a = some (.exo C none) ∧
  ∀ dx, O dx = none → R (.ret (.dat .non)) (Kn.up (Kn.up (Kn.up O dx (.exd [(f1, .dat e1)])) a (.exo C (some dx))) dx (.exd [(f2, .dat e2), (f1, .dat e1)]))
section
variable {X : Cx} {O : Own} {ρ : List Slot} {x : ExK} {k : Slot → Own → Prop} {e e1 e2 : Expr} {pos p : Pos} {D : SD} {g : Bool} {j m n : Nat} {C : Addr} {f f1 f2 : Str}
theorem back_exo {a dx : Addr} {c1 c2 c3 : Cell} (ha : O a = none) (hd : Kn.up O a c1 dx = none) : dx ≠ a ∧ O dx = none ∧ dn (dn (Kn.up (Kn.up (Kn.up O a c1) dx c2) a c3) dx) a = O := by
  have na : dx ≠ a := fun z => by rw [z, up_at] at hd; cases hd
  have hd0 : O dx = none := by rw [up_ne na] at hd; exact hd
  refine ⟨na, hd0, funext fun b => ?_⟩
  by_cases h1 : b = a
  · subst h1; rw [dn_at, ha]
  · rw [dn_ne h1]
    by_cases h2 : b = dx
    · subst h2; rw [dn_at, hd0]
    · rw [dn_ne h2, up_ne h1, up_ne h2, up_ne h1]
theorem back_exo2 {a dx : Addr} {c1 c2 c3 c4 : Cell} (ha : O a = none) (hd : Kn.up O a c1 dx = none) : dx ≠ a ∧ O dx = none ∧ dn (dn (Kn.up (Kn.up (Kn.up (Kn.up O a c1) dx c2) a c3) dx c4) dx) a = O := by
  obtain ⟨na, hd0, _⟩ := back_exo (c2 := c2) (c3 := c3) ha hd
  refine ⟨na, hd0, funext fun b => ?_⟩
  by_cases h1 : b = a
  · subst h1; rw [dn_at, ha]
  · rw [dn_ne h1]
    by_cases h2 : b = dx
    · subst h2; rw [dn_at, hd0]
    · rw [dn_ne h2, up_ne h2, up_ne h1, up_ne h2, up_ne h1]
theorem dn_comm {O : Own} {a b : Addr} : dn (dn O a) b = dn (dn O b) a := funext fun c => by
  by_cases h1 : c = b
  · subst h1
    rw [dn_at]
    by_cases h2 : c = a
    · subst h2; rw [dn_at]
    · rw [dn_ne h2, dn_at]
  · rw [dn_ne h1]
    by_cases h2 : c = a
    · subst h2; rw [dn_at, dn_at]
    · rw [dn_ne h2, dn_ne h2, dn_ne h1]
theorem isLC_no {O : Own} {a : Addr} (h : O a = none) : isLC (O a) = false := by rw [h]; rfl
theorem isLC_exo {O : Own} {a C : Addr} {d : Option Addr} (h : O a = some (.exo C d)) : isLC (O a) = false := by rw [h]; rfl
/-- NAME(e): the exception as data, with its copy -/
theorem ew_x1 {nm : Str} (M : XbCls X.prog X.w X.K X.mg X.base m C (Xi1 n C f)) (hm : X.mg nm = some (.ref C)) (hr : RoomB g j X.A) (h : AW X O ρ [e] x fun ss O1 => ∃ d c, ss = [.dat d] ∧ Cpy O1 n d c ∧ k (.dat (.xcv C [(f, c)])) O1) (hj : m + 1 ≤ j := by decide)
    (hg : Gl X nm := by rfl) (hdb : (nm == ("__debug__" : Str)) = false := by decide) (he : starEach [e] X.env = (false, eval e X.env) :: starEach [] X.env := by rfl) (hpl : (backTo pos (starEach [] X.env)).any (·.1) = false := by rfl) :
    EW X O ρ (.Call (.Name nm p) [e] [] pos) x k :=
  ew_frzX (ew_mkXb M hm hr (h.mono fun ss O1 ⟨d, c, e1, hc, hk⟩ => by
    subst e1
    refine ⟨show 1 ≤ 1000 by decide, fun a ha => ⟨a, d, c, rfl, hc.keep (Lk.up (isLC_no ha)), up_at, fun dx hd => ?_⟩⟩
    obtain ⟨na, hd0, back⟩ := back_exo (c2 := .exd [(f, .dat c)]) (c3 := .exo C (some dx)) ha hd
    exact ⟨rfl, a, dx, C, [(f, c)], rfl, up_at, by rw [up_ne na, up_at]; rfl, by rw [back]; exact hk⟩) hj hg hdb he hpl)
theorem ew_x2 {nm : Str} (M : XbCls X.prog X.w X.K X.mg X.base m C (Xi2 n C f1 f2)) (hm : X.mg nm = some (.ref C)) (hr : RoomB g j X.A) (h : AW X O ρ [e1, e2] x fun ss O1 => ∃ d1 c1 d2 c2, ss = [.dat d1, .dat d2] ∧ Cpy O1 n d1 c1 ∧ Cpy O1 n d2 c2 ∧ k (.dat (.xcv C [(f2, c2), (f1, c1)])) O1) (hj : m + 1 ≤ j := by decide)
    (hg : Gl X nm := by rfl) (hdb : (nm == ("__debug__" : Str)) = false := by decide) (he : starEach [e1, e2] X.env = (false, eval e1 X.env) :: starEach [e2] X.env := by rfl) (hpl : (backTo pos (starEach [e2] X.env)).any (·.1) = false := by rfl) :
    EW X O ρ (.Call (.Name nm p) [e1, e2] [] pos) x k :=
  ew_frzX (ew_mkXb M hm hr (h.mono fun ss O1 ⟨d1, c1, d2, c2, e1, h1, h2, hk⟩ => by
    subst e1
    refine ⟨show 2 ≤ 1000 by decide, fun a ha => ⟨a, d1, c1, d2, c2, rfl, h1.keep (Lk.up (isLC_no ha)), h2.keep (Lk.up (isLC_no ha)), up_at, fun dx hd => ?_⟩⟩
    obtain ⟨na, hd0, back⟩ := back_exo2 (c2 := .exd [(f1, .dat c1)]) (c3 := .exo C (some dx)) (c4 := .exd [(f2, .dat c2), (f1, .dat c1)]) ha hd
    exact ⟨rfl, a, dx, C, [(f2, c2), (f1, c1)], rfl, by rw [up_ne na.symm, up_at], by rw [up_at]; rfl, by rw [back]; exact hk⟩) hj hg hdb he hpl)
theorem ew_x0 {nm : Str} {id B nI Bi : String} (TC : XbIn X.K C B nI Bi) (Fi : IniF Bi id) (iC : PySem.W.findIn X.K (.ref C) "__init__" = some (some (.builtin id))) (hm : X.mg nm = some (.ref C)) (h : k (.dat (.xc0 C)) O)
    (hg : Gl X nm := by rfl) (hdb : (nm == ("__debug__" : Str)) = false := by decide) : EW X O ρ (.Call (.Name nm p) [] [] pos) x k :=
  ew_frzX0 (ew_mkXb0 TC Fi iC hm (fun a ha => ⟨a, C, rfl, up_at, by rw [dn_up ha]; exact h⟩) hg hdb)
/-- raise NAME(e) -/
theorem raisedX1 {d c : Dat} (hc : Cpy O n d c) (h : x (.own C [(f, c)]) ρ O) : MkEx C (Xi1 n C f) x ρ [.dat d] O := by
  refine ⟨show 1 ≤ 1000 by decide, fun a ha => ⟨a, d, c, rfl, hc.keep (Lk.up (isLC_no ha)), up_at, fun dx hd => ?_⟩⟩
  obtain ⟨na, hd0, back⟩ := back_exo (c2 := .exd [(f, .dat c)]) (c3 := .exo C (some dx)) ha hd
  exact ⟨_, rfl, rfl, dx, [(f, c)], up_at, by rw [up_ne na, up_at]; rfl, hd0, by rw [dn_comm, back]; exact h⟩
theorem raisedX2 {d1 c1 d2 c2 : Dat} (h1 : Cpy O n d1 c1) (h2 : Cpy O n d2 c2) (h : x (.own C [(f2, c2), (f1, c1)]) ρ O) : MkEx C (Xi2 n C f1 f2) x ρ [.dat d1, .dat d2] O := by
  refine ⟨show 2 ≤ 1000 by decide, fun a ha => ⟨a, d1, c1, d2, c2, rfl, h1.keep (Lk.up (isLC_no ha)), h2.keep (Lk.up (isLC_no ha)), up_at, fun dx hd => ?_⟩⟩
  obtain ⟨na, hd0, back⟩ := back_exo2 (c2 := .exd [(f1, .dat c1)]) (c3 := .exo C (some dx)) (c4 := .exd [(f2, .dat c2), (f1, .dat c1)]) ha hd
  exact ⟨_, rfl, rfl, dx, [(f2, c2), (f1, c1)], by rw [up_ne na.symm, up_at], by rw [up_at]; rfl, hd0, by rw [dn_comm, back]; exact h⟩
end
section
variable {K : PySem.W.Frag} {nm qual bn x y : Str} {st : Stmt} {mg : Str → Option Value} {xs : List Str}
/-- an own exception class under its name -/
structure XAt (K : PySem.W.Frag) (nm : Str) : Prop where
  at_ : PySem.W.nsIn K mainGlobals nm = some (some (.ref (He.ga K nm)))
  xf : XfC K (He.ga K nm)
  ec : ExcC K (He.ga K nm)
def xatB (x : Str) (K : PySem.W.Frag) : Bool := gloB x K && (xgB K (He.ga K x) && clB K (He.ga K x))
theorem xat_look (h : xatB x K = true) : XAt K x := by
  obtain ⟨g1, h⟩ := bothB h
  obtain ⟨x4, x5⟩ := bothB h
  obtain ⟨y1, x4⟩ := bothB x4
  obtain ⟨y2, x4⟩ := bothB x4
  obtain ⟨y3, y4⟩ := bothB x4
  obtain ⟨z1, x5⟩ := bothB x5
  obtain ⟨z2, x5⟩ := bothB x5
  obtain ⟨z3, z4⟩ := bothB x5
  exact ⟨isV_ok g1, ⟨isV_ok y1, isNo_ok y2, of_decide_eq_true y3, y4⟩, ⟨isV_ok y1, isNo_ok y2, of_decide_eq_true y3, y4, isV_ok z1, isV_ok z2, of_decide_eq_true z3, of_decide_eq_true z4⟩⟩
def kitMatB (xs : List Str) (x : Str) (K : PySem.W.Frag) : Bool := xs.all fun y => decide (PySem.W.kitOne K (.ref (He.ga K x)) (.ref (He.ga K y)) = some (decide (x = y)))
theorem kitMat_look (h : kitMatB xs x K = true) : ∀ y ∈ xs, PySem.W.kitOne K (.ref (He.ga K x)) (.ref (He.ga K y)) = some (decide (x = y)) := fun y hy => of_decide_eq_true (List.all_eq_true.mp h y hy)
def kitToB (c : PySem.W.Frag → Value) (b : Bool) (x : Str) (K : PySem.W.Frag) : Bool := decide (PySem.W.kitOne K (.ref (He.ga K x)) (c K) = some b)
theorem kitTo_look {c : PySem.W.Frag → Value} {b : Bool} (h : kitToB c b x K = true) : PySem.W.kitOne K (.ref (He.ga K x)) (c K) = some b := of_decide_eq_true h
def kitMatsB (xs : List Str) (K : PySem.W.Frag) : Bool := xs.all fun x => kitMatB xs x K
theorem kitMats_look (h : kitMatsB xs K = true) : ∀ x ∈ xs, ∀ y ∈ xs, PySem.W.kitOne K (.ref (He.ga K x)) (.ref (He.ga K y)) = some (decide (x = y)) := fun x hx => kitMat_look (List.all_eq_true.mp h x hx)
def kitsToB (c : PySem.W.Frag → Value) (b : Str → Bool) (xs : List Str) (K : PySem.W.Frag) : Bool := xs.all fun x => kitToB c (b x) x K
theorem kitsTo_look {c : PySem.W.Frag → Value} {b : Str → Bool} (h : kitsToB c b xs K = true) : ∀ x ∈ xs, PySem.W.kitOne K (.ref (He.ga K x)) (c K) = some (b x) := fun x hx => kitTo_look (c := c) (List.all_eq_true.mp h x hx)
def xatsB (xs : List Str) (K : PySem.W.Frag) : Bool := xs.all fun x => xatB x K
theorem xats_look (h : xatsB xs K = true) : ∀ x ∈ xs, XAt K x := fun x hx => xat_look (List.all_eq_true.mp h x hx)
def exmToB (c : PySem.W.Frag → Value) (b : Bool) (x : Str) (K : PySem.W.Frag) : Bool := decide (PySem.W.exmOne K (.ref (He.ga K x)) (c K) = some b)
theorem exmTo_look {c : PySem.W.Frag → Value} {b : Bool} (h : exmToB c b x K = true) : PySem.W.exmOne K (.ref (He.ga K x)) (c K) = some b := of_decide_eq_true h
/-- the class and its base by their names -/
theorem exc_look2 {fs : List Str} (h : excB nm qual bn fs K = true) (e : txtAt K (pMeth nm "__init__" K) = txtIs "__init__" qual st) : ExcIn K nm qual bn st (He.ga K nm) (He.ga K bn) ∧ ∀ f ∈ fs, PySem.W.findIn K (.ref (He.ga K nm)) f = some none := by
  obtain ⟨C, B, E, no⟩ := exc_look h e
  obtain ⟨g1, h⟩ := bothB h
  obtain ⟨g2, h⟩ := bothB h
  obtain rfl : C = He.ga K nm := by
    have z := E.a.at_.symm.trans (isV_ok g1)
    cases z
    rfl
  obtain rfl : B = He.ga K bn := by
    have z := E.bat.symm.trans (isV_ok g2)
    cases z
    rfl
  exact ⟨E, no⟩
/-- a class without an __init__ of its own, over ValueError -/
structure NoIni (K : PySem.W.Frag) (C : Addr) : Prop where
  oex : OexC K C
  ini : PySem.W.findIn K (.ref C) "__init__" = some (some (.builtin "ValueError.__init__"))
def noiB (x : Str) (K : PySem.W.Frag) : Bool := excB1 K (He.ga K x) && isV (att K (He.ga K x) "__init__") (.builtin "ValueError.__init__")
theorem noi_look (h : noiB x K = true) : NoIni K (He.ga K x) := by
  obtain ⟨a1, i1⟩ := bothB h
  obtain ⟨x0, a1⟩ := bothB a1
  obtain ⟨x1, a1⟩ := bothB a1
  obtain ⟨x2, a1⟩ := bothB a1
  obtain ⟨x3, a1⟩ := bothB a1
  obtain ⟨x4, a1⟩ := bothB a1
  obtain ⟨y1, x4⟩ := bothB x4
  obtain ⟨y2, x4⟩ := bothB x4
  obtain ⟨y3, y4⟩ := bothB x4
  exact ⟨⟨exc_seen0 x0, isV_ok x1, of_decide_eq_true y3, of_decide_eq_true x2, x3⟩, isV_ok i1⟩
/-- a class over KeyError, with an __init__ of its own -/
structure KeyIn (K : PySem.W.Frag) (nm qual : Str) (st : Stmt) (C : Addr) : Prop where
  xb : XbIn K C "LookupError" "LookupError.__new__" "KeyError"
  ini : ∃ f fd, PySem.W.findIn K (.ref C) "__init__" = some (some (.ref f)) ∧ PySem.W.typeIn K (.ref f) = some (.type "function") ∧ L2.Fun K "__init__" qual st f fd
  top : TyIni K "KeyError" "KeyError.__init__"
def keyB0 (K : PySem.W.Frag) (C : Addr) : Bool := match K.lookup C with
  | some ⟨.type c, _, .cls cd, ⟨[_, _, _, _, some (.builtin z), _]⟩⟩ => decide (c = "type") && (decide (z = "LookupError.__new__") && (cd.hasDict && (!cd.hasDel && match cd.mro with
    | .ref D :: bm => decide (D = C) && decide (bm = keyTail)
    | _ => false)))
  | _ => false
theorem key_seen0 {C : Addr} (h : keyB0 K C = true) : ∃ nm q N bs bm sn sub ab col dd k0 k1 k2 k3 k5, K.lookup C = some (excClassObj nm q C N bs bm true sn sub ab col dd k0 k1 k2 k3 k5 "LookupError.__new__") ∧ XLine "LookupError" "KeyError" bm := by
  unfold keyB0 at h
  split at h
  · rename_i c dd cd k0 k1 k2 k3 z k5 q
    obtain ⟨nm, bs, mro, ns, qn, hd, sn, sub, ab, col, del⟩ := cd
    obtain ⟨h1, ha⟩ := bothB h
    obtain ⟨h2, hb⟩ := bothB ha
    obtain ⟨h3, hc⟩ := bothB hb
    obtain ⟨h4, hl⟩ := bothB hc
    obtain rfl := of_decide_eq_true h1
    obtain rfl := of_decide_eq_true h2
    obtain rfl : hd = true := h3
    obtain rfl : del = false := by cases del with
      | false => rfl
      | true => cases h4
    cases mro with
    | nil => cases hl
    | cons v bm =>
      cases v with
      | ref D =>
        obtain ⟨h5, h6⟩ := bothB hl
        obtain rfl := of_decide_eq_true h5
        obtain rfl := of_decide_eq_true h6
        exact ⟨nm, qn, ns, bs, _, sn, sub, ab, col, dd, k0, k1, k2, k3, k5, q, xline_key⟩
      | _ => cases hl
  · cases h
def keyGet (K : PySem.W.Frag) : Bool := match PySem.W.findCls K (.type "KeyError") (.type "type") "__init__" with
  | some (.val (.builtin z)) => decide (z = "KeyError.__init__")
  | _ => false
def keyB (nm qual : Str) (fs : List Str) (K : PySem.W.Frag) : Bool := keyB0 K (He.ga K nm) && (isV (att K (He.ga K nm) "__setattr__") (.builtin "object.__setattr__") && (subB K (He.ga K nm) (.type "BaseException") true && (tyB K (He.ga K nm) (.type "type") && (PySem.W.keepIn K (.ref (He.ga K nm)) &&
  (iniB K (He.ga K nm) qual && (keyGet K && fs.all fun f => isNo (att K (He.ga K nm) f)))))))
theorem key_look {fs : List Str} (h : keyB nm qual fs K = true) (e : txtAt K (pMeth nm "__init__" K) = txtIs "__init__" qual st) : KeyIn K nm qual st (He.ga K nm) ∧ ∀ f ∈ fs, PySem.W.findIn K (.ref (He.ga K nm)) f = some none := by
  obtain ⟨a0, h⟩ := bothB h
  obtain ⟨a1, h⟩ := bothB h
  obtain ⟨a2, h⟩ := bothB h
  obtain ⟨a3, h⟩ := bothB h
  obtain ⟨a4, h⟩ := bothB h
  obtain ⟨i1, h⟩ := bothB h
  obtain ⟨c5, n1⟩ := bothB h
  obtain ⟨i2, i1⟩ := bothB i1
  obtain ⟨i3, i4⟩ := bothB i1
  obtain ⟨fd, F⟩ := fun_seen e i4
  refine ⟨⟨⟨key_seen0 a0, ⟨_, _, PySem.F.excBase_LookupError⟩, isV_ok a1, of_decide_eq_true a2, of_decide_eq_true a3, a4⟩, ⟨_, fd, isV_ok i2, of_decide_eq_true i3, F⟩,
    ⟨iniF_key, PySem.W.kitMeta_of (by decide +kernel), by decide +kernel, ?_, by decide +kernel⟩⟩, fun f hf => isNo_ok (List.all_eq_true.mp n1 f hf)⟩
  unfold keyGet at c5
  split at c5
  · rename_i z q
    obtain rfl := of_decide_eq_true c5
    exact q
  · cases c5
end
section
variable {P : Program} {w : World} {K : PySem.W.Frag} {mg : Str → Option Value} {base : Heap} {k : Nat} {ps : List Str} {S : SpecT} {nm qual bn : Str} {st : Stmt} {C B : Addr}
theorem xb_of (D : ExcIn K nm qual bn st C B) (b : IniAs qual st ps) (h : ∀ f fd, L2.Fun K "__init__" qual st f fd → Fn P w K mg base false k f fd ps S) : XbCls P w K mg base k C S := by
  obtain ⟨f, fd, h1, h2, F⟩ := D.a.ini
  exact ⟨⟨_, _, _, xb_val D.a.oex⟩, f, fd, ps, h1, h2, h f fd F, F.binds b⟩
theorem xb_ofK (D : KeyIn K nm qual st C) (b : IniAs qual st ps) (h : ∀ f fd, L2.Fun K "__init__" qual st f fd → Fn P w K mg base false k f fd ps S) : XbCls P w K mg base k C S := by
  obtain ⟨f, fd, h1, h2, F⟩ := D.ini
  exact ⟨⟨_, _, _, D.xb⟩, f, fd, ps, h1, h2, h f fd F, F.binds b⟩
end
end Kn
namespace Lw
open PySem PySem.Spec PyProof.Rows
open L2 hiding St
open Kn
def topS (i : Nat) : Stmt := PySem.Challenge.pw_keptnomore_k01_errors_and_their_fields.main.body.getD i (.Pass ⟨0, 0, 0, 0⟩)
abbrev s_own_copy : Stmt := topS 1
abbrev N_own_copy : List Str := ["value", "one"]
theorem sc_own_copy : FnScope ["value", "one"] ["value"] (defScope s_own_copy) := ⟨rfl, rfl, rfl, by decide +kernel, rfl, by decide +kernel, by decide +kernel⟩
abbrev s_NoKinds_init : Stmt := inClass (topS 4) 0
theorem sc_NoKinds_init : FnScope ["self", "row"] ["self", "row"] (defScope s_NoKinds_init) := ⟨rfl, rfl, rfl, by decide +kernel, rfl, by decide +kernel, by decide +kernel⟩
abbrev s_NoRules_init : Stmt := inClass (topS 5) 0
theorem sc_NoRules_init : FnScope ["self", "row"] ["self", "row"] (defScope s_NoRules_init) := ⟨rfl, rfl, rfl, by decide +kernel, rfl, by decide +kernel, by decide +kernel⟩
abbrev s_NoQuestion_init : Stmt := inClass (topS 6) 0
theorem sc_NoQuestion_init : FnScope ["self", "at"] ["self", "at"] (defScope s_NoQuestion_init) := ⟨rfl, rfl, rfl, by decide +kernel, rfl, by decide +kernel, by decide +kernel⟩
abbrev s_NoTree_init : Stmt := inClass (topS 7) 0
theorem sc_NoTree_init : FnScope ["self", "at"] ["self", "at"] (defScope s_NoTree_init) := ⟨rfl, rfl, rfl, by decide +kernel, rfl, by decide +kernel, by decide +kernel⟩
abbrev s_NoBundle_init : Stmt := inClass (topS 8) 0
theorem sc_NoBundle_init : FnScope ["self", "at"] ["self", "at"] (defScope s_NoBundle_init) := ⟨rfl, rfl, rfl, by decide +kernel, rfl, by decide +kernel, by decide +kernel⟩
abbrev s_TooMany_init : Stmt := inClass (topS 9) 0
theorem sc_TooMany_init : FnScope ["self", "word"] ["self", "word"] (defScope s_TooMany_init) := ⟨rfl, rfl, rfl, by decide +kernel, rfl, by decide +kernel, by decide +kernel⟩
abbrev s_TooGreat_init : Stmt := inClass (topS 10) 0
theorem sc_TooGreat_init : FnScope ["self", "product"] ["self", "product"] (defScope s_TooGreat_init) := ⟨rfl, rfl, rfl, by decide +kernel, rfl, by decide +kernel, by decide +kernel⟩
abbrev s_UnknownKind_init : Stmt := inClass (topS 11) 0
theorem sc_UnknownKind_init : FnScope ["self", "kind"] ["self", "kind"] (defScope s_UnknownKind_init) := ⟨rfl, rfl, rfl, by decide +kernel, rfl, by decide +kernel, by decide +kernel⟩
abbrev s_NoEvent_init : Stmt := inClass (topS 13) 0
theorem sc_NoEvent_init : FnScope ["self", "event"] ["self", "event"] (defScope s_NoEvent_init) := ⟨rfl, rfl, rfl, by decide +kernel, rfl, by decide +kernel, by decide +kernel⟩
abbrev s_Refused_init : Stmt := inClass (topS 14) 0
theorem sc_Refused_init : FnScope ["self", "event"] ["self", "event"] (defScope s_Refused_init) := ⟨rfl, rfl, rfl, by decide +kernel, rfl, by decide +kernel, by decide +kernel⟩
abbrev s_RefusedAt_init : Stmt := inClass (topS 15) 0
theorem sc_RefusedAt_init : FnScope ["self", "at"] ["self", "at"] (defScope s_RefusedAt_init) := ⟨rfl, rfl, rfl, by decide +kernel, rfl, by decide +kernel, by decide +kernel⟩
abbrev s_NoCommand_init : Stmt := inClass (topS 18) 0
theorem sc_NoCommand_init : FnScope ["self", "row"] ["self", "row"] (defScope s_NoCommand_init) := ⟨rfl, rfl, rfl, by decide +kernel, rfl, by decide +kernel, by decide +kernel⟩
abbrev s_NotPending_init : Stmt := inClass (topS 19) 0
theorem sc_NotPending_init : FnScope ["self", "question", "mark"] ["self", "question", "mark"] (defScope s_NotPending_init) := ⟨rfl, rfl, rfl, by decide +kernel, rfl, by decide +kernel, by decide +kernel⟩
abbrev s_law_box : Stmt := topS 21
abbrev N_law_box : List Str := ["_law_script", "_law_k", "_law_own", "_law_cell", "_law_seed"]
theorem sc_law_box : FnScope ["_law_script", "_law_k", "_law_own", "_law_cell", "_law_seed"] ["_law_script", "_law_k", "_law_own"] (defScope s_law_box) := ⟨rfl, rfl, rfl, by decide +kernel, rfl, by decide +kernel, by decide +kernel⟩
abbrev s_law_take : Stmt := topS 22
theorem sc_law_take : FnScope ["_law_box_here", "_law_many", "_law_digit", "_law_raw", "_law_wide"] ["_law_box_here", "_law_many"] (defScope s_law_take) := ⟨rfl, rfl, rfl, by decide +kernel, rfl, by decide +kernel, by decide +kernel⟩
abbrev s_law_sorts : Stmt := topS 23
theorem sc_law_sorts : FnScope ["_law_error", "_law_first"] ["_law_error"] (defScope s_law_sorts) := ⟨rfl, rfl, rfl, by decide +kernel, rfl, by decide +kernel, by decide +kernel⟩
abbrev s_law_made : Stmt := topS 24
theorem sc_law_made : FnScope ["_law_value_here", "_law_found"] ["_law_value_here"] (defScope s_law_made) := ⟨rfl, rfl, rfl, by decide +kernel, rfl, by decide +kernel, by decide +kernel⟩
abbrev s_law_fields : Stmt := topS 25
theorem sc_law_fields : FnScope ["_law_value_here", "_law_other", "_law_found", "_law_one", "_law_two"] ["_law_value_here", "_law_other"] (defScope s_law_fields) := ⟨rfl, rfl, rfl, by decide +kernel, rfl, by decide +kernel, by decide +kernel⟩
abbrev s_law_kept_of : Stmt := topS 26
theorem sc_law_kept_of : FnScope ["_law_errors", "_law_found"] ["_law_errors"] (defScope s_law_kept_of) := ⟨rfl, rfl, rfl, by decide +kernel, rfl, by decide +kernel, by decide +kernel⟩
abbrev s_law_copies_right : Stmt := topS 27
abbrev N_law_copies_right : List Str := ["_law_value_here", "_law_inner", "_law_whole", "_law_errors", "_law_others", "_law_due", "_law_one"]
theorem sc_law_copies_right : FnScope ["_law_value_here", "_law_inner", "_law_whole", "_law_errors", "_law_others", "_law_due", "_law_one"] ["_law_value_here"] (defScope s_law_copies_right) := ⟨rfl, rfl, rfl, by decide +kernel, rfl, by decide +kernel, by decide +kernel⟩
abbrev s_law_caught : Stmt := topS 28
theorem sc_law_caught : FnScope ["_law_value_here", "_law_found", "e"] ["_law_value_here"] (defScope s_law_caught) := ⟨rfl, rfl, rfl, by decide +kernel, rfl, by decide +kernel, by decide +kernel⟩
abbrev s_law_value : Stmt := topS 29
theorem sc_law_value : FnScope ["_law_box_here", "_law_some"] ["_law_box_here"] (defScope s_law_value) := ⟨rfl, rfl, rfl, by decide +kernel, rfl, by decide +kernel, by decide +kernel⟩
abbrev s_law : Stmt := topS 30
abbrev N_law : List Str := ["_law_script", "_law_k", "_law_box_here", "_law_value_here", "_law_other", "_law_made_here", "_law_at", "_law_error", "_law_spot", "_law_is_kept", "_law_firsts", "_law_seconds"]
theorem sc_law : FnScope ["_law_script", "_law_k", "_law_box_here", "_law_value_here", "_law_other", "_law_made_here", "_law_at", "_law_error", "_law_spot", "_law_is_kept", "_law_firsts", "_law_seconds"] ["_law_script"] (defScope s_law) := ⟨rfl, rfl, rfl, by decide +kernel, rfl, by decide +kernel, by decide +kernel⟩
def xNames : List Str := ["NoKinds", "NoRules", "NoQuestion", "NoTree", "NoBundle", "TooMany", "TooGreat", "UnknownKind", "NoDocument", "NoEvent", "Refused", "RefusedAt", "Resting", "OtherSpace", "NoCommand", "NotPending"]
def isKeptN (x : Str) : Bool := !decide (x = "NotPending")
def isKeyN (x : Str) : Bool := decide (x = "NotPending")
structure Facts (K : PySem.W.Frag) : Prop where
  n_isinstance : PySem.W.nsIn K mainGlobals "isinstance" = some none
  n_list : PySem.W.nsIn K mainGlobals "list" = some none
  n_tuple : PySem.W.nsIn K mainGlobals "tuple" = some none
  n_KeyError : PySem.W.nsIn K mainGlobals "KeyError" = some none
  n_len : PySem.W.nsIn K mainGlobals "len" = some none
  n_abs : PySem.W.nsIn K mainGlobals "abs" = some none
  n_int : PySem.W.nsIn K mainGlobals "int" = some none
  n_repr : PySem.W.nsIn K mainGlobals "repr" = some none
  n_range : PySem.W.nsIn K mainGlobals "range" = some none
  n_max : PySem.W.nsIn K mainGlobals "max" = some none
  n_enumerate : PySem.W.nsIn K mainGlobals "enumerate" = some none
  n_min : PySem.W.nsIn K mainGlobals "min" = some none
  n_ValueError : PySem.W.nsIn K mainGlobals "ValueError" = some none
  d_own_copy : DefIn K "own_copy" s_own_copy
  d_law_box : DefIn K "_law_box" s_law_box
  d_law_take : DefIn K "_law_take" s_law_take
  d_law_sorts : DefIn K "_law_sorts" s_law_sorts
  d_law_made : DefIn K "_law_made" s_law_made
  d_law_fields : DefIn K "_law_fields" s_law_fields
  d_law_kept_of : DefIn K "_law_kept_of" s_law_kept_of
  d_law_copies_right : DefIn K "_law_copies_right" s_law_copies_right
  d_law_caught : DefIn K "_law_caught" s_law_caught
  d_law_value : DefIn K "_law_value" s_law_value
  d_law : DefIn K "law" s_law
  x_NoKinds : Kn.ExcIn K "NoKinds" "NoKinds.__init__" "KeptError" s_NoKinds_init (He.ga K "NoKinds") (He.ga K "KeptError") ∧ PySem.W.findIn K (.ref (He.ga K "NoKinds")) "row" = some none
  x_NoRules : Kn.ExcIn K "NoRules" "NoRules.__init__" "KeptError" s_NoRules_init (He.ga K "NoRules") (He.ga K "KeptError") ∧ PySem.W.findIn K (.ref (He.ga K "NoRules")) "row" = some none
  x_NoQuestion : Kn.ExcIn K "NoQuestion" "NoQuestion.__init__" "KeptError" s_NoQuestion_init (He.ga K "NoQuestion") (He.ga K "KeptError") ∧ PySem.W.findIn K (.ref (He.ga K "NoQuestion")) "at" = some none
  x_NoTree : Kn.ExcIn K "NoTree" "NoTree.__init__" "KeptError" s_NoTree_init (He.ga K "NoTree") (He.ga K "KeptError") ∧ PySem.W.findIn K (.ref (He.ga K "NoTree")) "at" = some none
  x_NoBundle : Kn.ExcIn K "NoBundle" "NoBundle.__init__" "KeptError" s_NoBundle_init (He.ga K "NoBundle") (He.ga K "KeptError") ∧ PySem.W.findIn K (.ref (He.ga K "NoBundle")) "at" = some none
  x_TooMany : Kn.ExcIn K "TooMany" "TooMany.__init__" "KeptError" s_TooMany_init (He.ga K "TooMany") (He.ga K "KeptError") ∧ PySem.W.findIn K (.ref (He.ga K "TooMany")) "word" = some none
  x_TooGreat : Kn.ExcIn K "TooGreat" "TooGreat.__init__" "KeptError" s_TooGreat_init (He.ga K "TooGreat") (He.ga K "KeptError") ∧ PySem.W.findIn K (.ref (He.ga K "TooGreat")) "product" = some none
  x_UnknownKind : Kn.ExcIn K "UnknownKind" "UnknownKind.__init__" "KeptError" s_UnknownKind_init (He.ga K "UnknownKind") (He.ga K "KeptError") ∧ PySem.W.findIn K (.ref (He.ga K "UnknownKind")) "kind" = some none
  x_NoEvent : Kn.ExcIn K "NoEvent" "NoEvent.__init__" "KeptError" s_NoEvent_init (He.ga K "NoEvent") (He.ga K "KeptError") ∧ PySem.W.findIn K (.ref (He.ga K "NoEvent")) "event" = some none
  x_Refused : Kn.ExcIn K "Refused" "Refused.__init__" "KeptError" s_Refused_init (He.ga K "Refused") (He.ga K "KeptError") ∧ PySem.W.findIn K (.ref (He.ga K "Refused")) "event" = some none
  x_RefusedAt : Kn.ExcIn K "RefusedAt" "RefusedAt.__init__" "KeptError" s_RefusedAt_init (He.ga K "RefusedAt") (He.ga K "KeptError") ∧ PySem.W.findIn K (.ref (He.ga K "RefusedAt")) "at" = some none
  x_NoCommand : Kn.ExcIn K "NoCommand" "NoCommand.__init__" "KeptError" s_NoCommand_init (He.ga K "NoCommand") (He.ga K "KeptError") ∧ PySem.W.findIn K (.ref (He.ga K "NoCommand")) "row" = some none
  x_NotPending : Kn.KeyIn K "NotPending" "NotPending.__init__" s_NotPending_init (He.ga K "NotPending") ∧ PySem.W.findIn K (.ref (He.ga K "NotPending")) "question" = some none ∧ PySem.W.findIn K (.ref (He.ga K "NotPending")) "mark" = some none
  a_all : ∀ x ∈ xNames, Kn.XAt K x
  a_KeptError : Kn.XAt K "KeptError"
  i_NoDocument : Kn.NoIni K (He.ga K "NoDocument")
  i_Resting : Kn.NoIni K (He.ga K "Resting")
  i_OtherSpace : Kn.NoIni K (He.ga K "OtherSpace")
  m_all : ∀ x ∈ xNames, ∀ y ∈ xNames, PySem.W.kitOne K (.ref (He.ga K x)) (.ref (He.ga K y)) = some (decide (x = y))
  p_KeptError : ∀ x ∈ xNames, PySem.W.kitOne K (.ref (He.ga K x)) (.ref (He.ga K "KeptError")) = some (isKeptN x)
  p_ValueError : ∀ x ∈ xNames, PySem.W.kitOne K (.ref (He.ga K x)) (.type "ValueError") = some (isKeptN x)
  p_KeyError : ∀ x ∈ xNames, PySem.W.kitOne K (.ref (He.ga K x)) (.type "KeyError") = some (isKeyN x)
  t_RefusedAt_Refused : PySem.W.exmOne K (.ref (He.ga K "RefusedAt")) (.ref (He.ga K "Refused")) = some false
  t_RefusedAt_KeptError : PySem.W.exmOne K (.ref (He.ga K "RefusedAt")) (.ref (He.ga K "KeptError")) = some true
  t_NotPending_KeptError : PySem.W.exmOne K (.ref (He.ga K "NotPending")) (.ref (He.ga K "KeptError")) = some false
  t_NotPending_KeyError : PySem.W.exmOne K (.ref (He.ga K "NotPending")) (.type "KeyError") = some true
local macro_rules | `(tactic| walk_at "side") => `(tactic| first | rfl | decide | assumption | omega | (constructor <;> first | decide | omega) | (refine ⟨?_, ?_, ?_⟩ <;> first | decide | omega))
local macro_rules | `(tactic| walk_at "cell") => `(tactic| first | exact up_at | assumption | (rw [up_ne (by assumption)]; first | exact up_at | assumption) | (rw [up_ne (Ne.symm (by assumption))]; first | exact up_at | assumption))
local macro_rules | `(tactic| walk_at "ty") => `(tactic| first | exact rfl | exact ⟨rfl, _, by walk_at "cell"⟩)
local macro_rules | `(tactic| walk_at "ix") => `(tactic| first | refine ix_own (by walk_at "cell") (by rfl) ?_ | refine ix_lst (by rfl) ?_ | refine ix_tpl (by rfl) ?_ | refine ix_fro (by rfl) ?_)
local macro_rules | `(tactic| walk_at "op add") => `(tactic| first | refine ob_add ?_ | refine ob_cat (by walk_at "side") ?_ | refine ob_catL (by walk_at "side") ?_ | refine ob_catT (by walk_at "side") ?_)
local macro_rules | `(tactic| walk_at "op sub") => `(tactic| refine ob_sub ?_)
local macro_rules | `(tactic| walk_at "op mul") => `(tactic| first | refine ob_mul (.inr (by decide)) ?_ | refine ob_mul (.inl (by decide)) ?_ | refine ob_mul (.inl (by constructor <;> omega)) ?_ | refine ob_mul (.inr (by constructor <;> omega)) ?_ | refine ob_rep (by walk_at "side") (by walk_at "side") ?_ | refine ob_times (by walk_at "side") (by walk_at "side") ?_)
local macro_rules | `(tactic| walk_at "op mod") => `(tactic| refine ob_mod (by first | decide | omega) ?_)
local macro_rules | `(tactic| walk_at "op fdiv") => `(tactic| refine ob_fdiv (by first | decide | omega) ?_)
local macro_rules | `(tactic| walk_at "op pow") => `(tactic| refine ob_pow (by first | decide | (refine ⟨by decide, by decide, by omega⟩)) ?_)
local macro_rules | `(tactic| walk_at "cmp Gt") => `(tactic| refine ob_gt ?_)
local macro_rules | `(tactic| walk_at "cmp Lt") => `(tactic| refine ob_lt ?_)
local macro_rules | `(tactic| walk_at "cmp GtE") => `(tactic| refine ob_ge ?_)
local macro_rules | `(tactic| walk_at "cmp LtE") => `(tactic| refine ob_le ?_)
local macro_rules | `(tactic| walk_at "cmp Eq") => `(tactic| first | refine ob_eqI ?_ | refine ob_eqS ?_ | refine ob_eqB ?_)
local macro_rules | `(tactic| walk_at "cmp NotEq") => `(tactic| first | refine ob_neI ?_ | refine ob_neS ?_)
local macro_rules | `(tactic| walk_at "cmp Is") => `(tactic| refine ob_isN ?_)
local macro_rules | `(tactic| walk_at "cmp IsNot") => `(tactic| refine ob_isNotN ?_)
local macro_rules | `(tactic| walk_at "cmp In") => `(tactic| first | refine ob_inS ?_ | refine ob_inT ?_ | refine ob_inL ?_)
local macro_rules | `(tactic| walk_at "cmp NotIn") => `(tactic| first | refine ob_niS ?_ | refine ob_niT ?_ | refine ob_niL ?_)
local macro_rules | `(tactic| walk_at "cb len") => `(tactic| first | refine cb_lenL ?_ | refine cb_lenT ?_ | refine cb_lenF ?_ | refine cb_lenO (by walk_at "cell") ?_ | refine cb_lenS (by walk_at "side") ?_)
local macro_rules | `(tactic| walk_at "cb abs") => `(tactic| refine cb_abs ?_)
local macro_rules | `(tactic| walk_at "cb int") => `(tactic| refine cb_intB ?_)
local macro_rules | `(tactic| walk_at "cb max") => `(tactic| refine cb_max rfl ?_)
local macro_rules | `(tactic| walk_at "cb min") => `(tactic| refine cb_min rfl ?_)
local macro_rules | `(tactic| walk_at "cb str") => `(tactic| first | refine cb_strS ?_ | refine cb_strI (by walk_at "side") ?_)
local macro_rules | `(tactic| walk_at "cb tuple") => `(tactic| first | refine cb_tupL ?_ | refine cb_tupT ?_)
local macro_rules | `(tactic| walk_at "cb list") => `(tactic| first | refine cb_listL fun p hp => ?_ | refine cb_listT fun p hp => ?_)
local macro_rules | `(tactic| walk_at "m1 split") => `(tactic| refine m1_split (by first | rfl | decide) (by walk_at "side") ?_)
local macro_rules | `(tactic| walk_at "m1 partition") => `(tactic| refine m1_partition (by first | rfl | decide) (by walk_at "side") ?_)
local macro_rules | `(tactic| walk_at "m1 find") => `(tactic| refine m1_find ?_)
local macro_rules | `(tactic| walk_at "mb append") => `(tactic| refine mb_append (by walk_at "cell") (by walk_at "side") ?_)
local macro_rules | `(tactic| walk_at "b0") => `(tactic| exact fun _ _ _ _ _ _ us hl => match us, hl with | [], _ => rfl)
local macro_rules | `(tactic| walk_at "b1") => `(tactic| exact fun _ _ _ _ _ _ us hl => match us, hl with | [_], _ => rfl)
local macro_rules | `(tactic| walk_at "b2") => `(tactic| exact fun _ _ _ _ _ _ us hl => match us, hl with | [_, _], _ => rfl)
local macro_rules | `(tactic| walk_at "b3") => `(tactic| exact fun _ _ _ _ _ _ us hl => match us, hl with | [_, _, _], _ => rfl)
local macro_rules | `(tactic| walk_at "b4") => `(tactic| exact fun _ _ _ _ _ _ us hl => match us, hl with | [_, _, _, _], _ => rfl)
local macro_rules | `(tactic| walk_at "blk") => `(tactic| first | exact ⟨rfl, by decide +kernel, by decide +kernel, by decide +kernel, by decide +kernel⟩ | (constructor <;> first | rfl | decide +kernel))
local macro_rules | `(tactic| walk_at "few") => `(tactic| first | decide | exact Nat.le_of_ble_eq_true rfl)
local macro_rules | `(tactic| walk_at "own") => `(tactic| (funext z_; simp only [Kn.up, Kn.dn]; (repeat' split) <;> first | rfl | (subst_vars; first | rfl | contradiction) | simp_all))
section
variable {P : Program} {w : World} {K : PySem.W.Frag} {mg : Str → Option Value} {base : Heap}
theorem lst_ty {ds : List Dat} : tyName (.lst ds) ≠ "" := show ("list" : String) ≠ "" by decide +kernel
theorem tup_ty {ds : List Dat} : tyName (.tup ds) ≠ "" := show ("tuple" : String) ≠ "" by decide +kernel
theorem zero_own_copy {ss : List Slot} {O : Own} {R : Out → Own → Prop} (h : CopyS 0 ss O R) : False := by
  obtain ⟨d, e, _, hc, _⟩ := h
  exact hc
theorem fn_own_copy (T : TopOf K mg) (Z : Facts K) : ∀ (n : Nat) {f : Addr} {fd : FuncData} (F : L2.Fun K "own_copy" "own_copy" s_own_copy f fd), Fn P w K mg base false (n + 1) f fd ["value"] (CopyS n)
  | 0, f, fd, F => by
    refine fn_mk F sc_own_copy (fun ss O R h => by obtain ⟨_, _, rfl, _⟩ := h; rfl) fun cdv A outer s H E ss O R hr hpo h => ?_
    exact (zero_own_copy h).elim
  | n + 1, f, fd, F => by
    have cr : Cal P w K mg base false (n + 1) "own_copy" (CopyS n) [] := cal_of T Z.d_own_copy (by walk_at "b1") fun f fd F => fn_own_copy T Z n F
    have sc := sc_own_copy
    refine fn_mk F sc_own_copy (fun ss O R h => by obtain ⟨_, _, rfl, _⟩ := h; rfl) fun cdv A outer s H E ss O R hr hpo h => ?_
    obtain ⟨d, e, rfl, hc, h⟩ := h
    rcases hc with ⟨hl, rfl⟩ | ⟨l, hlen, hq, ⟨rfl, rfl⟩ | ⟨rfl, rfl⟩ | ⟨p, rfl, hp, rfl⟩⟩
    · obtain ⟨h1, h2, h3⟩ := leaf_ty hl
      refine sw_cons ?_
      refine s1_if ?_
      refine tw_val ?_
      refine ew_callB (T.no Z.n_isinstance) bt_isinstance ?_
      refine aw_cons ?_
      refine ew_var 0 ?_
      refine aw_cons ?_
      refine ew_bltn (T.no Z.n_list) bt_list ?_
      refine aw_nil ?_
      refine cb_isTy (kit_lst h1) ?_ h1
      rw [h2]
      refine ⟨_, rfl, fun ht => ?_, fun ht => ?_⟩
      · cases ht
      refine sw_nil ?_
      refine sw_one ?_
      refine s1_ret ?_
      refine ew_if ?_
      refine tw_val ?_
      refine ew_callB (T.no Z.n_isinstance) bt_isinstance ?_
      refine aw_cons ?_
      refine ew_var 0 ?_
      refine aw_cons ?_
      refine ew_bltn (T.no Z.n_tuple) bt_tuple ?_
      refine aw_nil ?_
      refine cb_isTy (kit_tup h1) ?_ h1
      rw [h3]
      refine ⟨_, rfl, fun ht => ?_, fun ht => ?_⟩
      · cases ht
      refine ew_var 0 ?_
      exact h
    · refine sw_cons ?_
      refine s1_if ?_
      refine tw_val ?_
      refine ew_callB (T.no Z.n_isinstance) bt_isinstance ?_
      refine aw_cons ?_
      refine ew_var 0 ?_
      refine aw_cons ?_
      refine ew_bltn (T.no Z.n_list) bt_list ?_
      refine aw_nil ?_
      refine cb_isTy (kit_lst lst_ty) ?_ lst_ty
      refine ⟨_, rfl, fun ht => ?_, fun ht => ?_⟩
      · refine sw_one ?_
        refine s1_ret ?_
        refine ew_mapS1 l (·.1) (·.2) [("one", 1)] O sc.nd (.name (i := 1) (by decide) fun Y ⟨_, _, _, _, _, e⟩ => by subst e; exact pg_name (i := 1) sc.nd rfl (.inl rfl) (.inr rfl)) (blkOk_by (N := N_own_copy) (sc := defScope s_own_copy) (by decide +kernel)) (iw_list (ew_var 0 ⟨_, rfl, rfl, rfl⟩)) (Nat.le_trans hlen (by decide)) (fun q hm => ⟨_, rfl, fun O' Y hS hY => ?_⟩) ?_
        · obtain ⟨_, _, _, _, _, rfl⟩ := hY
          refine ew_call cr hr ?_ (hj := by omega)
          refine aw_cons ?_
          refine ew_var 1 ?_
          refine aw_nil ?_
          exact ⟨q.1, q.2, rfl, (hq q hm).keep (Lk.sub hS), rfl, rfl⟩
        · exact h
      · cases ht
    · refine sw_cons ?_
      refine s1_if ?_
      refine tw_val ?_
      refine ew_callB (T.no Z.n_isinstance) bt_isinstance ?_
      refine aw_cons ?_
      refine ew_var 0 ?_
      refine aw_cons ?_
      refine ew_bltn (T.no Z.n_list) bt_list ?_
      refine aw_nil ?_
      refine cb_isTy (kit_lst tup_ty) ?_ tup_ty
      refine ⟨_, rfl, fun ht => ?_, fun ht => ?_⟩
      · cases ht
      refine sw_nil ?_
      refine sw_one ?_
      refine s1_ret ?_
      refine ew_if ?_
      refine tw_val ?_
      refine ew_callB (T.no Z.n_isinstance) bt_isinstance ?_
      refine aw_cons ?_
      refine ew_var 0 ?_
      refine aw_cons ?_
      refine ew_bltn (T.no Z.n_tuple) bt_tuple ?_
      refine aw_nil ?_
      refine cb_isTy (kit_tup tup_ty) ?_ tup_ty
      refine ⟨_, rfl, fun ht => ?_, fun ht => ?_⟩
      · refine ew_callTy (T.no Z.n_tuple) bt_tuple ?_
        refine aw_cons ?_
        refine ew_mapS1 l (·.1) (·.2) [("one", 1)] O sc.nd (.name (i := 1) (by decide) fun Y ⟨_, _, _, _, _, e⟩ => by subst e; exact pg_name (i := 1) sc.nd rfl (.inl rfl) (.inr rfl)) (blkOk_by (N := N_own_copy) (sc := defScope s_own_copy) (by decide +kernel)) (iw_tup (ew_var 0 ⟨_, rfl, rfl, rfl⟩)) (Nat.le_trans hlen (by decide)) (fun q hm => ⟨_, rfl, fun O' Y hS hY => ?_⟩) ?_
        · obtain ⟨_, _, _, _, _, rfl⟩ := hY
          refine ew_call cr hr ?_ (hj := by omega)
          refine aw_cons ?_
          refine ew_var 1 ?_
          refine aw_nil ?_
          exact ⟨q.1, q.2, rfl, (hq q hm).keep (Lk.sub hS), rfl, rfl⟩
        refine aw_nil ?_
        refine cb_tupL ?_
        exact h
      · cases ht
    · refine sw_dOwn 0 ?_ rfl
      refine sw_cons ?_
      refine s1_if ?_
      refine tw_val ?_
      refine ew_callB (T.no Z.n_isinstance) bt_isinstance ?_
      refine aw_cons ?_
      refine ew_var 0 ?_
      refine aw_cons ?_
      refine ew_bltn (T.no Z.n_list) bt_list ?_
      refine aw_nil ?_
      refine cb_isOL hp (t := true) (by decide +kernel) ?_
      refine ⟨_, rfl, fun ht => ?_, fun ht => ?_⟩
      · refine sw_one ?_
        refine s1_ret ?_
        refine ew_mapSO l (·.1) (·.2) [("one", 1)] p O sc.nd (.name (i := 1) (by decide) fun Y ⟨_, _, _, _, _, e⟩ => by subst e; exact pg_name (i := 1) sc.nd rfl (.inl rfl) (.inr rfl)) (blkOk_by (N := N_own_copy) (sc := defScope s_own_copy) (by decide +kernel)) (iwo_list (ew_var 0 ⟨p, _, rfl, hp, rfl, rfl, rfl, rfl⟩)) hp (Nat.le_trans hlen (by decide)) (fun q hm => ⟨_, rfl, fun O' Y hS hY => ?_⟩) ?_
        · obtain ⟨_, _, _, _, _, rfl⟩ := hY
          refine ew_call cr hr ?_ (hj := by omega)
          refine aw_cons ?_
          refine ew_var 1 ?_
          refine aw_nil ?_
          exact ⟨q.1, q.2, rfl, (hq q hm).keep (Lk.sub hS), rfl, rfl⟩
        · exact h
      · cases ht
theorem c_own_copy (T : TopOf K mg) (Z : Facts K) (n : Nat) : Cal P w K mg base false (n + 1) "own_copy" (CopyS n) [] := cal_of T Z.d_own_copy (by walk_at "b1") fun f fd F => fn_own_copy T Z n F
theorem fn_NoKinds (T : TopOf K mg) (Z : Facts K) {f : Addr} {fd : FuncData} (F : L2.Fun K "__init__" "NoKinds.__init__" s_NoKinds_init f fd) : Fn P w K mg base false 7 f fd ["self", "row"] (Xi1 5 (He.ga K "NoKinds") "row") := by
  have sc := sc_NoKinds_init
  obtain ⟨X, nf⟩ := Z.x_NoKinds
  refine fn_mk F sc_NoKinds_init (fun ss O R h => by obtain ⟨_, _, _, rfl, _⟩ := h; rfl) fun cdv A outer s H E ss O R hr hpo h => ?_
  obtain ⟨a, d, e, rfl, hc, ha, h⟩ := h
  refine sw_cons ?_
  refine s1_expr ?_
  refine ew_kinit (X.ini T) ?_
  refine aw_cons ?_
  refine ew_var 0 ?_
  refine aw_cons ?_
  refine ew_str ?_
  refine aw_nil ?_
  refine ⟨a, _, _, rfl, by decide, X.a.oex, ha, ?_⟩
  refine sw_one ?_
  refine s1_ost ?_
  refine ew_call (c_own_copy T Z 5) hr ?_
  refine aw_cons ?_
  refine ew_var 1 ?_
  refine aw_nil ?_
  refine ⟨d, e, rfl, hc, ?_⟩
  refine ew_var 0 ?_
  exact ⟨a, _, rfl, X.a.oex, nf, .inl ⟨ha, fun dx nd => h dx nd⟩⟩
theorem xb_NoKinds (T : TopOf K mg) (Z : Facts K) : XbCls P w K mg base 7 (He.ga K "NoKinds") (Xi1 5 (He.ga K "NoKinds") "row") := xb_of Z.x_NoKinds.1 (by walk_at "b2") fun f fd F => fn_NoKinds T Z F
theorem fn_NoRules (T : TopOf K mg) (Z : Facts K) {f : Addr} {fd : FuncData} (F : L2.Fun K "__init__" "NoRules.__init__" s_NoRules_init f fd) : Fn P w K mg base false 7 f fd ["self", "row"] (Xi1 5 (He.ga K "NoRules") "row") := by
  have sc := sc_NoRules_init
  obtain ⟨X, nf⟩ := Z.x_NoRules
  refine fn_mk F sc_NoRules_init (fun ss O R h => by obtain ⟨_, _, _, rfl, _⟩ := h; rfl) fun cdv A outer s H E ss O R hr hpo h => ?_
  obtain ⟨a, d, e, rfl, hc, ha, h⟩ := h
  refine sw_cons ?_
  refine s1_expr ?_
  refine ew_kinit (X.ini T) ?_
  refine aw_cons ?_
  refine ew_var 0 ?_
  refine aw_cons ?_
  refine ew_str ?_
  refine aw_nil ?_
  refine ⟨a, _, _, rfl, by decide, X.a.oex, ha, ?_⟩
  refine sw_one ?_
  refine s1_ost ?_
  refine ew_call (c_own_copy T Z 5) hr ?_
  refine aw_cons ?_
  refine ew_var 1 ?_
  refine aw_nil ?_
  refine ⟨d, e, rfl, hc, ?_⟩
  refine ew_var 0 ?_
  exact ⟨a, _, rfl, X.a.oex, nf, .inl ⟨ha, fun dx nd => h dx nd⟩⟩
theorem xb_NoRules (T : TopOf K mg) (Z : Facts K) : XbCls P w K mg base 7 (He.ga K "NoRules") (Xi1 5 (He.ga K "NoRules") "row") := xb_of Z.x_NoRules.1 (by walk_at "b2") fun f fd F => fn_NoRules T Z F
theorem fn_NoQuestion (T : TopOf K mg) (Z : Facts K) {f : Addr} {fd : FuncData} (F : L2.Fun K "__init__" "NoQuestion.__init__" s_NoQuestion_init f fd) : Fn P w K mg base false 7 f fd ["self", "at"] (Xi1 5 (He.ga K "NoQuestion") "at") := by
  have sc := sc_NoQuestion_init
  obtain ⟨X, nf⟩ := Z.x_NoQuestion
  refine fn_mk F sc_NoQuestion_init (fun ss O R h => by obtain ⟨_, _, _, rfl, _⟩ := h; rfl) fun cdv A outer s H E ss O R hr hpo h => ?_
  obtain ⟨a, d, e, rfl, hc, ha, h⟩ := h
  refine sw_cons ?_
  refine s1_expr ?_
  refine ew_kinit (X.ini T) ?_
  refine aw_cons ?_
  refine ew_var 0 ?_
  refine aw_cons ?_
  refine ew_str ?_
  refine aw_nil ?_
  refine ⟨a, _, _, rfl, by decide, X.a.oex, ha, ?_⟩
  refine sw_one ?_
  refine s1_ost ?_
  refine ew_call (c_own_copy T Z 5) hr ?_
  refine aw_cons ?_
  refine ew_var 1 ?_
  refine aw_nil ?_
  refine ⟨d, e, rfl, hc, ?_⟩
  refine ew_var 0 ?_
  exact ⟨a, _, rfl, X.a.oex, nf, .inl ⟨ha, fun dx nd => h dx nd⟩⟩
theorem xb_NoQuestion (T : TopOf K mg) (Z : Facts K) : XbCls P w K mg base 7 (He.ga K "NoQuestion") (Xi1 5 (He.ga K "NoQuestion") "at") := xb_of Z.x_NoQuestion.1 (by walk_at "b2") fun f fd F => fn_NoQuestion T Z F
theorem fn_NoTree (T : TopOf K mg) (Z : Facts K) {f : Addr} {fd : FuncData} (F : L2.Fun K "__init__" "NoTree.__init__" s_NoTree_init f fd) : Fn P w K mg base false 7 f fd ["self", "at"] (Xi1 5 (He.ga K "NoTree") "at") := by
  have sc := sc_NoTree_init
  obtain ⟨X, nf⟩ := Z.x_NoTree
  refine fn_mk F sc_NoTree_init (fun ss O R h => by obtain ⟨_, _, _, rfl, _⟩ := h; rfl) fun cdv A outer s H E ss O R hr hpo h => ?_
  obtain ⟨a, d, e, rfl, hc, ha, h⟩ := h
  refine sw_cons ?_
  refine s1_expr ?_
  refine ew_kinit (X.ini T) ?_
  refine aw_cons ?_
  refine ew_var 0 ?_
  refine aw_cons ?_
  refine ew_str ?_
  refine aw_nil ?_
  refine ⟨a, _, _, rfl, by decide, X.a.oex, ha, ?_⟩
  refine sw_one ?_
  refine s1_ost ?_
  refine ew_call (c_own_copy T Z 5) hr ?_
  refine aw_cons ?_
  refine ew_var 1 ?_
  refine aw_nil ?_
  refine ⟨d, e, rfl, hc, ?_⟩
  refine ew_var 0 ?_
  exact ⟨a, _, rfl, X.a.oex, nf, .inl ⟨ha, fun dx nd => h dx nd⟩⟩
theorem xb_NoTree (T : TopOf K mg) (Z : Facts K) : XbCls P w K mg base 7 (He.ga K "NoTree") (Xi1 5 (He.ga K "NoTree") "at") := xb_of Z.x_NoTree.1 (by walk_at "b2") fun f fd F => fn_NoTree T Z F
theorem fn_NoBundle (T : TopOf K mg) (Z : Facts K) {f : Addr} {fd : FuncData} (F : L2.Fun K "__init__" "NoBundle.__init__" s_NoBundle_init f fd) : Fn P w K mg base false 7 f fd ["self", "at"] (Xi1 5 (He.ga K "NoBundle") "at") := by
  have sc := sc_NoBundle_init
  obtain ⟨X, nf⟩ := Z.x_NoBundle
  refine fn_mk F sc_NoBundle_init (fun ss O R h => by obtain ⟨_, _, _, rfl, _⟩ := h; rfl) fun cdv A outer s H E ss O R hr hpo h => ?_
  obtain ⟨a, d, e, rfl, hc, ha, h⟩ := h
  refine sw_cons ?_
  refine s1_expr ?_
  refine ew_kinit (X.ini T) ?_
  refine aw_cons ?_
  refine ew_var 0 ?_
  refine aw_cons ?_
  refine ew_str ?_
  refine aw_nil ?_
  refine ⟨a, _, _, rfl, by decide, X.a.oex, ha, ?_⟩
  refine sw_one ?_
  refine s1_ost ?_
  refine ew_call (c_own_copy T Z 5) hr ?_
  refine aw_cons ?_
  refine ew_var 1 ?_
  refine aw_nil ?_
  refine ⟨d, e, rfl, hc, ?_⟩
  refine ew_var 0 ?_
  exact ⟨a, _, rfl, X.a.oex, nf, .inl ⟨ha, fun dx nd => h dx nd⟩⟩
theorem xb_NoBundle (T : TopOf K mg) (Z : Facts K) : XbCls P w K mg base 7 (He.ga K "NoBundle") (Xi1 5 (He.ga K "NoBundle") "at") := xb_of Z.x_NoBundle.1 (by walk_at "b2") fun f fd F => fn_NoBundle T Z F
theorem fn_TooMany (T : TopOf K mg) (Z : Facts K) {f : Addr} {fd : FuncData} (F : L2.Fun K "__init__" "TooMany.__init__" s_TooMany_init f fd) : Fn P w K mg base false 7 f fd ["self", "word"] (Xi1 5 (He.ga K "TooMany") "word") := by
  have sc := sc_TooMany_init
  obtain ⟨X, nf⟩ := Z.x_TooMany
  refine fn_mk F sc_TooMany_init (fun ss O R h => by obtain ⟨_, _, _, rfl, _⟩ := h; rfl) fun cdv A outer s H E ss O R hr hpo h => ?_
  obtain ⟨a, d, e, rfl, hc, ha, h⟩ := h
  refine sw_cons ?_
  refine s1_expr ?_
  refine ew_kinit (X.ini T) ?_
  refine aw_cons ?_
  refine ew_var 0 ?_
  refine aw_cons ?_
  refine ew_str ?_
  refine aw_nil ?_
  refine ⟨a, _, _, rfl, by decide, X.a.oex, ha, ?_⟩
  refine sw_one ?_
  refine s1_ost ?_
  refine ew_call (c_own_copy T Z 5) hr ?_
  refine aw_cons ?_
  refine ew_var 1 ?_
  refine aw_nil ?_
  refine ⟨d, e, rfl, hc, ?_⟩
  refine ew_var 0 ?_
  exact ⟨a, _, rfl, X.a.oex, nf, .inl ⟨ha, fun dx nd => h dx nd⟩⟩
theorem xb_TooMany (T : TopOf K mg) (Z : Facts K) : XbCls P w K mg base 7 (He.ga K "TooMany") (Xi1 5 (He.ga K "TooMany") "word") := xb_of Z.x_TooMany.1 (by walk_at "b2") fun f fd F => fn_TooMany T Z F
theorem fn_TooGreat (T : TopOf K mg) (Z : Facts K) {f : Addr} {fd : FuncData} (F : L2.Fun K "__init__" "TooGreat.__init__" s_TooGreat_init f fd) : Fn P w K mg base false 7 f fd ["self", "product"] (Xi1 5 (He.ga K "TooGreat") "product") := by
  have sc := sc_TooGreat_init
  obtain ⟨X, nf⟩ := Z.x_TooGreat
  refine fn_mk F sc_TooGreat_init (fun ss O R h => by obtain ⟨_, _, _, rfl, _⟩ := h; rfl) fun cdv A outer s H E ss O R hr hpo h => ?_
  obtain ⟨a, d, e, rfl, hc, ha, h⟩ := h
  refine sw_cons ?_
  refine s1_expr ?_
  refine ew_kinit (X.ini T) ?_
  refine aw_cons ?_
  refine ew_var 0 ?_
  refine aw_cons ?_
  refine ew_str ?_
  refine aw_nil ?_
  refine ⟨a, _, _, rfl, by decide, X.a.oex, ha, ?_⟩
  refine sw_one ?_
  refine s1_ost ?_
  refine ew_call (c_own_copy T Z 5) hr ?_
  refine aw_cons ?_
  refine ew_var 1 ?_
  refine aw_nil ?_
  refine ⟨d, e, rfl, hc, ?_⟩
  refine ew_var 0 ?_
  exact ⟨a, _, rfl, X.a.oex, nf, .inl ⟨ha, fun dx nd => h dx nd⟩⟩
theorem xb_TooGreat (T : TopOf K mg) (Z : Facts K) : XbCls P w K mg base 7 (He.ga K "TooGreat") (Xi1 5 (He.ga K "TooGreat") "product") := xb_of Z.x_TooGreat.1 (by walk_at "b2") fun f fd F => fn_TooGreat T Z F
theorem fn_UnknownKind (T : TopOf K mg) (Z : Facts K) {f : Addr} {fd : FuncData} (F : L2.Fun K "__init__" "UnknownKind.__init__" s_UnknownKind_init f fd) : Fn P w K mg base false 7 f fd ["self", "kind"] (Xi1 5 (He.ga K "UnknownKind") "kind") := by
  have sc := sc_UnknownKind_init
  obtain ⟨X, nf⟩ := Z.x_UnknownKind
  refine fn_mk F sc_UnknownKind_init (fun ss O R h => by obtain ⟨_, _, _, rfl, _⟩ := h; rfl) fun cdv A outer s H E ss O R hr hpo h => ?_
  obtain ⟨a, d, e, rfl, hc, ha, h⟩ := h
  refine sw_cons ?_
  refine s1_expr ?_
  refine ew_kinit (X.ini T) ?_
  refine aw_cons ?_
  refine ew_var 0 ?_
  refine aw_cons ?_
  refine ew_str ?_
  refine aw_nil ?_
  refine ⟨a, _, _, rfl, by decide, X.a.oex, ha, ?_⟩
  refine sw_one ?_
  refine s1_ost ?_
  refine ew_call (c_own_copy T Z 5) hr ?_
  refine aw_cons ?_
  refine ew_var 1 ?_
  refine aw_nil ?_
  refine ⟨d, e, rfl, hc, ?_⟩
  refine ew_var 0 ?_
  exact ⟨a, _, rfl, X.a.oex, nf, .inl ⟨ha, fun dx nd => h dx nd⟩⟩
theorem xb_UnknownKind (T : TopOf K mg) (Z : Facts K) : XbCls P w K mg base 7 (He.ga K "UnknownKind") (Xi1 5 (He.ga K "UnknownKind") "kind") := xb_of Z.x_UnknownKind.1 (by walk_at "b2") fun f fd F => fn_UnknownKind T Z F
theorem fn_NoEvent (T : TopOf K mg) (Z : Facts K) {f : Addr} {fd : FuncData} (F : L2.Fun K "__init__" "NoEvent.__init__" s_NoEvent_init f fd) : Fn P w K mg base false 7 f fd ["self", "event"] (Xi1 5 (He.ga K "NoEvent") "event") := by
  have sc := sc_NoEvent_init
  obtain ⟨X, nf⟩ := Z.x_NoEvent
  refine fn_mk F sc_NoEvent_init (fun ss O R h => by obtain ⟨_, _, _, rfl, _⟩ := h; rfl) fun cdv A outer s H E ss O R hr hpo h => ?_
  obtain ⟨a, d, e, rfl, hc, ha, h⟩ := h
  refine sw_cons ?_
  refine s1_expr ?_
  refine ew_kinit (X.ini T) ?_
  refine aw_cons ?_
  refine ew_var 0 ?_
  refine aw_cons ?_
  refine ew_str ?_
  refine aw_nil ?_
  refine ⟨a, _, _, rfl, by decide, X.a.oex, ha, ?_⟩
  refine sw_one ?_
  refine s1_ost ?_
  refine ew_call (c_own_copy T Z 5) hr ?_
  refine aw_cons ?_
  refine ew_var 1 ?_
  refine aw_nil ?_
  refine ⟨d, e, rfl, hc, ?_⟩
  refine ew_var 0 ?_
  exact ⟨a, _, rfl, X.a.oex, nf, .inl ⟨ha, fun dx nd => h dx nd⟩⟩
theorem xb_NoEvent (T : TopOf K mg) (Z : Facts K) : XbCls P w K mg base 7 (He.ga K "NoEvent") (Xi1 5 (He.ga K "NoEvent") "event") := xb_of Z.x_NoEvent.1 (by walk_at "b2") fun f fd F => fn_NoEvent T Z F
theorem fn_Refused (T : TopOf K mg) (Z : Facts K) {f : Addr} {fd : FuncData} (F : L2.Fun K "__init__" "Refused.__init__" s_Refused_init f fd) : Fn P w K mg base false 7 f fd ["self", "event"] (Xi1 5 (He.ga K "Refused") "event") := by
  have sc := sc_Refused_init
  obtain ⟨X, nf⟩ := Z.x_Refused
  refine fn_mk F sc_Refused_init (fun ss O R h => by obtain ⟨_, _, _, rfl, _⟩ := h; rfl) fun cdv A outer s H E ss O R hr hpo h => ?_
  obtain ⟨a, d, e, rfl, hc, ha, h⟩ := h
  refine sw_cons ?_
  refine s1_expr ?_
  refine ew_kinit (X.ini T) ?_
  refine aw_cons ?_
  refine ew_var 0 ?_
  refine aw_cons ?_
  refine ew_str ?_
  refine aw_nil ?_
  refine ⟨a, _, _, rfl, by decide, X.a.oex, ha, ?_⟩
  refine sw_one ?_
  refine s1_ost ?_
  refine ew_call (c_own_copy T Z 5) hr ?_
  refine aw_cons ?_
  refine ew_var 1 ?_
  refine aw_nil ?_
  refine ⟨d, e, rfl, hc, ?_⟩
  refine ew_var 0 ?_
  exact ⟨a, _, rfl, X.a.oex, nf, .inl ⟨ha, fun dx nd => h dx nd⟩⟩
theorem xb_Refused (T : TopOf K mg) (Z : Facts K) : XbCls P w K mg base 7 (He.ga K "Refused") (Xi1 5 (He.ga K "Refused") "event") := xb_of Z.x_Refused.1 (by walk_at "b2") fun f fd F => fn_Refused T Z F
theorem fn_RefusedAt (T : TopOf K mg) (Z : Facts K) {f : Addr} {fd : FuncData} (F : L2.Fun K "__init__" "RefusedAt.__init__" s_RefusedAt_init f fd) : Fn P w K mg base false 7 f fd ["self", "at"] (Xi1 5 (He.ga K "RefusedAt") "at") := by
  have sc := sc_RefusedAt_init
  obtain ⟨X, nf⟩ := Z.x_RefusedAt
  refine fn_mk F sc_RefusedAt_init (fun ss O R h => by obtain ⟨_, _, _, rfl, _⟩ := h; rfl) fun cdv A outer s H E ss O R hr hpo h => ?_
  obtain ⟨a, d, e, rfl, hc, ha, h⟩ := h
  refine sw_cons ?_
  refine s1_expr ?_
  refine ew_kinit (X.ini T) ?_
  refine aw_cons ?_
  refine ew_var 0 ?_
  refine aw_cons ?_
  refine ew_str ?_
  refine aw_nil ?_
  refine ⟨a, _, _, rfl, by decide, X.a.oex, ha, ?_⟩
  refine sw_one ?_
  refine s1_ost ?_
  refine ew_call (c_own_copy T Z 5) hr ?_
  refine aw_cons ?_
  refine ew_var 1 ?_
  refine aw_nil ?_
  refine ⟨d, e, rfl, hc, ?_⟩
  refine ew_var 0 ?_
  exact ⟨a, _, rfl, X.a.oex, nf, .inl ⟨ha, fun dx nd => h dx nd⟩⟩
theorem xb_RefusedAt (T : TopOf K mg) (Z : Facts K) : XbCls P w K mg base 7 (He.ga K "RefusedAt") (Xi1 5 (He.ga K "RefusedAt") "at") := xb_of Z.x_RefusedAt.1 (by walk_at "b2") fun f fd F => fn_RefusedAt T Z F
theorem fn_NoCommand (T : TopOf K mg) (Z : Facts K) {f : Addr} {fd : FuncData} (F : L2.Fun K "__init__" "NoCommand.__init__" s_NoCommand_init f fd) : Fn P w K mg base false 7 f fd ["self", "row"] (Xi1 5 (He.ga K "NoCommand") "row") := by
  have sc := sc_NoCommand_init
  obtain ⟨X, nf⟩ := Z.x_NoCommand
  refine fn_mk F sc_NoCommand_init (fun ss O R h => by obtain ⟨_, _, _, rfl, _⟩ := h; rfl) fun cdv A outer s H E ss O R hr hpo h => ?_
  obtain ⟨a, d, e, rfl, hc, ha, h⟩ := h
  refine sw_cons ?_
  refine s1_expr ?_
  refine ew_kinit (X.ini T) ?_
  refine aw_cons ?_
  refine ew_var 0 ?_
  refine aw_cons ?_
  refine ew_str ?_
  refine aw_nil ?_
  refine ⟨a, _, _, rfl, by decide, X.a.oex, ha, ?_⟩
  refine sw_one ?_
  refine s1_ost ?_
  refine ew_call (c_own_copy T Z 5) hr ?_
  refine aw_cons ?_
  refine ew_var 1 ?_
  refine aw_nil ?_
  refine ⟨d, e, rfl, hc, ?_⟩
  refine ew_var 0 ?_
  exact ⟨a, _, rfl, X.a.oex, nf, .inl ⟨ha, fun dx nd => h dx nd⟩⟩
theorem xb_NoCommand (T : TopOf K mg) (Z : Facts K) : XbCls P w K mg base 7 (He.ga K "NoCommand") (Xi1 5 (He.ga K "NoCommand") "row") := xb_of Z.x_NoCommand.1 (by walk_at "b2") fun f fd F => fn_NoCommand T Z F
theorem fn_NotPending (T : TopOf K mg) (Z : Facts K) {f : Addr} {fd : FuncData} (F : L2.Fun K "__init__" "NotPending.__init__" s_NotPending_init f fd) : Fn P w K mg base false 7 f fd ["self", "question", "mark"] (Xi2 5 (He.ga K "NotPending") "question" "mark") := by
  have sc := sc_NotPending_init
  obtain ⟨X, nf1, nf2⟩ := Z.x_NotPending
  refine fn_mk F sc_NotPending_init (fun ss O R h => by obtain ⟨_, _, _, _, _, rfl, _⟩ := h; rfl) fun cdv A outer s H E ss O R hr hpo h => ?_
  obtain ⟨a, d1, e1, d2, e2, rfl, hc1, hc2, ha, h⟩ := h
  refine sw_cons ?_
  refine s1_expr ?_
  refine ew_tini X.top (T.no Z.n_KeyError) bt_KeyError ?_
  refine aw_cons ?_
  refine ew_var 0 ?_
  refine aw_cons ?_
  refine ew_str ?_
  refine aw_nil ?_
  refine ⟨a, _, _, rfl, by decide, ⟨_, _, X.xb⟩, ha, ?_⟩
  refine sw_cons ?_
  refine s1_xput ?_
  refine ew_call (c_own_copy T Z 5) hr ?_
  refine aw_cons ?_
  refine ew_var 1 ?_
  refine aw_nil ?_
  refine ⟨d1, e1, rfl, hc1, ?_⟩
  refine ew_var 0 ?_
  refine ⟨a, _, rfl, ⟨_, _, _, X.xb⟩, nf1, .inl ⟨ha, fun dx nd => ?_⟩⟩
  have na : a ≠ dx := own_ne ha nd
  refine sw_one ?_
  refine s1_xput ?_
  refine ew_call (c_own_copy T Z 5) hr ?_
  refine aw_cons ?_
  refine ew_var 2 ?_
  refine aw_nil ?_
  refine ⟨d2, e2, rfl, hc2.keep ((Lk.up (isLC_no nd)).trans (Lk.up (by rw [up_ne na]; exact isLC_exo ha))), ?_⟩
  refine ew_var 0 ?_
  exact ⟨a, _, rfl, ⟨_, _, _, X.xb⟩, nf2, .inr ⟨dx, [("question", .dat e1)], up_at, by rw [up_ne na.symm, up_at], Nat.le_of_ble_eq_true rfl, h dx nd⟩⟩
theorem xb_NotPending (T : TopOf K mg) (Z : Facts K) : XbCls P w K mg base 7 (He.ga K "NotPending") (Xi2 5 (He.ga K "NotPending") "question" "mark") := xb_ofK Z.x_NotPending.1 (by walk_at "b3") fun f fd F => fn_NotPending T Z F
theorem mem_NoKinds : ("NoKinds" : Str) ∈ xNames := (.head _)
theorem xat_NoKinds (Z : Facts K) : XAt K "NoKinds" := Z.a_all _ mem_NoKinds
theorem at_NoKinds (Z : Facts K) : PySem.W.nsIn K mainGlobals "NoKinds" = some (some (.ref (He.ga K "NoKinds"))) := (xat_NoKinds Z).at_
theorem no_NoKinds_row (Z : Facts K) : PySem.W.findIn K (.ref (He.ga K "NoKinds")) "row" = some none := Z.x_NoKinds.2
theorem mem_NoRules : ("NoRules" : Str) ∈ xNames := (.tail _ (.head _))
theorem xat_NoRules (Z : Facts K) : XAt K "NoRules" := Z.a_all _ mem_NoRules
theorem at_NoRules (Z : Facts K) : PySem.W.nsIn K mainGlobals "NoRules" = some (some (.ref (He.ga K "NoRules"))) := (xat_NoRules Z).at_
theorem no_NoRules_row (Z : Facts K) : PySem.W.findIn K (.ref (He.ga K "NoRules")) "row" = some none := Z.x_NoRules.2
theorem mem_NoQuestion : ("NoQuestion" : Str) ∈ xNames := (.tail _ (.tail _ (.head _)))
theorem xat_NoQuestion (Z : Facts K) : XAt K "NoQuestion" := Z.a_all _ mem_NoQuestion
theorem at_NoQuestion (Z : Facts K) : PySem.W.nsIn K mainGlobals "NoQuestion" = some (some (.ref (He.ga K "NoQuestion"))) := (xat_NoQuestion Z).at_
theorem no_NoQuestion_at (Z : Facts K) : PySem.W.findIn K (.ref (He.ga K "NoQuestion")) "at" = some none := Z.x_NoQuestion.2
theorem mem_NoTree : ("NoTree" : Str) ∈ xNames := (.tail _ (.tail _ (.tail _ (.head _))))
theorem xat_NoTree (Z : Facts K) : XAt K "NoTree" := Z.a_all _ mem_NoTree
theorem at_NoTree (Z : Facts K) : PySem.W.nsIn K mainGlobals "NoTree" = some (some (.ref (He.ga K "NoTree"))) := (xat_NoTree Z).at_
theorem no_NoTree_at (Z : Facts K) : PySem.W.findIn K (.ref (He.ga K "NoTree")) "at" = some none := Z.x_NoTree.2
theorem mem_NoBundle : ("NoBundle" : Str) ∈ xNames := (.tail _ (.tail _ (.tail _ (.tail _ (.head _)))))
theorem xat_NoBundle (Z : Facts K) : XAt K "NoBundle" := Z.a_all _ mem_NoBundle
theorem at_NoBundle (Z : Facts K) : PySem.W.nsIn K mainGlobals "NoBundle" = some (some (.ref (He.ga K "NoBundle"))) := (xat_NoBundle Z).at_
theorem no_NoBundle_at (Z : Facts K) : PySem.W.findIn K (.ref (He.ga K "NoBundle")) "at" = some none := Z.x_NoBundle.2
theorem mem_TooMany : ("TooMany" : Str) ∈ xNames := (.tail _ (.tail _ (.tail _ (.tail _ (.tail _ (.head _))))))
theorem xat_TooMany (Z : Facts K) : XAt K "TooMany" := Z.a_all _ mem_TooMany
theorem at_TooMany (Z : Facts K) : PySem.W.nsIn K mainGlobals "TooMany" = some (some (.ref (He.ga K "TooMany"))) := (xat_TooMany Z).at_
theorem no_TooMany_word (Z : Facts K) : PySem.W.findIn K (.ref (He.ga K "TooMany")) "word" = some none := Z.x_TooMany.2
theorem mem_TooGreat : ("TooGreat" : Str) ∈ xNames := (.tail _ (.tail _ (.tail _ (.tail _ (.tail _ (.tail _ (.head _)))))))
theorem xat_TooGreat (Z : Facts K) : XAt K "TooGreat" := Z.a_all _ mem_TooGreat
theorem at_TooGreat (Z : Facts K) : PySem.W.nsIn K mainGlobals "TooGreat" = some (some (.ref (He.ga K "TooGreat"))) := (xat_TooGreat Z).at_
theorem no_TooGreat_product (Z : Facts K) : PySem.W.findIn K (.ref (He.ga K "TooGreat")) "product" = some none := Z.x_TooGreat.2
theorem mem_UnknownKind : ("UnknownKind" : Str) ∈ xNames := (.tail _ (.tail _ (.tail _ (.tail _ (.tail _ (.tail _ (.tail _ (.head _))))))))
theorem xat_UnknownKind (Z : Facts K) : XAt K "UnknownKind" := Z.a_all _ mem_UnknownKind
theorem at_UnknownKind (Z : Facts K) : PySem.W.nsIn K mainGlobals "UnknownKind" = some (some (.ref (He.ga K "UnknownKind"))) := (xat_UnknownKind Z).at_
theorem no_UnknownKind_kind (Z : Facts K) : PySem.W.findIn K (.ref (He.ga K "UnknownKind")) "kind" = some none := Z.x_UnknownKind.2
theorem mem_NoDocument : ("NoDocument" : Str) ∈ xNames := (.tail _ (.tail _ (.tail _ (.tail _ (.tail _ (.tail _ (.tail _ (.tail _ (.head _)))))))))
theorem xat_NoDocument (Z : Facts K) : XAt K "NoDocument" := Z.a_all _ mem_NoDocument
theorem at_NoDocument (Z : Facts K) : PySem.W.nsIn K mainGlobals "NoDocument" = some (some (.ref (He.ga K "NoDocument"))) := (xat_NoDocument Z).at_
theorem mem_NoEvent : ("NoEvent" : Str) ∈ xNames := (.tail _ (.tail _ (.tail _ (.tail _ (.tail _ (.tail _ (.tail _ (.tail _ (.tail _ (.head _))))))))))
theorem xat_NoEvent (Z : Facts K) : XAt K "NoEvent" := Z.a_all _ mem_NoEvent
theorem at_NoEvent (Z : Facts K) : PySem.W.nsIn K mainGlobals "NoEvent" = some (some (.ref (He.ga K "NoEvent"))) := (xat_NoEvent Z).at_
theorem no_NoEvent_event (Z : Facts K) : PySem.W.findIn K (.ref (He.ga K "NoEvent")) "event" = some none := Z.x_NoEvent.2
theorem mem_Refused : ("Refused" : Str) ∈ xNames := (.tail _ (.tail _ (.tail _ (.tail _ (.tail _ (.tail _ (.tail _ (.tail _ (.tail _ (.tail _ (.head _)))))))))))
theorem xat_Refused (Z : Facts K) : XAt K "Refused" := Z.a_all _ mem_Refused
theorem at_Refused (Z : Facts K) : PySem.W.nsIn K mainGlobals "Refused" = some (some (.ref (He.ga K "Refused"))) := (xat_Refused Z).at_
theorem no_Refused_event (Z : Facts K) : PySem.W.findIn K (.ref (He.ga K "Refused")) "event" = some none := Z.x_Refused.2
theorem mem_RefusedAt : ("RefusedAt" : Str) ∈ xNames := (.tail _ (.tail _ (.tail _ (.tail _ (.tail _ (.tail _ (.tail _ (.tail _ (.tail _ (.tail _ (.tail _ (.head _))))))))))))
theorem xat_RefusedAt (Z : Facts K) : XAt K "RefusedAt" := Z.a_all _ mem_RefusedAt
theorem at_RefusedAt (Z : Facts K) : PySem.W.nsIn K mainGlobals "RefusedAt" = some (some (.ref (He.ga K "RefusedAt"))) := (xat_RefusedAt Z).at_
theorem no_RefusedAt_at (Z : Facts K) : PySem.W.findIn K (.ref (He.ga K "RefusedAt")) "at" = some none := Z.x_RefusedAt.2
theorem mem_Resting : ("Resting" : Str) ∈ xNames := (.tail _ (.tail _ (.tail _ (.tail _ (.tail _ (.tail _ (.tail _ (.tail _ (.tail _ (.tail _ (.tail _ (.tail _ (.head _)))))))))))))
theorem xat_Resting (Z : Facts K) : XAt K "Resting" := Z.a_all _ mem_Resting
theorem at_Resting (Z : Facts K) : PySem.W.nsIn K mainGlobals "Resting" = some (some (.ref (He.ga K "Resting"))) := (xat_Resting Z).at_
theorem mem_OtherSpace : ("OtherSpace" : Str) ∈ xNames := (.tail _ (.tail _ (.tail _ (.tail _ (.tail _ (.tail _ (.tail _ (.tail _ (.tail _ (.tail _ (.tail _ (.tail _ (.tail _ (.head _))))))))))))))
theorem xat_OtherSpace (Z : Facts K) : XAt K "OtherSpace" := Z.a_all _ mem_OtherSpace
theorem at_OtherSpace (Z : Facts K) : PySem.W.nsIn K mainGlobals "OtherSpace" = some (some (.ref (He.ga K "OtherSpace"))) := (xat_OtherSpace Z).at_
theorem mem_NoCommand : ("NoCommand" : Str) ∈ xNames := (.tail _ (.tail _ (.tail _ (.tail _ (.tail _ (.tail _ (.tail _ (.tail _ (.tail _ (.tail _ (.tail _ (.tail _ (.tail _ (.tail _ (.head _)))))))))))))))
theorem xat_NoCommand (Z : Facts K) : XAt K "NoCommand" := Z.a_all _ mem_NoCommand
theorem at_NoCommand (Z : Facts K) : PySem.W.nsIn K mainGlobals "NoCommand" = some (some (.ref (He.ga K "NoCommand"))) := (xat_NoCommand Z).at_
theorem no_NoCommand_row (Z : Facts K) : PySem.W.findIn K (.ref (He.ga K "NoCommand")) "row" = some none := Z.x_NoCommand.2
theorem mem_NotPending : ("NotPending" : Str) ∈ xNames := (.tail _ (.tail _ (.tail _ (.tail _ (.tail _ (.tail _ (.tail _ (.tail _ (.tail _ (.tail _ (.tail _ (.tail _ (.tail _ (.tail _ (.tail _ (.head _))))))))))))))))
theorem xat_NotPending (Z : Facts K) : XAt K "NotPending" := Z.a_all _ mem_NotPending
theorem at_NotPending (Z : Facts K) : PySem.W.nsIn K mainGlobals "NotPending" = some (some (.ref (He.ga K "NotPending"))) := (xat_NotPending Z).at_
theorem no_NotPending_question (Z : Facts K) : PySem.W.findIn K (.ref (He.ga K "NotPending")) "question" = some none := Z.x_NotPending.2.1
theorem no_NotPending_mark (Z : Facts K) : PySem.W.findIn K (.ref (He.ga K "NotPending")) "mark" = some none := Z.x_NotPending.2.2
theorem at_KeptError (Z : Facts K) : PySem.W.nsIn K mainGlobals "KeptError" = some (some (.ref (He.ga K "KeptError"))) := Z.a_KeptError.at_
end
/-- the source of draws -/
def boxC (c s n : Int) : Cell := .lst [.dat (.int c), .dat (.int s), .dat (.int n)]
def isBox (b : Cell) : Prop := ∃ c s n, b = boxC c s n ∧ 0 ≤ c ∧ 1 ≤ s ∧ s ≤ 2147483629 ∧ 0 ≤ n
def Take : SpecT := fun ss O R => ∃ (p : Addr) (m : Int) (b : Cell), ss = [.own p, .dat (.int m)] ∧ O p = some b ∧ isBox b ∧ 1 ≤ m ∧ m < 1073741824 ∧ ∀ (d : Int) (b' : Cell), 0 ≤ d → d < m → isBox b' → R (.ret (.dat (.int d))) (up O p b')
def BoxS : SpecT := fun ss O R => ∃ (ns : List Int) (k o : Int), ss = [.dat (.fro (ns.map .int)), .dat (.int k), .dat (.int o)] ∧ 0 ≤ k ∧ k ≤ 1000 ∧ 0 ≤ o ∧ o ≤ 1000 ∧ ∀ p b, O p = none → isBox b → R (.ret (.own p)) (up O p b)
section
variable {P : Program} {w : World} {K : PySem.W.Frag} {mg : Str → Option Value} {base : Heap}
theorem fn_law_take {f : Addr} {fd : FuncData} (F : L2.Fun K "_law_take" "_law_take" s_law_take f fd) : Fn P w K mg base false 1 f fd ["_law_box_here", "_law_many"] Take := by
  have sc := sc_law_take
  refine fn_mk F sc_law_take (fun ss O R h => by obtain ⟨p, m, b, rfl, _⟩ := h; rfl) fun cdv A outer s H E ss O R hr hpo h => ?_
  obtain ⟨p, m, b, rfl, hp, hb, hm1, hm2, h⟩ := h
  obtain ⟨c, s0, n, rfl, hc, hs1, hs2, hn⟩ := hb
  have hp : O p = some (.lst [.dat (.int c), .dat (.int s0), .dat (.int n)]) := hp
  -- 0:_law_box_here 1:_law_many 2:_law_digit 3:_law_raw 4:_law_wide
  refine sw_cons ?_
  refine s1_if ?_
  refine tw_cmp ?_
  refine ew_ix ?_
  refine ew_var 0 ?_
  refine ew_int ?_
  walk_at "ix"
  refine ew_int ?_
  walk_at "cmp Gt"
  refine ⟨_, rfl, fun ht => ?_, fun ht => ?_⟩
  · refine sw_cons ?_
    refine s1_set 2 ?_ sc.nd
    refine ew_bin ?_
    refine ew_ix ?_
    refine ew_var 0 ?_
    refine ew_int ?_
    walk_at "ix"
    refine ew_var 1 ?_
    walk_at "op mod"
    refine sw_cons ?_
    refine s1_asg ?_
    refine ew_bin ?_
    refine ew_ix ?_
    refine ew_var 0 ?_
    refine ew_int ?_
    walk_at "ix"
    refine ew_var 1 ?_
    walk_at "op fdiv"
    refine gw_set ?_
    refine ew_var 0 ?_
    refine ew_int ?_
    refine ⟨_, _, _, _, rfl, rfl, by walk_at "cell", rfl, ?_⟩
    refine sw_one ?_
    refine s1_ret ?_
    refine ew_var 2 ?_
    show R (.ret _) (up O p _)
    exact h _ _ (Int.emod_nonneg _ (by omega)) (Int.emod_lt_of_pos _ (by omega)) ⟨c / m, s0, n, rfl, Int.ediv_nonneg hc (by omega), hs1, hs2, hn⟩
  · refine sw_nil ?_
    refine sw_cons ?_
    refine s1_asg ?_
    refine ew_bin ?_
    refine ew_ix ?_
    refine ew_var 0 ?_
    refine ew_int ?_
    walk_at "ix"
    refine ew_int ?_
    walk_at "op add"
    refine gw_set ?_
    refine ew_var 0 ?_
    refine ew_int ?_
    refine ⟨_, _, _, _, rfl, rfl, by walk_at "cell", rfl, ?_⟩
    refine sw_cons ?_
    refine s1_set 3 ?_ sc.nd
    refine ew_bin ?_
    refine ew_bin ?_
    refine ew_bin ?_
    refine ew_ix ?_
    refine ew_var 0 ?_
    refine ew_int ?_
    walk_at "ix"
    refine ew_bin ?_
    refine ew_int ?_
    refine ew_ix ?_
    refine ew_var 0 ?_
    refine ew_int ?_
    walk_at "ix"
    walk_at "op mul"
    walk_at "op add"
    refine ew_int ?_
    walk_at "op mul"
    refine ew_int ?_
    walk_at "op mod"
    refine sw_cons ?_
    refine s1_asg ?_
    refine ew_bin ?_
    refine ew_bin ?_
    refine ew_bin ?_
    refine ew_bin ?_
    refine ew_var 3 ?_
    refine ew_int ?_
    walk_at "op mul"
    refine ew_int ?_
    walk_at "op add"
    refine ew_int ?_
    walk_at "op mod"
    refine ew_int ?_
    walk_at "op add"
    refine gw_set ?_
    refine ew_var 0 ?_
    refine ew_int ?_
    refine ⟨_, _, _, _, rfl, rfl, by walk_at "cell", rfl, ?_⟩
    refine sw_cons ?_
    refine s1_if ?_
    refine tw_cmp ?_
    refine ew_var 1 ?_
    refine ew_bin ?_
    refine ew_int ?_
    refine ew_int ?_
    walk_at "op pow"
    walk_at "cmp Lt"
    refine ⟨_, rfl, fun ht => ?_, fun ht => ?_⟩
    · refine sw_one ?_
      refine s1_ret ?_
      refine ew_bin ?_
      refine ew_bin ?_
      refine ew_bin ?_
      refine ew_bin ?_
      refine ew_var 3 ?_
      refine ew_int ?_
      walk_at "op mul"
      refine ew_ix ?_
      refine ew_var 0 ?_
      refine ew_int ?_
      walk_at "ix"
      walk_at "op add"
      refine ew_int ?_
      walk_at "op fdiv"
      refine ew_var 1 ?_
      walk_at "op mod"
      show R (.ret _) (up (up O p _) p _)
      rw [up_up]
      refine h _ _ (Int.emod_nonneg _ (by omega)) (Int.emod_lt_of_pos _ (by omega)) ⟨c, _, n + 1, rfl, hc, ?_, ?_, by omega⟩ <;> omega
    · refine sw_nil ?_
      refine sw_cons ?_
      refine s1_set 4 ?_ sc.nd
      refine ew_bin ?_
      refine ew_bin ?_
      refine ew_bin ?_
      refine ew_var 3 ?_
      refine ew_int ?_
      walk_at "op mul"
      refine ew_ix ?_
      refine ew_var 0 ?_
      refine ew_int ?_
      walk_at "ix"
      walk_at "op add"
      refine ew_bin ?_
      refine ew_int ?_
      refine ew_int ?_
      walk_at "op pow"
      walk_at "op mul"
      refine sw_one ?_
      refine s1_ret ?_
      refine ew_bin ?_
      refine ew_bin ?_
      refine ew_bin ?_
      refine ew_var 4 ?_
      refine ew_bin ?_
      refine ew_bin ?_
      refine ew_ix ?_
      refine ew_var 0 ?_
      refine ew_int ?_
      walk_at "ix"
      refine ew_int ?_
      walk_at "op pow"
      refine ew_int ?_
      walk_at "op mul"
      walk_at "op add"
      refine ew_var 3 ?_
      walk_at "op add"
      refine ew_var 1 ?_
      walk_at "op mod"
      show R (.ret _) (up (up O p _) p _)
      rw [up_up]
      refine h _ _ (Int.emod_nonneg _ (by omega)) (Int.emod_lt_of_pos _ (by omega)) ⟨c, _, n + 1, rfl, hc, ?_, ?_, by omega⟩ <;> omega
theorem c_law_take (T : TopOf K mg) (Z : Facts K) : Cal P w K mg base false 1 "_law_take" Take [] := cal_of T Z.d_law_take (by walk_at "b2") fun f fd F => fn_law_take F
theorem box_last {c k o : Int} (hc : 0 ≤ c) (hk : 0 ≤ k) (ho : 0 ≤ o) : isBox (boxC c ((c % 2147483629 * 48271 + 40692 * (k + 11 * o)) % 2147483629 + 1) 0) := ⟨c, _, 0, rfl, hc, by omega, by omega, by omega⟩
theorem box_zero {c k o : Int} (hk : 0 ≤ k) (ho : 0 ≤ o) : isBox (boxC 0 ((c % 2147483629 * 48271 + 40692 * (k + 11 * o)) % 2147483629 + 1) 0) := ⟨0, _, 0, rfl, by omega, by omega, by omega, by omega⟩
theorem at_int {ns : List Int} {k : Int} (h0 : 0 ≤ k) (h : k < (ns.length : Int)) : ∃ n, atI (ns.map Dat.int) k = some (.int n) := by
  obtain ⟨j, rfl⟩ := Int.eq_ofNat_of_zero_le h0
  have hj : j < ns.length := by omega
  exact ⟨ns[j], atI_nat (by rw [List.getElem?_map, List.getElem?_eq_getElem hj]; rfl)⟩
theorem fn_law_box (T : TopOf K mg) (Z : Facts K) {f : Addr} {fd : FuncData} (F : L2.Fun K "_law_box" "_law_box" s_law_box f fd) : Fn P w K mg base false 1 f fd ["_law_script", "_law_k", "_law_own"] BoxS := by
  have sc := sc_law_box
  refine fn_mk F sc_law_box (fun ss O R h => by obtain ⟨_, _, _, rfl, _⟩ := h; rfl) fun cdv A outer s H E ss O R hr hpo h => ?_
  obtain ⟨ns, k, o, rfl, hk, hk2, ho, ho2, h⟩ := h
  -- 0:_law_script 1:_law_k 2:_law_own 3:_law_cell 4:_law_seed
  have tail : ∀ (x : ExK) (c : Int) (ρ : List Slot) (s4 : Slot), 0 ≤ c → (∀ e ρ' O', x e ρ' O' ↔ x e ρ' O') → SW (cxOf (L2.CX P w) P w K mg base N_law_box "_law_box" (defScope s_law_box) f cdv A outer s H E) O [.dat (.fro (ns.map .int)), .dat (.int k), .dat (.int o), .dat (.int c), s4] ((defBody s_law_box).drop 2) x { nx := fun _ O' => R (.ret (.dat .non)) O', rt := fun z O' => R (.ret z) O' } := by
    intro x c ρ s4 hc _
    refine sw_cons ?_
    refine s1_set 4 ?_ sc.nd
    refine ew_bin ?_
    refine ew_bin ?_
    refine ew_bin ?_
    refine ew_bin ?_
    refine ew_bin ?_
    refine ew_var 3 ?_
    refine ew_int ?_
    walk_at "op mod"
    refine ew_int ?_
    walk_at "op mul"
    refine ew_bin ?_
    refine ew_int ?_
    refine ew_bin ?_
    refine ew_var 1 ?_
    refine ew_bin ?_
    refine ew_int ?_
    refine ew_var 2 ?_
    walk_at "op mul"
    walk_at "op add"
    walk_at "op mul"
    walk_at "op add"
    refine ew_int ?_
    walk_at "op mod"
    refine ew_int ?_
    walk_at "op add"
    refine sw_one ?_
    refine s1_ret ?_
    refine ew_lst ?_
    refine aw_cons ?_
    refine ew_ix ?_
    refine ew_lstD ?_
    refine aw_cons ?_
    refine ew_int ?_
    refine aw_cons ?_
    refine ew_var 3 ?_
    refine aw_nil ?_
    refine ⟨[_, _], rfl, by walk_at "few", ?_⟩
    refine ew_callTy (T.no Z.n_int) bt_int ?_
    refine aw_cons ?_
    refine ew_cmp ?_
    refine ew_var 3 ?_
    refine ew_bin ?_
    refine ew_int ?_
    refine ew_int ?_
    walk_at "op pow"
    walk_at "cmp GtE"
    refine aw_nil ?_
    walk_at "cb int"
    by_cases hb : (10 : Int) ^ (18 : Int).toNat ≤ c
    · rw [decide_eq_true hb]
      refine ix_lst (i := 1) (atI_nat (j := 1) rfl) ?_
      refine aw_cons ?_
      refine ew_var 4 ?_
      refine aw_cons ?_
      refine ew_int ?_
      refine aw_nil ?_
      refine ⟨by walk_at "few", fun p hp => ?_⟩
      exact h p _ hp (box_last hc hk ho)
    · rw [decide_eq_false hb]
      refine ix_lst (i := 0) (atI_nat (j := 0) rfl) ?_
      refine aw_cons ?_
      refine ew_var 4 ?_
      refine aw_cons ?_
      refine ew_int ?_
      refine aw_nil ?_
      refine ⟨by walk_at "few", fun p hp => ?_⟩
      exact h p _ hp (box_zero hk ho)
  refine sw_cons ?_
  refine s1_set 3 ?_ sc.nd
  refine ew_bin ?_
  refine ew_bin ?_
  refine ew_bin ?_
  refine ew_int ?_
  refine ew_var 1 ?_
  walk_at "op mul"
  refine ew_bin ?_
  refine ew_int ?_
  refine ew_var 2 ?_
  walk_at "op mul"
  walk_at "op add"
  refine ew_int ?_
  walk_at "op add"
  refine sw_cons ?_
  refine s1_if ?_
  refine tw_cmp ?_
  refine ew_var 1 ?_
  refine ew_callB (T.no Z.n_len) bt_len ?_
  refine aw_cons ?_
  refine ew_var 0 ?_
  refine aw_nil ?_
  walk_at "cb len"
  rw [List.length_map]
  walk_at "cmp Lt"
  refine ⟨_, rfl, fun ht => ?_, fun ht => ?_⟩
  · obtain ⟨n, hn⟩ := at_int hk (of_decide_eq_true ht)
    refine sw_one ?_
    refine s1_set 3 ?_ sc.nd
    refine ew_callB (T.no Z.n_abs) bt_abs ?_
    refine aw_cons ?_
    refine ew_ix ?_
    refine ew_var 0 ?_
    refine ew_var 1 ?_
    refine ix_fro hn ?_
    refine aw_nil ?_
    walk_at "cb abs"
    refine tail _ _ [] _ ?_ (fun _ _ _ => Iff.rfl)
    split <;> omega
  · refine sw_one ?_
    refine s1_if ?_
    refine tw_cmp ?_
    refine ew_callB (T.no Z.n_len) bt_len ?_
    refine aw_cons ?_
    refine ew_var 0 ?_
    refine aw_nil ?_
    walk_at "cb len"
    rw [List.length_map]
    refine ew_int ?_
    walk_at "cmp Gt"
    refine ⟨_, rfl, fun ht2 => ?_, fun ht2 => ?_⟩
    · have hl : 0 < (ns.length : Int) := of_decide_eq_true ht2
      obtain ⟨n, hn⟩ := at_int (ns := ns) (Int.emod_nonneg k (by omega)) (Int.emod_lt_of_pos k hl)
      refine sw_one ?_
      refine s1_set 3 ?_ sc.nd
      refine ew_bin ?_
      refine ew_var 3 ?_
      refine ew_bin ?_
      refine ew_bin ?_
      refine ew_callB (T.no Z.n_abs) bt_abs ?_
      refine aw_cons ?_
      refine ew_ix ?_
      refine ew_var 0 ?_
      refine ew_bin ?_
      refine ew_var 1 ?_
      refine ew_callB (T.no Z.n_len) bt_len ?_
      refine aw_cons ?_
      refine ew_var 0 ?_
      refine aw_nil ?_
      walk_at "cb len"
      rw [List.length_map]
      refine ob_mod hl ?_
      refine ix_fro hn ?_
      refine aw_nil ?_
      walk_at "cb abs"
      refine ew_int ?_
      walk_at "op mod"
      refine ew_int ?_
      walk_at "op mul"
      walk_at "op add"
      refine tail _ _ [] _ ?_ (fun _ _ _ => Iff.rfl)
      have := Int.emod_nonneg (if n < 0 then -n else n) (show (2147483629 : Int) ≠ 0 by decide)
      omega
    · refine sw_nil ?_
      refine tail _ _ [] _ ?_ (fun _ _ _ => Iff.rfl)
      omega
theorem c_law_box (T : TopOf K mg) (Z : Facts K) : Cal P w K mg base false 1 "_law_box" BoxS [] := cal_of T Z.d_law_box (by walk_at "b3") fun f fd F => fn_law_box T Z F
end
local macro_rules | `(tactic| walk_at "cpy") => `(tactic| first | assumption | exact Cpy.keep (Lk.up (isLC_no (by assumption))) (by assumption))
def valDs (t : Int) : List Dat := [.int 0, .int 1, .int (0 - 1), .bl true, .non, .str "", .str "A", .tup [], .tup [.str "close"], .lst [.str "x"], .tup [.str "open", .str "a", .int 3], .int t]
def ValD (d : Dat) : Prop := ∃ t : Int, 0 ≤ t ∧ t < 1000000000 ∧ d ∈ valDs t
theorem val_at {t : Int} (h0 : 0 ≤ t) (h1 : t < 1000000000) {i : Int} (h2 : 0 ≤ i) (h3 : i < 12) : ∃ d, atI (valDs t) i = some d ∧ ValD d := by
  obtain ⟨j, rfl⟩ := Int.eq_ofNat_of_zero_le h2
  have hj : j < (valDs t).length := by show j < 12; omega
  exact ⟨(valDs t)[j], atI_nat (List.getElem?_eq_getElem hj), t, h0, h1, List.getElem_mem hj⟩
def ValueS : SpecT := fun ss O R => ∃ (p : Addr) (b : Cell), ss = [.own p] ∧ O p = some b ∧ isBox b ∧ ∀ (d : Dat) (b' : Cell), ValD d → isBox b' → R (.ret (.dat d)) (up O p b')
def xMade (K : PySem.W.Frag) (e : Dat) : List Dat := [.xcv (He.ga K "NoKinds") [("row", e)],
  .xcv (He.ga K "NoRules") [("row", e)],
  .xcv (He.ga K "NoQuestion") [("at", e)],
  .xcv (He.ga K "NoTree") [("at", e)],
  .xcv (He.ga K "NoBundle") [("at", e)],
  .xcv (He.ga K "TooMany") [("word", e)],
  .xcv (He.ga K "TooGreat") [("product", e)],
  .xcv (He.ga K "UnknownKind") [("kind", e)],
  .xc0 (He.ga K "NoDocument"),
  .xcv (He.ga K "NoEvent") [("event", e)],
  .xcv (He.ga K "Refused") [("event", e)],
  .xcv (He.ga K "RefusedAt") [("at", e)],
  .xc0 (He.ga K "Resting"),
  .xc0 (He.ga K "OtherSpace"),
  .xcv (He.ga K "NoCommand") [("row", e)],
  .xcv (He.ga K "NotPending") [("mark", e), ("question", e)]]
def sorts15 (x : Str) : List Dat := [.bl (decide (x = "NoKinds")), .bl (decide (x = "NoRules")), .bl (decide (x = "NoQuestion")), .bl (decide (x = "NoTree")), .bl (decide (x = "NoBundle")), .bl (decide (x = "TooMany")), .bl (decide (x = "TooGreat")), .bl (decide (x = "UnknownKind")), .bl (decide (x = "NoDocument")), .bl (decide (x = "NoEvent")), .bl (decide (x = "Refused")), .bl (decide (x = "RefusedAt")), .bl (decide (x = "Resting")), .bl (decide (x = "OtherSpace")), .bl (decide (x = "NoCommand"))]
def sorts16 (x : Str) : List Dat := sorts15 x ++ [.bl (decide (x = "NotPending"))]
def SortsS (K : PySem.W.Frag) : SpecT := fun ss O R => ∃ (d : Dat) (x : Str), ss = [.dat d] ∧ xcOf d = some (He.ga K x) ∧ x ∈ xNames ∧ R (.ret (.dat (.lst (sorts16 x)))) O
def MadeXS (K : PySem.W.Frag) : SpecT := fun ss O R => ∃ d e : Dat, ss = [.dat d] ∧ Cpy O 5 d e ∧ R (.ret (.dat (.lst (xMade K e)))) O
def FieldsS : SpecT := fun ss O R => ∃ d e : Dat, ss = [.dat d, .dat e] ∧ Cpy O 5 d d ∧ Cpy O 5 e e ∧ R (.ret (.dat (.tup [.lst (List.replicate 14 d), .lst [e, e]]))) O
def KeptOfS (K : PySem.W.Frag) : SpecT := fun ss O R => ∃ e : Dat, ss = [.dat (.lst (xMade K e))] ∧ R (.ret (.dat (.lst (List.replicate 14 e)))) O
def CaughtS : SpecT := fun ss O R => ∃ d : Dat, ss = [.dat d] ∧ Cpy O 5 d d ∧ R (.ret (.dat (.lst [d, .str "key"]))) O
section
variable {P : Program} {w : World} {K : PySem.W.Frag} {mg : Str → Option Value} {base : Heap}
theorem fn_law_value (T : TopOf K mg) (Z : Facts K) {f : Addr} {fd : FuncData} (F : L2.Fun K "_law_value" "_law_value" s_law_value f fd) : Fn P w K mg base false (2) f fd ["_law_box_here"] (ValueS) := by
  have sc := sc_law_value
  refine fn_mk F sc_law_value (fun ss O R h => by first | (obtain ⟨_, rfl, _⟩ := h; rfl) | (obtain ⟨_, _, rfl, _⟩ := h; rfl) | (obtain ⟨_, _, _, rfl, _⟩ := h; rfl) | (obtain ⟨_, _, _, _, rfl, _⟩ := h; rfl) | (obtain ⟨_, _, _, _, _, rfl, _⟩ := h; rfl) | (obtain ⟨_, _, _, _, _, _, rfl, _⟩ := h; rfl) | (obtain ⟨_, _, _, _, _, _, _, rfl, _⟩ := h; rfl)) fun cdv A outer s H E ss O R hr hpo h => ?_
  obtain ⟨p, b, rfl, hp, hb, h⟩ := h
  -- 0:_law_box_here 1:_law_some
  refine sw_cons ?_
  refine s1_set 1 ?_ sc.nd
  refine ew_lstD ?_
  refine aw_cons ?_
  refine ew_int ?_
  refine aw_cons ?_
  refine ew_int ?_
  refine aw_cons ?_
  refine ew_un ?_
  refine ew_int ?_
  refine ou_neg ?_
  refine aw_cons ?_
  refine ew_bl ?_
  refine aw_cons ?_
  refine ew_non ?_
  refine aw_cons ?_
  refine ew_str ?_
  refine aw_cons ?_
  refine ew_str ?_
  refine aw_cons ?_
  refine ew_tup ?_
  refine aw_nil ?_
  refine ⟨[], rfl, by walk_at "few", ?_⟩
  refine aw_cons ?_
  refine ew_tup ?_
  refine aw_cons ?_
  refine ew_str ?_
  refine aw_nil ?_
  refine ⟨[_], rfl, by walk_at "few", ?_⟩
  refine aw_cons ?_
  refine ew_lstD ?_
  refine aw_cons ?_
  refine ew_str ?_
  refine aw_nil ?_
  refine ⟨[_], rfl, by walk_at "few", ?_⟩
  refine aw_cons ?_
  refine ew_tup ?_
  refine aw_cons ?_
  refine ew_str ?_
  refine aw_cons ?_
  refine ew_str ?_
  refine aw_cons ?_
  refine ew_int ?_
  refine aw_nil ?_
  refine ⟨[_, _, _], rfl, by walk_at "few", ?_⟩
  refine aw_cons ?_
  refine ew_call (c_law_take T Z) hr ?_
  refine aw_cons ?_
  refine ew_var 0 ?_
  refine aw_cons ?_
  refine ew_bin ?_
  refine ew_int ?_
  refine ew_int ?_
  walk_at "op pow"
  refine aw_nil ?_
  refine ⟨p, _, b, rfl, hp, hb, by decide, by decide, fun t b1 h0 h1 hb1 => ?_⟩
  refine aw_nil ?_
  refine ⟨[_, _, _, _, _, _, _, _, _, _, _, _], rfl, by walk_at "few", ?_⟩
  refine sw_one ?_
  refine s1_ret ?_
  refine ew_ix ?_
  refine ew_var 1 ?_
  refine ew_call (c_law_take T Z) hr ?_
  refine aw_cons ?_
  refine ew_var 0 ?_
  refine aw_cons ?_
  refine ew_callB (T.no Z.n_len) bt_len ?_
  refine aw_cons ?_
  refine ew_var 1 ?_
  refine aw_nil ?_
  refine cb_lenL ?_
  refine aw_nil ?_
  refine ⟨p, _, b1, rfl, up_at, hb1, show (1 : Int) ≤ 12 by decide, show (12 : Int) < 1073741824 by decide, fun i b2 g0 g1 hb2 => ?_⟩
  obtain ⟨d, hd, hv⟩ := val_at h0 h1 g0 g1
  refine ix_lst (d := d) hd ?_
  rw [up_up]
  exact h d b2 hv hb2
theorem c_law_value (T : TopOf K mg) (Z : Facts K) : Cal P w K mg base false (2) "_law_value" (ValueS) [] := cal_of T Z.d_law_value (by walk_at "b1") fun f fd F => fn_law_value T Z F
theorem fn_law_sorts (T : TopOf K mg) (Z : Facts K) {f : Addr} {fd : FuncData} (F : L2.Fun K "_law_sorts" "_law_sorts" s_law_sorts f fd) : Fn P w K mg base false (1) f fd ["_law_error"] (SortsS K) := by
  have sc := sc_law_sorts
  refine fn_mk F sc_law_sorts (fun ss O R h => by first | (obtain ⟨_, rfl, _⟩ := h; rfl) | (obtain ⟨_, _, rfl, _⟩ := h; rfl) | (obtain ⟨_, _, _, rfl, _⟩ := h; rfl) | (obtain ⟨_, _, _, _, rfl, _⟩ := h; rfl) | (obtain ⟨_, _, _, _, _, rfl, _⟩ := h; rfl) | (obtain ⟨_, _, _, _, _, _, rfl, _⟩ := h; rfl) | (obtain ⟨_, _, _, _, _, _, _, rfl, _⟩ := h; rfl)) fun cdv A outer s H E ss O R hr hpo h => ?_
  obtain ⟨d, x, rfl, hd, hx, h⟩ := h
  -- 0:_law_error 1:_law_first
  refine sw_cons ?_
  refine s1_set 1 ?_ sc.nd
  refine ew_lst ?_
  refine aw_cons ?_
  refine ew_callB (T.no Z.n_isinstance) bt_isinstance ?_
  refine aw_cons ?_
  refine ew_var 0 ?_
  refine aw_cons ?_
  refine ew_cls (T.is (at_NoKinds Z)) ?_
  refine aw_nil ?_
  refine cb_isX (Z.a_all x hx).ec hd (Z.m_all x hx "NoKinds" mem_NoKinds) (.inl ⟨_, rfl, rfl⟩) ?_
  refine aw_cons ?_
  refine ew_callB (T.no Z.n_isinstance) bt_isinstance ?_
  refine aw_cons ?_
  refine ew_var 0 ?_
  refine aw_cons ?_
  refine ew_cls (T.is (at_NoRules Z)) ?_
  refine aw_nil ?_
  refine cb_isX (Z.a_all x hx).ec hd (Z.m_all x hx "NoRules" mem_NoRules) (.inl ⟨_, rfl, rfl⟩) ?_
  refine aw_cons ?_
  refine ew_callB (T.no Z.n_isinstance) bt_isinstance ?_
  refine aw_cons ?_
  refine ew_var 0 ?_
  refine aw_cons ?_
  refine ew_cls (T.is (at_NoQuestion Z)) ?_
  refine aw_nil ?_
  refine cb_isX (Z.a_all x hx).ec hd (Z.m_all x hx "NoQuestion" mem_NoQuestion) (.inl ⟨_, rfl, rfl⟩) ?_
  refine aw_nil ?_
  refine ⟨Nat.le_of_ble_eq_true rfl, fun q hq => ?_⟩
  refine sw_cons ?_
  refine s1_expr ?_
  refine ew_extend ?_
  refine ew_var 1 ?_
  refine ⟨?_, ?_⟩
  · exact ⟨rfl, _, up_at⟩
  refine ew_lstD ?_
  refine aw_cons ?_
  refine ew_callB (T.no Z.n_isinstance) bt_isinstance ?_
  refine aw_cons ?_
  refine ew_var 0 ?_
  refine aw_cons ?_
  refine ew_cls (T.is (at_NoTree Z)) ?_
  refine aw_nil ?_
  refine cb_isX (Z.a_all x hx).ec hd (Z.m_all x hx "NoTree" mem_NoTree) (.inl ⟨_, rfl, rfl⟩) ?_
  refine aw_cons ?_
  refine ew_callB (T.no Z.n_isinstance) bt_isinstance ?_
  refine aw_cons ?_
  refine ew_var 0 ?_
  refine aw_cons ?_
  refine ew_cls (T.is (at_NoBundle Z)) ?_
  refine aw_nil ?_
  refine cb_isX (Z.a_all x hx).ec hd (Z.m_all x hx "NoBundle" mem_NoBundle) (.inl ⟨_, rfl, rfl⟩) ?_
  refine aw_cons ?_
  refine ew_callB (T.no Z.n_isinstance) bt_isinstance ?_
  refine aw_cons ?_
  refine ew_var 0 ?_
  refine aw_cons ?_
  refine ew_cls (T.is (at_TooMany Z)) ?_
  refine aw_nil ?_
  refine cb_isX (Z.a_all x hx).ec hd (Z.m_all x hx "TooMany" mem_TooMany) (.inl ⟨_, rfl, rfl⟩) ?_
  refine aw_nil ?_
  refine ⟨[_, _, _], rfl, by walk_at "few", ?_⟩
  
  refine mb_extendL up_at (Nat.le_of_ble_eq_true rfl) ?_
  rw [up_up]
  refine sw_cons ?_
  refine s1_expr ?_
  refine ew_extend ?_
  refine ew_var 1 ?_
  refine ⟨?_, ?_⟩
  · exact ⟨rfl, _, up_at⟩
  refine ew_lstD ?_
  refine aw_cons ?_
  refine ew_callB (T.no Z.n_isinstance) bt_isinstance ?_
  refine aw_cons ?_
  refine ew_var 0 ?_
  refine aw_cons ?_
  refine ew_cls (T.is (at_TooGreat Z)) ?_
  refine aw_nil ?_
  refine cb_isX (Z.a_all x hx).ec hd (Z.m_all x hx "TooGreat" mem_TooGreat) (.inl ⟨_, rfl, rfl⟩) ?_
  refine aw_cons ?_
  refine ew_callB (T.no Z.n_isinstance) bt_isinstance ?_
  refine aw_cons ?_
  refine ew_var 0 ?_
  refine aw_cons ?_
  refine ew_cls (T.is (at_UnknownKind Z)) ?_
  refine aw_nil ?_
  refine cb_isX (Z.a_all x hx).ec hd (Z.m_all x hx "UnknownKind" mem_UnknownKind) (.inl ⟨_, rfl, rfl⟩) ?_
  refine aw_cons ?_
  refine ew_callB (T.no Z.n_isinstance) bt_isinstance ?_
  refine aw_cons ?_
  refine ew_var 0 ?_
  refine aw_cons ?_
  refine ew_cls (T.is (at_NoDocument Z)) ?_
  refine aw_nil ?_
  refine cb_isX (Z.a_all x hx).ec hd (Z.m_all x hx "NoDocument" mem_NoDocument) (.inl ⟨_, rfl, rfl⟩) ?_
  refine aw_nil ?_
  refine ⟨[_, _, _], rfl, by walk_at "few", ?_⟩
  
  refine mb_extendL up_at (Nat.le_of_ble_eq_true rfl) ?_
  rw [up_up]
  refine sw_cons ?_
  refine s1_expr ?_
  refine ew_extend ?_
  refine ew_var 1 ?_
  refine ⟨?_, ?_⟩
  · exact ⟨rfl, _, up_at⟩
  refine ew_lstD ?_
  refine aw_cons ?_
  refine ew_callB (T.no Z.n_isinstance) bt_isinstance ?_
  refine aw_cons ?_
  refine ew_var 0 ?_
  refine aw_cons ?_
  refine ew_cls (T.is (at_NoEvent Z)) ?_
  refine aw_nil ?_
  refine cb_isX (Z.a_all x hx).ec hd (Z.m_all x hx "NoEvent" mem_NoEvent) (.inl ⟨_, rfl, rfl⟩) ?_
  refine aw_cons ?_
  refine ew_callB (T.no Z.n_isinstance) bt_isinstance ?_
  refine aw_cons ?_
  refine ew_var 0 ?_
  refine aw_cons ?_
  refine ew_cls (T.is (at_Refused Z)) ?_
  refine aw_nil ?_
  refine cb_isX (Z.a_all x hx).ec hd (Z.m_all x hx "Refused" mem_Refused) (.inl ⟨_, rfl, rfl⟩) ?_
  refine aw_cons ?_
  refine ew_callB (T.no Z.n_isinstance) bt_isinstance ?_
  refine aw_cons ?_
  refine ew_var 0 ?_
  refine aw_cons ?_
  refine ew_cls (T.is (at_RefusedAt Z)) ?_
  refine aw_nil ?_
  refine cb_isX (Z.a_all x hx).ec hd (Z.m_all x hx "RefusedAt" mem_RefusedAt) (.inl ⟨_, rfl, rfl⟩) ?_
  refine aw_nil ?_
  refine ⟨[_, _, _], rfl, by walk_at "few", ?_⟩
  
  refine mb_extendL up_at (Nat.le_of_ble_eq_true rfl) ?_
  rw [up_up]
  refine sw_cons ?_
  refine s1_expr ?_
  refine ew_extend ?_
  refine ew_var 1 ?_
  refine ⟨?_, ?_⟩
  · exact ⟨rfl, _, up_at⟩
  refine ew_lstD ?_
  refine aw_cons ?_
  refine ew_callB (T.no Z.n_isinstance) bt_isinstance ?_
  refine aw_cons ?_
  refine ew_var 0 ?_
  refine aw_cons ?_
  refine ew_cls (T.is (at_Resting Z)) ?_
  refine aw_nil ?_
  refine cb_isX (Z.a_all x hx).ec hd (Z.m_all x hx "Resting" mem_Resting) (.inl ⟨_, rfl, rfl⟩) ?_
  refine aw_cons ?_
  refine ew_callB (T.no Z.n_isinstance) bt_isinstance ?_
  refine aw_cons ?_
  refine ew_var 0 ?_
  refine aw_cons ?_
  refine ew_cls (T.is (at_OtherSpace Z)) ?_
  refine aw_nil ?_
  refine cb_isX (Z.a_all x hx).ec hd (Z.m_all x hx "OtherSpace" mem_OtherSpace) (.inl ⟨_, rfl, rfl⟩) ?_
  refine aw_cons ?_
  refine ew_callB (T.no Z.n_isinstance) bt_isinstance ?_
  refine aw_cons ?_
  refine ew_var 0 ?_
  refine aw_cons ?_
  refine ew_cls (T.is (at_NoCommand Z)) ?_
  refine aw_nil ?_
  refine cb_isX (Z.a_all x hx).ec hd (Z.m_all x hx "NoCommand" mem_NoCommand) (.inl ⟨_, rfl, rfl⟩) ?_
  refine aw_nil ?_
  refine ⟨[_, _, _], rfl, by walk_at "few", ?_⟩
  
  refine mb_extendL up_at (Nat.le_of_ble_eq_true rfl) ?_
  rw [up_up]
  refine sw_one ?_
  refine s1_ret ?_
  refine ew_bin ?_
  refine ew_frz ?_
  refine ew_var 1 ?_
  refine ⟨q, sorts15 x, rfl, by rw [up_at]; rfl, ?_⟩
  rw [dn_up hq]
  refine ew_lstD ?_
  refine aw_cons ?_
  refine ew_callB (T.no Z.n_isinstance) bt_isinstance ?_
  refine aw_cons ?_
  refine ew_var 0 ?_
  refine aw_cons ?_
  refine ew_cls (T.is (at_NotPending Z)) ?_
  refine aw_nil ?_
  refine cb_isX (Z.a_all x hx).ec hd (Z.m_all x hx "NotPending" mem_NotPending) (.inl ⟨_, rfl, rfl⟩) ?_
  refine aw_nil ?_
  refine ⟨[_], rfl, by walk_at "few", ?_⟩
  refine ob_catL (Nat.le_of_ble_eq_true rfl) ?_
  exact h
theorem c_law_sorts (T : TopOf K mg) (Z : Facts K) : Cal P w K mg base false (1) "_law_sorts" (SortsS K) [] := cal_of T Z.d_law_sorts (by walk_at "b1") fun f fd F => fn_law_sorts T Z F
theorem fn_law_made (T : TopOf K mg) (Z : Facts K) {f : Addr} {fd : FuncData} (F : L2.Fun K "_law_made" "_law_made" s_law_made f fd) : Fn P w K mg base false (9) f fd ["_law_value_here"] (MadeXS K) := by
  have sc := sc_law_made
  refine fn_mk F sc_law_made (fun ss O R h => by first | (obtain ⟨_, rfl, _⟩ := h; rfl) | (obtain ⟨_, _, rfl, _⟩ := h; rfl) | (obtain ⟨_, _, _, rfl, _⟩ := h; rfl) | (obtain ⟨_, _, _, _, rfl, _⟩ := h; rfl) | (obtain ⟨_, _, _, _, _, rfl, _⟩ := h; rfl) | (obtain ⟨_, _, _, _, _, _, rfl, _⟩ := h; rfl) | (obtain ⟨_, _, _, _, _, _, _, rfl, _⟩ := h; rfl)) fun cdv A outer s H E ss O R hr hpo h => ?_
  obtain ⟨d, e, rfl, hc, h⟩ := h
  -- 0:_law_value_here 1:_law_found
  refine sw_cons ?_
  refine s1_set 1 ?_ sc.nd
  refine ew_lst ?_
  refine aw_cons ?_
  refine ew_x1 (xb_NoKinds T Z) (T.is (at_NoKinds Z)) hr ?_
  refine aw_cons ?_
  refine ew_var 0 ?_
  refine aw_nil ?_
  refine ⟨_, _, rfl, by walk_at "cpy", ?_⟩
  refine aw_cons ?_
  refine ew_x1 (xb_NoRules T Z) (T.is (at_NoRules Z)) hr ?_
  refine aw_cons ?_
  refine ew_var 0 ?_
  refine aw_nil ?_
  refine ⟨_, _, rfl, by walk_at "cpy", ?_⟩
  refine aw_cons ?_
  refine ew_x1 (xb_NoQuestion T Z) (T.is (at_NoQuestion Z)) hr ?_
  refine aw_cons ?_
  refine ew_var 0 ?_
  refine aw_nil ?_
  refine ⟨_, _, rfl, by walk_at "cpy", ?_⟩
  refine aw_cons ?_
  refine ew_x1 (xb_NoTree T Z) (T.is (at_NoTree Z)) hr ?_
  refine aw_cons ?_
  refine ew_var 0 ?_
  refine aw_nil ?_
  refine ⟨_, _, rfl, by walk_at "cpy", ?_⟩
  refine aw_cons ?_
  refine ew_x1 (xb_NoBundle T Z) (T.is (at_NoBundle Z)) hr ?_
  refine aw_cons ?_
  refine ew_var 0 ?_
  refine aw_nil ?_
  refine ⟨_, _, rfl, by walk_at "cpy", ?_⟩
  refine aw_cons ?_
  refine ew_x1 (xb_TooMany T Z) (T.is (at_TooMany Z)) hr ?_
  refine aw_cons ?_
  refine ew_var 0 ?_
  refine aw_nil ?_
  refine ⟨_, _, rfl, by walk_at "cpy", ?_⟩
  refine aw_nil ?_
  refine ⟨Nat.le_of_ble_eq_true rfl, fun q hq => ?_⟩
  refine sw_cons ?_
  refine s1_expr ?_
  refine ew_extend ?_
  refine ew_var 1 ?_
  refine ⟨?_, ?_⟩
  · exact ⟨rfl, _, up_at⟩
  refine ew_lstD ?_
  refine aw_cons ?_
  refine ew_x1 (xb_TooGreat T Z) (T.is (at_TooGreat Z)) hr ?_
  refine aw_cons ?_
  refine ew_var 0 ?_
  refine aw_nil ?_
  refine ⟨_, _, rfl, by walk_at "cpy", ?_⟩
  refine aw_cons ?_
  refine ew_x1 (xb_UnknownKind T Z) (T.is (at_UnknownKind Z)) hr ?_
  refine aw_cons ?_
  refine ew_var 0 ?_
  refine aw_nil ?_
  refine ⟨_, _, rfl, by walk_at "cpy", ?_⟩
  refine aw_cons ?_
  refine ew_x0 (xb_val (Z.i_NoDocument).oex) iniF_val (Z.i_NoDocument).ini (T.is (at_NoDocument Z)) ?_
  refine aw_cons ?_
  refine ew_x1 (xb_NoEvent T Z) (T.is (at_NoEvent Z)) hr ?_
  refine aw_cons ?_
  refine ew_var 0 ?_
  refine aw_nil ?_
  refine ⟨_, _, rfl, by walk_at "cpy", ?_⟩
  refine aw_cons ?_
  refine ew_x1 (xb_Refused T Z) (T.is (at_Refused Z)) hr ?_
  refine aw_cons ?_
  refine ew_var 0 ?_
  refine aw_nil ?_
  refine ⟨_, _, rfl, by walk_at "cpy", ?_⟩
  refine aw_cons ?_
  refine ew_x1 (xb_RefusedAt T Z) (T.is (at_RefusedAt Z)) hr ?_
  refine aw_cons ?_
  refine ew_var 0 ?_
  refine aw_nil ?_
  refine ⟨_, _, rfl, by walk_at "cpy", ?_⟩
  refine aw_nil ?_
  refine ⟨[_, _, _, _, _, _], rfl, by walk_at "few", ?_⟩
  
  refine mb_extendL up_at (Nat.le_of_ble_eq_true rfl) ?_
  rw [up_up]
  refine sw_one ?_
  refine s1_ret ?_
  refine ew_bin ?_
  refine ew_frz ?_
  refine ew_var 1 ?_
  refine ⟨q, (xMade K e).take 12, rfl, by rw [up_at]; rfl, ?_⟩
  rw [dn_up hq]
  refine ew_lstD ?_
  refine aw_cons ?_
  refine ew_x0 (xb_val (Z.i_Resting).oex) iniF_val (Z.i_Resting).ini (T.is (at_Resting Z)) ?_
  refine aw_cons ?_
  refine ew_x0 (xb_val (Z.i_OtherSpace).oex) iniF_val (Z.i_OtherSpace).ini (T.is (at_OtherSpace Z)) ?_
  refine aw_cons ?_
  refine ew_x1 (xb_NoCommand T Z) (T.is (at_NoCommand Z)) hr ?_
  refine aw_cons ?_
  refine ew_var 0 ?_
  refine aw_nil ?_
  refine ⟨_, _, rfl, by walk_at "cpy", ?_⟩
  refine aw_cons ?_
  refine ew_x2 (xb_NotPending T Z) (T.is (at_NotPending Z)) hr ?_
  refine aw_cons ?_
  refine ew_var 0 ?_
  refine aw_cons ?_
  refine ew_var 0 ?_
  refine aw_nil ?_
  refine ⟨_, _, _, _, rfl, by walk_at "cpy", by walk_at "cpy", ?_⟩
  refine aw_nil ?_
  refine ⟨[_, _, _, _], rfl, by walk_at "few", ?_⟩
  refine ob_catL (Nat.le_of_ble_eq_true rfl) ?_
  exact h
theorem c_law_made (T : TopOf K mg) (Z : Facts K) : Cal P w K mg base false (9) "_law_made" (MadeXS K) [] := cal_of T Z.d_law_made (by walk_at "b1") fun f fd F => fn_law_made T Z F
theorem fn_law_fields (T : TopOf K mg) (Z : Facts K) {f : Addr} {fd : FuncData} (F : L2.Fun K "_law_fields" "_law_fields" s_law_fields f fd) : Fn P w K mg base false (9) f fd ["_law_value_here", "_law_other"] (FieldsS) := by
  have sc := sc_law_fields
  refine fn_mk F sc_law_fields (fun ss O R h => by first | (obtain ⟨_, rfl, _⟩ := h; rfl) | (obtain ⟨_, _, rfl, _⟩ := h; rfl) | (obtain ⟨_, _, _, rfl, _⟩ := h; rfl) | (obtain ⟨_, _, _, _, rfl, _⟩ := h; rfl) | (obtain ⟨_, _, _, _, _, rfl, _⟩ := h; rfl) | (obtain ⟨_, _, _, _, _, _, rfl, _⟩ := h; rfl) | (obtain ⟨_, _, _, _, _, _, _, rfl, _⟩ := h; rfl)) fun cdv A outer s H E ss O R hr hpo h => ?_
  obtain ⟨d, e, rfl, hc, he, h⟩ := h
  -- 0:_law_value_here 1:_law_other 2:_law_found 3:_law_one 4:_law_two
  refine sw_cons ?_
  refine s1_set 2 ?_ sc.nd
  refine ew_lst ?_
  refine aw_cons ?_
  refine ew_xfld ?_
  refine ew_x1 (xb_NoKinds T Z) (T.is (at_NoKinds Z)) hr ?_
  refine aw_cons ?_
  refine ew_var 0 ?_
  refine aw_nil ?_
  refine ⟨_, _, rfl, by walk_at "cpy", ?_⟩
  refine ⟨_, _, _, rfl, (xat_NoKinds Z).xf, no_NoKinds_row Z, rfl, ?_⟩
  refine aw_cons ?_
  refine ew_xfld ?_
  refine ew_x1 (xb_NoRules T Z) (T.is (at_NoRules Z)) hr ?_
  refine aw_cons ?_
  refine ew_var 0 ?_
  refine aw_nil ?_
  refine ⟨_, _, rfl, by walk_at "cpy", ?_⟩
  refine ⟨_, _, _, rfl, (xat_NoRules Z).xf, no_NoRules_row Z, rfl, ?_⟩
  refine aw_cons ?_
  refine ew_xfld ?_
  refine ew_x1 (xb_NoQuestion T Z) (T.is (at_NoQuestion Z)) hr ?_
  refine aw_cons ?_
  refine ew_var 0 ?_
  refine aw_nil ?_
  refine ⟨_, _, rfl, by walk_at "cpy", ?_⟩
  refine ⟨_, _, _, rfl, (xat_NoQuestion Z).xf, no_NoQuestion_at Z, rfl, ?_⟩
  refine aw_cons ?_
  refine ew_xfld ?_
  refine ew_x1 (xb_NoTree T Z) (T.is (at_NoTree Z)) hr ?_
  refine aw_cons ?_
  refine ew_var 0 ?_
  refine aw_nil ?_
  refine ⟨_, _, rfl, by walk_at "cpy", ?_⟩
  refine ⟨_, _, _, rfl, (xat_NoTree Z).xf, no_NoTree_at Z, rfl, ?_⟩
  refine aw_cons ?_
  refine ew_xfld ?_
  refine ew_x1 (xb_NoBundle T Z) (T.is (at_NoBundle Z)) hr ?_
  refine aw_cons ?_
  refine ew_var 0 ?_
  refine aw_nil ?_
  refine ⟨_, _, rfl, by walk_at "cpy", ?_⟩
  refine ⟨_, _, _, rfl, (xat_NoBundle Z).xf, no_NoBundle_at Z, rfl, ?_⟩
  refine aw_nil ?_
  refine ⟨Nat.le_of_ble_eq_true rfl, fun q hq => ?_⟩
  refine sw_cons ?_
  refine s1_expr ?_
  refine ew_extend ?_
  refine ew_var 2 ?_
  refine ⟨?_, ?_⟩
  · exact ⟨rfl, _, up_at⟩
  refine ew_lstD ?_
  refine aw_cons ?_
  refine ew_xfld ?_
  refine ew_x1 (xb_TooMany T Z) (T.is (at_TooMany Z)) hr ?_
  refine aw_cons ?_
  refine ew_var 0 ?_
  refine aw_nil ?_
  refine ⟨_, _, rfl, by walk_at "cpy", ?_⟩
  refine ⟨_, _, _, rfl, (xat_TooMany Z).xf, no_TooMany_word Z, rfl, ?_⟩
  refine aw_cons ?_
  refine ew_xfld ?_
  refine ew_x1 (xb_TooGreat T Z) (T.is (at_TooGreat Z)) hr ?_
  refine aw_cons ?_
  refine ew_var 0 ?_
  refine aw_nil ?_
  refine ⟨_, _, rfl, by walk_at "cpy", ?_⟩
  refine ⟨_, _, _, rfl, (xat_TooGreat Z).xf, no_TooGreat_product Z, rfl, ?_⟩
  refine aw_cons ?_
  refine ew_xfld ?_
  refine ew_x1 (xb_UnknownKind T Z) (T.is (at_UnknownKind Z)) hr ?_
  refine aw_cons ?_
  refine ew_var 0 ?_
  refine aw_nil ?_
  refine ⟨_, _, rfl, by walk_at "cpy", ?_⟩
  refine ⟨_, _, _, rfl, (xat_UnknownKind Z).xf, no_UnknownKind_kind Z, rfl, ?_⟩
  refine aw_cons ?_
  refine ew_xfld ?_
  refine ew_x1 (xb_NoEvent T Z) (T.is (at_NoEvent Z)) hr ?_
  refine aw_cons ?_
  refine ew_var 0 ?_
  refine aw_nil ?_
  refine ⟨_, _, rfl, by walk_at "cpy", ?_⟩
  refine ⟨_, _, _, rfl, (xat_NoEvent Z).xf, no_NoEvent_event Z, rfl, ?_⟩
  refine aw_nil ?_
  refine ⟨[_, _, _, _], rfl, by walk_at "few", ?_⟩
  
  refine mb_extendL up_at (Nat.le_of_ble_eq_true rfl) ?_
  rw [up_up]
  refine sw_cons ?_
  refine s1_expr ?_
  refine ew_extend ?_
  refine ew_var 2 ?_
  refine ⟨?_, ?_⟩
  · exact ⟨rfl, _, up_at⟩
  refine ew_lstD ?_
  refine aw_cons ?_
  refine ew_xfld ?_
  refine ew_x1 (xb_Refused T Z) (T.is (at_Refused Z)) hr ?_
  refine aw_cons ?_
  refine ew_var 0 ?_
  refine aw_nil ?_
  refine ⟨_, _, rfl, by walk_at "cpy", ?_⟩
  refine ⟨_, _, _, rfl, (xat_Refused Z).xf, no_Refused_event Z, rfl, ?_⟩
  refine aw_cons ?_
  refine ew_xfld ?_
  refine ew_x1 (xb_RefusedAt T Z) (T.is (at_RefusedAt Z)) hr ?_
  refine aw_cons ?_
  refine ew_var 0 ?_
  refine aw_nil ?_
  refine ⟨_, _, rfl, by walk_at "cpy", ?_⟩
  refine ⟨_, _, _, rfl, (xat_RefusedAt Z).xf, no_RefusedAt_at Z, rfl, ?_⟩
  refine aw_cons ?_
  refine ew_xfld ?_
  refine ew_x1 (xb_NoCommand T Z) (T.is (at_NoCommand Z)) hr ?_
  refine aw_cons ?_
  refine ew_var 0 ?_
  refine aw_nil ?_
  refine ⟨_, _, rfl, by walk_at "cpy", ?_⟩
  refine ⟨_, _, _, rfl, (xat_NoCommand Z).xf, no_NoCommand_row Z, rfl, ?_⟩
  refine aw_nil ?_
  refine ⟨[_, _, _], rfl, by walk_at "few", ?_⟩
  
  refine mb_extendL up_at (Nat.le_of_ble_eq_true rfl) ?_
  rw [up_up]
  refine sw_cons ?_
  refine s1_par 3 4 ?_ sc.nd
  refine aw_cons ?_
  refine ew_x2 (xb_NotPending T Z) (T.is (at_NotPending Z)) hr ?_
  refine aw_cons ?_
  refine ew_var 0 ?_
  refine aw_cons ?_
  refine ew_var 1 ?_
  refine aw_nil ?_
  refine ⟨_, _, _, _, rfl, by walk_at "cpy", by walk_at "cpy", ?_⟩
  refine aw_cons ?_
  refine ew_x2 (xb_NotPending T Z) (T.is (at_NotPending Z)) hr ?_
  refine aw_cons ?_
  refine ew_var 1 ?_
  refine aw_cons ?_
  refine ew_var 0 ?_
  refine aw_nil ?_
  refine ⟨_, _, _, _, rfl, by walk_at "cpy", by walk_at "cpy", ?_⟩
  refine aw_nil ?_
  refine ⟨_, _, rfl, ?_⟩
  refine sw_one ?_
  refine s1_ret ?_
  refine ew_tup ?_
  refine aw_cons ?_
  refine ew_bin ?_
  refine ew_frz ?_
  refine ew_var 2 ?_
  refine ⟨q, List.replicate 12 d, rfl, by rw [up_at]; rfl, ?_⟩
  rw [dn_up hq]
  refine ew_lstD ?_
  refine aw_cons ?_
  refine ew_xfld ?_
  refine ew_var 3 ?_
  refine ⟨_, _, _, rfl, (xat_NotPending Z).xf, no_NotPending_question Z, rfl, ?_⟩
  refine aw_cons ?_
  refine ew_xfld ?_
  refine ew_var 4 ?_
  refine ⟨_, _, _, rfl, (xat_NotPending Z).xf, no_NotPending_mark Z, rfl, ?_⟩
  refine aw_nil ?_
  refine ⟨[_, _], rfl, by walk_at "few", ?_⟩
  refine ob_catL (Nat.le_of_ble_eq_true rfl) ?_
  refine aw_cons ?_
  refine ew_lstD ?_
  refine aw_cons ?_
  refine ew_xfld ?_
  refine ew_var 4 ?_
  refine ⟨_, _, _, rfl, (xat_NotPending Z).xf, no_NotPending_question Z, rfl, ?_⟩
  refine aw_cons ?_
  refine ew_xfld ?_
  refine ew_var 3 ?_
  refine ⟨_, _, _, rfl, (xat_NotPending Z).xf, no_NotPending_mark Z, rfl, ?_⟩
  refine aw_nil ?_
  refine ⟨[_, _], rfl, by walk_at "few", ?_⟩
  refine aw_nil ?_
  refine ⟨[_, _], rfl, by walk_at "few", ?_⟩
  exact h
theorem c_law_fields (T : TopOf K mg) (Z : Facts K) : Cal P w K mg base false (9) "_law_fields" (FieldsS) [] := cal_of T Z.d_law_fields (by walk_at "b2") fun f fd F => fn_law_fields T Z F
theorem fn_law_kept_of (T : TopOf K mg) (Z : Facts K) {f : Addr} {fd : FuncData} (F : L2.Fun K "_law_kept_of" "_law_kept_of" s_law_kept_of f fd) : Fn P w K mg base false (1) f fd ["_law_errors"] (KeptOfS K) := by
  have sc := sc_law_kept_of
  refine fn_mk F sc_law_kept_of (fun ss O R h => by first | (obtain ⟨_, rfl, _⟩ := h; rfl) | (obtain ⟨_, _, rfl, _⟩ := h; rfl) | (obtain ⟨_, _, _, rfl, _⟩ := h; rfl) | (obtain ⟨_, _, _, _, rfl, _⟩ := h; rfl) | (obtain ⟨_, _, _, _, _, rfl, _⟩ := h; rfl) | (obtain ⟨_, _, _, _, _, _, rfl, _⟩ := h; rfl) | (obtain ⟨_, _, _, _, _, _, _, rfl, _⟩ := h; rfl)) fun cdv A outer s H E ss O R hr hpo h => ?_
  obtain ⟨e, rfl, h⟩ := h
  -- 0:_law_errors 1:_law_found
  refine sw_cons ?_
  refine s1_set 1 ?_ sc.nd
  refine ew_lst ?_
  refine aw_cons ?_
  refine ew_xfld ?_
  refine ew_ix ?_
  refine ew_var 0 ?_
  refine ew_int ?_
  walk_at "ix"
  refine ⟨_, _, _, rfl, (xat_NoKinds Z).xf, no_NoKinds_row Z, rfl, ?_⟩
  refine aw_cons ?_
  refine ew_xfld ?_
  refine ew_ix ?_
  refine ew_var 0 ?_
  refine ew_int ?_
  walk_at "ix"
  refine ⟨_, _, _, rfl, (xat_NoRules Z).xf, no_NoRules_row Z, rfl, ?_⟩
  refine aw_cons ?_
  refine ew_xfld ?_
  refine ew_ix ?_
  refine ew_var 0 ?_
  refine ew_int ?_
  walk_at "ix"
  refine ⟨_, _, _, rfl, (xat_NoQuestion Z).xf, no_NoQuestion_at Z, rfl, ?_⟩
  refine aw_cons ?_
  refine ew_xfld ?_
  refine ew_ix ?_
  refine ew_var 0 ?_
  refine ew_int ?_
  walk_at "ix"
  refine ⟨_, _, _, rfl, (xat_NoTree Z).xf, no_NoTree_at Z, rfl, ?_⟩
  refine aw_cons ?_
  refine ew_xfld ?_
  refine ew_ix ?_
  refine ew_var 0 ?_
  refine ew_int ?_
  walk_at "ix"
  refine ⟨_, _, _, rfl, (xat_NoBundle Z).xf, no_NoBundle_at Z, rfl, ?_⟩
  refine aw_cons ?_
  refine ew_xfld ?_
  refine ew_ix ?_
  refine ew_var 0 ?_
  refine ew_int ?_
  walk_at "ix"
  refine ⟨_, _, _, rfl, (xat_TooMany Z).xf, no_TooMany_word Z, rfl, ?_⟩
  refine aw_nil ?_
  refine ⟨Nat.le_of_ble_eq_true rfl, fun q hq => ?_⟩
  refine sw_cons ?_
  refine s1_expr ?_
  refine ew_extend ?_
  refine ew_var 1 ?_
  refine ⟨?_, ?_⟩
  · exact ⟨rfl, _, up_at⟩
  refine ew_lstD ?_
  refine aw_cons ?_
  refine ew_xfld ?_
  refine ew_ix ?_
  refine ew_var 0 ?_
  refine ew_int ?_
  walk_at "ix"
  refine ⟨_, _, _, rfl, (xat_TooGreat Z).xf, no_TooGreat_product Z, rfl, ?_⟩
  refine aw_cons ?_
  refine ew_xfld ?_
  refine ew_ix ?_
  refine ew_var 0 ?_
  refine ew_int ?_
  walk_at "ix"
  refine ⟨_, _, _, rfl, (xat_UnknownKind Z).xf, no_UnknownKind_kind Z, rfl, ?_⟩
  refine aw_cons ?_
  refine ew_xfld ?_
  refine ew_ix ?_
  refine ew_var 0 ?_
  refine ew_int ?_
  walk_at "ix"
  refine ⟨_, _, _, rfl, (xat_NoEvent Z).xf, no_NoEvent_event Z, rfl, ?_⟩
  refine aw_cons ?_
  refine ew_xfld ?_
  refine ew_ix ?_
  refine ew_var 0 ?_
  refine ew_int ?_
  walk_at "ix"
  refine ⟨_, _, _, rfl, (xat_Refused Z).xf, no_Refused_event Z, rfl, ?_⟩
  refine aw_cons ?_
  refine ew_xfld ?_
  refine ew_ix ?_
  refine ew_var 0 ?_
  refine ew_int ?_
  walk_at "ix"
  refine ⟨_, _, _, rfl, (xat_RefusedAt Z).xf, no_RefusedAt_at Z, rfl, ?_⟩
  refine aw_nil ?_
  refine ⟨[_, _, _, _, _], rfl, by walk_at "few", ?_⟩
  
  refine mb_extendL up_at (Nat.le_of_ble_eq_true rfl) ?_
  rw [up_up]
  refine sw_one ?_
  refine s1_ret ?_
  refine ew_bin ?_
  refine ew_frz ?_
  refine ew_var 1 ?_
  refine ⟨q, List.replicate 11 e, rfl, by rw [up_at]; rfl, ?_⟩
  rw [dn_up hq]
  refine ew_lstD ?_
  refine aw_cons ?_
  refine ew_xfld ?_
  refine ew_ix ?_
  refine ew_var 0 ?_
  refine ew_int ?_
  walk_at "ix"
  refine ⟨_, _, _, rfl, (xat_NoCommand Z).xf, no_NoCommand_row Z, rfl, ?_⟩
  refine aw_cons ?_
  refine ew_xfld ?_
  refine ew_ix ?_
  refine ew_var 0 ?_
  refine ew_int ?_
  walk_at "ix"
  refine ⟨_, _, _, rfl, (xat_NotPending Z).xf, no_NotPending_question Z, rfl, ?_⟩
  refine aw_cons ?_
  refine ew_xfld ?_
  refine ew_ix ?_
  refine ew_var 0 ?_
  refine ew_int ?_
  walk_at "ix"
  refine ⟨_, _, _, rfl, (xat_NotPending Z).xf, no_NotPending_mark Z, rfl, ?_⟩
  refine aw_nil ?_
  refine ⟨[_, _, _], rfl, by walk_at "few", ?_⟩
  refine ob_catL (Nat.le_of_ble_eq_true rfl) ?_
  exact h
theorem c_law_kept_of (T : TopOf K mg) (Z : Facts K) : Cal P w K mg base false (1) "_law_kept_of" (KeptOfS K) [] := cal_of T Z.d_law_kept_of (by walk_at "b1") fun f fd F => fn_law_kept_of T Z F
end
structure Fw (v : Dat) : Prop where
  fine : fine v = true
  dep : dep v ≤ 1
  wgt : wgt v ≤ 41
  copy : ∀ O, Cpy O 2 v v
theorem fw_leaf {v : Dat} (h : Kn.fine v = true) (h1 : Kn.dep v ≤ 1) (h2 : Kn.wgt v ≤ 41) (h3 : leafD v = true) : Fw v := ⟨h, h1, h2, fun O => .leaf h3⟩
theorem fw_val {v : Dat} (h : ValD v) : Fw v := by
  obtain ⟨t, h0, h1, hm⟩ := h
  unfold valDs at hm
  simp only [List.mem_cons, List.not_mem_nil, or_false] at hm
  rcases hm with rfl | rfl | rfl | rfl | rfl | rfl | rfl | rfl | rfl | rfl | rfl | rfl
  · exact fw_leaf (by decide +kernel) (by decide +kernel) (by decide +kernel) rfl
  · exact fw_leaf (by decide +kernel) (by decide +kernel) (by decide +kernel) rfl
  · exact fw_leaf (by decide +kernel) (by decide +kernel) (by decide +kernel) rfl
  · exact fw_leaf (by decide +kernel) (by decide +kernel) (by decide +kernel) rfl
  · exact fw_leaf (by decide +kernel) (by decide +kernel) (by decide +kernel) rfl
  · exact fw_leaf (by decide +kernel) (by decide +kernel) (by decide +kernel) rfl
  · exact fw_leaf (by decide +kernel) (by decide +kernel) (by decide +kernel) rfl
  · exact ⟨by decide +kernel, by decide +kernel, by decide +kernel, fun O => (Cpy.leaves (n := 0) rfl (Nat.le_of_ble_eq_true rfl)).1⟩
  · exact ⟨by decide +kernel, by decide +kernel, by decide +kernel, fun O => (Cpy.leaves (n := 0) rfl (Nat.le_of_ble_eq_true rfl)).1⟩
  · exact ⟨by decide +kernel, by decide +kernel, by decide +kernel, fun O => (Cpy.leaves (n := 0) rfl (Nat.le_of_ble_eq_true rfl)).2⟩
  · exact ⟨by decide +kernel, by decide +kernel, by decide +kernel, fun O => (Cpy.leaves (n := 0) rfl (Nat.le_of_ble_eq_true rfl)).1⟩
  · exact fw_leaf (fine_nat h0 (by omega)) (show 0 ≤ 1 by decide) (wgt_nat h0 (by omega)) rfl
theorem rep_two {v : Dat} (h : Fw v) : reprOk (.lst [v, .str "key"]) = true := by
  refine reprOk_of ?_ ?_ ?_
  · show (Kn.fine v && (Kn.fine (.str "key") && true)) = true
    rw [h.fine]; decide +kernel
  · show max (Kn.dep v) (max (Kn.dep (.str "key")) 0) + 1 ≤ 64
    have := h.dep
    have : Kn.dep (.str "key") = 0 := rfl
    omega
  · show Kn.wgt v + 1 + (Kn.wgt (.str "key") + 1 + 0) ≤ 2 ^ 20
    have := h.wgt
    have : Kn.wgt (.str "key") ≤ 100 := by decide +kernel
    omega
theorem rep_one {v : Dat} (h : Fw v) : reprOk (.lst [v]) = true := by
  refine reprOk_of ?_ ?_ ?_
  · show (Kn.fine v && true) = true
    rw [h.fine]; rfl
  · show max (Kn.dep v) 0 + 1 ≤ 64
    have := h.dep
    omega
  · show Kn.wgt v + 1 + 0 ≤ 2 ^ 20
    have := h.wgt
    omega
def dueD (v : Dat) : Dat := .tup [.lst [v], .tup [.str "open", .lst [v]]]
theorem rep_due {v : Dat} (h : Fw v) : reprOk (.tup [.lst [v], .tup [.str "open", .lst [v]]]) = true := by
  refine reprOk_of ?_ ?_ ?_
  · show ((Kn.fine v && true) && ((Kn.fine (.str "open") && ((Kn.fine v && true) && true)) && true)) = true
    rw [h.fine]; decide +kernel
  · show max (max (Kn.dep v) 0 + 1) (max (max (Kn.dep (.str "open")) (max (max (Kn.dep v) 0 + 1) 0) + 1) 0) + 1 ≤ 64
    have := h.dep
    have : Kn.dep (.str "open") = 0 := rfl
    omega
  · show (Kn.wgt v + 1 + 0) + 1 + ((Kn.wgt (.str "open") + 1 + ((Kn.wgt v + 1 + 0) + 1 + 0)) + 1 + 0) ≤ 2 ^ 20
    have := h.wgt
    have : Kn.wgt (.str "open") ≤ 100 := by decide +kernel
    omega
theorem rep_many {v : Dat} (h : Fw v) {n : Nat} (hn : n ≤ 20) : reprOk (.lst (List.replicate n v)) = true := by
  have e : List.replicate n v = (List.replicate n ()).map fun _ => v := by rw [List.map_replicate]
  rw [e]
  refine reprOk_of (fines_map fun _ _ => h.fine) ?_ ?_
  · have := deps_map (f := fun _ : Unit => v) (l := List.replicate n ()) (b := 1) fun _ _ => h.dep
    rw [dep_lst]; omega
  · have := wgts_map (f := fun _ : Unit => v) (l := List.replicate n ()) (b := 41) fun _ _ => h.wgt
    rw [List.length_replicate] at this
    rw [wgt_lst]
    have h2 : (2 : Nat) ^ 20 = 1048576 := by decide
    omega
theorem made_at {K : PySem.W.Frag} {e d : Dat} {i : Nat} (h : (xMade K e)[i]? = some d) : ∃ x, xNames[i]? = some x ∧ x ∈ xNames ∧ xcOf d = some (He.ga K x) := by
  have main : ∀ x, xNames[i]? = some x → xcOf d = some (He.ga K x) → ∃ x, xNames[i]? = some x ∧ x ∈ xNames ∧ xcOf d = some (He.ga K x) := fun x h1 h2 => ⟨x, h1, List.mem_of_getElem? h1, h2⟩
  match i, h with
  | 0, h => cases h; exact main _ rfl rfl
  | 1, h => cases h; exact main _ rfl rfl
  | 2, h => cases h; exact main _ rfl rfl
  | 3, h => cases h; exact main _ rfl rfl
  | 4, h => cases h; exact main _ rfl rfl
  | 5, h => cases h; exact main _ rfl rfl
  | 6, h => cases h; exact main _ rfl rfl
  | 7, h => cases h; exact main _ rfl rfl
  | 8, h => cases h; exact main _ rfl rfl
  | 9, h => cases h; exact main _ rfl rfl
  | 10, h => cases h; exact main _ rfl rfl
  | 11, h => cases h; exact main _ rfl rfl
  | 12, h => cases h; exact main _ rfl rfl
  | 13, h => cases h; exact main _ rfl rfl
  | 14, h => cases h; exact main _ rfl rfl
  | 15, h => cases h; exact main _ rfl rfl
  | n + 16, h => cases h
def spotsD (i : Nat) : List Dat := (List.range 16).map fun j : Nat => .bl (decide ((0 : Int) + (j : Int) = (i : Int)))
theorem sorts_at {x : Str} {i : Nat} (h : xNames[i]? = some x) : eqD (.lst (sorts16 x)) (.lst (spotsD i)) = true ∧ isKeptN x = decide ((i : Int) < 16 - 1) ∧ isKeyN x = !decide ((i : Int) < 16 - 1) ∧ i < 16 := by
  match i, h with
  | 0, h => cases h; decide +kernel
  | 1, h => cases h; decide +kernel
  | 2, h => cases h; decide +kernel
  | 3, h => cases h; decide +kernel
  | 4, h => cases h; decide +kernel
  | 5, h => cases h; decide +kernel
  | 6, h => cases h; decide +kernel
  | 7, h => cases h; decide +kernel
  | 8, h => cases h; decide +kernel
  | 9, h => cases h; decide +kernel
  | 10, h => cases h; decide +kernel
  | 11, h => cases h; decide +kernel
  | 12, h => cases h; decide +kernel
  | 13, h => cases h; decide +kernel
  | 14, h => cases h; decide +kernel
  | 15, h => cases h; decide +kernel
  | n + 16, h => cases h
theorem two_eq (b : Bool) : eqD (.lst [.bl b, .bl b]) (.lst [.bl b, .bl b]) = true := by cases b <;> decide +kernel
def CopiesS : SpecT := fun ss O R => ∃ d : Dat, ss = [.dat d] ∧ Fw d ∧ R (.ret (.dat (.bl true))) O
section
variable {P : Program} {w : World} {K : PySem.W.Frag} {mg : Str → Option Value} {base : Heap}
theorem fn_law_caught (T : TopOf K mg) (Z : Facts K) {f : Addr} {fd : FuncData} (F : L2.Fun K "_law_caught" "_law_caught" s_law_caught f fd) : Fn P w K mg base false (9) f fd ["_law_value_here"] (CaughtS) := by
  have sc := sc_law_caught
  refine fn_mk F sc_law_caught (fun ss O R h => by first | (obtain ⟨_, rfl, _⟩ := h; rfl) | (obtain ⟨_, _, rfl, _⟩ := h; rfl) | (obtain ⟨_, _, _, rfl, _⟩ := h; rfl) | (obtain ⟨_, _, _, _, rfl, _⟩ := h; rfl) | (obtain ⟨_, _, _, _, _, rfl, _⟩ := h; rfl) | (obtain ⟨_, _, _, _, _, _, rfl, _⟩ := h; rfl) | (obtain ⟨_, _, _, _, _, _, _, rfl, _⟩ := h; rfl)) fun cdv A outer s H E ss O R hr hpo h => ?_
  obtain ⟨v, rfl, hc, h⟩ := h
  -- 0:_law_value_here 1:_law_found 2:e
  refine sw_cons ?_
  refine s1_set 1 ?_ sc.nd
  refine ew_lst ?_
  refine aw_nil ?_
  refine ⟨by decide, fun q hq => ?_⟩
  refine sw_cons ?_
  refine s1_try [⟨.ref (He.ga K "Refused"), none, _, _⟩, ⟨.ref (He.ga K "KeptError"), some 2, _, _⟩] sc.nd (.cons ⟨rfl, by decide, .inl (T.is (at_Refused Z))⟩ trivial (.cons ⟨rfl, by decide, .inl (T.is (at_KeptError Z))⟩ ⟨rfl, rfl⟩ .nil)) fun pn xe hpo2 => ?_
  refine sw_one ?_
  refine s1_raiseXb (xb_RefusedAt T Z) (T.is (at_RefusedAt Z)) hr ?_
  refine aw_cons ?_
  refine ew_var 0 ?_
  refine aw_nil ?_
  refine raisedX1 (hc.keep (Lk.up (isLC_no hq))) ?_
  refine ⟨false, Z.t_RefusedAt_Refused, fun e => (by cases e), fun _ => ⟨true, Z.t_RefusedAt_KeptError, fun _ => ?_, fun e => (by cases e)⟩⟩
  intro a dd oe pn2 hzc hf ha
  refine sw_one ?_
  refine s1_expr ?_
  refine ew_append ?_
  refine ew_var 1 ?_
  refine ⟨?_, ?_⟩
  · exact ⟨rfl, _, up_at⟩
  refine ew_exf (xat_RefusedAt Z).xf (no_RefusedAt_at Z) hzc hf ?_
  refine ew_var 2 ?_
  refine ⟨_, _, rfl, rfl, ?_⟩
  refine mb_append up_at (by decide) ?_
  rw [up_up]
  refine sw_cons ?_
  refine s1_try [⟨.ref (He.ga K "KeptError"), none, _, _⟩, ⟨.type "KeyError", none, _, _⟩] sc.nd (.cons ⟨rfl, by decide, .inl (T.is (at_KeptError Z))⟩ trivial (.cons ⟨rfl, by decide, .inr ⟨T.no Z.n_KeyError, bt_KeyError, by decide⟩⟩ trivial .nil)) fun pn xe hpo2 => ?_
  refine sw_one ?_
  refine s1_raiseXb (xb_NotPending T Z) (T.is (at_NotPending Z)) hr ?_
  refine aw_cons ?_
  refine ew_var 0 ?_
  refine aw_cons ?_
  refine ew_int ?_
  refine aw_nil ?_
  refine raisedX2 (hc.keep (Lk.up (isLC_no hq))) (.leaf rfl) ?_
  refine ⟨false, Z.t_NotPending_KeptError, fun e => (by cases e), fun _ => ⟨true, Z.t_NotPending_KeyError, fun _ => ?_, fun e => (by cases e)⟩⟩
  intro a dd oe pn2 hzc hf ha
  refine sw_one ?_
  refine s1_expr ?_
  refine ew_append ?_
  refine ew_var 1 ?_
  refine ⟨?_, ?_⟩
  · exact ⟨rfl, _, up_at⟩
  refine ew_str ?_
  refine mb_append up_at (Nat.le_of_ble_eq_true rfl) ?_
  rw [up_up]
  refine sw_one ?_
  refine s1_ret ?_
  refine ew_frz ?_
  refine ew_var 1 ?_
  refine ⟨q, [v, .str "key"], rfl, by rw [up_at]; rfl, ?_⟩
  rw [dn_up hq]
  exact h
theorem c_law_caught (T : TopOf K mg) (Z : Facts K) : Cal P w K mg base false (9) "_law_caught" (CaughtS) [] := cal_of T Z.d_law_caught (by walk_at "b1") fun f fd F => fn_law_caught T Z F
theorem fn_law_copies_right (T : TopOf K mg) (Z : Facts K) {f : Addr} {fd : FuncData} (F : L2.Fun K "_law_copies_right" "_law_copies_right" s_law_copies_right f fd) : Fn P w K mg base true (10) f fd ["_law_value_here"] (CopiesS) := by
  have sc := sc_law_copies_right
  refine fn_mk F sc_law_copies_right (fun ss O R h => by first | (obtain ⟨_, rfl, _⟩ := h; rfl) | (obtain ⟨_, _, rfl, _⟩ := h; rfl) | (obtain ⟨_, _, _, rfl, _⟩ := h; rfl) | (obtain ⟨_, _, _, _, rfl, _⟩ := h; rfl) | (obtain ⟨_, _, _, _, _, rfl, _⟩ := h; rfl) | (obtain ⟨_, _, _, _, _, _, rfl, _⟩ := h; rfl) | (obtain ⟨_, _, _, _, _, _, _, rfl, _⟩ := h; rfl)) fun cdv A outer s H E ss O R hr hpo h => ?_
  obtain ⟨v, rfl, hv, h⟩ := h
  refine sw_drop ?_
  -- 0:_law_value_here 1:_law_inner 2:_law_whole 3:_law_errors 4:_law_others 5:_law_due 6:_law_one
  refine sw_cons ?_
  refine s1_par 1 2 ?_ sc.nd
  refine aw_cons ?_
  refine ew_lst ?_
  refine aw_cons ?_
  refine ew_var 0 ?_
  refine aw_nil ?_
  refine ⟨Nat.le_of_ble_eq_true rfl, fun p hp => ?_⟩
  refine aw_cons ?_
  refine ew_lst ?_
  refine aw_cons ?_
  refine ew_var 0 ?_
  refine aw_nil ?_
  refine ⟨Nat.le_of_ble_eq_true rfl, fun q hq => ?_⟩
  have qp : q ≠ p := fun e => by rw [e, up_at] at hq; cases hq
  have hO : O q = none := by rw [up_ne qp] at hq; exact hq
  have cp : (up (up O p (.lst [.dat v])) q (.lst [.dat v])) p = some (.lst [.dat v]) := by rw [up_ne qp.symm, up_at]
  have cq : (up (up O p (.lst [.dat v])) q (.lst [.dat v])) q = some (.lst [.dat v]) := up_at
  refine aw_nil ?_
  refine ⟨_, _, rfl, ?_⟩
  refine sw_cons ?_
  refine s1_par 3 4 ?_ sc.nd
  refine aw_cons ?_
  refine ew_call (c_law_made T Z) hr ?_
  refine aw_cons ?_
  refine ew_tup ?_
  refine aw_cons ?_
  refine ew_ownD ?_
  refine ew_var 1 ?_
  refine ⟨p, rfl, ?_⟩
  refine aw_cons ?_
  refine ew_tup ?_
  refine aw_cons ?_
  refine ew_str ?_
  refine aw_cons ?_
  refine ew_ownD ?_
  refine ew_var 1 ?_
  refine ⟨p, rfl, ?_⟩
  refine aw_nil ?_
  refine ⟨[_, _], rfl, by walk_at "few", ?_⟩
  refine aw_nil ?_
  refine ⟨[_, _], rfl, by walk_at "few", ?_⟩
  refine aw_nil ?_
  refine ⟨_, dueD v, rfl, Cpy.two (Cpy.own cp (hv.copy _)).up (Cpy.two (.leaf rfl) (Cpy.own cp (hv.copy _))), ?_⟩
  refine aw_cons ?_
  refine ew_call (c_law_made T Z) hr ?_
  refine aw_cons ?_
  refine ew_ownD ?_
  refine ew_var 2 ?_
  refine ⟨q, rfl, ?_⟩
  refine aw_nil ?_
  refine ⟨_, .lst [v], rfl, (Cpy.own cq (hv.copy _)).up, ?_⟩
  refine aw_nil ?_
  refine ⟨_, _, rfl, ?_⟩
  refine sw_cons ?_
  refine s1_expr ?_
  refine ew_append ?_
  refine ew_var 1 ?_
  refine ⟨?_, ?_⟩
  · exact ⟨rfl, _, cp⟩
  refine ew_str ?_
  refine mb_append cp (Nat.le_of_ble_eq_true rfl) ?_
  refine sw_cons ?_
  refine s1_expr ?_
  refine ew_append ?_
  refine ew_var 2 ?_
  refine ⟨?_, ?_⟩
  · exact ⟨rfl, _, (up_ne qp).trans cq⟩
  refine ew_str ?_
  refine mb_append ((up_ne qp).trans cq) (Nat.le_of_ble_eq_true rfl) ?_
  refine sw_cons ?_
  refine s1_set 5 ?_ sc.nd
  refine ew_callB (T.no Z.n_repr) bt_repr ?_
  refine aw_cons ?_
  refine ew_tup ?_
  refine aw_cons ?_
  refine ew_lstD ?_
  refine aw_cons ?_
  refine ew_var 0 ?_
  refine aw_nil ?_
  refine ⟨[_], rfl, by walk_at "few", ?_⟩
  refine aw_cons ?_
  refine ew_tup ?_
  refine aw_cons ?_
  refine ew_str ?_
  refine aw_cons ?_
  refine ew_lstD ?_
  refine aw_cons ?_
  refine ew_var 0 ?_
  refine aw_nil ?_
  refine ⟨[_], rfl, by walk_at "few", ?_⟩
  refine aw_nil ?_
  refine ⟨[_, _], rfl, by walk_at "few", ?_⟩
  refine aw_nil ?_
  refine ⟨[_, _], rfl, by walk_at "few", ?_⟩
  refine aw_nil ?_
  refine cb_reprT (hr.mono (by decide) (fun e => e)) (rep_due hv) ?_
  refine sw_cons ?_
  refine s1_if ?_
  refine tw_cmp ?_
  refine ew_mapS (List.replicate 14 (dueD v)) id id (fun _ => false) [("_law_one", 6)] (up (up (up (up O p (.lst [.dat v])) q (.lst [.dat v])) p (.lst ([.dat v] ++ [.dat (.str "later")]))) q (.lst ([.dat v] ++ [.dat (.str "later")]))) sc.nd (.name (i := 6) (by decide) fun Y ⟨_, _, _, _, _, e⟩ => by subst e; exact pg_name (i := 6) sc.nd rfl (.inl rfl) (.inr rfl)) (blkOk_by (N := N_law_copies_right) (sc := defScope s_law_copies_right) (by decide +kernel)) (iw_list ?_) (Nat.le_of_ble_eq_true rfl) (fun e he => ⟨_, rfl, fun O' Y hS hY => ?_⟩) ?_
  · refine ew_call (c_law_kept_of T Z) hr ?_
    refine aw_cons ?_
    refine ew_var 3 ?_
    refine aw_nil ?_
    exact ⟨dueD v, rfl, _, rfl, rfl, rfl⟩
  · obtain rfl : e = dueD v := List.eq_of_mem_replicate he
    obtain ⟨_, _, _, _, _, rfl⟩ := hY
    refine ⟨tsw_one ?_, fun e => (by cases e)⟩
    refine tw_cmp ?_
    refine ew_callB (T.no Z.n_repr) bt_repr ?_
    refine aw_cons ?_
    refine ew_var 6 ?_
    refine aw_nil ?_
    refine cb_reprT ?_ (rep_due hv) ?_
    · exact hr.mono (by decide) (fun e => e)
    refine ew_var 5 ?_
    refine ob_neS ?_
    exact ⟨_, rfl, by rw [decide_eq_true rfl]; rfl, rfl⟩
  rw [show (List.map id (List.filter (fun _ => false) (List.replicate 14 (dueD v)))) = [] from rfl]
  refine ew_lstD ?_
  refine aw_nil ?_
  refine ⟨[], rfl, by decide, ?_⟩
  refine ob_ne (hr.r.mono (by decide)) rfl rfl rfl rfl ?_
  refine ⟨_, rfl, fun ht => ?_, fun ht => ?_⟩
  · exact absurd ht (by decide +kernel)
  · refine sw_nil ?_
    refine sw_one ?_
    refine s1_ret ?_
    refine ew_cmp ?_
    refine ew_mapS (List.replicate 14 (Dat.lst [v])) id id (fun _ => false) [("_law_one", 6)] (up (up (up (up O p (.lst [.dat v])) q (.lst [.dat v])) p (.lst ([.dat v] ++ [.dat (.str "later")]))) q (.lst ([.dat v] ++ [.dat (.str "later")]))) sc.nd (.name (i := 6) (by decide) fun Y ⟨_, _, _, _, _, e⟩ => by subst e; exact pg_name (i := 6) sc.nd rfl (.inl rfl) (.inr rfl)) (blkOk_by (N := N_law_copies_right) (sc := defScope s_law_copies_right) (by decide +kernel)) (iw_list ?_) (Nat.le_of_ble_eq_true rfl) (fun e he => ⟨_, rfl, fun O' Y hS hY => ?_⟩) ?_
    · refine ew_call (c_law_kept_of T Z) hr ?_
      refine aw_cons ?_
      refine ew_var 4 ?_
      refine aw_nil ?_
      exact ⟨.lst [v], rfl, _, rfl, rfl, rfl⟩
    · obtain rfl : e = .lst [v] := List.eq_of_mem_replicate he
      obtain ⟨_, _, _, _, _, rfl⟩ := hY
      refine ⟨tsw_one ?_, fun e => (by cases e)⟩
      refine tw_cmp ?_
      refine ew_callB (T.no Z.n_repr) bt_repr ?_
      refine aw_cons ?_
      refine ew_var 6 ?_
      refine aw_nil ?_
      refine cb_reprL ?_ (rep_one hv) ?_
      · exact hr.mono (by decide) (fun e => e)
      refine ew_callB (T.no Z.n_repr) bt_repr ?_
      refine aw_cons ?_
      refine ew_lstD ?_
      refine aw_cons ?_
      refine ew_var 0 ?_
      refine aw_nil ?_
      refine ⟨[v], rfl, by walk_at "few", ?_⟩
      refine aw_nil ?_
      refine cb_reprL ?_ (rep_one hv) ?_
      · exact hr.mono (by decide) (fun e => e)
      refine ob_neS ?_
      exact ⟨_, rfl, by rw [decide_eq_true rfl]; rfl, rfl⟩
    rw [show (List.map id (List.filter (fun _ => false) (List.replicate 14 (Dat.lst [v])))) = [] from rfl]
    refine ew_lstD ?_
    refine aw_nil ?_
    refine ⟨[], rfl, by decide, ?_⟩
    refine ob_eq (hr.r.mono (by decide)) rfl rfl rfl rfl ?_
    rw [show eqD (.lst []) (.lst []) = true by decide +kernel]
    exact ⟨O, Sub.upw (Sub.upw (Sub.upw (Sub.upw Sub.refl hp) hO) hp) hO, h⟩
theorem c_law_copies_right (T : TopOf K mg) (Z : Facts K) : Cal P w K mg base true (10) "_law_copies_right" (CopiesS) [] := cal_of T Z.d_law_copies_right (by walk_at "b1") fun f fd F => fn_law_copies_right T Z F
end
theorem ne_self {α : Type} [DecidableEq α] {a b : α} (h : a = b) : ¬ (!decide (a = b)) = true := by
  rw [decide_eq_true h]; decide
section
variable {P : Program} {w : World} {K : PySem.W.Frag} {mg : Str → Option Value} {base : Heap}
theorem fn_law (T : TopOf K mg) (Z : Facts K) {f : Addr} {fd : FuncData} (F : L2.Fun K "law" "law" s_law f fd) : Fn P w K mg base true (12) f fd ["_law_script"] (LawS) := by
  have sc := sc_law
  refine fn_mk F sc_law (fun ss O R h => by first | (obtain ⟨_, rfl, _⟩ := h; rfl) | (obtain ⟨_, _, rfl, _⟩ := h; rfl) | (obtain ⟨_, _, _, rfl, _⟩ := h; rfl) | (obtain ⟨_, _, _, _, rfl, _⟩ := h; rfl) | (obtain ⟨_, _, _, _, _, rfl, _⟩ := h; rfl) | (obtain ⟨_, _, _, _, _, _, rfl, _⟩ := h; rfl) | (obtain ⟨_, _, _, _, _, _, _, rfl, _⟩ := h; rfl)) fun cdv A outer s H E ss O R hr hpo h => ?_
  obtain ⟨ns, rfl, hns, h⟩ := h
  -- 0:_law_script 1:_law_k 2:_law_box_here 3:_law_value_here 4:_law_other 5:_law_made_here 6:_law_at 7:_law_error 8:_law_spot 9:_law_is_kept 10:_law_firsts 11:_law_seconds
  refine sw_cons ?_
  refine s1_for hpo ?_
  refine iw_range1 (T.no Z.n_range) ?_
  refine aw_cons ?_
  refine ew_callB (T.no Z.n_max) bt_max ?_
  refine aw_cons ?_
  refine ew_int ?_
  refine aw_cons ?_
  refine ew_callB (T.no Z.n_min) bt_min ?_
  refine aw_cons ?_
  refine ew_int ?_
  refine aw_cons ?_
  refine ew_callB (T.no Z.n_len) bt_len ?_
  refine aw_cons ?_
  refine ew_var 0 ?_
  refine aw_nil ?_
  walk_at "cb len"
  refine aw_nil ?_
  walk_at "cb min"
  refine aw_nil ?_
  walk_at "cb max"
  refine aw_nil ?_
  refine ⟨_, rfl, by constructor <;> (repeat' split) <;> omega, ?_⟩
  refine ⟨fun i ρ' O' => ∃ s1 s2 s3 s4 s5 s6 s7 s8 s9 s10 s11 : Slot, ρ' = [.dat (.fro (ns.map .int)), s1, s2, s3, s4, s5, s6, s7, s8, s9, s10, s11], ?_, ?_, ?_⟩
  · exact ⟨_, _, _, _, _, _, _, _, _, _, _, rfl⟩
  · intro i d ρ2 O2 hj hd
    obtain ⟨s1, s2, s3, s4, s5, s6, s7, s8, s9, s10, s11, rfl⟩ := hj
    obtain ⟨hi, rfl⟩ := rangeD_at hd
    have hi : i < 7 := by
      rw [List.length_map] at hi
      revert hi
      (repeat' split) <;> omega
    refine gw_name 1 ?_ sc.nd
    refine sw_cons ?_
    refine s1_set 2 ?_ sc.nd
    refine ew_call (c_law_box T Z) hr ?_
    refine aw_cons ?_
    refine ew_var 0 ?_
    refine aw_cons ?_
    refine ew_var 1 ?_
    refine aw_cons ?_
    refine ew_int ?_
    refine aw_nil ?_
    refine ⟨ns, _, _, rfl, by omega, by omega, by decide, by decide, fun p b hp hb => ?_⟩
    refine sw_cons ?_
    refine s1_par 3 4 ?_ sc.nd
    refine aw_cons ?_
    refine ew_call (c_law_value T Z) hr ?_
    refine aw_cons ?_
    refine ew_var 2 ?_
    refine aw_nil ?_
    refine ⟨p, b, rfl, up_at, hb, fun v b1 hv hb1 => ?_⟩
    rw [up_up]
    refine aw_cons ?_
    refine ew_call (c_law_value T Z) hr ?_
    refine aw_cons ?_
    refine ew_var 2 ?_
    refine aw_nil ?_
    refine ⟨p, b1, rfl, up_at, hb1, fun o b2 ho hb2 => ?_⟩
    rw [up_up]
    have fv := fw_val hv
    have fo := fw_val ho
    refine aw_nil ?_
    refine ⟨_, _, rfl, ?_⟩
    refine sw_cons ?_
    refine s1_set 5 ?_ sc.nd
    refine ew_call (c_law_made T Z) hr ?_
    refine aw_cons ?_
    refine ew_var 3 ?_
    refine aw_nil ?_
    refine ⟨v, v, rfl, (fv.copy _).up, ?_⟩
    refine sw_cons ?_
    refine s1_for hpo ?_
    refine iw_enum (T.no Z.n_enumerate) ?_
    refine aw_cons ?_
    refine ew_var 5 ?_
    refine aw_nil ?_
    refine ⟨_, rfl, ?_⟩
    refine ⟨fun j ρ' O' => ∃ s6 s7 s8 s9 s10 s11 : Slot, ρ' = [.dat (.fro (ns.map .int)), .dat (.int (0 + (i : Int))), .own p, .dat v, .dat o, .dat (.lst (xMade K v)), s6, s7, s8, s9, s10, s11], ?_, ?_, ?_⟩
    · exact ⟨_, _, _, _, _, _, rfl⟩
    · intro i d ρ2 O2 hj hd
      obtain ⟨s6, s7, s8, s9, s10, s11, rfl⟩ := hj
      unfold enumD at hd
      rw [List.getElem?_mapIdx] at hd
      obtain ⟨e, hei, rfl⟩ := Option.map_eq_some_iff.mp hd
      obtain ⟨x, hxi, hx, hxc⟩ := made_at hei
      obtain ⟨e1, e2, e3, e4⟩ := sorts_at hxi
      refine gw_tup ?_
      refine gsw_cons ?_
      refine gw_name 6 ?_ sc.nd
      refine gsw_cons ?_
      refine gw_name 7 ?_ sc.nd
      refine gsw_nil ?_
      refine sw_cons ?_
      refine s1_if ?_
      refine tw_cmp ?_
      refine ew_call (c_law_sorts T Z) hr ?_
      refine aw_cons ?_
      refine ew_var 7 ?_
      refine aw_nil ?_
      refine ⟨e, x, rfl, hxc, hx, ?_⟩
      refine ew_map1 (List.range 16) (fun r : Nat => .int (0 + (r : Int))) (fun r : Nat => .bl (decide ((0 : Int) + (r : Int) = (i : Int)))) [("_law_spot", 8)] sc.nd (.name (i := 8) (by decide) fun Y ⟨_, _, _, _, _, e⟩ => by subst e; exact pg_name (i := 8) sc.nd rfl (.inl rfl) (.inr rfl)) (blkOk_by (N := N_law) (sc := defScope s_law) (by decide +kernel)) (iw_range1 (T.no Z.n_range) (aw_cons (ew_callB (T.no Z.n_len) bt_len (aw_cons (ew_var 5 (aw_nil (cb_lenL (aw_nil ⟨16, rfl, by decide, rfl, rfl⟩)))))))) (Nat.le_of_ble_eq_true rfl) (fun r hr' => ⟨_, rfl, fun O' Y hY => ?_⟩) ?_
      · obtain ⟨_, _, _, _, _, rfl⟩ := hY
        exact ew_cmp (ew_var 8 (ew_var 6 (ob_eqI ⟨rfl, rfl⟩)))
      refine ob_ne (hr.r.mono (by decide)) rfl rfl rfl rfl ?_
      refine ⟨_, rfl, fun ht => ?_, fun ht => ?_⟩
      · exact absurd ht (by rw [show eqD (.lst (sorts16 x)) (.lst ((List.range 16).map fun r : Nat => .bl (decide ((0 : Int) + (r : Int) = (i : Int))))) = true from e1]; decide)
      · refine sw_nil ?_
        refine sw_cons ?_
        refine s1_set 9 ?_ sc.nd
        refine ew_cmp ?_
        refine ew_var 6 ?_
        refine ew_bin ?_
        refine ew_callB (T.no Z.n_len) bt_len ?_
        refine aw_cons ?_
        refine ew_var 5 ?_
        refine aw_nil ?_
        walk_at "cb len"
        refine ew_int ?_
        walk_at "op sub"
        walk_at "cmp Lt"
        refine sw_cons ?_
        refine s1_if ?_
        refine tw_cmp ?_
        refine ew_lstD ?_
        refine aw_cons ?_
        refine ew_callB (T.no Z.n_isinstance) bt_isinstance ?_
        refine aw_cons ?_
        refine ew_var 7 ?_
        refine aw_cons ?_
        refine ew_cls (T.is (at_KeptError Z)) ?_
        refine aw_nil ?_
        refine cb_isX (Z.a_all x hx).ec hxc (Z.p_KeptError x hx) (.inl ⟨_, rfl, rfl⟩) ?_
        refine aw_cons ?_
        refine ew_callB (T.no Z.n_isinstance) bt_isinstance ?_
        refine aw_cons ?_
        refine ew_var 7 ?_
        refine aw_cons ?_
        refine ew_bltn (T.no Z.n_ValueError) bt_ValueError ?_
        refine aw_nil ?_
        refine cb_isX (Z.a_all x hx).ec hxc (Z.p_ValueError x hx) (.inr ⟨_, rfl, rfl⟩) ?_
        refine aw_nil ?_
        refine ⟨[_, _], rfl, by walk_at "few", ?_⟩
        refine ew_lstD ?_
        refine aw_cons ?_
        refine ew_var 9 ?_
        refine aw_cons ?_
        refine ew_var 9 ?_
        refine aw_nil ?_
        refine ⟨[_, _], rfl, by walk_at "few", ?_⟩
        
        rw [e2]
        refine ob_ne (hr.r.mono (by decide)) rfl rfl rfl rfl ?_
        refine ⟨_, rfl, fun ht => ?_, fun ht => ?_⟩
        · exact absurd (show (!eqD (.lst [.bl (decide ((i : Int) < 16 - 1)), .bl (decide ((i : Int) < 16 - 1))]) (.lst [.bl (decide ((i : Int) < 16 - 1)), .bl (decide ((i : Int) < 16 - 1))])) = true from ht) (by rw [two_eq]; decide)
        · refine sw_nil ?_
          refine sw_one ?_
          refine s1_if ?_
          refine tw_w ?_
          refine tww_or ?_
          refine tw_cmp ?_
          refine ew_callB (T.no Z.n_isinstance) bt_isinstance ?_
          refine aw_cons ?_
          refine ew_var 7 ?_
          refine aw_cons ?_
          refine ew_bltn (T.no Z.n_KeyError) bt_KeyError ?_
          refine aw_nil ?_
          refine cb_isX (Z.a_all x hx).ec hxc (Z.p_KeyError x hx) (.inr ⟨_, rfl, rfl⟩) ?_
          refine ew_var 9 ?_
          
          rw [e3]
          refine ob_eqB ?_
          refine ⟨_, rfl, fun ht => ?_, fun ht => ?_⟩
          · exact absurd (show (!decide ((i : Int) < 16 - 1)) = decide ((i : Int) < 16 - 1) from of_decide_eq_true ht) (by cases decide ((i : Int) < 16 - 1) <;> decide)
          · refine tww_or1 ?_
            refine tw_cmp ?_
            refine ew_callB (T.no Z.n_repr) bt_repr ?_
            refine aw_cons ?_
            refine ew_call (c_law_caught T Z) hr ?_
            refine aw_cons ?_
            refine ew_var 3 ?_
            refine aw_nil ?_
            refine ⟨v, rfl, (fv.copy _).up, ?_⟩
            refine aw_nil ?_
            refine cb_reprL (hr.mono (by decide) (fun e => e)) (rep_two fv) ?_
            refine ew_callB (T.no Z.n_repr) bt_repr ?_
            refine aw_cons ?_
            refine ew_lstD ?_
            refine aw_cons ?_
            refine ew_var 3 ?_
            refine aw_cons ?_
            refine ew_str ?_
            refine aw_nil ?_
            refine ⟨[_, _], rfl, by walk_at "few", ?_⟩
            refine aw_nil ?_
            refine cb_reprL (hr.mono (by decide) (fun e => e)) (rep_two fv) ?_
            refine ob_neS ?_
            refine ⟨_, rfl, fun ht => ?_, fun ht => ?_⟩
            · exact absurd ht (ne_self rfl)
            · refine sw_nil ?_
              exact ⟨_, _, _, _, _, _, rfl⟩
    · intro ρ2 O2 hj
      obtain ⟨s6, s7, s8, s9, s10, s11, rfl⟩ := hj
      refine sw_cons ?_
      refine s1_if ?_
      refine tw_not ?_
      refine tw_val ?_
      refine ew_call (c_law_copies_right T Z) hr ?_
      refine aw_cons ?_
      refine ew_var 4 ?_
      refine aw_nil ?_
      refine ⟨o, rfl, fo, ?_⟩
      refine ⟨_, rfl, fun ht => ?_, fun ht => ?_⟩
      · exact absurd ht (by decide)
      · refine sw_nil ?_
        refine sw_cons ?_
        refine s1_asg ?_
        refine ew_call (c_law_fields T Z) hr ?_
        refine aw_cons ?_
        refine ew_var 3 ?_
        refine aw_cons ?_
        refine ew_var 4 ?_
        refine aw_nil ?_
        refine ⟨v, o, rfl, (fv.copy _).up, (fo.copy _).up, ?_⟩
        refine gw_tup ?_
        refine gsw_cons ?_
        refine gw_name 10 ?_ sc.nd
        refine gsw_cons ?_
        refine gw_name 11 ?_ sc.nd
        refine gsw_nil ?_
        refine sw_one ?_
        refine s1_if ?_
        refine tw_w ?_
        refine tww_or ?_
        refine tw_cmp ?_
        refine ew_callB (T.no Z.n_repr) bt_repr ?_
        refine aw_cons ?_
        refine ew_var 10 ?_
        refine aw_nil ?_
        refine cb_reprL (hr.mono (by decide) (fun e => e)) (rep_many fv (n := 14) (by decide)) ?_
        refine ew_callB (T.no Z.n_repr) bt_repr ?_
        refine aw_cons ?_
        refine ew_bin ?_
        refine ew_lstD ?_
        refine aw_cons ?_
        refine ew_var 3 ?_
        refine aw_nil ?_
        refine ⟨[_], rfl, by walk_at "few", ?_⟩
        refine ew_int ?_
        refine ob_rep (n := 14) (by decide) (Nat.le_of_ble_eq_true rfl) ?_
        refine aw_nil ?_
        refine cb_reprL (hr.mono (by decide) (fun e => e)) (rep_many fv (n := 14) (by decide)) ?_
        refine ob_neS ?_
        refine ⟨_, rfl, fun ht => ?_, fun ht => ?_⟩
        · exact absurd ht (ne_self rfl)
        · refine tww_or1 ?_
          refine tw_cmp ?_
          refine ew_callB (T.no Z.n_repr) bt_repr ?_
          refine aw_cons ?_
          refine ew_var 11 ?_
          refine aw_nil ?_
          refine cb_reprL (hr.mono (by decide) (fun e => e)) (rep_many fo (n := 2) (by decide)) ?_
          refine ew_callB (T.no Z.n_repr) bt_repr ?_
          refine aw_cons ?_
          refine ew_bin ?_
          refine ew_lstD ?_
          refine aw_cons ?_
          refine ew_var 4 ?_
          refine aw_nil ?_
          refine ⟨[_], rfl, by walk_at "few", ?_⟩
          refine ew_int ?_
          refine ob_rep (n := 2) (by decide) (Nat.le_of_ble_eq_true rfl) ?_
          refine aw_nil ?_
          refine cb_reprL (hr.mono (by decide) (fun e => e)) (rep_many fo (n := 2) (by decide)) ?_
          refine ob_neS ?_
          refine ⟨_, rfl, fun ht => ?_, fun ht => ?_⟩
          · exact absurd ht (ne_self rfl)
          · refine sw_nil ?_
            exact ⟨_, _, _, _, _, _, _, _, _, _, _, rfl⟩
  · intro ρ2 O2 hj
    refine sw_one ?_
    refine s1_ret ?_
    refine ew_bl ?_
    exact h _
end
end Lw
namespace LwE
open PySem PySem.W PyProof.Rows Lw
def says0_0 : List (Frag → Bool) := [Kn.freeB "isinstance",
  Kn.freeB "list",
  Kn.freeB "tuple",
  Kn.freeB "KeyError",
  Kn.freeB "len",
  Kn.freeB "abs",
  Kn.freeB "int",
  Kn.freeB "repr",
  Kn.freeB "range",
  Kn.freeB "max",
  Kn.freeB "enumerate",
  Kn.freeB "min",
  Kn.freeB "ValueError",
  Kn.defB "own_copy",
  Kn.defB "_law_box",
  Kn.defB "_law_take"]
def says0_1 : List (Frag → Bool) := [Kn.defB "_law_sorts",
  Kn.defB "_law_made",
  Kn.defB "_law_fields",
  Kn.defB "_law_kept_of"]
def says0_ : List (Frag → Bool) := says0_0 ++ says0_1
def funs0_0 : List (Kn.Place × Str × Str × Stmt) := [(Kn.pGlo "own_copy", "own_copy", "own_copy", s_own_copy),
  (Kn.pGlo "_law_box", "_law_box", "_law_box", s_law_box),
  (Kn.pGlo "_law_take", "_law_take", "_law_take", s_law_take),
  (Kn.pGlo "_law_sorts", "_law_sorts", "_law_sorts", s_law_sorts),
  (Kn.pGlo "_law_made", "_law_made", "_law_made", s_law_made),
  (Kn.pGlo "_law_fields", "_law_fields", "_law_fields", s_law_fields),
  (Kn.pGlo "_law_kept_of", "_law_kept_of", "_law_kept_of", s_law_kept_of)]
def funs0_ : List (Kn.Place × Str × Str × Stmt) := funs0_0
def look0 : Kn.Look := ⟨says0_, funs0_⟩
def says1_0 : List (Frag → Bool) := [Kn.defB "_law_copies_right",
  Kn.defB "_law_caught",
  Kn.defB "_law_value",
  Kn.defB "law",
  Kn.excB "NoKinds" "NoKinds.__init__" "KeptError" ["row"],
  Kn.excB "NoRules" "NoRules.__init__" "KeptError" ["row"],
  Kn.excB "NoQuestion" "NoQuestion.__init__" "KeptError" ["at"],
  Kn.excB "NoTree" "NoTree.__init__" "KeptError" ["at"],
  Kn.excB "NoBundle" "NoBundle.__init__" "KeptError" ["at"],
  Kn.excB "TooMany" "TooMany.__init__" "KeptError" ["word"],
  Kn.excB "TooGreat" "TooGreat.__init__" "KeptError" ["product"],
  Kn.excB "UnknownKind" "UnknownKind.__init__" "KeptError" ["kind"],
  Kn.excB "NoEvent" "NoEvent.__init__" "KeptError" ["event"],
  Kn.excB "Refused" "Refused.__init__" "KeptError" ["event"],
  Kn.excB "RefusedAt" "RefusedAt.__init__" "KeptError" ["at"],
  Kn.excB "NoCommand" "NoCommand.__init__" "KeptError" ["row"]]
def says1_1 : List (Frag → Bool) := [Kn.keyB "NotPending" "NotPending.__init__" ["question", "mark"],
  Kn.xatsB xNames,
  Kn.xatB "KeptError",
  Kn.noiB "NoDocument"]
def says1_ : List (Frag → Bool) := says1_0 ++ says1_1
def funs1_0 : List (Kn.Place × Str × Str × Stmt) := [(Kn.pGlo "_law_copies_right", "_law_copies_right", "_law_copies_right", s_law_copies_right),
  (Kn.pGlo "_law_caught", "_law_caught", "_law_caught", s_law_caught),
  (Kn.pGlo "_law_value", "_law_value", "_law_value", s_law_value),
  (Kn.pGlo "law", "law", "law", s_law),
  (Kn.pMeth "NoKinds" "__init__", "__init__", "NoKinds.__init__", s_NoKinds_init),
  (Kn.pMeth "NoRules" "__init__", "__init__", "NoRules.__init__", s_NoRules_init),
  (Kn.pMeth "NoQuestion" "__init__", "__init__", "NoQuestion.__init__", s_NoQuestion_init),
  (Kn.pMeth "NoTree" "__init__", "__init__", "NoTree.__init__", s_NoTree_init),
  (Kn.pMeth "NoBundle" "__init__", "__init__", "NoBundle.__init__", s_NoBundle_init),
  (Kn.pMeth "TooMany" "__init__", "__init__", "TooMany.__init__", s_TooMany_init),
  (Kn.pMeth "TooGreat" "__init__", "__init__", "TooGreat.__init__", s_TooGreat_init),
  (Kn.pMeth "UnknownKind" "__init__", "__init__", "UnknownKind.__init__", s_UnknownKind_init),
  (Kn.pMeth "NoEvent" "__init__", "__init__", "NoEvent.__init__", s_NoEvent_init),
  (Kn.pMeth "Refused" "__init__", "__init__", "Refused.__init__", s_Refused_init),
  (Kn.pMeth "RefusedAt" "__init__", "__init__", "RefusedAt.__init__", s_RefusedAt_init),
  (Kn.pMeth "NoCommand" "__init__", "__init__", "NoCommand.__init__", s_NoCommand_init)]
def funs1_1 : List (Kn.Place × Str × Str × Stmt) := [(Kn.pMeth "NotPending" "__init__", "__init__", "NotPending.__init__", s_NotPending_init)]
def funs1_ : List (Kn.Place × Str × Str × Stmt) := funs1_0 ++ funs1_1
def look1 : Kn.Look := ⟨says1_, funs1_⟩
def says2_0 : List (Frag → Bool) := [Kn.noiB "Resting",
  Kn.noiB "OtherSpace",
  Kn.kitMatsB xNames,
  Kn.kitsToB (fun K => .ref (He.ga K "KeptError")) isKeptN xNames,
  Kn.kitsToB (fun _ => .type "ValueError") isKeptN xNames,
  Kn.kitsToB (fun _ => .type "KeyError") isKeyN xNames,
  Kn.exmToB (fun K => .ref (He.ga K "Refused")) false "RefusedAt",
  Kn.exmToB (fun K => .ref (He.ga K "KeptError")) true "RefusedAt",
  Kn.exmToB (fun K => .ref (He.ga K "KeptError")) false "NotPending",
  Kn.exmToB (fun _ => .type "KeyError") true "NotPending"]
def says2_ : List (Frag → Bool) := says2_0
def look2 : Kn.Look := ⟨says2_, []⟩
def looks : List Kn.Look := [look0, look1, look2]
def bound0 : List Str := ["__name__",
  "own_copy",
  "KeptError",
  "NoKinds",
  "NoRules",
  "NoQuestion",
  "NoTree",
  "NoBundle",
  "TooMany",
  "TooGreat",
  "UnknownKind",
  "NoDocument",
  "NoEvent",
  "Refused",
  "RefusedAt",
  "Resting"]
def bound1 : List Str := ["OtherSpace",
  "NoCommand",
  "NotPending",
  "_law_box",
  "_law_take",
  "_law_sorts",
  "_law_made",
  "_law_fields",
  "_law_kept_of",
  "_law_copies_right",
  "_law_caught",
  "_law_value"]
def bound : List Str := bound0 ++ bound1
set_option maxHeartbeats 0 in
theorem facts_of (K : Frag) (c : ∀ L ∈ looks, L.Holds K) : Facts K := by
  have c0 : look0.Holds K := c _ (.head _)
  have c1 : look1.Holds K := c _ (.tail _ (.head _))
  have c2 : look2.Holds K := c _ (.tail _ (.tail _ (.head _)))
  constructor
  · exact Kn.free_look (c0.say 0)
  · exact Kn.free_look (c0.say 1)
  · exact Kn.free_look (c0.say 2)
  · exact Kn.free_look (c0.say 3)
  · exact Kn.free_look (c0.say 4)
  · exact Kn.free_look (c0.say 5)
  · exact Kn.free_look (c0.say 6)
  · exact Kn.free_look (c0.say 7)
  · exact Kn.free_look (c0.say 8)
  · exact Kn.free_look (c0.say 9)
  · exact Kn.free_look (c0.say 10)
  · exact Kn.free_look (c0.say 11)
  · exact Kn.free_look (c0.say 12)
  · exact Kn.def_look (c0.say 13) (c0.txt 0)
  · exact Kn.def_look (c0.say 14) (c0.txt 1)
  · exact Kn.def_look (c0.say 15) (c0.txt 2)
  · exact Kn.def_look (c0.say 16) (c0.txt 3)
  · exact Kn.def_look (c0.say 17) (c0.txt 4)
  · exact Kn.def_look (c0.say 18) (c0.txt 5)
  · exact Kn.def_look (c0.say 19) (c0.txt 6)
  · exact Kn.def_look (c1.say 0) (c1.txt 0)
  · exact Kn.def_look (c1.say 1) (c1.txt 1)
  · exact Kn.def_look (c1.say 2) (c1.txt 2)
  · exact Kn.def_look (c1.say 3) (c1.txt 3)
  · obtain ⟨E, no⟩ := Kn.exc_look2 (c1.say 4) (c1.txt 4)
    exact ⟨E, no _ (.head _)⟩
  · obtain ⟨E, no⟩ := Kn.exc_look2 (c1.say 5) (c1.txt 5)
    exact ⟨E, no _ (.head _)⟩
  · obtain ⟨E, no⟩ := Kn.exc_look2 (c1.say 6) (c1.txt 6)
    exact ⟨E, no _ (.head _)⟩
  · obtain ⟨E, no⟩ := Kn.exc_look2 (c1.say 7) (c1.txt 7)
    exact ⟨E, no _ (.head _)⟩
  · obtain ⟨E, no⟩ := Kn.exc_look2 (c1.say 8) (c1.txt 8)
    exact ⟨E, no _ (.head _)⟩
  · obtain ⟨E, no⟩ := Kn.exc_look2 (c1.say 9) (c1.txt 9)
    exact ⟨E, no _ (.head _)⟩
  · obtain ⟨E, no⟩ := Kn.exc_look2 (c1.say 10) (c1.txt 10)
    exact ⟨E, no _ (.head _)⟩
  · obtain ⟨E, no⟩ := Kn.exc_look2 (c1.say 11) (c1.txt 11)
    exact ⟨E, no _ (.head _)⟩
  · obtain ⟨E, no⟩ := Kn.exc_look2 (c1.say 12) (c1.txt 12)
    exact ⟨E, no _ (.head _)⟩
  · obtain ⟨E, no⟩ := Kn.exc_look2 (c1.say 13) (c1.txt 13)
    exact ⟨E, no _ (.head _)⟩
  · obtain ⟨E, no⟩ := Kn.exc_look2 (c1.say 14) (c1.txt 14)
    exact ⟨E, no _ (.head _)⟩
  · obtain ⟨E, no⟩ := Kn.exc_look2 (c1.say 15) (c1.txt 15)
    exact ⟨E, no _ (.head _)⟩
  · obtain ⟨E, no⟩ := Kn.key_look (c1.say 16) (c1.txt 16)
    exact ⟨E, no _ (.head _), no _ (.tail _ (.head _))⟩
  · exact Kn.xats_look (c1.say 17)
  · exact Kn.xat_look (c1.say 18)
  · exact Kn.noi_look (c1.say 19)
  · exact Kn.noi_look (c2.say 0)
  · exact Kn.noi_look (c2.say 1)
  · exact Kn.kitMats_look (c2.say 2)
  · exact Kn.kitsTo_look (c := fun K => .ref (He.ga K "KeptError")) (c2.say 3)
  · exact Kn.kitsTo_look (c := fun _ => .type "ValueError") (c2.say 4)
  · exact Kn.kitsTo_look (c := fun _ => .type "KeyError") (c2.say 5)
  · exact Kn.exmTo_look (c := fun K => .ref (He.ga K "Refused")) (c2.say 6)
  · exact Kn.exmTo_look (c := fun K => .ref (He.ga K "KeptError")) (c2.say 7)
  · exact Kn.exmTo_look (c := fun K => .ref (He.ga K "KeptError")) (c2.say 8)
  · exact Kn.exmTo_look (c := fun _ => .type "KeyError") (c2.say 9)
abbrev R : OpenRow := OpenLaw.row PySem.Challenge.rw_keptnomore_k01_errors_and_their_fields
abbrev qv : Program := view R.prog [30]
noncomputable abbrev endW (w : World) (os : OsState) : Option SharedT := HandSHeadRun.endF (HandSHeadRun.stepQ (HandSHeadRun.denQ HandSHeadRun.tabQ) R.prog w) 20000 R.prog w os
set_option maxHeartbeats 0 in
theorem run_all (w : World) (os : OsState) : (endW w os).map (fun s => (HandSHeadRun.looksF R.prog (boot_heap w.params) s.abs, HandSHeadRun.seenQ qv bound (importedModules R.prog.main.body) (fun s => xlAt qv [] s && recOk R.toRowW.records s) s.abs)) = some (true, openGood qv bound) := by
  kernel_rfl
set_option maxHeartbeats 0 in
theorem run_0 (w : World) (os : OsState) : (endW w os).map (look0.ob 4 2500) = some look0.good := by
  kernel_rfl
set_option maxHeartbeats 0 in
theorem run_1 (w : World) (os : OsState) : (endW w os).map (look1.ob 4 2500) = some look1.good := by
  kernel_rfl
set_option maxHeartbeats 0 in
theorem run_2 (w : World) (os : OsState) : (endW w os).map (look2.ob 4 2500) = some look2.good := by
  kernel_rfl
theorem run (w : World) : HandSHeadRun.RunEq R qv (Kn.hookL 4 2500 looks) (Kn.obL 4 2500 looks) 20000 bound w := fun os => Kn.run_parts (run_all w os) fun L hL => by
  rcases List.mem_cons.mp hL with rfl | hL
  · exact run_0 w os
  rcases List.mem_cons.mp hL with rfl | hL
  · exact run_1 w os
  rw [List.mem_singleton.mp hL]; exact run_2 w os
end LwE
open PySem PySem.W PyProof.Rows
set_option maxHeartbeats 0 in
theorem PySem.Challenge.cw_keptnomore_k01_errors_and_their_fields_holds : PySem.Challenge.rw_keptnomore_k01_errors_and_their_fields.Holds := by
  w_on; o_law
  refine HandSHeadRun.head_any (r := OpenLaw.row PySem.Challenge.rw_keptnomore_k01_errors_and_their_fields) (q := LwE.qv) (H := Kn.hookL 4 2500 LwE.looks) (ob := Kn.obL 4 2500 LwE.looks) (M := 20000) (loose := LwE.bound) (d := HandSHeadRun.topDef (OpenLaw.row PySem.Challenge.rw_keptnomore_k01_errors_and_their_fields).prog 30) (kwd := []) (Kn.obL_eq _ _ _)
    (by kernel_rfl) (fun s => by kernel_rfl) LwE.run (by kernel_rfl) (by kernel_rfl) (by kernel_rfl) (by rfl) (by first | assumption | decide +kernel) (by decide +kernel) ⟨rfl, rfl, rfl, rfl, rfl, by decide +kernel⟩ ?hw ?hc
  case hw => w_witness2
  case hc =>
    refine Kn.law_look (l := PySem.Challenge.rw_keptnomore_k01_errors_and_their_fields) (n := 12) (x := "_law_script") (nm := "law") (st := Lw.s_law) (Z := Lw.Facts) rfl (by kernel_rfl) (by kernel_rfl) ⟨rfl, by decide, by decide⟩ rfl LwE.facts_of (fun K Z => Z.d_law) ?B ?F
    case B => exact fun _ _ _ _ _ _ us hl => match us, hl with | [_], _ => rfl
    case F => exact fun w K mg f fd Z T F base hb => Lw.fn_law T Z F
