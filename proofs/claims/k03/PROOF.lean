import PyProof.Rows.All
import HandS.ForMost
import HandS.ForExc
import HandS.IsInst
import HandS.Flow
import HandS.ExcInit
import HandS.TryMany
import HandS.ExcField
import HandS.ExcIs
import HandS.ClsMeth
import HandS.Slots
import KE.KDictKeyed
import HandS.Defaults
import KE.KExcIs
import HandS.FStr
import HandS.RaiseMore
import HandS.StrMore
import HandS.Deep
import HandS.TupAny
import HandS.Codes
import HandS.Wide
import HandS.Ends
import HandS.CallLocal
import HandS.SlotsOwn
import KE.KCallOwn
import PyProof.RulesMatch
import HandS.Star
import KE.KUnpackStar
import HandS.Style
import HandS.Strs
import HandS.More
import HandS.SetTxt0
import HandS.SetFor
import KE.KOpsOwn
import HandS.ReplaceLit
import HandS.StrSplit
import HandS.SetBool
import HandS.Property
import KE.DatumOrd
import PyProof.Rows.CallKwBuiltin
import HandS.Dict
import HandS.TupMul
import HandS.Text
import HandS.SortKw
import KE.KDictDisplayH
import KE.SortData
import PyProof.Rows.TupDisplay
import KE.KDictZip
import KE.KDictItemsList
import HandS.IterVal
import KE.KOwnIter
import HandS.Head2
import HandS.HeadHook2
import HandS.ListItems
import HandS.WordsDict
import HandS.Finally
import HandS.DictEq
import HandS.DeepEq
import HandS.Conv
import HandS.OwnEq
import PyProof.Reaches
import PyProof.Gen
import HandS.Lambda
import HandS.Keys
import PyProof.CollectWalk
import PyProof.WalksMore
import HandS.GenOver
import HandS.Base
import HandS.GenCall
import HandS.GenList
import PyProof.ListNew
import PySem.Challenge.RW_keptnomore_k03_trees_told
set_option Elab.async false
set_option linter.all false
set_option maxRecDepth 100000
set_option maxHeartbeats 4000000
namespace Kn
open PySem PySem.Spec PyProof.Rows
open L2 hiding St
abbrev SV := L2.St
inductive Dat where
  | non | bl (b : Bool) | int (i : Int) | str (x : Str)
  | lst (xs : List Dat) | tup (xs : List Dat)
  | ins (C : Addr) (fs : List (Str × Dat))
  | cls (C : Addr) | ty (n : String)
  | exc (a dd : Addr) (fs : List (Str × Dat))
  | fro (xs : List Dat)
  | slo (C : Addr) (ds : List Dat)
  | tre (C : Addr) (d1 : List (Str × Dat)) (g : Str) (es : List Dat) (d2 : List (Str × Dat))
  | key (ks : List Key)
  | dct (kvs : List (Key × Dat))
  | env (f : Addr) (vs : List V) (ds : List Dat)
  | xcv (C : Addr) (fs : List (Str × Dat))
  | xc0 (C : Addr)
  | ndd (w : World) (kvs : List (NestedKey × Dat))
  | tpn (ds : List Dat)
/-- a dict whose keys are tuples: its keys, where they stand, its values -/
def NdB (w : World) (d : Addr) (xs : List (NestedKey × Addr × V)) (h : Heap) : Prop := (d == sysModules) = false ∧ xs.length ≤ sizeLine ∧
  ∃ ys : List (NestedKey × Addr × Value), Paired (fun (x : NestedKey × Addr × V) (y : NestedKey × Addr × Value) => x.1 = y.1 ∧ x.2.1 = y.2.1 ∧ RelV x.2.2 y.2.2) xs ys ∧
  ∃ (P : Program) (o : Obj) (es : Array DictEntry) (ep : Nat), h.get? d = some o ∧ o.ExactDict ∧ o.data = .dict es ep ∧ es.toList = ys.map (entryOfKey (nestedKind P w)) ∧ (ys.map (·.1)).Nodup
def NdO (w : World) (d : Addr) (xs : List (NestedKey × Addr × V)) : HO := .ext (NdB w d xs)
/-- what a name or a place holds: nothing known, data, or a cell that its holder may still change -/
inductive Slot where
  | unk | dat (d : Dat) | own (p : Addr)
/-- a cell that may still change -/
inductive Cell where
  | lst (xs : List Slot)
  | ins (C dx : Addr) (fs : List (Str × Slot))
  | dK (kvs : List (Key × Slot))
  | dT (kvs : List (List Key × Slot))
  | exo (C : Addr) (d : Option Addr)
  | exd (fs : List (Str × Slot))
  | slt (C dx : Addr) (fs : List (Option Slot))
  | obj (o : HO)
  | tpl (xs : List Slot)
  | itr (ds : List Dat)
  | nd (w : World) (kvs : List (NestedKey × Slot))
  | ndb (w : World) (kvs : List (NestedKey × Slot))
/-- at p an iterator over the tuple at t, at its start -/
def TuO (t p : Addr) : HO := .ext fun h => h.IsTupleIter p t 0
abbrev Own := Addr → Option Cell
def up (O : Own) (p : Addr) (c : Cell) : Own := fun b => if b = p then some c else O b
def dn (O : Own) (p : Addr) : Own := fun b => if b = p then none else O b
/-- the heap without the cells -/
def hid (O : Own) (H : Hp) : Hp := fun b => match O b with | some _ => none | none => H b
mutual
/-- the value is this nested key, True and False as 1 and 0 -/
inductive KyB (K : PySem.W.Frag) (G : Hp) : V → NestedKey → Prop
  | non : KyB K G .non .none
  | num (i : Int) : KyB K G (.int i) (.num i)
  | bl (b : Bool) : KyB K G (.bl b) (.num (if b = true then 1 else 0))
  | text (x : Str) : KyB K G (.str x) (.text x)
  | tup {a : Addr} {xs : List V} {ks : List NestedKey} : SqT K G a xs → KyBs K G xs ks → KyB K G (.ref a) (.tup ks)
inductive KyBs (K : PySem.W.Frag) (G : Hp) : List V → List NestedKey → Prop
  | nil : KyBs K G [] []
  | cons {v : V} {vs : List V} {k : NestedKey} {ks : List NestedKey} : KyB K G v k → KyBs K G vs ks → KyBs K G (v :: vs) (k :: ks)
end
mutual
/-- the value is this nested key -/
inductive KyR (K : PySem.W.Frag) (G : Hp) : V → NestedKey → Prop
  | non : KyR K G .non .none
  | num (i : Int) : KyR K G (.int i) (.num i)
  | text (x : Str) : KyR K G (.str x) (.text x)
  | tup {a : Addr} {xs : List V} {ks : List NestedKey} : SqT K G a xs → KyRs K G xs ks → KyR K G (.ref a) (.tup ks)
inductive KyRs (K : PySem.W.Frag) (G : Hp) : List V → List NestedKey → Prop
  | nil : KyRs K G [] []
  | cons {v : V} {vs : List V} {k : NestedKey} {ks : List NestedKey} : KyR K G v k → KyRs K G vs ks → KyRs K G (v :: vs) (k :: ks)
end
section
variable (K : PySem.W.Frag) (G : Hp)
mutual
inductive Rp : V → Dat → Prop
  | non : Rp .non .non
  | bl (b : Bool) : Rp (.bl b) (.bl b)
  | int (i : Int) : Rp (.int i) (.int i)
  | str (x : Str) : Rp (.str x) (.str x)
  | lst {a : Addr} {xs : List V} {ds : List Dat} : G a = some (.lst xs) → RpA xs ds → Rp (.ref a) (.lst ds)
  | fro {a : Addr} {xs : List V} {ds : List Dat} : SqL K G a xs → RpA xs ds → Rp (.ref a) (.fro ds)
  | tup {a : Addr} {xs : List V} {ds : List Dat} : SqT K G a xs → RpA xs ds → Rp (.ref a) (.tup ds)
  | ins {a C dx : Addr} {fs : List (Str × V)} {ds : List (Str × Dat)} : G a = some (.ins C dx fs) → RpF fs ds → Rp (.ref a) (.ins C ds)
  | cls (C : Addr) : Rp (.ref C) (.cls C)
  | ty (n : String) : Rp (.ty n) (.ty n)
  | exc {a dd : Addr} {fs : List (Str × V)} {ds : List (Str × Dat)} : G dd = some (.xd fs) → RpF fs ds → Rp (.ref a) (.exc a dd ds)
  | slo {a C dx : Addr} {vs : List V} {ds : List Dat} : G a = some (SlX.SlO a C dx (vs.map some)) → G dx = some (.xd []) → dx ≠ a → RpA vs ds → Rp (.ref a) (.slo C ds)
  | tre {a C dx n : Addr} {f1 f2 : List (Str × V)} {us : List V} {d1 d2 : List (Str × Dat)} {g : Str} {es : List Dat} : G a = some (.ins C dx (f1 ++ (g, .ref n) :: f2)) → G n = some (.tup (.ref a :: us)) → RpF f1 d1 → RpF f2 d2 → RpA us es → Rp (.ref a) (.tre C d1 g es d2)
  | key {a : Addr} {ks : List Key} : G a = some (.tup (ks.map kV)) → Rp (.ref a) (.key ks)
  | dct {a : Addr} {o : Obj} {kvs : List (Key × V)} {ds : List (Key × Dat)} : G a = some (.frz o (.dK kvs)) → RpK kvs ds → Rp (.ref a) (.dct ds)
  | env {f : Addr} {vs : List V} {ds : List Dat} : RpA vs ds → Rp (.ref f) (.env f vs ds)
  | xcv {a C dx : Addr} {fs : List (Str × V)} {ds : List (Str × Dat)} : G a = some (L2.exo a C (some dx)) → G dx = some (L2.exd dx fs) → RpF fs ds → Rp (.ref a) (.xcv C ds)
  | xc0 {a C : Addr} : G a = some (L2.exo a C none) → Rp (.ref a) (.xc0 C)
  | ndd {a : Addr} {o : Obj} {w : World} {xs : List (NestedKey × Addr × V)} {ds : List (NestedKey × Dat)} : G a = some (.frz o (NdO w a xs)) → RpN xs ds → Rp (.ref a) (.ndd w ds)
  | tpn {a : Addr} {o : Obj} {xs : List V} {ds : List Dat} : G a = some (.frz o (.tup xs)) → o.dict = none → RpA xs ds → Rp (.ref a) (.tpn ds)
inductive RpA : List V → List Dat → Prop
  | nil : RpA [] []
  | cons {v : V} {vs : List V} {d : Dat} {ds : List Dat} : Rp v d → RpA vs ds → RpA (v :: vs) (d :: ds)
inductive RpF : List (Str × V) → List (Str × Dat) → Prop
  | nil : RpF [] []
  | cons {f : Str} {v : V} {fs : List (Str × V)} {d : Dat} {ds : List (Str × Dat)} : Rp v d → RpF fs ds → RpF ((f, v) :: fs) ((f, d) :: ds)
inductive RpN : List (NestedKey × Addr × V) → List (NestedKey × Dat) → Prop
  | nil : RpN [] []
  | cons {k : NestedKey} {ka : Addr} {v : V} {xs : List (NestedKey × Addr × V)} {d : Dat} {ds : List (NestedKey × Dat)} : KyR K G (.ref ka) k → k.depth ≤ 8 → Rp v d → RpN xs ds → RpN ((k, ka, v) :: xs) ((k, d) :: ds)
inductive RpK : List (Key × V) → List (Key × Dat) → Prop
  | nil : RpK [] []
  | cons {f : Key} {v : V} {fs : List (Key × V)} {d : Dat} {ds : List (Key × Dat)} : Rp v d → RpK fs ds → RpK ((f, v) :: fs) ((f, d) :: ds)
end
def SlOk (v : V) : Slot → Prop
  | .unk => True
  | .dat d => Rp K G v d
  | .own p => v = .ref p
def FlOk (a : Str × V) (b : Str × Slot) : Prop := a.1 = b.1 ∧ SlOk K G a.2 b.2
def OpOk : Option V → Option Slot → Prop
  | some v, some s => SlOk K G v s
  | none, none => True
  | _, _ => False
def KyOk (a : Key × V) (b : Key × Slot) : Prop := a.1 = b.1 ∧ SlOk K G a.2 b.2
def KtOk (a : List Key × V) (b : List Key × Slot) : Prop := a.1 = b.1 ∧ SlOk K G a.2 b.2
def NdOk (a : NestedKey × Addr × V) (b : NestedKey × Slot) : Prop := a.1 = b.1 ∧ KyR K G (.ref a.2.1) a.1 ∧ a.1.depth ≤ 8 ∧ SlOk K G a.2.2 b.2
def NdOkB (a : NestedKey × Addr × V) (b : NestedKey × Slot) : Prop := a.1 = b.1 ∧ KyB K G (.ref a.2.1) a.1 ∧ a.1.depth ≤ 8 ∧ SlOk K G a.2.2 b.2
def ClOk (p : Addr) (o : HO) : Cell → Prop
  | .lst ss => ∃ vs, o = .lst vs ∧ Paired (SlOk K G) vs ss
  | .ins C dx ss => ∃ fs, o = .ins C dx fs ∧ Paired (FlOk K G) fs ss
  | .dK ss => ∃ kvs, o = .dK kvs ∧ Paired (KyOk K G) kvs ss
  | .dT ss => ∃ kvs, o = .dT kvs ∧ Paired (KtOk K G) kvs ss
  | .exo C d => o = L2.exo p C d
  | .exd ss => ∃ fs, o = L2.exd p fs ∧ Paired (FlOk K G) fs ss
  | .slt C dx ss => G dx = some (.xd []) ∧ dx ≠ p ∧ ∃ vs, o = SlX.SlO p C dx vs ∧ Paired (OpOk K G) vs ss
  | .obj u => o = u
  | .tpl ss => ∃ vs, o = .tup vs ∧ Paired (SlOk K G) vs ss
  | .itr ds => ∃ t xs, o = TuO t p ∧ SqT K G t xs ∧ RpA K G xs ds
  | .nd w ss => ∃ xs, o = NdO w p xs ∧ Paired (NdOk K G) xs ss
  | .ndb w ss => ∃ xs, o = NdO w p xs ∧ Paired (NdOkB K G) xs ss
end
structure OwnOk (K : PySem.W.Frag) (O : Own) (H : Hp) : Prop where
  cell : ∀ p c, O p = some c → ∃ o, H p = some o ∧ ClOk K (hid O H) p o c
def EnvOk (K : PySem.W.Frag) (G : Hp) (x : Option V) : Slot → Prop
  | .unk => True
  | .dat d => ∃ v, x = some v ∧ Rp K G v d
  | .own p => x = some (.ref p)
structure StOk (K : PySem.W.Frag) (H0 : Hp) (O : Own) (σ : SV) (ρ : List Slot) (H : Hp) : Prop where
  own : OwnOk K O H
  base : Same H0 (hid O H)
  env : Paired (EnvOk K (hid O H)) σ ρ
inductive Exn where
  | own (C : Addr) (fs : List (Str × Dat))
  | own0 (C : Addr)
  | ty (n : String)
abbrev ExK := Exn → List Slot → Own → Prop
def noX : ExK := fun _ _ _ => False
def ExOk (K : PySem.W.Frag) (O : Own) (H : Hp) (cls : Value) (d : Option Addr) : Exn → Prop
  | .own C fs => cls = .ref C ∧ ∃ (dx : Addr) (fv : List (Str × V)), d = some dx ∧ O dx = none ∧ H dx = some (.xd fv) ∧ RpF K (hid O H) fv fs
  | .own0 C => cls = .ref C
  | .ty n => cls = .type n
def Wsem (K : PySem.W.Frag) (H0 : Hp) (x : ExK) : WX := fun cls d σ H => ∃ e ρ O, x e ρ O ∧ StOk K H0 O σ ρ H ∧ ExOk K O H cls d e
/-- a wall: what is behind it is not reduced -/
structure Bx (p : Prop) : Prop where
  r : p
section
variable (X : Cx)
def We (e : Expr) : TE := fun σ H Q => Bx (∀ (pins : List (Addr × Obj)) (s : Shared), Inv X pins σ H s → wpAny (model X.prog X.w) X.A (eval e X.env) (EP X pins σ Q) X.xe s)
def Wt (e : Expr) : TT := fun σ H Q => Bx (∀ (pins : List (Addr × Obj)) (s : Shared), Inv X pins σ H s → wpAny (model X.prog X.w) X.A (isTrue e X.env (eval e X.env)) (TP X pins σ Q) X.xe s)
def Ws (st : Stmt) : TS := fun D σ H => Bx (∀ (pins : List (Addr × Obj)) (s : Shared), Inv X pins σ H s → wpAny (model X.prog X.w) X.A (exec st X.env) (SP X pins D) X.xe s)
def Wss (st : List Stmt) : TS := fun D σ H => Bx (∀ (pins : List (Addr × Obj)) (s : Shared), Inv X pins σ H s → wpAny (model X.prog X.w) X.A (execs st X.env) (SP X pins D) X.xe s)
end
section
variable (X : Cx)
def EW (O : Own) (ρ : List Slot) (e : Expr) (x : ExK) (k : Slot → Own → Prop) : Prop :=
  ∀ H0 σ H, StOk X.K H0 O σ ρ H → Takes X (Wsem X.K H0 x) → ∀ Q : VK, (∀ v H' s O', k s O' → StOk X.K H0 O' σ ρ H' → SlOk X.K (hid O' H') v s → Q v H') → We X e σ H Q
def TW (O : Own) (ρ : List Slot) (e : Expr) (x : ExK) (k : Bool → Own → Prop) : Prop :=
  ∀ H0 σ H, StOk X.K H0 O σ ρ H → Takes X (Wsem X.K H0 x) → ∀ Q : Bool → Hp → Prop, (∀ b H' O', k b O' → StOk X.K H0 O' σ ρ H' → Q b H') → Wt X e σ H Q
structure SD where
  nx : List Slot → Own → Prop
  rt : Slot → Own → Prop
  bk : List Slot → Own → Prop := fun _ _ => False
  ct : List Slot → Own → Prop := fun _ _ => False
structure EndsOk (K : PySem.W.Frag) (H0 : Hp) (D : SD) (E : Ends) : Prop where
  nx : ∀ σ ρ O H, D.nx ρ O → StOk K H0 O σ ρ H → E.nx σ H
  rt : ∀ v s O H, D.rt s O → OwnOk K O H → Same H0 (hid O H) → SlOk K (hid O H) v s → E.rt v H
  bk : ∀ σ ρ O H, D.bk ρ O → StOk K H0 O σ ρ H → E.bk σ H
  ct : ∀ σ ρ O H, D.ct ρ O → StOk K H0 O σ ρ H → E.ct σ H
def S1 (O : Own) (ρ : List Slot) (st : Stmt) (x : ExK) (D : SD) : Prop :=
  ∀ H0 σ H, StOk X.K H0 O σ ρ H → Takes X (Wsem X.K H0 x) → ∀ E, EndsOk X.K H0 D E → Ws X st E σ H
def SW (O : Own) (ρ : List Slot) (st : List Stmt) (x : ExK) (D : SD) : Prop :=
  ∀ H0 σ H, StOk X.K H0 O σ ρ H → Takes X (Wsem X.K H0 x) → ∀ E, EndsOk X.K H0 D E → Wss X st E σ H
end
end Kn
namespace Kn
open PySem PySem.Spec PyProof.Rows
open L2 hiding St
end Kn
namespace Kn
open PySem PySem.Spec PyProof.Rows
open L2 hiding St
end Kn
namespace Kn
open PySem PySem.Spec PyProof.Rows
open L2 hiding St
end Kn
namespace Kn
open PySem PySem.Spec PyProof.Rows
open L2 hiding St
end Kn
namespace Kn
open PySem PySem.Spec PyProof.Rows
open L2 hiding St
end Kn
namespace Kn
open PySem PySem.Spec PyProof.Rows
open L2 hiding St
end Kn
namespace Kn
open PySem PySem.Spec PyProof.Rows
open L2 hiding St
end Kn
namespace Kn
open PySem PySem.Spec PyProof.Rows
open L2 hiding St
def ltrs : Str := "abcdefghijklmnopqrstuvwxyz"
def digs : Str := "0123456789"
def takenW : List Str := ["any", "other", "where"]
end Kn
namespace Kn
open PySem PySem.Spec PyProof.Rows
open L2 hiding St
def Sub (O' O : Own) : Prop := ∀ p c, O' p = some c → O p = some c
def strsOf : List Value → Option (List Str)
  | [] => some []
  | .str z _ :: r => (strsOf r).map (z :: ·)
  | _ :: _ => none
end Kn
namespace Kn
open PySem PySem.Spec PyProof.Rows
open L2 hiding St
end Kn
namespace Kn
open PySem PySem.Spec PyProof.Rows
open L2 hiding St
end Kn
namespace Kn
open PySem PySem.Spec PyProof.Rows
open L2 hiding St
end Kn
namespace KnX
open PySem PySem.Spec PyProof.Rows
end KnX
namespace Kn
open PySem PySem.Spec PyProof.Rows
open L2 hiding St
end Kn
namespace Kn
open PySem PySem.Spec PyProof.Rows
open L2 hiding St
/-- an exception at a that has come down to our frame; s0: the state in which it was let out -/
structure Down (X : Cx) (pins : List (Addr × Obj)) (σ : SV) (H : Hp) (cls : Value) (d : Option Addr) (a : Addr) (B : Heap) (s0 s : Shared) : Prop where
  inv : Inv X pins σ H s0
  ground : ∀ b o, s0.heap.get? b = some o → b ∉ frs X.stack → B.get? b = some o
  fly : HandSPX.FlyingZ B X.stack a (Zc cls d) s.heap
  up : s0.heap.UpToSlots s.heap
  free : H a = none
  os : s.os = s0.os
  bare : AllBare s.gens
end Kn
namespace Kn
open PySem PySem.Spec PyProof.Rows
open L2 hiding St
end Kn
namespace Kn
open PySem PySem.Spec PyProof.Rows
open L2 hiding St
end Kn
namespace KnX
open PySem PySem.Spec PyProof.Rows L2
end KnX
namespace KnX
open PySem PySem.Spec PyProof.Rows L2
end KnX
namespace Kn
open PySem PySem.Spec PyProof.Rows
open L2 hiding St
end Kn
namespace Kn
open PySem PySem.Spec PyProof.Rows
open L2 hiding St
end Kn
namespace Kn
open PySem PySem.Spec PyProof.Rows
open L2 hiding St
end Kn
namespace Kn
open PySem PySem.Spec PyProof.Rows
open L2 hiding St
end Kn
namespace Kn
open PySem PySem.Spec PyProof.Rows
open L2 hiding St
end Kn
namespace Kn
open PySem PySem.Spec PyProof.Rows
open L2 hiding St
end Kn
namespace Kn
open PySem PySem.Spec PyProof.Rows
open L2 hiding St
end Kn
namespace Kn
open PySem PySem.Spec PyProof.Rows
open L2 hiding St
end Kn
namespace Kn
open PySem PySem.Spec PyProof.Rows
open L2 hiding St
end Kn
namespace Kn
open PySem PySem.Spec PyProof.Rows
open L2 hiding St
end Kn
namespace Kn
open PySem PySem.Spec PyProof.Rows
open L2 hiding St
end Kn
namespace Kn
open PySem PySem.Spec PyProof.Rows
open L2 hiding St
end Kn
namespace Kn
open PySem PySem.Spec PyProof.Rows
open L2 hiding St
end Kn
namespace KnS
open PySem PySem.Spec PyProof.Rows L2
open PySem.Froz (SD sObj TxOk addTx add_x add_ok is_str)

/-- its table can be read in order -/
def Told (w : World) (t : SetTable) : Prop := Ris t.place.toList ∧ (w.params.followText "set-order" = true ∨ t.led = true)
/-- at a lies the set of just the texts l -/
def TxS (P : Program) (w : World) (h : Heap) (a : Addr) (l : List Str) : Prop := ∃ D : SD, h.get? a = some (sObj "set" D) ∧ TxOk P w D l ∧ l.Nodup ∧ Told w D.2.2
end KnS
namespace Kn
open PySem PySem.Spec PyProof.Rows
open L2 hiding St
open KnS
end Kn
namespace Kn
open PySem PySem.Spec PyProof.Rows
open L2 hiding St
end Kn
namespace KnX
open PySem PySem.Spec PyProof.Rows L2
end KnX
namespace Kn
open PySem PySem.Spec PyProof.Rows KnX
open L2 hiding St
end Kn
namespace Kn
open PySem PySem.Spec PyProof.Rows
open L2 hiding St
end Kn
namespace Kn
open PySem PySem.Spec PyProof.Rows
open L2 hiding St
end Kn
namespace KnS
open PySem PySem.Spec PyProof.Rows L2
open PySem.Froz (SD sObj TxOk)

end KnS
namespace Kn
open PySem PySem.Spec PyProof.Rows
open L2 hiding St
open KnS
end Kn
namespace Kn
open PySem PySem.Spec PyProof.Rows
open L2 hiding St
end Kn
namespace Kn
open PySem PySem.Spec PyProof.Rows
open L2 hiding St
end Kn
namespace Kn
open PySem PySem.Spec PyProof.Rows
open L2 hiding St
end Kn
namespace Kn
open PySem PySem.Spec PyProof.Rows
open L2 hiding St
end Kn
namespace Kn
open PySem PySem.Spec PyProof.Rows
open L2 hiding St
end Kn
namespace KnX
open PySem PySem.Spec PyProof.Rows L2
end KnX
namespace Kn
open PySem PySem.Spec PyProof.Rows
open L2 hiding St
end Kn
namespace Kn
open PySem PySem.Spec PyProof.Rows
open L2 hiding St
end Kn
namespace Kn
open PySem PySem.Spec PyProof.Rows
open L2 hiding St
end Kn
namespace Kn
open PySem PySem.Spec PyProof.Rows
open L2 hiding St
end Kn
namespace Kn
open PySem PySem.Spec PyProof.Rows
open L2 hiding St
open PySem.W (EachIs AllAlike Sortable dataLe)
end Kn
namespace Kn
open PySem PySem.Spec PyProof.Rows
open L2 hiding St
end Kn
namespace Kn
open PySem PySem.Spec PyProof.Rows
open L2 hiding St
end Kn
namespace Kn
open PySem PySem.Spec PyProof.Rows
open L2 hiding St
end Kn
namespace Kn
open PySem PySem.Spec PyProof.Rows
open L2 hiding St
open PySem.W (EachIs AllAlike Sortable dataLe sorted_data)
end Kn
namespace Kn
open PySem PySem.Spec PyProof.Rows
open L2 hiding St
end Kn
namespace Kn
open PySem PySem.Spec PyProof.Rows
open L2 hiding St
end Kn
namespace Kn
open PySem PySem.Spec PyProof.Rows
open L2 hiding St
end Kn
namespace Kn
open PySem PySem.Spec PyProof.Rows
open L2 hiding St
/-- a list run to its end, its addresses as numbers -/
def ran {α : Type} : PySem.W.Frag → (PySem.W.Frag → α) → α
  | [], k => k []
  | q :: r, k => HandSHeadRun.frNat q.1 fun a => ran r fun z => k ((a, q.2) :: z)
/-- the places from lo on, n of them -/
def places (lo : Nat) : Nat → List Addr
  | 0 => []
  | n + 1 => lo :: places (lo + 1) n
/-- the objects that are looked at: the module's names, the built-in ones, and what stands at the places -/
def partOf (g : Addr → Option Obj) (lo n : Nat) : PySem.W.Frag := He.frG g (mainGlobals :: cStatics :: builtinsNs :: places lo n)
abbrev Place := PySem.W.Frag → Addr
def pGlo (x : Str) : Place := fun K => He.ga K x
def pMeth (C m : Str) : Place := fun K => He.ma K (He.ga K C) m
/-- the function that a record of that kind holds -/
def heldBy (kind : String) (K : PySem.W.Frag) (p : Addr) : Addr := match PySem.W.recIn K p kind with
  | some (.ref f :: _) => f
  | _ => 0
def pProp (C m : Str) : Place := fun K => heldBy "property" K (He.ma K (He.ga K C) m)
def pCls (C m : Str) : Place := fun K => heldBy "classmethod" K (He.ma K (He.ga K C) m)
def txtOf : Data → He.FnW
  | .func d => some (d.name, d.qualname, d.params, d.body, d.scope, d.globals, d.closure, d.builtins)
  | _ => none
def txtAt (K : PySem.W.Frag) (a : Addr) : He.FnW := (K.lookup a).bind fun o => txtOf o.data
def txtIs (nm qual : Str) (st : Stmt) : He.FnW := some (nm, qual, defArgs st, .stmts (defBody st), defScope st, mainGlobals, [], builtinsNs)
/-- what its defaults are: none, or one object -/
def dflNo (d : FuncData) : Bool := decide (d.defaults = .none)
def dflOne (K : PySem.W.Frag) (d : FuncData) : Bool := match d.defaults with
  | .ref T => (match K.lookup T with
    | some ⟨_, _, .seq ⟨[.ref _]⟩ _, _⟩ => true
    | _ => false)
  | _ => false
def fnB (K : PySem.W.Frag) (a : Addr) (qual : Str) (dfl : FuncData → Bool) : Bool := PySem.W.keepIn K (.ref a) && match (K.lookup a).map Obj.data with
  | some (.func d) => PySem.W.codeIn K d.code qual && dfl d
  | _ => false
section
variable {K : PySem.W.Frag} {x y nm qual bn C m f : Str} {st : Stmt} {i : Int} {zs : List Str}
abbrev val (K : PySem.W.Frag) (x : Str) : Option (Option Value) := PySem.W.nsIn K mainGlobals x
abbrev att (K : PySem.W.Frag) (C : Addr) (x : Str) : Option (Option Value) := PySem.W.findIn K (.ref C) x
def isV (r : Option (Option Value)) (v : Value) : Bool := He.eqO r (some (some v))
def isNo (r : Option (Option Value)) : Bool := He.eqO r (some none)
def freeB (x : Str) (K : PySem.W.Frag) : Bool := isNo (val K x)
def textB (x y : Str) (K : PySem.W.Frag) : Bool := match val K x with
  | some (some (.str z _)) => decide (z = y)
  | _ => false
/-- a tuple of texts at a -/
def tupB (K : PySem.W.Frag) (a : Addr) (zs : List Str) : Bool := match K.lookup a with
  | some ⟨.type c, _, .seq its _, _⟩ => decide (c = "tuple") && (Nat.ble its.size sizeLine && decide (strsOf its.toList = some zs))
  | _ => false
def gloB (x : Str) (K : PySem.W.Frag) : Bool := isV (val K x) (.ref (He.ga K x))
def textsB (x : Str) (zs : List Str) (K : PySem.W.Frag) : Bool := gloB x K && tupB K (He.ga K x) zs
def defB (x : Str) (K : PySem.W.Frag) : Bool := gloB x K && fnB K (He.ga K x) x dflNo
def subB (K : PySem.W.Frag) (C : Addr) (v : Value) (b : Bool) : Bool := decide (PySem.W.subIn K (.ref C) v = some b)
def tyB (K : PySem.W.Frag) (a : Addr) (v : Value) : Bool := decide (PySem.W.typeIn K (.ref a) = some v)
def rdB (K : PySem.W.Frag) (C : Addr) : Bool := PySem.W.readsIn K C (.type "type") && isV (PySem.W.specialIn K (.ref C) "__getattribute__") (.builtin "type.__getattribute__")
def excB0 (K : PySem.W.Frag) (C : Addr) : Bool := match K.lookup C with
  | some ⟨.type c, _, .cls cd, ⟨[_, _, _, _, some (.builtin z), _]⟩⟩ => decide (c = "type") && (decide (z = "ValueError.__new__") && (cd.hasDict && (!cd.hasDel && match cd.mro with
    | .ref D :: bm => decide (D = C) && PySem.HandSPX.refsVE bm
    | _ => false)))
  | _ => false
def xgB (K : PySem.W.Frag) (C : Addr) : Bool := isV (att K C "__getattribute__") (.builtin "BaseException.__getattribute__") && (isNo (att K C "__getattr__") && (subB K C (.type "BaseException") true && PySem.W.hasDictIn K C))
def clB (K : PySem.W.Frag) (C : Addr) : Bool := isV (att K C "__class__") (.builtin "object.__class__") && (isV (PySem.W.specialIn K (.builtin "object.__class__") "__get__") (.builtin "getset_descriptor.__get__") && (decide (PySem.W.takesIn K (.builtin "object.__class__") = some true) && decide (PySem.W.mroIn K C (.type "object") = some true)))
/-- what of the class itself is asked, what of the one that it is derived from -/
def excB1 (K : PySem.W.Frag) (C : Addr) : Bool := excB0 K C && (isV (att K C "__setattr__") (.builtin "object.__setattr__") && (tyB K C (.type "type") && (PySem.W.keepIn K (.ref C) && (xgB K C && (clB K C && subB K C (.ref C) true)))))
def baseB (K : PySem.W.Frag) (C B : Addr) : Bool := subB K C (.ref B) true && (tyB K B (.type "type") && (PySem.W.isClsIn K B && (rdB K B && match PySem.W.findCls K (.ref B) (.type "type") "__init__" with
  | some (.val (.builtin z)) => decide (z = "ValueError.__init__")
  | _ => false)))
def iniB (K : PySem.W.Frag) (C : Addr) (qual : Str) : Bool := isV (att K C "__init__") (.ref (He.ma K C "__init__")) && (tyB K (He.ma K C "__init__") (.type "function") && fnB K (He.ma K C "__init__") qual dflNo)
def excB (nm qual bn : Str) (fs : List Str) (K : PySem.W.Frag) : Bool := gloB nm K && (gloB bn K && (excB1 K (He.ga K nm) && (baseB K (He.ga K nm) (He.ga K bn) && (iniB K (He.ga K nm) qual && fs.all fun f => isNo (att K (He.ga K nm) f)))))
def plB (K : PySem.W.Frag) (C : Addr) : Bool := PySem.W.plainGet K C Str.empty && (PySem.W.plainOver K C && isV (att K C "__setattr__") (.builtin "object.__setattr__"))
def clsB (nm : Str) (K : PySem.W.Frag) : Bool := gloB nm K && (plB K (He.ga K nm) && (PySem.W.hasDictIn K (He.ga K nm) && (clB K (He.ga K nm) && (PySem.W.makesIn K (He.ga K nm) && (PySem.W.keepIn K (.ref (He.ga K nm)) && (rdB K (He.ga K nm) && isV (att K (He.ga K nm) "__ne__") (.builtin "object.__ne__")))))))
def slsB (nm : Str) (K : PySem.W.Frag) : Bool := gloB nm K && (plB K (He.ga K nm) && (PySem.W.isClsIn K (He.ga K nm) && (PySem.W.makesIn K (He.ga K nm) && PySem.W.keepIn K (.ref (He.ga K nm)))))
def methB (C m qual : Str) (K : PySem.W.Frag) : Bool := isV (att K (He.ga K C) m) (.ref (pMeth C m K)) && (PySem.W.isFn K (.ref (pMeth C m K)) && fnB K (pMeth C m K) qual dflNo)
def methDB (C m qual : Str) (K : PySem.W.Frag) : Bool := isV (att K (He.ga K C) m) (.ref (pMeth C m K)) && (PySem.W.isFn K (.ref (pMeth C m K)) && fnB K (pMeth C m K) qual (dflOne K))
def cmethB (C m qual : Str) (K : PySem.W.Frag) : Bool := fnB K (pCls C m K) qual dflNo && (PySem.W.fnIn K (pCls C m K) && (match PySem.W.findCls K (.ref (He.ga K C)) (.type "type") m with
  | some (.get (.builtin z) (.ref p) .none (.ref D)) => decide (z = "classmethod.__get__") && (decide (D = He.ga K C) && decide (p = He.ma K (He.ga K C) m))
  | _ => false) && match PySem.W.recIn K (He.ma K (He.ga K C) m) "classmethod" with
  | some (.ref f :: _) => decide (f = pCls C m K)
  | _ => false)
def propB (C m qual : Str) (K : PySem.W.Frag) : Bool := fnB K (pProp C m K) qual dflNo && (isV (att K (He.ga K C) m) (.ref (He.ma K (He.ga K C) m)) && (isV (PySem.W.specialIn K (.ref (He.ma K (He.ga K C) m)) "__get__") (.builtin "property.__get__") &&
  (decide (PySem.W.takesIn K (.ref (He.ma K (He.ga K C) m)) = some true) && match PySem.W.recIn K (He.ma K (He.ga K C) m) "property" with
  | some (.ref f :: _) => decide (f = pProp C m K)
  | _ => false)))
def slotB (C f : Str) (i : Nat) (K : PySem.W.Frag) : Bool := isV (att K (He.ga K C) f) (.ref (He.ma K (He.ga K C) f)) && (isV (PySem.W.specialIn K (.ref (He.ma K (He.ga K C) f)) "__get__") (.builtin "member_descriptor.__get__") &&
  (decide (PySem.W.takesIn K (.ref (He.ma K (He.ga K C) f)) = some true) && (tyB K (He.ma K (He.ga K C) f) (.type "member_descriptor") && (decide (PySem.W.slotIn K (He.ma K (He.ga K C) f) (He.ga K C) = some i) && Nat.blt i 1000))))
def noAtB (C f : Str) (K : PySem.W.Frag) : Bool := isNo (att K (He.ga K C) f)
def isClsB (x : Str) (K : PySem.W.Frag) : Bool := gloB x K && (PySem.W.isClsIn K (He.ga K x) && tyB K (He.ga K x) (.type "type"))
end
structure Look where
  says : List (PySem.W.Frag → Bool)
  funs : List (Place × Str × Str × Stmt)
namespace Look
abbrev Got : Type := Bool × List He.FnW
def seen (L : Look) (K : PySem.W.Frag) : Got := (L.says.all fun f => f K, L.funs.map fun q => txtAt K (q.1 K))
def good (L : Look) : Got := (true, L.funs.map fun q => txtIs q.2.1 q.2.2.1 q.2.2.2)
/-- what is seen off the tree -/
def ob (L : Look) (lo len : Nat) (s : PySem.W.SharedT) : Got := ran (partOf (HandSHeadRun.getT s) lo len) L.seen
end Look
end Kn
namespace Kn
open PySem PySem.Spec PyProof.Rows
open L2 hiding St
end Kn
namespace Kn
open PySem PySem.Spec PyProof.Rows
open L2 hiding St
end Kn
namespace Kn
open PySem PySem.Spec PyProof.Rows
open L2 hiding St
def dflEmp (K : PySem.W.Frag) (d : FuncData) : Bool := match d.defaults with
  | .ref T => (match K.lookup T with
    | some ⟨_, _, .seq ⟨[.ref a]⟩ _, _⟩ => (match K.lookup a with
      | some ⟨.type c, _, .seq ⟨[]⟩ _, _⟩ => decide (c = "tuple")
      | _ => false)
    | _ => false)
  | _ => false
section
variable {K : PySem.W.Frag} {nm qual : Str} {st : Stmt}
def empDB (nm qual : Str) (K : PySem.W.Frag) : Bool := gloB nm K && (isV (att K (He.ga K nm) "__init__") (.ref (pMeth nm "__init__" K)) && (PySem.W.isFn K (.ref (pMeth nm "__init__" K)) && fnB K (pMeth nm "__init__" K) qual (dflEmp K)))
end
end Kn
namespace Kn
open PySem PySem.Spec PyProof.Rows
open L2 hiding St
end Kn
namespace Kn
open PySem PySem.Spec PyProof.Rows
open L2 hiding St
end Kn
namespace Kn
open PySem PySem.Spec PyProof.Rows
open L2 hiding St
end Kn
namespace Kn
open PySem PySem.Spec PyProof.Rows
open L2 hiding St
end Kn
namespace Kn
open PySem
/-- a yield out of a generator, at which nothing shows -/
def MildY (s : Shared) (t : Thread) : Prop := match t.cur with
  | .yield _ g _ _ => match splitAtGen t.stack with
    | some (fs, _, _) => s.heap.life.registered = [] → closingShows s fs t.code g = false
    | none => False
  | _ => False
def Mild (s : Shared) (t : Thread) : Prop := t.calm = true ∨ MildY s t
inductive Go (M : Model) : Shared → Thread → Shared → Thread → Prop
  | refl (s : Shared) (t : Thread) : Go M s t s t
  | step {s s1 s' : Shared} {t t1 t' : Thread} : Mild s t → stepK M.den M.prog M.w s t = .go s1 t1 → Go M s1 t1 s' t' → Go M s t s' t'
end Kn
namespace Kn
open PySem
end Kn
namespace Kn
open PySem
end Kn
namespace Kn
open PySem PySem.Spec PyProof.Rows
open L2 hiding St
open LamX (CodeO TabB LamS lamCx lamEnv)
end Kn
namespace Kn
open PySem PySem.Spec PyProof.Rows
open L2 hiding St
end Kn
namespace Kn
open PySem PySem.Spec PyProof.Rows
/-- a continuation that no run goes through -/
def stuckK : Resume → Sem PySem.Fin := fun _ => .unsupported "asleep"
/-- the generator as it is, and as it is masked -/
inductive Agree : GenState → GenState → Prop
  | same (x : GenState) : Agree x x
  | hid (k : Resume → Sem PySem.Fin) (l : List Value) (c : Code) (p : Pos) (fs : List Frame) (cl : Bool) : Agree (.suspended k l c p fs cl) (.suspended stuckK l c p fs cl)
def IsStuck (x : GenState) : Prop := ∃ l c p fs cl, x = GenState.suspended stuckK l c p fs cl
structure GensOk (a b : Array GenState) : Prop where
  size : a.size = b.size
  at_ : ∀ (i : Nat) (x y : GenState), a[i]? = some x → b[i]? = some y → Agree x y
def Clean (b : Array GenState) : Prop := ∀ (i : Nat) (k : Resume → Sem PySem.Fin) (l : List Value) (c : Code) (p : Pos) (fs : List Frame) (cl : Bool), b[i]? = some (GenState.suspended k l c p fs cl) → k = stuckK ∨ splitAtGen fs = none
def Stay (a b a' b' : Array GenState) : Prop := ∀ (i : Nat) (y : GenState), b[i]? = some y → IsStuck y → b'[i]? = some y ∧ a'[i]? = a[i]?
/-- the store with other generators -/
abbrev wg (s : Shared) (G : Array GenState) : Shared := { s with gens := G }
end Kn
namespace Kn
open PySem PySem.Spec PyProof.Rows
/-- from the masked store m with the real generators G: the real end s', the masked one m' -/
def Twin (G : Array GenState) (m s' m' : Shared) : Prop := ∃ G', s' = wg m' G' ∧ GensOk G' m'.gens ∧ Clean m'.gens ∧ Stay G m.gens G' m'.gens
/-- s' is m' but for generators, which are as bare -/
structure Like (s' m' : Shared) : Prop where
  gens : ∃ G', s' = wg m' G' ∧ GensOk G' m'.gens
end Kn
namespace Kn
open PySem PySem.Spec PyProof.Rows
open L2 hiding St
end Kn
namespace Kn
open PySem PySem.Spec PyProof.Rows
open L2 hiding St
/-- a generator's call, but for the frames above it -/
structure Gn where
  P : Program
  w : World
  K : PySem.W.Frag
  mg : Str → Option Value
  base : Heap
  N : List Str
  qual : Str
  scope : Scope
  f : Addr
  cd : Value
  L : Addr
abbrev Gn.env (g : Gn) : Env := envOfC g.qual g.scope g.L g.f g.cd
abbrev Gn.cx (g : Gn) (A : Around) (outer : List Env) (s0 : Shared) (H0 : Hp) : Cx where
  prog := g.P
  w := g.w
  K := g.K
  mg := g.mg
  base := g.base
  A := A.deeper g.env
  N := g.N
  s_0 := s0
  H_0 := H0
  env := g.env
  outer := outer
  stack := g.env :: outer
  ex := []
  calm := true
  fn := fun _ => true
  pn := []
  xe := fun _ _ => False
section
variable (g : Gn) (A : Around) (outer : List Env) (Cons : Addr → Prop) (ds : List Dat) (Sl : Nat → List Slot → Own → Prop)
/-- what its consumer has stays -/
def Off (Cons : Addr → Prop) (O O' : Own) : Prop := ∀ p, Cons p → O' p = O p
end
section
variable {g : Gn} {A : Around} {outer : List Env} {Cons : Addr → Prop} {ds : List Dat} {Sl Lp : Nat → List Slot → Own → Prop} {test e : Expr} {ab bb : List Stmt} {yp yq wp : Pos} {first : Stmt}
/-- what the generator's text does between its yields -/
structure GText (g : Gn) (A : Around) (outer : List Env) (Cons : Addr → Prop) (ds : List Dat) (Sl Lp : Nat → List Slot → Own → Prop) (first : Stmt) (test : Expr) (ab : List Stmt) (e : Expr) (bb : List Stmt) : Prop where
  start : ∀ s0 H0 ρ O, Sl 0 ρ O → S1 (g.cx A outer s0 H0) O ρ first noX { nx := fun ρ' O' => Lp 0 ρ' O' ∧ Off Cons O O', rt := fun _ _ => False }
  head : ∀ s0 H0 i ρ O, Lp i ρ O → TW (g.cx A outer s0 H0) O ρ test noX fun b O' => (b = true → Off Cons O O' ∧ SW (g.cx A outer s0 H0) O' ρ ab noX { nx := fun ρ' O2 => EW (g.cx A outer s0 H0) O2 ρ' e noX fun z O3 => ∃ d, z = .dat d ∧ ds[i]? = some d ∧ Sl (i + 1) ρ' O3 ∧ Off Cons O' O3, rt := fun _ _ => False }) ∧
    (b = false → i = ds.length ∧ Off Cons O O')
  tail : ∀ s0 H0 i ρ O, Sl (i + 1) ρ O → SW (g.cx A outer s0 H0) O ρ bb noX { nx := fun ρ' O' => Lp (i + 1) ρ' O' ∧ Off Cons O O', rt := fun _ _ => False }
def GText.body (first : Stmt) (test : Expr) (ab : List Stmt) (e : Expr) (bb : List Stmt) (yp yq wp : Pos) : List Stmt := [first, .While test (ab ++ .Expr (.Yield (some e) yp) yq :: bb) [] wp]
end
end Kn
namespace Kn
open PySem PySem.Spec PyProof.Rows
open L2 hiding St
end Kn
namespace Kn
open PySem PySem.Spec PyProof.Rows
open L2 hiding St
end Kn
namespace Kn
open PySem PySem.Spec PyProof.Rows
open L2 hiding St
end Kn
namespace Kn
open PySem PySem.Spec PyProof.Rows
open L2 hiding St
end Kn
namespace Kn
open PySem PySem.Spec PyProof.Rows
open L2 hiding St
end Kn
namespace Kn
open PySem PySem.Spec PyProof.Rows
open L2 hiding St
end Kn
namespace Kn
open PySem PySem.Spec PyProof.Rows
open L2 hiding St
end Kn
namespace Kn
open PySem PySem.Spec PyProof.Rows
open L2 hiding St
end Kn
namespace Kn
open PySem PySem.Spec PyProof.Rows
open L2 hiding St
end Kn
namespace Kn
open PySem PySem.Spec PyProof.Rows
open L2 hiding St
end Kn
namespace Kn
open PySem PySem.Spec PyProof.Rows
open L2 hiding St
end Kn
namespace Kn
open PySem PySem.Spec PyProof.Rows
open L2 hiding St
end Kn
namespace Kn
open PySem PySem.Spec PyProof.Rows
open L2 hiding St
end Kn
namespace Kn
open PySem PySem.Spec PyProof.Rows
open L2 hiding St
end Kn
namespace Kn
open PySem PySem.Spec PyProof.Rows
open L2 hiding St
end Kn
namespace Kn
open PySem PySem.Spec PyProof.Rows
open L2 hiding St
end Kn
namespace Kn
open PySem PySem.Spec PyProof.Rows
open L2 hiding St
end Kn
namespace Kn
open PySem PySem.Spec PyProof.Rows
open L2 hiding St
open PySem.W PySem.Calls
end Kn
namespace Kn
open PySem PySem.Spec PyProof.Rows
open L2 hiding St
end Kn
namespace Kn
open PySem PySem.Spec PyProof.Rows PySem.Calls
open L2 hiding St
end Kn
namespace Kn
open PySem PySem.Spec PyProof.Rows
open L2 hiding St
end Kn
namespace Lw
open PySem PySem.Spec PyProof.Rows
open L2 hiding St
open Kn
def topS (i : Nat) : Stmt := PySem.Challenge.pw_keptnomore_k03_trees_told.main.body.getD i (.Pass ⟨0, 0, 0, 0⟩)
abbrev s_split_words : Stmt := topS 4
abbrev s_is_made_of : Stmt := topS 5
abbrev s_is_name : Stmt := topS 6
abbrev s_is_figure : Stmt := topS 7
abbrev s_is_mark : Stmt := topS 8
abbrev s_own_copy : Stmt := topS 9
abbrev s_NoTree_init : Stmt := inClass (topS 12) 0
abbrev s_is_event : Stmt := topS 14
abbrev s_event_of : Stmt := topS 15
abbrev s_Row_init : Stmt := inClass (topS 16) 1
abbrev s_Row_is_whole : Stmt := inClass (topS 16) 2
abbrev s_Row_can_take : Stmt := inClass (topS 16) 3
abbrev s_Row_take : Stmt := inClass (topS 16) 4
abbrev s_Tree_init : Stmt := inClass (topS 17) 0
abbrev s_Tree_read : Stmt := inClass (topS 17) 1
abbrev s_Tree_from_events : Stmt := inClass (topS 17) 2
abbrev s_Tree_len : Stmt := inClass (topS 17) 3
abbrev s_Tree_iter : Stmt := inClass (topS 17) 4
abbrev s_Tree_eq : Stmt := inClass (topS 17) 5
abbrev s_Tree_str : Stmt := inClass (topS 17) 6
abbrev s_Tree_events : Stmt := inClass (topS 17) 7
abbrev s_law_box : Stmt := topS 19
abbrev s_law_take : Stmt := topS 20
abbrev s_law_mixed : Stmt := topS 21
abbrev s_law_names : Stmt := topS 22
abbrev s_law_tree : Stmt := topS 23
abbrev s_law_events : Stmt := topS 24
abbrev s_law_text : Stmt := topS 25
abbrev s_law_nodes : Stmt := topS 26
abbrev s_law_built : Stmt := topS 27
abbrev s_law_near : Stmt := topS 28
abbrev s_law_told_right : Stmt := topS 29
abbrev s_law : Stmt := topS 30
def k_NAME_LETTERS : Str := ltrs
def k_DIGITS : Str := digs
def k_TAKEN : List Str := takenW
end Lw
namespace LwE
open PySem PySem.W PyProof.Rows Lw
def says0_0 : List (Frag → Bool) := [Kn.freeB "isinstance",
  Kn.freeB "str",
  Kn.freeB "all",
  Kn.freeB "len",
  Kn.freeB "int",
  Kn.freeB "bool",
  Kn.freeB "list",
  Kn.freeB "tuple",
  Kn.freeB "property",
  Kn.freeB "classmethod",
  Kn.freeB "enumerate",
  Kn.freeB "iter",
  Kn.freeB "abs",
  Kn.freeB "range",
  Kn.freeB "repr",
  Kn.freeB "max"]
def says0_1 : List (Frag → Bool) := [Kn.freeB "min",
  Kn.defB "split_words",
  Kn.defB "is_made_of",
  Kn.defB "is_name",
  Kn.defB "is_figure",
  Kn.defB "is_mark",
  Kn.defB "own_copy",
  Kn.defB "is_event",
  Kn.defB "event_of",
  Kn.defB "_law_box",
  Kn.defB "_law_take",
  Kn.defB "_law_mixed",
  Kn.defB "_law_names",
  Kn.defB "_law_tree",
  Kn.defB "_law_events",
  Kn.defB "_law_text"]
def says0_2 : List (Frag → Bool) := [Kn.defB "_law_nodes",
  Kn.defB "_law_built",
  Kn.defB "_law_near",
  Kn.defB "_law_told_right",
  Kn.defB "law",
  Kn.textB "NAME_LETTERS" k_NAME_LETTERS,
  Kn.textB "DIGITS" k_DIGITS,
  Kn.textsB "TAKEN" k_TAKEN,
  Kn.excB "NoTree" "NoTree.__init__" "KeptError" ["at"],
  Kn.slsB "Row",
  Kn.methB "Row" "__init__" "Row.__init__",
  Kn.propB "Row" "is_whole" "Row.is_whole",
  Kn.methB "Row" "can_take" "Row.can_take",
  Kn.methB "Row" "take" "Row.take",
  Kn.slotB "Row" "done" 0,
  Kn.slotB "Row" "heads" 1]
def says0_3 : List (Frag → Bool) := [Kn.slotB "Row" "rows" 2,
  Kn.clsB "Tree",
  Kn.methDB "Tree" "__init__" "Tree.__init__",
  Kn.cmethB "Tree" "read" "Tree.read",
  Kn.cmethB "Tree" "from_events" "Tree.from_events",
  Kn.methB "Tree" "__len__" "Tree.__len__",
  Kn.methB "Tree" "__iter__" "Tree.__iter__",
  Kn.methB "Tree" "__eq__" "Tree.__eq__",
  Kn.methB "Tree" "__str__" "Tree.__str__",
  Kn.methB "Tree" "events" "Tree.events",
  Kn.noAtB "Tree" "name",
  Kn.noAtB "Tree" "mark",
  Kn.noAtB "Tree" "children",
  Kn.noAtB "Tree" "nodes",
  Kn.noAtB "Tree" "text"]
def says0_ : List (Frag → Bool) := says0_0 ++ says0_1 ++ says0_2 ++ says0_3
def funs0_0 : List (Kn.Place × Str × Str × Stmt) := [(Kn.pGlo "split_words", "split_words", "split_words", s_split_words),
  (Kn.pGlo "is_made_of", "is_made_of", "is_made_of", s_is_made_of),
  (Kn.pGlo "is_name", "is_name", "is_name", s_is_name),
  (Kn.pGlo "is_figure", "is_figure", "is_figure", s_is_figure),
  (Kn.pGlo "is_mark", "is_mark", "is_mark", s_is_mark),
  (Kn.pGlo "own_copy", "own_copy", "own_copy", s_own_copy),
  (Kn.pGlo "is_event", "is_event", "is_event", s_is_event),
  (Kn.pGlo "event_of", "event_of", "event_of", s_event_of),
  (Kn.pGlo "_law_box", "_law_box", "_law_box", s_law_box),
  (Kn.pGlo "_law_take", "_law_take", "_law_take", s_law_take),
  (Kn.pGlo "_law_mixed", "_law_mixed", "_law_mixed", s_law_mixed),
  (Kn.pGlo "_law_names", "_law_names", "_law_names", s_law_names),
  (Kn.pGlo "_law_tree", "_law_tree", "_law_tree", s_law_tree),
  (Kn.pGlo "_law_events", "_law_events", "_law_events", s_law_events),
  (Kn.pGlo "_law_text", "_law_text", "_law_text", s_law_text),
  (Kn.pGlo "_law_nodes", "_law_nodes", "_law_nodes", s_law_nodes)]
def funs0_1 : List (Kn.Place × Str × Str × Stmt) := [(Kn.pGlo "_law_built", "_law_built", "_law_built", s_law_built),
  (Kn.pGlo "_law_near", "_law_near", "_law_near", s_law_near),
  (Kn.pGlo "_law_told_right", "_law_told_right", "_law_told_right", s_law_told_right),
  (Kn.pGlo "law", "law", "law", s_law),
  (Kn.pMeth "NoTree" "__init__", "__init__", "NoTree.__init__", s_NoTree_init),
  (Kn.pMeth "Row" "__init__", "__init__", "Row.__init__", s_Row_init),
  (Kn.pProp "Row" "is_whole", "is_whole", "Row.is_whole", s_Row_is_whole),
  (Kn.pMeth "Row" "can_take", "can_take", "Row.can_take", s_Row_can_take),
  (Kn.pMeth "Row" "take", "take", "Row.take", s_Row_take),
  (Kn.pMeth "Tree" "__init__", "__init__", "Tree.__init__", s_Tree_init),
  (Kn.pCls "Tree" "read", "read", "Tree.read", s_Tree_read),
  (Kn.pCls "Tree" "from_events", "from_events", "Tree.from_events", s_Tree_from_events),
  (Kn.pMeth "Tree" "__len__", "__len__", "Tree.__len__", s_Tree_len),
  (Kn.pMeth "Tree" "__iter__", "__iter__", "Tree.__iter__", s_Tree_iter),
  (Kn.pMeth "Tree" "__eq__", "__eq__", "Tree.__eq__", s_Tree_eq),
  (Kn.pMeth "Tree" "__str__", "__str__", "Tree.__str__", s_Tree_str)]
def funs0_2 : List (Kn.Place × Str × Str × Stmt) := [(Kn.pMeth "Tree" "events", "events", "Tree.events", s_Tree_events)]
def funs0_ : List (Kn.Place × Str × Str × Stmt) := funs0_0 ++ funs0_1 ++ funs0_2
def look0 : Kn.Look := ⟨says0_, funs0_⟩
def says1_0 : List (Frag → Bool) := [Kn.isClsB "Tree",
  Kn.empDB "Tree" "Tree.__init__"]
def says1_ : List (Frag → Bool) := says1_0
def funs1_0 : List (Kn.Place × Str × Str × Stmt) := [(Kn.pMeth "Tree" "__init__", "__init__", "Tree.__init__", s_Tree_init)]
def funs1_ : List (Kn.Place × Str × Str × Stmt) := funs1_0
def look1 : Kn.Look := ⟨says1_, funs1_⟩
def bound0 : List Str := ["__name__",
  "NAME_LETTERS",
  "DIGITS",
  "TAKEN",
  "split_words",
  "is_made_of",
  "is_name",
  "is_figure",
  "is_mark",
  "own_copy",
  "KeptError",
  "NoTree",
  "is_event",
  "event_of",
  "Row",
  "Tree"]
def bound1 : List Str := ["_law_box",
  "_law_take",
  "_law_mixed",
  "_law_names",
  "_law_tree",
  "_law_events",
  "_law_text",
  "_law_nodes",
  "_law_built",
  "_law_near",
  "_law_told_right"]
def bound : List Str := bound0 ++ bound1
abbrev R : OpenRow := OpenLaw.row PySem.Challenge.rw_keptnomore_k03_trees_told
abbrev qv : Program := view R.prog [30]
noncomputable abbrev endW (w : World) (os : OsState) : Option SharedT := HandSHeadRun.endF (HandSHeadRun.stepQ (HandSHeadRun.denQ HandSHeadRun.tabQ) R.prog w) 20000 R.prog w os
set_option maxHeartbeats 0 in
theorem run_all (w : World) (os : OsState) : (endW w os).map (fun s => (HandSHeadRun.looksF R.prog (boot_heap w.params) s.abs, HandSHeadRun.seenQ qv bound (importedModules R.prog.main.body) (fun s => xlAt qv [] s && recOk R.toRowW.records s) s.abs)) = some (true, openGood qv bound) := by
  kernel_rfl
set_option maxHeartbeats 0 in
theorem run_0 (w : World) (os : OsState) : (endW w os).map (look0.ob 4 2500) = some look0.good := by
  kernel_rfl
set_option maxHeartbeats 0 in
theorem run_1 (w : World) (os : OsState) : (endW w os).map (look1.ob 4 2500) = some look1.good := by
  kernel_rfl
end LwE
set_option Elab.async false
set_option linter.all false
set_option maxRecDepth 100000
set_option maxHeartbeats 4000000
namespace Kn
open PySem PySem.Spec PyProof.Rows
open L2 hiding St
theorem sql_at {K : PySem.W.Frag} {G : Hp} {a : Addr} {xs : List V} (h : G a = some (.lst xs)) : SqL K G a xs := .inl (.inl h)
theorem up_at {O : Own} {p : Addr} {c : Cell} : up O p c p = some c := if_pos rfl
theorem up_ne {O : Own} {p q : Addr} {c : Cell} (h : q ≠ p) : up O p c q = O q := if_neg h
theorem dn_at {O : Own} {p : Addr} : dn O p p = none := if_pos rfl
theorem dn_ne {O : Own} {p q : Addr} (h : q ≠ p) : dn O p q = O q := if_neg h
theorem dn_up {O : Own} {p : Addr} {c : Cell} (h : O p = none) : dn (up O p c) p = O := by
  funext b
  by_cases e : b = p
  · subst e; rw [dn_at, h]
  · rw [dn_ne e, up_ne e]
theorem up_up {O : Own} {p : Addr} {c d : Cell} : up (up O p c) p d = up O p d := by
  funext b
  by_cases e : b = p
  · subst e; rw [up_at, up_at]
  · rw [up_ne e, up_ne e, up_ne e]
theorem up_self {O : Own} {p : Addr} {c : Cell} (h : O p = some c) : up O p c = O := by
  funext b
  by_cases e : b = p
  · subst e; rw [up_at, h]
  · rw [up_ne e]
theorem own_ne {O : Own} {p q : Addr} {c : Cell} (hp : O p = some c) (hq : O q = none) : p ≠ q := by
  intro e; rw [e, hq] at hp; cases hp
theorem hid_none {O : Own} {H : Hp} {b : Addr} (h : O b = none) : hid O H b = H b := by
  show (match O b with | some _ => none | none => H b) = _
  rw [h]
theorem hid_some {O : Own} {H : Hp} {b : Addr} {c : Cell} (h : O b = some c) : hid O H b = none := by
  show (match O b with | some _ => none | none => H b) = _
  rw [h]
theorem of_hid {O : Own} {H : Hp} {b : Addr} {o : HO} (h : hid O H b = some o) : O b = none ∧ H b = some o := by
  cases e : O b with
  | none => exact ⟨rfl, (hid_none (H := H) e).symm.trans h⟩
  | some c => rw [hid_some e] at h; cases h
theorem sql_mono {K : PySem.W.Frag} {G G' : Hp} {a : Addr} {xs : List V} (e : Same G G') : SqL K G a xs → SqL K G' a xs
  | .inl (.inl h) => .inl (.inl (e a _ h))
  | .inl (.inr ⟨o, h⟩) => .inl (.inr ⟨o, e a _ h⟩)
  | .inr h => .inr h
theorem sqt_mono {K : PySem.W.Frag} {G G' : Hp} {a : Addr} {xs : List V} (e : Same G G') : SqT K G a xs → SqT K G' a xs
  | .inl (.inl h) => .inl (.inl (e a _ h))
  | .inl (.inr ⟨o, h⟩) => .inl (.inr ⟨o, e a _ h⟩)
  | .inr h => .inr h
section
variable {K : PySem.W.Frag} {G G' : Hp}
mutual
theorem KyB.mono (e : Same G G') {v : V} {k : NestedKey} : KyB K G v k → KyB K G' v k
  | .non => .non
  | .num i => .num i
  | .bl b => .bl b
  | .text x => .text x
  | .tup h1 h2 => .tup (sqt_mono e h1) (KyBs.mono e h2)
theorem KyBs.mono (e : Same G G') {vs : List V} {ks : List NestedKey} : KyBs K G vs ks → KyBs K G' vs ks
  | .nil => .nil
  | .cons h1 h2 => .cons (KyB.mono e h1) (KyBs.mono e h2)
end
mutual
theorem KyR.mono (e : Same G G') {v : V} : ∀ {k : NestedKey}, KyR K G v k → KyR K G' v k
  | .none, h => by cases h; exact .non
  | .num i, h => by cases h; exact .num i
  | .text x, h => by cases h; exact .text x
  | .tup ks, h => by
    cases h with
    | tup h1 h2 => exact .tup (sqt_mono e h1) (KyRs.mono e h2)
theorem KyRs.mono (e : Same G G') : ∀ {vs : List V} {ks : List NestedKey}, KyRs K G vs ks → KyRs K G' vs ks
  | _, [], h => by cases h; exact .nil
  | _, k :: ks, h => by
    cases h with
    | cons h1 h2 => exact .cons (KyR.mono e h1) (KyRs.mono e h2)
end
mutual
theorem Rp.mono (e : Same G G') {v : V} : ∀ {d : Dat}, Rp K G v d → Rp K G' v d
  | .non, h => by cases h; exact .non
  | .bl b, h => by cases h; exact .bl b
  | .int i, h => by cases h; exact .int i
  | .str x, h => by cases h; exact .str x
  | .lst ds, h => by
    cases h with
    | lst h1 h2 => exact .lst (e _ _ h1) (RpA.mono e h2)
  | .tup ds, h => by
    cases h with
    | tup h1 h2 => exact .tup (sqt_mono e h1) (RpA.mono e h2)
  | .ins C fs, h => by
    cases h with
    | ins h1 h2 => exact .ins (e _ _ h1) (RpF.mono e h2)
  | .cls C, h => by cases h; exact .cls C
  | .ty n, h => by cases h; exact .ty n
  | .exc a dd fs, h => by
    cases h with
    | exc h1 h2 => exact .exc (e _ _ h1) (RpF.mono e h2)
  | .fro ds, h => by
    cases h with
    | fro h1 h2 => exact .fro (sql_mono e h1) (RpA.mono e h2)
  | .slo C ds, h => by
    cases h with
    | slo h1 h2 h3 h4 => exact .slo (e _ _ h1) (e _ _ h2) h3 (RpA.mono e h4)
  | .tre C d1 g es d2, h => by
    cases h with
    | tre h1 h2 h3 h4 h5 => exact .tre (e _ _ h1) (e _ _ h2) (RpF.mono e h3) (RpF.mono e h4) (RpA.mono e h5)
  | .key ks, h => by
    cases h with
    | key h1 => exact .key (e _ _ h1)
  | .dct ds, h => by
    cases h with
    | dct h1 h2 => exact .dct (e _ _ h1) (RpK.mono e h2)
  | .env f vs ds, h => by
    cases h with
    | env h1 => exact .env (RpA.mono e h1)
  | .xcv C ds, h => by
    cases h with
    | xcv h1 h2 h3 => exact .xcv (e _ _ h1) (e _ _ h2) (RpF.mono e h3)
  | .xc0 C, h => by
    cases h with
    | xc0 h1 => exact .xc0 (e _ _ h1)
  | .ndd w ds, h => by
    cases h with
    | ndd h1 h2 => exact .ndd (e _ _ h1) (RpN.mono e h2)
  | .tpn ds, h => by
    cases h with
    | tpn h1 h2 h3 => exact .tpn (e _ _ h1) h2 (RpA.mono e h3)
theorem RpA.mono (e : Same G G') : ∀ {vs : List V} {ds : List Dat}, RpA K G vs ds → RpA K G' vs ds
  | _, [], h => by cases h; exact .nil
  | _, d :: ds, h => by
    cases h with
    | cons h1 h2 => exact .cons (Rp.mono e h1) (RpA.mono e h2)
theorem RpF.mono (e : Same G G') : ∀ {vs : List (Str × V)} {ds : List (Str × Dat)}, RpF K G vs ds → RpF K G' vs ds
  | _, [], h => by cases h; exact .nil
  | _, (f, d) :: ds, h => by
    cases h with
    | cons h1 h2 => exact .cons (Rp.mono e h1) (RpF.mono e h2)
theorem RpN.mono (e : Same G G') : ∀ {vs : List (NestedKey × Addr × V)} {ds : List (NestedKey × Dat)}, RpN K G vs ds → RpN K G' vs ds
  | _, [], h => by cases h; exact .nil
  | _, (k, d) :: ds, h => by
    cases h with
    | cons h1 h0 h2 h3 => exact .cons (KyR.mono e h1) h0 (Rp.mono e h2) (RpN.mono e h3)
theorem RpK.mono (e : Same G G') : ∀ {vs : List (Key × V)} {ds : List (Key × Dat)}, RpK K G vs ds → RpK K G' vs ds
  | _, [], h => by cases h; exact .nil
  | _, (f, d) :: ds, h => by
    cases h with
    | cons h1 h2 => exact .cons (Rp.mono e h1) (RpK.mono e h2)
end
theorem SlOk.mono (e : Same G G') {v : V} {s : Slot} (h : SlOk K G v s) : SlOk K G' v s := by
  cases s with
  | unk => trivial
  | dat d => exact Rp.mono e h
  | own p => exact h
theorem pmap {α β : Type} {F F' : α → β → Prop} (e : ∀ a b, F a b → F' a b) : ∀ {xs : List α} {ys : List β}, Paired F xs ys → Paired F' xs ys
  | _, _, .nil => .nil
  | _, _, .cons h t => .cons (e _ _ h) (pmap e t)
theorem OpOk.mono (e : Same G G') {v : Option V} {s : Option Slot} (h : OpOk K G v s) : OpOk K G' v s := by
  cases v with
  | none => cases s with
    | none => trivial
    | some s => exact h.elim
  | some v => cases s with
    | none => exact h.elim
    | some s => exact SlOk.mono e (v := v) h
theorem ClOk.mono (e : Same G G') {p : Addr} {o : HO} {c : Cell} (h : ClOk K G p o c) : ClOk K G' p o c := by
  cases c with
  | lst ss =>
    obtain ⟨vs, h1, h2⟩ := h
    exact ⟨vs, h1, pmap (fun _ _ q => SlOk.mono e q) h2⟩
  | ins C dx ss =>
    obtain ⟨vs, h1, h2⟩ := h
    exact ⟨vs, h1, pmap (fun _ _ q => ⟨q.1, SlOk.mono e q.2⟩) h2⟩
  | dK ss =>
    obtain ⟨vs, h1, h2⟩ := h
    exact ⟨vs, h1, pmap (fun _ _ q => ⟨q.1, SlOk.mono e q.2⟩) h2⟩
  | dT ss =>
    obtain ⟨vs, h1, h2⟩ := h
    exact ⟨vs, h1, pmap (fun _ _ q => ⟨q.1, SlOk.mono e q.2⟩) h2⟩
  | exo C d => exact h
  | obj u => exact h
  | tpl ss =>
    obtain ⟨vs, h1, h2⟩ := h
    exact ⟨vs, h1, pmap (fun _ _ q => SlOk.mono e q) h2⟩
  | itr ds =>
    obtain ⟨t, xs, h1, h2, h3⟩ := h
    exact ⟨t, xs, h1, sqt_mono e h2, RpA.mono e h3⟩
  | nd w ss =>
    obtain ⟨xs, h1, h2⟩ := h
    exact ⟨xs, h1, pmap (fun _ _ q => ⟨q.1, KyR.mono e q.2.1, q.2.2.1, SlOk.mono e q.2.2.2⟩) h2⟩
  | ndb w ss =>
    obtain ⟨xs, h1, h2⟩ := h
    exact ⟨xs, h1, pmap (fun _ _ q => ⟨q.1, KyB.mono e q.2.1, q.2.2.1, SlOk.mono e q.2.2.2⟩) h2⟩
  | exd ss =>
    obtain ⟨vs, h1, h2⟩ := h
    exact ⟨vs, h1, pmap (fun _ _ q => ⟨q.1, SlOk.mono e q.2⟩) h2⟩
  | slt C dx ss =>
    obtain ⟨h1, h2, vs, h3, h4⟩ := h
    exact ⟨e _ _ h1, h2, vs, h3, pmap (fun _ _ q => OpOk.mono e q) h4⟩
theorem RpA.length {vs : List V} {ds : List Dat} : RpA K G vs ds → vs.length = ds.length
  | .nil => rfl
  | .cons _ t => by rw [List.length_cons, List.length_cons, RpA.length t]
theorem RpA.get : ∀ {vs : List V} {ds : List Dat} {i : Nat} {d : Dat}, RpA K G vs ds → ds[i]? = some d → ∃ v, vs[i]? = some v ∧ Rp K G v d
  | _, _, _, _, .nil, e => by cases e
  | _, _, 0, _, .cons r _, e => by cases e; exact ⟨_, rfl, r⟩
  | _, _, i + 1, d, .cons _ t, e => RpA.get (i := i) t e
theorem RpA.snoc {v : V} {d : Dat} (r : Rp K G v d) : ∀ {vs : List V} {ds : List Dat}, RpA K G vs ds → RpA K G (vs ++ [v]) (ds ++ [d])
  | _, _, .nil => .cons r .nil
  | _, _, .cons h t => .cons h (RpA.snoc r t)
theorem RpA.append : ∀ {vs ws : List V} {ds es : List Dat}, RpA K G vs ds → RpA K G ws es → RpA K G (vs ++ ws) (ds ++ es)
  | _, _, _, _, .nil, h => h
  | _, _, _, _, .cons h t, q => .cons h (RpA.append t q)
theorem RpA.paired : ∀ {vs : List V} {ds : List Dat}, RpA K G vs ds → Paired (SlOk K G) vs (ds.map .dat)
  | _, _, .nil => .nil
  | _, _, .cons h t => .cons h (RpA.paired t)
theorem RpA.of_paired : ∀ {vs : List V} {ds : List Dat}, Paired (SlOk K G) vs (ds.map .dat) → RpA K G vs ds
  | _, [], h => by cases h; exact .nil
  | _, d :: ds, h => by
    cases h with
    | cons h t => exact .cons h (RpA.of_paired t)
theorem RpF.of_paired : ∀ {vs : List (Str × V)} {ds : List (Str × Dat)}, Paired (FlOk K G) vs (ds.map fun p => (p.1, .dat p.2)) → RpF K G vs ds
  | _, [], h => by cases h; exact .nil
  | _, (f, d) :: ds, h => by
    cases h with
    | cons h t =>
      rename_i a _
      obtain ⟨f', v⟩ := a
      obtain ⟨e, r⟩ := h
      cases e
      exact .cons r (RpF.of_paired t)
theorem RpF.lookup {f : Str} {d : Dat} : ∀ {vs : List (Str × V)} {ds : List (Str × Dat)}, RpF K G vs ds → ds.lookup f = some d → ∃ v, vs.lookup f = some v ∧ Rp K G v d
  | _, _, .nil, e => by cases e
  | _, _, .cons (f := g) h t, e => by
    rw [List.lookup_cons] at e ⊢
    split at e
    · rename_i q
      cases e
      exact ⟨_, rfl, h⟩
    · exact RpF.lookup t e
theorem paired_len {α β : Type} {F : α → β → Prop} : ∀ {xs : List α} {ys : List β}, Paired F xs ys → xs.length = ys.length
  | _, _, .nil => rfl
  | _, _, .cons _ t => by rw [List.length_cons, List.length_cons, paired_len t]
theorem paired_get {α β : Type} {F : α → β → Prop} : ∀ {xs : List α} {ys : List β} {i : Nat} {y : β}, Paired F xs ys → ys[i]? = some y → ∃ x, xs[i]? = some x ∧ F x y
  | _, _, _, _, .nil, e => by cases e
  | _, _, 0, _, .cons r _, e => by cases e; exact ⟨_, rfl, r⟩
  | _, _, i + 1, d, .cons _ t, e => paired_get (i := i) t e
theorem paired_set {α β : Type} {F : α → β → Prop} {x : α} {y : β} (r : F x y) : ∀ {xs : List α} {ys : List β} (i : Nat), Paired F xs ys → Paired F (xs.set i x) (ys.set i y)
  | _, _, _, .nil => .nil
  | _, _, 0, .cons _ t => .cons r t
  | _, _, i + 1, .cons h t => .cons h (paired_set r i t)
theorem paired_app {α β : Type} {F : α → β → Prop} : ∀ {xs xs' : List α} {ys ys' : List β}, Paired F xs ys → Paired F xs' ys' → Paired F (xs ++ xs') (ys ++ ys')
  | _, _, _, _, .nil, h => h
  | _, _, _, _, .cons h t, q => .cons h (paired_app t q)
end
theorem EnvOk.mono {K : PySem.W.Frag} {G G' : Hp} (e : Same G G') {x : Option V} {s : Slot} (h : EnvOk K G x s) : EnvOk K G' x s := by
  cases s with
  | unk => trivial
  | dat d =>
    obtain ⟨v, q, r⟩ := h
    exact ⟨v, q, Rp.mono e r⟩
  | own p => exact h
section
variable {K : PySem.W.Frag} {H0 H1 H H' : Hp} {O O' : Own} {σ : SV} {ρ : List Slot}
theorem StOk.rebase (h : StOk K H0 O σ ρ H) (e : Same H1 H0) : StOk K H1 O σ ρ H := ⟨h.own, e.trans h.base, h.env⟩
/-- the greatest base -/
theorem StOk.top (h : StOk K H0 O σ ρ H) : StOk K (hid O H) O σ ρ H := ⟨h.own, Same.refl _, h.env⟩
theorem hid_same (e : Same H H') : Same (hid O H) (hid O H') := fun b o h => by
  obtain ⟨h1, h2⟩ := of_hid h
  rw [hid_none h1]
  exact e b o h2
/-- all that was tracked stays -/
theorem StOk.grow (h : StOk K H0 O σ ρ H) (e : Same H H') : StOk K H0 O σ ρ H' := by
  have g : Same (hid O H) (hid O H') := hid_same e
  refine ⟨⟨fun p c hp => ?_⟩, h.base.trans g, pmap (fun _ _ q => EnvOk.mono g q) h.env⟩
  obtain ⟨o, h1, h2⟩ := h.own.cell p c hp
  exact ⟨o, e p o h1, ClOk.mono g h2⟩
theorem StOk.len (h : StOk K H0 O σ ρ H) : σ.length = ρ.length := paired_len h.env
theorem StOk.set {i : Nat} {v : V} {s : Slot} (h : StOk K H0 O σ ρ H) (r : SlOk K (hid O H) v s) : StOk K H0 O (σ.set i (some v)) (ρ.set i s) H := by
  refine ⟨h.own, h.base, paired_set ?_ i h.env⟩
  cases s with
  | unk => trivial
  | dat d => exact ⟨v, rfl, r⟩
  | own p => exact congrArg some r
theorem own_free (h : OwnOk K O H) {p : Addr} (hp : H p = none) : O p = none := by
  cases e : O p with
  | none => rfl
  | some c =>
    obtain ⟨o, h1, _⟩ := h.cell p c e
    rw [hp] at h1; cases h1
/-- a new object, a cell from now on -/
theorem StOk.alloc {p : Addr} {o : HO} {c : Cell} (h : StOk K H0 O σ ρ H) (hp : H p = none) (r : ClOk K (hid O H) p o c) : StOk K H0 (up O p c) σ ρ (upd H p o) := by
  have hO : O p = none := own_free h.own hp
  have g : Same (hid O H) (hid (up O p c) (upd H p o)) := fun b u q => by
    obtain ⟨h1, h2⟩ := of_hid q
    have nb : b ≠ p := ne_of_none h2 hp
    rw [hid_none (by rw [up_ne nb]; exact h1), upd_ne nb]
    exact h2
  refine ⟨⟨fun q d hq => ?_⟩, h.base.trans g, pmap (fun _ _ z => EnvOk.mono g z) h.env⟩
  by_cases e : q = p
  · subst e
    rw [up_at] at hq; cases hq
    exact ⟨o, upd_same, ClOk.mono g r⟩
  · rw [up_ne e] at hq
    obtain ⟨u, h1, h2⟩ := h.own.cell q d hq
    exact ⟨u, by rw [upd_ne e]; exact h1, ClOk.mono g h2⟩
theorem same_new {p : Addr} {o : HO} (h : H p = none) : Same H (upd H p o) := fun b u e => by
  rw [upd_ne (ne_of_none e h)]
  exact e
/-- a cell is written -/
theorem StOk.write {p : Addr} {o : HO} {c c0 : Cell} (h : StOk K H0 O σ ρ H) (hp : O p = some c0) (r : ClOk K (hid O H) p o c) : StOk K H0 (up O p c) σ ρ (upd H p o) := by
  have g : Same (hid O H) (hid (up O p c) (upd H p o)) := fun b u q => by
    obtain ⟨h1, h2⟩ := of_hid q
    have nb : b ≠ p := fun z => by rw [z, hp] at h1; cases h1
    rw [hid_none (by rw [up_ne nb]; exact h1), upd_ne nb]
    exact h2
  refine ⟨⟨fun q d hq => ?_⟩, h.base.trans g, pmap (fun _ _ z => EnvOk.mono g z) h.env⟩
  by_cases e : q = p
  · subst e
    rw [up_at] at hq; cases hq
    exact ⟨o, upd_same, ClOk.mono g r⟩
  · rw [up_ne e] at hq
    obtain ⟨u, h1, h2⟩ := h.own.cell q d hq
    exact ⟨u, by rw [upd_ne e]; exact h1, ClOk.mono g h2⟩
theorem hid_write {p : Addr} {o : HO} {c c0 : Cell} (hp : O p = some c0) : Same (hid O H) (hid (up O p c) (upd H p o)) := fun b u q => by
  obtain ⟨h1, h2⟩ := of_hid q
  have nb : b ≠ p := fun z => by rw [z, hp] at h1; cases h1
  rw [hid_none (by rw [up_ne nb]; exact h1), upd_ne nb]
  exact h2
/-- a cell becomes data -/
theorem hid_dn {p : Addr} : Same (hid O H) (hid (dn O p) H) := fun b o h => by
  obtain ⟨h1, h2⟩ := of_hid h
  by_cases e : b = p
  · subst e
    rw [hid_none dn_at]; exact h2
  · rw [hid_none (by rw [dn_ne e]; exact h1)]; exact h2
theorem OwnOk.freeze {p : Addr} (h : OwnOk K O H) : OwnOk K (dn O p) H := ⟨fun q c hq => by
  by_cases e : q = p
  · subst e; rw [dn_at] at hq; cases hq
  · rw [dn_ne e] at hq
    obtain ⟨o, h1, h2⟩ := h.cell q c hq
    exact ⟨o, h1, ClOk.mono hid_dn h2⟩⟩
theorem StOk.freeze {p : Addr} (h : StOk K H0 O σ ρ H) : StOk K H0 (dn O p) σ ρ H :=
  ⟨h.own.freeze, h.base.trans hid_dn, pmap (fun _ _ q => EnvOk.mono hid_dn q) h.env⟩
/-- the list cell as data -/
theorem OwnOk.lst {p : Addr} {ds : List Dat} (h : OwnOk K O H) (hp : O p = some (.lst (ds.map .dat))) : Rp K (hid (dn O p) H) (.ref p) (.lst ds) := by
  obtain ⟨o, h1, xs, rfl, h2⟩ := h.cell p _ hp
  exact .lst (by rw [hid_none dn_at]; exact h1) (RpA.of_paired (pmap (fun _ _ q => SlOk.mono hid_dn q) h2))
theorem OwnOk.ins {p C dx : Addr} {ds : List (Str × Dat)} (h : OwnOk K O H) (hp : O p = some (.ins C dx (ds.map fun q => (q.1, .dat q.2)))) : Rp K (hid (dn O p) H) (.ref p) (.ins C ds) := by
  obtain ⟨o, h1, fs, rfl, h2⟩ := h.cell p _ hp
  exact .ins (by rw [hid_none dn_at]; exact h1) (RpF.of_paired (pmap (fun _ _ q => ⟨q.1, SlOk.mono hid_dn q.2⟩) h2))
end
theorem takes_base {X : Cx} {K : PySem.W.Frag} {H0 H1 : Hp} {x : ExK} (t : Takes X (Wsem K H0 x)) (e : Same H0 H1) : Takes X (Wsem K H1 x) :=
  t.imp fun _ _ _ _ ⟨a, ρ, O, h1, h2, h3⟩ => ⟨a, ρ, O, h1, h2.rebase e, h3⟩
theorem takes_no {X : Cx} {K : PySem.W.Frag} {H0 : Hp} : Takes X (Wsem K H0 noX) := takes0.imp fun _ _ _ _ ⟨_, _, _, h, _⟩ => h
theorem takes_x {X : Cx} {K : PySem.W.Frag} {H0 : Hp} {x y : ExK} (t : Takes X (Wsem K H0 x)) (h : ∀ e ρ O, y e ρ O → x e ρ O) : Takes X (Wsem K H0 y) :=
  t.imp fun _ _ _ _ ⟨a, ρ, O, h1, h2, h3⟩ => ⟨a, ρ, O, h _ _ _ h1, h2, h3⟩
section
variable (X : Cx)
def Wa (es : List Expr) : TA := fun σ H Q => Bx (∀ (pos : Pos) (pins : List (Addr × Obj)) (s : Shared), Inv X pins σ H s → wpAny (model X.prog X.w) X.A (spliced (backTo pos (starEach es X.env))) (AP X pins σ Q) X.xe s)
end
section
variable {X : Cx}
theorem pe_w {e : Expr} : PE X e (We X e) := ⟨fun pins s σ H Q I h => h.r pins s I⟩
theorem pt_w {e : Expr} : PT X e (Wt X e) := ⟨fun pins s σ H Q I h => h.r pins s I⟩
theorem pa_w {es : List Expr} : PA X es (Wa X es) := ⟨fun pos pins s σ H Q I h => h.r pos pins s I⟩
theorem ps_w {st : Stmt} : PS X st (Ws X st) := ⟨fun pins s σ H D I h => h.r pins s I⟩
theorem pss_w {st : List Stmt} : PSs X st (Wss X st) := ⟨fun pins s σ H D I h => h.r pins s I⟩
theorem we_of {e : Expr} {t : TE} (h : PE X e t) {σ : SV} {H : Hp} {Q : VK} (q : t σ H Q) : We X e σ H Q := ⟨fun pins s I => h.run pins s σ H Q I q⟩
theorem wt_of {e : Expr} {t : TT} (h : PT X e t) {σ : SV} {H : Hp} {Q : Bool → Hp → Prop} (q : t σ H Q) : Wt X e σ H Q := ⟨fun pins s I => h.run pins s σ H Q I q⟩
theorem wa_of {es : List Expr} {t : TA} (h : PA X es t) {σ : SV} {H : Hp} {Q : List V → Hp → Prop} (q : t σ H Q) : Wa X es σ H Q := ⟨fun pos pins s I => h.run pos pins s σ H Q I q⟩
theorem ws_of {st : Stmt} {t : TS} (h : PS X st t) {σ : SV} {H : Hp} {D : Ends} (q : t D σ H) : Ws X st D σ H := ⟨fun pins s I => h.run pins s σ H D I q⟩
theorem wss_of {st : List Stmt} {t : TS} (h : PSs X st t) {σ : SV} {H : Hp} {D : Ends} (q : t D σ H) : Wss X st D σ H := ⟨fun pins s I => h.run pins s σ H D I q⟩
end
section
variable (X : Cx)
def AW (O : Own) (ρ : List Slot) (es : List Expr) (x : ExK) (k : List Slot → Own → Prop) : Prop :=
  ∀ H0 σ H, StOk X.K H0 O σ ρ H → Takes X (Wsem X.K H0 x) → ∀ Q : List V → Hp → Prop, (∀ vs H' ss O', k ss O' → StOk X.K H0 O' σ ρ H' → Paired (SlOk X.K (hid O' H')) vs ss → Q vs H') → Wa X es σ H Q
end
theorem EndsOk.base {K : PySem.W.Frag} {H0 H1 : Hp} {D : SD} {E : Ends} (h : EndsOk K H0 D E) (e : Same H0 H1) : EndsOk K H1 D E :=
  ⟨fun σ ρ O H q s => h.nx σ ρ O H q (s.rebase e), fun v s O H q o b r => h.rt v s O H q o (e.trans b) r, fun σ ρ O H q s => h.bk σ ρ O H q (s.rebase e), fun σ ρ O H q s => h.ct σ ρ O H q (s.rebase e)⟩
end Kn
namespace Kn
open PySem PySem.Spec PyProof.Rows
open L2 hiding St
def Slot.known : Slot → Bool
  | .unk => false
  | _ => true
section
variable {es : List Expr} {env : Env} {p : Pos}
theorem star_const {c : Const} {j} : starEach ((.Constant c j p) :: es) env = (false, eval (.Constant c j p) env) :: starEach es env := rfl
theorem star_name {n : Str} : starEach ((.Name n p) :: es) env = (false, eval (.Name n p) env) :: starEach es env := rfl
theorem star_call {f : Expr} {as} {kw} : starEach ((.Call f as kw p) :: es) env = (false, eval (.Call f as kw p) env) :: starEach es env := rfl
theorem star_attr {o : Expr} {n} : starEach ((.Attribute o n p) :: es) env = (false, eval (.Attribute o n p) env) :: starEach es env := rfl
theorem star_sub {o i : Expr} : starEach ((.Subscript o i p) :: es) env = (false, eval (.Subscript o i p) env) :: starEach es env := rfl
theorem star_bin {a : Expr} {o} {b : Expr} : starEach ((.BinOp a o b p) :: es) env = (false, eval (.BinOp a o b p) env) :: starEach es env := rfl
theorem star_un {o} {b : Expr} : starEach ((.UnaryOp o b p) :: es) env = (false, eval (.UnaryOp o b p) env) :: starEach es env := rfl
theorem star_cmp {a : Expr} {os} {bs} : starEach ((.Compare a os bs p) :: es) env = (false, eval (.Compare a os bs p) env) :: starEach es env := rfl
theorem star_bool {o} {bs} : starEach ((.BoolOp o bs p) :: es) env = (false, eval (.BoolOp o bs p) env) :: starEach es env := rfl
theorem star_if {a b c : Expr} : starEach ((.IfExp a b c p) :: es) env = (false, eval (.IfExp a b c p) env) :: starEach es env := rfl
theorem star_list {xs} : starEach ((.List xs p) :: es) env = (false, eval (.List xs p) env) :: starEach es env := rfl
theorem star_tup {xs} {j} : starEach ((.Tuple xs j p) :: es) env = (false, eval (.Tuple xs j p) env) :: starEach es env := rfl
theorem star_comp {e : Expr} {gs} {sc} : starEach ((.ListComp e gs sc p) :: es) env = (false, eval (.ListComp e gs sc p) env) :: starEach es env := rfl
theorem star_join {xs} : starEach ((.JoinedStr xs p) :: es) env = (false, eval (.JoinedStr xs p) env) :: starEach es env := rfl
end
section
variable {X : Cx} {O : Own} {ρ : List Slot} {x : ExK} {k k' : Slot → Own → Prop} {kl kl' : List Slot → Own → Prop} {kt kt' : Bool → Own → Prop} {e a b c : Expr} {es : List Expr} {pos : Pos} {D : SD}
theorem EW.mono (h : EW X O ρ e x k) (m : ∀ s O', k s O' → k' s O') : EW X O ρ e x k' := fun H0 σ H st tk Q q =>
  h H0 σ H st tk Q fun v H' s O' ks s' r => q v H' s O' (m _ _ ks) s' r
theorem TW.mono (h : TW X O ρ e x kt) (m : ∀ s O', kt s O' → kt' s O') : TW X O ρ e x kt' := fun H0 σ H st tk Q q =>
  h H0 σ H st tk Q fun v H' O' ks s' => q v H' O' (m _ _ ks) s'
theorem AW.mono (h : AW X O ρ es x kl) (m : ∀ s O', kl s O' → kl' s O') : AW X O ρ es x kl' := fun H0 σ H st tk Q q =>
  h H0 σ H st tk Q fun v H' s O' ks s' r => q v H' s O' (m _ _ ks) s' r
theorem EW.exc {y : ExK} (h : EW X O ρ e y k) (m : ∀ e ρ O, y e ρ O → x e ρ O) : EW X O ρ e x k := fun H0 σ H st tk Q q => h H0 σ H st (takes_x tk m) Q q
theorem known_env {K : PySem.W.Frag} {G : Hp} {s : Slot} (h : s.known = true) {o : Option V} (e : EnvOk K G o s) : ∃ v, o = some v ∧ SlOk K G v s := by
  cases s with
  | unk => cases h
  | dat d => exact e
  | own p => exact ⟨_, e, rfl⟩
theorem ew_var (i : Nat) {nm : Str} {s : Slot} (h : k s O) (hρ : ρ[i]? = some s := by rfl) (hk : s.known = true := by rfl) (hN : X.N[i]? = some nm := by rfl)
    (hv : Vis X.env.scope nm := by first | exact Or.inl rfl | exact Or.inr (Or.inl rfl) | exact Or.inr (Or.inr rfl)) (hd : (nm == ("__debug__" : Str)) = false := by decide)
    (hcd : (nm == ("__classdict__" : Str)) = false := by decide) : EW X O ρ (.Name nm pos) x k := fun H0 σ H st tk Q q => by
  obtain ⟨o, h1, h2⟩ := paired_get st.env hρ
  obtain ⟨v, h3, h4⟩ := known_env hk h2
  exact we_of (pe_var (i := i) hN hv hd hcd) ⟨v, by rw [h1, h3], q v H s O h st h4⟩
theorem ew_int {i : Int} {j} (h : k (.dat (.int i)) O) : EW X O ρ (.Constant (.int i) j pos) x k := fun H0 σ H st tk Q q => we_of pe_int (q _ H _ O h st (.int i))
theorem ew_bl {i : Bool} {j} (h : k (.dat (.bl i)) O) : EW X O ρ (.Constant (.bool i) j pos) x k := fun H0 σ H st tk Q q => we_of pe_bl (q _ H _ O h st (.bl i))
theorem ew_non {j} (h : k (.dat .non) O) : EW X O ρ (.Constant .none j pos) x k := fun H0 σ H st tk Q q => we_of pe_non (q _ H _ O h st .non)
theorem ew_str {z : Str} {j} (h : k (.dat (.str z)) O) : EW X O ρ (.Constant (.str z) j pos) x k := fun H0 σ H st tk Q q => we_of pe_str (q _ H _ O h st (.str z))
/-- a module's name that holds data -/
def GlobD (K : PySem.W.Frag) (mg : Str → Option Value) (nm : Str) (d : Dat) : Prop := ∃ v u, mg nm = some u ∧ RelV v u ∧ ∀ G, Rp K G v d
theorem aw_nil (h : kl [] O) : AW X O ρ [] x kl := fun H0 σ H st tk Q q => wa_of pa_nil (q [] H [] O h st .nil)
theorem aw_cons (h : EW X O ρ a x fun s O1 => AW X O1 ρ es x fun ss O2 => kl (s :: ss) O2) (hs : starEach (a :: es) X.env = (false, eval a X.env) :: starEach es X.env := by first | exact star_const | exact star_name | exact star_call | exact star_attr | exact star_sub | exact star_bin | exact star_un | exact star_cmp | exact star_bool | exact star_if | exact star_list | exact star_tup | exact star_comp | exact star_join | rfl) : AW X O ρ (a :: es) x kl := fun H0 σ H st tk Q q =>
  wa_of (pa_cons pe_w pa_w hs) (h H0 σ H st tk _ fun v H1 s O1 h1 st1 r1 =>
    h1 (hid O1 H1) σ H1 st1.top (takes_base tk st1.base) _ fun vs H2 ss O2 h2 st2 r2 => q (v :: vs) H2 (s :: ss) O2 h2 (st2.rebase st1.base) (.cons (SlOk.mono st2.base r1) r2))
def R2D (K : PySem.W.Frag) (r : R2) (s1 s2 : Slot) (O : Own) (k : Slot → Own → Prop) : Prop :=
  ∀ H0 σ ρ H v1 v2, StOk K H0 O σ ρ H → SlOk K (hid O H) v1 s1 → SlOk K (hid O H) v2 s2 → ∀ Q : VK, (∀ v H' s O', k s O' → StOk K H0 O' σ ρ H' → SlOk K (hid O' H') v s → Q v H') → r v1 v2 H Q
def RlD (K : PySem.W.Frag) (r : List V → Hp → VK → Prop) (ss : List Slot) (O : Own) (k : Slot → Own → Prop) : Prop :=
  ∀ H0 σ ρ H vs, StOk K H0 O σ ρ H → Paired (SlOk K (hid O H)) vs ss → ∀ Q : VK, (∀ v H' s O', k s O' → StOk K H0 O' σ ρ H' → SlOk K (hid O' H') v s → Q v H') → r vs H Q
def OpB (X : Cx) (f : Value → Value → Sem Value) (s1 s2 : Slot) (O : Own) (k : Slot → Own → Prop) : Prop := ∃ r, OpR X f r ∧ R2D X.K r s1 s2 O k
def IxB (X : Cx) (s1 s2 : Slot) (O : Own) (k : Slot → Own → Prop) : Prop := ∃ r, IxR X r ∧ R2D X.K r s1 s2 O k
def CaB (X : Cx) (f : Value) (ss : List Slot) (O : Own) (k : Slot → Own → Prop) : Prop := ∃ r, CallR X f r ∧ RlD X.K r ss O k
theorem two {P : Slot → Slot → Own → Prop} (h : EW X O ρ a x fun s1 O1 => EW X O1 ρ b x fun s2 O2 => P s1 s2 O2) {H0 : Hp} {σ : SV} {H : Hp} (st : StOk X.K H0 O σ ρ H) (tk : Takes X (Wsem X.K H0 x))
    {Q : V → V → Hp → Prop} (q : ∀ v1 v2 s1 s2 O2 H2, P s1 s2 O2 → StOk X.K H0 O2 σ ρ H2 → SlOk X.K (hid O2 H2) v1 s1 → SlOk X.K (hid O2 H2) v2 s2 → Q v1 v2 H2) :
    We X a σ H fun v1 H1 => We X b σ H1 fun v2 H2 => Q v1 v2 H2 :=
  h H0 σ H st tk _ fun v1 H1 s1 O1 h1 st1 r1 => h1 (hid O1 H1) σ H1 st1.top (takes_base tk st1.base) _ fun v2 H2 s2 O2 h2 st2 r2 =>
    q v1 v2 s1 s2 O2 H2 h2 (st2.rebase st1.base) (SlOk.mono st2.base r1) r2
theorem ew_bin {op : Operator} (h : EW X O ρ a x fun s1 O1 => EW X O1 ρ b x fun s2 O2 => OpB X (binaryOp op) s1 s2 O2 k) : EW X O ρ (.BinOp a op b pos) x k := fun H0 σ H st tk Q q => by
  refine ⟨fun pins s I => ?_⟩
  refine wpAny_BinOp (bin pe_w pe_w I (two h st tk (Q := fun v1 v2 H2 => ∃ r, OpR X (binaryOp op) r ∧ r v1 v2 H2 Q) fun v1 v2 s1 s2 O2 H2 hp st2 r1 r2 => ?_) fun v u s2 z y H2 I2 rx ry hq => ?_)
  · obtain ⟨r, ho, hr⟩ := hp
    exact ⟨r, ho, hr H0 σ ρ H2 v1 v2 st2 r1 r2 Q q⟩
  · obtain ⟨r, ho, hr⟩ := hq
    exact ho pins s2 σ H2 z y v u Q I2 rx ry hr
theorem ew_cmp {op : CmpOp} (h : EW X O ρ a x fun s1 O1 => EW X O1 ρ b x fun s2 O2 => OpB X (compareOp op) s1 s2 O2 k) (hm : behindInMarks op b = false := by first | exact nomark _ | rfl) : EW X O ρ (.Compare a [op] [b] pos) x k := fun H0 σ H st tk Q q => by
  have main : OpR X (compareOp op) (fun v1 v2 H2 Q => ∃ r, OpR X (compareOp op) r ∧ r v1 v2 H2 Q) := fun pins s σ H x y v u Q I rx ry ⟨r, ho, hr⟩ => ho pins s σ H x y v u Q I rx ry hr
  refine we_of (pe_cmpR main pe_w pe_w hm) (two h st tk (Q := fun v1 v2 H2 => ∃ r, OpR X (compareOp op) r ∧ r v1 v2 H2 Q) fun v1 v2 s1 s2 O2 H2 hp st2 r1 r2 => ?_)
  obtain ⟨r, ho, hr⟩ := hp
  exact ⟨r, ho, hr H0 σ ρ H2 v1 v2 st2 r1 r2 Q q⟩
theorem ew_ix (h : EW X O ρ a x fun s1 O1 => EW X O1 ρ b x fun s2 O2 => IxB X s1 s2 O2 k) (hs : PlainIx b := by intro _ _; rfl) : EW X O ρ (.Subscript a b pos) x k := fun H0 σ H st tk Q q => by
  have main : IxR X (fun v1 v2 H2 Q => ∃ r, IxR X r ∧ r v1 v2 H2 Q) := fun value slice pins s σ H z y v u Q I rx ry ⟨r, ho, hr⟩ hs => ho value slice pins s σ H z y v u Q I rx ry hr hs
  refine we_of (pe_ix main pe_w pe_w hs) (two h st tk (Q := fun v1 v2 H2 => ∃ r, IxR X r ∧ r v1 v2 H2 Q) fun v1 v2 s1 s2 O2 H2 hp st2 r1 r2 => ?_)
  obtain ⟨r, ho, hr⟩ := hp
  exact ⟨r, ho, hr H0 σ ρ H2 v1 v2 st2 r1 r2 Q q⟩
/-- a built-in function, a built-in class, called -/
theorem ew_callB {nm : Str} {id : String} {p : Pos} (hm : X.mg nm = none) (hv : bootBuiltins nm = some (.builtin id)) (h : AW X O ρ (e :: es) x fun ss O1 => CaB X (.builtin id) ss O1 k) (hg : Gl X nm := by rfl)
    (hn : nm ≠ "__name__" := by decide) (hd : (nm == ("__debug__" : Str)) = false := by decide) (hs : starEach (e :: es) X.env = (false, eval e X.env) :: starEach es X.env := by rfl) (hpl : (backTo pos (starEach es X.env)).any (·.1) = false := by rfl) :
    EW X O ρ (.Call (.Name nm p) (e :: es) [] pos) x k := fun H0 σ H st tk Q q => by
  have main : CallR X (.builtin id) (fun vs H2 Q => ∃ r, CallR X (.builtin id) r ∧ r vs H2 Q) := fun pins s σ H xs us Q I rx ⟨r, ho, hr⟩ => ho pins s σ H xs us Q I rx hr
  refine we_of (pe_callB main hg hm hv pa_w (hn := hn) (hdb := hd) (he := hs) (hpl := hpl)) (h H0 σ H st tk _ fun vs H1 ss O1 hp st1 r1 => ?_)
  obtain ⟨r, ho, hr⟩ := hp
  exact ⟨r, ho, hr H0 σ ρ H1 vs st1 r1 Q q⟩
theorem ew_callTy {nm : Str} {id : String} {p : Pos} (hm : X.mg nm = none) (hv : bootBuiltins nm = some (.type id)) (h : AW X O ρ (e :: es) x fun ss O1 => CaB X (.type id) ss O1 k) (hg : Gl X nm := by rfl)
    (hn : nm ≠ "__name__" := by decide) (hd : (nm == ("__debug__" : Str)) = false := by decide) (hs : starEach (e :: es) X.env = (false, eval e X.env) :: starEach es X.env := by rfl) (hpl : (backTo pos (starEach es X.env)).any (·.1) = false := by rfl) :
    EW X O ρ (.Call (.Name nm p) (e :: es) [] pos) x k := fun H0 σ H st tk Q q => by
  have main : CallR X (.type id) (fun vs H2 Q => ∃ r, CallR X (.type id) r ∧ r vs H2 Q) := fun pins s σ H xs us Q I rx ⟨r, ho, hr⟩ => ho pins s σ H xs us Q I rx hr
  refine we_of (pe_callTy main hg hm hv pa_w (hn := hn) (hdb := hd) (he := hs) (hpl := hpl)) (h H0 σ H st tk _ fun vs H1 ss O1 hp st1 r1 => ?_)
  obtain ⟨r, ho, hr⟩ := hp
  exact ⟨r, ho, hr H0 σ ρ H1 vs st1 r1 Q q⟩
theorem tw_val (h : EW X O ρ e x fun s O1 => ∃ t, s = .dat (.bl t) ∧ kt t O1) (he : ∀ whole, isTrue e X.env whole = (do let v ← whole; standAt e.pos; holding [v] (truthy v)) := by intro _; rfl) : TW X O ρ e x kt := fun H0 σ H st tk Q q =>
  wt_of (pt_val pe_w he) (h H0 σ H st tk _ fun v H1 s O1 ⟨t, e1, h1⟩ st1 r1 => by
    subst e1
    cases r1
    exact ⟨t, rfl, q t H1 O1 h1 st1⟩)
theorem tw_cmp {op : CmpOp} (h : EW X O ρ a x fun s1 O1 => EW X O1 ρ b x fun s2 O2 => OpB X (compareOp op) s1 s2 O2 fun s O3 => ∃ t, s = .dat (.bl t) ∧ kt t O3) (hm : behindInMarks op b = false := by first | exact nomark _ | rfl) : TW X O ρ (.Compare a [op] [b] pos) x kt := fun H0 σ H st tk Q q => by
  have main : OpR X (compareOp op) (fun v1 v2 H2 Q => ∃ r, OpR X (compareOp op) r ∧ r v1 v2 H2 Q) := fun pins s σ H x y v u Q I rx ry ⟨r, ho, hr⟩ => ho pins s σ H x y v u Q I rx ry hr
  refine wt_of (pt_cmpR main pe_w pe_w hm) (two h st tk (Q := fun v1 v2 H2 => ∃ r, OpR X (compareOp op) r ∧ r v1 v2 H2 fun z H3 => ∃ k, z = .bl k ∧ Q k H3) fun v1 v2 s1 s2 O2 H2 hp st2 r1 r2 => ?_)
  obtain ⟨r, ho, hr⟩ := hp
  exact ⟨r, ho, hr H0 σ ρ H2 v1 v2 st2 r1 r2 _ fun z H3 s O3 ⟨t, e1, h1⟩ st3 r3 => by
    subst e1
    cases r3
    exact ⟨t, rfl, q t H3 O3 h1 st3⟩⟩
theorem tw_not (h : TW X O ρ a x fun t O1 => kt (!t) O1) : TW X O ρ (.UnaryOp .Not a pos) x kt := fun H0 σ H st tk Q q =>
  wt_of (pt_not pt_w) (h H0 σ H st tk _ fun t H1 O1 h1 st1 => q (!t) H1 O1 h1 st1)
/-- and, or as tests, whatever their whole is -/
def TWw (X : Cx) (O : Own) (ρ : List Slot) (e : Expr) (x : ExK) (kt : Bool → Own → Prop) : Prop :=
  ∀ H0 σ H, StOk X.K H0 O σ ρ H → Takes X (Wsem X.K H0 x) → ∀ Q : Bool → Hp → Prop, (∀ b H' O', kt b O' → StOk X.K H0 O' σ ρ H' → Q b H') → Bx (∀ (whole : Sem Value) (pins : List (Addr × Obj)) (s : Shared), Inv X pins σ H s →
    wpAny (model X.prog X.w) X.A (isTrue e X.env whole) (TP X pins σ Q) X.xe s)
theorem tw_w (h : TWw X O ρ e x kt) : TW X O ρ e x kt := fun H0 σ H st tk Q q => ⟨fun pins s I => (h H0 σ H st tk Q q).r _ pins s I⟩
def Wp (X : Cx) (e : Expr) : TT := fun σ H Q => Bx (∀ (whole : Sem Value) (pins : List (Addr × Obj)) (s : Shared), Inv X pins σ H s → wpAny (model X.prog X.w) X.A (isTrue e X.env whole) (TP X pins σ Q) X.xe s)
theorem pw_w : PW X e (Wp X e) := ⟨fun wh pins s σ H Q I h => h.r wh pins s I⟩
theorem wp_of {t : TT} (h : PW X e t) {σ : SV} {H : Hp} {Q : Bool → Hp → Prop} (q : t σ H Q) : Wp X e σ H Q := ⟨fun wh pins s I => h.run wh pins s σ H Q I q⟩
theorem tww_and1 (h : TW X O ρ a x kt) : TWw X O ρ (.BoolOp .And [a] pos) x kt := fun H0 σ H st tk Q q => wp_of (pw_and1 pt_w) (h H0 σ H st tk Q q)
theorem tww_or1 (h : TW X O ρ a x kt) : TWw X O ρ (.BoolOp .Or [a] pos) x kt := fun H0 σ H st tk Q q => wp_of (pw_or1 pt_w) (h H0 σ H st tk Q q)
theorem tww_and (h : TW X O ρ a x fun t O1 => (t = true → TWw X O1 ρ (.BoolOp .And (b :: es) pos) x kt) ∧ (t = false → kt false O1)) : TWw X O ρ (.BoolOp .And (a :: b :: es) pos) x kt := fun H0 σ H st tk Q q =>
  wp_of (pw_and pt_w pw_w) (h H0 σ H st tk _ fun t H1 O1 h1 st1 => by
    cases t with
    | true => exact (h1.1 rfl) H0 σ H1 st1 tk Q q
    | false => exact q false H1 O1 (h1.2 rfl) st1)
theorem tww_or (h : TW X O ρ a x fun t O1 => (t = true → kt true O1) ∧ (t = false → TWw X O1 ρ (.BoolOp .Or (b :: es) pos) x kt)) : TWw X O ρ (.BoolOp .Or (a :: b :: es) pos) x kt := fun H0 σ H st tk Q q =>
  wp_of (pw_or pt_w pw_w) (h H0 σ H st tk _ fun t H1 O1 h1 st1 => by
    cases t with
    | true => exact q true H1 O1 (h1.1 rfl) st1
    | false => exact (h1.2 rfl) H0 σ H1 st1 tk Q q)
theorem ew_one {op : BoolOp} (h : EW X O ρ a x k) : EW X O ρ (.BoolOp op [a] pos) x k := fun H0 σ H st tk Q q => we_of (pe_one pe_w) (h H0 σ H st tk Q q)
theorem ew_and (h : EW X O ρ a x fun s O1 => ∃ t, s = .dat (.bl t) ∧ (t = true → EW X O1 ρ (.BoolOp .And (b :: es) pos) x k) ∧ (t = false → k (.dat (.bl false)) O1)) : EW X O ρ (.BoolOp .And (a :: b :: es) pos) x k := fun H0 σ H st tk Q q =>
  we_of (pe_and pe_w pe_w) (h H0 σ H st tk _ fun v H1 s O1 ⟨t, e1, h1, h2⟩ st1 r1 => by
    subst e1
    cases r1
    refine ⟨t, rfl, ?_⟩
    cases t with
    | true => exact iteT ((h1 rfl) H0 σ H1 st1 tk Q q)
    | false => exact iteF (q _ H1 _ O1 (h2 rfl) st1 (.bl false)))
theorem ew_if (h : TW X O ρ c x fun t O1 => (t = true → EW X O1 ρ a x k) ∧ (t = false → EW X O1 ρ b x k)) : EW X O ρ (.IfExp c a b pos) x k := fun H0 σ H st tk Q q =>
  we_of (pe_ifExp pt_w pe_w pe_w) (h H0 σ H st tk _ fun t H1 O1 h1 st1 => by
    cases t with
    | true => exact iteT ((h1.1 rfl) H0 σ H1 st1 tk Q q)
    | false => exact iteF ((h1.2 rfl) H0 σ H1 st1 tk Q q))
variable {st0 : Stmt} {sts body orelse : List Stmt}
theorem sw_nil (h : D.nx ρ O) : SW X O ρ [] x D := fun H0 σ H st tk E ok => wss_of pss_nil (ok.nx σ ρ O H h st)
theorem sw_cons (h : S1 X O ρ st0 x { D with nx := fun ρ' O' => SW X O' ρ' sts x D }) : SW X O ρ (st0 :: sts) x D := fun H0 σ H st tk E ok =>
  wss_of (pss_cons ps_w pss_w) (h H0 σ H st tk _ ⟨fun σ' ρ' O' H' q s => q H0 σ' H' s tk E ok, ok.rt, ok.bk, ok.ct⟩)
theorem sw_one (h : S1 X O ρ st0 x D) : SW X O ρ [st0] x D := fun H0 σ H st tk E ok => wss_of (pss_one ps_w) (h H0 σ H st tk E ok)
theorem s1_expr (h : EW X O ρ e x fun _ O' => D.nx ρ O') (hs : swapsWith e none pos.line X.env = pure false := by rfl) : S1 X O ρ (.Expr e pos) x D := fun H0 σ H st tk E ok => ws_of (ps_expr pe_w hs) (h H0 σ H st tk _ fun v H' s O' q st' r => ok.nx σ ρ O' H' q st')
theorem s1_ret (h : EW X O ρ e x D.rt) : S1 X O ρ (.Return (some e) pos) x D := fun H0 σ H st tk E ok => ws_of (ps_ret pe_w) (h H0 σ H st tk _ fun v H' s O' q st' r => ok.rt v s O' H' q st'.own st'.base r)
theorem s1_if (h : TW X O ρ c x fun t O1 => (t = true → SW X O1 ρ body x D) ∧ (t = false → SW X O1 ρ orelse x D)) : S1 X O ρ (.If c body orelse pos) x D := fun H0 σ H st tk E ok =>
  ws_of (ps_if pt_w pss_w pss_w) (h H0 σ H st tk _ fun t H1 O1 h1 st1 => by
    cases t with
    | true => exact iteT ((h1.1 rfl) H0 σ H1 st1 tk E ok)
    | false => exact iteF ((h1.2 rfl) H0 σ H1 st1 tk E ok))
theorem s1_set (i : Nat) {nm : Str} {p : Pos} (h : EW X O ρ e x fun s O' => D.nx (ρ.set i s) O') (hN : X.N.Nodup) (hi : X.N[i]? = some nm := by rfl) (hx : Loc X.env.scope nm := by first | exact .inl rfl | exact .inr rfl)
    (hs : swapsWith e (some (.Name nm p)) pos.line X.env = pure false := by rfl) (hf : X.fn nm = true ∨ X.env.scope.names.lookup nm = some .local := by first | exact .inl rfl | exact .inr rfl | assumption) :
    S1 X O ρ (.Assign [.Name nm p] e pos) x D := fun H0 σ H st tk E ok =>
  ws_of (ps_set hN hi hx pe_w hs hf) (h H0 σ H st tk _ fun v H' s O' q st' r => ok.nx _ _ O' H' q (st'.set r))
def Wg (X : Cx) (tg : Expr) : TG := fun v σ H Q => Bx (∀ (pins : List (Addr × Obj)) (s : Shared) (u : Value), Inv X pins σ H s → RelV v u → wpAny (model X.prog X.w) X.A (assign tg X.env u) (fun _ s' => ∃ σ' H', Inv X pins σ' H' s' ∧ Q σ' H') X.xe s)
theorem pg_w {tg : Expr} : PG X tg (Wg X tg) := ⟨fun pins s σ H v u Q I r h => h.r pins s u I r⟩
theorem wg_of {tg : Expr} {t : TG} (h : PG X tg t) {v : V} {σ : SV} {H : Hp} {Q : SV → Hp → Prop} (q : t v σ H Q) : Wg X tg v σ H Q := ⟨fun pins s u I r => h.run pins s σ H v u Q I r q⟩
def GW (X : Cx) (O : Own) (ρ : List Slot) (tg : Expr) (s : Slot) (x : ExK) (k : List Slot → Own → Prop) : Prop :=
  ∀ H0 σ H v, StOk X.K H0 O σ ρ H → SlOk X.K (hid O H) v s → Takes X (Wsem X.K H0 x) → ∀ Q : SV → Hp → Prop, (∀ σ' H' ρ' O', k ρ' O' → StOk X.K H0 O' σ' ρ' H' → Q σ' H') → Wg X tg v σ H Q
theorem gw_name (i : Nat) {nm : Str} {s : Slot} (h : kl (ρ.set i s) O) (hN : X.N.Nodup) (hi : X.N[i]? = some nm := by rfl) (hx : Loc X.env.scope nm := by first | exact .inl rfl | exact .inr rfl)
    (hf : X.fn nm = true ∨ X.env.scope.names.lookup nm = some .local := by first | exact .inl rfl | exact .inr rfl | assumption) : GW X O ρ (.Name nm pos) s x kl := fun H0 σ H v st r tk Q q =>
  wg_of (pg_name hN hi hx hf) (q _ H _ O h (st.set r))
/-- several targets -/
def GsW (X : Cx) (O : Own) (ρ : List Slot) (tgs : List Expr) (ss : List Slot) (x : ExK) (k : List Slot → Own → Prop) : Prop :=
  ∀ H0 σ H vs, StOk X.K H0 O σ ρ H → Paired (SlOk X.K (hid O H)) vs ss → Takes X (Wsem X.K H0 x) → ∀ Q : SV → Hp → Prop, (∀ σ' H' ρ' O', k ρ' O' → StOk X.K H0 O' σ' ρ' H' → Q σ' H') →
    Bx (∀ (pins : List (Addr × Obj)) (s : Shared) (us : List Value), Inv X pins σ H s → Vals vs us → wpAny (model X.prog X.w) X.A (assignInOrder ((assignEach tgs X.env).map (·.2)) us) (fun _ s' => ∃ σ' H', Inv X pins σ' H' s' ∧ Q σ' H') X.xe s)
def Wgs (X : Cx) (tgs : List Expr) : TGs := fun vs σ H Q => Bx (∀ (pins : List (Addr × Obj)) (s : Shared) (us : List Value), Inv X pins σ H s → Vals vs us → wpAny (model X.prog X.w) X.A (assignInOrder ((assignEach tgs X.env).map (·.2)) us) (fun _ s' => ∃ σ' H', Inv X pins σ' H' s' ∧ Q σ' H') X.xe s)
theorem pgs_w {tgs : List Expr} : PGs X tgs (Wgs X tgs) := ⟨fun pins s σ H vs us Q I r h => h.r pins s us I r⟩
theorem gsw_nil (h : kl ρ O) : GsW X O ρ [] [] x kl := fun H0 σ H vs st r tk Q q => ⟨fun pins s us I rv => by
  cases r
  exact pgs_nil.run pins s σ H [] us Q I rv ⟨rfl, q σ H ρ O h st⟩⟩
theorem gsw_cons {tg : Expr} {tgs : List Expr} {s : Slot} {ss : List Slot} (h : GW X O ρ tg s x fun ρ1 O1 => GsW X O1 ρ1 tgs ss x kl) (hs : (assignEach (tg :: tgs) X.env).map (·.2) = assign tg X.env :: (assignEach tgs X.env).map (·.2) := by rfl) : GsW X O ρ (tg :: tgs) (s :: ss) x kl := fun H0 σ H vs st r tk Q q => ⟨fun pins sh us I rv => by
  cases r with
  | cons r1 r2 =>
    refine (pgs_cons pg_w pgs_w hs).run pins sh σ H _ us Q I rv ⟨_, _, rfl, h (hid O H) σ H _ st.top r1 (takes_base tk st.base) _ fun σ1 H1 ρ1 O1 h1 st1 => ?_⟩
    exact h1 H0 σ1 H1 _ (st1.rebase st.base) (pmap (fun _ _ z => SlOk.mono st1.base z) r2) tk Q q⟩
theorem gw_tup {tgs : List Expr} {kk : Nat} {ds : List Dat} (h : GsW X O ρ tgs (ds.map .dat) x kl) (hc : X.calm = true := by rfl) (hn : (assignEach tgs X.env).length = ds.length := by rfl) (hst : (assignEach tgs X.env).findIdx? (·.1) = none := by rfl) :
    GW X O ρ (.Tuple tgs kk pos) (.dat (.tup ds)) x kl := fun H0 σ H v st r tk Q q => by
  cases r with
  | tup h1 h2 =>
    refine wg_of (pg_tup hc pgs_w hn hst) ⟨_, _, rfl, sqt_mono (fun b o hb => (of_hid hb).2) h1, RpA.length h2, ?_⟩
    exact h H0 σ H _ st h2.paired tk Q q
theorem s1_asg {tg : Expr} (h : EW X O ρ e x fun s O' => GW X O' ρ tg s x D.nx) (hs : swapsWithSole [tg] e pos.line X.env = pure false := by rfl) (hw : swappedStores [tg] e X.env = pure none := by rfl)
    (h1 : (assignEach [tg] X.env).map (·.2) = [assign tg X.env] := by rfl) : S1 X O ρ (.Assign [tg] e pos) x D := fun H0 σ H st tk E ok =>
  ws_of (ps_asg pe_w pg_w hs hw h1) (h H0 σ H st tk _ fun v H' s O' q st' r => q H0 σ H' v st' r tk _ fun σ' H'' ρ' O'' q2 st2 => ok.nx σ' ρ' O'' H'' q2 st2)
/-- a, b = c, d with plain local names -/
theorem s1_par (i j : Nat) {nx ny : Str} {px py pt : Pos} {kt1 k2 pt2} (h : AW X O ρ [a, b] x fun ss O' => ∃ s1 s2, ss = [s1, s2] ∧ D.nx ((ρ.set i s1).set j s2) O') (hN : X.N.Nodup) (hc : X.calm = true := by rfl) (hi : X.N[i]? = some nx := by rfl) (hj : X.N[j]? = some ny := by rfl) (hij : i ≠ j := by decide)
    (hx : X.env.scope.names.lookup nx = some .local := by rfl) (hy : X.env.scope.names.lookup ny = some .local := by rfl)
    (hw : swappedStores [.Tuple [.Name nx px, .Name ny py] kt1 pt] (.Tuple [a, b] k2 pt2) X.env = pure (some [nx, ny]) := by rfl)
    (hs : swapsWithSole [.Tuple [.Name nx px, .Name ny py] kt1 pt] (.Tuple [a, b] k2 pt2) pos.line X.env = pure false := by rfl) :
    S1 X O ρ (.Assign [.Tuple [.Name nx px, .Name ny py] kt1 pt] (.Tuple [a, b] k2 pt2) pos) x D := fun H0 σ H st tk E ok =>
  ws_of (ps_par hc hN hi hj hij hx hy pa_w hw hs) (h H0 σ H st tk _ fun vs H' ss O' ⟨s1, s2, e1, q⟩ st' r => by
    subst e1
    cases r with
    | cons r1 r =>
      cases r with
      | cons r2 r =>
        cases r
        exact ⟨_, _, rfl, ok.nx _ _ O' H' q ((st'.set r1).set r2)⟩)
end
end Kn
namespace Kn
open PySem PySem.Spec PyProof.Rows
open L2 hiding St
def ItD (K : PySem.W.Frag) (G : Hp) (J : It) (ds : List Dat) : Prop := ∀ O H, OwnOk K O H → Same G (hid O H) → ∀ i,
  (∀ d, ds[i]? = some d → J.go i H ∧ ∀ v H', J.yld i H v H' → Same H H' ∧ Rp K (hid O H') v d) ∧ (ds[i]? = none → J.stop i H)
def Wi (X : Cx) (tg iter : Expr) : TI := fun σ H R => Bx (∀ (pins : List (Addr × Obj)) (s : Shared), Inv X pins σ H s →
  wpAny (model X.prog X.w) X.A (eval iter X.env) (fun v s1 => wpAny (model X.prog X.w) X.A (pyIter v) (PIE X pins σ tg R) X.xe s1) X.xe s)
def IW (X : Cx) (O : Own) (ρ : List Slot) (tg iter : Expr) (x : ExK) (k : List Dat → Own → Prop) : Prop :=
  ∀ H0 σ H, StOk X.K H0 O σ ρ H → Takes X (Wsem X.K H0 x) → ∀ R : It → Hp → Prop, (∀ J H' ds O', k ds O' → StOk X.K H0 O' σ ρ H' → ItD X.K (hid O' H') J ds → R J H') → Wi X tg iter σ H R
theorem hid_le {O : Own} {H : Hp} : Same (hid O H) H := fun b o h => (of_hid h).2
theorem itd_list {K : PySem.W.Frag} {G : Hp} {a : Addr} {xs : List V} {ds : List Dat} (h : SqL K G a xs) (r : RpA K G xs ds) : ItD K G (Itl K a) ds := fun O H ok sm i => by
  have hS : SqL K H a xs := sql_mono (sm.trans hid_le) h
  refine ⟨fun d hd => ?_, fun hn => ⟨xs, hS, by rw [r.length]; exact List.getElem?_eq_none_iff.mp hn⟩⟩
  obtain ⟨v, h1, h2⟩ := r.get hd
  refine ⟨⟨xs, v, hS, h1⟩, fun v' H' hy => ?_⟩
  obtain ⟨rfl, hv⟩ := hy
  refine ⟨Same.refl _, ?_⟩
  have e : v = v' := Option.some.inj (h1.symm.trans (hv xs hS))
  rw [← e]
  exact Rp.mono sm h2
theorem itd_tup {K : PySem.W.Frag} {G : Hp} {a : Addr} {xs : List V} {ds : List Dat} (h : SqT K G a xs) (r : RpA K G xs ds) : ItD K G (Itt K a) ds := fun O H ok sm i => by
  have hS : SqT K H a xs := sqt_mono (sm.trans hid_le) h
  refine ⟨fun d hd => ?_, fun hn => ⟨xs, hS, by rw [r.length]; exact List.getElem?_eq_none_iff.mp hn⟩⟩
  obtain ⟨v, h1, h2⟩ := r.get hd
  refine ⟨⟨xs, v, hS, h1⟩, fun v' H' hy => ?_⟩
  obtain ⟨rfl, hv⟩ := hy
  refine ⟨Same.refl _, ?_⟩
  have e : v = v' := Option.some.inj (h1.symm.trans (hv xs hS))
  rw [← e]
  exact Rp.mono sm h2
def rangeD (lo : Int) (n : Nat) : List Dat := (List.range n).map fun (i : Nat) => Dat.int (lo + (i : Int))
theorem rangeD_len (lo : Int) (n : Nat) : (rangeD lo n).length = n := by unfold rangeD; rw [List.length_map, List.length_range]
theorem rangeD_at {lo : Int} {n i : Nat} {d : Dat} (h : (rangeD lo n)[i]? = some d) : i < n ∧ d = .int (lo + (i : Int)) := by
  have hl : i < (rangeD lo n).length := (List.getElem?_eq_some_iff.mp h).1
  rw [rangeD_len] at hl
  refine ⟨hl, ?_⟩
  unfold rangeD at h
  rw [List.getElem?_map, List.getElem?_range hl] at h
  exact (Option.some.inj h).symm
theorem itd_range {K : PySem.W.Frag} {G : Hp} {lo : Int} {n : Nat} : ItD K G (Itr lo n) (rangeD lo n) := fun O H ok sm i => by
  refine ⟨fun d hd => ?_, fun hn => ?_⟩
  · obtain ⟨h1, rfl⟩ := rangeD_at hd
    refine ⟨h1, fun v H' hy => ?_⟩
    obtain ⟨rfl, rfl⟩ := hy
    exact ⟨Same.refl _, .int _⟩
  · have h1 := List.getElem?_eq_none_iff.mp hn
    rw [rangeD_len] at h1
    exact h1
section
variable {X : Cx} {O : Own} {ρ : List Slot} {x : ExK} {k k' : Slot → Own → Prop} {kl kl' : List Slot → Own → Prop} {kd : List Dat → Own → Prop} {kt kt' : Bool → Own → Prop} {e a b c tg iter : Expr} {es : List Expr} {pos p : Pos} {D : SD}
theorem pi_w : PI X tg iter (Wi X tg iter) := ⟨fun pins s σ H R I h => h.r pins s I⟩
theorem wi_of {t : TI} (h : PI X tg iter t) {σ : SV} {H : Hp} {R : It → Hp → Prop} (q : t σ H R) : Wi X tg iter σ H R := ⟨fun pins s I => h.run pins s σ H R I q⟩
theorem iw_list (h : EW X O ρ e x fun s O' => ∃ ds, s = .dat (.lst ds) ∧ kd ds O') : IW X O ρ tg e x kd := fun H0 σ H st tk R q =>
  wi_of (pi_list pe_w) (h H0 σ H st tk _ fun v H' s O' ⟨ds, e1, h1⟩ st' r => by
    subst e1
    cases r with
    | lst h2 h3 => exact ⟨_, rfl, ⟨_, sql_at (hid_le _ _ h2)⟩, q _ H' ds O' h1 st' (itd_list (sql_at h2) h3)⟩)
theorem iw_tup (h : EW X O ρ e x fun s O' => ∃ ds, s = .dat (.tup ds) ∧ kd ds O') : IW X O ρ tg e x kd := fun H0 σ H st tk R q =>
  wi_of (pi_tup pe_w) (h H0 σ H st tk _ fun v H' s O' ⟨ds, e1, h1⟩ st' r => by
    subst e1
    cases r with
    | tup h2 h3 => exact ⟨_, rfl, ⟨_, sqt_mono hid_le h2⟩, q _ H' ds O' h1 st' (itd_tup h2 h3)⟩)
theorem iw_range1 (hm : X.mg "range" = none) (h : AW X O ρ [a] x fun ss O' => ∃ n : Int, ss = [.dat (.int n)] ∧ (-(2 ^ 62) ≤ n ∧ n < 2 ^ 62) ∧ kd (rangeD 0 n.toNat) O') (hg : Gl X "range" := by rfl) (hs : starEach [a] X.env = [(false, eval a X.env)] := by rfl) :
    IW X O ρ tg (.Call (.Name "range" p) [a] [] pos) x kd := fun H0 σ H st tk R q =>
  wi_of (pi_range1 hg hm pa_w hs) (h H0 σ H st tk _ fun vs H' ss O' ⟨n, e1, h1, h2⟩ st' r => by
    subst e1
    cases r with
    | cons r1 r2 =>
      cases r1
      cases r2
      exact ⟨n, rfl, h1.1, h1.2, q _ H' _ O' h2 st' itd_range⟩)
theorem s1_for {body : List Stmt} (hpo : PassesOwn (model X.prog X.w) X.A X.env X.xe)
    (h : IW X O ρ tg iter x fun ds O1 => ∃ J : Nat → List Slot → Own → Prop, J 0 ρ O1 ∧
      (∀ i d ρ' O', J i ρ' O' → ds[i]? = some d → GW X O' ρ' tg (.dat d) x fun ρ2 O2 => SW X O2 ρ2 body x { nx := J (i + 1), rt := D.rt, bk := D.nx, ct := J (i + 1) }) ∧
      ∀ ρ' O', J ds.length ρ' O' → D.nx ρ' O')
    (hc : X.calm = true := by rfl) (hs : ∀ x, foldedSetIterable iter X.env x = pure x := by intro _; rfl) : S1 X O ρ (.For tg iter body [] pos) x D := fun H0 σ H st tk E ok => by
  refine ws_of (ps_for hpo hc pi_w pg_w pss_w hs) (h H0 σ H st tk _ fun J0 H1 ds O1 ⟨J, j0, js, je⟩ st1 it => ?_)
  have tkB := takes_base tk st1.base
  have okB := ok.base st1.base
  refine ⟨fun i m σ' H' => i + m = ds.length ∧ ∃ ρ' O', J i ρ' O' ∧ StOk X.K (hid O1 H1) O' σ' ρ' H', ⟨ds.length, by omega, ρ, O1, j0, st1.top⟩, fun i m σ' H' hW => ?_⟩
  obtain ⟨em, ρ', O', hj, st'⟩ := hW
  obtain ⟨i1, i2⟩ := it O' H' st'.own st'.base i
  cases hd : ds[i]? with
  | none =>
    have hi : ds.length ≤ i := List.getElem?_eq_none_iff.mp hd
    have ei : i = ds.length := by omega
    subst ei
    exact .inl ⟨i2 hd, okB.nx σ' ρ' O' H' (je ρ' O' hj) st'⟩
  | some d =>
    have hi : i < ds.length := (List.getElem?_eq_some_iff.mp hd).1
    obtain ⟨g1, g2⟩ := i1 d hd
    refine .inr ⟨g1, fun σ'' H'' => ∃ ρ'' O'', J (i + 1) ρ'' O'' ∧ StOk X.K (hid O1 H1) O'' σ'' ρ'' H'', fun σ'' H'' hN => ⟨m - 1, by omega, by omega, hN⟩, fun v H2 hy => ?_⟩
    obtain ⟨s1, r1⟩ := g2 v H2 hy
    refine js i d ρ' O' hj hd (hid O1 H1) σ' H2 v (st'.grow s1) r1 tkB _ fun σ3 H3 ρ3 O3 h3 st3 => ?_
    exact h3 (hid O1 H1) σ3 H3 st3 tkB _ ⟨fun σ4 ρ4 O4 H4 q s => ⟨ρ4, O4, q, s⟩, okB.rt, okB.nx, fun σ4 ρ4 O4 H4 q s => ⟨ρ4, O4, q, s⟩⟩
theorem s1_while {body : List Stmt} (hpo : PassesOwn (model X.prog X.w) X.A X.env X.xe) (J : Nat → List Slot → Own → Prop) (h0 : ∃ m, J m ρ O)
    (h : ∀ m ρ' O', J m ρ' O' → TW X O' ρ' c x fun t O2 => (t = true → SW X O2 ρ' body x { nx := fun ρ2 O3 => ∃ m', m' < m ∧ J m' ρ2 O3, rt := D.rt, bk := D.nx, ct := fun ρ2 O3 => ∃ m', m' < m ∧ J m' ρ2 O3 }) ∧ (t = false → D.nx ρ' O2)) :
    S1 X O ρ (.While c body [] pos) x D := fun H0 σ H st tk E ok => by
  refine ws_of (ps_while hpo pt_w pss_w) ⟨fun m σ' H' => ∃ ρ' O', J m ρ' O' ∧ StOk X.K H0 O' σ' ρ' H', ?_, fun m σ' H' hW => ?_⟩
  · obtain ⟨m, hm⟩ := h0
    exact ⟨m, ρ, O, hm, st⟩
  · obtain ⟨ρ', O', hj, st'⟩ := hW
    refine h m ρ' O' hj H0 σ' H' st' tk _ fun t H1 O1 h1 st1 => ?_
    cases t with
    | false => exact iteF (ok.nx σ' ρ' O1 H1 (h1.2 rfl) st1)
    | true =>
      refine iteT ⟨fun σ'' H'' => ∃ m', m' < m ∧ ∃ ρ'' O'', J m' ρ'' O'' ∧ StOk X.K H0 O'' σ'' ρ'' H'', fun σ'' H'' hN => hN, ?_⟩
      exact (h1.1 rfl) H0 σ' H1 st1 tk _ ⟨fun σ4 ρ4 O4 H4 ⟨m', l, q⟩ s => ⟨m', l, ρ4, O4, q, s⟩, ok.rt, ok.nx, fun σ4 ρ4 O4 H4 ⟨m', l, q⟩ s => ⟨m', l, ρ4, O4, q, s⟩⟩
theorem ew_lst (h : AW X O ρ es x fun ss O' => ss.length ≤ sizeLine ∧ ∀ p, O' p = none → k (.own p) (up O' p (.lst ss))) : EW X O ρ (.List es pos) x k := fun H0 σ H st tk Q q =>
  we_of (pe_lst pa_w) (h H0 σ H st tk _ fun vs H' ss O' ⟨h1, h2⟩ st' r => ⟨by rw [paired_len r]; exact h1, fun p hp =>
    q _ _ _ _ (h2 p (own_free st'.own hp)) (st'.alloc hp ⟨vs, rfl, r⟩) rfl⟩)
/-- the cell is given away at once -/
theorem ew_frz (h : EW X O ρ e x fun s O' => ∃ p ds, s = .own p ∧ O' p = some (.lst (ds.map .dat)) ∧ k (.dat (.lst ds)) (dn O' p)) : EW X O ρ e x k := fun H0 σ H st tk Q q =>
  h H0 σ H st tk Q fun v H' s O' ⟨p, ds, e1, h1, h2⟩ st' r => by
    subst e1
    obtain rfl : v = .ref p := r
    exact q _ H' _ _ h2 st'.freeze (st'.own.lst h1)
theorem ew_lstD (h : AW X O ρ es x fun ss O' => ∃ ds, ss = ds.map .dat ∧ ds.length ≤ sizeLine ∧ k (.dat (.lst ds)) O') : EW X O ρ (.List es pos) x k :=
  ew_frz (ew_lst (h.mono fun ss O' ⟨ds, e1, h1, h2⟩ => by
    subst e1
    exact ⟨by rw [List.length_map]; exact h1, fun p hp => ⟨p, ds, rfl, up_at, by rw [dn_up hp]; exact h2⟩⟩))
theorem ew_tup {x1} (h : AW X O ρ es x fun ss O' => ∃ ds, ss = ds.map .dat ∧ ds.length ≤ sizeLine ∧ k (.dat (.tup ds)) O') : EW X O ρ (.Tuple es x1 pos) x k := fun H0 σ H st tk Q q =>
  we_of (pe_tup pa_w) (h H0 σ H st tk _ fun vs H' ss O' ⟨ds, e1, h1, h2⟩ st' r => by
    subst e1
    have r' := RpA.of_paired r
    refine ⟨by rw [r'.length]; exact h1, fun p hp => q _ _ _ _ h2 (st'.grow (same_new hp)) ?_⟩
    have hO := own_free st'.own hp
    exact Rp.tup (.inl (.inl (by rw [hid_none hO, upd_same]))) (RpA.mono (hid_same (same_new hp)) r'))
def Blk (X : Cx) (scope : Scope) (Y : Cx) : Prop := ∃ (s : Shared) (H : Hp) (C : Addr) (cl : List (Str × Addr)) (fp : List Addr), Y = X.blk s H scope (compEnvC scope cl C X.env) fp
def TsW (Y : Cx) (O : Own) (ρ : List Slot) (ifs : List Expr) (x : ExK) (kt : Bool → Own → Prop) : Prop :=
  ∀ H0 σ H, StOk Y.K H0 O σ ρ H → Takes Y (Wsem Y.K H0 x) → ∀ Q : Bool → Hp → Prop, (∀ b H' O', kt b O' → StOk Y.K H0 O' σ ρ H' → Q b H') → Bx (∀ (pins : List (Addr × Obj)) (s : Shared), Inv Y pins σ H s →
    wpAny (model Y.prog Y.w) Y.A (forIn ifs true fun c r => if r = true then do let ok ← isTrue c Y.env (eval c Y.env); pure (ForInStep.yield ok) else pure (ForInStep.yield r)) (TP Y pins σ Q) Y.xe s)
theorem tsw_nil (h : kt true O) : TsW X O ρ [] x kt := fun H0 σ H st tk Q q => ⟨fun pins s I => pts_nil.run pins s σ H Q I (q true H O h st)⟩
def wipeS (ρ : List Slot) : List Nat → List Slot
  | [] => ρ
  | v :: vs => (wipeS ρ vs).set v .unk
theorem env_none {K : PySem.W.Frag} {G : Hp} {o : Option V} : EnvOk K G o .unk := trivial
theorem wipe_env {K : PySem.W.Frag} {G : Hp} {σ : SV} {ρ : List Slot} (h : Paired (EnvOk K G) σ ρ) : ∀ vs, Paired (EnvOk K G) (wipe σ vs) (wipeS ρ vs)
  | [] => h
  | v :: vs => paired_set (x := none) env_none v (wipe_env h vs)
theorem StOk.wipe {K : PySem.W.Frag} {H0 H : Hp} {σ : SV} (h : StOk K H0 O σ ρ H) (vs : List Nat) : StOk K H0 O (wipe σ vs) (wipeS ρ vs) H := ⟨h.own, h.base, wipe_env h.env vs⟩
theorem wipe_at {σ : SV} : ∀ {vs : List Nat} {i : Nat}, i ∈ vs → ∀ v, wipe (σ.set i v) vs = wipe σ vs
  | j :: vs, i, h, v => by
    show (wipe (σ.set i v) vs).set j none = (wipe σ vs).set j none
    by_cases e : i ∈ vs
    · rw [wipe_at e v]
    · have ej : i = j := by
        rcases List.mem_cons.mp h with q | q
        · exact q
        · exact absurd q e
      subst ej
      have : ∀ (vs : List Nat) (σ : SV), i ∉ vs → wipe (σ.set i v) vs = (wipe σ vs).set i v := by
        intro vs
        induction vs with
        | nil => intro σ _; rfl
        | cons z zs ih =>
          intro σ hz
          show (wipe (σ.set i v) zs).set z none = ((wipe σ zs).set z none).set i v
          rw [ih σ fun q => hz (List.mem_cons_of_mem _ q)]
          exact List.set_comm _ _ fun q => hz (by rw [q]; exact List.mem_cons_self)
      rw [this vs σ e, List.set_set]
theorem wipe_wipe {σ : SV} : ∀ {vs ws : List Nat}, (∀ i ∈ ws, i ∈ vs) → wipe (wipe σ ws) vs = wipe σ vs
  | vs, [], _ => rfl
  | vs, w :: ws, h => by
    show wipe ((wipe σ ws).set w none) vs = _
    rw [wipe_at (h w List.mem_cons_self), wipe_wipe fun i hi => h i (List.mem_cons_of_mem _ hi)]
/-- what a comprehension's target is -/
inductive Tgt (X : Cx) (scope : Scope) (vs : List Nat) : Expr → (Dat → List Slot → List Slot → Prop) → Prop
  | name {nm : Str} {p : Pos} {i : Nat} (hi : i ∈ vs) (hg : ∀ Y, Blk X scope Y → PG Y (.Name nm p) (gName i)) : Tgt X scope vs (.Name nm p) (fun d ρ ρ' => ρ' = ρ.set i (.dat d))
  | two {n1 n2 : Str} {p1 p2 p : Pos} {kk i j : Nat} (hi : i ∈ vs) (hj : j ∈ vs) (hg : ∀ Y, Blk X scope Y → PG Y (.Tuple [.Name n1 p1, .Name n2 p2] kk p) (gTup X.K 2 (gCons (gName i) (gCons (gName j) gNil)))) :
    Tgt X scope vs (.Tuple [.Name n1 p1, .Name n2 p2] kk p) (fun d ρ ρ' => ∃ d1 d2, d = .tup [d1, d2] ∧ ρ' = (ρ.set i (.dat d1)).set j (.dat d2))
  | three {n1 n2 n3 : Str} {p1 p2 p3 p : Pos} {kk i j l : Nat} (hi : i ∈ vs) (hj : j ∈ vs) (hl : l ∈ vs) (hg : ∀ Y, Blk X scope Y → PG Y (.Tuple [.Name n1 p1, .Name n2 p2, .Name n3 p3] kk p) (gTup X.K 3 (gCons (gName i) (gCons (gName j) (gCons (gName l) gNil))))) :
    Tgt X scope vs (.Tuple [.Name n1 p1, .Name n2 p2, .Name n3 p3] kk p) (fun d ρ ρ' => ∃ d1 d2 d3, d = .tup [d1, d2, d3] ∧ ρ' = ((ρ.set i (.dat d1)).set j (.dat d2)).set l (.dat d3))
theorem tgt_run {scope : Scope} {vs : List Nat} {T : Dat → List Slot → List Slot → Prop} (h : Tgt X scope vs tg T) :
    ∃ g : TG, (∀ Y, Blk X scope Y → PG Y tg g) ∧ ∀ {H0 H : Hp} {O : Own} {σ : SV} {ρ ρ' : List Slot} {v : V} {d : Dat} {Q : SV → Hp → Prop}, StOk X.K H0 O (wipe σ vs) ρ H → Rp X.K (hid O H) v d → T d ρ ρ' →
      (∀ σ', StOk X.K H0 O σ' ρ' H → wipe σ' vs = wipe σ vs → Q σ' H) → g v (wipe σ vs) H Q := by
  cases h with
  | name hi hg =>
    refine ⟨_, hg, fun {H0 H O σ ρ ρ' v d Q} st r t q => ?_⟩
    subst t
    exact q _ (st.set r) (by rw [wipe_at hi, wipe_wipe fun _ z => z])
  | two hi hj hg =>
    refine ⟨_, hg, fun {H0 H O σ ρ ρ' v d Q} st r t q => ?_⟩
    obtain ⟨d1, d2, rfl, rfl⟩ := t
    cases r with
    | tup h1 h2 =>
      cases h2 with
      | cons r1 h2 =>
        cases h2 with
        | cons r2 h2 =>
          cases h2
          refine ⟨_, _, rfl, sqt_mono hid_le h1, rfl, _, _, rfl, _, _, rfl, rfl, q _ ((st.set (s := .dat d1) r1).set (s := .dat d2) r2) ?_⟩
          rw [wipe_at hj, wipe_at hi, wipe_wipe fun _ z => z]
  | three hi hj hl hg =>
    refine ⟨_, hg, fun {H0 H O σ ρ ρ' v d Q} st r t q => ?_⟩
    obtain ⟨d1, d2, d3, rfl, rfl⟩ := t
    cases r with
    | tup h1 h2 =>
      cases h2 with
      | cons r1 h2 =>
        cases h2 with
        | cons r2 h2 =>
          cases h2 with
          | cons r3 h2 =>
            cases h2
            refine ⟨_, _, rfl, sqt_mono hid_le h1, rfl, _, _, rfl, _, _, rfl, _, _, rfl, rfl, q _ (((st.set (s := .dat d1) r1).set (s := .dat d2) r2).set (s := .dat d3) r3) ?_⟩
            rw [wipe_at hl, wipe_at hj, wipe_at hi, wipe_wipe fun _ z => z]
theorem tlc_of {elt : Expr} {ifs : List Expr} {scope : Scope} {vs : List Nat} {T : Dat → List Slot → List Slot → Prop} {g : TG}
    (hg : ∀ {H0 H : Hp} {O : Own} {σ : SV} {ρ ρ' : List Slot} {v : V} {d : Dat} {Q : SV → Hp → Prop}, StOk X.K H0 O (wipe σ vs) ρ H → Rp X.K (hid O H) v d → T d ρ ρ' → (∀ σ', StOk X.K H0 O σ' ρ' H → wipe σ' vs = wipe σ vs → Q σ' H) → g v (wipe σ vs) H Q)
    (h : IW X O ρ tg iter x fun ds O1 => ds.length ≤ sizeLine ∧ ∃ J : Nat → List Slot → Own → Prop, J 0 [] O1 ∧
      (∀ i d acc O', J i acc O' → ds[i]? = some d → ∃ ρ', T d (wipeS ρ vs) ρ' ∧ ∀ Dd, O' Dd = none → ∀ Y, Blk X scope Y → TsW Y (up O' Dd (.lst acc)) ρ' ifs noX fun t O2 =>
        (t = true → ∀ Z, Blk X scope Z → EW Z O2 ρ' elt noX fun s O3 => ∃ O4, O3 = up O4 Dd (.lst acc) ∧ O4 Dd = none ∧ J (i + 1) (acc ++ [s]) O4) ∧ (t = false → ∃ O4, O2 = up O4 Dd (.lst acc) ∧ O4 Dd = none ∧ J (i + 1) acc O4)) ∧
      ∀ acc O', J ds.length acc O' → ∀ p, O' p = none → k (.own p) (up O' p (.lst acc))) {H0 : Hp} {σ : SV} {H : Hp} {Q : VK} (st : StOk X.K H0 O σ ρ H) (tk : Takes X (Wsem X.K H0 x))
    (q : ∀ v H' s O', k s O' → StOk X.K H0 O' σ ρ H' → SlOk X.K (hid O' H') v s → Q v H') :
    tLc (Wi X tg iter) g (fun σ H Q => ∀ Y, Blk X scope Y → ∀ (pins : List (Addr × Obj)) (s : Shared), Inv Y pins σ H s →
      wpAny (model Y.prog Y.w) Y.A (forIn ifs true fun c r => if r = true then do let ok ← isTrue c Y.env (eval c Y.env); pure (ForInStep.yield ok) else pure (ForInStep.yield r)) (TP Y pins σ Q) Y.xe s)
      (fun σ H Q => ∀ Y, Blk X scope Y → We Y elt σ H Q) vs σ H Q := by
  refine h H0 σ H st tk _ fun J0 H1 ds O1 ⟨hz, J, j0, js, je⟩ st1 it => ?_
  intro Dd hD
  have hOD : O1 Dd = none := own_free st1.own hD
  have gS : Same (hid O1 H1) (hid (up O1 Dd (.lst [])) (upd H1 Dd (.lst []))) := fun b o hb => by
    obtain ⟨z1, z2⟩ := of_hid hb
    have nb := ne_of_none z2 hD
    rw [hid_none (by rw [up_ne nb]; exact z1), upd_ne nb]
    exact z2
  -- the store with the new list as a cell, over the greatest base
  refine ⟨fun i m H' => i + m = ds.length ∧ ∃ acc O', J i acc O' ∧ O' Dd = none ∧ acc.length ≤ i ∧ StOk X.K (hid O1 H1) (up O' Dd (.lst acc)) σ ρ H',
    ⟨ds.length, by omega, [], O1, j0, hOD, Nat.le_refl _, ⟨?_, gS, pmap (fun _ _ z => EnvOk.mono gS z) st1.env⟩⟩, fun i m H' hW => ?_⟩
  · exact (st1.alloc (o := .lst []) (c := .lst []) hD ⟨[], rfl, .nil⟩).own
  · obtain ⟨em, acc, O', hj, nD, hacc, st'⟩ := hW
    obtain ⟨i1, i2⟩ := it _ H' st'.own st'.base i
    cases hd : ds[i]? with
    | none =>
      have hi : ds.length ≤ i := List.getElem?_eq_none_iff.mp hd
      have ei : i = ds.length := by omega
      subst ei
      exact .inl ⟨i2 hd, q _ H' _ _ (je acc O' hj Dd nD) (st'.rebase st1.base) rfl⟩
    | some d =>
      have hi : i < ds.length := (List.getElem?_eq_some_iff.mp hd).1
      obtain ⟨g1, g2⟩ := i1 d hd
      obtain ⟨ρ', ht, hb⟩ := js i d acc O' hj hd
      have hb := hb Dd nD
      refine .inr ⟨g1, fun H'' => ∃ acc2 O2, J (i + 1) acc2 O2 ∧ O2 Dd = none ∧ acc2.length ≤ i + 1 ∧ StOk X.K (hid O1 H1) (up O2 Dd (.lst acc2)) σ ρ H'', fun H'' hN => ⟨m - 1, by omega, by omega, hN⟩, fun v H2 hy => ?_⟩
      obtain ⟨s1, r1⟩ := g2 v H2 hy
      have st2 := st'.grow s1
      refine hg (σ := σ) (st2.wipe vs) r1 ht fun σ' st3 hw => ⟨hw, fun Y hY pins s I => ?_⟩
      obtain ⟨sY, HY, CY, clY, fpY, eY⟩ := id hY
      have eK : Y.K = X.K := by rw [eY]
      have st3Y : StOk Y.K (hid O1 H1) (up O' Dd (.lst acc)) σ' ρ' H2 := by rw [eK]; exact st3
      refine (hb Y hY (hid O1 H1) σ' H2 st3Y takes_no _ fun t H3 O3 h3 st4 => ?_).r pins s I
      -- the way back to the outer names
      have env2 : Paired (EnvOk X.K (hid (up O' Dd (.lst acc)) H2)) σ ρ := st2.env
      cases t with
      | false =>
        obtain ⟨O4, e4, n4, j4⟩ := h3.2 rfl
        subst e4
        refine iteF ⟨acc, O4, j4, n4, by omega, ?_⟩
        rw [eK] at st4
        exact ⟨st4.own, st4.base, pmap (fun _ _ z => EnvOk.mono st4.base z) st1.env⟩
      | true =>
        refine iteT fun Z hZ => ?_
        obtain ⟨sZ, HZ, CZ, clZ, fpZ, eZ⟩ := id hZ
        have eKZ : Z.K = X.K := by rw [eZ]
        have eYZ : Z.K = Y.K := by rw [eZ, eY]
        refine (h3.1 rfl) Z hZ (hid O1 H1) σ' H3 (by rw [eYZ]; exact st4) takes_no _ fun u H5 s5 O5 h5 st5 r5 => ?_
        obtain ⟨O4, e4, n4, j4⟩ := h5
        subst e4
        rw [eKZ] at st5 r5
        obtain ⟨o5, c1, xs5, rfl, c2⟩ := st5.own.cell Dd _ up_at
        have lx : xs5.length = acc.length := paired_len c2
        have gw : Same (hid (up O4 Dd (.lst acc)) H5) (hid (up O4 Dd (.lst (acc ++ [s5]))) (upd H5 Dd (.lst (xs5 ++ [u])))) := by
          have := hid_write (H := H5) (o := .lst (xs5 ++ [u])) (c := .lst (acc ++ [s5])) (O := up O4 Dd (.lst acc)) up_at
          rw [up_up] at this
          exact this
        have st6 := st5.write (o := .lst (xs5 ++ [u])) (c := .lst (acc ++ [s5])) up_at ⟨_, rfl, paired_app c2 (.cons r5 .nil)⟩
        rw [up_up] at st6
        refine ⟨xs5, c1, by omega, acc ++ [s5], O4, j4, n4, by rw [List.length_append]; exact Nat.add_le_add_right hacc 1, ⟨st6.own, st6.base, pmap (fun _ _ z => EnvOk.mono st6.base z) st1.env⟩⟩
theorem ew_lc (own : List (Str × Nat)) {elt : Expr} {ifs : List Expr} {scope : Scope} {T : Dat → List Slot → List Slot → Prop} (hN : X.N.Nodup) (tg_ok : Tgt X scope (own.map (·.2)) tg T) (ok : BlkOk X.N X.env.scope scope own)
    (h : IW X O ρ tg iter x fun ds O1 => ds.length ≤ sizeLine ∧ ∃ J : Nat → List Slot → Own → Prop, J 0 [] O1 ∧
      (∀ i d acc O', J i acc O' → ds[i]? = some d → ∃ ρ', T d (wipeS ρ (own.map (·.2))) ρ' ∧ ∀ Dd, O' Dd = none → ∀ Y, Blk X scope Y → TsW Y (up O' Dd (.lst acc)) ρ' ifs noX fun t O2 =>
        (t = true → ∀ Z, Blk X scope Z → EW Z O2 ρ' elt noX fun s O3 => ∃ O4, O3 = up O4 Dd (.lst acc) ∧ O4 Dd = none ∧ J (i + 1) (acc ++ [s]) O4) ∧ (t = false → ∃ O4, O2 = up O4 Dd (.lst acc) ∧ O4 Dd = none ∧ J (i + 1) acc O4)) ∧
      ∀ acc O', J ds.length acc O' → ∀ p, O' p = none → k (.own p) (up O' p (.lst acc))) (hc : X.calm = true := by rfl) (hs : ∀ x, foldedSetIterable iter X.env x = pure x := by intro _; rfl) :
    EW X O ρ (.ListComp elt [⟨tg, iter, ifs, 0⟩] scope pos) x k := fun H0 σ H st tk Q q => by
  obtain ⟨g, g1, g2⟩ := tgt_run tg_ok
  exact we_of (pe_lc hc hN pi_w ok (fun s H C cl fp => g1 _ ⟨s, H, C, cl, fp, rfl⟩) (fun s H C cl fp => ⟨fun pins sh σ H5 Q I hq => hq _ ⟨s, H, C, cl, fp, rfl⟩ pins sh I⟩) (fun s H C cl fp => ⟨fun pins sh σ H5 Q I hq => (hq _ ⟨s, H, C, cl, fp, rfl⟩).r pins sh I⟩) hs)
    (tlc_of g2 h st tk q)
/-- y = [..] with y a local -/
theorem s1_setLc (own : List (Str × Nat)) (i : Nat) {nm : Str} {py spos : Pos} {elt : Expr} {ifs : List Expr} {scope : Scope} {T : Dat → List Slot → List Slot → Prop} (hN : X.N.Nodup) (tg_ok : Tgt X scope (own.map (·.2)) tg T) (ok : BlkOk X.N X.env.scope scope own)
    (h : IW X O ρ tg iter x fun ds O1 => ds.length ≤ sizeLine ∧ ∃ J : Nat → List Slot → Own → Prop, J 0 [] O1 ∧
      (∀ i d acc O', J i acc O' → ds[i]? = some d → ∃ ρ', T d (wipeS ρ (own.map (·.2))) ρ' ∧ ∀ Dd, O' Dd = none → ∀ Y, Blk X scope Y → TsW Y (up O' Dd (.lst acc)) ρ' ifs noX fun t O2 =>
        (t = true → ∀ Z, Blk X scope Z → EW Z O2 ρ' elt noX fun s O3 => ∃ O4, O3 = up O4 Dd (.lst acc) ∧ O4 Dd = none ∧ J (i + 1) (acc ++ [s]) O4) ∧ (t = false → ∃ O4, O2 = up O4 Dd (.lst acc) ∧ O4 Dd = none ∧ J (i + 1) acc O4)) ∧
      ∀ acc O', J ds.length acc O' → ∀ p, O' p = none → D.nx (ρ.set i (.own p)) (up O' p (.lst acc))) (hc : X.calm = true := by rfl)
    (hy : X.N[i]? = some nm := by rfl) (hyl : X.env.scope.names.lookup nm = some .local := by rfl)
    (hsw : swapsWith (.ListComp elt [⟨tg, iter, ifs, 0⟩] scope pos) (some (.Name nm py)) spos.line X.env = pure true := by exact sw_true rfl rfl rfl (by decide +kernel)) (hs : ∀ x, foldedSetIterable iter X.env x = pure x := by intro _; rfl) :
    S1 X O ρ (.Assign [.Name nm py] (.ListComp elt [⟨tg, iter, ifs, 0⟩] scope pos) spos) x D := fun H0 σ H st tk E okE => by
  obtain ⟨g, g1, g2⟩ := tgt_run tg_ok
  exact ws_of (ps_setLc hc hN hy hyl hsw pi_w ok (fun s H C cl fp => g1 _ ⟨s, H, C, cl, fp, rfl⟩) (fun s H C cl fp => ⟨fun pins sh σ H5 Q I hq => hq _ ⟨s, H, C, cl, fp, rfl⟩ pins sh I⟩) (fun s H C cl fp => ⟨fun pins sh σ H5 Q I hq => (hq _ ⟨s, H, C, cl, fp, rfl⟩).r pins sh I⟩) hs)
    (tlc_of (k := fun s O' => D.nx (ρ.set i s) O') g2 h st tk fun v H' s O' hq st' r => okE.nx _ _ O' H' hq (st'.set r))
end
end Kn
namespace Kn
open PySem PySem.Spec PyProof.Rows
open L2 hiding St
inductive Out where
  | ret (s : Slot)
  | exc (e : Exn)
/-- a contract: the arguments, the cells, and what is wanted of each way out -/
abbrev SpecT := List Slot → Own → (Out → Own → Prop) → Prop
structure RoomB (g : Bool) (k : Nat) (A : Around) : Prop where
  r : Room k A
  g : g = true → A.guards = some []
theorem RoomB.mono {g g' : Bool} {j k : Nat} {A : Around} (h : RoomB g k A) (hk : j ≤ k) (hg : g' = true → g = true) : RoomB g' j A := ⟨h.r.mono hk, fun e => h.g (hg e)⟩
def RetOk (K : PySem.W.Frag) (O : Own) (H : Hp) (R : Out → Own → Prop) (Q : VK) : Prop :=
  ∀ v H' s O', R (.ret s) O' → OwnOk K O' H' → Same (hid O H) (hid O' H') → SlOk K (hid O' H') v s → Q v H'
def ErrOk (K : PySem.W.Frag) (O : Own) (H : Hp) (R : Out → Own → Prop) (E : XK) : Prop :=
  ∀ cls d e H' O', R (.exc e) O' → OwnOk K O' H' → Same (hid O H) (hid O' H') → ExOk K O' H' cls d e → E cls d H'
def spS (K : PySem.W.Frag) (S : SpecT) : Sp := fun vs H Q E => ∃ O ss R, OwnOk K O H ∧ Paired (SlOk K (hid O H)) vs ss ∧ S ss O R ∧ RetOk K O H R Q ∧ ErrOk K O H R E
structure Fn (P : Program) (w : World) (K : PySem.W.Frag) (mg : Str → Option Value) (base : Heap) (g : Bool) (k : Nat) (f : Addr) (fd : FuncData) (ps : List Str) (S : SpecT) : Prop where
  len : ∀ ss O R, S ss O R → ss.length = ps.length
  run : ∀ (A : Around) (outer : List Env) (s : Shared) (H : Hp) (args : Args) (us : List Value) (vs : List V) (Q : VK) (E : XK), RoomB g k A → Env0 P w K mg base A outer s H → BindsTo s fd args (ps.zip us) → Vals vs us → spS K S vs H Q E →
    codeAny (model P w) A (.call (.ref f) args) (CR (L2.CX P w) outer P w H s Q E) s
section
variable {P : Program} {w : World} {K : PySem.W.Frag} {mg : Str → Option Value} {base : Heap} {g : Bool} {k : Nat} {f : Addr} {fd : FuncData} {ps : List Str} {S : SpecT}
theorem spS_len (len : ∀ ss O R, S ss O R → ss.length = ps.length) : ∀ vs H Q E, spS K S vs H Q E → vs.length = ps.length := fun vs H Q E ⟨O, ss, R, _, pr, hS, _⟩ => (paired_len pr).trans (len _ _ _ hS)
theorem Fn.ok (F : Fn P w K mg base false k f fd ps S) : FnOk P w K mg base (L2.CX P w) k f fd ps (spS K S) :=
  ⟨spS_len F.len, fun A outer s H args us vs Q E hr e0 hb r hs => F.run A outer s H args us vs Q E ⟨hr, fun e => nomatch e⟩ e0 hb r hs⟩
def startS (N : List Str) (ss : List Slot) : List Slot := ss ++ List.replicate (N.length - ss.length) .unk
theorem paired_rep {α β : Type} {F : α → β → Prop} {a : α} {b : β} (h : F a b) : ∀ n, Paired F (List.replicate n a) (List.replicate n b)
  | 0 => .nil
  | n + 1 => .cons h (paired_rep h n)
theorem env_of {G : Hp} : ∀ {vs : List V} {ss : List Slot}, Paired (SlOk K G) vs ss → Paired (EnvOk K G) (vs.map some) ss
  | _, _, .nil => .nil
  | _, s :: _, .cons h t => .cons (by
      cases s with
      | unk => trivial
      | dat d => exact ⟨_, rfl, h⟩
      | own p => exact congrArg some h) (env_of t)
theorem start_env {G : Hp} {N : List Str} {vs : List V} {ss : List Slot} (h : Paired (SlOk K G) vs ss) : Paired (EnvOk K G) (L2.start N vs) (startS N ss) := by
  unfold L2.start startS
  rw [paired_len h]
  exact paired_app (env_of h) (paired_rep trivial _)
theorem roomB_deeper {A : Around} (r : RoomB g (k + 1) A) (env : Env) : RoomB g k (A.deeper env) := ⟨r.r.deeper env, fun e => r.g e⟩
/-- a def as it stands behind the top, whatever its defaults -/
def FunX (K : PySem.W.Frag) (x qual : Str) (st : Stmt) (f : Addr) (fd : FuncData) : Prop := ∃ (oc : Value) (od : Option Addr) (dV kV doc pm : Value) (an : Option Addr) (cdv ct : Value) (osl : Array (Option Value)),
  fd = PySem.W.fnOf x qual (defArgs st) (defBody st) (defScope st) dV kV doc pm an cdv ct ∧ K.lookup f = some ⟨oc, od, .func fd, osl⟩ ∧ PySem.W.codeIn K cdv qual = true
theorem funX_of {x qual : Str} {st : Stmt} (F : L2.Fun K x qual st f fd) : FunX K x qual st f fd := by
  obtain ⟨oc, od, kV, doc, pm, an, cdv, ct, osl, h⟩ := F.ex
  exact ⟨oc, od, .none, kV, doc, pm, an, cdv, ct, osl, h⟩
theorem funX_ofD {x qual : Str} {st : Stmt} {dvs : List V} (F : L2.FunD K x qual (defArgs st) (defBody st) (defScope st) dvs [] f fd) : FunX K x qual st f fd := by
  obtain ⟨oc, od, dV, kV, doc, pm, an, cdv, ct, osl, h1, h2, h3, _⟩ := F.ex
  exact ⟨oc, od, dV, kV, doc, pm, an, cdv, ct, osl, h1, h2, h3⟩
/-- a def keeps its contract -/
theorem fn_mkX {x qual : Str} {st : Stmt} {N : List Str} (F : FunX K x qual st f fd) (Sc : FnScope N ps (defScope st)) (len : ∀ ss O R, S ss O R → ss.length = ps.length)
    (body : ∀ (cdv : Value) (A : Around) (outer : List Env) (s : Shared) (H : Hp) (E : XK) (ss : List Slot) (O : Own) (R : Out → Own → Prop), RoomB g k (cxOf (L2.CX P w) P w K mg base N qual (defScope st) f cdv A outer s H E).A →
      PassesOwn (model P w) (cxOf (L2.CX P w) P w K mg base N qual (defScope st) f cdv A outer s H E).A (cxOf (L2.CX P w) P w K mg base N qual (defScope st) f cdv A outer s H E).env (cxOf (L2.CX P w) P w K mg base N qual (defScope st) f cdv A outer s H E).xe → S ss O R →
      SW (cxOf (L2.CX P w) P w K mg base N qual (defScope st) f cdv A outer s H E) O (startS N ss) (defBody st) (fun e _ O' => R (.exc e) O') { nx := fun _ O' => R (.ret (.dat .non)) O', rt := fun z O' => R (.ret z) O' }) :
    Fn P w K mg base g (k + 1) f fd ps S := by
  obtain ⟨oc, od, dV, kV, doc, pm, an, cdv, ct, osl, rfl, lk, hcd⟩ := F
  refine ⟨len, fun A outer s H args us vs Q E hr e0 hb r hsp => ?_⟩
  obtain ⟨O, ss, R, own, pr, hS, hret, herr⟩ := hsp
  have hl : vs.length = ps.length := (paired_len pr).trans (len _ _ _ hS)
  have KX : K.In s.heap := e0.mod.kin.keeps fun b o e => (e0.bs b o e).1
  have lim : s.heap.NoLimit := e0.mod.nolimit.keeps fun b o e => (e0.bs b o e).1
  have hkind : ∀ y ∈ ps.zip us, (defScope st).names.lookup y.1 = some .local ∨ ((defScope st).names.lookup y.1 = some .cell ∧ ((cellsFrom (s.heap.objs.size + 1) (defScope st).names []).lookup y.1).isSome = true) := fun y hy => by
    rcases Sc.par y.1 (List.of_mem_zip (show (y.1, y.2) ∈ ps.zip us from hy)).1 with q | q
    · exact .inl q
    · exact .inr ⟨q, PySem.W.cellsFrom_some _ _ _ (.inl q)⟩
  refine codeAny_call_function hr.r.depth (KX _ _ lk) rfl Sc.co Sc.gen rfl (PySem.W.codeRec_of KX hcd) (hb _ _ _ _ ?_)
  refine wpAny_newFunctionEnv_cells Sc.kind hkind fun env he s1 hin => ?_
  subst he
  refine ⟨lim.keeps hin.toInCall.keep, codeAny_func ?_⟩
  have I := inv_start (CX := L2.CX P w) (E := E) Sc hr.r.hd e0 hl r hin
  have hrD : RoomB g k (cxOf (L2.CX P w) P w K mg base N qual (defScope st) f cdv A outer s H E).A := roomB_deeper hr _
  have hpo : PassesOwn (model P w) (cxOf (L2.CX P w) P w K mg base N qual (defScope st) f cdv A outer s H E).A (cxOf (L2.CX P w) P w K mg base N qual (defScope st) f cdv A outer s H E).env (cxOf (L2.CX P w) P w K mg base N qual (defScope st) f cdv A outer s H E).xe :=
    passes_of (X := cxOf (L2.CX P w) P w K mg base N qual (defScope st) f cdv A outer s H E) rfl
  have hst : StOk K (hid O H) O (L2.start N vs) (startS N ss) H := ⟨own, Same.refl _, start_env pr⟩
  have tk : Takes (cxOf (L2.CX P w) P w K mg base N qual (defScope st) f cdv A outer s H E) (Wsem K (hid O H) fun e _ O' => R (.exc e) O') :=
    (takes_of (X := cxOf (L2.CX P w) P w K mg base N qual (defScope st) f cdv A outer s H E) rfl rfl rfl rfl).imp fun cls d σ' H' ⟨e, ρ', O', h1, h2, h3⟩ => herr cls d e H' O' h1 h2.own h2.base h3
  have main := (body cdv A outer s H E ss O R hrD hpo hS (hid O H) (L2.start N vs) H hst tk { nx := fun _ H' => Q .non H', rt := Q }
    ⟨fun σ' ρ' O' H' h1 h2 => hret .non H' _ O' h1 h2.own h2.base .non, fun v z O' H' h1 h2 h3 h4 => hret v H' z O' h1 h2 h3 h4, fun _ _ _ _ h _ => h.elim, fun _ _ _ _ h _ => h.elim⟩).r [] s1 I
  refine wpAny_mono main (fun fl s' hs => ?_) fun e s' hs => hs
  have fin : ∀ {σ' : SV} {H' : Hp} {v : V} {u : Value}, L2.Inv (cxOf (L2.CX P w) P w K mg base N qual (defScope st) f cdv A outer s H E) [] σ' H' s' → RelV v u → Q v H' → CE outer P w H s Q u s' :=
    fun {σ' H' v u} J rv q => ⟨v, H', J.os, J.bare, J.base, J.hok, rv, q⟩
  cases fl with
  | ret u =>
    obtain ⟨v, σ', H', J, rv, q⟩ := hs
    exact fin J rv q
  | next =>
    obtain ⟨σ', H', J, q⟩ := hs
    exact fin (v := V.non) (u := Value.none) J rfl q
  | brk =>
    obtain ⟨_, _, _, q⟩ := hs
    exact False.elim q
  | cont =>
    obtain ⟨_, _, _, q⟩ := hs
    exact False.elim q
theorem fn_mk {x qual : Str} {st : Stmt} {N : List Str} (F : L2.Fun K x qual st f fd) (Sc : FnScope N ps (defScope st)) (len : ∀ ss O R, S ss O R → ss.length = ps.length)
    (body : ∀ (cdv : Value) (A : Around) (outer : List Env) (s : Shared) (H : Hp) (E : XK) (ss : List Slot) (O : Own) (R : Out → Own → Prop), RoomB g k (cxOf (L2.CX P w) P w K mg base N qual (defScope st) f cdv A outer s H E).A →
      PassesOwn (model P w) (cxOf (L2.CX P w) P w K mg base N qual (defScope st) f cdv A outer s H E).A (cxOf (L2.CX P w) P w K mg base N qual (defScope st) f cdv A outer s H E).env (cxOf (L2.CX P w) P w K mg base N qual (defScope st) f cdv A outer s H E).xe → S ss O R →
      SW (cxOf (L2.CX P w) P w K mg base N qual (defScope st) f cdv A outer s H E) O (startS N ss) (defBody st) (fun e _ O' => R (.exc e) O') { nx := fun _ O' => R (.ret (.dat .non)) O', rt := fun z O' => R (.ret z) O' }) :
    Fn P w K mg base g (k + 1) f fd ps S := fn_mkX (funX_of F) Sc len body
end
/-- a module's def by its name, with its contract and the defaults that fill up -/
def Cal (P : Program) (w : World) (K : PySem.W.Frag) (mg : Str → Option Value) (base : Heap) (g : Bool) (k : Nat) (nm : Str) (S : SpecT) (df : List Dat) : Prop :=
  ∃ (f : Addr) (fd : FuncData) (ps : List Str) (ds : List Value) (dvs : List V), mg nm = some (.ref f) ∧ PySem.W.keepIn K (.ref f) = true ∧ Fn P w K mg base g k f fd ps S ∧ Binds K fd ps ds ∧ Vals dvs ds ∧ ∀ G, RpA K G dvs df
section
variable {X : Cx} {O : Own} {ρ : List Slot} {x : ExK} {k k' : Slot → Own → Prop} {kl kl' : List Slot → Own → Prop} {e a b c : Expr} {es : List Expr} {pos p : Pos} {D : SD} {g g' : Bool} {j n : Nat} {S : SpecT} {df : List Dat}
theorem StOk.next {K : PySem.W.Frag} {H0 H H' : Hp} {O O' : Own} {σ : SV} {ρ : List Slot} (h : StOk K H0 O σ ρ H) (o : OwnOk K O' H') (s : Same (hid O H) (hid O' H')) : StOk K H0 O' σ ρ H' :=
  ⟨o, h.base.trans s, pmap (fun _ _ z => EnvOk.mono s z) h.env⟩
/-- what follows a call -/
@[reducible] def kOut (x : ExK) (ρ : List Slot) (k : Slot → Own → Prop) : Out → Own → Prop
  | .ret s, O => k s O
  | .exc e, O => x e ρ O
theorem run_call {f : Addr} {fd : FuncData} {ps : List Str} {ds : List Value} {dvs vs : List V} {us : List Value} {ss : List Slot} {pins : List (Addr × Obj)} {s : Shared} {σ : SV} {H0 H : Hp} {Q : VK}
    (F : Fn X.prog X.w X.K X.mg X.base g n f fd ps S) (hr : RoomB g n X.A) (hb : Binds X.K fd ps ds) (hd : Vals dvs ds) (hdf : ∀ G, RpA X.K G dvs df) (I : Inv X pins σ H s) (st : StOk X.K H0 O σ ρ H) (tk : Takes X (Wsem X.K H0 x)) (rv : Vals vs us)
    (pr : Paired (SlOk X.K (hid O H)) vs ss) (hS : S (ss ++ df.map .dat) O (kOut x ρ k)) (q : ∀ v H' s O', k s O' → StOk X.K H0 O' σ ρ H' → SlOk X.K (hid O' H') v s → Q v H') :
    wpAny (model X.prog X.w) X.A (call (.ref f) us) (EP X pins σ Q) X.xe s := by
  have r2 : Vals (vs ++ dvs) (us ++ ds) := rv.append hd
  have sp : spS X.K S (vs ++ dvs) H Q (fun cls d H' => Wsem X.K H0 x cls d σ H') := ⟨O, ss ++ df.map .dat, kOut x ρ k, st.own, paired_app pr (hdf _).paired, hS,
    fun v H' s' O' h1 h2 h3 h4 => q v H' s' O' h1 (st.next h2 h3) h4, fun cls d e H' O' h1 h2 h3 h4 => ⟨e, ρ, O', h1, st.next h2 h3, h4⟩⟩
  have hl : (us ++ ds).length = ps.length := by rw [← r2.length]; exact spS_len F.len _ _ _ _ sp
  refine wpAny_call (codeAny_mono (F.run X.A X.stack s H ⟨us, []⟩ (us ++ ds) (vs ++ dvs) Q _ hr I.env0 (hb s us I.kIn hl) r2 sp) fun r s' hq => ?_)
  cases r with
  | error e => exact tk e s' (XE.of_call I (fun _ _ _ h => h) hq)
  | ok fl =>
    cases fl with
    | ret u => exact I.after hq
    | next => exact False.elim hq
    | brk => exact False.elim hq
    | cont => exact False.elim hq
theorem ew_call {nm : Str} (cl : Cal X.prog X.w X.K X.mg X.base g n nm S df) (hr : RoomB g' j X.A) (h : AW X O ρ (e :: es) x fun ss O1 => S (ss ++ df.map .dat) O1 (kOut x ρ k)) (hj : n ≤ j := by decide) (hgg : g = true → g' = true := by first | exact fun _ => rfl | exact fun h => h | exact fun h => nomatch h)
    (hg : Gl X nm := by rfl) (hdb : (nm == ("__debug__" : Str)) = false := by decide) (he : starEach (e :: es) X.env = (false, eval e X.env) :: starEach es X.env := by rfl) (hpl : (backTo pos (starEach es X.env)).any (·.1) = false := by rfl) :
    EW X O ρ (.Call (.Name nm p) (e :: es) [] pos) x k := fun H0 σ H st tk Q q => ⟨fun pins s I => by
  obtain ⟨f, fd, ps, ds, dvs, hm, hk, F, hb, hd, hdf⟩ := cl
  refine wpAny_Call_Name_kw (ld_glob I hg hm ?_ hdb)
  refine PySem.W.callWith_K (h₀ := X.base) I.ok.mod.kin hk (thn ((pa_w (es := e :: es)).run pos pins s σ H (fun vs H1 => ∃ ss O1, StOk X.K H0 O1 σ ρ H1 ∧ Paired (SlOk X.K (hid O1 H1)) vs ss ∧ S (ss ++ df.map .dat) O1 (kOut x ρ k)) I (h H0 σ H st tk _ fun vs H1 ss O1 h1 st1 r1 => ⟨ss, O1, st1, r1, h1⟩)) fun us s1 hq => ?_) he hpl
  obtain ⟨vs, H1, I1, rv, ss, O1, st1, pr, hS⟩ := hq
  exact ⟨I1.kIn, run_call F (hr.mono hj hgg) hb hd hdf I1 st1 tk rv pr hS q⟩⟩
end
end Kn
namespace Kn
open PySem PySem.Spec PyProof.Rows
open L2 hiding St
end Kn
namespace Kn
open PySem PySem.Spec PyProof.Rows
open L2 hiding St
def kyP : Key → PyData
  | .inl i => .int i
  | .inr z => .str z
mutual
def toPy : Dat → PyData
  | .non => .none
  | .bl b => .bool b
  | .int i => .int i
  | .str x => .str x
  | .lst xs => .list (toPys xs)
  | .fro xs => .list (toPys xs)
  | .tup xs => .tuple (toPys xs)
  | .key ks => .tuple (ks.map kyP)
  | _ => .none
def toPys : List Dat → List PyData
  | [] => []
  | d :: ds => toPy d :: toPys ds
end
mutual
def plain : Dat → Bool
  | .non => true
  | .bl _ => true
  | .int _ => true
  | .str _ => true
  | .lst xs => plains xs
  | .fro xs => plains xs
  | .tup xs => plains xs
  | .key _ => true
  | _ => false
def plains : List Dat → Bool
  | [] => true
  | d :: ds => plain d && plains ds
end
section
variable {K : PySem.W.Frag} {G H : Hp} {O : Own}
theorem dp_keys : ∀ ks : List Key, DpAll K G (ks.map kV) (ks.map kyP)
  | [] => .nil
  | .inl i :: ks => .cons (.int i) (dp_keys ks)
  | .inr z :: ks => .cons (.str z) (dp_keys ks)
mutual
theorem Rp.dp {v : V} : ∀ {d : Dat}, plain d = true → Rp K G v d → Dp K G v (toPy d)
  | .non, _, h => by cases h; exact .non
  | .bl b, _, h => by cases h; exact .bl b
  | .int i, _, h => by cases h; exact .int i
  | .str x, _, h => by cases h; exact .str x
  | .lst ds, p, h => by
    cases h with
    | lst h1 h2 => exact .lst (sql_at h1) (RpA.dp p h2)
  | .fro ds, p, h => by
    cases h with
    | fro h1 h2 => exact .lst h1 (RpA.dp p h2)
  | .tup ds, p, h => by
    cases h with
    | tup h1 h2 => exact .tup h1 (RpA.dp p h2)
  | .key ks, _, h => by
    cases h with
    | key h1 => exact .tup (.inl (.inl h1)) (dp_keys ks)
theorem RpA.dp : ∀ {vs : List V} {ds : List Dat}, plains ds = true → RpA K G vs ds → DpAll K G vs (toPys ds)
  | _, [], _, h => by cases h; exact .nil
  | _, d :: ds, p, h => by
    cases h with
    | cons h1 h2 =>
      obtain ⟨p1, p2⟩ := Bool.and_eq_true_iff.mp p
      exact .cons (Rp.dp p1 h1) (RpA.dp p2 h2)
end
theorem Rp.tk {v : V} {d : Dat} (h : Rp K (hid O H) v d) : Rp K H v d := Rp.mono hid_le h
end
section
variable {X : Cx} {O : Own} {ρ : List Slot} {x : ExK} {k k' : Slot → Own → Prop} {kl kl' : List Slot → Own → Prop} {e a b c o : Expr} {es : List Expr} {pos p apos : Pos} {D : SD}
theorem ob_add {i j : Int} (h : k (.dat (.int (i + j))) O) : OpB X (binaryOp .Add) (.dat (.int i)) (.dat (.int j)) O k := ⟨_, op_add, fun H0 σ ρ H v1 v2 st r1 r2 Q q => by
  cases r1; cases r2; exact ⟨i, j, rfl, rfl, q _ H _ O h st (.int _)⟩⟩
theorem ob_sub {i j : Int} (h : k (.dat (.int (i - j))) O) : OpB X (binaryOp .Sub) (.dat (.int i)) (.dat (.int j)) O k := ⟨_, op_sub, fun H0 σ ρ H v1 v2 st r1 r2 Q q => by
  cases r1; cases r2; exact ⟨i, j, rfl, rfl, q _ H _ O h st (.int _)⟩⟩
theorem ob_mul {i j : Int} (hb : (-(2 ^ 64) < i ∧ i < 2 ^ 64) ∨ (-(2 ^ 64) < j ∧ j < 2 ^ 64)) (h : k (.dat (.int (i * j))) O) : OpB X (binaryOp .Mult) (.dat (.int i)) (.dat (.int j)) O k := ⟨_, op_mul, fun H0 σ ρ H v1 v2 st r1 r2 Q q => by
  cases r1; cases r2; exact ⟨i, j, rfl, rfl, hb, q _ H _ O h st (.int _)⟩⟩
theorem ob_mod {i j : Int} (hb : 0 < j) (h : k (.dat (.int (i % j))) O) : OpB X (binaryOp .Mod) (.dat (.int i)) (.dat (.int j)) O k := ⟨_, op_mod, fun H0 σ ρ H v1 v2 st r1 r2 Q q => by
  cases r1; cases r2; exact ⟨i, j, rfl, rfl, hb, q _ H _ O h st (.int _)⟩⟩
theorem ob_fdiv {i j : Int} (hb : 0 < j ∧ j < 1073741824) (h : k (.dat (.int (i / j))) O) : OpB X (binaryOp .FloorDiv) (.dat (.int i)) (.dat (.int j)) O k := ⟨_, op_fdiv, fun H0 σ ρ H v1 v2 st r1 r2 Q q => by
  cases r1; cases r2; exact ⟨i, j, rfl, rfl, hb, q _ H _ O h st (.int _)⟩⟩
theorem ob_pow {i j : Int} (hb : 0 ≤ j ∧ j ≤ 1000000 ∧ i.natAbs < 2 ^ 64) (h : k (.dat (.int (i ^ j.toNat))) O) : OpB X (binaryOp .Pow) (.dat (.int i)) (.dat (.int j)) O k := ⟨_, op_pow, fun H0 σ ρ H v1 v2 st r1 r2 Q q => by
  cases r1; cases r2; exact ⟨i, j, rfl, rfl, hb, q _ H _ O h st (.int _)⟩⟩
theorem ob_lt {i j : Int} (h : k (.dat (.bl (decide (i < j)))) O) : OpB X (compareOp .Lt) (.dat (.int i)) (.dat (.int j)) O k := ⟨_, op_lt, fun H0 σ ρ H v1 v2 st r1 r2 Q q => by
  cases r1; cases r2; exact ⟨i, j, rfl, rfl, q _ H _ O h st (.bl _)⟩⟩
theorem ob_le {i j : Int} (h : k (.dat (.bl (decide (i ≤ j)))) O) : OpB X (compareOp .LtE) (.dat (.int i)) (.dat (.int j)) O k := ⟨_, op_le, fun H0 σ ρ H v1 v2 st r1 r2 Q q => by
  cases r1; cases r2; exact ⟨i, j, rfl, rfl, q _ H _ O h st (.bl _)⟩⟩
theorem ob_gt {i j : Int} (h : k (.dat (.bl (decide (j < i)))) O) : OpB X (compareOp .Gt) (.dat (.int i)) (.dat (.int j)) O k := ⟨_, op_gt, fun H0 σ ρ H v1 v2 st r1 r2 Q q => by
  cases r1; cases r2; exact ⟨i, j, rfl, rfl, q _ H _ O h st (.bl _)⟩⟩
theorem ob_ge {i j : Int} (h : k (.dat (.bl (decide (j ≤ i)))) O) : OpB X (compareOp .GtE) (.dat (.int i)) (.dat (.int j)) O k := ⟨_, op_ge, fun H0 σ ρ H v1 v2 st r1 r2 Q q => by
  cases r1; cases r2; exact ⟨i, j, rfl, rfl, q _ H _ O h st (.bl _)⟩⟩
def eqD (a b : Dat) : Bool := PyData.eqv (toPy a) (toPy b)
theorem ob_eq {d1 d2 : Dat} (hr : Room 0 X.A) (p1 : plain d1 = true) (p2 : plain d2 = true) (s1 : SeqAt.shaped (toPy d1) = true) (s2 : SeqAt.shaped (toPy d2) = true) (h : k (.dat (.bl (eqD d1 d2))) O) : OpB X (compareOp .Eq) (.dat d1) (.dat d2) O k :=
  ⟨_, op_eqD hr.units, fun H0 σ ρ H v1 v2 st r1 r2 Q q => ⟨_, _, Rp.dp p1 (Rp.tk r1), Rp.dp p2 (Rp.tk r2), s1, s2, q _ H _ O h st (.bl _)⟩⟩
theorem ob_ne {d1 d2 : Dat} (hr : Room 0 X.A) (p1 : plain d1 = true) (p2 : plain d2 = true) (s1 : SeqAt.shaped (toPy d1) = true) (s2 : SeqAt.shaped (toPy d2) = true) (h : k (.dat (.bl (!eqD d1 d2))) O) : OpB X (compareOp .NotEq) (.dat d1) (.dat d2) O k :=
  ⟨_, op_neD hr.units, fun H0 σ ρ H v1 v2 st r1 r2 Q q => ⟨_, _, Rp.dp p1 (Rp.tk r1), Rp.dp p2 (Rp.tk r2), s1, s2, q _ H _ O h st (.bl _)⟩⟩
theorem ob_eqI {i j : Int} (h : k (.dat (.bl (decide (i = j)))) O) : OpB X (compareOp .Eq) (.dat (.int i)) (.dat (.int j)) O k := ⟨_, op_eq, fun H0 σ ρ H v1 v2 st r1 r2 Q q => by
  cases r1; cases r2
  refine ⟨rfl, q _ H _ O h st ?_⟩
  rw [show decide (V.int i = V.int j) = decide (i = j) by by_cases e : i = j <;> simp [e]]
  exact .bl _⟩
theorem ob_neI {i j : Int} (h : k (.dat (.bl (!decide (i = j)))) O) : OpB X (compareOp .NotEq) (.dat (.int i)) (.dat (.int j)) O k := ⟨_, op_ne, fun H0 σ ρ H v1 v2 st r1 r2 Q q => by
  cases r1; cases r2
  refine ⟨rfl, q _ H _ O h st ?_⟩
  rw [show decide (V.int i = V.int j) = decide (i = j) by by_cases e : i = j <;> simp [e]]
  exact .bl _⟩
theorem ob_eqS {y z : Str} (h : k (.dat (.bl (decide (y = z)))) O) : OpB X (compareOp .Eq) (.dat (.str y)) (.dat (.str z)) O k := ⟨_, op_eq, fun H0 σ ρ H v1 v2 st r1 r2 Q q => by
  cases r1; cases r2
  refine ⟨rfl, q _ H _ O h st ?_⟩
  rw [show decide (V.str y = V.str z) = decide (y = z) by by_cases e : y = z <;> simp [e]]
  exact .bl _⟩
theorem ob_neS {y z : Str} (h : k (.dat (.bl (!decide (y = z)))) O) : OpB X (compareOp .NotEq) (.dat (.str y)) (.dat (.str z)) O k := ⟨_, op_ne, fun H0 σ ρ H v1 v2 st r1 r2 Q q => by
  cases r1; cases r2
  refine ⟨rfl, q _ H _ O h st ?_⟩
  rw [show decide (V.str y = V.str z) = decide (y = z) by by_cases e : y = z <;> simp [e]]
  exact .bl _⟩
theorem ob_eqB {y z : Bool} (h : k (.dat (.bl (decide (y = z)))) O) : OpB X (compareOp .Eq) (.dat (.bl y)) (.dat (.bl z)) O k := ⟨_, op_eq, fun H0 σ ρ H v1 v2 st r1 r2 Q q => by
  cases r1; cases r2
  refine ⟨rfl, q _ H _ O h st ?_⟩
  rw [show decide (V.bl y = V.bl z) = decide (y = z) by cases y <;> cases z <;> rfl]
  exact .bl _⟩
def isNon : Dat → Bool
  | .non => true
  | _ => false
theorem ob_isN {d : Dat} (h : k (.dat (.bl (isNon d))) O) : OpB X (compareOp .Is) (.dat d) (.dat .non) O k := ⟨_, op_isN, fun H0 σ ρ H v1 v2 st r1 r2 Q q => by
  cases r2
  refine ⟨rfl, q _ H _ O h st ?_⟩
  have e : decide (v1 = .non) = isNon d := by cases r1 <;> rfl
  rw [e]; exact .bl _⟩
theorem ob_isNotN {d : Dat} (h : k (.dat (.bl (!isNon d))) O) : OpB X (compareOp .IsNot) (.dat d) (.dat .non) O k := ⟨_, op_notN, fun H0 σ ρ H v1 v2 st r1 r2 Q q => by
  cases r2
  refine ⟨rfl, q _ H _ O h st ?_⟩
  have e : decide (v1 = .non) = isNon d := by cases r1 <;> rfl
  rw [e]; exact .bl _⟩
/-- a text among texts -/
theorem eqV_str (y z : Str) : eqV (.str y) (.str z) = (y == z) := rfl
theorem inV_strs {z : Str} : ∀ {ws : List Str}, inV (.str z) (ws.map V.str) = ws.any (· == z)
  | [] => rfl
  | y :: ws => by
    show (eqV (.str y) (.str z) || inV (.str z) (ws.map V.str)) = _
    rw [inV_strs, eqV_str]; rfl
theorem rpa_strs {K : PySem.W.Frag} {G : Hp} : ∀ {vs : List V} {ws : List Str}, RpA K G vs (ws.map .str) → vs = ws.map V.str
  | _, [], h => by cases h; rfl
  | _, w :: ws, h => by
    cases h with
    | cons h1 h2 =>
      cases h1
      rw [rpa_strs h2]; rfl
theorem all_flat (ws : List Str) : (ws.map V.str).all flatV = true := by
  induction ws with
  | nil => rfl
  | cons w ws ih =>
    rw [List.map_cons, List.all_cons, ih]; rfl
theorem ob_inT {z : Str} {ws : List Str} (h : k (.dat (.bl (ws.any (· == z)))) O) : OpB X (compareOp .In) (.dat (.str z)) (.dat (.tup (ws.map .str))) O k := ⟨_, op_in_seq, fun H0 σ ρ H v1 v2 st r1 r2 Q q => by
  cases r1
  cases r2 with
  | tup h1 h2 =>
    have e := rpa_strs h2
    subst e
    refine ⟨_, _, rfl, .inr (sqt_mono hid_le h1), rfl, all_flat ws, q _ H _ O h st ?_⟩
    rw [inV_strs]; exact .bl _⟩
theorem ob_niT {z : Str} {ws : List Str} (h : k (.dat (.bl (!ws.any (· == z)))) O) : OpB X (compareOp .NotIn) (.dat (.str z)) (.dat (.tup (ws.map .str))) O k := ⟨_, op_notIn_seq, fun H0 σ ρ H v1 v2 st r1 r2 Q q => by
  cases r1
  cases r2 with
  | tup h1 h2 =>
    have e := rpa_strs h2
    subst e
    refine ⟨_, _, rfl, .inr (sqt_mono hid_le h1), rfl, all_flat ws, q _ H _ O h st ?_⟩
    rw [inV_strs]; exact .bl _⟩
theorem ob_inL {z : Str} {ws : List Str} (h : k (.dat (.bl (ws.any (· == z)))) O) : OpB X (compareOp .In) (.dat (.str z)) (.dat (.lst (ws.map .str))) O k := ⟨_, op_in_seq, fun H0 σ ρ H v1 v2 st r1 r2 Q q => by
  cases r1
  cases r2 with
  | lst h1 h2 =>
    have e := rpa_strs h2
    subst e
    refine ⟨_, _, rfl, .inl (sql_at (hid_le _ _ h1)), rfl, all_flat ws, q _ H _ O h st ?_⟩
    rw [inV_strs]; exact .bl _⟩
theorem ob_niL {z : Str} {ws : List Str} (h : k (.dat (.bl (!ws.any (· == z)))) O) : OpB X (compareOp .NotIn) (.dat (.str z)) (.dat (.lst (ws.map .str))) O k := ⟨_, op_notIn_seq, fun H0 σ ρ H v1 v2 st r1 r2 Q q => by
  cases r1
  cases r2 with
  | lst h1 h2 =>
    have e := rpa_strs h2
    subst e
    refine ⟨_, _, rfl, .inl (sql_at (hid_le _ _ h1)), rfl, all_flat ws, q _ H _ O h st ?_⟩
    rw [inV_strs]; exact .bl _⟩
/-- one sign in a text -/
theorem ob_inS {c : Nat} {z : Str} (h : k (.dat (.bl (decide (c ∈ z.cps.toList)))) O) : OpB X (compareOp .In) (.dat (.str ⟨#[c]⟩)) (.dat (.str z)) O k := ⟨_, op_in_sign, fun H0 σ ρ H v1 v2 st r1 r2 Q q => by
  cases r1; cases r2; exact ⟨c, z, rfl, rfl, q _ H _ O h st (.bl _)⟩⟩
theorem ob_niS {c : Nat} {z : Str} (h : k (.dat (.bl (!decide (c ∈ z.cps.toList)))) O) : OpB X (compareOp .NotIn) (.dat (.str ⟨#[c]⟩)) (.dat (.str z)) O k := ⟨_, op_notIn_sign, fun H0 σ ρ H v1 v2 st r1 r2 Q q => by
  cases r1; cases r2; exact ⟨c, z, rfl, rfl, q _ H _ O h st (.bl _)⟩⟩
theorem ob_cat {y z : Str} (hl : y.length + z.length ≤ sizeLine) (h : k (.dat (.str (y ++ z))) O) : OpB X (binaryOp .Add) (.dat (.str y)) (.dat (.str z)) O k := ⟨_, op_add_str, fun H0 σ ρ H v1 v2 st r1 r2 Q q => by
  cases r1; cases r2; exact ⟨y, z, rfl, rfl, hl, q _ H _ O h st (.str _)⟩⟩
theorem ob_catL {ds es : List Dat} (hl : ds.length + es.length ≤ sizeLine) (h : k (.dat (.lst (ds ++ es))) O) : OpB X (binaryOp .Add) (.dat (.lst ds)) (.dat (.lst es)) O k := ⟨_, op_cat, fun H0 σ ρ H v1 v2 st r1 r2 Q q => by
  cases r1 with
  | lst h1 h2 =>
    cases r2 with
    | lst h3 h4 =>
      refine ⟨_, _, _, _, rfl, rfl, hid_le _ _ h1, hid_le _ _ h3, by rw [h2.length, h4.length]; exact hl, fun p hp => q _ _ _ O h (st.grow (same_new hp)) ?_⟩
      exact .lst (by rw [hid_none (own_free st.own hp), upd_same]) (RpA.mono (hid_same (same_new hp)) (h2.append h4))⟩
theorem ob_catT {ds es : List Dat} (hl : ds.length + es.length ≤ sizeLine) (h : k (.dat (.tup (ds ++ es))) O) : OpB X (binaryOp .Add) (.dat (.tup ds)) (.dat (.tup es)) O k := ⟨_, op_catA, fun H0 σ ρ H v1 v2 st r1 r2 Q q => by
  cases r1 with
  | tup h1 h2 =>
    cases r2 with
    | tup h3 h4 =>
      refine ⟨_, _, _, _, rfl, rfl, sqt_mono hid_le h1, sqt_mono hid_le h3, by rw [h2.length, h4.length]; exact hl, fun e1 => ?_, fun e1 e2 => ?_, fun e1 e2 p hp => ?_⟩
      · subst e1
        cases h2
        exact q _ H _ O h st (.tup h3 h4)
      · subst e2
        cases h4
        rw [List.append_nil] at h
        exact q _ H _ O h st (.tup h1 h2)
      · refine q _ _ _ O h (st.grow (same_new hp)) ?_
        exact .tup (.inl (.inl (by rw [hid_none (own_free st.own hp), upd_same]))) (RpA.mono (hid_same (same_new hp)) (h2.append h4))⟩
theorem replicate_rp {K : PySem.W.Frag} {G : Hp} {vs : List V} {ds : List Dat} (h : RpA K G vs ds) : ∀ n, RpA K G (List.replicate n vs).flatten (List.replicate n ds).flatten
  | 0 => .nil
  | n + 1 => by
    rw [List.replicate_succ, List.replicate_succ, List.flatten_cons, List.flatten_cons]
    exact h.append (replicate_rp h n)
theorem ob_rep {ds : List Dat} {n : Int} (hn : -(2 ^ 63) ≤ n ∧ n < 2 ^ 63) (hl : ds.length * n.toNat ≤ sizeLine) (h : k (.dat (.lst (List.replicate n.toNat ds).flatten)) O) : OpB X (binaryOp .Mult) (.dat (.lst ds)) (.dat (.int n)) O k := ⟨_, op_rep, fun H0 σ ρ H v1 v2 st r1 r2 Q q => by
  cases r2
  cases r1 with
  | lst h1 h2 =>
    refine ⟨_, n, _, rfl, rfl, hid_le _ _ h1, hn.1, hn.2, by rw [h2.length]; exact hl, fun p hp => q _ _ _ O h (st.grow (same_new hp)) ?_⟩
    exact .lst (by rw [hid_none (own_free st.own hp), upd_same]) (RpA.mono (hid_same (same_new hp)) (replicate_rp h2 _))⟩
/-- a text n times -/
def timesS (z : Str) (n : Int) : Str := if n < 1 then Str.empty else if (n == 1 || z.length == 0) = true then z else ⟨(List.replicate n.toNat z.cps).foldl (· ++ ·) #[]⟩
theorem op_timesS : OpR X (binaryOp .Mult) (fun v1 v2 H Q => ∃ z n, v1 = .str z ∧ v2 = .int n ∧ n < 1000 ∧ -1000 < n ∧ z.length ≤ 1000 ∧ Q (.str (timesS z n)) H) := by
  intro pins s σ H y z v u Q I rx ry h
  obtain ⟨zz, n, rfl, rfl, h1, h2, h3, q⟩ := h
  obtain ⟨t, rfl⟩ := rx
  obtain ⟨t', rfl⟩ := ry
  have hlen : zz.length * n.toNat ≤ 1000 * 1000 := Nat.mul_le_mul h3 (by omega)
  have hT : Builtin.Str.tooLong (zz.length * n.toNat) = false := by
    unfold Builtin.Str.tooLong
    rw [sizeLine_eq]
    exact decide_eq_false (by omega)
  refine PySem.P.mul_str (by rw [decide_eq_false (by omega), decide_eq_false (by omega)]; rfl) (fun g1 g2 => ?_) (fun g1 g2 => ?_) ?_
  · have e1 : (2 ^ 63 - 1 : Int) / n ≥ (2 ^ 63 - 1) / 1000 := by
      have hn : 0 < n := by omega
      have := Int.ediv_nonneg (show (0 : Int) ≤ 2 ^ 63 - 1 by decide) (show (0 : Int) ≤ n by omega)
      refine (Int.le_ediv_iff_mul_le hn).mpr ?_
      have h5 : ((2 ^ 63 - 1 : Int) / 1000) * n ≤ ((2 ^ 63 - 1 : Int) / 1000) * 1000 := Int.mul_le_mul_of_nonneg_left (by omega) (by decide)
      have h6 : ((2 ^ 63 - 1 : Int) / 1000) * 1000 ≤ 2 ^ 63 - 1 := by decide
      omega
    have e2 : (1000 : Int) ≤ (2 ^ 63 - 1) / 1000 := by decide
    omega
  · exact hT
  · by_cases g1 : n < 1
    · rw [if_pos g1]
      have e : timesS zz n = Str.empty := if_pos g1
      rw [e] at q
      exact ⟨by decide, .str Str.empty, H, I.tok _, ⟨_, rfl⟩, q⟩
    · rw [if_neg g1]
      by_cases g2 : (n == 1 || zz.length == 0) = true
      · rw [if_pos g2]
        have e : timesS zz n = zz := by unfold timesS; rw [if_neg g1, if_pos g2]
        rw [e] at q
        exact ⟨.str zz, H, I, ⟨_, rfl⟩, q⟩
      · rw [if_neg g2]
        have e : timesS zz n = ⟨(List.replicate n.toNat zz.cps).foldl (· ++ ·) #[]⟩ := by unfold timesS; rw [if_neg g1, if_neg g2]
        rw [e] at q
        exact ⟨fits_reps hT, .str _, H, I.tok _, ⟨_, rfl⟩, q⟩
theorem ob_times {z : Str} {n : Int} (hn : n < 1000 ∧ -1000 < n) (hz : z.length ≤ 1000) (h : k (.dat (.str (timesS z n))) O) : OpB X (binaryOp .Mult) (.dat (.str z)) (.dat (.int n)) O k := ⟨_, op_timesS, fun H0 σ ρ H v1 v2 st r1 r2 Q q => by
  cases r1; cases r2; exact ⟨z, n, rfl, rfl, hn.1, hn.2, hz, q _ H _ O h st (.str _)⟩⟩
theorem atI_rp {K : PySem.W.Frag} {G : Hp} {vs : List V} {ds : List Dat} {i : Int} {d : Dat} (h : RpA K G vs ds) (e : atI ds i = some d) : ∃ v, atI vs i = some v ∧ Rp K G v d := by
  unfold atI at e ⊢
  rw [h.length]
  cases hj : ixN ds.length i with
  | none => rw [hj] at e; cases e
  | some j =>
    rw [hj] at e
    exact h.get e
theorem atI_pd {F : V → Slot → Prop} {vs : List V} {ss : List Slot} {i : Int} {s : Slot} (h : Paired F vs ss) (e : atI ss i = some s) : ∃ v, atI vs i = some v ∧ F v s := by
  unfold atI at e ⊢
  rw [paired_len h]
  cases hj : ixN ss.length i with
  | none => rw [hj] at e; cases e
  | some j =>
    rw [hj] at e
    exact paired_get h e
theorem ix_lst {ds : List Dat} {i : Int} {d : Dat} (e : atI ds i = some d) (h : k (.dat d) O) : IxB X (.dat (.lst ds)) (.dat (.int i)) O k := ⟨_, ix_list, fun H0 σ ρ H v1 v2 st r1 r2 Q q => by
  cases r2
  cases r1 with
  | lst h1 h2 =>
    obtain ⟨v, h3, h4⟩ := atI_rp h2 e
    exact ⟨_, _, i, v, rfl, rfl, sql_at (hid_le _ _ h1), h3, q _ H _ O h st h4⟩⟩
theorem ix_fro {ds : List Dat} {i : Int} {d : Dat} (e : atI ds i = some d) (h : k (.dat d) O) : IxB X (.dat (.fro ds)) (.dat (.int i)) O k := ⟨_, ix_list, fun H0 σ ρ H v1 v2 st r1 r2 Q q => by
  cases r2
  cases r1 with
  | fro h1 h2 =>
    obtain ⟨v, h3, h4⟩ := atI_rp h2 e
    exact ⟨_, _, i, v, rfl, rfl, sql_mono hid_le h1, h3, q _ H _ O h st h4⟩⟩
theorem ix_tpl {ds : List Dat} {i : Int} {d : Dat} (e : atI ds i = some d) (h : k (.dat d) O) : IxB X (.dat (.tup ds)) (.dat (.int i)) O k := ⟨_, ix_tup, fun H0 σ ρ H v1 v2 st r1 r2 Q q => by
  cases r2
  cases r1 with
  | tup h1 h2 =>
    obtain ⟨v, h3, h4⟩ := atI_rp h2 e
    exact ⟨_, _, i, v, rfl, rfl, sqt_mono hid_le h1, h3, q _ H _ O h st h4⟩⟩
theorem ix_sgn {z : Str} {i : Int} {c : Nat} (hz : z.length ≤ sizeLine) (e : atI z.cps.toList i = some c) (h : k (.dat (.str ⟨#[c]⟩)) O) : IxB X (.dat (.str z)) (.dat (.int i)) O k := ⟨_, ix_str, fun H0 σ ρ H v1 v2 st r1 r2 Q q => by
  cases r1; cases r2; exact ⟨z, i, c, rfl, rfl, hz, e, q _ H _ O h st (.str _)⟩⟩
theorem ix_own {p : Addr} {ss : List Slot} {i : Int} {s : Slot} (hp : O p = some (.lst ss)) (e : atI ss i = some s) (h : k s O) : IxB X (.own p) (.dat (.int i)) O k := ⟨_, ix_list, fun H0 σ ρ H v1 v2 st r1 r2 Q q => by
  cases r2
  obtain rfl : v1 = .ref p := r1
  obtain ⟨o, h1, vs, rfl, h2⟩ := st.own.cell p _ hp
  obtain ⟨v, h3, h4⟩ := atI_pd h2 e
  exact ⟨p, vs, i, v, rfl, rfl, sql_at h1, h3, q _ H _ O h st h4⟩⟩
def OW (X : Cx) (O : Own) (ρ : List Slot) (e : Option Expr) (x : ExK) (k : Option Int → Own → Prop) : Prop :=
  ∀ H0 σ H, StOk X.K H0 O σ ρ H → Takes X (Wsem X.K H0 x) → ∀ Q : Option Int → Hp → Prop, (∀ o H' O', k o O' → StOk X.K H0 O' σ ρ H' → Q o H') → Bx (∀ (pins : List (Addr × Obj)) (s : Shared), Inv X pins σ H s →
    wpAny (model X.prog X.w) X.A (evalPart e X.env) (fun u s' => ∃ o H', Inv X pins σ H' s' ∧ IsPart u o ∧ Q o H') X.xe s)
def Wo (X : Cx) (e : Option Expr) : TO := fun σ H Q => Bx (∀ (pins : List (Addr × Obj)) (s : Shared), Inv X pins σ H s → wpAny (model X.prog X.w) X.A (evalPart e X.env) (fun u s' => ∃ o H', Inv X pins σ H' s' ∧ IsPart u o ∧ Q o H') X.xe s)
theorem po_w {e : Option Expr} : PO X e (Wo X e) := ⟨fun pins s σ H Q I h => h.r pins s I⟩
variable {ko : Option Int → Own → Prop}
theorem ow_none (h : ko none O) : OW X O ρ none x ko := fun H0 σ H st tk Q q => ⟨fun pins s I => po_none.run pins s σ H Q I (q none H O h st)⟩
theorem ow_some (h : EW X O ρ e x fun s O' => ∃ i, s = .dat (.int i) ∧ ko (some i) O') : OW X O ρ (some e) x ko := fun H0 σ H st tk Q q => ⟨fun pins s I =>
  (po_some pe_w).run pins s σ H Q I (h H0 σ H st tk _ fun v H1 s O1 ⟨i, e1, h1⟩ st1 r1 => by
    subst e1
    cases r1
    exact ⟨i, rfl, q _ H1 O1 h1 st1⟩)⟩
def SlB (X : Cx) (s : Slot) (lo hi : Option Int) (O : Own) (k : Slot → Own → Prop) : Prop := ∃ r, SlR X r ∧ ∀ H0 σ ρ H v, StOk X.K H0 O σ ρ H → SlOk X.K (hid O H) v s → ∀ Q : VK, (∀ v H' s O', k s O' → StOk X.K H0 O' σ ρ H' → SlOk X.K (hid O' H') v s → Q v H') → r v lo hi H Q
theorem ew_slice {lo hi : Option Expr} {p2 : Pos} (h : EW X O ρ e x fun s O1 => OW X O1 ρ lo x fun l O2 => OW X O2 ρ hi x fun u O3 => SlB X s l u O3 k) : EW X O ρ (.Subscript e (.Slice lo hi none p2) pos) x k := fun H0 σ H st tk Q q => by
  have main : SlR X (fun v lo hi H Q => ∃ r, SlR X r ∧ r v lo hi H Q) := fun pins s σ H x v vl vu lo hi sl Q I rx hs hl hu ⟨r, ho, hr⟩ => ho pins s σ H x v vl vu lo hi sl Q I rx hs hl hu hr
  refine we_of (pe_slice main pe_w po_w po_w) (h H0 σ H st tk _ fun v H1 s O1 h1 st1 r1 => ?_)
  refine h1 (hid O1 H1) σ H1 st1.top (takes_base tk st1.base) _ fun l H2 O2 h2 st2 => ?_
  have b2 := st1.base.trans st2.base
  refine h2 (hid O2 H2) σ H2 st2.top (takes_base tk b2) _ fun u H3 O3 h3 st3 => ?_
  obtain ⟨r, ho, hr⟩ := h3
  exact ⟨r, ho, hr H0 σ ρ H3 v (st3.rebase b2) (SlOk.mono (st2.base.trans st3.base) r1) Q q⟩
def cutD {α : Type} (xs : List α) (lo hi : Option Int) : List α := (xs.drop (HT.sIx xs.length 0 lo)).take (HT.sIx xs.length xs.length hi - HT.sIx xs.length 0 lo)
theorem RpA.drop {K : PySem.W.Frag} {G : Hp} : ∀ {vs : List V} {ds : List Dat} (n : Nat), RpA K G vs ds → RpA K G (vs.drop n) (ds.drop n)
  | _, _, 0, h => h
  | _, _, n + 1, .nil => .nil
  | _, _, n + 1, .cons _ t => RpA.drop n t
theorem RpA.take {K : PySem.W.Frag} {G : Hp} : ∀ {vs : List V} {ds : List Dat} (n : Nat), RpA K G vs ds → RpA K G (vs.take n) (ds.take n)
  | _, _, 0, _ => .nil
  | _, _, n + 1, .nil => .nil
  | _, _, n + 1, .cons h t => .cons h (RpA.take n t)
theorem cut_rp {K : PySem.W.Frag} {G : Hp} {vs : List V} {ds : List Dat} (h : RpA K G vs ds) (lo hi : Option Int) : RpA K G (cutV vs lo hi) (cutD ds lo hi) := by
  unfold cutV cutD
  rw [h.length]
  exact (h.drop _).take _
theorem sb_lst {ds : List Dat} {lo hi : Option Int} (h : k (.dat (.lst (cutD ds lo hi))) O) : SlB X (.dat (.lst ds)) lo hi O k := ⟨_, sl_list, fun H0 σ ρ H v st r Q q => by
  cases r with
  | lst h1 h2 =>
    refine ⟨_, _, rfl, sql_at (hid_le _ _ h1), fun p hp => q _ _ _ O h (st.grow (same_new hp)) ?_⟩
    exact .lst (by rw [hid_none (own_free st.own hp), upd_same]) (RpA.mono (hid_same (same_new hp)) (cut_rp h2 lo hi))⟩
theorem sb_tup {ds : List Dat} {lo hi : Option Int} (h : k (.dat (.tup (cutD ds lo hi))) O) : SlB X (.dat (.tup ds)) lo hi O k := ⟨_, sl_tupA, fun H0 σ ρ H v st r Q q => by
  cases r with
  | tup h1 h2 =>
    refine ⟨_, _, rfl, sqt_mono hid_le h1, fun hw => ?_, fun _ p hp => q _ _ _ O h (st.grow (same_new hp)) ?_⟩
    · rw [h2.length] at hw
      have e : cutD ds lo hi = ds := by
        unfold cutD
        rw [hw.1, hw.2, Nat.sub_zero, List.drop_zero, List.take_length]
      rw [e] at h
      exact q _ H _ O h st (.tup h1 h2)
    · exact .tup (.inl (.inl (by rw [hid_none (own_free st.own hp), upd_same]))) (RpA.mono (hid_same (same_new hp)) (cut_rp h2 lo hi))⟩
theorem cb_abs {i : Int} (h : k (.dat (.int (if i < 0 then -i else i))) O) : CaB X (.builtin "abs") [.dat (.int i)] O k := ⟨_, call_abs, fun H0 σ ρ H vs st pr Q q => by
  cases pr with
  | cons r1 pr => cases pr; cases r1; exact ⟨i, rfl, q _ H _ O h st (.int _)⟩⟩
theorem cb_max {i j : Int} (hc : X.calm = true) (h : k (.dat (.int (if j > i then j else i))) O) : CaB X (.builtin "max") [.dat (.int i), .dat (.int j)] O k := ⟨_, call_max2 hc, fun H0 σ ρ H vs st pr Q q => by
  cases pr with
  | cons r1 pr =>
    cases pr with
    | cons r2 pr => cases pr; cases r1; cases r2; exact ⟨i, j, rfl, q _ H _ O h st (.int _)⟩⟩
theorem cb_min {i j : Int} (hc : X.calm = true) (h : k (.dat (.int (if j < i then j else i))) O) : CaB X (.builtin "min") [.dat (.int i), .dat (.int j)] O k := ⟨_, call_min2 hc, fun H0 σ ρ H vs st pr Q q => by
  cases pr with
  | cons r1 pr =>
    cases pr with
    | cons r2 pr => cases pr; cases r1; cases r2; exact ⟨i, j, rfl, q _ H _ O h st (.int _)⟩⟩
theorem cb_intB {t : Bool} (h : k (.dat (.int (if t then 1 else 0))) O) : CaB X (.type "int") [.dat (.bl t)] O k := ⟨_, call_int1, fun H0 σ ρ H vs st pr Q q => by
  cases pr with
  | cons r1 pr => cases pr; cases r1; exact .inr ⟨t, rfl, q _ H _ O h st (.int _)⟩⟩
theorem cb_strI {n : Int} (hl : n.natAbs.log2 < 1920) (h : k (.dat (.str (toString n))) O) : CaB X (.type "str") [.dat (.int n)] O k := ⟨_, call_str_int, fun H0 σ ρ H vs st pr Q q => by
  cases pr with
  | cons r1 pr => cases pr; cases r1; exact ⟨n, rfl, hl, q _ H _ O h st (.str _)⟩⟩
theorem cb_strS {z : Str} (h : k (.dat (.str z)) O) : CaB X (.type "str") [.dat (.str z)] O k := ⟨_, SkE.call_str_str, fun H0 σ ρ H vs st pr Q q => by
  cases pr with
  | cons r1 pr => cases pr; cases r1; exact ⟨z, rfl, q _ H _ O h st (.str _)⟩⟩
theorem cb_lenS {z : Str} (hl : z.length ≤ sizeLine) (h : k (.dat (.int (z.length : Int))) O) : CaB X (.builtin "len") [.dat (.str z)] O k := ⟨_, call_len_str, fun H0 σ ρ H vs st pr Q q => by
  cases pr with
  | cons r1 pr => cases pr; cases r1; exact ⟨z, rfl, hl, q _ H _ O h st (.int _)⟩⟩
theorem cb_lenL {ds : List Dat} (h : k (.dat (.int (ds.length : Int))) O) : CaB X (.builtin "len") [.dat (.lst ds)] O k := ⟨_, call_len_seq, fun H0 σ ρ H vs st pr Q q => by
  cases pr with
  | cons r1 pr =>
    cases pr
    cases r1 with
    | lst h1 h2 =>
      refine ⟨_, _, rfl, .inl (sql_at (hid_le _ _ h1)), q _ H _ O h st ?_⟩
      rw [h2.length]; exact .int _⟩
theorem cb_lenF {ds : List Dat} (h : k (.dat (.int (ds.length : Int))) O) : CaB X (.builtin "len") [.dat (.fro ds)] O k := ⟨_, call_len_seq, fun H0 σ ρ H vs st pr Q q => by
  cases pr with
  | cons r1 pr =>
    cases pr
    cases r1 with
    | fro h1 h2 =>
      refine ⟨_, _, rfl, .inl (sql_mono hid_le h1), q _ H _ O h st ?_⟩
      rw [h2.length]; exact .int _⟩
theorem cb_lenT {ds : List Dat} (h : k (.dat (.int (ds.length : Int))) O) : CaB X (.builtin "len") [.dat (.tup ds)] O k := ⟨_, call_len_seq, fun H0 σ ρ H vs st pr Q q => by
  cases pr with
  | cons r1 pr =>
    cases pr
    cases r1 with
    | tup h1 h2 =>
      refine ⟨_, _, rfl, .inr (sqt_mono hid_le h1), q _ H _ O h st ?_⟩
      rw [h2.length]; exact .int _⟩
theorem cb_lenO {p : Addr} {ss : List Slot} (hp : O p = some (.lst ss)) (h : k (.dat (.int (ss.length : Int))) O) : CaB X (.builtin "len") [.own p] O k := ⟨_, call_len_seq, fun H0 σ ρ H vs st pr Q q => by
  cases pr with
  | cons r1 pr =>
    cases pr
    rename_i v
    obtain rfl : v = .ref p := r1
    obtain ⟨o, h1, xs, rfl, h2⟩ := st.own.cell p _ hp
    refine ⟨_, _, rfl, .inl (sql_at h1), q _ H _ O h st ?_⟩
    rw [paired_len h2]; exact .int _⟩
/-- list(xs), a new cell -/
theorem cb_listL {ds : List Dat} (h : ∀ p, O p = none → k (.own p) (up O p (.lst (ds.map .dat)))) : CaB X (.type "list") [.dat (.lst ds)] O k := ⟨_, call_list_of, fun H0 σ ρ H vs st pr Q q => by
  cases pr with
  | cons r1 pr =>
    cases pr
    cases r1 with
    | lst h1 h2 => exact ⟨_, _, rfl, .inl (sql_at (hid_le _ _ h1)), fun p hp => q _ _ _ _ (h p (own_free st.own hp)) (st.alloc hp ⟨_, rfl, h2.paired⟩) rfl⟩⟩
theorem cb_listT {ds : List Dat} (h : ∀ p, O p = none → k (.own p) (up O p (.lst (ds.map .dat)))) : CaB X (.type "list") [.dat (.tup ds)] O k := ⟨_, call_list_of, fun H0 σ ρ H vs st pr Q q => by
  cases pr with
  | cons r1 pr =>
    cases pr
    cases r1 with
    | tup h1 h2 => exact ⟨_, _, rfl, .inr (sqt_mono hid_le h1), fun p hp => q _ _ _ _ (h p (own_free st.own hp)) (st.alloc hp ⟨_, rfl, h2.paired⟩) rfl⟩⟩
theorem cb_tupL {ds : List Dat} (h : k (.dat (.tup ds)) O) : CaB X (.type "tuple") [.dat (.lst ds)] O k := ⟨_, call_tuple_of, fun H0 σ ρ H vs st pr Q q => by
  cases pr with
  | cons r1 pr =>
    cases pr
    cases r1 with
    | lst h1 h2 =>
      refine ⟨_, _, rfl, .inl ⟨sql_at (hid_le _ _ h1), fun p hp => q _ _ _ O h (st.grow (same_new hp)) ?_⟩⟩
      exact .tup (.inl (.inl (by rw [hid_none (own_free st.own hp), upd_same]))) (RpA.mono (hid_same (same_new hp)) h2)⟩
theorem cb_tupT {ds : List Dat} (h : k (.dat (.tup ds)) O) : CaB X (.type "tuple") [.dat (.tup ds)] O k := ⟨_, call_tuple_of, fun H0 σ ρ H vs st pr Q q => by
  cases pr with
  | cons r1 pr =>
    cases pr
    cases r1 with
    | tup h1 h2 => exact ⟨_, _, rfl, .inr ⟨sqt_mono hid_le h1, q _ H _ O h st (.tup h1 h2)⟩⟩⟩
/-- repr of data -/
def reprOk (d : Dat) : Bool := plain d && (toPy d).layable0 && (toPy d).showable && !(toPy d).hasDict && (toPy d).intsShort 13
def reprD (d : Dat) : Str := (toPy d).shown
theorem call_reprD (hr : RoomB true 0 X.A) : CallR X (.builtin "repr") (fun xs H Q => ∃ (a : Addr) (d : PyData), xs = [.ref a] ∧ Dp X.K H (.ref a) d ∧ d.layable0 = true ∧ d.showable = true ∧ d.hasDict = false ∧ d.intsShort 13 = true ∧ Q (.str d.shown) H) := by
  intro pins s σ H xs us Q I r hq
  obtain ⟨a, d, rfl, hd, h1, h2, h3, h4, q⟩ := hq
  cases r with
  | cons rx rr =>
    cases rr
    cases rx
    obtain ⟨as, rd⟩ := Dp.reads I d _ _ hd (show RelV (.ref a) (.ref a) from rfl)
    have hz : d.shown.length ≤ sizeLine := Nat.le_trans (shown_le13 h1 h4) (by rw [sizeLine_eq]; decide)
    have h5 : (PyData.canLay0 d && decide (PyData.depth d ≤ 64) && decide (PyData.weight d ≤ 2 ^ 20)) = true := h1
    simp only [Bool.and_eq_true, decide_eq_true_eq] at h5
    refine repr_of_reads' rd h2 (PyData.noDict_hsm h3) (hr.g rfl) (by have := hr.r.un; omega) (fun _ _ z => z) (fun h' u tk hk => ?_) hz
    exact ⟨.str d.shown, H, I.kept hk, ⟨_, rfl⟩, q⟩
theorem reprOk_and {d : Dat} (h : reprOk d = true) : plain d = true ∧ (toPy d).layable0 = true ∧ (toPy d).showable = true ∧ (toPy d).hasDict = false ∧ (toPy d).intsShort 13 = true := by
  unfold reprOk at h
  simp only [Bool.and_eq_true, Bool.not_eq_true'] at h
  exact ⟨h.1.1.1.1, h.1.1.1.2, h.1.1.2, h.1.2, h.2⟩
theorem cb_reprL (hr : RoomB true 0 X.A) {ds : List Dat} (e : reprOk (.lst ds) = true) (h : k (.dat (.str (reprD (.lst ds)))) O) : CaB X (.builtin "repr") [.dat (.lst ds)] O k := ⟨_, call_reprD hr, fun H0 σ ρ H vs st pr Q q => by
  obtain ⟨e1, e2, e3, e4, e5⟩ := reprOk_and e
  cases pr with
  | cons r1 pr =>
    cases pr
    have r1 : Rp X.K (hid O H) _ (.lst ds) := r1
    have r2 := Rp.dp e1 (Rp.tk r1)
    cases r1
    exact ⟨_, _, rfl, r2, e2, e3, e4, e5, q _ H _ O h st (.str _)⟩⟩
end
end Kn
namespace Kn
open PySem PySem.Spec PyProof.Rows
open L2 hiding St
section
variable {X : Cx} {O : Own} {ρ : List Slot} {x : ExK} {k k' : Slot → Own → Prop} {kl kl' : List Slot → Own → Prop} {e a b c o : Expr} {es : List Expr} {pos p apos cpos : Pos} {D : SD}
def TyS (T : String) (O : Own) : Slot → Prop
  | .own p => T = "list" ∧ ∃ ss, O p = some (.lst ss)
  | .dat (.lst _) => T = "list"
  | .dat (.str _) => T = "str"
  | _ => False
theorem tyV_of {T : String} {s : Slot} {H0 H : Hp} {σ : SV} {v : V} (h : TyS T O s) (st : StOk X.K H0 O σ ρ H) (r : SlOk X.K (hid O H) v s) : tyV X.K T v H := by
  cases s with
  | unk => exact h.elim
  | own p =>
    obtain ⟨e1, ss, h2⟩ := h
    obtain rfl : v = .ref p := r
    obtain ⟨o, h3, vs, rfl, _⟩ := st.own.cell p _ h2
    exact .inl ⟨e1, _, sql_at h3⟩
  | dat d =>
    cases d with
    | lst ds =>
      cases r with
      | lst h1 h2 => exact .inl ⟨h, _, sql_at (hid_le _ _ h1)⟩
    | str z => cases r; exact h
    | _ => exact h.elim
def MtB (X : Cx) (id : String) (s : Slot) (ss : List Slot) (O : Own) (k : Slot → Own → Prop) : Prop := ∃ r, MtR X id r ∧ ∀ H0 σ ρ H v vs, StOk X.K H0 O σ ρ H → SlOk X.K (hid O H) v s → Paired (SlOk X.K (hid O H)) vs ss →
  ∀ Q : VK, (∀ v H' s O', k s O' → StOk X.K H0 O' σ ρ H' → SlOk X.K (hid O' H') v s → Q v H') → r v vs H Q
theorem ew_bm {T id : String} {name : Str} (pa : PlainAttrs T) (slot : PySem.Slot T name id) (hty : typeOf (.builtin id) = pure (.type "method_descriptor"))
    (h : EW X O ρ o x fun s O1 => TyS T O1 s ∧ AW X O1 ρ (e :: es) x fun ss O2 => MtB X id s ss O2 k) (hbase : attributeBase o name X.env (eval o X.env) = eval o X.env := by rfl)
    (hfew : ((backTo cpos (starEach (e :: es) X.env)).all (fun x => !x.1) && (backToKw cpos (keywordEach [] X.env)).all (fun x => x.1.isSome)
      && decide ((e :: es).length + ([] : List Keyword).length + (if ([] : List Keyword).isEmpty then 0 else 1) < 30)) = true := by rfl)
    (hline : (apos.endLine == cpos.line) = true := by rfl) (hs : starEach (e :: es) X.env = (false, eval e X.env) :: starEach es X.env := by rfl) (hplain : (backTo cpos (starEach es X.env)).any (·.1) = false := by rfl) :
    EW X O ρ (.Call (.Attribute o name apos) (e :: es) [] cpos) x k := fun H0 σ H st tk Q q => by
  have main : MtR X id (fun v vs H Q => ∃ r, MtR X id r ∧ r v vs H Q) := fun pins s σ H x xs v us Q I rx rv ⟨r, ho, hr⟩ => ho pins s σ H x xs v us Q I rx rv hr
  refine we_of (pe_bm pa slot hty main pe_w pa_w hbase hfew hline hs hplain) (h H0 σ H st tk _ fun v H1 s O1 ⟨t1, h1⟩ st1 r1 => ?_)
  refine ⟨tyV_of t1 st1 r1, h1 (hid O1 H1) σ H1 st1.top (takes_base tk st1.base) _ fun vs H2 ss O2 ⟨r, ho, hr⟩ st2 pr => ⟨r, ho, ?_⟩⟩
  exact hr H0 σ ρ H2 v vs (st2.rebase st1.base) (SlOk.mono st2.base r1) pr Q q
theorem ew_bm0 {T id : String} {name : Str} (pa : PlainAttrs T) (slot : PySem.Slot T name id) (hty : typeOf (.builtin id) = pure (.type "method_descriptor"))
    (h : EW X O ρ o x fun s O1 => TyS T O1 s ∧ MtB X id s [] O1 k) (hbase : attributeBase o name X.env (eval o X.env) = eval o X.env := by rfl)
    (hline : (apos.endLine == cpos.line) = true := by rfl) : EW X O ρ (.Call (.Attribute o name apos) [] [] cpos) x k := fun H0 σ H st tk Q q => by
  have main : MtR X id (fun v vs H Q => ∃ r, MtR X id r ∧ r v vs H Q) := fun pins s σ H x xs v us Q I rx rv ⟨r, ho, hr⟩ => ho pins s σ H x xs v us Q I rx rv hr
  refine we_of (pe_bm0 pa slot hty main pe_w hbase hline) (h H0 σ H st tk _ fun v H1 s O1 ⟨t1, r, ho, hr⟩ st1 r1 => ?_)
  exact ⟨tyV_of t1 st1 r1, r, ho, hr H0 σ ρ H1 v [] st1 r1 .nil Q q⟩
theorem mb_append {p : Addr} {ss : List Slot} {s : Slot} (hp : O p = some (.lst ss)) (hl : ss.length < sizeLine) (h : k (.dat .non) (up O p (.lst (ss ++ [s])))) : MtB X "list.append" (.own p) [s] O k := ⟨_, mt_append, fun H0 σ ρ H v vs st r pr Q q => by
  obtain rfl : v = .ref p := r
  cases pr with
  | cons r1 pr =>
    cases pr
    obtain ⟨o, h1, xs, rfl, h2⟩ := st.own.cell p _ hp
    exact ⟨p, xs, _, rfl, rfl, h1, by rw [paired_len h2]; exact hl, q _ _ _ _ h (st.write hp ⟨_, rfl, paired_app h2 (.cons r1 .nil)⟩) .non⟩⟩
theorem mb_extendL {p : Addr} {ss : List Slot} {ds : List Dat} (hp : O p = some (.lst ss)) (hl : ss.length + ds.length ≤ sizeLine) (h : k (.dat .non) (up O p (.lst (ss ++ ds.map .dat)))) : MtB X "list.extend" (.own p) [.dat (.lst ds)] O k := ⟨_, mt_extend, fun H0 σ ρ H v vs st r pr Q q => by
  obtain rfl : v = .ref p := r
  cases pr with
  | cons r1 pr =>
    cases pr
    obtain ⟨o, h1, xs, rfl, h2⟩ := st.own.cell p _ hp
    cases r1 with
    | lst h3 h4 => exact ⟨p, _, xs, _, rfl, rfl, h1, hid_le _ _ h3, by rw [paired_len h2, h4.length]; exact hl, q _ _ _ _ h (st.write hp ⟨_, rfl, paired_app h2 h4.paired⟩) .non⟩⟩
theorem paired_dropLast {α β : Type} {F : α → β → Prop} : ∀ {xs : List α} {ys : List β}, Paired F xs ys → Paired F xs.dropLast ys.dropLast
  | _, _, .nil => .nil
  | _, _, .cons h .nil => .nil
  | _, _, .cons h (.cons h2 t) => .cons h (paired_dropLast (.cons h2 t))
theorem paired_erase {α β : Type} {F : α → β → Prop} : ∀ {xs : List α} {ys : List β} (i : Nat), Paired F xs ys → Paired F (xs.eraseIdx i) (ys.eraseIdx i)
  | _, _, _, .nil => .nil
  | _, _, 0, .cons _ t => t
  | _, _, i + 1, .cons h t => .cons h (paired_erase i t)
theorem mb_pop {p : Addr} {ss : List Slot} {s : Slot} (hp : O p = some (.lst (ss ++ [s]))) (h : k s (up O p (.lst ss))) : MtB X "list.pop" (.own p) [] O k := ⟨_, mt_pop, fun H0 σ ρ H v vs st r pr Q q => by
  obtain rfl : v = .ref p := r
  cases pr
  obtain ⟨o, h1, xs, rfl, h2⟩ := st.own.cell p _ hp
  have hl := paired_len h2
  rw [List.length_append, List.length_singleton] at hl
  obtain ⟨y, h3, h4⟩ := paired_get (i := ss.length) h2 (by rw [List.getElem?_append_right (Nat.le_refl _), Nat.sub_self]; rfl)
  refine ⟨p, xs, y, rfl, rfl, h1, by rw [show xs.length - 1 = ss.length by omega]; exact h3, ?_⟩
  have h5 := paired_dropLast h2
  rw [List.dropLast_concat] at h5
  exact q _ _ _ _ h (st.write hp ⟨_, rfl, h5⟩) (SlOk.mono (hid_write hp) h4)⟩
theorem mb_popAt {p : Addr} {ss : List Slot} {s : Slot} {i : Int} {j : Nat} (hp : O p = some (.lst ss)) (hi : -(2 ^ 63) ≤ i ∧ i < 2 ^ 63) (hj : seqIndex? i ss.length = some j) (hs : ss[j]? = some s) (h : k s (up O p (.lst (ss.eraseIdx j)))) :
    MtB X "list.pop" (.own p) [.dat (.int i)] O k := ⟨_, mt_popAt, fun H0 σ ρ H v vs st r pr Q q => by
  obtain rfl : v = .ref p := r
  cases pr with
  | cons r1 pr =>
    cases pr
    cases r1
    obtain ⟨o, h1, xs, rfl, h2⟩ := st.own.cell p _ hp
    obtain ⟨y, h3, h4⟩ := paired_get h2 hs
    exact ⟨p, xs, i, j, y, rfl, rfl, h1, hi.1, hi.2, by rw [paired_len h2]; exact hj, h3, q _ _ _ _ h (st.write hp ⟨_, rfl, paired_erase j h2⟩) (SlOk.mono (hid_write hp) h4)⟩⟩
theorem strs_rp {K : PySem.W.Frag} {G : Hp} : ∀ ys : List Str, RpA K G (ys.map V.str) (ys.map .str)
  | [] => .nil
  | y :: ys => .cons (.str y) (strs_rp ys)
/-- a text's method with one argument -/
def M1B (X : Cx) (id : String) (z : Str) (s : Slot) (O : Own) (k : Slot → Own → Prop) : Prop := ∃ r, MtR X id r ∧ ∀ H0 σ ρ H v, StOk X.K H0 O σ ρ H → SlOk X.K (hid O H) v s →
  ∀ Q : VK, (∀ v H' s O', k s O' → StOk X.K H0 O' σ ρ H' → SlOk X.K (hid O' H') v s → Q v H') → r (.str z) [v] H Q
theorem ew_m1 {id : String} {name : Str} (slot : PySem.Slot "str" name id) (ty : typeOf (.builtin id) = pure (.type "method_descriptor")) (h : EW X O ρ o x fun s O1 => ∃ z, s = .dat (.str z) ∧ EW X O1 ρ e x fun s2 O2 => M1B X id z s2 O2 k)
    (hs : starEach [e] X.env = [(false, eval e X.env)] := by rfl) (hbase : attributeBase o name X.env (eval o X.env) = eval o X.env := by rfl) (hline : (apos.endLine == cpos.line) = true := by rfl) :
    EW X O ρ (.Call (.Attribute o name apos) [e] [] cpos) x k := fun H0 σ H st tk Q q => by
  have main : MtR X id (fun v vs H Q => ∃ r, MtR X id r ∧ r v vs H Q) := fun pins s σ H x xs v us Q I rx rv ⟨r, ho, hr⟩ => ho pins s σ H x xs v us Q I rx rv hr
  refine we_of (pe_m1 slot ty main pe_w pe_w hs hbase hline) (h H0 σ H st tk _ fun v H1 s O1 ⟨z, e1, h1⟩ st1 r1 => ?_)
  subst e1
  cases r1
  refine ⟨⟨z, rfl⟩, h1 (hid O1 H1) σ H1 st1.top (takes_base tk st1.base) _ fun v2 H2 s2 O2 ⟨r, ho, hr⟩ st2 r2 => ⟨r, ho, ?_⟩⟩
  exact hr H0 σ ρ H2 v2 (st2.rebase st1.base) r2 Q q
theorem m1_split {z y : Str} (hy : (y.length == 0) = false) (hz : z.length + 2 ≤ sizeLine) (h : k (.dat (.lst ((Txt.split z y).map .str))) O) : M1B X "str.split" z (.dat (.str y)) O k := ⟨_, mt_split, fun H0 σ ρ H v st r Q q => by
  cases r
  refine ⟨z, y, rfl, rfl, hy, hz, fun p hp => q _ _ _ O h (st.grow (same_new hp)) ?_⟩
  exact .lst (by rw [hid_none (own_free st.own hp), upd_same]) (strs_rp _)⟩
theorem m1_partition {z y : Str} (hy : (y.length == 0) = false) (hz : z.length ≤ sizeLine) (h : k (.dat (.tup [.str (Txt.partition z y).1, .str (Txt.partition z y).2.1, .str (Txt.partition z y).2.2])) O) : M1B X "str.partition" z (.dat (.str y)) O k := ⟨_, mt_partition, fun H0 σ ρ H v st r Q q => by
  cases r
  refine ⟨z, y, rfl, rfl, hy, hz, fun p hp => q _ _ _ O h (st.grow (same_new hp)) ?_⟩
  exact .tup (.inl (.inl (by rw [hid_none (own_free st.own hp), upd_same]))) (.cons (.str _) (.cons (.str _) (.cons (.str _) .nil)))⟩
theorem m1_join {z : Str} {ys : List Str} (hl : (ys.map (·.length)).sum + ys.length * z.length ≤ 16777216) (h : k (.dat (.str (Txt.join z ys))) O) : M1B X "str.join" z (.dat (.lst (ys.map .str))) O k := ⟨_, mt_join, fun H0 σ ρ H v st r Q q => by
  cases r with
  | lst h1 h2 =>
    have e := rpa_strs h2
    subst e
    exact ⟨z, _, ys, rfl, rfl, .inl (sql_at (hid_le _ _ h1)), hl, q _ H _ O h st (.str _)⟩⟩
theorem m1_find {z y : Str} (h : k (.dat (.int (Txt.find z y))) O) : M1B X "str.find" z (.dat (.str y)) O k := ⟨_, mt_find, fun H0 σ ρ H v st r Q q => by
  cases r; exact ⟨z, y, rfl, rfl, q _ H _ O h st (.int _)⟩⟩
theorem ew_fmt (h : EW X O ρ e x fun s O1 => (∃ z, s = .dat (.str z) ∧ z.length ≤ sizeLine ∧ k (.dat (.str z)) O1) ∨ ∃ i : Int, s = .dat (.int i) ∧ i.natAbs.log2 < 1920 ∧ k (.dat (.str (toString i))) O1) : EW X O ρ (.FormattedValue e (-1) none pos) x k := fun H0 σ H st tk Q q =>
  we_of (pe_fmt pe_w) (h H0 σ H st tk _ fun v H1 s O1 h1 st1 r1 => by
    rcases h1 with ⟨z, e1, h2, h3⟩ | ⟨i, e1, h2, h3⟩
    · subst e1
      cases r1
      exact .inl ⟨z, rfl, h2, q _ H1 _ O1 h3 st1 (.str _)⟩
    · subst e1
      cases r1
      exact .inr ⟨i, rfl, h2, q _ H1 _ O1 h3 st1 (.str _)⟩)
/-- the parts of an f-string, from the left; acc: what they come to so far -/
def JW (X : Cx) (ρ : List Slot) (x : ExK) (k : Str → Own → Prop) : List Expr → Str → Own → Prop
  | [], acc, O => k acc O
  | e :: es, acc, O => EW X O ρ e x fun s O1 => ∃ z, s = .dat (.str z) ∧ (acc ++ z).length ≤ sizeLine ∧ JW X ρ x k es (acc ++ z) O1
theorem pj_w : ∀ es : List Expr, PJ X es (es.map (We X))
  | [] => .nil
  | e :: es => .cons pe_w (pj_w es)
theorem tjs_of {ks : Str → Own → Prop} {H0 : Hp} {σ : SV} {Q : Str → Hp → Prop} (tk : Takes X (Wsem X.K H0 x)) (q : ∀ z H' O', ks z O' → StOk X.K H0 O' σ ρ H' → Q z H') :
    ∀ (es : List Expr) (acc : Str) (O : Own) (H : Hp), JW X ρ x ks es acc O → StOk X.K H0 O σ ρ H → tJs (es.map (We X)) acc σ H Q
  | [], acc, O, H, h, st => q acc H O h st
  | e :: es, acc, O, H, h, st => by
    have h : EW X O ρ e x fun s O1 => ∃ z, s = .dat (.str z) ∧ (acc ++ z).length ≤ sizeLine ∧ JW X ρ x ks es (acc ++ z) O1 := h
    refine h H0 σ H st tk _ fun v H1 s O1 ⟨z, e1, h1, h2⟩ st1 r1 => ?_
    subst e1
    cases r1
    exact ⟨z, rfl, h1, tjs_of tk q es (acc ++ z) O1 H1 h2 st1⟩
theorem ew_joined {v1 v2 : Expr} {rest : List Expr} (h : JW X ρ x (fun z O' => k (.dat (.str z)) O') (v1 :: v2 :: rest) Str.empty O) : EW X O ρ (.JoinedStr (v1 :: v2 :: rest) pos) x k := fun H0 σ H st tk Q q =>
  we_of (pe_joined (pj_w (v1 :: v2 :: rest))) (tjs_of tk (fun z H' O' hk st' => q (.str z) H' (.dat (.str z)) O' hk st' (Rp.str z)) _ _ O H h st)
def EV (X : Cx) (O : Own) (ρ : List Slot) (e : Expr) (x : ExK) (d : Dat) : Prop := EW X O ρ e x fun s O' => s = .dat d ∧ O' = O
def TV (X : Cx) (O : Own) (ρ : List Slot) (e : Expr) (x : ExK) (t : Bool) : Prop := TW X O ρ e x fun u O' => u = t ∧ O' = O
theorem tw_tv {t : Bool} {kt : Bool → Own → Prop} (h : TV X O ρ e x t) (hk : kt t O) : TW X O ρ e x kt := h.mono fun s O' ⟨e1, e2⟩ => by subst e1 e2; exact hk
def TVw (X : Cx) (O : Own) (ρ : List Slot) (e : Expr) (x : ExK) (t : Bool) : Prop := TWw X O ρ e x fun u O' => u = t ∧ O' = O
theorem tv_w {t : Bool} (h : TVw X O ρ e x t) : TV X O ρ e x t := tw_w h
theorem tvw_and1 {t : Bool} (h : TV X O ρ a x t) : TVw X O ρ (.BoolOp .And [a] pos) x t := tww_and1 h
theorem tvw_or1 {t : Bool} (h : TV X O ρ a x t) : TVw X O ρ (.BoolOp .Or [a] pos) x t := tww_or1 h
theorem tvw_and {t u : Bool} (h : TV X O ρ a x t) (h1 : t = true → TVw X O ρ (.BoolOp .And (b :: es) pos) x u) : TVw X O ρ (.BoolOp .And (a :: b :: es) pos) x (t && u) :=
  tww_and (h.mono fun s O' ⟨e1, e2⟩ => by
    subst e1 e2
    refine ⟨fun ht => ?_, fun ht => ?_⟩
    · subst ht; exact h1 rfl
    · subst ht; exact ⟨rfl, rfl⟩)
theorem tvw_or {t u : Bool} (h : TV X O ρ a x t) (h1 : t = false → TVw X O ρ (.BoolOp .Or (b :: es) pos) x u) : TVw X O ρ (.BoolOp .Or (a :: b :: es) pos) x (t || u) :=
  tww_or (h.mono fun s O' ⟨e1, e2⟩ => by
    subst e1 e2
    refine ⟨fun ht => ?_, fun ht => ?_⟩
    · subst ht; exact ⟨rfl, rfl⟩
    · subst ht; exact h1 rfl)
/-- [elt for tg in iter if ..] over data that ι tells of l: f the element, g whether it is taken -/
theorem ew_map {α : Type} (l : List α) (ι f : α → Dat) (g : α → Bool) (own : List (Str × Nat)) {elt tg iter : Expr} {ifs : List Expr} {scope : Scope} {T : Dat → List Slot → List Slot → Prop} (hN : X.N.Nodup) (tg_ok : Tgt X scope (own.map (·.2)) tg T) (ok : BlkOk X.N X.env.scope scope own)
    (hi : IW X O ρ tg iter x fun ds' O1 => ds' = l.map ι ∧ O1 = O) (hz : l.length ≤ sizeLine)
    (hb : ∀ d, d ∈ l → ∃ ρ', T (ι d) (wipeS ρ (own.map (·.2))) ρ' ∧ ∀ O' Y, Blk X scope Y → TsW Y O' ρ' ifs noX (fun t O2 => t = g d ∧ O2 = O') ∧ (g d = true → EV Y O' ρ' elt noX (f d)))
    (h : k (.dat (.lst ((l.filter g).map f))) O) (hc : X.calm = true := by rfl) (hs : ∀ x, foldedSetIterable iter X.env x = pure x := by intro _; rfl) : EW X O ρ (.ListComp elt [⟨tg, iter, ifs, 0⟩] scope pos) x k := by
  refine ew_frz (ew_lc own hN tg_ok ok (fun H0 σ H st tk R q => hi H0 σ H st tk R fun J H' ds' O1 ⟨e1, e2⟩ st' it => q J H' ds' O1 ?_ st' it) hc hs)
  subst e1 e2
  refine ⟨by rw [List.length_map]; exact hz, fun i acc O' => O' = O1 ∧ acc = (((l.take i).filter g).map f).map .dat, ⟨rfl, rfl⟩, fun i d0 acc O' hj hd0 => ?_, fun acc O' hj p hp => ?_⟩
  · obtain ⟨rfl, rfl⟩ := hj
    rw [List.getElem?_map] at hd0
    obtain ⟨d, hd, rfl⟩ := Option.map_eq_some_iff.mp hd0
    obtain ⟨ρ', ht, hb⟩ := hb d (List.mem_of_getElem? hd)
    refine ⟨ρ', ht, fun Dd nD Y hY => ?_⟩
    have htake : l.take (i + 1) = l.take i ++ [d] := by rw [List.take_add_one, hd]; rfl
    obtain ⟨h1, _⟩ := hb (up O' Dd (.lst ((((l.take i).filter g).map f).map .dat))) Y hY
    refine fun H0 σ H st tk Q q => h1 H0 σ H st tk Q fun t H' O2 ⟨e1, e2⟩ st2 => q t H' O2 ⟨fun ht => fun Z hZ => ?_, fun ht => ?_⟩ st2
    · subst e2
      have hg : g d = true := e1 ▸ ht
      refine ((hb (up O' Dd (.lst ((((l.take i).filter g).map f).map .dat))) Z hZ).2 hg).mono fun s O3 ⟨e3, e4⟩ => ?_
      subst e3 e4
      refine ⟨O', rfl, nD, rfl, ?_⟩
      rw [htake, List.filter_append, List.filter_cons_of_pos hg]
      simp
    · subst e2
      have hg : g d = false := e1 ▸ ht
      refine ⟨O', rfl, nD, rfl, ?_⟩
      rw [htake, List.filter_append, List.filter_cons_of_neg (by rw [hg]; exact Bool.false_ne_true)]
      simp
  · obtain ⟨rfl, rfl⟩ := hj
    refine ⟨p, (l.filter g).map f, rfl, by rw [List.length_map, List.take_length]; exact up_at, ?_⟩
    rw [dn_up hp]
    exact h
theorem filter_yes {α : Type} (l : List α) : l.filter (fun _ => true) = l := List.filter_eq_self.mpr fun _ _ => rfl
theorem ew_map1 {α : Type} (l : List α) (ι f : α → Dat) (own : List (Str × Nat)) {elt tg iter : Expr} {scope : Scope} {T : Dat → List Slot → List Slot → Prop} (hN : X.N.Nodup) (tg_ok : Tgt X scope (own.map (·.2)) tg T) (ok : BlkOk X.N X.env.scope scope own)
    (hi : IW X O ρ tg iter x fun ds' O1 => ds' = l.map ι ∧ O1 = O) (hz : l.length ≤ sizeLine)
    (hb : ∀ d, d ∈ l → ∃ ρ', T (ι d) (wipeS ρ (own.map (·.2))) ρ' ∧ ∀ O' Y, Blk X scope Y → EV Y O' ρ' elt noX (f d))
    (h : k (.dat (.lst (l.map f))) O) (hc : X.calm = true := by rfl) (hs : ∀ x, foldedSetIterable iter X.env x = pure x := by intro _; rfl) : EW X O ρ (.ListComp elt [⟨tg, iter, [], 0⟩] scope pos) x k :=
  ew_map l ι f (fun _ => true) own hN tg_ok ok hi hz (fun d hd => by
    obtain ⟨ρ', h1, h2⟩ := hb d hd
    exact ⟨ρ', h1, fun O' Y hY => ⟨tsw_nil ⟨rfl, rfl⟩, fun _ => h2 O' Y hY⟩⟩) (by rw [filter_yes]; exact h) hc hs
end
section
variable {X : Cx} {O : Own} {ρ : List Slot} {x : ExK} {k : Slot → Own → Prop} {e a o : Expr} {es : List Expr} {apos cpos pos : Pos}
theorem ew_split (h : EW X O ρ o x fun s O1 => ∃ z, s = .dat (.str z) ∧ EW X O1 ρ e x fun s2 O2 => M1B X "str.split" z s2 O2 k) (hs : starEach [e] X.env = [(false, eval e X.env)] := by rfl) (hbase : attributeBase o "split" X.env (eval o X.env) = eval o X.env := by rfl) (hline : (apos.endLine == cpos.line) = true := by rfl) :
    EW X O ρ (.Call (.Attribute o "split" apos) [e] [] cpos) x k := ew_m1 PySem.F.slot_str_split PySem.F.type_str_split h hs hbase hline
theorem ew_join (h : EW X O ρ o x fun s O1 => ∃ z, s = .dat (.str z) ∧ EW X O1 ρ e x fun s2 O2 => M1B X "str.join" z s2 O2 k) (hs : starEach [e] X.env = [(false, eval e X.env)] := by rfl) (hbase : attributeBase o "join" X.env (eval o X.env) = eval o X.env := by rfl) (hline : (apos.endLine == cpos.line) = true := by rfl) :
    EW X O ρ (.Call (.Attribute o "join" apos) [e] [] cpos) x k := ew_m1 PySem.F.slot_str_join PySem.F.type_str_join h hs hbase hline
theorem few1 {env : Env} {cpos : Pos} {e : Expr} (hs : starEach [e] env = [(false, eval e env)]) : ((backTo cpos (starEach [e] env)).all (fun x => !x.1) && (backToKw cpos (keywordEach [] env)).all (fun x => x.1.isSome)
      && decide (([e] : List Expr).length + ([] : List Keyword).length + (if ([] : List Keyword).isEmpty then 0 else 1) < 30)) = true := by
  rw [hs]; rfl
theorem ew_lm {id : String} {name : Str} (slot : PySem.Slot "list" name id) (hty : typeOf (.builtin id) = pure (.type "method_descriptor"))
    (h : EW X O ρ o x fun s O1 => TyS "list" O1 s ∧ EW X O1 ρ e x fun s2 O2 => MtB X id s [s2] O2 k) (hs : starEach [e] X.env = [(false, eval e X.env)] := by rfl) (hbase : attributeBase o name X.env (eval o X.env) = eval o X.env := by rfl)
    (hline : (apos.endLine == cpos.line) = true := by rfl) : EW X O ρ (.Call (.Attribute o name apos) [e] [] cpos) x k :=
  ew_bm PySem.F.plainAttrs_list slot hty (h.mono fun s O1 ⟨h1, h2⟩ => ⟨h1, aw_cons (h2.mono fun s2 O2 h3 => aw_nil h3) hs⟩) hbase (few1 hs) hline hs rfl
theorem ew_append (h : EW X O ρ o x fun s O1 => TyS "list" O1 s ∧ EW X O1 ρ e x fun s2 O2 => MtB X "list.append" s [s2] O2 k) (hs : starEach [e] X.env = [(false, eval e X.env)] := by rfl) (hbase : attributeBase o "append" X.env (eval o X.env) = eval o X.env := by rfl)
    (hline : (apos.endLine == cpos.line) = true := by rfl) : EW X O ρ (.Call (.Attribute o "append" apos) [e] [] cpos) x k := ew_lm PySem.F.slot_list_append PySem.F.type_list_append h hs hbase hline
theorem ew_extend (h : EW X O ρ o x fun s O1 => TyS "list" O1 s ∧ EW X O1 ρ e x fun s2 O2 => MtB X "list.extend" s [s2] O2 k) (hs : starEach [e] X.env = [(false, eval e X.env)] := by rfl) (hbase : attributeBase o "extend" X.env (eval o X.env) = eval o X.env := by rfl)
    (hline : (apos.endLine == cpos.line) = true := by rfl) : EW X O ρ (.Call (.Attribute o "extend" apos) [e] [] cpos) x k := ew_lm PySem.F.slot_list_extend PySem.F.type_list_extend h hs hbase hline
theorem ew_popAt (h : EW X O ρ o x fun s O1 => TyS "list" O1 s ∧ EW X O1 ρ e x fun s2 O2 => MtB X "list.pop" s [s2] O2 k) (hs : starEach [e] X.env = [(false, eval e X.env)] := by rfl) (hbase : attributeBase o "pop" X.env (eval o X.env) = eval o X.env := by rfl)
    (hline : (apos.endLine == cpos.line) = true := by rfl) : EW X O ρ (.Call (.Attribute o "pop" apos) [e] [] cpos) x k := ew_lm PySem.F.slot_list_pop PySem.F.type_list_pop h hs hbase hline
theorem ew_pop (h : EW X O ρ o x fun s O1 => TyS "list" O1 s ∧ MtB X "list.pop" s [] O1 k) (hbase : attributeBase o "pop" X.env (eval o X.env) = eval o X.env := by rfl)
    (hline : (apos.endLine == cpos.line) = true := by rfl) : EW X O ρ (.Call (.Attribute o "pop" apos) [] [] cpos) x k := ew_bm0 PySem.F.plainAttrs_list PySem.F.slot_list_pop PySem.F.type_list_pop h hbase hline
end
section
variable {X : Cx} {O : Own} {ρ : List Slot} {x : ExK} {kl : List Slot → Own → Prop} {o i : Expr} {pos : Pos} {s : Slot}
/-- o[i] = v, o a cell -/
theorem gw_set (h : EW X O ρ o x fun s1 O1 => EW X O1 ρ i x fun s2 O2 => ∃ p ss n j, s1 = .own p ∧ s2 = .dat (.int n) ∧ O2 p = some (.lst ss) ∧ ixN ss.length n = some j ∧ kl ρ (up O2 p (.lst (ss.set j s))))
    (ha : ∀ v, assign (.Subscript o i pos) X.env v = (do { let ov ← holding [v] (eval o X.env); let iv ← holding [v, ov] (eval i X.env); standAt pos; holding [v, ov, iv] (setItem ov iv v); release [v, ov, iv] [] }) := by intro _; rfl) : GW X O ρ (.Subscript o i pos) s x kl := fun H0 σ H v st r tk Q q => by
  refine wg_of (pg_sub pe_w pe_w set_list ha) (two h st.top (takes_base tk st.base) (Q := fun v1 v2 H2 => rSetL v1 v2 v H2 fun H3 => Q σ H3) fun v1 v2 s1 s2 O2 H2 hp st2 r1 r2 => ?_)
  obtain ⟨p, ss, n, j, e1, e2, h1, h2, h3⟩ := hp
  subst e1 e2
  obtain rfl : v1 = .ref p := r1
  cases r2
  obtain ⟨oo, h4, vs, rfl, h5⟩ := st2.own.cell p _ h1
  refine ⟨p, vs, n, j, rfl, rfl, h4, by rw [paired_len h5]; exact h2, q σ _ ρ _ h3 ((st2.rebase st.base).write h1 ⟨_, rfl, paired_set (SlOk.mono st2.base r) j h5⟩)⟩
end
end Kn
namespace Kn
open PySem PySem.Spec PyProof.Rows
open L2 hiding St
section
variable {X : Cx} {O : Own} {ρ : List Slot} {x : ExK} {k : Slot → Own → Prop} {e a o : Expr} {es : List Expr} {apos cpos pos : Pos}
theorem ew_bltn {nm : Str} {n : String} (hm : X.mg nm = none) (hv : bootBuiltins nm = some (.type n)) (h : k (.dat (.ty n)) O) (hg : Gl X nm := by rfl) (hn : nm ≠ "__name__" := by decide) (hd : (nm == ("__debug__" : Str)) = false := by decide) : EW X O ρ (.Name nm pos) x k := fun H0 σ H st tk Q q =>
  we_of (pe_bltn (v := .ty n) hg hm hv rfl hn hd) (q _ H _ O h st (.ty n))
/-- a class of one's own as a value -/
theorem ew_cls {nm : Str} {C : Addr} (hm : X.mg nm = some (.ref C)) (h : k (.dat (.cls C)) O) (hg : Gl X nm := by rfl) (hd : (nm == ("__debug__" : Str)) = false := by decide) : EW X O ρ (.Name nm pos) x k := fun H0 σ H st tk Q q =>
  we_of (pe_glob (v := .ref C) hg hm rfl hd) (q _ H _ O h st (.cls C))
def tyName : Dat → String
  | .non => "NoneType"
  | .bl _ => "bool"
  | .int _ => "int"
  | .str _ => "str"
  | .lst _ => "list"
  | .fro _ => "list"
  | .tup _ => "tuple"
  | _ => ""
theorem tyX_of {K : PySem.W.Frag} {O : Own} {H : Hp} {v : V} {d : Dat} (p : tyName d ≠ "") (r : Rp K (hid O H) v d) : TyX K H v (.type (tyName d)) := by
  cases r with
  | non => exact .base .non
  | bl b => exact .base (.bl b)
  | int i => exact .base (.int i)
  | str z => exact .base (.str z)
  | lst h1 h2 => exact .base (.lst (hid_le _ _ h1))
  | fro h1 h2 =>
    rcases h1 with (h1 | ⟨ob, h1⟩) | ⟨ob, its, n, h1, h3, _⟩
    · exact .base (.lst (hid_le _ _ h1))
    · exact .base (.frz (hid_le _ _ h1))
    · exact .kList h1 h3
  | tup h1 h2 =>
    rcases h1 with (h1 | ⟨ob, h1⟩) | ⟨ob, its, n, h1, h3, _⟩
    · exact .base (.tup (hid_le _ _ h1))
    · exact .fTuple (hid_le _ _ h1)
    · exact .kTuple h1 h3
  | ins h1 h2 => exact absurd rfl p
  | cls C => exact absurd rfl p
  | ty n => exact absurd rfl p
  | exc h1 h2 => exact absurd rfl p
  | slo h1 h2 h3 h4 => exact absurd rfl p
  | tre h1 h2 h3 h4 h5 => exact absurd rfl p
  | key h1 => exact absurd rfl p
  | dct h1 h2 => exact absurd rfl p
  | env h1 => exact absurd rfl p
  | xcv h1 h2 h3 => exact absurd rfl p
  | xc0 h1 => exact absurd rfl p
  | ndd h1 h2 => exact absurd rfl p
  | tpn h1 h2 h3 => exact absurd rfl p
theorem cb_isTy {d : Dat} {n : String} {t : Bool} (hk : kitB (tyName d) n = some t) (h : k (.dat (.bl t)) O) (hp : tyName d ≠ "" := by first | decide | assumption) : CaB X (.builtin "isinstance") [.dat d, .dat (.ty n)] O k := ⟨_, call_isi, fun H0 σ ρ H vs st pr Q q => by
  cases pr with
  | cons r1 pr =>
    cases pr with
    | cons r2 pr =>
      cases pr
      cases r2
      exact ⟨_, _, _, _, t, rfl, .ty n, tyX_of hp r1, kit_ty hk, q _ H _ O h st (.bl t)⟩⟩
end
end Kn
namespace Kn
open PySem PySem.Spec PyProof.Rows
open L2 hiding St
theorem bt_abs : bootBuiltins "abs" = some (.builtin "abs") := by decide +kernel
theorem bt_max : bootBuiltins "max" = some (.builtin "max") := by decide +kernel
theorem bt_min : bootBuiltins "min" = some (.builtin "min") := by decide +kernel
theorem bt_len : bootBuiltins "len" = some (.builtin "len") := by decide +kernel
theorem bt_repr : bootBuiltins "repr" = some (.builtin "repr") := by decide +kernel
theorem bt_isinstance : bootBuiltins "isinstance" = some (.builtin "isinstance") := by decide +kernel
theorem bt_int : bootBuiltins "int" = some (.type "int") := by decide +kernel
theorem bt_str : bootBuiltins "str" = some (.type "str") := by decide +kernel
theorem bt_list : bootBuiltins "list" = some (.type "list") := by decide +kernel
theorem bt_tuple : bootBuiltins "tuple" = some (.type "tuple") := by decide +kernel
def sgs (z : Str) : List Nat := z.cps.toList
theorem sgs_len (z : Str) : z.length = (sgs z).length := TL.len_tl z
theorem sgs_ext {y z : Str} (h : sgs y = sgs z) : y = z := TL.ext_tl h
theorem sgs_app (y z : Str) : sgs (y ++ z) = sgs y ++ sgs z := TL.tl_append y z
theorem len_app (y z : Str) : (y ++ z).length = y.length + z.length := by rw [sgs_len, sgs_app, List.length_append, ← sgs_len, ← sgs_len]
/-- value made of letters, at most m of them -/
def madeOf (z L : Str) (m : Nat) : Bool := decide (0 < z.length) && (decide (z.length ≤ m) && (sgs z).all fun c => decide (c ∈ sgs L))
def madeD (d : Dat) (L : Str) (m : Nat) : Bool := match d with
  | .str z => madeOf z L m
  | _ => false
def isNm (z : Str) : Bool := madeOf z ltrs 8 && !(takenW.any (· == z))
theorem madeOf_pos {z L : Str} {m : Nat} (h : madeOf z L m = true) : 0 < z.length ∧ z.length ≤ m ∧ ∀ c ∈ sgs z, c ∈ sgs L := by
  unfold madeOf at h
  simp only [Bool.and_eq_true, decide_eq_true_eq, List.all_eq_true] at h
  exact ⟨h.1, h.2.1, h.2.2⟩
theorem ltrs_mem {c : Nat} : c ∈ sgs ltrs ↔ 97 ≤ c ∧ c ≤ 122 := by
  have e : sgs ltrs = [97, 98, 99, 100, 101, 102, 103, 104, 105, 106, 107, 108, 109, 110, 111, 112, 113, 114, 115, 116, 117, 118, 119, 120, 121, 122] := by decide +kernel
  rw [e]
  simp only [List.mem_cons, List.not_mem_nil, or_false]
  omega
theorem join_len (y : Str) : ∀ ws : List Str, ws ≠ [] → (Txt.join y ws).length + y.length = (ws.map (·.length)).sum + ws.length * y.length := by
  intro ws
  rw [TL.join_eq]
  induction ws with
  | nil => intro h; exact absurd rfl h
  | cons a r ih =>
    intro _
    cases r with
    | nil =>
      show a.length + y.length = (a.length + 0) + 1 * y.length
      omega
    | cons b r =>
      have e := ih (List.cons_ne_nil b r)
      show (a ++ y ++ Str.join y (b :: r)).length + y.length = (a.length + ((b :: r).map (·.length)).sum) + ((b :: r).length + 1) * y.length
      rw [len_app, len_app, Nat.succ_mul]
      omega
theorem sp1 : (Str.ofString " ").length = 1 := by decide +kernel
abbrev Ev := Option (Str × Int)
def evD : Ev → Dat
  | none => .tup [.str "close"]
  | some (n, m) => .tup [.str "open", .str n, .int m]
def wordE : Ev → Str
  | none => "/"
  | some (n, m) => n ++ ":" ++ (toString m : String)
def textE (es : List Ev) : Str := Txt.join " " (es.map wordE)
/-- marks and names that stay small -/
def smallE : Ev → Prop
  | none => True
  | some (n, m) => n.length ≤ 100 ∧ 0 ≤ m ∧ m < 10 ^ 100
/-- what may be asked for its kind -/
def okD (d : Dat) : Prop := tyName d ≠ "" ∧ ∀ z, d = .str z → z.length ≤ 100000
def MadeS : SpecT := fun ss O R => ∃ (d : Dat) (L : Str) (m : Nat), ss = [.dat d, .dat (.str L), .dat (.int (m : Int))] ∧ okD d ∧ R (.ret (.dat (.bl (madeD d L m)))) O
end Kn
namespace Kn
open PySem PySem.Spec PyProof.Rows
open L2 hiding St
theorem Sub.refl {O : Own} : Sub O O := fun _ _ h => h
theorem Sub.trans {O1 O2 O3 : Own} (h : Sub O1 O2) (h' : Sub O2 O3) : Sub O1 O3 := fun p c e => h' p c (h p c e)
theorem Sub.up {O : Own} {p : Addr} {c : Cell} (h : O p = none) : Sub O (up O p c) := fun q d e => by
  rw [up_ne (own_ne e h)]; exact e
theorem Sub.ups {O' O : Own} {p : Addr} {c : Cell} (h : Sub O' O) : Sub (Kn.up O' p c) (Kn.up O p c) := fun q d e => by
  by_cases z : q = p
  · subst z
    rw [up_at] at e ⊢
    exact e
  · rw [up_ne z] at e ⊢
    exact h q d e
theorem Sub.none {O' O : Own} {p : Addr} (h : Sub O' O) (n : O p = none) : O' p = none := by
  cases e : O' p with
  | none => rfl
  | some c => rw [h p c e] at n; cases n
theorem hid_sub {O' O : Own} {H : Hp} (h : Sub O' O) : Same (hid O H) (hid O' H) := fun b o e => by
  obtain ⟨h1, h2⟩ := of_hid e
  rw [hid_none (h.none h1)]
  exact h2
section
variable {K : PySem.W.Frag} {H0 H : Hp} {O O' : Own} {σ : SV} {ρ : List Slot}
theorem OwnOk.sub (h : OwnOk K O H) (s : Sub O' O) : OwnOk K O' H := ⟨fun p c e => by
  obtain ⟨o, h1, h2⟩ := h.cell p c (s p c e)
  exact ⟨o, h1, ClOk.mono (hid_sub s) h2⟩⟩
theorem StOk.sub (h : StOk K H0 O σ ρ H) (s : Sub O' O) : StOk K H0 O' σ ρ H := ⟨h.own.sub s, h.base.trans (hid_sub s), pmap (fun _ _ q => EnvOk.mono (hid_sub s) q) h.env⟩
theorem ExOk.sub {cls : Value} {d : Option Addr} {e : Exn} (h : ExOk K O H cls d e) (s : Sub O' O) : ExOk K O' H cls d e := by
  cases e with
  | own C fs =>
    obtain ⟨h1, dx, fv, h2, h3, h4, h5⟩ := h
    exact ⟨h1, dx, fv, h2, s.none h3, h4, RpF.mono (hid_sub s) h5⟩
  | own0 C => exact h
  | ty n => exact h
end
/-- .. forgotten at the way out -/
def drX (x : ExK) : ExK := fun e ρ O => ∃ O', Sub O' O ∧ x e ρ O'
def drR (r : Slot → Own → Prop) : Slot → Own → Prop := fun z O => ∃ O', Sub O' O ∧ r z O'
def drN (r : List Slot → Own → Prop) : List Slot → Own → Prop := fun z O => ∃ O', Sub O' O ∧ r z O'
section
variable {X : Cx} {O : Own} {ρ : List Slot} {x : ExK} {D : SD} {sts : List Stmt} {e : Expr} {k : Slot → Own → Prop}
theorem takes_dr {H0 : Hp} (t : Takes X (Wsem X.K H0 x)) : Takes X (Wsem X.K H0 (drX x)) := t.imp fun _ _ _ _ ⟨e, ρ, O, ⟨O', s, h1⟩, h2, h3⟩ => ⟨e, ρ, O', h1, h2.sub s, h3.sub s⟩
theorem sw_drop (h : SW X O ρ sts (drX x) { nx := drN D.nx, rt := drR D.rt, bk := drN D.bk, ct := drN D.ct }) : SW X O ρ sts x D := fun H0 σ H st tk E ok =>
  h H0 σ H st (takes_dr tk) E ⟨fun σ ρ O H ⟨O', s, q⟩ z => ok.nx σ ρ O' H q (z.sub s), fun v z O H ⟨O', s, q⟩ o b r => ok.rt v z O' H q (o.sub s) (b.trans (hid_sub s)) (SlOk.mono (hid_sub s) r), fun σ ρ O H ⟨O', s, q⟩ z => ok.bk σ ρ O' H q (z.sub s), fun σ ρ O H ⟨O', s, q⟩ z => ok.ct σ ρ O' H q (z.sub s)⟩
end
/-- mg is what the written part says of the module's names -/
def TopOf (K : PySem.W.Frag) (mg : Str → Option Value) : Prop := ∃ h : Heap, K.In h ∧ h.Ns mainGlobals mg
theorem TopOf.no {K : PySem.W.Frag} {mg : Str → Option Value} {nm : Str} (T : TopOf K mg) (e : PySem.W.nsIn K mainGlobals nm = some none) : mg nm = none := by
  obtain ⟨h, h1, h2⟩ := T
  exact PySem.W.mg_none_of h1 h2 e
theorem TopOf.is {K : PySem.W.Frag} {mg : Str → Option Value} {nm : Str} {v : Value} (T : TopOf K mg) (e : PySem.W.nsIn K mainGlobals nm = some (some v)) : mg nm = some v := by
  obtain ⟨h, h1, h2⟩ := T
  exact PySem.W.mg_of h1 h2 e
/-- a def without defaults under its name -/
structure DefIn (K : PySem.W.Frag) (nm : Str) (st : Stmt) : Prop where
  ex : ∃ (f : Addr) (fd : FuncData), PySem.W.nsIn K mainGlobals nm = some (some (.ref f)) ∧ L2.Fun K nm nm st f fd
/-- how the arguments of a def of n parameters bind -/
def BindsAs (nm : Str) (st : Stmt) (ps : List Str) : Prop := ∀ (kV doc pm : Value) (an : Option Addr) (cdv ct : Value) (us : List Value), us.length = ps.length →
  bindArgs (PySem.W.fnOf nm nm (defArgs st) (defBody st) (defScope st) .none kV doc pm an cdv ct) ⟨us, []⟩ = pure (ps.zip us)
/-- a text, a tuple of texts under a module's name -/
def TextIn (K : PySem.W.Frag) (nm z : Str) : Prop := ∃ t, PySem.W.nsIn K mainGlobals nm = some (some (.str z t))
theorem TextIn.glob {K : PySem.W.Frag} {mg : Str → Option Value} {nm z : Str} (h : TextIn K nm z) (T : TopOf K mg) : GlobD K mg nm (.str z) := by
  obtain ⟨t, a⟩ := h
  exact ⟨.str z, .str z t, T.is a, ⟨t, rfl⟩, fun G => .str z⟩
theorem vals_strsOf : ∀ {us : List Value} {zs : List Str}, strsOf us = some zs → Vals (zs.map V.str) us
  | [], zs, h => by cases h; exact .nil
  | u :: us, zs, h => by
    cases u with
    | str z t =>
      cases q : strsOf us with
      | none =>
        unfold strsOf at h
        rw [q] at h; cases h
      | some ys =>
        unfold strsOf at h
        rw [q] at h; cases h
        exact .cons ⟨t, rfl⟩ (vals_strsOf q)
    | _ => cases h
def TextsIn (K : PySem.W.Frag) (nm : Str) (zs : List Str) : Prop := ∃ (a : Addr) (od : Option Addr) (its : Array Value) (n : Nat) (sl : Array (Option Value)), PySem.W.nsIn K mainGlobals nm = some (some (.ref a)) ∧ K.lookup a = some ⟨.type "tuple", od, .seq its n, sl⟩ ∧ its.size ≤ sizeLine ∧ strsOf its.toList = some zs
theorem TextsIn.glob {K : PySem.W.Frag} {mg : Str → Option Value} {nm : Str} {zs : List Str} (h : TextsIn K nm zs) (T : TopOf K mg) : GlobD K mg nm (.tup (zs.map .str)) := by
  obtain ⟨a, od, its, n, sl, h1, h2, h3, h4⟩ := h
  exact ⟨.ref a, .ref a, T.is h1, rfl, fun G => .tup (xs := zs.map V.str) (.inr ⟨_, its, n, h2, rfl, rfl, h3, vals_strsOf h4⟩) (strs_rp zs)⟩
/-- an exception class of one's own with an __init__ of its own -/
structure ExcAt (K : PySem.W.Frag) (nm qual : Str) (st : Stmt) (C : Addr) : Prop where
  at_ : PySem.W.nsIn K mainGlobals nm = some (some (.ref C))
  oex : OexC K C
  ini : ∃ f fd, PySem.W.findIn K (.ref C) "__init__" = some (some (.ref f)) ∧ PySem.W.typeIn K (.ref f) = some (.type "function") ∧ L2.Fun K "__init__" qual st f fd
/-- .. with all that is asked of it where it is caught; B: the class that it is derived from -/
structure ExcIn (K : PySem.W.Frag) (nm qual bn : Str) (st : Stmt) (C B : Addr) : Prop where
  a : ExcAt K nm qual st C
  xf : XfC K C
  ec : ExcC K C
  own : PySem.W.subIn K (.ref C) (.ref C) = some true
  bat : PySem.W.nsIn K mainGlobals bn = some (some (.ref B))
  sup : PySem.W.subIn K (.ref C) (.ref B) = some true
  bty : PySem.W.typeIn K (.ref B) = some (.type "type")
  bcl : PySem.W.isClsIn K B = true
  brd : ClX.CRead K B (.type "type")
  bin : PySem.W.findCls K (.ref B) (.type "type") "__init__" = some (.val (.builtin "ValueError.__init__"))
section
variable {P : Program} {w : World} {K : PySem.W.Frag} {mg : Str → Option Value} {base : Heap} {g : Bool} {k : Nat} {ps : List Str} {S : SpecT}
theorem cal_of {nm : Str} {st : Stmt} (T : TopOf K mg) (D : DefIn K nm st) (b : BindsAs nm st ps) (h : ∀ f fd, L2.Fun K nm nm st f fd → Fn P w K mg base g k f fd ps S) : Cal P w K mg base g k nm S [] := by
  obtain ⟨f, fd, a, F⟩ := D.ex
  exact ⟨f, fd, ps, [], [], T.is a, F.kp, h f fd F, F.binds b, .nil, fun _ => .nil⟩
end
/-- what a law has to do: given the script it says True -/
def LawS : SpecT := fun ss O R => ∃ ns : List Int, ss = [.dat (.fro (ns.map .int))] ∧ ns.length ≤ 63 ∧ ∀ O', R (.ret (.dat (.bl true))) O'
theorem ints_rp {K : PySem.W.Frag} {G : Hp} : ∀ ns : List Int, RpA K G (ns.map V.int) (ns.map Dat.int)
  | [] => .nil
  | n :: ns => .cons (.int n) (ints_rp ns)
def noO : Own := fun _ => none
theorem hid_no {H : Hp} : hid noO H = H := by
  funext b
  exact hid_none rfl
end Kn
namespace Kn
open PySem PySem.Spec PyProof.Rows
open L2 hiding St
section
variable {X : Cx} {O : Own} {ρ : List Slot} {x : ExK} {D : SD} {sts : List Stmt}
theorem StOk.give {K : PySem.W.Frag} {H0 H : Hp} {σ : SV} {i : Nat} {p : Addr} {ds : List Dat} (h : StOk K H0 O σ ρ H) (hi : ρ[i]? = some (.own p)) (hp : O p = some (.lst (ds.map .dat))) : StOk K H0 (dn O p) σ (ρ.set i (.dat (.lst ds))) H := by
  have f := h.freeze (p := p)
  refine ⟨f.own, f.base, ?_⟩
  obtain ⟨v, h1, h2⟩ := paired_get f.env hi
  have r : Rp K (hid (dn O p) H) (.ref p) (.lst ds) := h.own.lst hp
  have z := paired_set (x := v) (y := Slot.dat (.lst ds)) (F := EnvOk K (hid (dn O p) H)) ⟨.ref p, h2, r⟩ i f.env
  have e : σ.set i v = σ := by
    obtain ⟨hl, e⟩ := List.getElem?_eq_some_iff.mp h1
    rw [← e, List.set_getElem_self]
  rw [e] at z
  exact z
/-- the list that a name holds is data from now on -/
theorem sw_frz (i : Nat) {p : Addr} {ds : List Dat} (hp : O p = some (.lst (ds.map .dat))) (h : SW X (dn O p) (ρ.set i (.dat (.lst ds))) sts x D) (hi : ρ[i]? = some (.own p) := by rfl) : SW X O ρ sts x D := fun H0 σ H st tk E ok => h H0 σ H (st.give hi hp) tk E ok
/-- y = [elt for tg in iter if ..] whose parts change nothing -/
theorem s1_setMap {α : Type} (l : List α) (ι f : α → Dat) (g : α → Bool) (own : List (Str × Nat)) (i : Nat) {nm : Str} {py spos pos : Pos} {elt tg iter : Expr} {ifs : List Expr} {scope : Scope} {T : Dat → List Slot → List Slot → Prop} (hN : X.N.Nodup) (tg_ok : Tgt X scope (own.map (·.2)) tg T) (ok : BlkOk X.N X.env.scope scope own)
    (hi : IW X O ρ tg iter x fun ds' O1 => ds' = l.map ι ∧ O1 = O) (hz : l.length ≤ sizeLine)
    (hb : ∀ d, d ∈ l → ∃ ρ', T (ι d) (wipeS ρ (own.map (·.2))) ρ' ∧ ∀ O' Y, Blk X scope Y → TsW Y O' ρ' ifs noX (fun t O2 => t = g d ∧ O2 = O') ∧ (g d = true → EV Y O' ρ' elt noX (f d)))
    (h : ∀ p, O p = none → D.nx (ρ.set i (.own p)) (up O p (.lst (((l.filter g).map f).map .dat)))) (hc : X.calm = true := by rfl)
    (hy : X.N[i]? = some nm := by rfl) (hyl : X.env.scope.names.lookup nm = some .local := by rfl)
    (hsw : swapsWith (.ListComp elt [⟨tg, iter, ifs, 0⟩] scope pos) (some (.Name nm py)) spos.line X.env = pure true := by exact sw_true rfl rfl rfl (by decide +kernel)) (hs : ∀ x, foldedSetIterable iter X.env x = pure x := by intro _; rfl) :
    S1 X O ρ (.Assign [.Name nm py] (.ListComp elt [⟨tg, iter, ifs, 0⟩] scope pos) spos) x D := by
  refine s1_setLc own i hN tg_ok ok (fun H0 σ H st tk R q => hi H0 σ H st tk R fun J H' ds' O1 ⟨e1, e2⟩ st' it => q J H' ds' O1 ?_ st' it) hc hy hyl hsw hs
  subst e1 e2
  refine ⟨by rw [List.length_map]; exact hz, fun i acc O' => O' = O1 ∧ acc = (((l.take i).filter g).map f).map .dat, ⟨rfl, rfl⟩, fun i d0 acc O' hj hd0 => ?_, fun acc O' hj p hp => ?_⟩
  · obtain ⟨rfl, rfl⟩ := hj
    rw [List.getElem?_map] at hd0
    obtain ⟨d, hd, rfl⟩ := Option.map_eq_some_iff.mp hd0
    obtain ⟨ρ', ht, hb⟩ := hb d (List.mem_of_getElem? hd)
    refine ⟨ρ', ht, fun Dd nD Y hY => ?_⟩
    have htake : l.take (i + 1) = l.take i ++ [d] := by rw [List.take_add_one, hd]; rfl
    obtain ⟨h1, _⟩ := hb (up O' Dd (.lst ((((l.take i).filter g).map f).map .dat))) Y hY
    refine fun H0 σ H st tk Q q => h1 H0 σ H st tk Q fun t H' O2 ⟨e1, e2⟩ st2 => q t H' O2 ⟨fun ht => fun Z hZ => ?_, fun ht => ?_⟩ st2
    · subst e2
      have hg : g d = true := e1 ▸ ht
      refine ((hb (up O' Dd (.lst ((((l.take i).filter g).map f).map .dat))) Z hZ).2 hg).mono fun s O3 ⟨e3, e4⟩ => ?_
      subst e3 e4
      refine ⟨O', rfl, nD, rfl, ?_⟩
      rw [htake, List.filter_append, List.filter_cons_of_pos hg]
      simp
    · subst e2
      have hg : g d = false := e1 ▸ ht
      refine ⟨O', rfl, nD, rfl, ?_⟩
      rw [htake, List.filter_append, List.filter_cons_of_neg (by rw [hg]; exact Bool.false_ne_true)]
      simp
  · obtain ⟨rfl, rfl⟩ := hj
    rw [List.length_map, List.take_length]
    exact h p hp
theorem s1_setMap1 {α : Type} (l : List α) (ι f : α → Dat) (own : List (Str × Nat)) (i : Nat) {nm : Str} {py spos pos : Pos} {elt tg iter : Expr} {scope : Scope} {T : Dat → List Slot → List Slot → Prop} (hN : X.N.Nodup) (tg_ok : Tgt X scope (own.map (·.2)) tg T) (ok : BlkOk X.N X.env.scope scope own)
    (hi : IW X O ρ tg iter x fun ds' O1 => ds' = l.map ι ∧ O1 = O) (hz : l.length ≤ sizeLine)
    (hb : ∀ d, d ∈ l → ∃ ρ', T (ι d) (wipeS ρ (own.map (·.2))) ρ' ∧ ∀ O' Y, Blk X scope Y → EV Y O' ρ' elt noX (f d))
    (h : ∀ p, O p = none → D.nx (ρ.set i (.own p)) (up O p (.lst ((l.map f).map .dat)))) (hc : X.calm = true := by rfl)
    (hy : X.N[i]? = some nm := by rfl) (hyl : X.env.scope.names.lookup nm = some .local := by rfl)
    (hsw : swapsWith (.ListComp elt [⟨tg, iter, [], 0⟩] scope pos) (some (.Name nm py)) spos.line X.env = pure true := by exact sw_true rfl rfl rfl (by decide +kernel)) (hs : ∀ x, foldedSetIterable iter X.env x = pure x := by intro _; rfl) :
    S1 X O ρ (.Assign [.Name nm py] (.ListComp elt [⟨tg, iter, [], 0⟩] scope pos) spos) x D :=
  s1_setMap l ι f (fun _ => true) own i hN tg_ok ok hi hz (fun d hd => by
    obtain ⟨ρ', h1, h2⟩ := hb d hd
    exact ⟨ρ', h1, fun O' Y hY => ⟨tsw_nil ⟨rfl, rfl⟩, fun _ => h2 O' Y hY⟩⟩) (by rw [filter_yes]; exact h) hc hy hyl hsw hs
end
theorem seq_at {d : Int} {n : Nat} (h0 : 0 ≤ d) (h : d < (n : Int)) : seqIndex? d n = some d.toNat := by
  have e : (if d < 0 then d + (n : Int) else d) = d := if_neg (by omega)
  have e2 : (decide (0 ≤ d) && decide (d < (n : Int))) = true := by rw [decide_eq_true h0, decide_eq_true h]; rfl
  show (if (decide (0 ≤ (if d < 0 then d + (n : Int) else d)) && decide ((if d < 0 then d + (n : Int) else d) < (n : Int))) = true then some (if d < 0 then d + (n : Int) else d).toNat else none) = _
  rw [e, if_pos e2]
theorem rot_perm {α : Type} : ∀ {ls : List α} {j : Nat} {a : α}, ls[j]? = some a → (a :: ls.eraseIdx j).Perm ls
  | [], j, a, h => by cases h
  | b :: ls, 0, a, h => by cases h; exact .refl _
  | b :: ls, j + 1, a, h => (List.Perm.swap b a _).trans ((rot_perm (ls := ls) (j := j) h).cons b)
theorem erase_map {α β : Type} (f : α → β) : ∀ (l : List α) (i : Nat), (l.map f).eraseIdx i = (l.eraseIdx i).map f
  | [], _ => rfl
  | _ :: _, 0 => rfl
  | a :: l, i + 1 => congrArg (f a :: ·) (erase_map f l i)
theorem cut_take {α : Type} {l : List α} {m : Int} (h : 0 ≤ m) : cutD l none (some m) = l.take m.toNat := by
  obtain ⟨n, rfl⟩ := Int.eq_ofNat_of_zero_le h
  unfold cutD
  rw [HT.sIx_none, show HT.sIx l.length l.length (some (n : Int)) = min n l.length from HT.sIx_nat _ _ n, List.drop_zero, Nat.sub_zero, Int.toNat_natCast]
  rw [← List.take_eq_take_min]
theorem cut_drop {α : Type} {l : List α} {m : Int} (h : 0 ≤ m) : cutD l (some m) none = l.drop m.toNat := by
  obtain ⟨n, rfl⟩ := Int.eq_ofNat_of_zero_le h
  unfold cutD
  rw [HT.sIx_none, show HT.sIx l.length 0 (some (n : Int)) = min n l.length from HT.sIx_nat _ _ n, Int.toNat_natCast]
  rw [List.take_of_length_le (by rw [List.length_drop]; omega)]
  by_cases q : n ≤ l.length
  · rw [Nat.min_eq_left q]
  · rw [Nat.min_eq_right (by omega), List.drop_of_length_le (Nat.le_refl _), List.drop_of_length_le (by omega)]
end Kn
namespace Kn
open PySem PySem.Spec PyProof.Rows
open L2 hiding St
def smlB (z : Str) : Bool := z.cps.all (· < 0x110000)
mutual
def fine : Dat → Bool
  | .non => true
  | .bl _ => true
  | .int i => decide ((PyData.shown (.int i)).length ≤ 13) && decide (i.natAbs.log2 < 1920)
  | .str x => smlB x
  | .lst xs => fines xs
  | .fro xs => fines xs
  | .tup xs => fines xs
  | _ => false
def fines : List Dat → Bool
  | [] => true
  | d :: ds => fine d && fines ds
end
mutual
theorem fine_all : ∀ d : Dat, fine d = true → plain d = true ∧ (toPy d).canLay0 = true ∧ (toPy d).showable = true ∧ (toPy d).hasDict = false ∧ (toPy d).intsShort 13 = true
  | .non, _ => ⟨rfl, rfl, rfl, rfl, rfl⟩
  | .bl _, _ => ⟨rfl, rfl, rfl, rfl, rfl⟩
  | .int i, h => by
    have h : (decide ((PyData.shown (.int i)).length ≤ 13) && decide (i.natAbs.log2 < 1920)) = true := h
    obtain ⟨h1, h2⟩ := Bool.and_eq_true_iff.mp h
    exact ⟨rfl, rfl, h2, rfl, h1⟩
  | .str x, h => ⟨rfl, h, rfl, rfl, rfl⟩
  | .lst xs, h => by
    obtain ⟨h1, h2, h3, h4, h5⟩ := fines_all xs h
    exact ⟨h1, h2, h3, h4, h5⟩
  | .fro xs, h => by
    obtain ⟨h1, h2, h3, h4, h5⟩ := fines_all xs h
    exact ⟨h1, h2, h3, h4, h5⟩
  | .tup xs, h => by
    obtain ⟨h1, h2, h3, h4, h5⟩ := fines_all xs h
    exact ⟨h1, h2, h3, h4, h5⟩
theorem fines_all : ∀ ds : List Dat, fines ds = true → plains ds = true ∧ PyData.canLayAll0 (toPys ds) = true ∧ PyData.showableAll (toPys ds) = true ∧ PyData.hasDictAll (toPys ds) = false ∧ PyData.intsShortAll 13 (toPys ds) = true
  | [], _ => ⟨rfl, rfl, rfl, rfl, rfl⟩
  | d :: ds, h => by
    have h : (fine d && fines ds) = true := h
    obtain ⟨h1, h2⟩ := Bool.and_eq_true_iff.mp h
    obtain ⟨a1, a2, a3, a4, a5⟩ := fine_all d h1
    obtain ⟨b1, b2, b3, b4, b5⟩ := fines_all ds h2
    refine ⟨?_, ?_, ?_, ?_, ?_⟩
    · show (plain d && plains ds) = true
      rw [a1, b1]; rfl
    · show (PyData.canLay0 (toPy d) && PyData.canLayAll0 (toPys ds)) = true
      rw [a2, b2]; rfl
    · show (PyData.showable (toPy d) && PyData.showableAll (toPys ds)) = true
      rw [a3, b3]; rfl
    · show (PyData.hasDict (toPy d) || PyData.hasDictAll (toPys ds)) = false
      rw [a4, b4]; rfl
    · show (PyData.intsShort 13 (toPy d) && PyData.intsShortAll 13 (toPys ds)) = true
      rw [a5, b5]; rfl
end
def dep (d : Dat) : Nat := (toPy d).depth
def wgt (d : Dat) : Nat := (toPy d).weight
theorem shape_of {d : Dat} (h : fine d = true) (hd : dep d ≤ 64) : SeqAt.shaped (toPy d) = true := by
  unfold SeqAt.shaped
  rw [(fine_all d h).2.1]
  exact decide_eq_true hd
theorem reprOk_of {d : Dat} (h : fine d = true) (hd : dep d ≤ 64) (hw : wgt d ≤ 2 ^ 20) : reprOk d = true := by
  obtain ⟨h1, h2, h3, h4, h5⟩ := fine_all d h
  have h6 : (toPy d).layable0 = true := by
    unfold PyData.layable0
    rw [h2, decide_eq_true (show (toPy d).depth ≤ 64 from hd), decide_eq_true (show (toPy d).weight ≤ 2 ^ 20 from hw)]; rfl
  unfold reprOk
  rw [h1, h6, h3, h4, h5]; rfl
def deps : List Dat → Nat := fun ds => PyData.depthAll (toPys ds)
def wgts : List Dat → Nat := fun ds => PyData.weightAll (toPys ds)
section
variable {α : Type} {f : α → Dat} {l : List α} {b : Nat}
theorem fines_map : ∀ {l : List α}, (∀ a ∈ l, fine (f a) = true) → fines (l.map f) = true
  | [], _ => rfl
  | a :: l, h => by
    show (fine (f a) && fines (l.map f)) = true
    rw [h a List.mem_cons_self, fines_map fun c hc => h c (List.mem_cons_of_mem a hc)]; rfl
theorem deps_map : ∀ {l : List α}, (∀ a ∈ l, dep (f a) ≤ b) → deps (l.map f) ≤ b
  | [], _ => Nat.zero_le _
  | a :: l, h => Nat.max_le.mpr ⟨h a List.mem_cons_self, deps_map fun c hc => h c (List.mem_cons_of_mem a hc)⟩
end
theorem dep_lst {ds : List Dat} : dep (.lst ds) = deps ds + 1 := rfl
theorem dep_tup {ds : List Dat} : dep (.tup ds) = deps ds + 1 := rfl
theorem wgt_lst {ds : List Dat} : wgt (.lst ds) = wgts ds := rfl
theorem fine_nat {m : Int} (h0 : 0 ≤ m) (h : m < 10 ^ 12) : fine (.int m) = true := by
  have h1 : (PyData.shown (.int m)).length ≤ 13 := by
    have := PyProof.Rows.toString_length_le (v := m) (k := 12) h0 (by decide) h
    exact Nat.le_trans this (by decide)
  have h2 : m.natAbs.log2 < 1920 := by
    by_cases hz : m.natAbs = 0
    · rw [hz]; decide
    · rw [Nat.log2_lt hz]
      have e : m.natAbs < 10 ^ 12 := by omega
      exact Nat.lt_of_lt_of_le e (by decide +kernel)
  show (decide _ && decide _) = true
  rw [decide_eq_true h1, decide_eq_true h2]; rfl
theorem wgt_nat {m : Int} (h0 : 0 ≤ m) (h : m < 10 ^ 12) : wgt (.int m) ≤ 41 := by
  show (if m == 0 then 0 else m.natAbs.log2 + 1) ≤ 41
  split
  · exact Nat.zero_le _
  · rename_i hm
    have hz : m.natAbs ≠ 0 := fun e => hm (by rw [show m = 0 by omega]; rfl)
    have h2 : m.natAbs.log2 < 40 := by
      rw [Nat.log2_lt hz]
      have e : m.natAbs < 10 ^ 12 := by omega
      exact Nat.lt_of_lt_of_le e (by decide +kernel)
    omega
def sml (z : Str) : Prop := ∀ c ∈ sgs z, c < 0x110000
theorem sml_b {z : Str} (h : sml z) : smlB z = true := by
  unfold smlB
  rw [Array.all_eq_true_iff_forall_mem]
  exact fun c hc => decide_eq_true (h c (Array.mem_toList_iff.mpr hc))
/-- joined by blanks: at most this long -/
theorem join_le {ws : List Str} : (Txt.join " " ws).length ≤ (ws.map (·.length)).sum + ws.length := by
  cases ws with
  | nil => exact Nat.zero_le _
  | cons a r =>
    have h := join_len " " (a :: r) (List.cons_ne_nil _ _)
    rw [sp1, Nat.mul_one] at h
    omega
end Kn
namespace Kn
open PySem PySem.Spec PyProof.Rows
open L2 hiding St
section
variable {X : Cx} {O : Own} {ρ : List Slot} {x : ExK} {k k' : Slot → Own → Prop} {kl kl' : List Slot → Own → Prop} {e a b c o : Expr} {es : List Expr} {pos p apos pos2 : Pos} {D : SD} {g g' : Bool} {j n : Nat} {S : SpecT} {df : List Dat} {m f : Str}
def FldB (K : PySem.W.Frag) (f : Str) (s : Slot) (O : Own) (k : Slot → Own → Prop) : Prop := match s with
  | .own p => ∃ C dx fs s', O p = some (.ins C dx fs) ∧ Cls K C ∧ NoAttr K C f ∧ fs.lookup f = some s' ∧ k s' O
  | .dat (.ins C fs) => ∃ d, Cls K C ∧ NoAttr K C f ∧ fs.lookup f = some d ∧ k (.dat d) O
  | .dat (.tre C d1 g es d2) => ∃ d, Cls K C ∧ NoAttr K C f ∧ f ≠ g ∧ (d1 ++ d2).lookup f = some d ∧ k (.dat d) O
  | _ => False
theorem lookup_skip {α : Type} {f g : Str} {x : α} (ne : f ≠ g) : ∀ {f1 f2 : List (Str × α)}, (f1 ++ (g, x) :: f2).lookup f = (f1 ++ f2).lookup f
  | [], f2 => by
    rw [List.nil_append, List.nil_append, List.lookup_cons]
    have e : (f == g) = false := by simpa using ne
    rw [e]
  | (y, z) :: f1, f2 => by
    rw [List.cons_append, List.cons_append, List.lookup_cons, List.lookup_cons, lookup_skip ne]
theorem rpf_app {K : PySem.W.Frag} {G : Hp} {f2 : List (Str × V)} {d2 : List (Str × Dat)} (h2 : RpF K G f2 d2) : ∀ {f1 : List (Str × V)} {d1 : List (Str × Dat)}, RpF K G f1 d1 → RpF K G (f1 ++ f2) (d1 ++ d2)
  | _, _, .nil => h2
  | _, _, .cons h t => .cons h (rpf_app h2 t)
theorem pairedF_lookup {K : PySem.W.Frag} {G : Hp} {f : Str} {s : Slot} : ∀ {fv : List (Str × V)} {fs : List (Str × Slot)}, Paired (FlOk K G) fv fs → fs.lookup f = some s → ∃ v, fv.lookup f = some v ∧ SlOk K G v s
  | _, _, .nil, h => by cases h
  | (y, v) :: fv, (z, t) :: fs, .cons r q, h => by
    obtain ⟨e, r⟩ := r
    cases e
    rw [List.lookup_cons] at h ⊢
    split at h
    · cases h; rename_i e1; exact ⟨v, rfl, r⟩
    · exact pairedF_lookup q h
theorem pairedF_none {K : PySem.W.Frag} {G : Hp} {f : Str} : ∀ {fv : List (Str × V)} {fs : List (Str × Slot)}, Paired (FlOk K G) fv fs → fs.lookup f = none → fv.lookup f = none
  | _, _, .nil, h => rfl
  | (y, v) :: fv, (z, t) :: fs, .cons r q, h => by
    obtain ⟨e, r⟩ := r
    cases e
    rw [List.lookup_cons] at h ⊢
    split at h
    · cases h
    · exact pairedF_none q h
theorem rpf_none {K : PySem.W.Frag} {G : Hp} {f : Str} : ∀ {fv : List (Str × V)} {fs : List (Str × Dat)}, RpF K G fv fs → fs.lookup f = none → fv.lookup f = none
  | _, _, .nil, h => rfl
  | _, _, .cons r q, h => by
    rw [List.lookup_cons] at h ⊢
    split at h
    · cases h
    · exact rpf_none q h
theorem ew_fld (h : EW X O ρ o x fun s O1 => FldB X.K f s O1 k) (hb : attributeBase o f X.env (eval o X.env) = eval o X.env := by rfl) : EW X O ρ (.Attribute o f pos) x k := fun H0 σ H st tk Q q => by
  refine we_of (pe_fld pe_w hb) (h H0 σ H st tk _ fun v H1 s O1 hk st1 r1 => ?_)
  cases s with
  | unk => exact hk.elim
  | own p =>
    obtain ⟨C, dx, fs, s', hp, c, na, hl, hk⟩ := hk
    obtain ⟨ob, h1, fv, rfl, h2⟩ := st1.own.cell p _ hp
    obtain ⟨w, hw, rw⟩ := pairedF_lookup h2 hl
    exact ⟨p, C, dx, fv, w, r1, h1, c, na, hw, q w H1 s' O1 hk st1 rw⟩
  | dat d =>
    cases d with
    | ins C fs =>
      obtain ⟨d', c, na, hl, hk⟩ := hk
      cases r1 with
      | ins h1 h2 =>
        obtain ⟨w, hw, rw⟩ := h2.lookup hl
        exact ⟨_, C, _, _, w, rfl, hid_le _ _ h1, c, na, hw, q w H1 _ O1 hk st1 rw⟩
    | tre C d1 g es d2 =>
      obtain ⟨d', c, na, ne, hl, hk⟩ := hk
      cases r1 with
      | tre h1 h2 h3 h4 h5 =>
        obtain ⟨w, hw, rw⟩ := (rpf_app h4 h3).lookup hl
        exact ⟨_, C, _, _, w, rfl, hid_le _ _ h1, c, na, by rw [lookup_skip ne]; exact hw, q w H1 _ O1 hk st1 rw⟩
    | _ => exact hk.elim
/-- one field set anew -/
def putS (f : Str) (s : Slot) : List (Str × Slot) → List (Str × Slot)
  | [] => [(f, s)]
  | (g, t) :: r => if g = f then (g, s) :: r else (g, t) :: putS f s r
theorem pairedF_put {K : PySem.W.Frag} {G : Hp} {f : Str} {v : V} {s : Slot} (h : SlOk K G v s) : ∀ {fv : List (Str × V)} {fs : List (Str × Slot)}, Paired (FlOk K G) fv fs → Paired (FlOk K G) (putF f v fv) (putS f s fs)
  | _, _, .nil => .cons ⟨rfl, h⟩ .nil
  | (y, w) :: fv, (z, t) :: fs, .cons r q => by
    obtain ⟨e, r⟩ := r
    cases e
    unfold putF putS
    by_cases hz : y = f
    · rw [if_pos hz, if_pos hz]; exact .cons ⟨rfl, h⟩ q
    · rw [if_neg hz, if_neg hz]; exact .cons ⟨rfl, r⟩ (pairedF_put h q)
theorem st_slot {K : PySem.W.Frag} {H1 H2 : Hp} {O1 O2 : Own} {σ : SV} {ρ : List Slot} {v : V} {s : Slot} (r : SlOk K (hid O1 H1) v s) (st : StOk K (hid O1 H1) O2 σ ρ H2) : SlOk K (hid O2 H2) v s := SlOk.mono st.base r
/-- o.f = e -/
theorem s1_fld (h : EW X O ρ e x fun s O1 => EW X O1 ρ o x fun t O2 => ∃ (p : Addr) (C dx : Addr) (fs : List (Str × Slot)), t = .own p ∧ O2 p = some (.ins C dx fs) ∧ Cls X.K C ∧ NoAttr X.K C f ∧ fs.length < 1000 ∧ D.nx ρ (up O2 p (.ins C dx (putS f s fs))))
    (hs : swapsWith e (some (.Attribute o f pos2)) pos.line X.env = pure false := by rfl) : S1 X O ρ (.Assign [.Attribute o f pos2] e pos) x D := fun H0 σ H st tk E ok => by
  refine ws_of (ps_fld pe_w pe_w hs) (h H0 σ H st tk _ fun v H1 s O1 hk st1 r1 => ?_)
  refine hk _ σ H1 st1.top (takes_base tk st1.base) _ fun w H2 t O2 hq st2 r2 => ?_
  obtain ⟨p, C, dx, fs, rfl, hp, c, na, hl, hn⟩ := hq
  cases r2
  obtain ⟨ob, h1, fv, rfl, h2⟩ := st2.own.cell p _ hp
  refine ⟨p, C, dx, fv, rfl, h1, c, na, by rw [paired_len h2]; exact hl, ?_⟩
  exact ok.nx σ ρ _ _ hn ((st2.rebase st1.base).write hp ⟨_, rfl, pairedF_put (st_slot r1 st2) h2⟩)
/-- m is a def of the class at C, with its contract -/
def MCal (P : Program) (w : World) (K : PySem.W.Frag) (mg : Str → Option Value) (base : Heap) (g : Bool) (k : Nat) (C : Addr) (m : Str) (S : SpecT) (df : List Dat) : Prop :=
  ∃ (f : Addr) (fd : FuncData) (ps : List Str) (ds : List Value) (dvs : List V), Meth K C m f ∧ Fn P w K mg base g k f fd ps S ∧ Binds K fd ps ds ∧ Vals dvs ds ∧ ∀ G, RpA K G dvs df
def InsAt (O : Own) (C : Addr) (m : Str) : Slot → Prop
  | .own p => ∃ dx fs, O p = some (.ins C dx fs) ∧ fs.lookup m = none
  | .dat (.ins C' fs) => C' = C ∧ fs.lookup m = none
  | .dat (.tre C' d1 g es d2) => C' = C ∧ m ≠ g ∧ (d1 ++ d2).lookup m = none
  | _ => False
theorem ins_at {K : PySem.W.Frag} {H0 H : Hp} {O : Own} {σ : SV} {ρ : List Slot} {C : Addr} {m : Str} {s : Slot} {v : V} (h : InsAt O C m s) (st : StOk K H0 O σ ρ H) (r : SlOk K (hid O H) v s) :
    ∃ a dx fs, v = .ref a ∧ H a = some (.ins C dx fs) ∧ fs.lookup m = none := by
  cases s with
  | unk => exact h.elim
  | own p =>
    obtain ⟨dx, fs, hp, hl⟩ := h
    obtain ⟨ob, h1, fv, rfl, h2⟩ := st.own.cell p _ hp
    exact ⟨p, dx, fv, r, h1, pairedF_none h2 hl⟩
  | dat d =>
    cases d with
    | ins C' fs =>
      obtain ⟨rfl, hl⟩ := h
      cases r with
      | ins h1 h2 => exact ⟨_, _, _, rfl, hid_le _ _ h1, rpf_none h2 hl⟩
    | tre C' d1 g es d2 =>
      obtain ⟨rfl, ne, hl⟩ := h
      cases r with
      | tre h1 h2 h3 h4 h5 => exact ⟨_, _, _, rfl, hid_le _ _ h1, by rw [lookup_skip ne]; exact rpf_none (rpf_app h4 h3) hl⟩
    | _ => exact h.elim
@[reducible] def kMake (x : ExK) (ρ : List Slot) (k : Slot → Own → Prop) (a : Addr) : Out → Own → Prop
  | .ret s, O => s = .dat .non ∧ k (.own a) O
  | .exc e, O => x e ρ O
/-- the class at C has the __init__ with the contract -/
def MkC (P : Program) (w : World) (K : PySem.W.Frag) (mg : Str → Option Value) (base : Heap) (k : Nat) (C : Addr) (S : SpecT) (df : List Dat) : Prop :=
  ∃ (f : Addr) (fd : FuncData) (ps : List Str) (ds : List Value) (dvs : List V), Mk K C f ∧ Fn P w K mg base false k f fd ps S ∧ Binds K fd ps ds ∧ Vals dvs ds ∧ ∀ G, RpA K G dvs df
def MakeS (C : Addr) (S : SpecT) (df : List Dat) (x : ExK) (ρ : List Slot) (k : Slot → Own → Prop) (ss : List Slot) (O : Own) : Prop :=
  ∀ a dx, O a = none → O dx = none → dx ≠ a → S (.own a :: (ss ++ df.map .dat)) (up O a (.ins C dx [])) (kMake x ρ k a)
theorem run_makeS {C : Addr} {vs : List V} {us : List Value} {ss : List Slot} {pins : List (Addr × Obj)} {s : Shared} {σ : SV} {H0 H : Hp} {Q : VK} (M : MkC X.prog X.w X.K X.mg X.base n C S df) (hr : RoomB g (n + 1) X.A)
    (I : Inv X pins σ H s) (st : StOk X.K H0 O σ ρ H) (tk : Takes X (Wsem X.K H0 x)) (rv : Vals vs us) (pr : Paired (SlOk X.K (hid O H)) vs ss) (h : MakeS C S df x ρ k ss O) (q : ∀ v H' s O', k s O' → StOk X.K H0 O' σ ρ H' → SlOk X.K (hid O' H') v s → Q v H') :
    wpAny (model X.prog X.w) X.A (call (.ref C) us) (EP X pins σ Q) X.xe s := by
  obtain ⟨f, fd, ps, ds, dvs, M, F, hb, hd, hdf⟩ := M
  have fx : H (s.heap.objs.size + 1) = none := I.hok.fresh (Nat.le_succ _)
  have fd0 : H s.heap.objs.size = none := I.hok.fresh (Nat.le_refl _)
  have nxd : s.heap.objs.size ≠ s.heap.objs.size + 1 := Nat.ne_of_lt (Nat.lt_succ_self _)
  have hq := h (s.heap.objs.size + 1) s.heap.objs.size (own_free st.own fx) (own_free st.own fd0) nxd
  have sm : Same H (upd H s.heap.objs.size (.own (s.heap.objs.size + 1))) := same_new fd0
  have st1 := st.grow sm
  have fx1 : (upd H s.heap.objs.size (.own (s.heap.objs.size + 1))) (s.heap.objs.size + 1) = none := by rw [upd_ne nxd.symm]; exact fx
  have st2 := st1.alloc (o := .ins C s.heap.objs.size []) (c := .ins C s.heap.objs.size []) fx1 ⟨[], rfl, .nil⟩
  have I2 := Inv.made (C := C) I
  have gm : Same (hid O H) (hid (up O (s.heap.objs.size + 1) (.ins C s.heap.objs.size [])) (upd (upd H s.heap.objs.size (.own (s.heap.objs.size + 1))) (s.heap.objs.size + 1) (.ins C s.heap.objs.size []))) := fun b u hb => by
    obtain ⟨z1, z2⟩ := of_hid hb
    have nb := ne_of_none z2 fx
    have nd := ne_of_none z2 fd0
    rw [hid_none (by rw [up_ne nb]; exact z1), upd_ne nb, upd_ne nd]
    exact z2
  have r2 : Vals (V.ref (s.heap.objs.size + 1) :: (vs ++ dvs)) (Value.ref (s.heap.objs.size + 1) :: (us ++ ds)) := .cons rfl (rv.append hd)
  have sp : spS X.K S (V.ref (s.heap.objs.size + 1) :: (vs ++ dvs)) (upd (upd H s.heap.objs.size (.own (s.heap.objs.size + 1))) (s.heap.objs.size + 1) (.ins C s.heap.objs.size [])) (fun v H2 => v = .non ∧ Q (.ref (s.heap.objs.size + 1)) H2) (fun cls d H' => Wsem X.K H0 x cls d σ H') :=
    ⟨_, .own (s.heap.objs.size + 1) :: (ss ++ df.map .dat), kMake x ρ k _, st2.own, .cons rfl (paired_app (pmap (fun _ _ z => SlOk.mono gm z) pr) (hdf _).paired), hq,
      fun v H' s' O' h1 h2 h3 h4 => by
        obtain ⟨rfl, h5⟩ := h1
        cases h4
        exact ⟨rfl, q _ H' _ O' h5 (st2.next h2 h3) rfl⟩, fun cls d e H' O' h1 h2 h3 h4 => ⟨e, ρ, O', h1, st2.next h2 h3, h4⟩⟩
  have hl : (Value.ref (s.heap.objs.size + 1) :: us ++ ds).length = ps.length := by
    have e := r2.length
    rw [spS_len F.len _ _ _ _ sp] at e
    exact e.symm
  refine wpAny_call (make_map (f := f) I.kIn M.makes M.init (beq_iff_eq.mp M.fn) (codeAny_mono (F.ok.run _ X.stack _ _ ⟨Value.ref (s.heap.objs.size + 1) :: us, []⟩ (Value.ref (s.heap.objs.size + 1) :: (us ++ ds)) _ _ _ (hr.r.make C us [])
    (I2.env0.make C us []) (hb _ (Value.ref (s.heap.objs.size + 1) :: us) I2.kIn hl) r2 sp) fun r s' hq' => ?_))
  cases r with
  | error e => exact tk e s' (XE.of_call I2 (fun _ _ _ h => h) hq')
  | ok fl =>
    cases fl with
    | ret u =>
      obtain ⟨v, H', I3, rv, ev, q3⟩ := I2.after hq'
      subst ev
      exact ⟨rv, ⟨V.ref (s.heap.objs.size + 1), H', I3, rfl, q3⟩⟩
    | next => exact False.elim hq'
    | brk => exact False.elim hq'
    | cont => exact False.elim hq'
theorem MkC.kp {P : Program} {w : World} {K : PySem.W.Frag} {mg : Str → Option Value} {base : Heap} {C : Addr} (M : MkC P w K mg base n C S df) : PySem.W.keepIn K (.ref C) = true := by
  obtain ⟨f, fd, ps, ds, dvs, M, _⟩ := M
  exact M.kp
/-- C(e, ..), C a name of the module -/
theorem ew_make {C : Addr} {nm : Str} (M : MkC X.prog X.w X.K X.mg X.base n C S df) (hm : X.mg nm = some (.ref C)) (hr : RoomB g j X.A) (h : AW X O ρ (e :: es) x (MakeS C S df x ρ k)) (hj : n + 1 ≤ j := by decide)
    (hg : Gl X nm := by rfl) (hdb : (nm == ("__debug__" : Str)) = false := by decide) (he : starEach (e :: es) X.env = (false, eval e X.env) :: starEach es X.env := by rfl) (hpl : (backTo pos (starEach es X.env)).any (·.1) = false := by rfl) :
    EW X O ρ (.Call (.Name nm p) (e :: es) [] pos) x k := fun H0 σ H st tk Q q => ⟨fun pins s I => by
  refine wpAny_Call_Name_kw (ld_glob I hg hm ?_ hdb)
  refine PySem.W.callWith_K (h₀ := X.base) I.ok.mod.kin M.kp (thn ((pa_w (es := e :: es)).run pos pins s σ H (fun vs H1 => ∃ ss O1, StOk X.K H0 O1 σ ρ H1 ∧ Paired (SlOk X.K (hid O1 H1)) vs ss ∧ MakeS C S df x ρ k ss O1) I (h H0 σ H st tk _ fun vs H1 ss O1 h1 st1 r1 => ⟨ss, O1, st1, r1, h1⟩)) fun us s1 hq => ?_) he hpl
  obtain ⟨vs, H1, I1, rv, ss, O1, st1, pr, hS⟩ := hq
  exact ⟨I1.kIn, run_makeS M (hr.mono hj (fun e => e)) I1 st1 tk rv pr hS q⟩⟩
end
end Kn
namespace KnX
open PySem PySem.Spec PyProof.Rows
section
variable {prog : Program} {w : World} {A : Around} {E : Value → Shared → Prop} {s : Shared} {K : PySem.W.Frag} {x C f : Addr} {ox : Obj} {od : Option Obj} {b tb : Value}
theorem ne_entry {Q : Fin → Shared → Prop} (hu : A.units < cLine) (X : K.In s.heap) (I : PySem.W.InstAt s.heap x ox C od) (hs : PySem.W.findIn K (.ref C) "__eq__" = some (some (.ref f))) (hf : PySem.W.isFn K (.ref f) = true)
    (h : wpAny (model prog w) A (call (.ref f) [.ref x, b]) (fun v s' => ∃ t, v = .bool t ∧ Q (.done (.ret (.bool (!t)))) s') E s) : wpAny (model prog w) A (Builtin.«object.__ne__» ⟨[.ref x, b], []⟩) Q E s := by
  unfold Builtin.«object.__ne__»
  refine wpAny_bind (m := slotArgs "__ne__" 1 _) (wpAny_pure ?_)
  refine wpAny_bind (wpAny_cRoomFor hu ?_)
  refine wpAny_bind (m := callSpecialIfBound? (.ref x) "__eq__" [b]) (PySem.W.ifBound_K X I hs hf (wpAny_mono h (fun v s' hv => ?_) fun _ _ e => e))
  obtain ⟨t, rfl, hq⟩ := hv
  exact wpAny_bind (wpAny_truthy_bool (wpAny_pure hq))
theorem call_ne {Q : Value → Shared → Prop} (hu : A.units + 1 < cLine) (X : K.In s.heap) (I : PySem.W.InstAt s.heap x ox C od) (hm : PySem.W.mroIn K C (.type "object") = some true) (hs : PySem.W.findIn K (.ref C) "__eq__" = some (some (.ref f))) (hf : PySem.W.isFn K (.ref f) = true)
    (h : wpAny (model prog w) A.in1 (call (.ref f) [.ref x, b]) (fun v s' => ∃ t, v = .bool t ∧ Q (.bool (!t)) s') E s) : wpAny (model prog w) A (call (.builtin "object.__ne__") [.ref x, b]) Q E s :=
  wpAny_call (codeAny_call_builtin F.cmp_object.ne.plain F.cmpEntry_ne (PySem.W.check_slot F.cmpKind_ne F.cmpSplit_ne (I.type.andThen (PySem.W.looks_mroIn X hm)) (F.cmpArgs_ne _ _) (ne_entry hu X I hs hf h)))
theorem ifBound_ne {M : Model} {args : List Value} {Q : Option Value → Shared → Prop} (X : K.In s.heap) (I : PySem.W.InstAt s.heap x ox C od) (hs : PySem.W.findIn K (.ref C) "__ne__" = some (some (.builtin "object.__ne__")))
    (h : wpAny M A (call (.builtin "object.__ne__") (.ref x :: args)) (fun v => Q (some v)) E s) : wpAny M A (callSpecialIfBound? (.ref x) "__ne__" args) Q E s := by
  simp only [callSpecialIfBound?, bindSpecialIfBound?]
  refine wpAny_holding (wpAny_bind (wpAny_bind (wpAny_bind (I.type.here ((PySem.W.looks_findIn X hs).here ?_)))))
  refine wpAny_bind (wpAny_askSetting (wpAny_ite ?_))
  have fin : wpAny M A (call (.builtin "object.__ne__") ([.ref x] ++ args) >>= fun v => pure (some v)) Q E s := wpAny_bind (wpAny_mono h (fun v s' h' => wpAny_pure h') fun _ _ h' => h')
  split
  · exact wpAny_bind (wpAny_of_eq (F.cmp_object.ne.bind _) (wpAny_pure (by exact fin)))
  · exact wpAny_tryCatch (wpAny_bind (wpAny_of_eq (F.cmp_object.ne.bind _) (wpAny_pure (by exact fin))))
theorem ne_own {Q : Value → Shared → Prop} (hu : A.units + 1 < cLine) (X : K.In s.heap) (I : PySem.W.InstAt s.heap x ox C od) (hb : PySem.W.Looks (model prog w) s.heap (typeOf b) tb) (hn : PySem.W.notFirst K C tb = true)
    (hne : PySem.W.findIn K (.ref C) "__ne__" = some (some (.builtin "object.__ne__"))) (hm : PySem.W.mroIn K C (.type "object") = some true) (hs : PySem.W.findIn K (.ref C) "__eq__" = some (some (.ref f))) (hf : PySem.W.isFn K (.ref f) = true)
    (h : wpAny (model prog w) A.in1 (call (.ref f) [.ref x, b]) (fun v s' => ∃ t, v = .bool t ∧ Q (.bool (!t)) s') E s) : wpAny (model prog w) A (richCompare .NotEq (.ref x) b) Q E s := by
  have one : wpAny (model prog w) A (tryCompare (.ref x) "__ne__" b) (fun r s' => ∃ v, r = some v ∧ Q v s') E s := by
    unfold tryCompare
    refine wpAny_bind (ifBound_ne X I hne (call_ne hu X I hm hs hf (wpAny_mono h (fun v s' hv => ?_) fun _ _ e => e)))
    obtain ⟨t, rfl, hq⟩ := hv
    exact ⟨t, rfl, wpAny_pure ⟨_, rfl, hq⟩⟩
  unfold richCompare
  simp only [oneThing_ref]
  apply wpAny_holding
  apply wpAny_bind
  refine wpAny_cRoomFor (by omega) ?_
  refine wpAny_bind (I.type.here (wpAny_bind (hb.here ?_)))
  have go : ∀ {g : Option Value → Sem Value}, (∀ v, g (some v) = pure v) → wpAny (model prog w) A (tryCompare (.ref x) "__ne__" b >>= g) Q E s := fun is => by
    refine wpAny_bind (wpAny_mono one ?_ fun _ _ => id)
    rintro _ _ ⟨v, rfl, q⟩
    rw [is]
    exact wpAny_pure q
  by_cases other : (Value.ref C != tb) = true
  · have no : PySem.W.subIn K tb (.ref C) = some false := by
      have either : (tb == .ref C) = true ∨ (PySem.W.subIn K tb (.ref C) == some false) = true := by simpa [PySem.W.notFirst] using hn
      refine either.elim (fun same => ?_) eq_of_beq
      simp [eq_of_beq same] at other
    rw [if_pos other]
    refine wpAny_bind ((PySem.W.looks_subIn X no).here (wpAny_ite_false (by rfl) ?_))
    exact go fun _ => rfl
  · rw [if_neg other]
    first
      | exact wpAny_bind (wpAny_pure (wpAny_ite_false (by rfl) (go fun _ => rfl)))
      | exact wpAny_ite_false (by rfl) (go fun _ => rfl)
      | exact go fun _ => rfl
theorem str_own {Q : Value → Shared → Prop} (hu : A.units + 8 < cLine) (X : K.In s.heap) (I : PySem.W.InstAt s.heap x ox C od) (hs : PySem.W.findIn K (.ref C) "__str__" = some (some (.ref f))) (hf : PySem.W.isFn K (.ref f) = true)
    (h : wpAny (model prog w) A.in1.in1 (call (.ref f) [.ref x]) (fun r s₁ => ∃ z t, r = Value.str z t ∧ Q r s₁) E s) : wpAny (model prog w) A (call (.type "str") [.ref x]) Q E s :=
  PySem.W.kso_call (by show A.units + 2 < cLine; omega) X I hs hf (wpAny_mono h (fun _ _ ⟨_, _, e, q⟩ => by subst e; exact q) fun _ _ => id)
end
end KnX
namespace Kn
open PySem PySem.Spec PyProof.Rows
open L2 hiding St
section
variable {X : Cx} {O : Own} {ρ : List Slot} {x : ExK} {k k' : Slot → Own → Prop} {kl kl' : List Slot → Own → Prop} {e a b c o : Expr} {es : List Expr} {pos p apos pos2 : Pos} {D : SD} {g g' : Bool} {j n : Nat} {S : SpecT} {df : List Dat} {m f : Str} {s1 s2 s : Slot}
/-- the class of what a slot holds -/
def tySl (O : Own) (t : Value) : Slot → Prop
  | .dat .non => t = .type "NoneType"
  | .dat (.bl _) => t = .type "bool"
  | .dat (.int _) => t = .type "int"
  | .dat (.str _) => t = .type "str"
  | .dat (.lst _) => t = .type "list"
  | .dat (.tup _) => t = .type "tuple"
  | .dat (.ins C _) => t = .ref C
  | .dat (.tre C _ _ _ _) => t = .ref C
  | .own p => (∃ C dx fs, O p = some (.ins C dx fs) ∧ t = .ref C) ∨ (∃ ss, O p = some (.lst ss) ∧ t = .type "list")
  | _ => False
theorem insAt_of {pins : List (Addr × Obj)} {σ : SV} {H : Hp} {sh : Shared} {a C dx : Addr} {fs : List (Str × V)} (I : Inv X pins σ H sh) (h : H a = some (.ins C dx fs)) : ∃ ox od, PySem.W.InstAt sh.heap a ox C od := by
  obtain ⟨mA, J, _⟩ := ins_get I.hok h
  obtain ⟨od, J, _⟩ := J.look
  exact ⟨_, _, J⟩
theorem looks_ty {t : Value} {H0 H : Hp} {σ σ2 : SV} {ρ' : List Slot} {v : V} {u : Value} {pins : List (Addr × Obj)} {sh : Shared} (h : tySl O t s) (st : StOk X.K H0 O σ2 ρ' H) (r : SlOk X.K (hid O H) v s) (I : Inv X pins σ H sh) (ru : RelV v u) :
    PySem.W.Looks (model X.prog X.w) sh.heap (typeOf u) t := by
  have lstAt : ∀ {a : Addr} {xs : List V}, H a = some (.lst xs) → PySem.W.Looks (model X.prog X.w) sh.heap (typeOf (.ref a)) (.type "list") := fun {a xs} h1 => by
    obtain ⟨z, its, n, r, e⟩ : xs.length ≤ sizeLine ∧ ∃ (its : List Value) (n : Nat), Vals xs its ∧ sh.heap.get? a = some { cls := .type "list", data := .seq its.toArray n } := I.hok a _ h1
    exact (PySem.W.Looks.ld e).andThen .now
  cases s with
  | unk => exact h.elim
  | own q =>
    cases r
    cases ru
    rcases h with ⟨C, dx, fs, h1, rfl⟩ | ⟨ss, h1, rfl⟩
    · obtain ⟨ob, h2, fv, rfl, _⟩ := st.own.cell q _ h1
      obtain ⟨ox, od, J⟩ := insAt_of I h2
      exact J.type
    · obtain ⟨ob, h2, fv, rfl, _⟩ := st.own.cell q _ h1
      exact lstAt h2
  | dat d =>
    cases d with
    | non => cases r; cases ru; obtain rfl := h; exact .of_pure rfl
    | bl b => cases r; cases ru; obtain rfl := h; exact .of_pure rfl
    | int i => cases r; obtain ⟨_, rfl⟩ := ru; obtain rfl := h; exact .of_pure rfl
    | str z => cases r; obtain ⟨_, rfl⟩ := ru; obtain rfl := h; exact .of_pure rfl
    | lst ds =>
      obtain rfl := h
      cases r with
      | lst h1 h2 =>
        cases ru
        exact lstAt (hid_le _ _ h1)
    | tup ds =>
      obtain rfl := h
      cases r with
      | tup h1 h2 =>
        cases ru
        obtain ⟨its, _, ⟨ob, e1, e2, _⟩, _⟩ := I.tuple (sqt_mono hid_le h1)
        exact e2 ▸ (PySem.W.Looks.ld e1).andThen .now
    | ins C fs =>
      obtain rfl := h
      cases r with
      | ins h1 h2 =>
        cases ru
        obtain ⟨ox, od, J⟩ := insAt_of I (hid_le _ _ h1)
        exact J.type
    | tre C d1 g es d2 =>
      obtain rfl := h
      cases r with
      | tre h1 h2 h3 h4 h5 =>
        cases ru
        obtain ⟨ox, od, J⟩ := insAt_of I (hid_le _ _ h1)
        exact J.type
    | _ => exact h.elim
/-- the own __eq__ of the class at C -/
structure EqC (P : Program) (w : World) (K : PySem.W.Frag) (mg : Str → Option Value) (base : Heap) (n : Nat) (C : Addr) (S : SpecT) : Prop where
  ex : ∃ (f : Addr) (fd : FuncData) (ps : List Str), PySem.W.findIn K (.ref C) "__eq__" = some (some (.ref f)) ∧ PySem.W.isFn K (.ref f) = true ∧ Fn P w K mg base false n f fd ps S ∧ Binds K fd ps []
  ne : PySem.W.findIn K (.ref C) "__ne__" = some (some (.builtin "object.__ne__"))
  ob : PySem.W.mroIn K C (.type "object") = some true
@[reducible] def kVal (k : Slot → Own → Prop) : Out → Own → Prop
  | .ret s, O => k s O
  | .exc _, _ => False
/-- run, at some place above the caller -/
theorem run_in {f : Addr} {fd : FuncData} {ps : List Str} {vs : List V} {us : List Value} {ss : List Slot} {pins : List (Addr × Obj)} {sh : Shared} {σ σ2 : SV} {ρ' : List Slot} {H0 H : Hp} {Q : VK} {A : Around}
    (F : Fn X.prog X.w X.K X.mg X.base false n f fd ps S) (hr : Room n A) (e0 : Env0 X.prog X.w X.K X.mg X.base A X.stack sh H) (hb : Binds X.K fd ps []) (I : Inv X pins σ H sh) (st : StOk X.K H0 O σ2 ρ' H) (rv : Vals vs us)
    (pr : Paired (SlOk X.K (hid O H)) vs ss) (hS : S ss O (kVal k)) (q : ∀ v H' s O', k s O' → StOk X.K H0 O' σ2 ρ' H' → SlOk X.K (hid O' H') v s → Q v H') :
    wpAny (model X.prog X.w) A (call (.ref f) us) (EP X pins σ Q) X.xe sh := by
  have sp : spS X.K S vs H Q (fun _ _ _ => False) := ⟨O, ss, kVal k, st.own, pr, hS,
    fun v H' s' O' h1 h2 h3 h4 => q v H' s' O' h1 (st.next h2 h3) h4, fun cls d e H' O' h1 h2 h3 h4 => h1⟩
  have hl : (us ++ []).length = ps.length := by rw [List.append_nil, ← rv.length]; exact spS_len F.len _ _ _ _ sp
  have hb' := hb sh us I.kIn hl
  rw [List.append_nil] at hb'
  refine wpAny_call (codeAny_mono (F.ok.run A X.stack sh H ⟨us, []⟩ us vs Q _ hr e0 hb' rv sp) fun r s' hq => ?_)
  cases r with
  | error e => exact passL pins σ H sh e s' I hq
  | ok fl =>
    cases fl with
    | ret u => exact I.after hq
    | next => exact False.elim hq
    | brk => exact False.elim hq
    | cont => exact False.elim hq
theorem ins_sl {K : PySem.W.Frag} {H0 H : Hp} {σ : SV} {ρ' : List Slot} {C : Addr} {v : V} (h : tySl O (.ref C) s) (st : StOk K H0 O σ ρ' H) (r : SlOk K (hid O H) v s) : ∃ a dx fs, v = .ref a ∧ H a = some (.ins C dx fs) := by
  cases s with
  | unk => exact h.elim
  | own q =>
    rcases h with ⟨C', dx, fs, h1, e⟩ | ⟨ss, h1, e⟩
    · cases e
      obtain ⟨ob, h2, fv, rfl, _⟩ := st.own.cell q _ h1
      exact ⟨q, dx, fv, r, h2⟩
    · cases e
  | dat d =>
    cases d with
    | ins C' fs =>
      have h : Value.ref C = .ref C' := h
      cases h
      cases r with
      | ins h1 h2 => exact ⟨_, _, _, rfl, hid_le _ _ h1⟩
    | tre C' d1 g es d2 =>
      have h : Value.ref C = .ref C' := h
      cases h
      cases r with
      | tre h1 h2 h3 h4 h5 => exact ⟨_, _, _, rfl, hid_le _ _ h1⟩
    | non => exact absurd h (fun e => by cases e)
    | bl _ => exact absurd h (fun e => by cases e)
    | int _ => exact absurd h (fun e => by cases e)
    | str _ => exact absurd h (fun e => by cases e)
    | lst _ => exact absurd h (fun e => by cases e)
    | tup _ => exact absurd h (fun e => by cases e)
    | _ => exact h.elim
theorem ob_ownEq {C : Addr} {tb : Value} (E : EqC X.prog X.w X.K X.mg X.base n C S) (hr : Room n X.A) (h1 : tySl O (.ref C) s1) (h2 : tySl O tb s2) (hn : PySem.W.notFirst X.K C tb = true) (h : S [s1, s2] O (kVal k)) :
    OpB X (compareOp .Eq) s1 s2 O k := by
  obtain ⟨f, fd, ps, hs, hf, F, hb⟩ := E.ex
  refine ⟨fun x y H Q => ∃ (H0 : Hp) (σ2 : SV) (ρ' : List Slot), StOk X.K H0 O σ2 ρ' H ∧ SlOk X.K (hid O H) x s1 ∧ SlOk X.K (hid O H) y s2 ∧ ∀ v H' s O', k s O' → StOk X.K H0 O' σ2 ρ' H' → SlOk X.K (hid O' H') v s → Q v H', ?_, fun H0 σ ρ' H v1 v2 st r1 r2 Q q => ⟨H0, σ, ρ', st, r1, r2, q⟩⟩
  intro pins sh σ H v1 v2 u1 u2 Q I ru1 ru2 hq
  obtain ⟨H0, σ2, ρ', st, r1, r2, q⟩ := hq
  obtain ⟨a, dx, fs, rfl, ha⟩ := ins_sl h1 st r1
  have L := looks_ty h2 st r2 I ru2
  cases ru1
  obtain ⟨ox, od, J⟩ := insAt_of I ha
  obtain ⟨m, hF⟩ := I.fr
  refine PySem.W.cmp_K (op := .Eq) (tb := tb) hr.units0 hF I.ok.mod.kin J L hn hs hf ?_
  refine wpAny_mono (run_in (k := k) F hr I.env0 hb I st (vs := [.ref a, v2]) (.cons rfl (.cons ru2 .nil)) (.cons r1 (.cons r2 .nil)) h q) (fun w s' z => ?_) fun _ _ x => x
  obtain ⟨z', H', I', rz, qz⟩ := z
  exact SlX.cmpback rz ⟨z', H', I', rz, qz⟩
theorem ob_ownNe {C : Addr} {tb : Value} (E : EqC X.prog X.w X.K X.mg X.base n C S) (hr : Room (n + 1) X.A) (h1 : tySl O (.ref C) s1) (h2 : tySl O tb s2) (hn : PySem.W.notFirst X.K C tb = true) (h : S [s1, s2] O (kVal fun s O' => ∃ t, s = .dat (.bl t) ∧ k (.dat (.bl (!t))) O')) :
    OpB X (compareOp .NotEq) s1 s2 O k := by
  obtain ⟨f, fd, ps, hs, hf, F, hb⟩ := E.ex
  refine ⟨fun x y H Q => ∃ (H0 : Hp) (σ2 : SV) (ρ' : List Slot), StOk X.K H0 O σ2 ρ' H ∧ SlOk X.K (hid O H) x s1 ∧ SlOk X.K (hid O H) y s2 ∧ ∀ v H' s O', k s O' → StOk X.K H0 O' σ2 ρ' H' → SlOk X.K (hid O' H') v s → Q v H', ?_, fun H0 σ ρ' H v1 v2 st r1 r2 Q q => ⟨H0, σ, ρ', st, r1, r2, q⟩⟩
  intro pins sh σ H v1 v2 u1 u2 Q I ru1 ru2 hq
  obtain ⟨H0, σ2, ρ', st, r1, r2, q⟩ := hq
  obtain ⟨a, dx, fs, rfl, ha⟩ := ins_sl h1 st r1
  have L := looks_ty h2 st r2 I ru2
  cases ru1
  obtain ⟨ox, od, J⟩ := insAt_of I ha
  refine KnX.ne_own (by have := hr.units; omega) I.kIn J L hn E.ne E.ob hs hf ?_
  refine wpAny_mono (run_in (Q := fun v H' => ∃ t, v = .bl t ∧ Q (.bl (!t)) H') F hr.in1 I.env0.in1 hb I st (vs := [.ref a, v2]) (.cons rfl (.cons ru2 .nil)) (.cons r1 (.cons r2 .nil)) h (fun v H' s O' hk st' r' => ?_)) (fun w s' z => ?_) fun _ _ x => x
  · obtain ⟨t, rfl, hk⟩ := hk
    cases r'
    exact ⟨t, rfl, q _ H' _ O' hk st' (.bl _)⟩
  · obtain ⟨z', H', I', rz, t, rfl, qz⟩ := z
    cases rz
    exact ⟨t, rfl, .bl (!t), H', I', rfl, qz⟩
/-- str(x) by an own __str__ -/
theorem cb_strOwn {C : Addr} {g0 : Addr} {fd : FuncData} {ps : List Str} (hs : PySem.W.findIn X.K (.ref C) "__str__" = some (some (.ref g0))) (hf : PySem.W.isFn X.K (.ref g0) = true) (F : Fn X.prog X.w X.K X.mg X.base false n g0 fd ps S) (hb : Binds X.K fd ps []) (hr : Room (n + 2) X.A)
    (h1 : tySl O (.ref C) s1) (h : S [s1] O (kVal fun s O' => ∃ z, s = .dat (.str z) ∧ k (.dat (.str z)) O')) : CaB X (.type "str") [s1] O k := by
  refine ⟨fun xs H Q => ∃ (x : V) (H0 : Hp) (σ2 : SV) (ρ' : List Slot), xs = [x] ∧ StOk X.K H0 O σ2 ρ' H ∧ SlOk X.K (hid O H) x s1 ∧ ∀ v H' s O', k s O' → StOk X.K H0 O' σ2 ρ' H' → SlOk X.K (hid O' H') v s → Q v H', ?_, fun H0 σ ρ' H vs st pr Q q => ?_⟩
  · intro pins sh σ H xs us Q I r hq
    obtain ⟨x, H0, σ2, ρ', rfl, st, r1, q⟩ := hq
    obtain ⟨a, dx, fs, rfl, ha⟩ := ins_sl h1 st r1
    obtain ⟨u, rfl, ru⟩ := r.one
    cases ru
    obtain ⟨ox, od, J⟩ := insAt_of I ha
    have hr2 : Room n X.A.in1.in1 := (show Room (n + 1) X.A.in1 from Room.in1 hr).in1
    refine KnX.str_own (by have := hr.units; omega) I.kIn J hs hf ?_
    refine wpAny_mono (run_in (Q := fun v H' => ∃ z, v = .str z ∧ Q (.str z) H') F hr2 I.env0.in1.in1 hb I st (vs := [.ref a]) (.cons rfl .nil) (.cons r1 .nil) h (fun v H' s O' hk st' r' => ?_)) (fun w s' z => ?_) fun _ _ x => x
    · obtain ⟨z, rfl, hk⟩ := hk
      cases r'
      exact ⟨z, rfl, q _ H' _ O' hk st' (.str _)⟩
    · obtain ⟨z', H', I', rz, t, rfl, qz⟩ := z
      obtain ⟨tk, rfl⟩ := rz
      exact ⟨t, tk, rfl, .str t, H', I', ⟨tk, rfl⟩, qz⟩
  · cases pr with
    | cons r1 pr =>
      cases pr
      exact ⟨_, H0, σ, ρ', rfl, st, r1, q⟩
/-- isinstance(x, C) -/
def isSl (K : PySem.W.Frag) (O : Own) (t : Value) (s : Slot) : Prop := (∃ d, s = .dat d ∧ tyName d ≠ "" ∧ t = .type (tyName d)) ∨ (∃ C, C8.InsC K C ∧ tySl O (.ref C) s ∧ t = .ref C)
theorem tyX_sl {t : Value} {H0 H : Hp} {σ : SV} {ρ' : List Slot} {v : V} (hs : isSl X.K O t s) (st : StOk X.K H0 O σ ρ' H) (r1 : SlOk X.K (hid O H) v s) : TyX X.K H v t := by
  rcases hs with ⟨d, rfl, hp, rfl⟩ | ⟨C', ic, ht, rfl⟩
  · exact tyX_of hp r1
  · obtain ⟨a, dx, fs, rfl, ha⟩ := ins_sl ht st r1
    exact .base (.ins ha ic.cl ic.ha ic.hn ic.htk ic.hm)
theorem cb_isC {C : Addr} {t : Value} {b : Bool} (hk : PySem.W.kitOne X.K t (.ref C) = some b) (hs : isSl X.K O t s) (h : k (.dat (.bl b)) O) : CaB X (.builtin "isinstance") [s, .dat (.cls C)] O k := ⟨_, call_isi, fun H0 σ ρ H vs st pr Q q => by
  cases pr with
  | cons r1 pr =>
    cases pr with
    | cons r2 pr =>
      cases pr
      cases r2
      exact ⟨_, _, _, _, b, rfl, .own C, tyX_sl hs st r1, hk, q _ H _ O h st (.bl b)⟩⟩
end
end Kn
namespace Kn
open PySem PySem.Spec PyProof.Rows
open L2 hiding St
/-- a clause: its class, the place of its name, its suite's reading -/
structure Cls1 where
  c : Value
  i : Option Nat
  ts : Addr → Value → Option Addr → TS
def unI (D : Ends) : Option Nat → Ends
  | none => D
  | some j => ⟨fun σ H => D.nx (σ.set j none) H, D.rt, fun σ H => D.bk (σ.set j none) H, fun σ H => D.ct (σ.set j none) H⟩
def inI (σ : SV) (a : Addr) : Option Nat → SV
  | none => σ
  | some j => σ.set j (some (.ref a))
def wAny (K : PySem.W.Frag) (Wo : WX) (D : Ends) : List Cls1 → WX
  | [] => Wo
  | z :: r => fun cls d σ H => ∃ b, PySem.W.exmOne K cls z.c = some b ∧ (b = true → ∀ a, H a = none → z.ts a cls d (unI D z.i) (inI σ a z.i) H) ∧ (b = false → wAny K Wo D r cls d σ H)
def nmOf (X : Cx) (nn : Option Str) (i : Option Nat) : Prop := match nn, i with
  | none, none => True
  | some n, some j => X.N[j]? = some n ∧ X.env.kindOf n = some .local
  | _, _ => False
inductive HdAny (X : Cx) : List ExceptHandler → List Cls1 → Prop
  | nil : HdAny X [] []
  | cons {x : Str} {c : Value} {i : Option Nat} {nn : Option Str} {ts : Addr → Value → Option Addr → TS} {b₀ : Stmt} {suite : List Stmt} {np pos' : Pos} {hds : List ExceptHandler} {l : List Cls1} (hc : Names X x c) (hn : nmOf X nn i)
      (hsu : ∀ (a : Addr) (oe : Obj) (cls : Value) (d : Option Addr) (pn : List (Addr × Obj)), Zc cls d oe → (∃ vs, oe.data = .fields vs) → PSs (X.suite a ((a, oe) :: pn)) (b₀ :: suite) (ts a cls d)) (r : HdAny X hds l) :
      HdAny X (.ExceptHandler (some (.Name x np)) nn (b₀ :: suite) pos' :: hds) (⟨c, i, ts⟩ :: l)
section
variable {X : Cx} {pins : List (Addr × Obj)} {σ : SV} {H : Hp} {cls : Value} {d : Option Addr} {a : Addr} {B : Heap} {s0 s : Shared} {oe : Obj}
theorem Down.now (w : Down X pins σ H cls d a B s0 s) : Inv X pins σ H s := w.inv.landed w.ground w.fly.1 w.up w.os w.bare
theorem Down.move (w : Down X pins σ H cls d a B s0 s) {h : Heap} (f : HandSPX.FlyingZ B X.stack a (Zc cls d) h) (u : s.heap.UpToSlots h) : Down X pins σ H cls d a B s0 { s with heap := h } :=
  { w with fly := f, up := w.up.trans u }
/-- the frame's note is taken away -/
theorem Down.quiet (w : Down X pins σ H cls d a B s0 s) {M : Model} {A : Around} {E : Value → Shared → Prop} {Q : Unit → Shared → Prop} (k : ∀ t, Down X pins σ H cls d a B s0 t → Q () t) : wpAny M A (setFlight (.ref a) none) Q E s :=
  HandSPX.lands_againZ w.fly fun _ f u => k _ (w.move f u)
theorem Down.obj (w : Down X pins σ H cls d a B s0 s) : ∃ oe, s.heap.get? a = some oe ∧ Zc cls d oe ∧ ∃ vs, oe.data = .fields vs :=
  let ⟨oe, vs, h1, h2, h3⟩ := w.fly.there
  ⟨oe, h1, h2, vs, h3⟩
/-- no frame lies where it lies -/
theorem Down.noFrame (w : Down X pins σ H cls d a B s0 s) {b : Addr} (hb : b ∈ frs X.stack) : a ≠ b := by
  rintro rfl
  obtain ⟨oe, h1, _, vs, h3⟩ := w.obj
  obtain ⟨_, o, h4, h5⟩ := w.fly.2.2.1.mem hb
  rw [h1] at h4
  cases h4
  exact h5 vs h3
theorem Down.enter (w : Down X pins σ H cls d a B s0 s) (hs : X.stack = X.env :: X.outer) (hf : X.env.frame = some X.env.locals) (h : s.heap.get? a = some oe) (hd : ∃ vs, oe.data = .fields vs) : Inv (X.suite a ((a, oe) :: (X.pn ++ pins))) [] σ H s := by
  obtain ⟨vs, hd⟩ := hd
  have top : X.env.locals ∈ frs X.stack := by
    rw [hs]
    exact List.mem_filterMap.mpr ⟨X.env, .head _, hf⟩
  refine w.now.suite h hd w.free (w.noFrame top) fun hm => ?_
  have sub : a ∈ frs X.stack := by
    obtain ⟨e, h1, h2⟩ := List.mem_filterMap.mp hm
    rw [hs]
    exact List.mem_filterMap.mpr ⟨e, .tail _ h1, h2⟩
  exact w.noFrame sub rfl
/-- no clause is left: it goes on, out of our frame -/
theorem Down.goesOn (w : Down X pins σ H cls d a B s0 s) (hf : X.env.frame = some X.env.locals) {Wo : WX} (tk : Takes X Wo) (hw : Wo cls d σ H) {Q : Flow → Shared → Prop} : wpAny (model X.prog X.w) X.A (handleBy (.ref a) X.env []) Q X.xe s := by
  refine wpAny_handleBy_nil ?_
  have out : wpAny (model X.prog X.w) X.A (setFlight (.ref a) X.env.frame) (fun _ t => wpAny (model X.prog X.w) X.A (throw (.ref a) : Sem Flow) Q X.xe t) X.xe s := by
    rw [hf]
    exact HandSPX.setFlight_upZ w.fly fun h held u => wpAny_throw (tk _ _ ⟨a, B, s0, pins, σ, H, cls, d, rfl, w.inv, w.ground, w.up.trans u, .inr (.inr held), w.free, w.os, w.bare, hw⟩)
  obtain ⟨_, _, _, oe, vs, T, _, _, h1, _, h2, h3, _⟩ := w.fly
  have noted : ¬ (Value.ref T == Value.none) = true := by simp
  show wpAny _ _ (passOn _ _ _) _ _ _
  unfold PySem.passOn
  refine wpAny_bind (wpAny_field h1 h2 h3 ?_)
  rw [if_neg noted]
  first
    | exact wpAny_bind (wpAny_pure (wpAny_bind out))
    | exact wpAny_bind out
theorem suite_out {q : Addr × Obj} {E : Ends} {f : Flow} {t : Shared} (ok : X.Ok) (sp : SP (X.suite a (q :: (X.pn ++ pins))) [] E f t) : SP X pins E f t := by
  cases f with
  | next => exact sp.imp fun _ => Exists.imp fun _ => And.imp_left fun I => I.unsuite ok
  | brk => exact sp.imp fun _ => Exists.imp fun _ => And.imp_left fun I => I.unsuite ok
  | cont => exact sp.imp fun _ => Exists.imp fun _ => And.imp_left fun I => I.unsuite ok
  | ret u => exact sp.imp fun _ => Exists.imp fun _ => Exists.imp fun _ => And.imp_left fun I => I.unsuite ok
/-- the clause's name goes -/
theorem name_gone {D : Ends} {f : Flow} {t : Shared} {j : Nat} {n : Str} {pos : Pos} {M : Model} {A : Around} {E : Value → Shared → Prop} (hN : X.N.Nodup) (hi : X.N[j]? = some n) (hl : X.env.kindOf n = some .local) (sp : SP X pins (unI D (some j)) f t) :
    wpAny M A (do bindName X.env n .none; unbindBehindTheSuite X.env n pos) (fun _ t' => SP X pins D f t') E t := by
  cases f with
  | next => obtain ⟨σ', H', I, h⟩ := sp; exact gone_ok I hN hi hl fun _ J => ⟨_, _, J, h⟩
  | brk => obtain ⟨σ', H', I, h⟩ := sp; exact gone_ok I hN hi hl fun _ J => ⟨_, _, J, h⟩
  | cont => obtain ⟨σ', H', I, h⟩ := sp; exact gone_ok I hN hi hl fun _ J => ⟨_, _, J, h⟩
  | ret u => obtain ⟨v, σ', H', I, r, h⟩ := sp; exact gone_ok I hN hi hl fun _ J => ⟨v, _, _, J, r, h⟩
/-- a clause's class, while the exception is handled -/
theorem Down.asks (w : Down X pins σ H cls d a B s0 s) (hs : X.stack = X.env :: X.outer) (hf : X.env.frame = some X.env.locals) {nm : Str} {c : Value} {np : Pos} (is : Names X nm c) {Q E : Value → Shared → Prop} (k : Q c s) :
    wpAny (model X.prog X.w) (X.A.mark (some (.ref a))) (eval (.Name nm np) X.env) Q E s := by
  obtain ⟨oe, h1, _, h3⟩ := w.obj
  have I := w.enter hs hf h1 h3
  rcases is with ⟨glob, nodbg, known | ⟨known, boot, notNone⟩⟩
  · exact ld_glob (X := X.suite a _) I glob known k nodbg
  · exact ld_blt (X := X.suite a _) I glob known boot k notNone nodbg
/-- the clauses one after the other -/
theorem Down.handled (w : Down X pins σ H cls d a B s0 s) (hs : X.stack = X.env :: X.outer) (hf : X.env.frame = some X.env.locals) (hN : X.N.Nodup) {Wo : WX} (tk : Takes X Wo) {D : Ends} {ks : List ExceptHandler} {l : List Cls1} (hk : HdAny X ks l) :
    wAny X.K Wo D l cls d σ H → wpAny (model X.prog X.w) X.A (handleBy (.ref a) X.env ks) (SP X pins D) X.xe s := by
  induction hk with
  | nil => exact fun hw => w.goesOn hf tk hw
  | @cons nm c i nn ts b₀ suite np pos' more l' is place runs _ ih =>
    rintro ⟨b, meets, yes, no⟩
    refine wpAny_handleBy_cons (codeAny_handlers_test (w.asks hs hf is ?_)) (fun q => nomatch q)
    obtain ⟨oe, here, z, _⟩ := w.obj
    have kind : PySem.W.Looks (model X.prog X.w) s.heap (typeOf (.ref a)) cls := fun _ _ _ _ k q => wpAny_typeOf_ref (k _ _ here) (z.1.symm ▸ q)
    refine (PySem.W.exm_one w.now.kIn kind meets).here ?_
    match b, yes, no with
    | false, _, no => exact ih (no rfl)
    | true, yes, _ =>
      match nn, i, place with
      | none, none, _ =>
        refine codeAny_handlers_suite (w.quiet fun t w' => ?_)
        obtain ⟨oe', here', z', fl'⟩ := w'.obj
        exact wpAny_mono ((runs a oe' cls d (X.pn ++ pins) z' fl').run [] _ _ H _ (w'.enter hs hf here' fl') (yes rfl a w.free)) (fun f t' sp => suite_out w.inv.ok sp) fun _ _ => False.elim
      | some n, some j, ⟨at_, loc⟩ =>
        refine codeAny_handlers_suite_as (w.quiet fun t w' => ?_)
        obtain ⟨oe', here', z', fl'⟩ := w'.obj
        refine store_ok (X := X.suite a _) (v := .ref a) (w'.enter hs hf here' fl') hN at_ (.inl loc) rfl (fun t2 I2 => ?_) (.inr loc)
        exact wpAny_mono ((runs a oe' cls d (X.pn ++ pins) z' fl').run [] t2 _ H _ I2 (yes rfl a w.free)) (fun f t' sp => name_gone hN at_ loc (suite_out w.inv.ok sp)) fun _ _ => False.elim
end
end Kn
namespace Kn
open PySem PySem.Spec PyProof.Rows
open L2 hiding St
/-- an own class by its name -/
structure ClsIn (K : PySem.W.Frag) (nm : Str) (C : Addr) : Prop where
  at_ : PySem.W.nsIn K mainGlobals nm = some (some (.ref C))
  ins : C8.InsC K C
  mks : PySem.W.makesIn K C = true
  kp : PySem.W.keepIn K (.ref C) = true
  rd : ClX.CRead K C (.type "type")
  ne : PySem.W.findIn K (.ref C) "__ne__" = some (some (.builtin "object.__ne__"))
theorem kit_self {K : PySem.W.Frag} {C : Addr} : PySem.W.kitOne K (.ref C) (.ref C) = some true := by
  unfold PySem.W.kitOne
  exact if_pos (by simp)
theorem cls_in {K : PySem.W.Frag} {m : Str} {C : Addr} (h1 : PySem.W.nsIn K mainGlobals m = some (some (.ref C))) (h2 : PySem.W.isClsIn K C = true) (h3 : PySem.W.typeIn K (.ref C) = some (.type "type")) :
    ∃ C, PySem.W.nsIn K mainGlobals m = some (some (.ref C)) ∧ PySem.W.isClsIn K C = true ∧ PySem.W.typeIn K (.ref C) = some (.type "type") := ⟨C, h1, h2, h3⟩
/-- what kitOne and exmOne ask of a class -/
theorem kit_of_sub {K : PySem.W.Frag} {t : Value} {B : Addr} {b : Bool} (ne : t ≠ .ref B) (bcl : PySem.W.isClsIn K B = true) (bty : PySem.W.typeIn K (.ref B) = some (.type "type")) (sup : PySem.W.subIn K t (.ref B) = some b) : PySem.W.kitOne K t (.ref B) = some b := by
  unfold PySem.W.kitOne
  rw [if_neg (by simpa using ne)]
  have e1 : ((PySem.W.clsIn K B).isSome && PySem.W.typeIn K (.ref B) == some (.type "type")) = true := by
    rw [bty]
    rw [show (PySem.W.clsIn K B).isSome = true from bcl]
    rfl
  show (if ((PySem.W.clsIn K B).isSome && PySem.W.typeIn K (.ref B) == some (.type "type")) = true then _ else _) = _
  rw [if_pos e1]
  exact sup
/-- an int under a module's name -/
def IntIn (K : PySem.W.Frag) (nm : Str) (i : Int) : Prop := ∃ t, PySem.W.nsIn K mainGlobals nm = some (some (.int i t))
theorem IntIn.glob {K : PySem.W.Frag} {mg : Str → Option Value} {nm : Str} {i : Int} (h : IntIn K nm i) (T : TopOf K mg) : GlobD K mg nm (.int i) := by
  obtain ⟨t, a⟩ := h
  exact ⟨.int i, .int i t, T.is a, ⟨t, rfl⟩, fun G => .int i⟩
/-- a def of it -/
structure MethIn (K : PySem.W.Frag) (C : Addr) (m qual : Str) (st : Stmt) : Prop where
  ex : ∃ (f : Addr) (fd : FuncData), Meth K C m f ∧ L2.Fun K m qual st f fd
/-- a def of it with one default -/
structure MethInD (K : PySem.W.Frag) (C : Addr) (m qual : Str) (st : Stmt) (n : Nat) : Prop where
  ex : ∃ (f : Addr) (fd : FuncData) (dvs : List V), dvs.length = n ∧ dvs ≠ [] ∧ Meth K C m f ∧ L2.FunD K m qual (defArgs st) (defBody st) (defScope st) dvs [] f fd
/-- a classmethod of it -/
structure CMethIn (K : PySem.W.Frag) (C : Addr) (m qual : Str) (st : Stmt) : Prop where
  ex : ∃ (p f : Addr) (fd : FuncData), ClX.CMet K C (.type "type") m p f ∧ L2.Fun K m qual st f fd
section
variable {K : PySem.W.Frag} {C : Addr} {m qual : Str} {st : Stmt}
/-- one default that is an object of the text -/
theorem methD_in {f T d : Addr} {o : Obj} {n : Nat} {oc : Value} {od an : Option Addr} {osl : Array (Option Value)} {kV doc pm cdv ct : Value} (h1 : PySem.W.findIn K (.ref C) m = some (some (.ref f))) (h2 : PySem.W.isFn K (.ref f) = true)
    (l : K.lookup f = some ⟨oc, od, .func (PySem.W.fnOf m qual (defArgs st) (defBody st) (defScope st) (.ref T) kV doc pm an cdv ct), osl⟩) (c : PySem.W.codeIn K cdv qual = true) (k : PySem.W.keepIn K (.ref f) = true)
    (lT : K.lookup T = some o) (hT : o.data = .seq #[.ref d] n) : MethInD K C m qual st 1 :=
  ⟨f, _, [.ref d], rfl, (fun e => nomatch e), ⟨h1, h2, k⟩, ⟨⟨oc, od, _, kV, doc, pm, an, cdv, ct, osl, rfl, l, c, .inr ⟨(fun e => nomatch e), T, o, [.ref d], n, rfl, lT, hT, .cons rfl .nil⟩, .inl rfl⟩, k⟩⟩
/-- how the arguments of a method bind -/
def MBindsAs (m qual : Str) (st : Stmt) (ps : List Str) : Prop := ∀ (kV doc pm : Value) (an : Option Addr) (cdv ct : Value) (us : List Value), us.length = ps.length →
  bindArgs (PySem.W.fnOf m qual (defArgs st) (defBody st) (defScope st) .none kV doc pm an cdv ct) ⟨us, []⟩ = pure (ps.zip us)
/-- .. with defaults that are not wanted -/
def MBindsD (m qual : Str) (st : Stmt) (ps : List Str) (n : Nat) : Prop := ∀ (T : Addr) (kV doc pm : Value) (an : Option Addr) (cdv ct : Value) (us its : List Value), us.length = ps.length → its.length = n →
  ∃ k, bindArgs (PySem.W.fnOf m qual (defArgs st) (defBody st) (defScope st) (.ref T) kV doc pm an cdv ct) ⟨us, []⟩ = seqItems? (.ref T) >>= k ∧ k (some its.toArray) = pure (ps.zip us)
theorem mbinds {ps : List Str} {f : Addr} {fd : FuncData} (F : L2.Fun K m qual st f fd) (h : MBindsAs m qual st ps) : Binds K fd ps [] := by
  obtain ⟨oc, od, kV, doc, pm, an, cdv, ct, osl, rfl, _, _⟩ := F.ex
  exact Binds.all fun us hl => h _ _ _ _ _ _ us hl
theorem mbindsD {ps : List Str} {f : Addr} {fd : FuncData} {dvs : List V} (F : L2.FunD K m qual (defArgs st) (defBody st) (defScope st) dvs [] f fd) (hd : dvs ≠ []) (h : MBindsD m qual st ps dvs.length) : Binds K fd ps [] := by
  obtain ⟨ds, hv, hb⟩ := F.binds1 (ps := ps) ps.length dvs.length hd (by omega) fun T kV doc pm an cdv ct us its h1 h2 => by
    obtain ⟨k, e1, e2⟩ := h T kV doc pm an cdv ct us its h1 h2
    exact ⟨k, e1, by rw [← h2, List.drop_length, List.append_nil]; exact e2⟩
  rw [List.drop_length] at hv
  cases hv
  exact hb
section
variable {P : Program} {w : World} {mg : Str → Option Value} {base : Heap} {g : Bool} {k : Nat} {ps : List Str} {S : SpecT} {nm : Str}
theorem mcal_of (D : MethIn K C m qual st) (b : MBindsAs m qual st ps) (h : ∀ f fd, L2.Fun K m qual st f fd → Fn P w K mg base g k f fd ps S) : MCal P w K mg base g k C m S [] := by
  obtain ⟨f, fd, hm, F⟩ := D.ex
  exact ⟨f, fd, ps, [], [], hm, h f fd F, mbinds F b, .nil, fun _ => .nil⟩
theorem mkc_ofD {n : Nat} (I : ClsIn K nm C) (D : MethInD K C "__init__" qual st n) (b : MBindsD "__init__" qual st ps n) (h : ∀ f fd, FunX K "__init__" qual st f fd → Fn P w K mg base false k f fd ps S) : MkC P w K mg base k C S [] := by
  obtain ⟨f, fd, dvs, hl, hd, hm, F⟩ := D.ex
  subst hl
  exact ⟨f, fd, ps, [], [], ⟨I.mks, hm.at_, hm.fn, I.kp⟩, h f fd (funX_ofD F), mbindsD F hd b, .nil, fun _ => .nil⟩
theorem eqc_of (I : ClsIn K nm C) (D : MethIn K C "__eq__" qual st) (b : MBindsAs "__eq__" qual st ps) (h : ∀ f fd, L2.Fun K "__eq__" qual st f fd → Fn P w K mg base false k f fd ps S) : EqC P w K mg base k C S := by
  obtain ⟨f, fd, hm, F⟩ := D.ex
  exact ⟨⟨f, fd, ps, hm.at_, hm.fn, h f fd F, mbinds F b⟩, I.ne, I.ins.hm⟩
end
end
end Kn
namespace Kn
open PySem PySem.Spec PyProof.Rows
open L2 hiding St
end Kn
namespace KnX
open PySem PySem.Spec PyProof.Rows L2
/-- an exception that a call within X let out -/
def Flies (X : Cx) (W : XK) (u : Value) (t : Shared) : Prop :=
  ∃ (a : Addr) (B : Heap) (s0 : Shared) (pins : List (Addr × Obj)) (σ : L2.St) (H : Hp) (cls : Value) (d : Option Addr), u = .ref a ∧ Kn.Down X pins σ H cls d a B s0 t ∧ W cls d H
/-- a traced exception's note -/
theorem traced_note {h B B' : Heap} {a : Addr} {Z Z' : Obj → Prop} {x y : Value} (p : HandSPX.TracedZ h B a Z x) (q : HandSPX.TracedZ h B' a Z' y) : x = y := by
  obtain ⟨o1, f1, T1, p1, t1, a1, _, a2, a3, _, _, a4, a5, a6⟩ := p
  obtain ⟨o2, f2, T2, p2, t2, b1, _, b2, b3, _, _, b4, b5, b6⟩ := q
  obtain rfl : o1 = o2 := Option.some.inj (a1.symm.trans b1)
  obtain rfl : f1 = f2 := by rw [a2] at b2; cases b2; rfl
  obtain rfl : T1 = T2 := by rw [a3] at b3; cases b3; rfl
  obtain rfl := Option.some.inj (a4.symm.trans b4)
  rw [a5] at b5
  cases b5
  exact Option.some.inj (a6.symm.trans b6)
/-- of all that may be in the air, a call lets out what flies -/
theorem Flies.of_call {X : Cx} {pins : List (Addr × Obj)} {σ : L2.St} {H : Hp} {s s' : Shared} {E W : XK} (I : Inv X pins σ H s) (hW : ∀ cls d H', E cls d H' → W cls d H') {u : Value} (c : L2.CX X.prog X.w X.stack H s E u s') : Flies X W u s' := by
  have x : XE X (fun cls d _ H' => W cls d H') u s' := XE.of_call I hW c
  obtain ⟨a, B, s0, pins', σ', H', cls, d, same, J, ground, up, sky, free, os, bare, want⟩ := x
  obtain ⟨a', _, _, _, _, same', fly, _⟩ := c
  obtain rfl : a = a' := Value.ref.inj (same.symm.trans same')
  have noted := fly.2.2.2
  refine ⟨a, B, s0, pins', σ', H', cls, d, same, ⟨J, ground, ?_, up, free, os, bare⟩, want⟩
  rcases sky with ⟨_, _, _, oe, vs, here, _, data, bare1⟩ | flying | held
  · obtain ⟨oe', vs', T, _, _, here', _, data', traced, _⟩ := noted
    obtain rfl : oe = oe' := Option.some.inj (here.symm.trans here')
    rw [data] at data'
    cases data'
    rw [bare1] at traced
    cases traced
  · exact flying
  · have z := traced_note noted held.2.2.2
    cases z
/-- the context of a block whose exceptions come to xe -/
abbrev blkE (X : Cx) (s : Shared) (H : Hp) (scope : Scope) (ce : Env) (fp : List Addr) (xe : Value → Shared → Prop) : Cx := { X.blk s H scope ce fp with xe := xe }
section
variable {X : Cx} {xe xe' : Value → Shared → Prop} {s0 s : Shared} {H H0 : Hp} {scope : Scope} {ce : Env} {fp : List Addr} {pins : List (Addr × Obj)} {σ : L2.St}
theorem ok_blkE (I : (blkE X s H scope ce fp xe).Ok) : (blkE X s H scope ce fp xe').Ok :=
  ⟨I.mod, I.kind, I.glob, I.blt, I.above, I.inj, I.has, I.cab, I.hd, I.frames, I.stk, I.exf, I.bs, I.bsz, I.noex, I.exfs, I.funs, I.frf⟩
theorem inv_blkE (I : Inv (blkE X s0 H0 scope ce fp xe) pins σ H s) : Inv (blkE X s0 H0 scope ce fp xe') pins σ H s :=
  ⟨ok_blkE I.ok, I.os, I.bare, I.base, I.loc, I.cell, I.free, I.freeC, I.pin, I.hok, I.len⟩
end
end KnX
namespace KnX
open PySem PySem.Spec PyProof.Rows L2
/-- an empty one at D; what it wants so that y may go into the one at D -/
structure Bag where
  new : Addr → HO
  put : Addr → V → L2.St → Hp → (Hp → Prop) → Prop
/-- one turn of a comprehension's loop -/
def OneTurn (X : Cx) (tg elt : Expr) (ifs : List Expr) (it : Value) (ce : Env) (act : Value → (Shared → Prop) → (Value → Shared → Prop) → Shared → Prop) (R : Result → Shared → Prop) (N : Shared → Prop) : Shared → Prop :=
  let M := model X.prog X.w
  let bad : Value → Shared → Prop := notedBy M X.A ce fun u t => R (.error u) t
  let store := fun (v : Value) (k : Shared → Prop) => wpAny M X.A (letOwnedTupleGo tg it v) (fun _ t => wpAny M X.A (assign tg ce v) (fun _ => k) bad t) bad
  let test := fun (k : Bool → Shared → Prop) => wpAny M X.A (forIn ifs true fun c r => if r = true then do let ok ← isTrue c ce (eval c ce); pure (ForInStep.yield ok) else pure (ForInStep.yield r)) k bad
  wpAny M X.A (pyNext it) (fun r t => match r with
    | none => R (.ok .next) t
    | some v => store v (test fun ok t => if ok = true then wpAny M X.A (eval elt ce) (fun x => act x N bad) bad t else N t) t) bad
/-- the form of a comprehension: how its container is made, filled, and how its loop runs -/
structure Form (X : Cx) (e tg elt : Expr) (iter : Expr) (ifs : List Expr) (b : Bag) (mk : Sem Value) (act : Around → Env → Addr → Value → (Shared → Prop) → (Value → Shared → Prop) → Shared → Prop) (al : Cx → Prop) : Prop where
  clauses : clausesOf e = [⟨tg, iter, ifs, 0⟩]
  made : ∃ o : Obj, (∀ (H : Hp) (h : Heap), sysModules < h.objs.size → ObjOk X.prog X.w (upd H h.objs.size (b.new h.objs.size)) (h.push o) h.objs.size (b.new h.objs.size)) ∧
    ∀ (E : Value → Shared → Prop) (Q : Value → Shared → Prop) (t : Shared), Q (.ref t.heap.objs.size) { t with heap := t.heap.push o } → wpAny (model X.prog X.w) X.A mk Q E t
  filled : ∀ (Y : Cx), Y.prog = X.prog → Y.w = X.w → al Y → ∀ (pins : List (Addr × Obj)) (σ : L2.St) (H : Hp) (t : Shared) (D : Addr) (y : V) (v : Value) (N : Hp → Prop) (k : Nat), k ≤ t.toks → Inv Y pins σ H t → RelV y v → b.put D y σ H N →
    act Y.A Y.env D v (fun t' => k ≤ t'.toks ∧ ∃ H', Inv Y pins σ H' t' ∧ N H') Y.xe t
  mono : ∀ {A : Around} {ce : Env} {D : Addr} {v : Value} {P P' : Shared → Prop} {E E' : Value → Shared → Prop} {t : Shared}, act A ce D v P E t → (∀ t, P t → P' t) → (∀ u t, E u t → E' u t) → act A ce D v P' E' t
  loops : ∀ (it : Value) (D : Addr) (ce : Env) (R : Result → Shared → Prop) (I : Nat → Shared → Prop), (∀ n t, I n t → OneTurn X tg elt ifs it ce (act X.A ce D) R (fun t' => ∃ m, m < n ∧ I m t') t) → ∀ n t, I n t → codeAny (model X.prog X.w) X.A (.compLoop e 0 it (.ref D) ce) R t
  starts : ∀ (it acc : Value) (ce : Env) (R : Result → Shared → Prop) (t : Shared), codeAny (model X.prog X.w) X.A (.compLoop e 0 it acc ce) R t →
    wpAny (model X.prog X.w) X.A (pyIter it) (fun it' t' => codeAny (model X.prog X.w) X.A (.compLoop e 0 it' acc ce) R t') (notedBy (model X.prog X.w) X.A ce fun u t' => R (.error u) t') t → codeAny (model X.prog X.w) X.A (.compStart e 0 it acc ce) R t
/-- e is read where k tokens are out -/
def PEk (X : Cx) (k : Nat) (e : Expr) (te : TE) : Prop := ∀ (pins : List (Addr × Obj)) (t : Shared) (σ : L2.St) (H : Hp) (Q : VK), k ≤ t.toks → Inv X pins σ H t → te σ H Q → wpAny (model X.prog X.w) X.A (eval e X.env) (EP X pins σ Q) X.xe t
theorem PEk.of {X : Cx} {k : Nat} {e : Expr} {te : TE} (h : PE X e te) : PEk X k e te := fun pins t σ H Q _ I q => h.run pins t σ H Q I q
structure Mid (Y : Cx) (k : Nat) (fp : List Addr) (tn : Nat → Heap → Prop) (σ : L2.St) (i : Nat) (H : Hp) (t : Shared) : Prop where
  inv : Inv Y [] σ H t
  toks : k ≤ t.toks
  at_ : tn i t.heap
  free : ∀ b ∈ fp, H b = none
section
variable {X : Cx} {s0 : Shared} {H0 : Hp} {scope : Scope} {ce : Env} {fp : List Addr} {tn : Nat → Heap → Prop} {σ : L2.St} {i : Nat} {H : Hp} {t : Shared} {tg elt iter : Expr} {ifs : List Expr} {J : It} {it : Addr} {k : Nat}
/-- the iterator's objects may turn within the block -/
theorem foot {pins : List (Addr × Obj)} {xe : Value → Shared → Prop} (I : Inv (blkE X s0 H0 scope ce fp xe) [] σ H t) (f : ∀ b ∈ fp, H b = none) : ∀ b ∈ fp, FpOk (blkE X s0 H0 scope ce fp xe) [] H b := fun b hb => by
  obtain ⟨notL, notC⟩ := I.ok.exf b hb
  refine ⟨f b hb, notL, I.ok.exfs b hb, .inl hb, fun x c => notC x c, fun p hp => ?_⟩
  cases hp
/-- a turn's body is done: the next may come -/
theorem Mid.next {xe : Value → Shared → Prop} {vs : List Nat} {τ : L2.St} {h7 : Heap} (T : Turn X.prog X.w X.K tg J fp it tn) (at_ : tn (i + 1) h7) (hw : wipe τ vs = wipe σ vs) (tk : k ≤ t.toks) (I : Inv (blkE X s0 H0 scope ce fp xe) ([] ++ pinsAt fp h7) τ H t) :
    Mid (blkE X s0 H0 scope ce fp (fun _ _ => False)) k fp tn (wipe σ vs) (i + 1) H t := by
  have stays : ∀ b ∈ fp, ∀ o, h7.get? b = some o → t.heap.get? b = some o ∧ H b = none := fun b hb o e => by
    have q := I.pin (b, o) (List.mem_append.mpr (.inr (List.mem_append.mpr (.inr (mem_pinsAt hb e)))))
    exact ⟨q.1, q.2.1⟩
  refine ⟨inv_blkE (I.unpinned (pins := [])) |>.weak ?_ fun j v e => ?_, tk, T.keep _ _ _ at_ fun b hb o e => (stays b hb o e).1, fun b hb => ?_⟩
  · rw [← hw, wipe_length]
  · rw [← hw] at e
    exact (wipe_some e).1
  · obtain ⟨o, e, _⟩ := T.obj _ _ at_ b hb
    exact (stays b hb o e).2
theorem carry {α : Type} {m : Sem α} {P Q : α → Shared → Prop} {M : Model} {A : Around} {E E' : Value → Shared → Prop} {s : Shared} (h0 : k ≤ s.toks) (h : wpAny M A m P E s) (hk : ∀ a t, k ≤ t.toks → P a t → Q a t) (he : ∀ u t, E u t → E' u t) : wpAny M A m Q E' s :=
  wpAny_mono (wpAny_toks_of h0 h) (fun a t z => hk a t z.1 z.2) fun u t z => he u t z.2
theorem sure {α : Type} {m : Sem α} {P Q : α → Shared → Prop} {M : Model} {A : Around} {E : Value → Shared → Prop} {s : Shared} (h0 : k ≤ s.toks) (h : wpAny M A m P (fun _ _ => False) s) (hk : ∀ a t, k ≤ t.toks → P a t → Q a t) : wpAny M A m Q E s := carry h0 h hk fun _ _ => False.elim
/-- the turn: the iterator stops, or an item goes through the body -/
theorem Mid.turn {xe : Value → Shared → Prop} {vs : List Nat} {e : Expr} {b : Bag} {mk : Sem Value} {act : Around → Env → Addr → Value → (Shared → Prop) → (Value → Shared → Prop) → Shared → Prop} {al : Cx → Prop} {g : TG} {tt : TT} {te : TE} {D : Addr} {QQ : Prop} {R : Result → Shared → Prop} {N : Shared → Prop} (F : Form X e tg elt iter ifs b mk act al) (T : Turn X.prog X.w X.K tg J fp it tn) (hc : X.calm = true)
    (pg : PG (blkE X s0 H0 scope ce fp xe) tg g) (pt : PTs (blkE X s0 H0 scope ce fp xe) ifs tt) (pe : PEk (blkE X s0 H0 scope ce fp xe) k elt te) (pa : al (blkE X s0 H0 scope ce fp xe)) (m : Mid (blkE X s0 H0 scope ce fp (fun _ _ => False)) k fp tn (wipe σ vs) i H t)
    (go : (J.stop i H ∧ QQ) ∨ (J.go i H ∧ ∃ N' : Hp → Prop, (∀ H' t', N' H' → Mid (blkE X s0 H0 scope ce fp (fun _ _ => False)) k fp tn (wipe σ vs) (i + 1) H' t' → N t') ∧ ∀ x G, J.yld i H x G → g x (wipe σ vs) G fun τ G2 => wipe τ vs = wipe σ vs ∧ tt τ G2 fun ok G3 => if ok = true then te τ G3 fun y G4 => b.put D y τ G4 N' else N' G3))
    (out : QQ → ∀ t', Inv (blkE X s0 H0 scope ce fp (fun _ _ => False)) [] (wipe σ vs) H t' → R (.ok .next) t') (air : ∀ u t', xe u t' → notedBy (model X.prog X.w) X.A ce (fun u t => R (.error u) t) u t') : OneTurn X tg elt ifs (.ref it) ce (act X.A ce D) R N t := by
  have ft := foot (pins := []) m.inv m.free
  rcases go with ⟨stop, q⟩ | ⟨go, N', more, step⟩
  · refine sure m.toks (T.done (blkE X s0 H0 scope ce fp _) rfl rfl rfl hc i [] t _ H (fun _ _ => False) m.inv ft m.at_ stop) fun r t' _ ⟨hr, I⟩ => ?_
    subst hr
    exact out q t' I
  · refine sure m.toks (T.item (blkE X s0 H0 scope ce fp _) rfl rfl rfl hc i [] t _ H (fun _ _ => False) m.inv ft m.at_ go) fun r t1 k1 ⟨u, hr, h1⟩ => ?_
    subst hr
    refine sure k1 h1 fun _ t2 k2 ⟨x, G, I2, rx, y2, at2, n2⟩ => ?_
    have pinned : Inv (blkE X s0 H0 scope ce fp xe) ([] ++ pinsAt fp t2.heap) _ G t2 := inv_blkE (I2.pinned (foot (pins := []) I2 n2) (T.obj _ _ at2))
    refine carry k2 (pg.run _ t2 _ G x u _ pinned rx (step x G y2)) (fun _ t3 k3 ⟨τ, G3, I3, same, q3⟩ => ?_) air
    refine carry k3 (pt.run _ t3 τ G3 _ I3 q3) (fun ok t4 k4 ⟨G4, I4, q4⟩ => ?_) air
    cases ok with
    | false => exact more G4 t4 q4 (Mid.next T at2 same k4 I4)
    | true =>
      refine carry k4 (pe _ t4 τ G4 _ k4 I4 q4) (fun z t5 k5 ⟨y, G5, I5, ry, q5⟩ => ?_) air
      exact F.mono (F.filled (blkE X s0 H0 scope ce fp xe) rfl rfl pa _ τ G5 t5 D y z N' k k5 I5 ry q5) (fun t6 ⟨k6, G6, I6, q6⟩ => more G6 t6 q6 (Mid.next T at2 same k6 I6)) air
end
end KnX
namespace Kn
open PySem PySem.Spec PyProof.Rows
open L2 hiding St
end Kn
namespace Kn
open PySem PySem.Spec PyProof.Rows
open L2 hiding St
/-- the class at C is what the module calls nm -/
def clsAt (K : PySem.W.Frag) (nm : Str) (C : Addr) : Prop := PySem.W.nsIn K mainGlobals nm = some (some (.ref C))
theorem at_inj {K : PySem.W.Frag} {nm : Str} {C C' : Addr} (h : clsAt K nm C) (h' : clsAt K nm C') : C = C' := by
  have e := h.symm.trans h'
  cases e
  rfl
theorem eqD_str (y z : Str) : eqD (.str y) (.str z) = decide (y = z) := by
  show PyData.eqv (.str y) (.str z) = _
  unfold PyData.eqv
  by_cases h : y = z
  · subst h; simp
  · simp [h]
theorem eqA_cons (a b : Dat) (as bs : List Dat) : PyData.eqvAll (toPys (a :: as)) (toPys (b :: bs)) = (eqD a b && PyData.eqvAll (toPys as) (toPys bs)) := by
  show PyData.eqvAll (toPy a :: toPys as) (toPy b :: toPys bs) = _
  rw [PyData.eqvAll]
  rfl
theorem eqA_nil : PyData.eqvAll (toPys []) (toPys []) = true := by
  show PyData.eqvAll [] [] = true
  rw [PyData.eqvAll]
theorem eqA_cn (a : Dat) (as : List Dat) : PyData.eqvAll (toPys (a :: as)) (toPys []) = false := by
  show PyData.eqvAll (toPy a :: toPys as) [] = false
  rw [PyData.eqvAll]
  all_goals first | rfl | (intros; simp_all)
theorem eqA_nc (a : Dat) (as : List Dat) : PyData.eqvAll (toPys []) (toPys (a :: as)) = false := by
  show PyData.eqvAll [] (toPy a :: toPys as) = false
  rw [PyData.eqvAll]
  all_goals first | rfl | (intros; simp_all)
theorem eqD_tup (as bs : List Dat) : eqD (.tup as) (.tup bs) = PyData.eqvAll (toPys as) (toPys bs) := by
  show PyData.eqv (.tuple (toPys as)) (.tuple (toPys bs)) = _
  rw [PyData.eqv]
end Kn
namespace Kn
open PySem PySem.Spec PyProof.Rows
open L2 hiding St
end Kn
namespace Kn
open PySem PySem.Spec PyProof.Rows
open L2 hiding St
end Kn
namespace Kn
open PySem PySem.Spec PyProof.Rows
open L2 hiding St
end Kn
namespace Kn
open PySem PySem.Spec PyProof.Rows
open L2 hiding St
end Kn
namespace Kn
open PySem PySem.Spec PyProof.Rows
open L2 hiding St
section
variable {X : Cx} {O : Own} {ρ : List Slot} {x : ExK} {kl kl' : List Slot → Own → Prop} {e a b c o : Expr} {es : List Expr} {pos p : Pos} {D : SD}
theorem aw_starL (h : EW X O ρ e x fun s O1 => ∃ ds, s = .dat (.lst ds) ∧ AW X O1 ρ es x fun ss O2 => kl (ds.map .dat ++ ss) O2) (hs : starEach (.Starred e p :: es) X.env = (true, eval e X.env) :: starEach es X.env := by rfl) : AW X O ρ (.Starred e p :: es) x kl := fun H0 σ H st tk Q q => by
  refine wa_of (StX.pa_star pe_w pa_w hs) (h H0 σ H st tk _ fun v H1 s O1 ⟨ds, e1, h1⟩ st1 r1 => ?_)
  subst e1
  cases r1 with
  | lst h2 h3 =>
    refine ⟨_, _, rfl, .inr (sql_at (hid_le _ _ h2)), h1 (hid O1 H1) σ H1 st1.top (takes_base tk st1.base) _ fun vs H2 ss O2 hk st2 r2 => ?_⟩
    exact q _ H2 _ O2 hk (st2.rebase st1.base) (paired_app (pmap (fun _ _ z => SlOk.mono st2.base z) h3.paired) r2)
end
end Kn
namespace Kn
open PySem PySem.Spec PyProof.Rows
open L2 hiding St
section
variable {X : Cx} {O : Own} {ρ : List Slot} {x : ExK} {k : Slot → Own → Prop} {tg iter tg1 iter1 : Expr} {pos : Pos} {D : SD}
theorem map_take {α β : Type} (f : α → β) : ∀ (l : List α) (i : Nat) (a : α), l[i]? = some a → (l.take (i + 1)).map f = (l.take i).map f ++ [f a]
  | [], i, a, h => by cases h
  | b :: l, 0, a, h => by cases h; simp
  | b :: l, i + 1, a, h => by
    rw [List.take_succ_cons, List.map_cons, List.take_succ_cons, List.map_cons, map_take f l i a h, List.cons_append]
theorem StOk.outer {K : PySem.W.Frag} {H0 H1 H2 : Hp} {O1 O2 : Own} {σ σ' : SV} {ρ ρ' : List Slot} (st1 : StOk K H0 O1 σ ρ H1) (st2 : StOk K (hid O1 H1) O2 σ' ρ' H2) : StOk K (hid O1 H1) O2 σ ρ H2 := ⟨st2.own, st2.base, pmap (fun _ _ z => EnvOk.mono st2.base z) st1.env⟩
theorem StOk.push {K : PySem.W.Frag} {H0 H : Hp} {O : Own} {σ : SV} {ρ : List Slot} {Dd : Addr} {acc : List Slot} {xs : List V} {u : V} {s : Slot} (st : StOk K H0 (up O Dd (.lst acc)) σ ρ H) (c : H Dd = some (.lst xs)) (c2 : Paired (SlOk K (hid (up O Dd (.lst acc)) H)) xs acc) (r : SlOk K (hid (up O Dd (.lst acc)) H) u s) :
    StOk K H0 (up O Dd (.lst (acc ++ [s]))) σ ρ (upd H Dd (.lst (xs ++ [u]))) := by
  have st6 := st.write (o := .lst (xs ++ [u])) (c := .lst (acc ++ [s])) up_at ⟨_, rfl, paired_app c2 (.cons r .nil)⟩
  rw [up_up] at st6
  exact st6
end
end Kn
namespace Kn
open PySem PySem.Spec PyProof.Rows
open L2 hiding St
def ItO (K : PySem.W.Frag) (J : It) (p : Addr) (ds fds : List Dat) : Prop := ∀ O H, OwnOk K O H → O p = some (.lst (ds.map .dat)) → ∀ i,
  (∀ d, fds[i]? = some d → J.go i H ∧ ∀ v H', J.yld i H v H' → Same H H' ∧ Rp K (hid O H') v d) ∧ (fds[i]? = none → J.stop i H)
theorem own_list {K : PySem.W.Frag} {O : Own} {H : Hp} {p : Addr} {ds : List Dat} (ok : OwnOk K O H) (hp : O p = some (.lst (ds.map .dat))) : ∃ xs, H p = some (.lst xs) ∧ RpA K (hid O H) xs ds := by
  obtain ⟨o, h1, xs, rfl, h2⟩ := ok.cell p _ hp
  exact ⟨xs, h1, RpA.of_paired h2⟩
theorem ito_list {K : PySem.W.Frag} {p : Addr} {ds : List Dat} : ItO K (Itl K p) p ds ds := fun O H ok hp i => by
  obtain ⟨xs, h1, r⟩ := own_list ok hp
  have hS : SqL K H p xs := sql_at h1
  refine ⟨fun d hd => ?_, fun hn => ⟨xs, hS, ?_⟩⟩
  · obtain ⟨v, e1, e2⟩ := r.get hd
    refine ⟨⟨xs, v, hS, e1⟩, fun v' H' hy => ?_⟩
    obtain ⟨rfl, hv⟩ := hy
    obtain rfl : v = v' := Option.some.inj (e1.symm.trans (hv xs hS))
    exact ⟨Same.refl _, e2⟩
  · rw [r.length]; exact List.getElem?_eq_none_iff.mp hn
section
variable {X : Cx} {O : Own} {ρ : List Slot} {x : ExK} {k : Slot → Own → Prop} {tg iter e : Expr} {pos p : Pos} {D : SD} {sts : List Stmt}
def IWO (X : Cx) (O : Own) (ρ : List Slot) (tg iter : Expr) (x : ExK) (k : Addr → List Dat → List Dat → Own → Prop) : Prop :=
  ∀ H0 σ H, StOk X.K H0 O σ ρ H → Takes X (Wsem X.K H0 x) → ∀ R : It → Hp → Prop, (∀ J H' p ds fds O', k p ds fds O' → StOk X.K H0 O' σ ρ H' → ItO X.K J p ds fds → R J H') → Wi X tg iter σ H R
theorem iwo_list {ko : Addr → List Dat → List Dat → Own → Prop} (h : EW X O ρ e x fun s O' => ∃ p ds, s = .own p ∧ O' p = some (.lst (ds.map .dat)) ∧ ko p ds ds O') : IWO X O ρ tg e x ko := fun H0 σ H st tk R q =>
  wi_of (pi_list pe_w) (h H0 σ H st tk _ fun v H' s O' ⟨p, ds, e1, hp, h1⟩ st' r => by
    subst e1
    cases r
    obtain ⟨xs, h2, h3⟩ := own_list st'.own hp
    exact ⟨_, rfl, ⟨_, sql_at h2⟩, q _ H' p ds ds O' h1 st' ito_list⟩)
theorem s1_forO {body : List Stmt} (hpo : PassesOwn (model X.prog X.w) X.A X.env X.xe)
    (h : IWO X O ρ tg iter x fun p es ds O1 => ∃ J : Nat → List Slot → Own → Prop, J 0 ρ O1 ∧ (∀ i ρ' O', J i ρ' O' → O' p = some (.lst (es.map .dat))) ∧
      (∀ i d ρ' O', J i ρ' O' → ds[i]? = some d → GW X O' ρ' tg (.dat d) x fun ρ2 O2 => SW X O2 ρ2 body x { nx := J (i + 1), rt := D.rt, bk := D.nx, ct := J (i + 1) }) ∧
      ∀ ρ' O', J ds.length ρ' O' → D.nx ρ' O')
    (hc : X.calm = true := by rfl) (hs : ∀ x, foldedSetIterable iter X.env x = pure x := by intro _; rfl) : S1 X O ρ (.For tg iter body [] pos) x D := fun H0 σ H st tk E ok => by
  refine ws_of (ps_for hpo hc pi_w pg_w pss_w hs) (h H0 σ H st tk _ fun J0 H1 p es ds O1 ⟨J, j0, jo, js, je⟩ st1 it => ?_)
  have tkB := takes_base tk st1.base
  have okB := ok.base st1.base
  refine ⟨fun i m σ' H' => i + m = ds.length ∧ ∃ ρ' O', J i ρ' O' ∧ StOk X.K (hid O1 H1) O' σ' ρ' H', ⟨ds.length, by omega, ρ, O1, j0, st1.top⟩, fun i m σ' H' hW => ?_⟩
  obtain ⟨em, ρ', O', hj, st'⟩ := hW
  obtain ⟨i1, i2⟩ := it O' H' st'.own (jo i ρ' O' hj) i
  cases hd : ds[i]? with
  | none =>
    have hi : ds.length ≤ i := List.getElem?_eq_none_iff.mp hd
    obtain rfl : i = ds.length := by omega
    exact .inl ⟨i2 hd, okB.nx σ' ρ' O' H' (je ρ' O' hj) st'⟩
  | some d =>
    have hi : i < ds.length := (List.getElem?_eq_some_iff.mp hd).1
    obtain ⟨g1, g2⟩ := i1 d hd
    refine .inr ⟨g1, fun σ'' H'' => ∃ ρ'' O'', J (i + 1) ρ'' O'' ∧ StOk X.K (hid O1 H1) O'' σ'' ρ'' H'', fun σ'' H'' hN => ⟨m - 1, by omega, by omega, hN⟩, fun v H2 hy => ?_⟩
    obtain ⟨s1, r1⟩ := g2 v H2 hy
    refine js i d ρ' O' hj hd (hid O1 H1) σ' H2 v (st'.grow s1) r1 tkB _ fun σ3 H3 ρ3 O3 h3 st3 => ?_
    exact h3 (hid O1 H1) σ3 H3 st3 tkB _ ⟨fun σ4 ρ4 O4 H4 q s => ⟨ρ4, O4, q, s⟩, okB.rt, okB.nx, fun σ4 ρ4 O4 H4 q s => ⟨ρ4, O4, q, s⟩⟩
end
end Kn
namespace Kn
open PySem PySem.Spec PyProof.Rows
open L2 hiding St
/-- an own class with slots by its name -/
structure SlsIn (K : PySem.W.Frag) (nm : Str) (C : Addr) : Prop where
  at_ : PySem.W.nsIn K mainGlobals nm = some (some (.ref C))
  sc : SlX.SCls K C
  mks : PySem.W.makesIn K C = true
  kp : PySem.W.keepIn K (.ref C) = true
def SlotIn (K : PySem.W.Frag) (C : Addr) (f : Str) (i : Nat) : Prop := ∃ p, SlX.Slot1 K C f p i
theorem slot_in {K : PySem.W.Frag} {C p : Addr} {f : Str} {i : Nat} (h1 : PySem.W.findIn K (.ref C) f = some (some (.ref p))) (h2 : PySem.W.specialIn K (.ref p) "__get__" = some (some (.builtin "member_descriptor.__get__"))) (h3 : PySem.W.takesIn K (.ref p) = some true)
    (h4 : PySem.W.typeIn K (.ref p) = some (.type "member_descriptor")) (h5 : PySem.W.slotIn K p C = some i) (h6 : i < 1000) : SlotIn K C f i := ⟨p, h1, h2, h3, h4, h5, h6⟩
end Kn
namespace Kn
open PySem PySem.Spec PyProof.Rows
open L2 hiding St
end Kn
namespace Kn
open PySem PySem.Spec PyProof.Rows
open L2 hiding St
theorem RpA.reverse {K : PySem.W.Frag} {G : Hp} : ∀ {vs : List V} {ds : List Dat}, RpA K G vs ds → RpA K G vs.reverse ds.reverse
  | _, _, .nil => .nil
  | _, _, .cons h t => by
    rw [List.reverse_cons, List.reverse_cons]
    exact RpA.snoc h (RpA.reverse t)
end Kn
namespace Kn
open PySem PySem.Spec PyProof.Rows
open L2 hiding St
/-- the unlike ones of some texts, as they come -/
def stS (acc : List Str) (v : Str) : List Str := if acc.any (· == v) = true then acc else acc ++ [v]
def ddS (xs : List Str) : List Str := xs.foldl stS []
theorem stS_len (acc : List Str) (v : Str) : (stS acc v).length = if acc.any (· == v) = true then acc.length else acc.length + 1 := by
  unfold stS
  split <;> simp
theorem ddS_le : ∀ (xs acc : List Str), (xs.foldl stS acc).length ≤ acc.length + xs.length
  | [], acc => Nat.le_refl _
  | x :: xs, acc => by
    have h1 := ddS_le xs (stS acc x)
    have h2 := stS_len acc x
    have h3 : (stS acc x).length ≤ acc.length + 1 := by rw [h2]; split <;> omega
    rw [List.foldl_cons, List.length_cons]; omega
theorem any_is {acc : List Str} {v : Str} : acc.any (· == v) = true ↔ v ∈ acc := by
  rw [List.any_eq_true]
  exact ⟨fun ⟨z, hz, e⟩ => (eq_of_beq e : z = v) ▸ hz, fun h => ⟨v, h, beq_self_eq_true v⟩⟩
theorem stS_old {acc : List Str} {v : Str} (h : v ∈ acc) : stS acc v = acc := if_pos (any_is.mpr h)
theorem stS_new {acc : List Str} {v : Str} (h : v ∉ acc) : stS acc v = acc ++ [v] := if_neg fun q => h (any_is.mp q)
theorem ddS_snoc (xs : List Str) (v : Str) : ddS (xs ++ [v]) = stS (ddS xs) v := by
  show (xs ++ [v]).foldl stS [] = _
  rw [List.foldl_append]; rfl
end Kn
namespace KnS
open PySem PySem.Spec PyProof.Rows L2
open PySem.Froz (SD sObj TxOk addTx add_x add_ok is_str)
open Kn (stS ddS stS_old stS_new ddS_snoc ddS_le stS_len)
theorem stS_nodup {acc : List Str} (h : acc.Nodup) (v : Str) : (stS acc v).Nodup := by
  by_cases q : v ∈ acc
  · rw [stS_old q]; exact h
  · rw [stS_new q]
    refine List.nodup_append.mpr ⟨h, List.pairwise_singleton _ _, fun a ha b hb e => q ?_⟩
    rw [← List.mem_singleton.mp hb, ← e]; exact ha
theorem Told.tail {w : World} {ep : Nat} {es : Array (Int × Value)} {t : SetTable} {b : Bool} (h : Told w t) : Told w (PySem.Froz.tailTx ep es t b).2.2 := by
  unfold PySem.Froz.tailTx
  split
  · exact ⟨relayAll_ris _ _ _, h.2.imp id fun q => (relayAll_led _ _ _).trans q⟩
  · exact h
theorem Told.add {w : World} {D : SD} (h : Told w D.2.2) (k : Int) (v : Value) : Told w (addTx k v D).2.2 := by
  have laid : Told w (layNew D.2.2 D.1 k v).2.1 := ⟨layNew_ris _ _ _ _ h.1, h.2.imp id fun q => (layNew_led _ _ _ _).trans q⟩
  refine Told.tail ?_
  split
  · exact laid
  · exact laid
theorem TxOk.reorder {P : Program} {w : World} {D : SD} {l l' : List Str} (h : TxOk P w D l) (p : l'.Perm l) : TxOk P w D l' := ⟨h.el, fun k => p.mem_iff.trans (h.mem k), h.sz.trans p.length_eq.symm, h.fit⟩
section
variable {P : Program} {w : World} {h h' : Heap} {a : Addr} {l : List Str}
theorem TxS.keep (R : TxS P w h a l) (k : ∀ o, h.get? a = some o → h'.get? a = some o) : TxS P w h' a l := R.imp fun _ ⟨at_, r⟩ => ⟨k _ at_, r⟩
theorem TxS.there (R : TxS P w h a l) : ∃ o, h.get? a = some o := R.imp' (fun D => sObj "set" D) fun _ => And.left
/-- the new set, as the model makes it -/
def emptyS (w : World) : Obj := sObj "set" (#[], 0, .fresh 0 0 (!w.params.followText "set-order"))
theorem TxS.new (k : h.get? a = some (emptyS w)) : TxS P w h a [] := by
  refine ⟨_, k, PySem.Froz.TxOk.nil rfl, List.nodup_nil, List.Pairwise.nil, ?_⟩
  show _ ∨ (!w.params.followText "set-order") = true
  cases w.params.followText "set-order" <;> simp
end
section
variable {P : Program} {w : World} {A : Around} {E : Value → Shared → Prop} {s : Shared} {a : Addr} {l : List Str}
/-- a text that is in it already -/
theorem add_old {D : SD} {k : Str} {u : Tok} {Q : Bool → Shared → Prop} (at_ : s.heap.get? a = some (sObj "set" D)) (F : TxOk P w D l) (hk : k ∈ l) (few : l.length < scanBound) (q : Q false s) : wpAny (model P w) A (setAddHashed a (.str k u) (hashStr w k)) Q E s := by
  obtain ⟨es, ep, t⟩ := D
  have few' : es.size < scanBound := by rw [show es.size = l.length from F.sz]; exact few
  unfold setAddHashed setAddHashedIn
  apply wpAny_holding
  apply wpAny_bind
  refine wpAny_setState_of at_ rfl F.fit ?_
  dsimp only
  rw [byScan_of (knd := strKind P w) rfl few' F.el]
  unfold setAddByScan
  simp only [if_true]
  apply wpAny_bind
  apply wpAny_bind
  apply wpAny_rule
  apply wpAny_bind
  refine wpAny_setScan_of (knd := strKind P w) (k := k) (is_str k u) at_ rfl F.fit F.el ?_
  rcases met : List.findIdx? (fun e => (strKind P w).is k e.2) es.toList with _ | j
  · obtain ⟨e, he, z⟩ := (F.mem k).mp hk
    have no := List.findIdx?_eq_none_iff.mp met e he
    rw [z] at no
    cases no
  · rw [met]
    exact wpAny_pure (wpAny_pure q)
theorem add_any {k : Str} {u : Tok} {Q : Bool → Shared → Prop} (R : TxS P w s.heap a l) (few : l.length + 1 < scanBound) (q : ∀ (b : Bool) h', Heap.SameBut a s.heap h' → TxS P w h' a (stS l k) → Q b { s with heap := h' }) :
    wpAny (model P w) A (setAddHashed a (.str k u) (hashStr w k)) Q E s := by
  by_cases hk : k ∈ l
  · obtain ⟨D, at_, F, _⟩ := id R
    refine add_old at_ F hk (Nat.lt_of_succ_lt few) ?_
    have z := q false s.heap (Heap.SameBut.refl a s.heap)
    rw [stS_old hk] at z
    exact z R
  · obtain ⟨D, at_, F, nd, told⟩ := R
    refine add_x at_ F hk few (q true _ (Heap.SameBut.update ..) ?_)
    have nd' := stS_nodup nd k
    rw [stS_new hk] at nd' ⊢
    exact ⟨_, PySem.Froz.get_upd _ at_ rfl, TxOk.reorder (add_ok u F) (List.perm_append_singleton k l), nd', told.add _ _⟩
/-- the model's way to put one in -/
theorem put_in {k : Str} {u : Tok} {Q : Bool → Shared → Prop} (R : TxS P w s.heap a l) (few : l.length + 1 < scanBound) (q : ∀ (b : Bool) h', Heap.SameBut a s.heap h' → TxS P w h' a (stS l k) → Q b { s with heap := h', toks := s.toks + 1 }) :
    wpAny (model P w) A (setAdd a (.str k u)) Q E s := by
  unfold setAdd
  apply wpAny_holding
  apply wpAny_bind
  refine (strKind P w).pyHash (k := k) (is_str k u) ?_
  exact add_any (s := { s with toks := s.toks + 1 }) R few q
end
section
variable {P : Program} {w : World} {A : Around} {I : Addr} {fp wr : List Addr} {n : Nat} {Pv : Nat → Value → Prop} {St : Nat → Heap → Prop}
/-- the loop that fills it: done lies in it, rest is to come -/
theorem fill_loop (W : Walks P w A.in1 I fp wr n Pv St) {a : Addr} (out : a ∉ fp) {xs : List Str} (len : xs.length = n) (few : n + 1 < scanBound) (are : ∀ i v, Pv i v → ∃ c u, xs[i]? = some c ∧ v = .str c u) {R : Result → Shared → Prop} :
    ∀ (rest done : List Str) (s : Shared), done ++ rest = xs → St done.length s.heap → TxS P w s.heap a (ddS done) →
      (∀ h' tk, (∀ b o, b ≠ a → b ∉ wr → s.heap.get? b = some o → h'.get? b = some o) → TxS P w h' a (ddS xs) → R (.ok (.ret .none)) { s with heap := h', toks := tk }) →
      codeAny (model P w) A (.builtin "set.update.loop" ⟨[.ref a, .ref I], []⟩) R s := by
  intro rest
  have offW : ∀ {b}, b ∉ fp → b ∉ wr := fun h z => h (W.sub _ z)
  induction rest with
  | nil =>
    intro done s all st R1 fin
    rw [List.append_nil] at all
    subst all
    refine codeAny_builtin PyProof.Rows.F.entry_set_update_loop ?_
    rw [Around.under_plainId PyProof.Rows.F.plain_set_update_loop _]
    apply wpAny_bind
    rw [len] at st
    refine W.done s _ _ st fun h' tk keep => ?_
    exact wpAny_pure (fin h' tk (fun b o _ hb e => keep b o hb e) (R1.keep fun o e => keep a o (offW out) e))
  | cons c rest ih =>
    intro done s all st R1 fin
    have here : xs[done.length]? = some c := by rw [← all, List.getElem?_append_right (Nat.le_refl _), Nat.sub_self]; rfl
    have lt : done.length < n := by rw [← len]; exact (List.getElem?_eq_some_iff.mp here).1
    refine codeAny_builtin PyProof.Rows.F.entry_set_update_loop ?_
    rw [Around.under_plainId PyProof.Rows.F.plain_set_update_loop _]
    apply wpAny_bind
    refine W.item done.length s _ _ lt st fun v h1 tk1 pv st1 keep => ?_
    obtain ⟨c', u, at_, rfl⟩ := are _ _ pv
    obtain rfl : c = c' := Option.some.inj (here.symm.trans at_)
    have size : (ddS done).length ≤ 0 + done.length := ddS_le done []
    refine wpAny_bind (wpAny_holding (put_in (s := { s with heap := h1, toks := tk1 }) (R1.keep fun o e => keep a o (offW out) e) (by omega) fun _ h2 same R2 => ?_))
    rw [← ddS_snoc] at R2
    refine wpAny_pure ⟨plainId_quiet PyProof.Rows.F.plain_set_update_loop _, ih (done ++ [c]) _ (by rw [List.append_assoc]; exact all) ?_ R2 fun h3 tk3 keep3 R3 => ?_⟩
    · rw [List.length_append]
      exact W.frame _ h1 h2 st1 fun b hb o e => (same.2 b fun z => out (z ▸ hb)).trans e
    · exact fin h3 tk3 (fun b o nb hb e => keep3 b o nb hb ((same.2 b nb).trans (keep b o hb e))) R3
end
section
variable {P : Program} {w : World} {A : Around} {E : Value → Shared → Prop} {s : Shared}
theorem code_wants {c : Code} {Q1 : Value → Shared → Prop} (h : codeAny (model P w) A c (wants Q1 E) s) {R : Result → Shared → Prop} (ok : ∀ v t, Q1 v t → R (.ok (.ret v)) t) (bad : ∀ e t, E e t → R (.error e) t) : codeAny (model P w) A c R s :=
  codeAny_mono h fun r t q => match r, q with
    | .ok (.ret v), q => ok v t q
    | .error e, q => bad e t q
/-- set(x) is to make a new one and to fill it out of x -/
theorem set_made {x : Value} {Q : Value → Shared → Prop}
    (fill : ∀ B : Around, B.handled = A.handled → wpAny (model P w) B (Builtin.Frozenset.updateFrom "set.__init__" s.heap.objs.size x) (fun _ t => Q (.ref s.heap.objs.size) t) E { s with heap := s.heap.push (emptyS w) }) :
    wpAny (model P w) A (call (.type "set") [x]) Q E s := by
  have made := PySem.F.called_set.made
  have sub := PySem.F.called_set.sub
  have notType := PySem.F.called_set.notType
  have can := PySem.F.called_set.canCreate
  have args := PySem.F.typeCall_set_1 x
  have ⟨_, _, order⟩ := PySem.F.called_set.mro
  have new0 : (s.heap.push (emptyS w)).get? s.heap.objs.size = some (emptyS w) := Heap.get?_push_size _ rfl
  have isSet : Shared.TypeIs { s with heap := s.heap.push (emptyS w) } (.ref s.heap.objs.size) "set" := ⟨_, new0, rfl⟩
  apply wpAny_call
  apply codeAny_of_tree
  show wpAny _ _ (callAny (.type "set") _) _ _ _
  refine wpAny_pure ⟨Code.quiet_builtin _ (by decide +kernel), codeAny_builtin PySem.F.entry_type_call ?_⟩
  rw [Around.under_plain (weight_type_call_type "set" [x] []) rfl]
  repeat (any_goals (first | assumption | wp_step))
  refine code_wants (code_set_led1 x (E := E) (Q₁ := fun v t => v = .ref s.heap.objs.size ∧ t = { s with heap := s.heap.push (emptyS w) }) ⟨rfl, rfl⟩) (fun v t ⟨e1, e2⟩ => ?_) fun _ _ => id
  subst e1 e2
  have look := PySem.F.called_set.init.lookup
  have bound := PySem.F.called_set.init.bind (.ref s.heap.objs.size)
  repeat (any_goals (first | assumption | wp_step))
  refine code_wants (codeAny_call_builtin (R := wants (fun v t => v = .none ∧ Q (.ref s.heap.objs.size) t) E) PySem.F.called_set.init.plain PySem.F.entry_set_init (check_set_init_1 isSet ?_)) (fun v t ⟨e, q⟩ => ?_) fun _ _ => id
  · unfold Builtin.«set.__init__» noKeywords
    have f := fill A.in1.in1 (by simp)
    generalize Builtin.Frozenset.updateFrom = up at f ⊢
    wp_walk
    exact wpAny_mono f (fun _ t q => wpAny_pure ⟨rfl, q⟩) fun _ _ => id
  · subst e
    repeat (any_goals (first | assumption | wp_step))
/-- what is no set and no dict is walked -/
theorem walked {T : String} {a l : Addr} {Q : Unit → Shared → Prop} (is : s.TypeIs (.ref l) T) (no1 : isSubtype (.type T) (.type "set") = pure false) (no2 : isSubtype (.type T) (.type "frozenset") = pure false) (no3 : (Value.type T == .type "dict") = false)
    (h : wpAny (model P w) A (pyIter (.ref l)) (fun it t => codeAny (model P w) A (.builtin "set.update.loop" ⟨[.ref a, it], []⟩) (wants (fun _ t => Q () t) E) t) E s) : wpAny (model P w) A (Builtin.Frozenset.updateFrom "set.__init__" a (.ref l)) Q E s := by
  unfold Builtin.Frozenset.updateFrom
  generalize pyIter = it at h ⊢
  wp_walk
  refine wpAny_mono h (fun v t q => ?_) fun _ _ => id
  exact wpAny_bind (wpAny_runValue (code_wants q (fun _ _ q => wpAny_pure q) fun _ _ => id))
/-- set(texts), of what is walked by an iterator o -/
theorem set_filled {T : String} {l : Addr} {o : Obj} {xs : List Str} {fp : List Addr} {Pv : Nat → Value → Prop} {St : Nat → Heap → Prop} {Q : Value → Shared → Prop} (hh : A.handled = none) (no1 : isSubtype (.type T) (.type "set") = pure false) (no2 : isSubtype (.type T) (.type "frozenset") = pure false) (no3 : (Value.type T == .type "dict") = false)
    (is : s.TypeIs (.ref l) T) (iter : ∀ (B : Around) (Q' : Value → Shared → Prop), Q' (.ref (s.heap.objs.size + 1)) { s with heap := (s.heap.push (emptyS w)).push o } → wpAny (model P w) B (pyIter (.ref l)) Q' E { s with heap := s.heap.push (emptyS w) })
    (walk : ∀ B : Around, B.handled = none → Walks P w B (s.heap.objs.size + 1) fp [s.heap.objs.size + 1] xs.length Pv St) (st : St 0 ((s.heap.push (emptyS w)).push o)) (out : s.heap.objs.size ∉ fp) (few : xs.length + 1 < scanBound)
    (are : ∀ i v, Pv i v → ∃ c u, xs[i]? = some c ∧ v = .str c u) (q : ∀ h' tk, (∀ b u, s.heap.get? b = some u → h'.get? b = some u) → TxS P w h' s.heap.objs.size (ddS xs) → Q (.ref s.heap.objs.size) { s with heap := h', toks := tk }) :
    wpAny (model P w) A (call (.type "set") [.ref l]) Q E s := by
  refine set_made fun B hB => walked (T := T) ?_ no1 no2 no3 (iter B _ ?_)
  · obtain ⟨ob, at_, cl⟩ := is
    exact ⟨ob, Heap.get?_push_of_some _ at_, cl⟩
  · refine fill_loop (walk B.in1 (by simp [hB, hh])) out rfl few are xs [] _ rfl st (TxS.new ?_) fun h' tk keep R => ?_
    · exact Heap.get?_push_of_some _ (Heap.get?_push_size _ rfl)
    · refine q h' tk (fun b u e => keep b u ?_ ?_ (Heap.get?_push_of_some _ (Heap.get?_push_of_some _ e))) R
      · exact Nat.ne_of_lt (Heap.lt_size e)
      · rw [List.mem_singleton]
        exact Nat.ne_of_lt (Nat.lt_succ_of_lt (Heap.lt_size e))
theorem text_at {its : Array Value} {xs : List Str} (are : StrsAre its.toList xs) {i : Nat} {v : Value} (e : its[i]? = some v) : ∃ c u, xs[i]? = some c ∧ v = .str c u := by
  rw [← Array.getElem?_toList] at e
  generalize its.toList = vs at are e
  induction are generalizing i with
  | nil => cases e
  | cons c u _ ih =>
    rcases i with _ | i
    · cases e; exact ⟨c, u, rfl, rfl⟩
    · exact ih e
theorem set_list {l : Addr} {its : Array Value} {xs : List Str} {Q : Value → Shared → Prop} (hh : A.handled = none) (is : s.heap.IsList l its) (are : StrsAre its.toList xs) (few : xs.length + 1 < scanBound)
    (q : ∀ h' tk, (∀ b u, s.heap.get? b = some u → h'.get? b = some u) → TxS P w h' s.heap.objs.size (ddS xs) → Q (.ref s.heap.objs.size) { s with heap := h', toks := tk }) : wpAny (model P w) A (call (.type "set") [.ref l]) Q E s := by
  have size : xs.length = its.size := (StrsAre.len_eq are).symm.trans Array.length_toList
  have lt : l < s.heap.objs.size := let ⟨_, at_, _⟩ := is; Heap.lt_size at_
  have one : (s.heap.push (emptyS w)).objs.size = s.heap.objs.size + 1 := Heap.size_push ..
  have is1 : (s.heap.push (emptyS w)).IsList l its := is.push _
  refine set_filled (T := "list") (o := { cls := .type "list_iterator", data := .fields #[.ref l, .int 0 0] }) hh PySem.F.sub_list_set PySem.F.sub_list_frozenset (by decide) is.typeIs (fun B Q' q' => ?_) (fun B hB => size ▸ Walks.list hB _ l (Nat.ne_of_lt (Nat.lt_succ_of_lt lt)) its) ?_ ?_ few (fun i v => text_at are) q
  · refine wpAny_pyIter_list is1 ?_
    rw [one]
    exact q'
  · refine ⟨⟨_, (?_ : Heap.get? _ _ = some { cls := .type "list_iterator", data := .fields #[.ref l, .int 0 0] }), rfl, rfl⟩, is1.push _⟩
    show Heap.get? _ (s.heap.objs.size + 1) = _
    rw [← one]
    exact Heap.get?_push_size _ rfl
  · rw [List.mem_cons, List.mem_singleton, not_or]
    exact ⟨Nat.ne_of_lt (Nat.lt_succ_self _), Nat.ne_of_gt lt⟩
end
end KnS
namespace Kn
open PySem PySem.Spec PyProof.Rows
open L2 hiding St
open KnS
end Kn
namespace Kn
open PySem PySem.Spec PyProof.Rows
open L2 hiding St
section
variable {X : Cx} {O : Own} {ρ : List Slot} {x : ExK} {k : Slot → Own → Prop} {a b : Expr} {pos : Pos} {g g' : Bool} {j n : Nat} {S : SpecT} {m : Str}
theorem rpa_ints {K : PySem.W.Frag} {G : Hp} : ∀ {vs : List V} {ns : List Int}, RpA K G vs (ns.map .int) → vs = ns.map V.int
  | _, [], h => by cases h; rfl
  | _, n :: ns, h => by
    cases h with
    | cons h1 h2 =>
      cases h1
      rw [rpa_ints h2]; rfl
/-- max of a list of ints -/
theorem cb_maxL {ns : List Int} (hc : X.calm = true) (hn : 0 < ns.length) (h : ∀ m, m ∈ ns → (∀ y, y ∈ ns → y ≤ m) → k (.dat (.int m)) O) : CaB X (.builtin "max") [.dat (.lst (ns.map .int))] O k := ⟨_, cr_max hc, fun H0 σ ρ H vs st pr Q q => by
  cases pr with
  | cons r1 pr =>
    cases pr
    cases r1 with
    | lst h1 h2 =>
      have e := rpa_ints h2
      subst e
      exact ⟨_, ns, rfl, sql_at (hid_le _ _ h1), hn, fun m m1 m2 => q _ H _ O (h m m1 m2) st (.int _)⟩⟩
end
end Kn
namespace KnX
open PySem PySem.Spec PyProof.Rows L2
end KnX
namespace Kn
open PySem PySem.Spec PyProof.Rows KnX
open L2 hiding St
end Kn
namespace Kn
open PySem PySem.Spec PyProof.Rows
open L2 hiding St
theorem of_someD {K : PySem.W.Frag} {G : Hp} : ∀ {vs : List (Option V)} {ds : List Dat}, Paired (OpOk K G) vs (ds.map fun d => some (.dat d)) → ∃ ws : List V, vs = ws.map some ∧ RpA K G ws ds
  | _, [], h => by cases h; exact ⟨[], rfl, .nil⟩
  | _, d :: ds, h => by
    cases h with
    | cons h t =>
      rename_i a _
      obtain ⟨ws, rfl, h2⟩ := of_someD t
      cases a with
      | none => exact h.elim
      | some v => exact ⟨v :: ws, rfl, .cons h h2⟩
theorem OwnOk.slt {K : PySem.W.Frag} {O : Own} {H : Hp} {p C dx : Addr} {ds : List Dat} (h : OwnOk K O H) (hp : O p = some (.slt C dx (ds.map fun d => some (.dat d)))) : Rp K (hid (dn O p) H) (.ref p) (.slo C ds) := by
  obtain ⟨o, h1, h2, h3, vs, rfl, h4⟩ := h.cell p _ hp
  obtain ⟨ws, rfl, h5⟩ := of_someD (pmap (fun _ _ q => OpOk.mono hid_dn q) h4)
  exact .slo (by rw [hid_none dn_at]; exact h1) (hid_dn _ _ h2) h3 h5
end Kn
namespace Kn
open PySem PySem.Spec PyProof.Rows
open L2 hiding St
end Kn
namespace KnS
open PySem PySem.Spec PyProof.Rows L2
open PySem.Froz (SD sObj TxOk)
open Kn (stS ddS)
theorem TxS.any {P P' : Program} {w : World} {h : Heap} {a : Addr} {l : List Str} (R : TxS P w h a l) : TxS P' w h a l := R.imp fun _ ⟨e, F, r⟩ => ⟨e, ⟨F.el, F.mem, F.sz, F.fit⟩, r⟩
end KnS
namespace Kn
open PySem PySem.Spec PyProof.Rows
open L2 hiding St
open KnS
end Kn
namespace Kn
open PySem PySem.Spec PyProof.Rows
open L2 hiding St
section
variable {X : Cx} {O : Own} {ρ : List Slot} {x : ExK} {k k' : Slot → Own → Prop} {kl kl' : List Slot → Own → Prop} {e a b c o : Expr} {es : List Expr} {pos p p1 p2 apos pos2 : Pos} {D : SD} {g g' : Bool} {j n : Nat} {S : SpecT} {df : List Dat} {m f : Str} {s1 s2 s : Slot}
/-- a method's def alone -/
theorem MCal.bare {P : Program} {w : World} {K : PySem.W.Frag} {mg : Str → Option Value} {base : Heap} {C : Addr} (mc : MCal P w K mg base false n C m S []) :
    ∃ (f : Addr) (fd : FuncData) (ps : List Str), PySem.W.findIn K (.ref C) m = some (some (.ref f)) ∧ PySem.W.isFn K (.ref f) = true ∧ Fn P w K mg base false n f fd ps S ∧ Binds K fd ps [] := by
  obtain ⟨f, fd, ps, ds, dvs, hm, F, hb, hd, hdf⟩ := mc
  have e := hdf (fun _ => none)
  cases e
  cases hd
  exact ⟨f, fd, ps, hm.at_, hm.fn, F, hb⟩
/-- len(x) by an own __len__ -/
theorem cb_lenOwn {C : Addr} (mc : MCal X.prog X.w X.K X.mg X.base false n C "__len__" S []) (hr : Room (n + 1) X.A) (h1 : tySl O (.ref C) s1) (h : S [s1] O (kVal fun s O' => ∃ i : Int, s = .dat (.int i) ∧ (0 ≤ i ∧ i < 2 ^ 63) ∧ k (.dat (.int i)) O')) :
    CaB X (.builtin "len") [s1] O k := by
  obtain ⟨f, fd, ps, hs, hf, F, hb⟩ := mc.bare
  refine ⟨fun xs H Q => ∃ (x : V) (H0 : Hp) (σ2 : SV) (ρ' : List Slot), xs = [x] ∧ StOk X.K H0 O σ2 ρ' H ∧ SlOk X.K (hid O H) x s1 ∧ ∀ v H' s O', k s O' → StOk X.K H0 O' σ2 ρ' H' → SlOk X.K (hid O' H') v s → Q v H', ?_, fun H0 σ ρ' H vs st pr Q q => ?_⟩
  · intro pins sh σ H xs us Q I r hq
    obtain ⟨x, H0, σ2, ρ', rfl, st, r1, q⟩ := hq
    obtain ⟨a, dx, fs, rfl, ha⟩ := ins_sl h1 st r1
    obtain ⟨u, rfl, ru⟩ := r.one
    cases ru
    obtain ⟨ox, od, J⟩ := insAt_of I ha
    obtain ⟨mm, hF⟩ := I.fr
    refine PySem.W.len_K hF I.ok.mod.kin J hs hf ?_
    refine wpAny_mono (run_in (Q := fun v H' => ∃ i : Int, v = .int i ∧ (0 ≤ i ∧ i < 2 ^ 63) ∧ Q (.int i) H') F (Room.in1 hr) I.env0.in1 hb I st (vs := [.ref a]) (.cons rfl .nil) (.cons r1 .nil) h (fun v H' s O' hk st' r' => ?_)) (fun w s' z => ?_) fun _ _ x => x
    · obtain ⟨i, rfl, hi, hk⟩ := hk
      cases r'
      exact ⟨i, rfl, hi, q _ H' _ O' hk st' (.int _)⟩
    · obtain ⟨z', H', I', rz, i, rfl, hi, qz⟩ := z
      obtain ⟨tk, rfl⟩ := rz
      exact ⟨hi, .int i, H', I'.tok _, ⟨_, rfl⟩, qz⟩
  · cases pr with
    | cons r1 pr =>
      cases pr
      exact ⟨_, H0, σ, ρ', rfl, st, r1, q⟩
end
/-- what the written part holds of a property -/
structure PropIn (K : PySem.W.Frag) (C : Addr) (m qual : Str) (st : Stmt) : Prop where
  ex : ∃ (p g : Addr) (fd : FuncData), PropOf K C m p g ∧ L2.Fun K m qual st g fd
end Kn
namespace Kn
open PySem PySem.Spec PyProof.Rows
open L2 hiding St
section
variable {X : Cx} {O : Own} {ρ : List Slot} {x : ExK} {k k' : Slot → Own → Prop} {a b c e tg iter tg1 iter1 : Expr} {es : List Expr} {pos p0 : Pos} {D : SD}
/-- what a comprehension with two fors asks; J, J1: the invariants of the outer and of the inner walk -/
def Lc2W (X : Cx) (O : Own) (ρ : List Slot) (scope : Scope) (vs vs1 : List Nat) (T T1 : Dat → List Slot → List Slot → Prop) (tg iter tg1 iter1 elt : Expr) (x : ExK) (k : Slot → Own → Prop) : Prop :=
  IW X O ρ tg iter x fun ds O1 => ∃ J : Nat → List Slot → Own → Prop, J 0 [] O1 ∧
    (∀ i d acc O', J i acc O' → ds[i]? = some d → ∃ ρ', T d (wipeS ρ vs) ρ' ∧ ∀ Dd, O' Dd = none → ∀ Y, Blk X scope Y → IW Y (up O' Dd (.lst acc)) ρ' tg1 iter1 noX fun es O2 =>
      ∃ (J1 : Nat → List Slot → Own → Prop) (O3 : Own), O2 = up O3 Dd (.lst acc) ∧ O3 Dd = none ∧ J1 0 acc O3 ∧
        (∀ j e acc1 O4, J1 j acc1 O4 → es[j]? = some e → ∃ ρ'', T1 e (wipeS ρ' vs1) ρ'' ∧ acc1.length < sizeLine ∧ (O4 Dd = none → ∀ Z, Blk X scope Z → EW Z (up O4 Dd (.lst acc1)) ρ'' elt noX fun s O5 => ∃ O6, O5 = up O6 Dd (.lst acc1) ∧ O6 Dd = none ∧ J1 (j + 1) (acc1 ++ [s]) O6)) ∧
        ∀ acc1 O4, J1 es.length acc1 O4 → J (i + 1) acc1 O4) ∧
    ∀ acc O', J ds.length acc O' → ∀ p, O' p = none → k (.own p) (up O' p (.lst acc))
theorem tlc2J_of {elt : Expr} {scope : Scope} {vs vs1 : List Nat} {T T1 : Dat → List Slot → List Slot → Prop} {g g1 : TG}
    (hg : ∀ {H0 H : Hp} {O : Own} {σ : SV} {ρ ρ' : List Slot} {v : V} {d : Dat} {Q : SV → Hp → Prop}, StOk X.K H0 O (wipe σ vs) ρ H → Rp X.K (hid O H) v d → T d ρ ρ' → (∀ σ', StOk X.K H0 O σ' ρ' H → wipe σ' vs = wipe σ vs → Q σ' H) → g v (wipe σ vs) H Q)
    (hg1 : ∀ {H0 H : Hp} {O : Own} {σ : SV} {ρ ρ' : List Slot} {v : V} {d : Dat} {Q : SV → Hp → Prop}, StOk X.K H0 O (wipe σ vs1) ρ H → Rp X.K (hid O H) v d → T1 d ρ ρ' → (∀ σ', StOk X.K H0 O σ' ρ' H → wipe σ' vs1 = wipe σ vs1 → Q σ' H) → g1 v (wipe σ vs1) H Q)
    (h : Lc2W X O ρ scope vs vs1 T T1 tg iter tg1 iter1 elt x k) {H0 : Hp} {σ : SV} {H : Hp} {Q : VK} (st : StOk X.K H0 O σ ρ H) (tk : Takes X (Wsem X.K H0 x))
    (q : ∀ v H' s O', k s O' → StOk X.K H0 O' σ ρ H' → SlOk X.K (hid O' H') v s → Q v H') :
    tLc2 (Wi X tg iter) g (fun σ H Q => Q true H) (fun σ H R => ∀ Y, Blk X scope Y → Wi Y tg1 iter1 σ H R) g1 (fun σ H Q => Q true H) (fun σ H Q => ∀ Y, Blk X scope Y → We Y elt σ H Q) vs vs1 σ H Q := by
  refine h H0 σ H st tk _ fun J0 H1 ds O1 ⟨J, j0, js, je⟩ st1 it => ?_
  intro Dd hD
  have hOD : O1 Dd = none := own_free st1.own hD
  have gS : Same (hid O1 H1) (hid (up O1 Dd (.lst [])) (upd H1 Dd (.lst []))) := fun b o hb => by
    obtain ⟨z1, z2⟩ := of_hid hb
    have nb := ne_of_none z2 hD
    rw [hid_none (by rw [up_ne nb]; exact z1), upd_ne nb]
    exact z2
  refine ⟨fun i m H' => i + m = ds.length ∧ ∃ acc O', J i acc O' ∧ O' Dd = none ∧ StOk X.K (hid O1 H1) (up O' Dd (.lst acc)) σ ρ H',
    ⟨ds.length, by omega, [], O1, j0, hOD, ⟨?_, gS, pmap (fun _ _ z => EnvOk.mono gS z) st1.env⟩⟩, fun i m H' hW => ?_⟩
  · exact (st1.alloc (o := .lst []) (c := .lst []) hD ⟨[], rfl, .nil⟩).own
  obtain ⟨em, acc, O', hj, nD, st'⟩ := hW
  obtain ⟨i1, i2⟩ := it _ H' st'.own st'.base i
  cases hd : ds[i]? with
  | none =>
    have hi : ds.length ≤ i := List.getElem?_eq_none_iff.mp hd
    have ei : i = ds.length := by omega
    subst ei
    exact .inl ⟨i2 hd, q _ H' _ _ (je acc O' hj Dd nD) (st'.rebase st1.base) rfl⟩
  | some d =>
    have hi : i < ds.length := (List.getElem?_eq_some_iff.mp hd).1
    obtain ⟨g2, g3⟩ := i1 d hd
    obtain ⟨ρ', ht, hb⟩ := js i d acc O' hj hd
    have hb := hb Dd nD
    refine .inr ⟨g2, fun H'' => ∃ acc2 O2, J (i + 1) acc2 O2 ∧ O2 Dd = none ∧ StOk X.K (hid O1 H1) (up O2 Dd (.lst acc2)) σ ρ H'', fun H'' hN => ⟨m - 1, by omega, by omega, hN⟩, fun v H2 hy => ?_⟩
    obtain ⟨s1, r1⟩ := g3 v H2 hy
    have st2 := st'.grow s1
    refine hg (σ := σ) (st2.wipe vs) r1 ht fun σ' st3 hw => ⟨hw, iteT fun Y hY => ?_⟩
    obtain ⟨sY, HY, CY, clY, fpY, eY⟩ := id hY
    have eK : Y.K = X.K := by rw [eY]
    have st3Y : StOk Y.K (hid O1 H1) (up O' Dd (.lst acc)) σ' ρ' H2 := by rw [eK]; exact st3
    refine hb Y hY (hid O1 H1) σ' H2 st3Y takes_no _ fun J1t H4 es O2 ⟨J1, O3, eO2, n3, j10, j1s, j1e⟩ st4 it1 => ?_
    rw [eK] at st4 it1
    subst eO2
    -- the inner walk
    refine ⟨fun j m1 H' => j + m1 = es.length ∧ ∃ acc1 O4, J1 j acc1 O4 ∧ O4 Dd = none ∧ StOk X.K (hid (up O3 Dd (.lst acc)) H4) (up O4 Dd (.lst acc1)) σ' ρ' H' ∧ StOk X.K (hid O1 H1) (up O4 Dd (.lst acc1)) σ' ρ' H',
      ⟨es.length, by omega, acc, O3, j10, n3, st4.top, st4⟩, fun j m1 H5 hW1 => ?_⟩
    obtain ⟨em1, acc1, O4, hj1, n4, st5, st5b⟩ := hW1
    obtain ⟨k1, k2⟩ := it1 _ H5 st5.own st5.base j
    cases he : es[j]? with
    | none =>
      have hjl : es.length ≤ j := List.getElem?_eq_none_iff.mp he
      have ej : j = es.length := by omega
      subst ej
      exact .inl ⟨k2 he, acc1, O4, j1e acc1 O4 hj1, n4, st5b.own, st5b.base, pmap (fun _ _ z => EnvOk.mono st5b.base z) st1.env⟩
    | some e =>
      have hjl : j < es.length := (List.getElem?_eq_some_iff.mp he).1
      obtain ⟨k3, k4⟩ := k1 e he
      obtain ⟨ρ'', ht1, hlen, hb1⟩ := j1s j e acc1 O4 hj1 he
      refine .inr ⟨k3, fun H'' => ∃ acc2 O5, J1 (j + 1) acc2 O5 ∧ O5 Dd = none ∧ StOk X.K (hid (up O3 Dd (.lst acc)) H4) (up O5 Dd (.lst acc2)) σ' ρ' H'' ∧ StOk X.K (hid O1 H1) (up O5 Dd (.lst acc2)) σ' ρ' H'', fun H'' hN => ⟨m1 - 1, by omega, by omega, hN⟩, fun v1 H6 hy1 => ?_⟩
      obtain ⟨s2, r2⟩ := k4 v1 H6 hy1
      have st6 := st5b.grow s2
      have st6a := st5.grow s2
      refine hg1 (σ := σ') (st6.wipe vs1) r2 ht1 fun σ3 st7 hw1 => ⟨hw1, iteT fun Z hZ => ?_⟩
      obtain ⟨sZ, HZ, CZ, clZ, fpZ, eZ⟩ := id hZ
      have eKZ : Z.K = X.K := by rw [eZ]
      have st7Z : StOk Z.K (hid (up O4 Dd (.lst acc1)) H6) (up O4 Dd (.lst acc1)) σ3 ρ'' H6 := by rw [eKZ]; exact st7.top
      refine hb1 n4 Z hZ _ σ3 H6 st7Z takes_no _ fun u H8 s8 O8 ⟨O6, e8, n6, j6⟩ st8 r8 => ?_
      subst e8
      rw [eKZ] at st8 r8
      obtain ⟨o9, c1, xs9, rfl, c2⟩ := st8.own.cell Dd _ up_at
      have lx : xs9.length = acc1.length := paired_len c2
      have st9 := st8.write (o := .lst (xs9 ++ [u])) (c := .lst (acc1 ++ [s8])) up_at ⟨_, rfl, paired_app c2 (.cons r8 .nil)⟩
      rw [up_up] at st9
      have ba : Same (hid (up O3 Dd (.lst acc)) H4) (hid (up O6 Dd (.lst (acc1 ++ [s8]))) (upd H8 Dd (.lst (xs9 ++ [u])))) := st6a.base.trans st9.base
      have bb : Same (hid O1 H1) (hid (up O6 Dd (.lst (acc1 ++ [s8]))) (upd H8 Dd (.lst (xs9 ++ [u])))) := st6.base.trans st9.base
      have ge : Paired (EnvOk X.K (hid (up O6 Dd (.lst (acc1 ++ [s8]))) (upd H8 Dd (.lst (xs9 ++ [u]))))) σ' ρ' := pmap (fun _ _ z => EnvOk.mono st9.base z) st6.env
      exact ⟨xs9, c1, by omega, acc1 ++ [s8], O6, j6, n6, ⟨st9.own, ba, ge⟩, ⟨st9.own, bb, ge⟩⟩
theorem ew_lc2J (own : List (Str × Nat)) {vs1 : List Nat} {elt : Expr} {scope : Scope} {T T1 : Dat → List Slot → List Slot → Prop} (hN : X.N.Nodup) (tg_ok : Tgt X scope (own.map (·.2)) tg T) (tg1_ok : Tgt X scope vs1 tg1 T1) (ok : BlkOk X.N X.env.scope scope own) (hv : ∀ i ∈ vs1, i ∈ own.map (·.2))
    (h : Lc2W X O ρ scope (own.map (·.2)) vs1 T T1 tg iter tg1 iter1 elt x k) (hc : X.calm = true := by rfl) (hs : ∀ x, foldedSetIterable iter X.env x = pure x := by intro _; rfl) (hs1 : ∀ env x, foldedSetIterable iter1 env x = pure x := by intro _ _; rfl) :
    EW X O ρ (.ListComp elt [⟨tg, iter, [], 0⟩, ⟨tg1, iter1, [], 0⟩] scope pos) x k := fun H0 σ H st tk Q q => by
  obtain ⟨g, a1, a2⟩ := tgt_run tg_ok
  obtain ⟨g1, b1, b2⟩ := tgt_run tg1_ok
  exact we_of (pe_lc2 (tt := fun σ H Q => Q true H) (tt1 := fun σ H Q => Q true H) hc hN pi_w ok hv (fun s H C cl fp => a1 _ ⟨s, H, C, cl, fp, rfl⟩) (fun s H C cl fp => pts_nil) (fun s H C cl fp => ⟨fun pins sh σ H5 R I hq => (hq _ ⟨s, H, C, cl, fp, rfl⟩).r pins sh I⟩)
    (fun s H C cl fp => b1 _ ⟨s, H, C, cl, fp, rfl⟩) (fun s H C cl fp => pts_nil) (fun s H C cl fp => ⟨fun pins sh σ H5 Q I hq => (hq _ ⟨s, H, C, cl, fp, rfl⟩).r pins sh I⟩) hs hs1) (tlc2J_of a2 b2 h st tk q)
/-- data alone: [r a b for a in l for b in its a] -/
theorem lc2_flat {α β : Type} (l : List α) (ι : α → Dat) (its : α → List β) (ι1 : β → Dat) (r : α → β → Dat) {vs vs1 : List Nat} {elt : Expr} {scope : Scope} {T T1 : Dat → List Slot → List Slot → Prop}
    (hi : IW X O ρ tg iter x fun ds' O1 => ds' = l.map ι ∧ O1 = O) (hz : (l.flatMap its).length ≤ sizeLine)
    (hb : ∀ d, d ∈ l → ∃ ρ', T (ι d) (wipeS ρ vs) ρ' ∧ (∀ O' Y, Blk X scope Y → IW Y O' ρ' tg1 iter1 noX fun es O2 => es = (its d).map ι1 ∧ O2 = O') ∧ ∀ e, e ∈ its d → ∃ ρ'', T1 (ι1 e) (wipeS ρ' vs1) ρ'' ∧ ∀ O' Y, Blk X scope Y → EV Y O' ρ'' elt noX (r d e))
    (h : ∀ p, O p = none → k (.own p) (up O p (.lst ((l.flatMap fun a => (its a).map (r a)).map .dat)))) : Lc2W X O ρ scope vs vs1 T T1 tg iter tg1 iter1 elt x k := by
  refine fun H0 σ H st tk R q => hi H0 σ H st tk R fun J H' ds' O1 ⟨e1, e2⟩ st' it => q J H' ds' O1 ?_ st' it
  subst e1 e2
  have hpre : ∀ i d, l[i]? = some d → l.take (i + 1) = l.take i ++ [d] := fun i d hd => by rw [List.take_add_one, hd]; rfl
  refine ⟨fun i acc O' => O' = O1 ∧ acc = ((l.take i).flatMap fun a => (its a).map (r a)).map .dat, ⟨rfl, rfl⟩, fun i d0 acc O' hj hd0 => ?_, fun acc O' hj p hp => ?_⟩
  · obtain ⟨rfl, rfl⟩ := hj
    rw [List.getElem?_map] at hd0
    obtain ⟨d, hd, rfl⟩ := Option.map_eq_some_iff.mp hd0
    obtain ⟨ρ', ht, hin, hel⟩ := hb d (List.mem_of_getElem? hd)
    refine ⟨ρ', ht, fun Dd nD Y hY => ?_⟩
    refine fun H0 σ H st tk R q => hin _ Y hY H0 σ H st tk R fun J H' es O2 ⟨e1, e2⟩ st' it => q J H' es O2 ?_ st' it
    subst e1 e2
    refine ⟨fun j acc1 O4 => O4 = O' ∧ acc1 = (((l.take i).flatMap fun a => (its a).map (r a)) ++ ((its d).take j).map (r d)).map .dat, O', rfl, nD, ⟨rfl, by simp⟩, fun j e0 acc1 O4 hj1 he0 => ?_, fun acc1 O4 hj1 => ?_⟩
    · obtain ⟨rfl, rfl⟩ := hj1
      rw [List.getElem?_map] at he0
      obtain ⟨e, he, rfl⟩ := Option.map_eq_some_iff.mp he0
      obtain ⟨ρ'', ht1, hev⟩ := hel e (List.mem_of_getElem? he)
      refine ⟨ρ'', ht1, ?_, fun n4 Z hZ => ?_⟩
      · have h1 : l = l.take i ++ d :: l.drop (i + 1) := by
          have hil := (List.getElem?_eq_some_iff.mp hd).1
          have := List.take_append_drop i l
          rw [List.drop_eq_getElem_cons hil] at this
          rw [(List.getElem?_eq_some_iff.mp hd).2] at this
          exact this.symm
        have hjl := (List.getElem?_eq_some_iff.mp he).1
        rw [h1, List.flatMap_append, List.flatMap_cons, List.length_append, List.length_append] at hz
        have h2 : ((l.take i).flatMap fun a => (its a).map (r a)).length = ((l.take i).flatMap its).length := by
          generalize l.take i = l'
          induction l' with
          | nil => rfl
          | cons z l' ih => rw [List.flatMap_cons, List.flatMap_cons, List.length_append, List.length_append, ih, List.length_map]
        rw [List.length_map, List.length_append, List.length_map, List.length_take, h2]
        omega
      · refine (hev _ Z hZ).mono fun s O3 ⟨e3, e4⟩ => ?_
        subst e3 e4
        refine ⟨O4, rfl, n4, rfl, ?_⟩
        rw [List.take_add_one, he]
        simp
    · obtain ⟨rfl, rfl⟩ := hj1
      refine ⟨rfl, ?_⟩
      rw [hpre i d hd, List.flatMap_append, List.length_map, List.take_length]
      simp
  · obtain ⟨rfl, rfl⟩ := hj
    rw [List.length_map, List.take_length]
    exact h p hp
end
end Kn
namespace Kn
open PySem PySem.Spec PyProof.Rows
open L2 hiding St
end Kn
namespace Kn
open PySem PySem.Spec PyProof.Rows
open L2 hiding St
theorem flF_app {K : PySem.W.Frag} {G : Hp} {n : Addr} {g : Str} : ∀ {d1 : List (Str × Dat)} {d2 : List (Str × Dat)} {fs : List (Str × V)}, Paired (FlOk K G) fs (d1.map (fun q => (q.1, Slot.dat q.2)) ++ (g, .own n) :: d2.map fun q => (q.1, Slot.dat q.2)) →
    ∃ f1 f2, fs = f1 ++ (g, .ref n) :: f2 ∧ RpF K G f1 d1 ∧ RpF K G f2 d2
  | [], d2, _, h => by
    cases h with
    | @cons a _ fs _ h t =>
      obtain ⟨g', v⟩ := a
      obtain ⟨e, r⟩ := h
      have e : g' = g := e
      have r : v = .ref n := r
      subst e r
      exact ⟨[], fs, rfl, .nil, RpF.of_paired t⟩
  | (f, d) :: d1, d2, _, h => by
    cases h with
    | @cons a _ fs _ h t =>
      obtain ⟨f', v⟩ := a
      obtain ⟨e, r⟩ := h
      have e : f' = f := e
      subst e
      obtain ⟨f1, f2, rfl, h1, h2⟩ := flF_app t
      exact ⟨(f', v) :: f1, f2, rfl, .cons r h1, h2⟩
theorem OwnOk.tre {K : PySem.W.Frag} {O : Own} {H : Hp} {p C dx n : Addr} {d1 d2 : List (Str × Dat)} {g : Str} {es : List Dat} (h : OwnOk K O H) (hp : O p = some (.ins C dx (d1.map (fun q => (q.1, Slot.dat q.2)) ++ (g, .own n) :: d2.map fun q => (q.1, Slot.dat q.2))))
    (hn : O n = some (.tpl (.own p :: es.map .dat))) : Rp K (hid (dn (dn O p) n) H) (.ref p) (.tre C d1 g es d2) := by
  have hne : n ≠ p := fun e => by rw [e, hp] at hn; cases hn
  obtain ⟨o, h1, fs, rfl, h2⟩ := h.cell p _ hp
  obtain ⟨o, h3, vs, rfl, h4⟩ := h.cell n _ hn
  have mono : Same (hid O H) (hid (dn (dn O p) n) H) := fun b u q => hid_dn _ _ (hid_dn _ _ q)
  obtain ⟨f1, f2, rfl, r1, r2⟩ := flF_app (pmap (fun _ _ q => ⟨q.1, SlOk.mono mono q.2⟩) h2)
  cases h4 with
  | @cons v _ vs _ h5 h6 =>
    have h5 : v = .ref p := h5
    subst h5
    refine .tre (n := n) (dx := dx) ?_ ?_ r1 r2 (RpA.of_paired (pmap (fun _ _ q => SlOk.mono mono q) h6))
    · rw [hid_none (by rw [dn_ne hne.symm]; exact dn_at)]; exact h1
    · rw [hid_none dn_at]; exact h3
theorem rpF_no {K : PySem.W.Frag} {G : Hp} {g : Str} : ∀ {fs : List (Str × V)} {ds : List (Str × Dat)}, RpF K G fs ds → ds.lookup g = none → fs.lookup g = none
  | _, _, .nil, _ => rfl
  | _, _, .cons (f := f) h t, e => by
    rw [List.lookup_cons] at e ⊢
    split at e
    · cases e
    · exact rpF_no t e
theorem lookup_mid {α : Type} {g : Str} {x : α} : ∀ {f1 f2 : List (Str × α)}, f1.lookup g = none → (f1 ++ (g, x) :: f2).lookup g = some x
  | [], f2, _ => by rw [List.nil_append, List.lookup_cons, beq_self_eq_true]
  | (y, z) :: f1, f2, h => by
    rw [List.cons_append, List.lookup_cons] at *
    split at h
    · cases h
    · exact lookup_mid h
section
variable {X : Cx} {O : Own} {ρ : List Slot} {x : ExK} {k : Slot → Own → Prop} {e o : Expr} {es : List Expr} {pos : Pos} {f : Str}
/-- an object that stands in a tuple of its own, as data -/
theorem ew_frzT (h : EW X O ρ e x fun s O' => ∃ p C dx n d1 g es d2, s = .own p ∧ O' p = some (.ins C dx (d1.map (fun q => (q.1, Slot.dat q.2)) ++ (g, .own n) :: d2.map fun q => (q.1, Slot.dat q.2))) ∧
    O' n = some (.tpl (.own p :: es.map .dat)) ∧ k (.dat (.tre C d1 g es d2)) (dn (dn O' p) n)) : EW X O ρ e x k := fun H0 σ H st tk Q q =>
  h H0 σ H st tk Q fun v H' s O' ⟨p, C, dx, n, d1, g, es, d2, e1, h1, h2, h3⟩ st' r => by
    subst e1
    obtain rfl : v = .ref p := r
    exact q _ H' _ _ h3 st'.freeze.freeze (st'.own.tre h1 h2)
/-- a tuple that may hold cells -/
theorem ew_tupO {x1} (h : AW X O ρ es x fun ss O' => ss.length ≤ sizeLine ∧ ∀ p, O' p = none → k (.own p) (up O' p (.tpl ss))) : EW X O ρ (.Tuple es x1 pos) x k := fun H0 σ H st tk Q q =>
  we_of (pe_tup pa_w) (h H0 σ H st tk _ fun vs H' ss O' ⟨hl, h2⟩ st' r => by
    refine ⟨by rw [paired_len r]; exact hl, fun p hp => ?_⟩
    have hO := own_free st'.own hp
    exact q _ _ (.own p) _ (h2 p hO) (st'.alloc hp ⟨_, rfl, r⟩) rfl)
/-- the field that holds the tuple -/
theorem ew_treN (h : EW X O ρ o x fun s O1 => ∃ C d1 es d2, s = .dat (.tre C d1 f es d2) ∧ Cls X.K C ∧ NoAttr X.K C f ∧ d1.lookup f = none ∧ k (.dat (.tup (.tre C d1 f es d2 :: es))) O1) (hb : attributeBase o f X.env (eval o X.env) = eval o X.env := by rfl) :
    EW X O ρ (.Attribute o f pos) x k := fun H0 σ H st tk Q q => by
  refine we_of (pe_fld pe_w hb) (h H0 σ H st tk _ fun v H1 s O1 hk st1 r1 => ?_)
  obtain ⟨C, d1, es, d2, rfl, c, na, hl, hk⟩ := hk
  have r0 : Rp X.K (hid O1 H1) v (.tre C d1 f es d2) := r1
  cases r1 with
  | @tre a _ dx n f1 f2 us _ _ _ _ h1 h2 h3 h4 h5 =>
    exact ⟨a, C, dx, _, .ref n, rfl, hid_le _ _ h1, c, na, lookup_mid (rpF_no h3 hl), q _ H1 _ O1 hk st1 (Rp.tup (.inl (.inl h2)) (.cons r0 h5))⟩
end
end Kn
namespace Kn
open PySem PySem.Spec PyProof.Rows
open L2 hiding St
end Kn
namespace KnX
open PySem PySem.Spec PyProof.Rows L2
end KnX
namespace Kn
open PySem PySem.Spec PyProof.Rows
open L2 hiding St
end Kn
namespace Kn
open PySem PySem.Spec PyProof.Rows
open L2 hiding St
end Kn
namespace Kn
open PySem PySem.Spec PyProof.Rows
open L2 hiding St
end Kn
namespace Kn
open PySem PySem.Spec PyProof.Rows
open L2 hiding St
end Kn
namespace Kn
open PySem PySem.Spec PyProof.Rows
open L2 hiding St
open PySem.W (EachIs AllAlike Sortable dataLe)
end Kn
namespace KnZp
open PySem PySem.W PySem.Calls PyProof.Rows PySem.Spec
/-- where the objects of a zip lie -/
structure Lie where
  z : Addr
  TI : Addr
  TO : Addr
  i1 : Addr
  i2 : Addr
  l1 : Addr
  l2 : Addr
/-- a zip of two lists at the place k -/
structure At (p : Lie) (xs ys : Array Value) (B : Addr) (k : Nat) (h : Heap) : Prop where
  apart : ZipApart p.z p.TI p.TO p.i1 p.i2 p.l1 p.l2
  low : p.z < B ∧ p.TI < B ∧ p.TO < B ∧ p.i1 < B ∧ p.i2 < B ∧ p.l1 < B ∧ p.l2 < B
  ti : IsPair h p.TI (.ref p.i1) (.ref p.i2)
  it1 : h.IsListIter p.i1 p.l1 k
  it2 : h.IsListIter p.i2 p.l2 k
  ls1 : h.IsList p.l1 xs
  ls2 : h.IsList p.l2 ys
  self : (IsZip h p.z p.TI p.TO .none ∧ ∃ a b, IsPair h p.TO a b) ∨ ∃ T f oT, IsZipHeld h p.z p.TI p.TO T f ∧ h.get? T = some oT ∧ B ≤ T
variable {prog : Program} {w : World} {A : Around} {E : Value → Shared → Prop} {s : Shared}
/-- what does not touch it leaves it -/
theorem At.keep {p : Lie} {xs ys : Array Value} {B S : Addr} {k : Nat} {h h' : Heap} (a : At p xs ys B k h) (hS : S ≠ p.z ∧ S ≠ p.TI ∧ S ≠ p.TO ∧ S ≠ p.i1 ∧ S ≠ p.i2 ∧ S ≠ p.l1 ∧ S ≠ p.l2 ∧ S < B)
    (e : ∀ c o, c ≠ S → h.get? c = some o → h'.get? c = some o) : At p xs ys B k h' := by
  obtain ⟨s1, s2, s3, s4, s5, s6, s7, s8⟩ := hS
  refine ⟨a.apart, a.low, e _ _ s2.symm a.ti, ?_, ?_, ?_, ?_, ?_⟩
  · exact let ⟨o, q, r⟩ := a.it1; ⟨o, e _ _ s4.symm q, r⟩
  · exact let ⟨o, q, r⟩ := a.it2; ⟨o, e _ _ s5.symm q, r⟩
  · exact let ⟨o, q, r⟩ := a.ls1; ⟨o, e _ _ s6.symm q, r⟩
  · exact let ⟨o, q, r⟩ := a.ls2; ⟨o, e _ _ s7.symm q, r⟩
  · rcases a.self with ⟨hz, u, v, hT⟩ | ⟨T, f, oT, hz, hT, hTB⟩
    · exact .inl ⟨e _ _ s1.symm hz, u, v, e _ _ s3.symm hT⟩
    · exact .inr ⟨T, f, oT, e _ _ s1.symm hz, e _ _ (Nat.ne_of_gt (Nat.lt_of_lt_of_le s8 hTB)) hT, hTB⟩
end KnZp
namespace KnZp
open PySem PySem.W PySem.Calls PyProof.Rows PySem.Spec
variable {prog : Program} {w : World} {A : Around} {E : Value → Shared → Prop} {s : Shared}
/-- a zip that nobody has asked yet -/
structure Fresh (p : Lie) (xs ys : Array Value) (h : Heap) : Prop where
  apart : ZipApart p.z p.TI p.TO p.i1 p.i2 p.l1 p.l2
  z : IsZip h p.z p.TI p.TO .none
  ti : IsPair h p.TI (.ref p.i1) (.ref p.i2)
  to : ∃ a b, IsPair h p.TO a b
  it1 : h.IsListIter p.i1 p.l1 0
  it2 : h.IsListIter p.i2 p.l2 0
  ls1 : h.IsList p.l1 xs
  ls2 : h.IsList p.l2 ys
theorem Fresh.at {p : Lie} {xs ys : Array Value} {h : Heap} (f : Fresh p xs ys h) {B : Addr} (hB : h.objs.size ≤ B) : At p xs ys B 0 h := by
  have lt : ∀ {b : Addr} {o : Obj}, h.get? b = some o → b < B := fun e => Nat.lt_of_lt_of_le (Heap.lt_size e) hB
  refine ⟨f.apart, ⟨lt f.z, lt f.ti, ?_, ?_, ?_, ?_, ?_⟩, f.ti, f.it1, f.it2, f.ls1, f.ls2, .inl ⟨f.z, f.to⟩⟩
  · obtain ⟨a, b, e⟩ := f.to; exact lt e
  · obtain ⟨o, e, _⟩ := f.it1; exact lt e
  · obtain ⟨o, e, _⟩ := f.it2; exact lt e
  · obtain ⟨o, e, _⟩ := f.ls1; exact lt e
  · obtain ⟨o, e, _⟩ := f.ls2; exact lt e
theorem Fresh.keep {p : Lie} {xs ys : Array Value} {h h' : Heap} (f : Fresh p xs ys h) {S : Addr} (hS : h.objs.size ≤ S) (e : ∀ c o, c ≠ S → h.get? c = some o → h'.get? c = some o) : Fresh p xs ys h' := by
  have k : ∀ {b : Addr} {o : Obj}, h.get? b = some o → h'.get? b = some o := fun q => e _ _ (Nat.ne_of_lt (Nat.lt_of_lt_of_le (Heap.lt_size q) hS)) q
  exact ⟨f.apart, k f.z, k f.ti, let ⟨a, b, q⟩ := f.to; ⟨a, b, k q⟩, let ⟨o, q, r⟩ := f.it1; ⟨o, k q, r⟩, let ⟨o, q, r⟩ := f.it2; ⟨o, k q, r⟩, let ⟨o, q, r⟩ := f.ls1; ⟨o, k q, r⟩, let ⟨o, q, r⟩ := f.ls2; ⟨o, k q, r⟩⟩
end KnZp
namespace Kn
open PySem PySem.Spec PyProof.Rows
open L2 hiding St
/-- the heap with some objects more -/
def lay (H : Hp) : List (Addr × HO) → Hp
  | [] => H
  | q :: l => upd (lay H l) q.1 q.2
end Kn
namespace Kn
open PySem PySem.Spec PyProof.Rows
open L2 hiding St
end Kn
namespace Kn
open PySem PySem.Spec PyProof.Rows
open L2 hiding St
end Kn
namespace Kn
open PySem PySem.Spec PyProof.Rows
open L2 hiding St
open PySem.W (EachIs AllAlike Sortable dataLe sorted_data)
end Kn
namespace Kn
open PySem PySem.Spec PyProof.Rows
open L2 hiding St
theorem tuO_ok {P : Program} {w : World} {H : Hp} {h : Heap} {t p : Addr} (e : h.IsTupleIter p t 0) : ObjOk P w H h p (TuO t p) := ⟨e, ⟨_, e.choose_spec.1⟩, fun h1 h2 z kk => Heap.IsTupleIter.at z fun o e => kk o e⟩
section
variable {X : Cx} {O : Own} {k : Slot → Own → Prop}
/-- iter(a tuple) -/
theorem cb_iterT {ds : List Dat} (h : ∀ it, O it = none → X.s_0.heap.objs.size ≤ it → k (.own it) (up O it (.itr ds))) : CaB X (.builtin "iter") [.dat (.tup ds)] O k := by
  refine ⟨fun vs H Q => ∃ t xs, vs = [.ref t] ∧ SqT X.K H t xs ∧ ∀ it, H it = none → X.s_0.heap.objs.size ≤ it → Q (.ref it) (upd H it (TuO t it)), ?_, fun H0 σ ρ' H vs st pr Q q => ?_⟩
  · rintro pins s σ H vs us Q I rv ⟨t, xs, rfl, hs, q⟩
    rw [Vals.ref1 rv]
    obtain ⟨its, ri, pl, hz⟩ := I.tuple hs
    refine Calls.call_function_entry (by decide +kernel) (by decide +kernel) PySem.W.kdk_entry_iter (PySem.W.kdk_args_iter _) ?_
    unfold Builtin.«iter»
    refine wpAny_bind (m := someArgs "iter" 1 2 _) (wpAny_of_eq (a := [Value.ref t]) (by first | rfl | kernel_rfl!) ?_)
    show wpAny _ _ (pyIter (.ref t) >>= _) _ _ _
    refine wpAny_bind (wpAny_pyIter_tuple (show s.heap.IsTuple t its.toArray from pl) ?_)
    refine wpAny_pure ⟨_, rfl, ?_⟩
    have e : Heap.IsTupleIter (s.heap.push { cls := .type "tuple_iterator", data := .fields #[.ref t, .int 0 0] }) s.heap.objs.size t 0 := ⟨_, Heap.get?_push_size _ rfl, rfl, rfl⟩
    exact ⟨.ref s.heap.objs.size, _, I.laid (t' := s.toks) (fun b u e => Heap.get?_push_of_some _ e) (Nat.le_refl _) (tuO_ok e), rfl, q _ (I.hok.fresh (Nat.le_refl _)) I.sz⟩
  · cases pr with
    | cons r1 pr =>
      cases pr
      cases r1 with
      | tup h1 h2 =>
        refine ⟨_, _, rfl, sqt_mono hid_le h1, fun it hn hi => ?_⟩
        have ho := own_free st.own hn
        refine q _ _ _ _ (h it ho hi) (st.alloc hn ⟨_, _, rfl, h1, h2⟩) rfl
end
/-- a def's contract, which may look at how great the heap is when it is called -/
structure FnN (P : Program) (w : World) (K : PySem.W.Frag) (mg : Str → Option Value) (base : Heap) (k : Nat) (f : Addr) (fd : FuncData) (ps : List Str) (S : Nat → SpecT) : Prop where
  run : ∀ (A : Around) (outer : List Env) (s : Shared) (H : Hp) (args : Args) (us : List Value) (vs : List V) (Q : VK) (E : XK), Room k A → Env0 P w K mg base A outer s H → BindsTo s fd args (ps.zip us) → Vals vs us → spS K (S s.heap.objs.size) vs H Q E →
    codeAny (model P w) A (.call (.ref f) args) (CR (L2.CX P w) outer P w H s Q E) s
  len : ∀ n ss O R, S n ss O R → ss.length = ps.length
section
variable {P : Program} {w : World} {K : PySem.W.Frag} {mg : Str → Option Value} {base : Heap} {k : Nat} {f : Addr} {fd : FuncData} {ps : List Str} {S : Nat → SpecT}
theorem fnN_mk {x qual : Str} {st : Stmt} {N : List Str} (F : L2.Fun K x qual st f fd) (Sc : FnScope N ps (defScope st)) (len : ∀ n ss O R, S n ss O R → ss.length = ps.length)
    (body : ∀ (cdv : Value) (A : Around) (outer : List Env) (s : Shared) (H : Hp) (E : XK) (ss : List Slot) (O : Own) (R : Out → Own → Prop), RoomB false k (cxOf (L2.CX P w) P w K mg base N qual (defScope st) f cdv A outer s H E).A →
      PassesOwn (model P w) (cxOf (L2.CX P w) P w K mg base N qual (defScope st) f cdv A outer s H E).A (cxOf (L2.CX P w) P w K mg base N qual (defScope st) f cdv A outer s H E).env (cxOf (L2.CX P w) P w K mg base N qual (defScope st) f cdv A outer s H E).xe → S s.heap.objs.size ss O R →
      SW (cxOf (L2.CX P w) P w K mg base N qual (defScope st) f cdv A outer s H E) O (startS N ss) (defBody st) (fun e _ O' => R (.exc e) O') { nx := fun _ O' => R (.ret (.dat .non)) O', rt := fun z O' => R (.ret z) O' }) :
    FnN P w K mg base (k + 1) f fd ps S := by
  obtain ⟨oc, od, dV, kV, doc, pm, an, cdv, ct, osl, rfl, lk, hcd⟩ := funX_of F
  refine ⟨fun A outer s H args us vs Q E hr e0 hb r hsp => ?_, len⟩
  obtain ⟨O, ss, R, own, pr, hS, hret, herr⟩ := hsp
  have hl : vs.length = ps.length := (paired_len pr).trans (len _ _ _ _ hS)
  have KX : K.In s.heap := e0.mod.kin.keeps fun b o e => (e0.bs b o e).1
  have lim : s.heap.NoLimit := e0.mod.nolimit.keeps fun b o e => (e0.bs b o e).1
  have hkind : ∀ y ∈ ps.zip us, (defScope st).names.lookup y.1 = some .local ∨ ((defScope st).names.lookup y.1 = some .cell ∧ ((cellsFrom (s.heap.objs.size + 1) (defScope st).names []).lookup y.1).isSome = true) := fun y hy => by
    rcases Sc.par y.1 (List.of_mem_zip (show (y.1, y.2) ∈ ps.zip us from hy)).1 with q | q
    · exact .inl q
    · exact .inr ⟨q, PySem.W.cellsFrom_some _ _ _ (.inl q)⟩
  refine codeAny_call_function hr.depth (KX _ _ lk) rfl Sc.co Sc.gen rfl (PySem.W.codeRec_of KX hcd) (hb _ _ _ _ ?_)
  refine wpAny_newFunctionEnv_cells Sc.kind hkind fun env he s1 hin => ?_
  subst he
  refine ⟨lim.keeps hin.toInCall.keep, codeAny_func ?_⟩
  have I := inv_start (CX := L2.CX P w) (E := E) Sc hr.hd e0 hl r hin
  have hrD : RoomB false k (cxOf (L2.CX P w) P w K mg base N qual (defScope st) f cdv A outer s H E).A := roomB_deeper (g := false) ⟨hr, fun e => (nomatch e)⟩ _
  have hpo : PassesOwn (model P w) (cxOf (L2.CX P w) P w K mg base N qual (defScope st) f cdv A outer s H E).A (cxOf (L2.CX P w) P w K mg base N qual (defScope st) f cdv A outer s H E).env (cxOf (L2.CX P w) P w K mg base N qual (defScope st) f cdv A outer s H E).xe :=
    passes_of (X := cxOf (L2.CX P w) P w K mg base N qual (defScope st) f cdv A outer s H E) rfl
  have hst : StOk K (hid O H) O (L2.start N vs) (startS N ss) H := ⟨own, Same.refl _, start_env pr⟩
  have tk : Takes (cxOf (L2.CX P w) P w K mg base N qual (defScope st) f cdv A outer s H E) (Wsem K (hid O H) fun e _ O' => R (.exc e) O') :=
    (takes_of (X := cxOf (L2.CX P w) P w K mg base N qual (defScope st) f cdv A outer s H E) rfl rfl rfl rfl).imp fun cls d σ' H' ⟨e, ρ', O', h1, h2, h3⟩ => herr cls d e H' O' h1 h2.own h2.base h3
  have main := (body cdv A outer s H E ss O R hrD hpo hS (hid O H) (L2.start N vs) H hst tk { nx := fun _ H' => Q .non H', rt := Q }
    ⟨fun σ' ρ' O' H' h1 h2 => hret .non H' _ O' h1 h2.own h2.base .non, fun v z O' H' h1 h2 h3 h4 => hret v H' z O' h1 h2 h3 h4, fun _ _ _ _ h _ => h.elim, fun _ _ _ _ h _ => h.elim⟩).r [] s1 I
  refine wpAny_mono main (fun fl s' hs => ?_) fun e s' hs => hs
  have fin : ∀ {σ' : SV} {H' : Hp} {v : V} {u : Value}, L2.Inv (cxOf (L2.CX P w) P w K mg base N qual (defScope st) f cdv A outer s H E) [] σ' H' s' → RelV v u → Q v H' → CE outer P w H s Q u s' :=
    fun {σ' H' v u} J rv q => ⟨v, H', J.os, J.bare, J.base, J.hok, rv, q⟩
  cases fl with
  | ret u =>
    obtain ⟨v, σ', H', J, rv, q⟩ := hs
    exact fin J rv q
  | next =>
    obtain ⟨σ', H', J, q⟩ := hs
    exact fin (v := V.non) (u := Value.none) J rfl q
  | brk =>
    obtain ⟨_, _, _, q⟩ := hs
    exact False.elim q
  | cont =>
    obtain ⟨_, _, _, q⟩ := hs
    exact False.elim q
end
section
variable {X : Cx} {O : Own} {ρ : List Slot} {x : ExK} {kd : List Dat → Own → Prop} {o tg : Expr} {n : Nat} {S : Nat → SpecT} {C : Addr}
/-- __iter__ of the class at C, with its contract -/
def MIter (P : Program) (w : World) (K : PySem.W.Frag) (mg : Str → Option Value) (base : Heap) (n : Nat) (C : Addr) (S : Nat → SpecT) : Prop :=
  ∃ (f : Addr) (fd : FuncData) (ps : List Str), PySem.W.findIn K (.ref C) "__iter__" = some (some (.ref f)) ∧ PySem.W.isFn K (.ref f) = true ∧ FnN P w K mg base n f fd ps S ∧ Binds K fd ps []
theorem hid_drop {H : Hp} {it : Addr} {c : Cell} (h : O it = none) : hid O (ItX.dropH H it) = hid (up O it c) H := by
  funext b
  by_cases e : b = it
  · subst e
    rw [hid_none h, ItX.dropH_same, hid_some up_at]
  · cases eo : O b with
    | none => rw [hid_none eo, ItX.dropH_ne e, hid_none (by rw [up_ne e]; exact eo)]
    | some z => rw [hid_some eo, hid_some (show up O it c b = some z by rw [up_ne e]; exact eo)]
theorem iw_ownIt (M : MIter X.prog X.w X.K X.mg X.base n C S) (hr : Room n X.A) (h : EW X O ρ o x fun s O1 => tySl O1 (.ref C) s ∧ ∀ N, S N [s] O1 (kVal fun z O2 => ∃ it ds, z = .own it ∧ O1 it = none ∧ N ≤ it ∧ O2 = up O1 it (.itr ds) ∧ kd ds O1)) : IW X O ρ tg o x kd := fun H0 σ H st tk R q => ⟨fun pins s I => by
  refine wpAny_mono ((h H0 σ H st tk (fun v H1 => ∃ s O1, StOk X.K H0 O1 σ ρ H1 ∧ SlOk X.K (hid O1 H1) v s ∧ tySl O1 (.ref C) s ∧ ∀ N, S N [s] O1 (kVal fun z O2 => ∃ it ds, z = .own it ∧ O1 it = none ∧ N ≤ it ∧ O2 = up O1 it (.itr ds) ∧ kd ds O1)) fun v H' s O' ⟨ty, hS⟩ st' r => ⟨s, O', st', r, ty, hS⟩).r pins s I) (fun u s1 z => ?_) fun _ _ z => z
  obtain ⟨v, H1, I1, ru, sl, O1, st1, r1, ty, hS⟩ := z
  obtain ⟨a, dx, fs, rfl, ha⟩ := ins_sl ty st1 r1
  cases ru
  obtain ⟨ox, od, J⟩ := insAt_of I1 ha
  obtain ⟨mm, hF⟩ := I1.fr
  obtain ⟨f, fd, ps, hs, hf, F, hb⟩ := M
  refine PySem.W.owit_iter hF I1.ok.mod.kin J hs hf ?_
  have sp : spS X.K (S s1.heap.objs.size) [.ref a] H1 (fun v H' => ∃ it O2 ds, v = .ref it ∧ O1 it = none ∧ s1.heap.objs.size ≤ it ∧ StOk X.K H0 O2 σ ρ H' ∧ O2 = up O1 it (.itr ds) ∧ kd ds O1) (fun _ _ _ => False) :=
    ⟨O1, [sl], _, st1.own, .cons r1 .nil, hS _, fun v H' s' O' h1 h2 h3 h4 => by
      obtain ⟨it, ds, rfl, g1, g2, g3, g4⟩ := h1
      obtain rfl : v = .ref it := h4
      exact ⟨it, O', ds, rfl, g1, g2, st1.next h2 h3, g3, g4⟩, fun cls d e H' O' h1 h2 h3 h4 => h1⟩
  have hl : ([V.ref a]).length = ps.length := by
    have := F.len _ _ _ _ (hS s1.heap.objs.size)
    exact this
  refine wpAny_call (codeAny_mono (F.run X.A X.stack s1 H1 ⟨[.ref a], []⟩ [.ref a] [.ref a] _ _ hr I1.env0 (by
    have := hb s1 [.ref a] I1.kIn (by simpa using hl)
    simpa using this) (.cons rfl .nil) sp) fun r s' hq => ?_)
  cases r with
  | error e => exact passL pins σ H1 s1 e s' I1 hq
  | ok fl =>
    cases fl with
    | next => exact False.elim hq
    | brk => exact False.elim hq
    | cont => exact False.elim hq
    | ret u =>
      obtain ⟨v2, H2, I2, rv, it, O2, ds, rfl, hn, hN, st2, rfl, hk⟩ := I1.after hq
      cases rv
      obtain ⟨ob, c1, t, xs, rfl, c2, c3⟩ := st2.own.cell it _ up_at
      have hi : s'.heap.IsTupleIter it t 0 := (I2.hok it _ c1).1
      refine wpAny_specialOf (s := s') hi.typeIs _root_.PySem.F.slot_tuple_iterator_next.lookup ?_
      have eh : hid O1 (ItX.dropH H2 it) = hid (up O1 it (.itr ds)) H2 := hid_drop hn
      have st3 : StOk X.K H0 O1 σ ρ (ItX.dropH H2 it) := by
        refine ⟨⟨fun p c hp => ?_⟩, by rw [eh]; exact st2.base, by rw [eh]; exact st2.env⟩
        have np : p ≠ it := fun e => by rw [e, hn] at hp; cases hp
        obtain ⟨o, g1, g2⟩ := st2.own.cell p c (by rw [up_ne np]; exact hp)
        exact ⟨o, by rw [ItX.dropH_ne np]; exact g1, by rw [eh]; exact g2⟩
      refine ⟨it, [it], _, _, ItX.dropH H2 it, rfl, ItX.inv_drop I2 c1, turn_tuple t it, hi, fun b hb => ?_, q (Itt X.K t) (ItX.dropH H2 it) ds O1 hk st3 (itd_tup (by rw [eh]; exact c2) (by rw [eh]; exact c3))⟩
      rw [List.mem_singleton.mp hb]
      exact ItX.inv_fp I2 c1 (Nat.le_trans I1.sz hN)⟩
end
end Kn
namespace Kn
open PySem PySem.Spec PyProof.Rows
open L2 hiding St
end Kn
namespace Kn
open PySem PySem.Spec PyProof.Rows
open L2 hiding St
end Kn
namespace Kn
open PySem PySem.Spec PyProof.Rows
open L2 hiding St
theorem ran_eq {α : Type} : ∀ (l : PySem.W.Frag) (k : PySem.W.Frag → α), ran l k = k l
  | [], k => rfl
  | q :: r, k => by
    show HandSHeadRun.frNat q.1 (fun a => ran r fun z => k ((a, q.2) :: z)) = _
    rw [HandSHeadRun.frNat_eq, ran_eq r]
section
variable {K : PySem.W.Frag} {a : Addr} {nm qual : Str} {st : Stmt} {dfl : FuncData → Bool}
theorem fn_seen (e : txtAt K a = txtIs nm qual st) (c : fnB K a qual dfl = true) : ∃ (oc : Value) (od : Option Addr) (dV kV doc pm : Value) (an : Option Addr) (cdv ct : Value) (osl : Array (Option Value)),
    K.lookup a = some ⟨oc, od, .func (PySem.W.fnOf nm qual (defArgs st) (defBody st) (defScope st) dV kV doc pm an cdv ct), osl⟩ ∧ PySem.W.codeIn K cdv qual = true ∧
    dfl (PySem.W.fnOf nm qual (defArgs st) (defBody st) (defScope st) dV kV doc pm an cdv ct) = true ∧ PySem.W.keepIn K (.ref a) = true := by
  unfold fnB at c
  unfold txtAt at e
  obtain ⟨c1, c2⟩ := Bool.and_eq_true_iff.mp c
  cases q : K.lookup a with
  | none => rw [q] at e; cases e
  | some o =>
    obtain ⟨oc, od, dt, osl⟩ := o
    rw [q] at e c2
    cases dt with
    | func d =>
      obtain ⟨a1, a2, a3, a4, a5, a6, a7, dV, kV, doc, pm, an, cdv, ct, a15⟩ := d
      have e1 : (some (a1, a2, a3, a4, a5, a6, a7, a15) : He.FnW) = txtIs nm qual st := e
      unfold txtIs at e1
      simp only [Option.some.injEq, Prod.mk.injEq] at e1
      obtain ⟨rfl, rfl, rfl, rfl, rfl, rfl, rfl, rfl⟩ := e1
      obtain ⟨c3, c4⟩ := Bool.and_eq_true_iff.mp c2
      exact ⟨oc, od, dV, kV, doc, pm, an, cdv, ct, osl, rfl, c3, c4, c1⟩
    | _ => cases e
theorem fun_seen (e : txtAt K a = txtIs nm qual st) (c : fnB K a qual dflNo = true) : ∃ fd, L2.Fun K nm qual st a fd := by
  obtain ⟨oc, od, dV, kV, doc, pm, an, cdv, ct, osl, l, c1, c2, k⟩ := fn_seen e c
  obtain rfl : dV = .none := of_decide_eq_true c2
  exact ⟨_, fun_mk l c1 k⟩
end
section
variable {K : PySem.W.Frag} {x y nm qual bn C m f : Str} {st : Stmt} {i : Int} {zs : List Str}
theorem isV_ok {r : Option (Option Value)} {v : Value} (h : isV r v = true) : r = some (some v) := He.eqO_ok h
theorem isNo_ok {r : Option (Option Value)} (h : isNo r = true) : r = some none := He.eqO_ok h
theorem bothB {a b : Bool} (h : (a && b) = true) : a = true ∧ b = true := Bool.and_eq_true_iff.mp h
theorem free_look (h : freeB x K = true) : PySem.W.nsIn K mainGlobals x = some none := isNo_ok h
theorem text_look (h : textB x y K = true) : TextIn K x y := by
  unfold textB at h
  split at h
  · rename_i z t q
    obtain rfl := of_decide_eq_true h
    exact ⟨t, q⟩
  · cases h
theorem tup_seen {a : Addr} (h : tupB K a zs = true) : ∃ (od : Option Addr) (its : Array Value) (n : Nat) (sl : Array (Option Value)), K.lookup a = some ⟨.type "tuple", od, .seq its n, sl⟩ ∧ its.size ≤ sizeLine ∧ strsOf its.toList = some zs := by
  unfold tupB at h
  split at h
  · rename_i c od its n sl q
    obtain ⟨h1, h2⟩ := bothB h
    obtain ⟨h2, h3⟩ := bothB h2
    obtain rfl := of_decide_eq_true h1
    exact ⟨od, its, n, sl, q, Nat.le_of_ble_eq_true h2, of_decide_eq_true h3⟩
  · cases h
theorem texts_look (h : textsB x zs K = true) : TextsIn K x zs := by
  obtain ⟨h1, h2⟩ := bothB h
  obtain ⟨od, its, n, sl, h3, h4, h5⟩ := tup_seen h2
  exact ⟨_, od, its, n, sl, isV_ok h1, h3, h4, h5⟩
theorem def_look (h : defB x K = true) (e : txtAt K (pGlo x K) = txtIs x x st) : DefIn K x st := by
  obtain ⟨h1, h2⟩ := bothB h
  obtain ⟨fd, F⟩ := fun_seen e h2
  exact ⟨⟨_, fd, isV_ok h1, F⟩⟩
theorem rd_seen {C : Addr} (h : rdB K C = true) : ClX.CRead K C (.type "type") := ⟨(bothB h).1, isV_ok (bothB h).2⟩
theorem exc_seen0 {C : Addr} (h : excB0 K C = true) : ∃ nm q N bs bm sn sub ab col dd k0 k1 k2 k3 k5, K.lookup C = some (excClassObj nm q C N bs bm true sn sub ab col dd k0 k1 k2 k3 k5 "ValueError.__new__") ∧ PySem.HandSPX.refsVE bm = true := by
  unfold excB0 at h
  split at h
  · rename_i c dd cd k0 k1 k2 k3 z k5 q
    obtain ⟨nm, bs, mro, ns, qn, hd, sn, sub, ab, col, del⟩ := cd
    obtain ⟨h1, ha⟩ := bothB h
    obtain ⟨h2, hb⟩ := bothB ha
    obtain ⟨h3, hc⟩ := bothB hb
    obtain ⟨h4, hl⟩ := bothB hc
    obtain rfl := of_decide_eq_true h1
    obtain rfl := of_decide_eq_true h2
    obtain rfl : hd = true := h3
    obtain rfl : del = false := by cases del with
      | false => rfl
      | true => cases h4
    cases mro with
    | nil => cases hl
    | cons v bm =>
      cases v with
      | ref D =>
        obtain ⟨h5, h6⟩ := bothB hl
        obtain rfl := of_decide_eq_true h5
        exact ⟨nm, qn, ns, bs, bm, sn, sub, ab, col, dd, k0, k1, k2, k3, k5, q, h6⟩
      | _ => cases hl
  · cases h
theorem exc_look {fs : List Str} (h : excB nm qual bn fs K = true) (e : txtAt K (pMeth nm "__init__" K) = txtIs "__init__" qual st) : ∃ C B, ExcIn K nm qual bn st C B ∧ ∀ f ∈ fs, PySem.W.findIn K (.ref C) f = some none := by
  obtain ⟨g1, h⟩ := bothB h
  obtain ⟨g2, h⟩ := bothB h
  obtain ⟨a1, h⟩ := bothB h
  obtain ⟨b1, h⟩ := bothB h
  obtain ⟨i1, n1⟩ := bothB h
  obtain ⟨x0, a1⟩ := bothB a1
  obtain ⟨x1, a1⟩ := bothB a1
  obtain ⟨x2, a1⟩ := bothB a1
  obtain ⟨x3, a1⟩ := bothB a1
  obtain ⟨x4, a1⟩ := bothB a1
  obtain ⟨x5, x6⟩ := bothB a1
  obtain ⟨y1, x4⟩ := bothB x4
  obtain ⟨y2, x4⟩ := bothB x4
  obtain ⟨y3, y4⟩ := bothB x4
  obtain ⟨z1, x5⟩ := bothB x5
  obtain ⟨z2, x5⟩ := bothB x5
  obtain ⟨z3, z4⟩ := bothB x5
  obtain ⟨c1, b1⟩ := bothB b1
  obtain ⟨c2, b1⟩ := bothB b1
  obtain ⟨c3, b1⟩ := bothB b1
  obtain ⟨c4, c5⟩ := bothB b1
  obtain ⟨i2, i1⟩ := bothB i1
  obtain ⟨i3, i4⟩ := bothB i1
  obtain ⟨fd, F⟩ := fun_seen e i4
  refine ⟨_, _, ⟨⟨isV_ok g1, ⟨exc_seen0 x0, isV_ok x1, of_decide_eq_true y3, of_decide_eq_true x2, x3⟩, _, fd, isV_ok i2, of_decide_eq_true i3, F⟩, ⟨isV_ok y1, isNo_ok y2, of_decide_eq_true y3, y4⟩,
    ⟨isV_ok y1, isNo_ok y2, of_decide_eq_true y3, y4, isV_ok z1, isV_ok z2, of_decide_eq_true z3, of_decide_eq_true z4⟩, of_decide_eq_true x6, isV_ok g2, of_decide_eq_true c1, of_decide_eq_true c2, c3, rd_seen c4, ?_⟩, fun f hf => isNo_ok (List.all_eq_true.mp n1 f hf)⟩
  split at c5
  · rename_i z q
    obtain rfl := of_decide_eq_true c5
    exact q
  · cases c5
theorem cls_look (h : clsB nm K = true) : ClsIn K nm (He.ga K nm) := by
  obtain ⟨g1, h⟩ := bothB h
  obtain ⟨p1, h⟩ := bothB h
  obtain ⟨d1, h⟩ := bothB h
  obtain ⟨l1, h⟩ := bothB h
  obtain ⟨m1, h⟩ := bothB h
  obtain ⟨k1, h⟩ := bothB h
  obtain ⟨r1, n1⟩ := bothB h
  obtain ⟨p2, p1⟩ := bothB p1
  obtain ⟨p3, p4⟩ := bothB p1
  obtain ⟨z1, l1⟩ := bothB l1
  obtain ⟨z2, l1⟩ := bothB l1
  obtain ⟨z3, z4⟩ := bothB l1
  exact ⟨isV_ok g1, ⟨⟨p2, d1, p3, isV_ok p4⟩, isV_ok z1, isV_ok z2, of_decide_eq_true z3, of_decide_eq_true z4, kit_self⟩, m1, k1, rd_seen r1, isV_ok n1⟩
theorem sls_look (h : slsB nm K = true) : SlsIn K nm (He.ga K nm) := by
  obtain ⟨g1, h⟩ := bothB h
  obtain ⟨p1, h⟩ := bothB h
  obtain ⟨c1, h⟩ := bothB h
  obtain ⟨m1, k1⟩ := bothB h
  obtain ⟨p2, p1⟩ := bothB p1
  obtain ⟨p3, p4⟩ := bothB p1
  exact ⟨isV_ok g1, ⟨p2, c1, p3, isV_ok p4⟩, m1, k1⟩
theorem meth_look (h : methB C m qual K = true) (e : txtAt K (pMeth C m K) = txtIs m qual st) : MethIn K (He.ga K C) m qual st := by
  obtain ⟨h1, h⟩ := bothB h
  obtain ⟨h2, h3⟩ := bothB h
  obtain ⟨fd, F⟩ := fun_seen e h3
  exact ⟨⟨_, fd, ⟨isV_ok h1, h2, F.kp⟩, F⟩⟩
theorem methD_look (h : methDB C m qual K = true) (e : txtAt K (pMeth C m K) = txtIs m qual st) : MethInD K (He.ga K C) m qual st 1 := by
  obtain ⟨h1, h⟩ := bothB h
  obtain ⟨h2, h3⟩ := bothB h
  obtain ⟨oc, od, dV, kV, doc, pm, an, cdv, ct, osl, l, c1, c2, k⟩ := fn_seen e h3
  unfold dflOne at c2
  split at c2
  · rename_i T q
    split at c2
    · rename_i c1' od1 d n sl1 q2
      have q : dV = .ref T := q
      subst q
      exact methD_in (isV_ok h1) h2 l c1 k q2 rfl
    · cases c2
  · cases c2
theorem cmeth_look (h : cmethB C m qual K = true) (e : txtAt K (pCls C m K) = txtIs m qual st) : CMethIn K (He.ga K C) m qual st := by
  obtain ⟨h1, h⟩ := bothB h
  obtain ⟨h, h4⟩ := bothB h
  obtain ⟨h2, h3⟩ := bothB h
  obtain ⟨fd, F⟩ := fun_seen e h1
  split at h3
  · rename_i z p D q
    obtain ⟨e1, h3⟩ := bothB h3
    obtain ⟨e2, e3⟩ := bothB h3
    obtain rfl := of_decide_eq_true e1
    obtain rfl := of_decide_eq_true e2
    obtain rfl := of_decide_eq_true e3
    split at h4
    · rename_i f r q4
      obtain rfl := of_decide_eq_true h4
      exact ⟨⟨_, _, fd, ⟨q, ⟨_, q4⟩, h2⟩, F⟩⟩
    · cases h4
  · cases h3
theorem prop_look (h : propB C m qual K = true) (e : txtAt K (pProp C m K) = txtIs m qual st) : PropIn K (He.ga K C) m qual st := by
  obtain ⟨h1, h⟩ := bothB h
  obtain ⟨h2, h⟩ := bothB h
  obtain ⟨h3, h⟩ := bothB h
  obtain ⟨h4, h5⟩ := bothB h
  obtain ⟨fd, F⟩ := fun_seen e h1
  split at h5
  · rename_i f r q
    obtain rfl := of_decide_eq_true h5
    exact ⟨⟨_, _, fd, ⟨isV_ok h2, isV_ok h3, of_decide_eq_true h4, ⟨_, q⟩⟩, F⟩⟩
  · cases h5
theorem slot_look {i : Nat} (h : slotB C f i K = true) : SlotIn K (He.ga K C) f i := by
  obtain ⟨h1, h⟩ := bothB h
  obtain ⟨h2, h⟩ := bothB h
  obtain ⟨h3, h⟩ := bothB h
  obtain ⟨h4, h⟩ := bothB h
  obtain ⟨h5, h6⟩ := bothB h
  exact slot_in (isV_ok h1) (isV_ok h2) (of_decide_eq_true h3) (of_decide_eq_true h4) (of_decide_eq_true h5) (Nat.le_of_ble_eq_true h6)
theorem noAt_look (h : noAtB C f K = true) : PySem.W.findIn K (.ref (He.ga K C)) f = some none := isNo_ok h
theorem isCls_look (h : isClsB x K = true) : ∃ C, PySem.W.nsIn K mainGlobals x = some (some (.ref C)) ∧ PySem.W.isClsIn K C = true ∧ PySem.W.typeIn K (.ref C) = some (.type "type") :=
  cls_in (isV_ok (bothB h).1) (bothB (bothB h).2).1 (of_decide_eq_true (bothB (bothB h).2).2)
end
namespace Look
def Holds (L : Look) (K : PySem.W.Frag) : Prop := L.seen K = L.good
theorem Holds.say {L : Look} {K : PySem.W.Frag} (c : L.Holds K) (i : Nat) {f : PySem.W.Frag → Bool} (h : L.says[i]? = some f := by rfl) : f K = true :=
  List.all_eq_true.mp (show (L.says.all fun f => f K) = true from congrArg Prod.fst c) f (List.mem_of_getElem? h)
theorem Holds.txt {L : Look} {K : PySem.W.Frag} (c : L.Holds K) (i : Nat) {p : Place} {nm qual : Str} {st : Stmt} (h : L.funs[i]? = some (p, nm, qual, st) := by rfl) : txtAt K (p K) = txtIs nm qual st := by
  have e : L.funs.map (fun q => txtAt K (q.1 K)) = L.funs.map fun q => txtIs q.2.1 q.2.2.1 q.2.2.2 := congrArg Prod.snd c
  have e2 := congrArg (fun l : List He.FnW => l[i]?) e
  simp only [List.getElem?_map, h] at e2
  exact Option.some.inj e2
end Look
section
variable (lo len : Nat) (Ls : List Look)
def obL (s : PySem.W.SharedT) : List Look.Got := Ls.map fun L => L.ob lo len s
def hookL : PySem.W.Hook where
  α := List Look.Got
  obs := fun s => Ls.map fun L => ran (partOf s.heap.get? lo len) L.seen
  val := fun _ => Ls.map Look.good
  says := fun _ h => ∃ K : PySem.W.Frag, K.In h ∧ ∀ L ∈ Ls, L.Holds K
  of := fun _ s e => ⟨partOf s.heap.get? lo len, He.frG_in, fun L hL => (ran_eq _ _).symm.trans (List.map_inj_left.mp e L hL)⟩
  keeps := fun _ _ _ ⟨K, hK, c⟩ k => ⟨K, PySem.W.Frag.In.keeps hK k, c⟩
theorem obL_eq (s : PySem.W.SharedT) : obL lo len Ls s = (hookL lo len Ls).obs s.abs := by
  have e : HandSHeadRun.getT s = s.abs.heap.get? := funext fun a => HandSHeadRun.getT_eq s a
  unfold obL Look.ob
  rw [e]
  rfl
variable {lo len Ls}
/-- the parts of the run put together -/
theorem run_parts {β γ : Type} {f : Option PySem.W.SharedT} {A : PySem.W.SharedT → β} {B : PySem.W.SharedT → γ} {a : β} {b : γ} (h0 : f.map (fun s => (A s, B s)) = some (a, b)) (h : ∀ L ∈ Ls, f.map (L.ob lo len) = some L.good) :
    f.map (fun s => (A s, B s, obL lo len Ls s)) = some (a, b, Ls.map Look.good) := by
  cases f with
  | none => cases h0
  | some s =>
    have e0 : (A s, B s) = (a, b) := Option.some.inj h0
    have e1 : A s = a := congrArg Prod.fst e0
    have e2 : B s = b := congrArg Prod.snd e0
    have e3 : obL lo len Ls s = Ls.map Look.good := List.map_inj_left.mpr fun L hL => Option.some.inj (h L hL)
    show some (A s, B s, obL lo len Ls s) = _
    rw [e1, e2, e3]
end
end Kn
namespace Kn
open PySem PySem.Spec PyProof.Rows
open L2 hiding St
end Kn
namespace Kn
open PySem PySem.Spec PyProof.Rows
open L2 hiding St
end Kn
namespace Kn
open PySem PySem.Spec PyProof.Rows
open L2 hiding St
/-- __init__ of the class has one default, the empty tuple -/
structure EmpD (K : PySem.W.Frag) (nm qual : Str) (st : Stmt) : Prop where
  ex : ∃ (C f : Addr) (fd : FuncData) (d : Addr) (o : Obj) (n : Nat), clsAt K nm C ∧ Meth K C "__init__" f ∧ L2.FunD K "__init__" qual (defArgs st) (defBody st) (defScope st) [.ref d] [] f fd ∧ K.lookup d = some o ∧ o.cls = .type "tuple" ∧ o.data = .seq #[] n
section
variable {K : PySem.W.Frag} {nm qual : Str} {st : Stmt}
theorem empD_look (h : empDB nm qual K = true) (e : txtAt K (pMeth nm "__init__" K) = txtIs "__init__" qual st) : EmpD K nm qual st := by
  obtain ⟨h0, h⟩ := bothB h
  obtain ⟨h1, h⟩ := bothB h
  obtain ⟨h2, h3⟩ := bothB h
  obtain ⟨oc, od, dV, kV, doc, pm, an, cdv, ct, osl, l, c1, c2, k⟩ := fn_seen e h3
  unfold dflEmp at c2
  split at c2
  · rename_i T q
    split at c2
    · rename_i c1' od1 a n sl1 q2
      split at c2
      · rename_i c3 od3 n3 sl3 q3
        obtain rfl := of_decide_eq_true c2
        have q : dV = .ref T := q
        subst q
        exact ⟨_, _, _, a, _, n3, isV_ok h0, ⟨isV_ok h1, h2, k⟩, ⟨⟨oc, od, _, kV, doc, pm, an, cdv, ct, osl, rfl, l, c1, .inr ⟨(fun e => nomatch e), T, _, [.ref a], n, rfl, q2, rfl, .cons rfl .nil⟩, .inl rfl⟩, k⟩, q3, rfl, rfl⟩
      · cases c2
    · cases c2
  · cases c2
section
variable {P : Program} {w : World} {mg : Str → Option Value} {base : Heap} {k : Nat} {ps : List Str} {S : SpecT} {C : Addr}
theorem mkc_emp (I : ClsIn K nm C) (D : EmpD K nm qual st) (hp : 0 < ps.length) (b : ∀ (T : Addr) (kV doc pm : Value) (an : Option Addr) (cdv ct : Value) (us its : List Value), us.length = ps.length - 1 → its.length = 1 →
    ∃ k, bindArgs (PySem.W.fnOf "__init__" qual (defArgs st) (defBody st) (defScope st) (.ref T) kV doc pm an cdv ct) ⟨us, []⟩ = seqItems? (.ref T) >>= k ∧ k (some its.toArray) = pure (ps.zip (us ++ its)))
    (h : ∀ f fd, FunX K "__init__" qual st f fd → Fn P w K mg base false k f fd ps S) : MkC P w K mg base k C S [.tup []] := by
  obtain ⟨C', f, fd, d, o, n, hC, hm, F, l, oc, od⟩ := D.ex
  obtain rfl := at_inj hC I.at_
  obtain ⟨ds, hv, hb⟩ := F.binds1 (ps := ps) (ps.length - 1) 0 (fun e => nomatch e) (by show _ + 1 = _; omega) fun T kV doc pm an cdv ct us its h1 h2 => b T kV doc pm an cdv ct us its h1 h2
  exact ⟨f, fd, ps, ds, [.ref d], ⟨I.mks, hm.at_, hm.fn, I.kp⟩, h f fd (funX_ofD F), hb, hv, fun G => .cons (.tup (.inr ⟨o, #[], n, l, oc, od, Nat.zero_le _, .nil⟩) .nil) .nil⟩
end
end
end Kn
namespace Kn
open PySem PySem.Spec PyProof.Rows
open L2 hiding St
section
variable {X : Cx} {O : Own} {ρ : List Slot} {x : ExK} {k : Slot → Own → Prop} {a b : Expr} {p p2 pos pos2 : Pos}
theorem rg_slots {K : PySem.W.Frag} {G : Hp} (m n : Int) : Paired (SlOk K G) (rgV m n) ((rangeD m (n - m).toNat).map .dat) := by
  unfold rgV rangeD
  rw [List.map_map]
  generalize List.range (n - m).toNat = l
  induction l with
  | nil => exact .nil
  | cons i l ih => exact .cons (.int _) ih
/-- list(range(a, b)) -/
theorem ew_listRange2 (hl : X.mg "list" = none) (hm : X.mg "range" = none) (h : EW X O ρ a x fun s O1 => EW X O1 ρ b x fun t O2 => ∃ m n, s = .dat (.int m) ∧ t = .dat (.int n) ∧ RgOk m n ∧ ∀ q, O2 q = none → k (.own q) (up O2 q (.lst ((rangeD m (n - m).toNat).map .dat))))
    (hc : X.calm = true := by rfl) (hg : Gl X "list" := by rfl) (hg2 : Gl X "range" := by rfl) (na : starEach [a, b] X.env = (false, eval a X.env) :: starEach [b] X.env := by rfl) (nb : starEach [b] X.env = (false, eval b X.env) :: starEach [] X.env := by rfl) (hp : (backTo pos2 (starEach [b] X.env)).any (·.1) = false := by rfl)
    (nc : starEach [.Call (.Name "range" p2) [a, b] [] pos2] X.env = (false, eval (.Call (.Name "range" p2) [a, b] [] pos2) X.env) :: starEach [] X.env := by rfl) :
    EW X O ρ (.Call (.Name "list" p) [.Call (.Name "range" p2) [a, b] [] pos2] [] pos) x k := fun H0 σ H st tk Q q => by
  refine we_of (pe_listRg hc hg hl (prg_2 hg2 hm pe_w pe_w na nb hp) nc) (h H0 σ H st tk _ fun v1 H1 s O1 h1 st1 r1 => ?_)
  refine h1 _ σ H1 st1.top (takes_base tk st1.base) _ fun v2 H2 t O2 h2 st2 r2 => ?_
  obtain ⟨m, n, rfl, rfl, hr, hk⟩ := h2
  cases r1
  cases r2
  exact ⟨m, n, rfl, rfl, hr, fun y hy => q _ _ _ _ (hk y (own_free st2.own hy)) ((st2.rebase st1.base).alloc hy ⟨_, rfl, rg_slots m n⟩) rfl⟩
end
end Kn
namespace Kn
open PySem PySem.Spec PyProof.Rows
open L2 hiding St
end Kn
namespace Kn
open PySem PySem.Spec PyProof.Rows
open L2 hiding St
section
variable {prog : Program} {w : World} {A : Around} {R : Result → Shared → Prop}
/-- two tuples, pair by pair: what each pair's == says, ts tells -/
theorem two_tuples (p q : Addr) (xs ys : Array Value) (kx ky : Nat) (dx dy : Option Addr) (sx sy : Array (Option Value)) (J : Shared → Prop) (ts : List Bool)
    (hp : Paired (fun (z : Value × Value) (t : Bool) => ∀ s, J s → wpAny (model prog w) A.in1 (eqBool z.1 z.2) (fun r s' => r = t ∧ J s') (fun e s' => R (.error e) s') s) (xs.toList.zip ys.toList) ts)
    (done : ∀ s, J s → R (.ok (.ret (.bool (ts.all id && (xs.size == ys.size))))) s) {s : Shared} (gx : s.heap.get? p = some { cls := .type "tuple", dict := dx, data := .seq xs kx, slots := sx }) (gy : s.heap.get? q = some { cls := .type "tuple", dict := dy, data := .seq ys ky, slots := sy }) (hJ : J s) :
    wpAny (model prog w) A.in1 (Builtin.«tuple.__eq__» ⟨[.ref p, .ref q], []⟩) (GQ.FinOf prog w A R) (fun e s' => R (.error e) s') s := by
  have f2 := AutoSeq1.sub_tuple_tuple
  obtain ⟨hh, g, dd, tk, os⟩ := s
  wp_walk using AutoSeq1.wpAny_loadPart' gx, AutoSeq1.wpAny_loadPart' gy, wpAny_forIn_list _ (fun rest b s' => b.1 = none ∧ J s' ∧ ∃ us, Paired (fun (z : Value × Value) (t : Bool) => ∀ s, J s → wpAny (model prog w) A.in1 (eqBool z.1 z.2) (fun r s' => r = t ∧ J s') (fun e s' => R (.error e) s') s) rest us ∧ us.all id = ts.all id) _
  case turn =>
    rintro ⟨y, x⟩ rest b s' ⟨hb, hj, us, hu, ha⟩
    cases hu with
    | @cons _ t _ us h1 h2 =>
      refine wpAny_bind (wpAny_mono (h1 s' hj) (fun r s2 z => ?_) fun _ _ x => x)
      obtain ⟨rfl, z⟩ := z
      cases r with
      | true =>
        wp_walk
        exact ⟨rfl, z, us, h2, ha⟩
      | false =>
        have e := done s2 z
        rw [← ha] at e
        wp_walk
        exact e
  case fin =>
    rintro ⟨b1, b2⟩ s' ⟨hb, hj, us, hu, ha⟩
    cases hu
    simp only at hb
    subst hb
    have e := done s' hj
    rw [← ha] at e
    wp_walk
    exact e
  case h =>
    exact ⟨rfl, hJ, ts, hp, rfl⟩
theorem two_rich {p q : Addr} {xs ys : Array Value} {Q : Value → Shared → Prop} {E : Value → Shared → Prop} (hu : A.units < cLine) (J : Shared → Prop) (ts : List Bool) {s : Shared}
    (gx : s.heap.IsTuple p xs) (gy : s.heap.IsTuple q ys)
    (hp : Paired (fun (z : Value × Value) (t : Bool) => ∀ s, J s → wpAny (model prog w) A.in1 (eqBool z.1 z.2) (fun r s' => r = t ∧ J s') E s) (xs.toList.zip ys.toList) ts)
    (done : ∀ s, J s → Q (.bool (ts.all id && (xs.size == ys.size))) s) (hJ : J s) : wpAny (model prog w) A (richCompare .Eq (.ref p) (.ref q)) Q E s := by
  obtain ⟨⟨c1, d1, da1, s1⟩, ho, hc, n, hd⟩ := id gx
  obtain ⟨⟨c2, d2, da2, s2⟩, ho2, hc2, n2, hd2⟩ := id gy
  simp only at hc hd hc2 hd2
  subst hc hd hc2 hd2
  refine wpAny_richCompare_same_room (op := .Eq) ⟨_, ho, rfl⟩ ⟨_, ho2, rfl⟩ F.slot_tuple_eq (GQ.call_here F.slot_tuple_eq ⟨_, ho, rfl⟩ F.entry_tuple_eq (F.args_tuple_eq_2 _ _) ?_) hu
  exact two_tuples (R := wants (fun v s' => v ≠ .notImplemented ∧ Q v s') E) p q xs ys n n2 d1 d2 s1 s2 J ts hp (fun s' z => ⟨(fun x => nomatch x), done s' z⟩) ho ho2 hJ
end
/-- what == says of two values, by the heap -/
abbrev Eqw := V → V → Bool → Hp → Prop
def MonB (D : Eqw) : Prop := ∀ x y t H H', Ext H H' → D x y t H → D x y t H'
def EqT (X : Cx) (n : Nat) (D : Eqw) : Prop := ∀ (A : Around) (pins : List (Addr × Obj)) (s : Shared) (σ : SV) (H : Hp) (x y : V) (u v : Value) (t : Bool), L2.Sub X n A → Inv X pins σ H s → RelV x u → RelV y v → D x y t H →
  wpAny (model X.prog X.w) A (eqBool u v) (fun r s' => r = t ∧ L2.LoopI X pins σ H s') X.xe s
def RcT (X : Cx) (n : Nat) (D : Eqw) : Prop := ∀ (A : Around) (pins : List (Addr × Obj)) (s : Shared) (σ : SV) (H : Hp) (x y : V) (u v : Value) (t : Bool), L2.Sub X n A → Inv X pins σ H s → RelV x u → RelV y v → D x y t H →
  wpAny (model X.prog X.w) A (richCompare .Eq u v) (fun r s' => r = .bool t ∧ L2.LoopI X pins σ H s') X.xe s
/-- the same object is equal to itself -/
def Slf (X : Cx) (D : Eqw) : Prop := ∀ (pins : List (Addr × Obj)) (s : Shared) (σ : SV) (H : Hp) (x : V) (t : Bool), Inv X pins σ H s → D x x t H → t = true
def AreRefs (D : Eqw) : Prop := ∀ x y t H, D x y t H → ∃ a b, x = .ref a ∧ y = .ref b
section
variable {X : Cx} {n m : Nat} {D D' : Eqw}
theorem EqT.lift (h : EqT X n D) (hn : n ≤ m) : EqT X m D := fun A pins s σ H x y u v t sb => h A pins s σ H x y u v t (sb.mono hn)
theorem EqT.or (h : EqT X n D) (h' : EqT X n D') : EqT X n (fun x y t H => D x y t H ∨ D' x y t H) := fun A pins s σ H x y u v t sb I rx ry d =>
  d.elim (fun d => h A pins s σ H x y u v t sb I rx ry d) fun d => h' A pins s σ H x y u v t sb I rx ry d
theorem MonB.or (h : MonB D) (h' : MonB D') : MonB (fun x y t H => D x y t H ∨ D' x y t H) := fun x y t H H' e d => d.imp (h x y t H H' e) (h' x y t H H' e)
theorem Slf.or (h : Slf X D) (h' : Slf X D') : Slf X (fun x y t H => D x y t H ∨ D' x y t H) := fun pins s σ H x t I d => d.elim (h pins s σ H x t I) (h' pins s σ H x t I)
theorem AreRefs.or (h : AreRefs D) (h' : AreRefs D') : AreRefs (fun x y t H => D x y t H ∨ D' x y t H) := fun x y t H d => d.elim (h x y t H) (h' x y t H)
theorem RcT.inside (h : RcT X n D) (hr : AreRefs D) (hs : Slf X D) : EqT X n D := by
  intro A pins s σ H x y u v t sb I rx ry d
  obtain ⟨a, b, rfl, rfl⟩ := hr _ _ _ _ d
  cases rx
  cases ry
  by_cases hab : a = b
  · subst hab
    obtain rfl := hs pins s σ H _ t I d
    exact SeqAt.EqAt.same (A := A) (s := s) (.ref a) X.prog X.w X.xe _ ⟨rfl, H, I, fun _ _ z => z⟩
  · refine GQ.eqBool_refG hab (wpAny_mono (h A pins s σ H (.ref a) (.ref b) _ _ t sb I rfl rfl d) (fun r s' z => ?_) fun _ _ x => x)
    exact ⟨t, z.1, rfl, z.2⟩
/-- two tuples of such values -/
def DTupB (K : PySem.W.Frag) (D : Eqw) : Eqw := fun x y t H => ∃ a b xs ys ts, x = .ref a ∧ y = .ref b ∧ SqT K H a xs ∧ SqT K H b ys ∧ Paired (fun (z : V × V) (t : Bool) => D z.1 z.2 t H) (xs.zip ys) ts ∧ t = (ts.all id && decide (xs.length = ys.length))
theorem monB_tup {K : PySem.W.Frag} (h : MonB D) : MonB (DTupB K D) := fun x y t H H' e d => by
  obtain ⟨a, b, xs, ys, ts, h1, h2, h3, h4, h5, h6⟩ := d
  exact ⟨a, b, xs, ys, ts, h1, h2, sqt_mono e h3, sqt_mono e h4, pmap (fun z t q => h _ _ _ _ _ e q) h5, h6⟩
theorem refs_tup {K : PySem.W.Frag} : AreRefs (DTupB K D) := fun x y t H d => by
  obtain ⟨a, b, xs, ys, ts, h1, h2, _⟩ := d
  exact ⟨a, b, h1, h2⟩
theorem sqt_one {pins : List (Addr × Obj)} {s : Shared} {σ : SV} {H : Hp} {a : Addr} {xs ys : List V} (I : Inv X pins σ H s) (h1 : SqT X.K H a xs) (h2 : SqT X.K H a ys) : xs = ys := by
  obtain ⟨its, r, e, _⟩ := I.tuple h1
  obtain ⟨its2, r2, e2, _⟩ := I.tuple h2
  obtain ⟨o, ho, _, k, hd⟩ := e
  obtain ⟨o2, ho2, _, k2, hd2⟩ := e2
  rw [ho] at ho2
  cases ho2
  rw [hd] at hd2
  injection hd2 with hd3 _
  have : its = its2 := by
    have := congrArg Array.toList hd3
    simpa using this
  subst this
  exact r.inj r2
theorem pairs_self {F : V × V → Bool → Prop} (h : ∀ x t, F (x, x) t → t = true) : ∀ {xs : List V} {ts : List Bool}, Paired F (xs.zip xs) ts → ts.all id = true
  | [], _, .nil => rfl
  | x :: xs, _, .cons h1 h2 => by
    rw [List.all_cons, h x _ h1, pairs_self h h2]; rfl
theorem slf_tup (h : Slf X D) : Slf X (DTupB X.K D) := fun pins s σ H x t I d => by
  obtain ⟨a, b, xs, ys, ts, rfl, h2, h3, h4, h5, rfl⟩ := d
  cases h2
  obtain rfl := sqt_one I h3 h4
  rw [pairs_self (fun x t q => h pins s σ H x t I q) h5, decide_eq_true rfl]; rfl
theorem zip_vals : ∀ {xs ys : List V} {us vs : List Value} {ts : List Bool} {F : V × V → Bool → Prop} {G : Value × Value → Bool → Prop}, Vals xs us → Vals ys vs → (∀ x y u v t, RelV x u → RelV y v → F (x, y) t → G (u, v) t) → Paired F (xs.zip ys) ts → Paired G (us.zip vs) ts
  | [], _, _, _, _, _, _, .nil, _, _, h => by cases h; exact .nil
  | _ :: _, [], _, _, _, _, _, .cons _ _, .nil, _, h => by cases h; exact .nil
  | _ :: _, _ :: _, _, _, _, _, _, .cons r1 t1, .cons r2 t2, f, .cons h1 h2 => .cons (f _ _ _ _ _ r1 r2 h1) (zip_vals t1 t2 f h2)
theorem rcT_tup (hD : MonB D) (h : EqT X n D) : RcT X (n + 1) (DTupB X.K D) := by
  intro A pins s σ H x y u v t sb I rx ry d
  obtain ⟨a, b, xs, ys, ts, rfl, rfl, h3, h4, h5, rfl⟩ := d
  cases rx
  cases ry
  obtain ⟨its, r, e, _⟩ := I.tuple h3
  obtain ⟨its2, r2, e2, _⟩ := I.tuple h4
  refine two_rich sb.room.units0 (fun s' => L2.LoopI X pins σ H s') ts e e2 ?_ (fun s' z => ⟨?_, z⟩) ⟨H, I, fun _ _ z => z⟩
  · refine zip_vals r r2 (fun x y u v t rx ry hd s' l => ?_) h5
    obtain ⟨H1, I1, e1⟩ := l
    refine wpAny_mono (h A.in1 pins s' σ H1 x y u v t sb.in1 I1 rx ry (hD _ _ _ _ _ e1 hd)) (fun q s2 z => ?_) fun _ _ x => x
    obtain ⟨z1, H2, I2, e2⟩ := z
    exact ⟨z1, H2, I2, fun a o g => e2 a o (e1 a o g)⟩
  · have e1 : (its.toArray.size == its2.toArray.size) = decide (xs.length = ys.length) := by
      rw [List.size_toArray, List.size_toArray, ← r.length, ← r2.length]; rfl
    rw [e1]
theorem eqT_tup (hD : MonB D) (hs : Slf X D) (h : EqT X n D) : EqT X (n + 1) (DTupB X.K D) := (rcT_tup hD h).inside refs_tup (slf_tup hs)
end
def DObB (K : PySem.W.Frag) (rel : Dat → Dat → Bool → Prop) : Eqw := fun x y t H => ∃ a b d e, x = .ref a ∧ y = .ref b ∧ rel d e t ∧ Rp K H (.ref a) d ∧ Rp K H (.ref b) e
section
variable {X : Cx} {n i : Nat} {C : Addr} {S : SpecT} {rel : Dat → Dat → Bool → Prop}
theorem monB_ob {K : PySem.W.Frag} : MonB (DObB K rel) := fun x y t H H' e ⟨a, b, d, d', h1, h2, h3, h4, h5⟩ => ⟨a, b, d, d', h1, h2, h3, Rp.mono e h4, Rp.mono e h5⟩
theorem refs_ob {K : PySem.W.Frag} : AreRefs (DObB K rel) := fun x y t H ⟨a, b, d, d', h1, h2, _⟩ => ⟨a, b, h1, h2⟩
theorem env_sub {pins : List (Addr × Obj)} {s : Shared} {σ : SV} {H : Hp} {A : Around} (sb : L2.Sub X n A) (I : Inv X pins σ H s) : Env0 X.prog X.w X.K X.mg X.base A X.stack s H := by
  obtain ⟨f, m, b, z, u, r, k, c⟩ := I.env0
  exact ⟨sb.fr ▸ f, m, b, z, u, r, k, c⟩
end
def rEqW (D : Eqw) : R2 := fun x y H Q => ∃ t, D x y t H ∧ ∀ H', Ext H H' → Q (.bl t) H'
theorem op_eqW {X : Cx} {n : Nat} {D : Eqw} (h : RcT X n D) (hr : Room n X.A) : OpR X (compareOp .Eq) (rEqW D) := by
  intro pins s σ H x y v u Q I rx ry hq
  obtain ⟨t, d, q⟩ := hq
  show wpAny (model X.prog X.w) X.A (richCompare .Eq v u) (EP X pins σ Q) X.xe s
  refine wpAny_mono (h X.A pins s σ H x y v u t ⟨hr, rfl⟩ I rx ry d) (fun r s' z => ?_) fun _ _ x => x
  obtain ⟨rfl, H', I', e⟩ := z
  exact ⟨.bl t, H', I', rfl, q H' e⟩
end Kn
namespace Kn
open PySem PySem.Spec PyProof.Rows
open L2 hiding St
/-- texts, numbers -/
def DFlB : Eqw := fun x y t _ => (∃ a b : Str, x = .str a ∧ y = .str b ∧ t = decide (a = b)) ∨ ∃ a b : Int, x = .int a ∧ y = .int b ∧ t = decide (a = b)
theorem monB_fl : MonB DFlB := fun _ _ _ _ _ _ d => d
theorem eqT_fl {X : Cx} : EqT X 0 DFlB := by
  intro A pins s σ H x y u v t sb I rx ry d
  rcases d with ⟨a, b, rfl, rfl, rfl⟩ | ⟨a, b, rfl, rfl, rfl⟩
  · have q := eqAt_V (A := A) (s := s) (y := .str a) (x := .str b) rx ry rfl rfl
    exact q X.prog X.w X.xe _ ⟨by simp only [eqV]; rw [Bool.eq_iff_iff]; simp, H, I, fun _ _ z => z⟩
  · have q := eqAt_V (A := A) (s := s) (y := .int a) (x := .int b) rx ry rfl rfl
    exact q X.prog X.w X.xe _ ⟨by simp only [eqV]; rw [Bool.eq_iff_iff]; simp, H, I, fun _ _ z => z⟩
/-- what == of two objects of the class at C says -/
structure EqK (K : PySem.W.Frag) (C : Addr) (S : SpecT) (rel : Dat → Dat → Bool → Prop) : Prop where
  run : ∀ (d e : Dat) (t : Bool) (O : Own) (R : Out → Own → Prop), rel d e t → R (.ret (.dat (.bl t))) O → S [.dat d, .dat e] O R
  one : ∀ d e t, rel d e t → ∀ G v, Rp K G v d → ∃ a dx fs, v = .ref a ∧ G a = some (.ins C dx fs)
  two : ∀ d e t, rel d e t → ∀ G v, Rp K G v e → ∃ a dx fs, v = .ref a ∧ G a = some (.ins C dx fs)
  slf : ∀ d e t, rel d e t → ∀ G a, (∀ a xs ys, SqT K G a xs → SqT K G a ys → xs = ys) → Rp K G (.ref a) d → Rp K G (.ref a) e → t = true
section
variable {X : Cx} {n i : Nat} {C : Addr} {S : SpecT} {rel : Dat → Dat → Bool → Prop} {O : Own} {k : Slot → Own → Prop}
theorem slf_k (F : EqK X.K C S rel) : Slf X (DObB X.K rel) := fun pins s σ H x t I d => by
  obtain ⟨a, b, d, e, rfl, h2, h3, h4, h5⟩ := d
  cases h2
  exact F.slf d e t h3 H a (fun a xs ys h1 h2 => sqt_one I h1 h2) h4 h5
theorem rcT_k (E : EqC X.prog X.w X.K X.mg X.base n C S) (F : EqK X.K C S rel) : RcT X n (DObB X.K rel) := by
  intro A pins s σ H x y u v t sb I rx ry d
  obtain ⟨a, b, d, e, rfl, rfl, h3, h4, h5⟩ := d
  cases rx
  cases ry
  obtain ⟨_, dx, vx, ea, g1⟩ := F.one d e t h3 H _ h4
  obtain ⟨_, dy, vy, eb, g2⟩ := F.two d e t h3 H _ h5
  cases ea
  cases eb
  obtain ⟨fn, fd, ps, hs, hf, Fn0, hb⟩ := E.ex
  obtain ⟨m1, J1, _⟩ := ins_get I.hok g1
  obtain ⟨m2, J2, _⟩ := ins_get I.hok g2
  obtain ⟨o1, J1, _⟩ := J1.look
  obtain ⟨o2, J2, _⟩ := J2.look
  obtain ⟨fr, hF⟩ := I.fr
  have nf : PySem.W.notFirst X.K C (.ref C) = true := by simp [PySem.W.notFirst]
  refine PySem.W.cmp_K (tb := .ref C) (op := .Eq) sb.room.units0 hF I.ok.mod.kin J1 J2.type nf hs hf ?_
  have two : Vals [V.ref a, V.ref b] [Value.ref a, Value.ref b] := .cons rfl (.cons rfl .nil)
  have sp : spS X.K S [.ref a, .ref b] H (fun v H' => v = .bl t ∧ Ext H H') (fun _ _ _ => False) := by
    refine ⟨fun _ => none, [.dat d, .dat e], fun o O' => o = .ret (.dat (.bl t)), ⟨fun q c h => nomatch h⟩, .cons h4 (.cons h5 .nil), F.run d e t _ _ h3 rfl, fun v H' s O' h1 h2 h3 h4 => ?_, fun cls d e H' O' h1 => nomatch h1⟩
    cases h1
    cases h4
    exact ⟨rfl, fun b o z => hid_le _ _ (h3 b o z)⟩
  have bn := hb s [.ref a, .ref b] I.kIn (spS_len Fn0.len _ _ _ _ sp)
  rw [List.append_nil] at bn
  refine wpAny_call (codeAny_mono (Fn0.ok.run A X.stack s H ⟨[.ref a, .ref b], []⟩ _ _ _ _ sb.room (env_sub sb I) bn two sp) fun r s' hq => ?_)
  match r, hq with
  | .error e, hq => exact passL pins σ H s e s' I hq
  | .ok (.ret w), hq =>
    obtain ⟨z, H', I', rz, rfl, ex⟩ := I.after hq
    cases rz
    exact ⟨rfl, H', I', ex⟩
theorem eqT_k (E : EqC X.prog X.w X.K X.mg X.base n C S) (F : EqK X.K C S rel) : EqT X n (DObB X.K rel) := (rcT_k E F).inside refs_ob (slf_k F)
theorem zip_rel {G : Hp} {K : PySem.W.Frag} (one : ∀ d e t, rel d e t → ∀ G v, Rp K G v d → ∃ a dx fs, v = .ref a ∧ G a = some (.ins C dx fs)) (two : ∀ d e t, rel d e t → ∀ G v, Rp K G v e → ∃ a dx fs, v = .ref a ∧ G a = some (.ins C dx fs)) :
    ∀ {ds es : List Dat} {xs ys : List V} {ts : List Bool}, RpA K G xs ds → RpA K G ys es → Paired (fun (z : Dat × Dat) (t : Bool) => rel z.1 z.2 t) (ds.zip es) ts → Paired (fun (z : V × V) (t : Bool) => DObB K rel z.1 z.2 t G) (xs.zip ys) ts
  | [], _, _, _, _, .nil, _, .nil => .nil
  | _ :: _, [], _, _, _, .cons _ _, .nil, .nil => .nil
  | d :: ds, e :: es, _, _, _, .cons r1 t1, .cons r2 t2, .cons q h => by
    obtain ⟨a, _, _, rfl, _⟩ := one _ _ _ q _ _ r1
    obtain ⟨b, _, _, rfl, _⟩ := two _ _ _ q _ _ r2
    exact .cons ⟨a, b, d, e, rfl, rfl, q, r1, r2⟩ (zip_rel one two t1 t2 h)
/-- (name, mark, objects) == (name, mark, objects) -/
theorem ob_eqTup3B {n1 n2 : Str} {m1 m2 : Int} {ds es : List Dat} {ts : List Bool} (E : EqC X.prog X.w X.K X.mg X.base n C S) (F : EqK X.K C S rel) (hr : Room (n + 2) X.A) (hd : Paired (fun (z : Dat × Dat) (t : Bool) => rel z.1 z.2 t) (ds.zip es) ts)
    (h : k (.dat (.bl (decide (n1 = n2) && (decide (m1 = m2) && (ts.all id && decide (ds.length = es.length)))))) O) : OpB X (compareOp .Eq) (.dat (.tup [.str n1, .int m1, .tup ds])) (.dat (.tup [.str n2, .int m2, .tup es])) O k := by
  have hD : MonB (fun x y t H => DFlB x y t H ∨ DTupB X.K (DObB X.K rel) x y t H) := monB_fl.or (monB_tup monB_ob)
  have hE : EqT X (n + 1) (fun x y t H => DFlB x y t H ∨ DTupB X.K (DObB X.K rel) x y t H) := (eqT_fl.lift (Nat.zero_le _)).or (eqT_tup monB_ob (slf_k F) (eqT_k E F))
  refine ⟨_, op_eqW (rcT_tup hD hE) hr, fun H0 σ ρ H v1 v2 st r1 r2 Q q => ?_⟩
  refine ⟨decide (n1 = n2) && (decide (m1 = m2) && (ts.all id && decide (ds.length = es.length))), ?_, fun H' e => q _ H' _ O h (st.grow e) (.bl _)⟩
  have r1 : Rp X.K (hid O H) v1 (.tup [.str n1, .int m1, .tup ds]) := r1
  have r2 : Rp X.K (hid O H) v2 (.tup [.str n2, .int m2, .tup es]) := r2
  have r1 := Rp.mono hid_le r1
  have r2 := Rp.mono hid_le r2
  have tre : ∀ {x y : V}, Rp X.K H x (.tup ds) → Rp X.K H y (.tup es) → DTupB X.K (DObB X.K rel) x y (ts.all id && decide (ds.length = es.length)) H := fun {x y} x3 y3 => by
    cases x3 with
    | @tup a3 xs3 _ s3 c3 =>
      cases y3 with
      | @tup b3 ys3 _ s4 c4 => exact ⟨a3, b3, xs3, ys3, _, rfl, rfl, s3, s4, zip_rel F.one F.two c3 c4 hd, by rw [c3.length, c4.length]⟩
  cases r1 with
  | @tup a xs _ s1 a1 =>
    cases r2 with
    | @tup b ys _ s2 a2 =>
      cases a1 with
      | cons x1 a1 =>
        cases a1 with
        | cons x2 a1 =>
          cases a1 with
          | cons x3 a1 =>
            cases a1
            cases a2 with
            | cons y1 a2 =>
              cases a2 with
              | cons y2 a2 =>
                cases a2 with
                | cons y3 a2 =>
                  cases a2
                  have t3 := tre x3 y3
                  cases x1; cases y1; cases x2; cases y2
                  refine ⟨a, b, _, _, [decide (n1 = n2), decide (m1 = m2), ts.all id && decide (ds.length = es.length)], rfl, rfl, s1, s2, ?_, ?_⟩
                  · exact .cons (.inl (.inl ⟨n1, n2, rfl, rfl, rfl⟩)) (.cons (.inl (.inr ⟨m1, m2, rfl, rfl, rfl⟩)) (.cons (.inr t3) .nil))
                  · simp [Bool.and_assoc]
end
end Kn
namespace Kn
open PySem
theorem Go.trans {M : Model} {s s1 s2 : Shared} {t t1 t2 : Thread} (h : Go M s t s1 t1) (k : Go M s1 t1 s2 t2) : Go M s t s2 t2 := by
  induction h with
  | refl => exact k
  | step a b _ ih => exact .step a b (ih k)
theorem mildY_same {s σ : Shared} {t τ : Thread} (hs : σ.forget = s.forget) (ht : τ.forget = t.forget) (h : MildY s t) : MildY σ τ := by
  obtain ⟨cur, code, pos, st⟩ := t
  obtain ⟨cur', code', pos', st'⟩ := τ
  have e := ht
  simp only [Thread.forget, Thread.mk.injEq] at e
  obtain ⟨rfl, rfl, rfl, e4⟩ := e
  have eh : σ.heap = s.heap := (Shared.forget_eq hs).1
  cases cur' with
  | yield v g l k =>
    have h' : (match splitAtGen st with | some (fs, _, _) => s.heap.life.registered = [] → closingShows s fs code' g = false | none => False) := h
    show (match splitAtGen st' with | some (fs, _, _) => σ.heap.life.registered = [] → closingShows σ fs code' g = false | none => False)
    have q := congrArg splitAtGen e4
    rw [splitAtGen_forgetAll, splitAtGen_forgetAll] at q
    cases e1 : splitAtGen st with
    | none => rw [e1] at h'; exact h'.elim
    | some x =>
      obtain ⟨fs, b, r⟩ := x
      rw [e1] at h' q
      cases e2 : splitAtGen st' with
      | none => rw [e2] at q; simp at q
      | some y =>
        obtain ⟨fs', b', r'⟩ := y
        rw [e2] at q
        simp only [Option.map_some, Option.some.injEq, Prod.mk.injEq] at q
        have a : fs'.any Frame.guarded = fs.any Frame.guarded := by rw [← any_guarded_forgetAll fs', q.1, any_guarded_forgetAll]
        have h2 : s.heap.life.registered = [] → closingShows s fs code' g = false := h'
        show σ.heap.life.registered = [] → closingShows σ fs' code' g = false
        intro hr
        rw [← h2 (by rw [← eh]; exact hr)]
        unfold closingShows delegateShows
        rw [a, eh]
  | _ => exact h.elim
theorem mild_same {s σ : Shared} {t τ : Thread} (hs : σ.forget = s.forget) (ht : τ.forget = t.forget) (h : Mild s t) : Mild σ τ := by
  rcases h with h | h
  · exact .inl (by rw [← Thread.calm_forget τ, ht, Thread.calm_forget]; exact h)
  · exact .inr (mildY_same hs ht h)
section
variable (den : Code → Sem PySem.Fin) (prog : Program) (w : World)
theorem life_mild (others : List Value) (s : Shared) (t : Thread) (h : MildY s t) (z : s.asleep) : lifeStep den prog w others s t = step den prog w s t := by
  obtain ⟨zr, zc⟩ := z
  obtain ⟨cur, code, pos, st⟩ := t
  cases cur with
  | yield v g l k =>
    cases hs : Thread.special ⟨.yield v g l k, code, pos, st⟩ with
    | false => exact lifeStep_eq_step den prog w others s _ hs zc
    | true =>
      have h' : (match splitAtGen st with | some (fs, _, _) => s.heap.life.registered = [] → closingShows s fs code g = false | none => False) := h
      cases e : splitAtGen st with
      | none => rw [e] at h'; exact h'.elim
      | some x =>
        obtain ⟨fs, b, r⟩ := x
        rw [e] at h'
        have h2 : closingShows s fs code g = false := h' zr
        simp only [lifeStep, hs, if_true, collectorTurn?, e, h2, Bool.false_and, Bool.false_eq_true, if_false, Thread.atItsEnd, stepCounting, zc]
  | _ => exact h.elim
theorem moves_mild (pr : Profile) (s : Shared) (t : Thread) (h : MildY s t) : (Config.single s t).moves pr = [.run 0] := by
  obtain ⟨cur, code, pos, st⟩ := t
  cases cur with
  | yield v g l k => simp [Config.moves, Config.single, movesFrom, Thread.moves, Thread.atomic, Thread.rests, Thread.tells]
  | _ => exact h.elim
theorem pick_mild (s : Shared) (t : Thread) (h : MildY s t) (hr : s.heap.life.registered = []) : (Config.single s t).pick w = .ok (.run 0, .single s t) := by
  have h1 : (Config.single s t).collect? w.params = none := by
    simp [Config.collect?, Config.single, (nothing_to_collect _ _ _ s t hr).1]
  have h2 : (Config.single s t).collectable = [] := by
    simp [Config.collectable, Config.single, (nothing_to_collect w.params _ _ s t hr).2]
  simp only [Config.pick, h1, h2, Config.pickThread, moves_mild _ s t h]
  cases w.params.lifetimes <;> simp
theorem run_mild (s : Shared) (t : Thread) (h : MildY s t) (hl : ∀ others, lifeStep den prog w others s t = step den prog w s t) : (Config.single s t).run den prog w 0 = (step den prog w s t).lift := by
  obtain ⟨cur, code, pos, st⟩ := t
  cases cur with
  | yield v g l k =>
    simp only [Config.run, Config.single]
    simp [hl, others_single, frozenBadly, ThreadState.insideWrite]
    split <;> simp_all [Step.lift, Config.single] <;> split <;> simp
  | _ => exact h.elim
theorem sstep_mild (s : Shared) (t : Thread) (h : MildY s t) (z : s.asleep) : sstep den prog w (.single s t) = (step den prog w s t).lift := by
  simp only [sstep, pick_mild w s t h z.1, Config.move, run_mild den prog w s t h fun o => life_mild den prog w o s t h z]
end
/-- one step of it, on the machine as it is -/
theorem real_step {M : Model} {s s1 : Shared} {t t1 : Thread} (hm : Mild s t) (hk : stepK M.den M.prog M.w s t = .go s1 t1) {σ : Shared} {τ : Thread} (hs : σ.forget = s.forget) (ht : τ.forget = t.forget) (z : σ.asleep) :
    ∃ σ1 τ1, step M.den M.prog M.w σ τ = .go σ1 τ1 ∧ sstep M.den M.prog M.w (.single σ τ) = .go (.single σ1 τ1) ∧ σ1.forget = s1.forget ∧ τ1.forget = t1.forget ∧ σ1.asleep := by
  have e := step_same M.den M.prog M.w hs ht
  rw [← stepK_forget M.den M.prog M.w s t, hk] at e
  cases q : step M.den M.prog M.w σ τ with
  | halt o s2 => rw [q] at e; cases e
  | go σ1 τ1 =>
    rw [q] at e
    simp only [Step.forget, Step.go.injEq] at e
    refine ⟨σ1, τ1, rfl, ?_, e.1, e.2, Shared.asleep_of_life (step_life _ _ _ _ _ _ _ q) z⟩
    rcases mild_same hs ht hm with c | c
    · rcases sstep_single M.den M.prog M.w σ τ c z with r | r
      · rw [r, q]; rfl
      · rw [q] at r; cases r
    · rw [sstep_mild M.den M.prog M.w σ τ c z, q]; rfl
theorem go_real {M : Model} {s s' : Shared} {t t' : Thread} (h : Go M s t s' t') : ∀ {σ : Shared} {τ : Thread}, σ.forget = s.forget → τ.forget = t.forget → σ.asleep →
    ∃ n σ' τ', PySem.runN M.den M.prog M.w n σ τ = .running σ' τ' ∧ schedN M.den M.prog M.w n (.single σ τ) = .running (.single σ' τ') ∧ σ'.forget = s'.forget ∧ τ'.forget = t'.forget ∧ σ'.asleep := by
  induction h with
  | refl s t => exact fun hs ht z => ⟨0, _, _, rfl, rfl, hs, ht, z⟩
  | step hm hk _ ih =>
    intro σ τ hs ht z
    obtain ⟨σ1, τ1, a, b, c, d, z1⟩ := real_step hm hk hs ht z
    obtain ⟨n, σ', τ', e1, e2, e3, e4, z2⟩ := ih c d z1
    exact ⟨n + 1, σ', τ', by simp only [PySem.runN, a]; exact e1, by simp only [schedN, b]; exact e2, e3, e4, z2⟩
/-- to the end -/
theorem go_ends {M : Model} {s s' : Shared} {t : Sem PySem.Fin} {c c' : Code} {p p' : Pos} {r : Result} (h : Go M s ⟨t, c, p, []⟩ s' ⟨leafOf r, c', p', []⟩) (z : s.asleep) (hl : leftWithCleanup s'.gens = false) :
    ∃ n σ', PySem.runN M.den M.prog M.w n s ⟨t, c, p, []⟩ = .halted (outcomeOf r) σ' ∧ schedN M.den M.prog M.w n (.single s ⟨t, c, p, []⟩) = .halted (outcomeOf r) σ' ∧ σ'.forget = s'.forget := by
  obtain ⟨n, σ', τ', e1, e2, e3, e4, z2⟩ := go_real h rfl rfl z
  obtain ⟨cur, code, pos, st⟩ := τ'
  simp only [Thread.forget, Thread.mk.injEq, forgetAll_nil] at e4
  obtain ⟨rfl, rfl, rfl, e5⟩ := e4
  have hst : st = [] := by cases st with | nil => rfl | cons x xs => simp at e5
  subst hst
  have hl' : leftWithCleanup σ'.gens = false := (leftWithCleanup_of_forget_eq e3).trans hl
  have fin : step M.den M.prog M.w σ' ⟨leafOf r, code, pos, []⟩ = .halt (outcomeOf r) σ' := by
    cases r <;> (show finish _ _ = _; simp [finish, hl', outcomeOf])
  have cl : Thread.calm ⟨leafOf r, code, pos, []⟩ = true := by cases r <;> rfl
  have ss : sstep M.den M.prog M.w (.single σ' ⟨leafOf r, code, pos, []⟩) = .halt (outcomeOf r) σ' := by
    rcases sstep_single M.den M.prog M.w σ' _ cl z2 with q | q
    · rw [q, fin]; rfl
    · rw [fin] at q
      cases r <;> (injection q with q1 _; cases q1)
  have snoc1 : ∀ (n : Nat) (s : Shared) (t : Thread), PySem.runN M.den M.prog M.w n s t = .running σ' ⟨leafOf r, code, pos, []⟩ → PySem.runN M.den M.prog M.w (n + 1) s t = .halted (outcomeOf r) σ' := by
    intro n
    induction n with
    | zero => intro s t h; simp only [PySem.runN, Run.running.injEq] at h; obtain ⟨rfl, rfl⟩ := h; simp only [PySem.runN, fin]
    | succ n ih =>
      intro s t h
      rw [PySem.runN] at h ⊢
      cases q : step M.den M.prog M.w s t with
      | go s2 t2 => rw [q] at h; exact ih s2 t2 h
      | halt o s2 => rw [q] at h; cases h
  have snoc2 : ∀ (n : Nat) (c : Config), schedN M.den M.prog M.w n c = .running (.single σ' ⟨leafOf r, code, pos, []⟩) → schedN M.den M.prog M.w (n + 1) c = .halted (outcomeOf r) σ' := by
    intro n
    induction n with
    | zero => intro c h; simp only [schedN, SRun.running.injEq] at h; subst h; simp only [schedN, ss]
    | succ n ih =>
      intro c h
      rw [schedN] at h ⊢
      cases q : sstep M.den M.prog M.w c with
      | go c2 => rw [q] at h; exact ih c2 h
      | halt o s2 => rw [q] at h; cases h
  exact ⟨n + 1, σ', snoc1 n _ _ e1, snoc2 n _ e2, e3⟩
theorem go_of_step {M : Model} {s s1 : Shared} {t t1 : Thread} (h : M.step s t = .go s1 t1) : Mild s t ∧ stepK M.den M.prog M.w s t = .go s1 t1 := by
  cases hl : t.loud with
  | true => rw [M.step_loud hl] at h; cases h
  | false =>
    rw [M.step_quiet hl] at h
    refine ⟨.inl ?_, h⟩
    rw [Thread.calm_eq, hl]
    cases hr : t.refused with
    | false => rfl
    | true =>
      obtain ⟨what, e⟩ := stepK_refused M.den M.prog M.w (s := s) hr
      rw [e] at h; cases h
theorem go_of_reach {M : Model} {base : List Frame} {s s' : Shared} {t : Sem PySem.Fin} {c : Code} {p : Pos} {pre : List Frame} {e : End} (h : Reach M base s t c p pre s' e) :
    ∃ t' c' p' pre', Go M s ⟨t, c, p, pre ++ base⟩ s' ⟨t', c', p', pre' ++ base⟩ ∧ Exits e t' c' p' pre' := by
  induction h with
  | exit hx => exact ⟨_, _, _, _, .refl _ _, hx⟩
  | step hs _ ih =>
    obtain ⟨t', c', p', pre', a, b⟩ := ih
    obtain ⟨m, k⟩ := go_of_step hs
    exact ⟨t', c', p', pre', .step m k a, b⟩
theorem go_of_comes {M : Model} {s s' : Shared} {t t' : Thread} (h : Comes M s t s' t') : Go M s t s' t' := by
  obtain ⟨n, hn⟩ := h
  induction n generalizing s t with
  | zero =>
    have e : Run.running s t = .running s' t' := hn
    cases e
    exact .refl _ _
  | succ n ih =>
    rw [runN_succ] at hn
    cases hs : M.step s t with
    | go s1 t1 =>
      rw [hs] at hn
      obtain ⟨m, k⟩ := go_of_step hs
      exact .step m k (ih hn)
    | halt o s1 => rw [hs] at hn; cases hn
end Kn
namespace Kn
open PySem
/-- a code's run, to its result -/
def PCode (M : Model) (Γ : PySem.Ctx) (R : Result → Shared → Prop) (p : Pos) (s : Shared) : Prop :=
  ∀ st, Γ.Fits st → ∃ r s' c' p', Go M s ⟨M.den Γ.code, Γ.code, p, st⟩ s' ⟨leafOf r, c', p', st⟩ ∧ R r s'
/-- a generator is woken -/
def PWake (M : Model) (Γ : PySem.Ctx) (p : Pos) (g : Nat) (r : Resume) (R : GenResult → Shared → Prop) (s : Shared) : Prop :=
  ∀ st, Γ.Fits st → ∀ l (k : GenResult → Sem PySem.Fin), ∃ res s', Go M s ⟨.resume g r l k, Γ.code, p, st⟩ s' ⟨k res, Γ.code, p, st⟩ ∧ R res s'
def wpP {α : Type} (M : Model) (Γ : PySem.Ctx) : Sem α → (α → Pos → Shared → Prop) → (Value → Pos → Shared → Prop) → Pos → Shared → Prop
  | .pure a, Q, _, p, s => Q a p s
  | .raise e, _, E, p, s => E e p s
  | .rule _ k, Q, E, p, s => wpP M Γ (k ()) Q E p s
  | .at p' k, Q, E, _, s => wpP M Γ (k ()) Q E p' s
  | .load a _ k, Q, E, p, s => ∃ o, s.heap.get? a = some o ∧ wpP M Γ (k o) Q E p s
  | .update a _ f k, Q, E, p, s => (s.heap.get? a).isSome ∧ wpP M Γ (k ()) Q E p { s with heap := s.heap.update a f }
  | .loadIfAlive a k, Q, E, p, s => wpP M Γ (k (s.heap.get? a)) Q E p s
  | .point _ k, Q, E, p, s => wpP M Γ (k ()) Q E p s
  | .alloc o k, Q, E, p, s => wpP M Γ (k s.heap.objs.size) Q E p { s with heap := s.heap.push o }
  | .fresh k, Q, E, p, s => wpP M Γ (k s.toks) Q E p { s with toks := s.toks + 1 }
  | .ask k, Q, E, p, s => wpP M Γ (k ⟨M.prog, M.w.params⟩) Q E p s
  | .choose src n k, Q, E, p, s => n ≠ 0 ∧ wpP M Γ (k (M.w.draws src (s.drawn.get src) % n)) Q E p { s with drawn := s.drawn.bump src }
  | .os q _ k, Q, E, p, s => wpP M Γ (k (Os.step s.os q).2) Q E p { s with os := (Os.step s.os q).1 }
  | .call c h _ _ k, Q, E, p, s => PCode M (Γ.enter c h p) (fun r s' => wpP M Γ (k r) Q E p s') p s
  | .handled own k, Q, E, p, s => wpP M Γ (k (if own then Γ.own else Γ.handled)) Q E p s
  | .genState g k, Q, E, p, s => ∃ x, s.gens[g]? = some x ∧ wpP M Γ (k x.seen) Q E p s
  | .newGen c k, Q, E, p, s => wpP M Γ (k s.gens.size) Q E p { s with gens := s.gens.push (.fresh c) }
  | .resume g r _ k, Q, E, p, s => PWake M Γ p g r (fun x s' => wpP M Γ (k x) Q E p s') s
  | .stack k, Q, E, p, s => wpP M Γ (k ((Γ.code, p) :: Γ.below)) Q E p s
  | .thread k, Q, E, p, s => wpP M Γ (k 0) Q E p s
  | _, _, _, _, _ => False
section
variable {α β : Type} {M : Model} {Γ : PySem.Ctx}
theorem pcode_mono {R R' : Result → Shared → Prop} {p : Pos} {s : Shared} (h : PCode M Γ R p s) (k : ∀ r s, R r s → R' r s) : PCode M Γ R' p s := fun st f => by
  obtain ⟨r, s', c', p', a, b⟩ := h st f
  exact ⟨r, s', c', p', a, k _ _ b⟩
theorem pwake_mono {g : Nat} {x : Resume} {R R' : GenResult → Shared → Prop} {p : Pos} {s : Shared} (h : PWake M Γ p g x R s) (k : ∀ r s, R r s → R' r s) : PWake M Γ p g x R' s := fun st f l c => by
  obtain ⟨r, s', a, b⟩ := h st f l c
  exact ⟨r, s', a, k _ _ b⟩
theorem wpP_mono (t : Sem α) : ∀ {Q Q' : α → Pos → Shared → Prop} {E E' : Value → Pos → Shared → Prop} {p : Pos} {s : Shared}, wpP M Γ t Q E p s → (∀ a p s, Q a p s → Q' a p s) → (∀ e p s, E e p s → E' e p s) → wpP M Γ t Q' E' p s := by
  induction t with
  | pure a => exact fun h kQ _ => kQ _ _ _ h
  | raise e => exact fun h _ kE => kE _ _ _ h
  | unsupported | finish | yield | fork | await | register => exact fun h => False.elim h
  | load a _ k ih | genState a k ih => exact fun ⟨o, ho, h⟩ kQ kE => ⟨o, ho, ih _ h kQ kE⟩
  | update a _ f k ih | choose _ _ k ih => exact fun ⟨ha, h⟩ kQ kE => ⟨ha, ih _ h kQ kE⟩
  | call c h g l k ih => exact fun h kQ kE => pcode_mono h fun r s' z => ih r z kQ kE
  | resume g r l k ih => exact fun h kQ kE => pwake_mono h fun r s' z => ih r z kQ kE
  | _ => rename_i k ih; exact fun h kQ kE => ih _ h kQ kE
theorem wpP_bind (t : Sem α) {f : α → Sem β} {Q : β → Pos → Shared → Prop} {E : Value → Pos → Shared → Prop} : ∀ {p : Pos} {s : Shared}, wpP M Γ t (fun a p s => wpP M Γ (f a) Q E p s) E p s → wpP M Γ (t.bind f) Q E p s := by
  induction t with
  | pure a => exact fun h => h
  | raise e => exact fun h => h
  | unsupported | finish | yield | fork | await | register => exact fun h => False.elim h
  | load a _ k ih | genState a k ih => exact fun ⟨o, ho, h⟩ => ⟨o, ho, ih _ h⟩
  | update a _ f k ih | choose _ _ k ih => exact fun ⟨ha, h⟩ => ⟨ha, ih _ h⟩
  | call c h g l k ih => exact fun h => pcode_mono h fun r s' z => ih r z
  | resume g r l k ih => exact fun h => pwake_mono h fun r s' z => ih r z
  | _ => rename_i k ih; exact fun h => ih _ h
theorem wpP_tryCatch (t : Sem α) {f : Value → Sem α} {Q : α → Pos → Shared → Prop} {E : Value → Pos → Shared → Prop} : ∀ {p : Pos} {s : Shared}, wpP M Γ t Q (fun a p s => wpP M Γ (f a) Q E p s) p s → wpP M Γ (t.tryCatch f) Q E p s := by
  induction t with
  | pure a => exact fun h => h
  | raise e => exact fun h => h
  | unsupported | finish | yield | fork | await | register => exact fun h => False.elim h
  | load a _ k ih | genState a k ih => exact fun ⟨o, ho, h⟩ => ⟨o, ho, ih _ h⟩
  | update a _ f k ih | choose _ _ k ih => exact fun ⟨ha, h⟩ => ⟨ha, ih _ h⟩
  | call c h g l k ih => exact fun h => pcode_mono h fun r s' z => ih r z
  | resume g r l k ih => exact fun h => pwake_mono h fun r s' z => ih r z
  | _ => rename_i k ih; exact fun h => ih _ h
theorem wpP_keep (vs : List Value) (t : Sem α) {Q : α → Pos → Shared → Prop} {E : Value → Pos → Shared → Prop} : ∀ {p : Pos} {s : Shared}, wpP M Γ t Q E p s → wpP M Γ (t.keep vs) Q E p s := by
  induction t with
  | pure a => exact fun h => h
  | raise e => exact fun h => h
  | unsupported | finish | yield | fork | await | register => exact fun h => False.elim h
  | load a _ k ih | genState a k ih => exact fun ⟨o, ho, h⟩ => ⟨o, ho, ih _ h⟩
  | update a _ f k ih | choose _ _ k ih => exact fun ⟨ha, h⟩ => ⟨ha, ih _ h⟩
  | call c h g l k ih => exact fun h => pcode_mono h fun r s' z => ih r z
  | resume g r l k ih => exact fun h => pwake_mono h fun r s' z => ih r z
  | _ => rename_i k ih; exact fun h => ih _ h
/-- what the library reads of a code -/
theorem pcode_of {R : Result → Shared → Prop} {p : Pos} {s : Shared} (h : wpCode M Γ R p s) : PCode M Γ R p s := fun st f => by
  obtain ⟨r, s', a, b⟩ := h
  obtain ⟨t', c', p', pre', g, rfl, rfl⟩ := go_of_reach (runs_reach a st f)
  exact ⟨r, s', c', p', g, b⟩
theorem wpP_of (t : Sem α) : ∀ {Q : α → Pos → Shared → Prop} {E : Value → Pos → Shared → Prop} {p : Pos} {s : Shared}, Sem.wp M Γ t Q E p s → wpP M Γ t Q E p s := by
  induction t with
  | pure a => exact fun h => h
  | raise e => exact fun h => h
  | unsupported | finish | yield | fork | await | register => exact fun h => False.elim h
  | load a _ k ih | genState a k ih => exact fun ⟨o, ho, h⟩ => ⟨o, ho, ih _ h⟩
  | update a _ f k ih | choose _ _ k ih => exact fun ⟨ha, h⟩ => ⟨ha, ih _ h⟩
  | call c h g l k ih => exact fun h => pcode_mono (pcode_of h) fun r s' z => ih r z
  | resume g r l k ih => exact fun ⟨res, s', hw, h⟩ st f l' k' => ⟨res, s', go_of_comes (wakes_comes f l' k' hw), ih _ h⟩
  | _ => rename_i k ih; exact fun h => ih _ h
end
/-- a read tree goes to its leaf -/
theorem wpP_go {M : Model} {Γ : PySem.Ctx} {st : List Frame} (f : Γ.Fits st) (t : Sem PySem.Fin) : ∀ {Q : PySem.Fin → Pos → Shared → Prop} {E : Value → Pos → Shared → Prop} {p : Pos} {s : Shared}, wpP M Γ t Q E p s →
    ∃ s' p' leaf, Go M s ⟨t, Γ.code, p, st⟩ s' ⟨leaf, Γ.code, p', st⟩ ∧ ((∃ a, leaf = .pure a ∧ Q a p' s') ∨ ∃ e, leaf = .raise e ∧ E e p' s') := by
  have one : ∀ {s s1 : Shared} {t t1 : Thread}, M.step s t = .go s1 t1 → ∀ {s' t'}, Go M s1 t1 s' t' → Go M s t s' t' := fun h _ _ k => .step (go_of_step h).1 (go_of_step h).2 k
  induction t with
  | pure a => intro Q E p s h; exact ⟨s, p, _, .refl _ _, .inl ⟨a, rfl, h⟩⟩
  | raise e => intro Q E p s h; exact ⟨s, p, _, .refl _ _, .inr ⟨e, rfl, h⟩⟩
  | unsupported | finish | yield | fork | await | register => intro Q E p s h; exact False.elim h
  | rule tag k ih => intro Q E p s h; obtain ⟨s', p', lf, c, r⟩ := ih () h; exact ⟨s', p', lf, one (step_rule ..) c, r⟩
  | «at» q k ih => intro Q E p s h; obtain ⟨s', p', lf, c, r⟩ := ih () h; exact ⟨s', p', lf, one (step_at ..) c, r⟩
  | load a part k ih => intro Q E p s h; obtain ⟨o, ho, h⟩ := h; obtain ⟨s', p', lf, c, r⟩ := ih o h; exact ⟨s', p', lf, one (step_load _ _ _ _ _ _ _ ho) c, r⟩
  | update a part f k ih => intro Q E p s h; obtain ⟨ha, h⟩ := h; obtain ⟨s', p', lf, c, r⟩ := ih () h; exact ⟨s', p', lf, one (step_update _ _ _ _ _ _ _ _ ha) c, r⟩
  | loadIfAlive a k ih => intro Q E p s h; obtain ⟨s', p', lf, c, r⟩ := ih _ h; exact ⟨s', p', lf, one (step_loadIfAlive ..) c, r⟩
  | point l k ih => intro Q E p s h; obtain ⟨s', p', lf, c, r⟩ := ih () h; exact ⟨s', p', lf, one (step_point ..) c, r⟩
  | alloc o k ih => intro Q E p s h; obtain ⟨s', p', lf, c, r⟩ := ih _ h; exact ⟨s', p', lf, one (step_alloc ..) c, r⟩
  | fresh k ih => intro Q E p s h; obtain ⟨s', p', lf, c, r⟩ := ih _ h; exact ⟨s', p', lf, one (step_fresh ..) c, r⟩
  | ask k ih => intro Q E p s h; obtain ⟨s', p', lf, c, r⟩ := ih _ h; exact ⟨s', p', lf, one (step_ask ..) c, r⟩
  | choose src n k ih => intro Q E p s h; obtain ⟨hn, h⟩ := h; obtain ⟨s', p', lf, c, r⟩ := ih _ h; exact ⟨s', p', lf, one (step_choose _ _ _ _ _ _ _ hn) c, r⟩
  | os q l k ih => intro Q E p s h; obtain ⟨s', p', lf, c, r⟩ := ih _ h; exact ⟨s', p', lf, one (step_os ..) c, r⟩
  | call c h0 g l k ih =>
    intro Q E p s h
    obtain ⟨r, s1, c', p', go, h⟩ := h (.ret k h0 g l Γ.code p [] :: st) (f.enter c k h0 g l p [])
    obtain ⟨s', p'', lf, go2, x⟩ := ih r h
    exact ⟨s', p'', lf, one (step_call ..) (go.trans (one (step_leaf_ret ..) go2)), x⟩
  | handled own k ih =>
    intro Q E p s h
    obtain ⟨s', p', lf, c, r⟩ := ih _ h
    refine ⟨s', p', lf, one ?_ c, r⟩
    rw [step_handled]
    cases own
    · rw [f.handled]; rfl
    · rw [f.own]; rfl
  | genState g k ih => intro Q E p s h; obtain ⟨x, hx, h⟩ := h; obtain ⟨s', p', lf, c, r⟩ := ih _ h; exact ⟨s', p', lf, one (step_genState _ _ _ _ _ _ hx) c, r⟩
  | newGen c k ih => intro Q E p s h; obtain ⟨s', p', lf, c, r⟩ := ih _ h; exact ⟨s', p', lf, one (step_newGen ..) c, r⟩
  | resume g x l k ih =>
    intro Q E p s h
    obtain ⟨res, s1, go, h⟩ := h st f l k
    obtain ⟨s', p', lf, go2, r⟩ := ih res h
    exact ⟨s', p', lf, go.trans go2, r⟩
  | stack k ih => intro Q E p s h; obtain ⟨s', p', lf, c, r⟩ := ih _ h; exact ⟨s', p', lf, one (by rw [f.below]; exact step_stack ..) c, r⟩
  | thread k ih => intro Q E p s h; obtain ⟨s', p', lf, c, r⟩ := ih _ h; exact ⟨s', p', lf, one (step_thread ..) c, r⟩
/-- what a code's tree leaves -/
def finP (M : Model) (Γ : PySem.Ctx) (R : Result → Shared → Prop) : PySem.Fin → Pos → Shared → Prop
  | .done f, _, s => R (.ok f) s
  | .again c, p, s => c.quiet = true ∧ PCode M (Γ.goto c) R p s
theorem pcode_tree {M : Model} {Γ : PySem.Ctx} {R : Result → Shared → Prop} {p : Pos} {s : Shared} (h : wpP M Γ (M.den Γ.code) (finP M Γ R) (fun e _ s' => R (.error e) s') p s) : PCode M Γ R p s := fun st f => by
  obtain ⟨s', p', leaf, go, r⟩ := wpP_go f _ h
  rcases r with ⟨a, rfl, q⟩ | ⟨e, rfl, q⟩
  · cases a with
    | done x => exact ⟨.ok x, s', _, _, go, q⟩
    | again c =>
      obtain ⟨hq, k⟩ := q
      obtain ⟨r, s2, c', p2, go2, q2⟩ := k st (f.goto c)
      have e := step_again (M := M) s' Γ.code p' st c hq
      exact ⟨r, s2, c', p2, go.trans (.step (go_of_step e).1 (go_of_step e).2 go2), q2⟩
  · exact ⟨.error e, s', _, _, go, q⟩
def wpAnyP {α : Type} (M : Model) (A : Around) (t : Sem α) (Q : α → Shared → Prop) (E : Value → Shared → Prop) (s : Shared) : Prop :=
  ∀ Γ p, Γ.In A → wpP M Γ t (fun a _ s' => Q a s') (fun e _ s' => E e s') p s
def codeAnyP (M : Model) (A : Around) (c : Code) (R : Result → Shared → Prop) (s : Shared) : Prop :=
  ∀ Γ p, Γ.code = c → Γ.Below A → PCode M Γ R p s
section
variable {α β : Type} {M : Model} {A : Around} {E E' : Value → Shared → Prop} {s : Shared}
theorem anyP_of {t : Sem α} {Q : α → Shared → Prop} (h : wpAny M A t Q E s) : wpAnyP M A t Q E s := fun Γ p i => wpP_of t (h Γ p i)
theorem codeP_of {c : Code} {R : Result → Shared → Prop} (h : codeAny M A c R s) : codeAnyP M A c R s := fun Γ p e b => pcode_of (h Γ p e b)
theorem anyP_mono {t : Sem α} {Q Q' : α → Shared → Prop} (h : wpAnyP M A t Q E s) (kQ : ∀ a s, Q a s → Q' a s) (kE : ∀ e s, E e s → E' e s) : wpAnyP M A t Q' E' s := fun Γ p i => wpP_mono t (h Γ p i) (fun a _ s => kQ a s) fun e _ s => kE e s
theorem codeP_mono {c : Code} {R R' : Result → Shared → Prop} (h : codeAnyP M A c R s) (k : ∀ r s, R r s → R' r s) : codeAnyP M A c R' s := fun Γ p e b => pcode_mono (h Γ p e b) k
theorem anyP_pure {a : α} {Q : α → Shared → Prop} (h : Q a s) : wpAnyP M A (pure a) Q E s := fun _ _ _ => h
/-- one that the library reads, then any -/
theorem anyP_bind {t : Sem α} {f : α → Sem β} {Q : β → Shared → Prop} (h : wpAnyP M A t (fun a s' => wpAnyP M A (f a) Q E s') E s) : wpAnyP M A (t >>= f) Q E s := fun Γ p i =>
  wpP_bind t (wpP_mono t (h Γ p i) (fun a p' s' z => z Γ p' i) fun _ _ _ z => z)
theorem anyP_bind0 {t : Sem α} {f : α → Sem β} {Q : β → Shared → Prop} (h : wpAny M A t (fun a s' => wpAnyP M A (f a) Q E s') E s) : wpAnyP M A (t >>= f) Q E s := anyP_bind (anyP_of h)
theorem anyP_try {t : Sem α} {f : Value → Sem α} {Q : α → Shared → Prop} (h : wpAnyP M A t Q (fun e s' => wpAnyP M A (f e) Q E s') s) : wpAnyP M A (tryCatch t f) Q E s := fun Γ p i =>
  wpP_tryCatch t (wpP_mono t (h Γ p i) (fun _ _ _ z => z) fun a p' s' z => z Γ p' i)
theorem anyP_holding {vs : List Value} {t : Sem α} {Q : α → Shared → Prop} (h : wpAnyP M A t Q E s) : wpAnyP M A (holding vs t) Q E s := fun Γ p i => by
  rw [holding_eq_keep]; exact wpP_keep _ t (h Γ p i)
theorem anyP_attempt {t : Sem α} {Q : Except Value α → Shared → Prop} (h : wpAnyP M A t (fun a => Q (.ok a)) (fun e => Q (.error e)) s) : wpAnyP M A t.attempt Q E s := by
  unfold Sem.attempt
  exact anyP_try (anyP_bind (anyP_mono h (fun a s z => anyP_pure z) fun e s z => anyP_pure z))
end
end Kn
namespace Kn
open PySem
theorem go_one {M : Model} {s s1 s' : Shared} {t t1 t' : Thread} (h : M.step s t = .go s1 t1) (k : Go M s1 t1 s' t') : Go M s t s' t' := .step (go_of_step h).1 (go_of_step h).2 k
/-- a read tree, and what is bound behind it -/
theorem go_wrap {α : Type} {M : Model} {Γ : PySem.Ctx} {fs base : List Frame} (f : Γ.Fits base) {Goal : Shared → Thread → Prop} (back : ∀ {s s1 : Shared} {t t1 : Thread}, Go M s t s1 t1 → Goal s1 t1 → Goal s t) (K : α → Sem PySem.Fin) (J : Value → Sem PySem.Fin) (gd : Bool → Bool) (lv : List Value → List Value) (m : Sem α) :
    ∀ {Q : α → Pos → Shared → Prop} {E : Value → Pos → Shared → Prop} {p : Pos} {s : Shared}, wpP M (Γ.over fs) m Q E p s → (∀ a p' s', Q a p' s' → Goal s' ⟨K a, Γ.code, p', fs ++ base⟩) → (∀ x p' s', E x p' s' → Goal s' ⟨J x, Γ.code, p', fs ++ base⟩) → Goal s ⟨m.wrap K J gd lv, Γ.code, p, fs ++ base⟩ := by
  have ff : (Γ.over fs).Fits (fs ++ base) := f.over fs
  have one : ∀ {s s1 : Shared} {t t1 : Thread}, M.step s t = .go s1 t1 → Goal s1 t1 → Goal s t := fun h g => back (go_one h (.refl _ _)) g
  induction m with
  | pure a => intro Q E p s h hQ _; exact hQ a p s h
  | raise x => intro Q E p s h _ hE; exact hE x p s h
  | unsupported | finish | yield | fork | await | register => intro Q E p s h; exact False.elim h
  | rule tag k ih => intro Q E p s h hQ hE; exact one (step_rule ..) (ih () h hQ hE)
  | «at» q k ih => intro Q E p s h hQ hE; exact one (step_at ..) (ih () h hQ hE)
  | load a part k ih => intro Q E p s h hQ hE; obtain ⟨o, ho, h⟩ := h; exact one (step_load _ _ _ _ _ _ _ ho) (ih o h hQ hE)
  | update a part g k ih => intro Q E p s h hQ hE; obtain ⟨ha, h⟩ := h; exact one (step_update _ _ _ _ _ _ _ _ ha) (ih () h hQ hE)
  | loadIfAlive a k ih => intro Q E p s h hQ hE; exact one (step_loadIfAlive ..) (ih _ h hQ hE)
  | point l k ih => intro Q E p s h hQ hE; exact one (step_point ..) (ih () h hQ hE)
  | alloc o k ih => intro Q E p s h hQ hE; exact one (step_alloc ..) (ih _ h hQ hE)
  | fresh k ih => intro Q E p s h hQ hE; exact one (step_fresh ..) (ih _ h hQ hE)
  | ask k ih => intro Q E p s h hQ hE; exact one (step_ask ..) (ih _ h hQ hE)
  | choose src n k ih => intro Q E p s h hQ hE; obtain ⟨hn, h⟩ := h; exact one (step_choose _ _ _ _ _ _ _ hn) (ih _ h hQ hE)
  | os q l k ih => intro Q E p s h hQ hE; exact one (step_os ..) (ih _ h hQ hE)
  | call c h0 g l k ih =>
    intro Q E p s h hQ hE
    obtain ⟨r, s1, c', p', go, h⟩ := h (.ret (fun x => (k x).wrap K J gd lv) h0 (gd g) (lv l) Γ.code p [] :: (fs ++ base)) (ff.enter c _ h0 _ _ p [])
    exact one (step_call ..) (back go (one (step_leaf_ret ..) (ih r h hQ hE)))
  | handled own k ih =>
    intro Q E p s h hQ hE
    refine one ?_ (ih _ h hQ hE)
    show M.step s ⟨.handled own fun x => (k x).wrap K J gd lv, Γ.code, p, fs ++ base⟩ = _
    rw [step_handled]
    cases own
    · rw [ff.handled]; rfl
    · rw [ff.own]; rfl
  | genState g k ih => intro Q E p s h hQ hE; obtain ⟨x, hx, h⟩ := h; exact one (step_genState _ _ _ _ _ _ hx) (ih _ h hQ hE)
  | newGen c k ih => intro Q E p s h hQ hE; exact one (step_newGen ..) (ih _ h hQ hE)
  | resume g x l k ih =>
    intro Q E p s h hQ hE
    obtain ⟨res, s1, go, h⟩ := h (fs ++ base) ff (lv l) fun x => (k x).wrap K J gd lv
    exact back go (ih res h hQ hE)
  | stack k ih =>
    intro Q E p s h hQ hE
    refine one ?_ (ih _ h hQ hE)
    show M.step s ⟨.stack fun x => (k x).wrap K J gd lv, Γ.code, p, fs ++ base⟩ = _
    rw [step_stack, ff.below]; rfl
  | thread k ih => intro Q E p s h hQ hE; exact one (step_thread ..) (ih _ h hQ hE)
/-- to the next yield, or to the end -/
def PSeg (M : Model) (A : Around) (Q : End → Shared → Prop) (c : Code) (t : Sem PySem.Fin) (fs : List Frame) (s : Shared) : Prop :=
  ∀ (Γ : PySem.Ctx) (p : Pos), Γ.code = c → Γ.Woken A → ∀ base : List Frame, Γ.Fits base → ∃ e s' t' c' p' pre', Go M s ⟨t, c, p, fs ++ base⟩ s' ⟨t', c', p', pre' ++ base⟩ ∧ Exits e t' c' p' pre' ∧ Q e s'
section
variable {M : Model} {A : Around} {Q : End → Shared → Prop} {c : Code} {fs : List Frame} {s : Shared}
theorem pseg_mono {Q' : End → Shared → Prop} {t : Sem PySem.Fin} (h : PSeg M A Q c t fs s) (k : ∀ e s, Q e s → Q' e s) : PSeg M A Q' c t fs s := fun Γ p hc hw base f => by
  obtain ⟨e, s', t', c', p', pre', a, b, q⟩ := h Γ p hc hw base f
  exact ⟨e, s', t', c', p', pre', a, b, k _ _ q⟩
theorem pseg_wrap {α : Type} {m : Sem α} {K : α → Sem PySem.Fin} {J : Value → Sem PySem.Fin} {gd : Bool → Bool} {lv : List Value → List Value}
    (h : wpAnyP M (A.over c fs) m (fun a s' => PSeg M A Q c (K a) fs s') (fun x s' => PSeg M A Q c (J x) fs s') s) : PSeg M A Q c (m.wrap K J gd lv) fs s := fun Γ p hc hw base f => by
  subst hc
  exact go_wrap (Goal := fun s th => ∃ e s' t' c' p' pre', Go M s th s' ⟨t', c', p', pre' ++ base⟩ ∧ Exits e t' c' p' pre' ∧ Q e s') f
    (fun g ⟨e, s', t', c', p', pre', a, b⟩ => ⟨e, s', t', c', p', pre', g.trans a, b⟩) K J gd lv m (h (Γ.over fs) p (hw.over fs)) (fun a p' s' z => z Γ p' rfl hw base f) fun x p' s' z => z Γ p' rfl hw base f
theorem pseg_bind {α : Type} {m : Sem α} {K : α → Sem PySem.Fin} (h : wpAnyP M (A.over c fs) m (fun a s' => PSeg M A Q c (K a) fs s') (fun x s' => PSeg M A Q c (.raise x) fs s') s) : PSeg M A Q c (m >>= K) fs s := by
  rw [Sem.bind_eq_wrap']; exact pseg_wrap h
theorem pseg_at {q : Pos} {k : Unit → Sem PySem.Fin} (h : PSeg M A Q c (k ()) fs s) : PSeg M A Q c (.at q k) fs s :=
  pseg_wrap (m := standAt q) (K := k) (J := .raise) (gd := id) (lv := id) (anyP_of (wpAny_standAt h))
theorem pseg_point {l : List Value} {k : Unit → Sem PySem.Fin} (h : PSeg M A Q c (k ()) fs s) : PSeg M A Q c (.point l k) fs s :=
  pseg_wrap (m := point) (K := k) (J := .raise) (gd := id) (lv := fun _ => l) (anyP_of (wpAny_point h))
theorem pseg_call {c' : Code} {h0 : Option Value} {g : Bool} {l : List Value} {k : Result → Sem PySem.Fin} (h : ∀ p, PSeg M A Q c' (M.den c') (.ret k h0 g l c p [] :: fs) s) : PSeg M A Q c (.call c' h0 g l k) fs s := fun Γ p hc hw base f => by
  subst hc
  obtain ⟨e, s', t', c2, p', pre', a, b⟩ := h p (Γ.goto c') p rfl (hw.goto c') base (f.goto c')
  exact ⟨e, s', t', c2, p', pre', go_one (step_call ..) a, b⟩
theorem pseg_leaf {k : Result → Sem PySem.Fin} {h0 : Option Value} {g : Bool} {l : List Value} {c1 : Code} {p1 : Pos} {kp : List Value} (r : Result) (h : PSeg M A Q c1 (k r) fs s) : PSeg M A Q c (leafOf r) (.ret k h0 g l c1 p1 kp :: fs) s := fun Γ p hc hw base f => by
  subst hc
  obtain ⟨e, s', t', c2, p', pre', a, b⟩ := h (Γ.goto c1) p1 rfl (hw.goto c1) base (f.goto c1)
  exact ⟨e, s', t', c2, p', pre', go_one (step_leaf_ret ..) a, b⟩
theorem pseg_again {c' : Code} (hq : c'.quiet = true) (h : PSeg M A Q c' (M.den c') fs s) : PSeg M A Q c (.pure (.again c')) fs s := fun Γ p hc hw base f => by
  subst hc
  obtain ⟨e, s', t', c2, p', pre', a, b⟩ := h (Γ.goto c') p rfl (hw.goto c') base (f.goto c')
  exact ⟨e, s', t', c2, p', pre', go_one (step_again _ _ _ _ _ _ hq) a, b⟩
theorem pseg_end (r : Result) (h : Q (.ret r) s) : PSeg M A Q c (leafOf r) [] s := fun Γ p hc hw base f => ⟨.ret r, s, _, _, p, [], .refl _ _, ⟨rfl, rfl⟩, h⟩
theorem pseg_yield {v : Value} {g : Bool} {l : List Value} {k : Resume → Sem PySem.Fin} (hfs : splitAtGen fs = none) (h : ∀ p, Q (.susp v g l k c p fs) s) : PSeg M A Q c (.yield v g l k) fs s := fun Γ p hc hw base f => ⟨.susp v g l k c p fs, s, _, c, p, fs, .refl _ _, ⟨rfl, rfl, rfl, rfl, hfs⟩, h p⟩
end
/-- nothing shows at this end -/
def EndMild (s : Shared) : End → Prop
  | .ret _ => True
  | .susp _ g _ _ c _ fs => s.heap.life.registered = [] → closingShows s fs c g = false
/-- the turn of a generator that is woken at s (its own mark says running there) -/
def PTurn (M : Model) (A : Around) (Q : End → Shared → Prop) : GenState → Shared → Prop
  | .fresh c, s => PSeg M A Q c (M.den c) [] s
  | .suspended k _ c _ fs _, s => PSeg M A Q c (k (.send .none)) fs s
  | _, _ => False
theorem pturn_mono {M : Model} {A : Around} {Q Q' : End → Shared → Prop} {gs : GenState} {s : Shared} (h : PTurn M A Q gs s) (k : ∀ e s, Q e s → Q' e s) : PTurn M A Q' gs s := by
  cases gs with
  | running => exact h.elim
  | finished => exact h.elim
  | fresh c => exact pseg_mono h k
  | suspended k0 l0 c p0 fs cl => exact pseg_mono (t := k0 (.send .none)) h k
theorem go_exit {M : Model} {e : End} {t' : Sem PySem.Fin} {c' c : Code} {p' p : Pos} {pre' st : List Frame} {s1 : Shared} {g : Nat} {k : GenResult → Sem PySem.Fin} {l : List Value} (hx : Exits e t' c' p' pre') (hm : EndMild s1 e) :
    Go M s1 ⟨t', c', p', pre' ++ .gen g k l c p :: st⟩ (s1.setGen g e.genState) ⟨k e.result, c, p, st⟩ := by
  cases e with
  | ret r =>
    obtain ⟨rfl, rfl⟩ := hx
    exact go_one (step_leaf_gen ..) (.refl _ _)
  | susp v g0 l0 k0 c0 p0 fs0 =>
    obtain ⟨rfl, rfl, rfl, rfl, hfs⟩ := hx
    have e : splitAtGen (pre' ++ .gen g k l c p :: st) = some (pre', (g, k, c, p), st) := by rw [splitAtGen_append_none _ hfs, splitAtGen_gen]; simp
    refine .step (.inr ?_) ?_ (.refl _ _)
    · show (match splitAtGen (pre' ++ .gen g k l c p :: st) with | some (fs, _, _) => s1.heap.life.registered = [] → closingShows s1 fs c' g0 = false | none => False)
      rw [e]; exact hm
    · simp only [stepK, PySem.step, e]; rfl
theorem pwake_of {M : Model} {A : Around} {Γ : PySem.Ctx} {p : Pos} {g : Nat} {gs : GenState} {R : GenResult → Shared → Prop} {s : Shared} (hΓ : Γ.In A) (at_ : s.gens[g]? = some gs)
    (h : PTurn M A (fun e s1 => EndMild s1 e ∧ R e.result (s1.setGen g e.genState)) gs (s.setGen g .running)) : PWake M Γ p g (.send .none) R s := fun st f l k => by
  cases gs with
  | running => exact h.elim
  | finished => exact h.elim
  | fresh c =>
    obtain ⟨e, s1, t', c', p', pre', a, b, hm, hr⟩ := h (Γ.wake c p) p rfl (hΓ.wake c p) (.gen g k l Γ.code p :: st) (f.wake c g k l p)
    exact ⟨e.result, _, go_one (step_resume_fresh _ _ _ _ _ _ _ at_) (a.trans (go_exit b hm)), hr⟩
  | suspended k0 l0 c p0 fs cl =>
    obtain ⟨e, s1, t', c', p', pre', a, b, hm, hr⟩ := h (Γ.wake c p) p0 rfl (hΓ.wake c p) (.gen g k l Γ.code p :: st) (f.wake c g k l p)
    exact ⟨e.result, _, go_one (step_resume_suspended _ _ _ _ _ _ _ _ at_) (a.trans (go_exit b hm)), hr⟩
theorem anyP_resume {α : Type} {M : Model} {A : Around} {g : Nat} {gs : GenState} {l : List Value} {k : GenResult → Sem α} {Q : α → Shared → Prop} {E : Value → Shared → Prop} {s : Shared} (at_ : s.gens[g]? = some gs)
    (h : PTurn M A (fun e s1 => EndMild s1 e ∧ wpAnyP M A (k e.result) Q E (s1.setGen g e.genState)) gs (s.setGen g .running)) : wpAnyP M A (.resume g (.send .none) l k) Q E s := fun Γ p hΓ =>
  pwake_mono (pwake_of (R := fun res s' => wpAnyP M A (k res) Q E s') hΓ at_ h) fun r s' z => z Γ p hΓ
section
variable {α : Type} {M : Model} {A : Around} {s : Shared} {E : Value → Shared → Prop}
theorem anyP_run {c : Code} {h : Option Value} {Q : Flow → Shared → Prop} (hc : codeAnyP M (A.mark h) c (fun r s' => match r with | .ok f => Q f s' | .error e => E e s') s) (hnb : h ≠ some byPass := by intro x; cases x) : wpAnyP M A (run c h) Q E s := fun Γ p hΓ => by
  refine pcode_mono (hc (Γ.enter c h p) p rfl (hΓ.enter c h p hnb)) fun r s' z => ?_
  cases r with
  | ok f => exact z
  | error e => exact z
theorem anyP_call {f : Value} {us : List Value} {kw : List (Str × Value)} {Q : Value → Shared → Prop} (hc : codeAnyP M A (.call f ⟨us, kw⟩) (fun r s' => match r with | .ok (.ret v) => Q v s' | .ok _ => False | .error e => E e s') s) : wpAnyP M A (call f us kw) Q E s := by
  unfold call runValue
  refine anyP_bind (anyP_run (h := none) (codeP_mono hc fun r s' z => ?_))
  cases r with
  | error e => exact z
  | ok f =>
    cases f with
    | ret v => exact anyP_pure z
    | _ => exact z.elim
theorem codeP_tree {c : Code} {R : Result → Shared → Prop} (h : wpAnyP M (A.under c) (M.den c) (fun fin s' => match fin with | .done f => R (.ok f) s' | .again c' => c'.quiet = true ∧ codeAnyP M A c' R s') (fun e s' => R (.error e) s') s) : codeAnyP M A c R s := fun Γ p hc hΓ => by
  subst hc
  refine pcode_tree (wpP_mono _ (h Γ p hΓ.in) (fun fin p' s' z => ?_) fun _ _ _ z => z)
  cases fin with
  | done f => exact z
  | again c' => exact ⟨z.1, z.2 (Γ.goto c') p' rfl (hΓ.goto c')⟩
end
end Kn
namespace Kn
open PySem PySem.Spec PyProof.Rows
open L2 hiding St
open LamX (CodeO TabB LamS lamCx lamEnv)
end Kn
namespace Kn
open PySem PySem.Spec PyProof.Rows
open L2 hiding St
end Kn
namespace Kn
open PySem PySem.Spec PyProof.Rows
def maskG : GenState → GenState
  | .suspended _ l c p fs cl => .suspended stuckK l c p fs cl
  | x => x
def EndOk : End → Prop
  | .ret _ => True
  | .susp _ _ _ _ _ _ fs => splitAtGen fs = none
theorem no_stuck {M : Model} {w : String} {Γ : PySem.Ctx} {p : Pos} {fs : List Frame} {s s' : Shared} {e : End} : ¬ Runs M Γ p (.unsupported w) fs s e s' := by
  intro h
  generalize ht : (Sem.unsupported w : Sem PySem.Fin) = t at h
  induction h <;> first | (cases ht; done) | (subst ht; simp_all)
theorem Agree.seen {x y : GenState} (h : Agree x y) : x.seen = y.seen := by
  cases h <;> rfl
theorem split_app : ∀ {a b : List Frame}, splitAtGen a = none → splitAtGen b = none → splitAtGen (a ++ b) = none
  | [], _, _, h => h
  | .gen .. :: _, _, h, _ => by cases h
  | .ret k h0 g l c p kp :: a, b, h, h2 => by
    have h' : (splitAtGen a).map (fun (x : List Frame × (Nat × (GenResult → Sem PySem.Fin) × Code × Pos) × List Frame) => (Frame.ret k h0 g l c p kp :: x.1, x.2.1, x.2.2)) = none := h
    have h1 : splitAtGen a = none := Option.map_eq_none_iff.mp h'
    show (splitAtGen (a ++ b)).map _ = none
    rw [split_app h1 h2]; rfl
theorem split_tail {F : Frame} {fs : List Frame} (h : splitAtGen (F :: fs) = none) : splitAtGen fs = none := by
  cases F with
  | gen => cases h
  | ret k h0 g l c p kp =>
    have h' : (splitAtGen fs).map (fun (x : List Frame × (Nat × (GenResult → Sem PySem.Fin) × Code × Pos) × List Frame) => (Frame.ret k h0 g l c p kp :: x.1, x.2.1, x.2.2)) = none := h
    exact Option.map_eq_none_iff.mp h'
section
variable {a b a' b' a'' b'' : Array GenState} {g : Nat} {x y : GenState}
theorem GensOk.get (h : GensOk a b) (e : b[g]? = some y) : ∃ x, a[g]? = some x ∧ Agree x y := by
  have hg : g < a.size := by rw [h.size]; exact (Array.getElem?_eq_some_iff.mp e).1
  exact ⟨a[g], Array.getElem?_eq_getElem hg, h.at_ g _ _ (Array.getElem?_eq_getElem hg) e⟩
theorem GensOk.put (h : GensOk a b) (x : GenState) : GensOk (a.setIfInBounds g x) (b.setIfInBounds g x) where
  size := by rw [Array.size_setIfInBounds, Array.size_setIfInBounds, h.size]
  at_ := fun i u v hu hv => by
    by_cases e : g = i
    · subst e
      rw [Array.getElem?_setIfInBounds_self] at hu hv
      split at hu
      · split at hv
        · cases hu; cases hv; exact .same _
        · cases hv
      · cases hu
    · rw [Array.getElem?_setIfInBounds_ne e] at hu hv
      exact h.at_ i u v hu hv
theorem GensOk.push (h : GensOk a b) (x : GenState) : GensOk (a.push x) (b.push x) where
  size := by rw [Array.size_push, Array.size_push, h.size]
  at_ := fun i u v hu hv => by
    rw [Array.getElem?_push] at hu hv
    rw [h.size] at hu
    split at hu
    · rename_i e
      rw [if_pos e] at hv
      cases hu; cases hv; exact .same _
    · rename_i e
      rw [if_neg e] at hv
      exact h.at_ i u v hu hv
theorem Stay.refl : Stay a b a b := fun _ _ h _ => ⟨h, rfl⟩
theorem Stay.trans (h1 : Stay a b a' b') (h2 : Stay a' b' a'' b'') : Stay a b a'' b'' := fun i y e k => by
  obtain ⟨e1, e2⟩ := h1 i y e k
  obtain ⟨e3, e4⟩ := h2 i y e1 k
  exact ⟨e3, e4.trans e2⟩
theorem Stay.put (hg : ∀ z, b[g]? = some z → ¬ IsStuck z) (x y : GenState) : Stay a b (a.setIfInBounds g x) (b.setIfInBounds g y) := fun i z e k => by
  have ne : g ≠ i := fun q => by rw [q] at hg; exact hg z e k
  rw [Array.getElem?_setIfInBounds_ne ne, Array.getElem?_setIfInBounds_ne ne]
  exact ⟨e, rfl⟩
theorem Stay.push (hs : a.size = b.size) (x y : GenState) : Stay a b (a.push x) (b.push y) := fun i z e k => by
  have hi := (Array.getElem?_eq_some_iff.mp e).1
  rw [Array.getElem?_push_lt hi, Array.getElem?_push_lt (by omega)]
  exact ⟨by rw [← e]; exact (Array.getElem?_eq_getElem hi).symm, (Array.getElem?_eq_getElem _).symm⟩
theorem Clean.put (h : Clean b) (hx : ∀ k l c p fs cl, x = GenState.suspended k l c p fs cl → k = stuckK ∨ splitAtGen fs = none) : Clean (b.setIfInBounds g x) := fun i k l c p fs cl e => by
  by_cases q : g = i
  · subst q
    rw [Array.getElem?_setIfInBounds_self] at e
    split at e
    · exact hx k l c p fs cl (Option.some.inj e)
    · cases e
  · rw [Array.getElem?_setIfInBounds_ne q] at e
    exact h i k l c p fs cl e
theorem Clean.push (h : Clean b) (hx : ∀ k l c p fs cl, x = GenState.suspended k l c p fs cl → k = stuckK ∨ splitAtGen fs = none) : Clean (b.push x) := fun i k l c p fs cl e => by
  rw [Array.getElem?_push] at e
  split at e
  · exact hx k l c p fs cl (Option.some.inj e)
  · exact h i k l c p fs cl e
theorem Clean.ends (h : Clean b) {e : End} (k : EndOk e) : Clean (b.setIfInBounds g e.genState) := h.put fun k' l c p fs cl q => by
  cases e with
  | ret r => cases q
  | susp v g0 l0 k0 c0 p0 fs0 =>
    cases q
    exact .inr k
end
theorem runs_mask {M : Model} {Γ : PySem.Ctx} {p : Pos} {t : Sem PySem.Fin} {fs : List Frame} {m m' : Shared} {e : End} (h : Runs M Γ p t fs m e m') :
    splitAtGen fs = none → Clean m.gens → EndOk e ∧ Clean m'.gens ∧ ∀ G, GensOk G m.gens → ∃ G', Runs M Γ p t fs (wg m G) e (wg m' G') ∧ GensOk G' m'.gens ∧ Stay G m.gens G' m'.gens := by
  induction h with
  | done => exact fun _ c => ⟨trivial, c, fun G g => ⟨G, .done, g, .refl⟩⟩
  | raise => exact fun _ c => ⟨trivial, c, fun G g => ⟨G, .raise, g, .refl⟩⟩
  | yield => exact fun _ c => ⟨rfl, c, fun G g => ⟨G, .yield, g, .refl⟩⟩
  | again hq _ ih =>
    intro hf c
    obtain ⟨h1, h2, h3⟩ := ih hf c
    exact ⟨h1, h2, fun G g => let ⟨G', r, q⟩ := h3 G g; ⟨G', .again hq r, q⟩⟩
  | rule _ ih =>
    intro hf c
    obtain ⟨h1, h2, h3⟩ := ih hf c
    exact ⟨h1, h2, fun G g => let ⟨G', r, q⟩ := h3 G g; ⟨G', .rule r, q⟩⟩
  | «at» _ ih =>
    intro hf c
    obtain ⟨h1, h2, h3⟩ := ih hf c
    exact ⟨h1, h2, fun G g => let ⟨G', r, q⟩ := h3 G g; ⟨G', .at r, q⟩⟩
  | load ho _ ih =>
    intro hf c
    obtain ⟨h1, h2, h3⟩ := ih hf c
    exact ⟨h1, h2, fun G g => let ⟨G', r, q⟩ := h3 G g; ⟨G', .load ho r, q⟩⟩
  | update ho _ ih =>
    intro hf c
    obtain ⟨h1, h2, h3⟩ := ih hf c
    exact ⟨h1, h2, fun G g => let ⟨G', r, q⟩ := h3 G g; ⟨G', .update ho r, q⟩⟩
  | loadIfAlive _ ih =>
    intro hf c
    obtain ⟨h1, h2, h3⟩ := ih hf c
    exact ⟨h1, h2, fun G g => let ⟨G', r, q⟩ := h3 G g; ⟨G', .loadIfAlive r, q⟩⟩
  | point _ ih =>
    intro hf c
    obtain ⟨h1, h2, h3⟩ := ih hf c
    exact ⟨h1, h2, fun G g => let ⟨G', r, q⟩ := h3 G g; ⟨G', .point r, q⟩⟩
  | alloc _ ih =>
    intro hf c
    obtain ⟨h1, h2, h3⟩ := ih hf c
    exact ⟨h1, h2, fun G g => let ⟨G', r, q⟩ := h3 G g; ⟨G', .alloc r, q⟩⟩
  | fresh _ ih =>
    intro hf c
    obtain ⟨h1, h2, h3⟩ := ih hf c
    exact ⟨h1, h2, fun G g => let ⟨G', r, q⟩ := h3 G g; ⟨G', .fresh r, q⟩⟩
  | ask _ ih =>
    intro hf c
    obtain ⟨h1, h2, h3⟩ := ih hf c
    exact ⟨h1, h2, fun G g => let ⟨G', r, q⟩ := h3 G g; ⟨G', .ask r, q⟩⟩
  | choose hn _ ih =>
    intro hf c
    obtain ⟨h1, h2, h3⟩ := ih hf c
    exact ⟨h1, h2, fun G g => let ⟨G', r, q⟩ := h3 G g; ⟨G', .choose hn r, q⟩⟩
  | os _ ih =>
    intro hf c
    obtain ⟨h1, h2, h3⟩ := ih hf c
    exact ⟨h1, h2, fun G g => let ⟨G', r, q⟩ := h3 G g; ⟨G', .os r, q⟩⟩
  | handled _ ih =>
    intro hf c
    obtain ⟨h1, h2, h3⟩ := ih hf c
    exact ⟨h1, h2, fun G g => let ⟨G', r, q⟩ := h3 G g; ⟨G', .handled r, q⟩⟩
  | genState hs _ ih =>
    intro hf c
    obtain ⟨h1, h2, h3⟩ := ih hf c
    refine ⟨h1, h2, fun G g => ?_⟩
    obtain ⟨G', r, q⟩ := h3 G g
    obtain ⟨x, hx, ag⟩ := g.get hs
    exact ⟨G', .genState hx (by rw [ag.seen]; exact r), q⟩
  | stack _ ih =>
    intro hf c
    obtain ⟨h1, h2, h3⟩ := ih hf c
    exact ⟨h1, h2, fun G g => let ⟨G', r, q⟩ := h3 G g; ⟨G', .stack r, q⟩⟩
  | thread _ ih =>
    intro hf c
    obtain ⟨h1, h2, h3⟩ := ih hf c
    exact ⟨h1, h2, fun G g => let ⟨G', r, q⟩ := h3 G g; ⟨G', .thread r, q⟩⟩
  | newGen _ ih =>
    intro hf c
    obtain ⟨h1, h2, h3⟩ := ih hf (c.push fun _ _ _ _ _ _ e => by cases e)
    refine ⟨h1, h2, fun G g => ?_⟩
    obtain ⟨G', r, q, z⟩ := h3 (G.push _) (g.push _)
    refine ⟨G', .newGen ?_, q, (Stay.push g.size _ _).trans z⟩
    rw [show (wg _ G).gens.size = _ from g.size]
    exact r
  | call _ _ ih1 ih2 =>
    intro hf c
    obtain ⟨a1, a2, a3⟩ := ih1 rfl c
    obtain ⟨b1, b2, b3⟩ := ih2 hf a2
    refine ⟨b1, b2, fun G g => ?_⟩
    obtain ⟨G1, r1, q1, z1⟩ := a3 G g
    obtain ⟨G2, r2, q2, z2⟩ := b3 G1 q1
    exact ⟨G2, .call r1 r2, q2, z1.trans z2⟩
  | callSusp _ ih =>
    intro hf c
    obtain ⟨h1, h2, h3⟩ := ih rfl c
    exact ⟨split_app h1 rfl, h2, fun G g => let ⟨G', r, q⟩ := h3 G g; ⟨G', .callSusp r, q⟩⟩
  | resumeFresh hg _ hq _ ih1 ih2 =>
    intro hf c
    obtain ⟨a1, a2, a3⟩ := ih1 rfl (c.put fun _ _ _ _ _ _ e => by cases e)
    obtain ⟨b1, b2, b3⟩ := ih2 hf (a2.ends a1)
    refine ⟨b1, b2, fun G g => ?_⟩
    obtain ⟨x, hx, ag⟩ := g.get hg
    obtain ⟨G1, r1, q1, z1⟩ := a3 _ (g.put .running)
    obtain ⟨G2, r2, q2, z2⟩ := b3 _ (q1.put _)
    cases ag
    refine ⟨G2, .resumeFresh hx r1 hq r2, q2, ?_⟩
    intro i y hi hy
    have ne : _ ≠ i := fun (e : _ = i) => by
      rw [← e, hg] at hi
      obtain ⟨_, _, _, _, _, rfl⟩ := hy
      cases hi
    have k1 := z1 i y ((Array.getElem?_setIfInBounds_ne ne).trans hi) hy
    have k2 := z2 i y ((Array.getElem?_setIfInBounds_ne ne).trans k1.1) hy
    refine ⟨k2.1, k2.2.trans ?_⟩
    rw [Array.getElem?_setIfInBounds_ne ne, k1.2, Array.getElem?_setIfInBounds_ne ne]
  | resumeSuspended hg h1' hq _ ih1 ih2 =>
    rename_i Γ0 p0 g0 r0 l0 k0 m0 kk ll cc pp ffs cll e1 s1 e2 s2 _
    intro hf c
    by_cases hk : kk = stuckK
    · subst hk
      exact (no_stuck h1').elim
    have hfs := (c g0 kk ll cc pp ffs cll hg).resolve_left hk
    obtain ⟨a1, a2, a3⟩ := ih1 hfs (c.put fun _ _ _ _ _ _ e => by cases e)
    obtain ⟨b1, b2, b3⟩ := ih2 hf (a2.ends a1)
    refine ⟨b1, b2, fun G g => ?_⟩
    obtain ⟨x, hx, ag⟩ := g.get hg
    obtain ⟨G1, r1, q1, z1⟩ := a3 _ (g.put .running)
    obtain ⟨G2, r2, q2, z2⟩ := b3 _ (q1.put _)
    have ex : x = .suspended kk ll cc pp ffs cll := by
      cases ag with
      | same => rfl
      | hid => exact (hk rfl).elim
    subst ex
    refine ⟨G2, .resumeSuspended hx r1 hq r2, q2, ?_⟩
    intro i y hi hy
    have ne : g0 ≠ i := fun e => by
      rw [← e, hg] at hi
      obtain ⟨_, _, _, _, _, rfl⟩ := hy
      cases hi
      exact hk rfl
    have k1 := z1 i y ((Array.getElem?_setIfInBounds_ne ne).trans hi) hy
    have k2 := z2 i y ((Array.getElem?_setIfInBounds_ne ne).trans k1.1) hy
    refine ⟨k2.1, k2.2.trans ?_⟩
    rw [Array.getElem?_setIfInBounds_ne ne, k1.2, Array.getElem?_setIfInBounds_ne ne]
  | resumeJustStarted hg hv _ ih =>
    intro hf c
    obtain ⟨h1, h2, h3⟩ := ih hf c
    refine ⟨h1, h2, fun G g => ?_⟩
    obtain ⟨x, hx, ag⟩ := g.get hg
    obtain ⟨G', r, q⟩ := h3 G g
    cases ag
    exact ⟨G', .resumeJustStarted hx hv r, q⟩
  | resumeThrowFresh hg _ ih =>
    intro hf c
    obtain ⟨h1, h2, h3⟩ := ih hf (c.put fun _ _ _ _ _ _ e => by cases e)
    refine ⟨h1, h2, fun G g => ?_⟩
    obtain ⟨x, hx, ag⟩ := g.get hg
    obtain ⟨G', r, q, z⟩ := h3 _ (g.put .finished)
    cases ag
    refine ⟨G', .resumeThrowFresh hx r, q, Stay.trans (Stay.put (fun z hz k => ?_) _ _) z⟩
    rw [hg] at hz
    obtain ⟨_, _, _, _, _, rfl⟩ := k
    cases hz
  | resumeRunning hg _ ih =>
    intro hf c
    obtain ⟨h1, h2, h3⟩ := ih hf c
    refine ⟨h1, h2, fun G g => ?_⟩
    obtain ⟨x, hx, ag⟩ := g.get hg
    obtain ⟨G', r, q⟩ := h3 G g
    cases ag
    exact ⟨G', .resumeRunning hx r, q⟩
  | resumeFinished hg _ ih =>
    intro hf c
    obtain ⟨h1, h2, h3⟩ := ih hf c
    refine ⟨h1, h2, fun G g => ?_⟩
    obtain ⟨x, hx, ag⟩ := g.get hg
    obtain ⟨G', r, q⟩ := h3 G g
    cases ag
    exact ⟨G', .resumeFinished hx r, q⟩
  | segRet _ _ ih1 ih2 =>
    intro hf c
    obtain ⟨a1, a2, a3⟩ := ih1 rfl c
    obtain ⟨b1, b2, b3⟩ := ih2 (split_tail hf) a2
    refine ⟨b1, b2, fun G g => ?_⟩
    obtain ⟨G1, r1, q1, z1⟩ := a3 G g
    obtain ⟨G2, r2, q2, z2⟩ := b3 G1 q1
    exact ⟨G2, .segRet r1 r2, q2, z1.trans z2⟩
  | segGen => exact fun hf => by cases hf
  | segSuspOut hs _ ih =>
    intro hf c
    obtain ⟨h1, h2, h3⟩ := ih rfl c
    exact ⟨split_app h1 hs, h2, fun G g => let ⟨G', r, q⟩ := h3 G g; ⟨G', .segSuspOut hs r, q⟩⟩
  | segSuspGen hs => exact fun hf => by rw [hf] at hs; cases hs
end Kn
namespace Kn
open PySem PySem.Spec PyProof.Rows
theorem Twin.trans {G G1 : Array GenState} {m m1 s' m' : Shared} (z : Stay G m.gens G1 m1.gens) (t : Twin G1 m1 s' m') : Twin G m s' m' := by
  obtain ⟨G', e, g, c, k⟩ := t
  exact ⟨G', e, g, c, z.trans k⟩
theorem returns_mask {M : Model} {Γ : PySem.Ctx} {p : Pos} {m m' : Shared} {r : Result} (h : Returns M Γ p m r m') (c : Clean m.gens) {G : Array GenState} (g : GensOk G m.gens) :
    ∃ G', Returns M Γ p (wg m G) r (wg m' G') ∧ GensOk G' m'.gens ∧ Clean m'.gens ∧ Stay G m.gens G' m'.gens := by
  obtain ⟨_, h2, h3⟩ := runs_mask h rfl c
  obtain ⟨G', r, q, z⟩ := h3 G g
  exact ⟨G', r, q, h2, z⟩
theorem wakes_mask {M : Model} {Γ : PySem.Ctx} {p : Pos} {n : Nat} {rs : Resume} {m m' : Shared} {res : GenResult} (h : Wakes M Γ p n rs m res m') (c : Clean m.gens) {G : Array GenState} (g : GensOk G m.gens) :
    ∃ G', Wakes M Γ p n rs (wg m G) res (wg m' G') ∧ GensOk G' m'.gens ∧ Clean m'.gens ∧ Stay G m.gens G' m'.gens := by
  unfold Wakes at h
  cases q : m.gens[n]? with
  | none => rw [q] at h; exact h.elim
  | some st =>
    obtain ⟨x, hx, ag⟩ := g.get q
    have hx' : (wg m G).gens[n]? = some x := hx
    rw [q] at h
    have notStuck : (∀ k l c p fs cl, st = GenState.suspended k l c p fs cl → k ≠ stuckK) → ∀ z, m.gens[n]? = some z → ¬ IsStuck z := fun no z hz ⟨l, c', p', fs, cl, e⟩ => by
      rw [q] at hz
      cases hz
      exact no _ _ _ _ _ _ e rfl
    cases st with
    | fresh cc =>
      cases ag
      have ns := notStuck fun _ _ _ _ _ _ e => by cases e
      cases rs with
      | throw x =>
        obtain ⟨rfl, rfl⟩ := h
        refine ⟨G.setIfInBounds n .finished, ?_, g.put _, c.put (fun _ _ _ _ _ _ e => by cases e), Stay.put ns _ _⟩
        unfold Wakes
        rw [hx']
        exact ⟨rfl, rfl⟩
      | send v =>
        cases v with
        | none =>
          obtain ⟨e1, s1, h1, h2, rfl, rfl⟩ := h
          obtain ⟨a1, a2, a3⟩ := runs_mask h1 rfl (c.put fun _ _ _ _ _ _ e => by cases e)
          obtain ⟨G1, r1, q1, z1⟩ := a3 _ (g.put .running)
          refine ⟨G1.setIfInBounds n e1.genState, ?_, q1.put _, a2.ends a1, ?_⟩
          · unfold Wakes
            rw [hx']
            exact ⟨e1, _, r1, h2, rfl, rfl⟩
          · intro i y hi hy
            have ne : n ≠ i := fun e => by rw [← e] at hi; exact ns _ hi hy
            have k1 := z1 i y ((Array.getElem?_setIfInBounds_ne ne).trans hi) hy
            refine ⟨(Array.getElem?_setIfInBounds_ne ne).trans k1.1, ?_⟩
            rw [Array.getElem?_setIfInBounds_ne ne, k1.2, Array.getElem?_setIfInBounds_ne ne]
        | _ =>
          obtain ⟨rfl, rfl⟩ := h
          refine ⟨G, ?_, g, c, .refl⟩
          unfold Wakes
          rw [hx']
          exact ⟨rfl, rfl⟩
    | suspended kk ll cc pp ffs cll =>
      obtain ⟨e1, s1, h1, h2, rfl, rfl⟩ := h
      by_cases hk : kk = stuckK
      · subst hk
        exact (no_stuck h1).elim
      have ns := notStuck fun k _ _ _ _ _ e => by cases e; exact hk
      have ex : x = .suspended kk ll cc pp ffs cll := by
        cases ag with
        | same => rfl
        | hid => exact (hk rfl).elim
      subst ex
      obtain ⟨a1, a2, a3⟩ := runs_mask h1 ((c n kk ll cc pp ffs cll q).resolve_left hk) (c.put fun _ _ _ _ _ _ e => by cases e)
      obtain ⟨G1, r1, q1, z1⟩ := a3 _ (g.put .running)
      refine ⟨G1.setIfInBounds n e1.genState, ?_, q1.put _, a2.ends a1, ?_⟩
      · unfold Wakes
        rw [hx']
        exact ⟨e1, _, r1, h2, rfl, rfl⟩
      · intro i y hi hy
        have ne : n ≠ i := fun e => by rw [← e] at hi; exact ns _ hi hy
        have k1 := z1 i y ((Array.getElem?_setIfInBounds_ne ne).trans hi) hy
        refine ⟨(Array.getElem?_setIfInBounds_ne ne).trans k1.1, ?_⟩
        rw [Array.getElem?_setIfInBounds_ne ne, k1.2, Array.getElem?_setIfInBounds_ne ne]
    | running =>
      cases ag
      obtain ⟨rfl, rfl⟩ := h
      refine ⟨G, ?_, g, c, .refl⟩
      unfold Wakes
      rw [hx']
      exact ⟨rfl, rfl⟩
    | finished =>
      cases ag
      obtain ⟨rfl, rfl⟩ := h
      refine ⟨G, ?_, g, c, .refl⟩
      unfold Wakes
      rw [hx']
      exact ⟨rfl, rfl⟩
theorem wp_mask {α : Type} (M : Model) (Γ : PySem.Ctx) (t : Sem α) : ∀ {Q : α → Pos → Shared → Prop} {E : Value → Pos → Shared → Prop} {p : Pos} {m : Shared} {G : Array GenState}, Sem.wp M Γ t Q E p m → Clean m.gens → GensOk G m.gens →
    Sem.wp M Γ t (fun a p' s' => ∃ m', Twin G m s' m' ∧ Q a p' m') (fun e p' s' => ∃ m', Twin G m s' m' ∧ E e p' m') p (wg m G) := by
  induction t with
  | pure a => exact fun h c g => ⟨_, ⟨_, rfl, g, c, .refl⟩, h⟩
  | raise e => exact fun h c g => ⟨_, ⟨_, rfl, g, c, .refl⟩, h⟩
  | unsupported _ => exact fun h => h.elim
  | finish _ => exact fun h => h.elim
  | register _ _ => exact fun h => h.elim
  | yield _ _ _ _ => exact fun h => h.elim
  | fork _ _ => exact fun h => h.elim
  | await _ _ _ _ _ => exact fun h => h.elim
  | rule _ k ih => exact fun h c g => ih () h c g
  | «at» _ k ih => exact fun h c g => ih () h c g
  | point _ k ih => exact fun h c g => ih () h c g
  | loadIfAlive a k ih => exact fun h c g => ih _ h c g
  | ask k ih => exact fun h c g => ih _ h c g
  | handled own k ih => exact fun h c g => ih _ h c g
  | stack k ih => exact fun h c g => ih _ h c g
  | thread k ih => exact fun h c g => ih _ h c g
  | load a _ k ih => exact fun ⟨o, ho, h⟩ c g => ⟨o, ho, ih o h c g⟩
  | update a _ f k ih => intro Q E p m G h c g; exact ⟨h.1, ih () (m := { m with heap := m.heap.update a f }) h.2 c g⟩
  | alloc o k ih => intro Q E p m G h c g; exact ih _ (m := { m with heap := m.heap.push o }) h c g
  | fresh k ih => intro Q E p m G h c g; exact ih _ (m := { m with toks := m.toks + 1 }) h c g
  | choose src n k ih => intro Q E p m G h c g; exact ⟨h.1, ih _ (m := { m with drawn := m.drawn.bump src }) h.2 c g⟩
  | os q _ k ih => intro Q E p m G h c g; exact ih _ (m := { m with os := (Os.step m.os q).1 }) h c g
  | genState n k ih =>
    intro Q E p m G ⟨st, hs, h⟩ c g
    obtain ⟨x, hx, ag⟩ := g.get hs
    exact ⟨x, hx, by rw [ag.seen]; exact ih _ h c g⟩
  | newGen cc k ih =>
    intro Q E p m G h c g
    have z := ih _ (m := { m with gens := m.gens.push (.fresh cc) }) h (c.push fun _ _ _ _ _ _ e => by cases e) (g.push (.fresh cc))
    show Sem.wp M Γ (k G.size) _ _ p (wg { m with gens := m.gens.push (.fresh cc) } (G.push (.fresh cc)))
    rw [g.size]
    exact Sem.wp_mono M Γ _ (fun _ _ _ ⟨m', t, q⟩ => ⟨m', Twin.trans (Stay.push g.size _ _) t, q⟩) (fun _ _ _ ⟨m', t, q⟩ => ⟨m', Twin.trans (Stay.push g.size _ _) t, q⟩) _ _ z
  | call cc h0 _ _ k ih =>
    intro Q E p m G ⟨r, m1, hr, h⟩ c g
    obtain ⟨G1, r1, g1, c1, z1⟩ := returns_mask hr c g
    exact ⟨r, _, r1, Sem.wp_mono M Γ _ (fun _ _ _ ⟨m', t, q⟩ => ⟨m', Twin.trans z1 t, q⟩) (fun _ _ _ ⟨m', t, q⟩ => ⟨m', Twin.trans z1 t, q⟩) _ _ (ih r h c1 g1)⟩
  | resume n rs _ k ih =>
    intro Q E p m G ⟨res, m1, hr, h⟩ c g
    obtain ⟨G1, r1, g1, c1, z1⟩ := wakes_mask hr c g
    exact ⟨res, _, r1, Sem.wp_mono M Γ _ (fun _ _ _ ⟨m', t, q⟩ => ⟨m', Twin.trans z1 t, q⟩) (fun _ _ _ ⟨m', t, q⟩ => ⟨m', Twin.trans z1 t, q⟩) _ _ (ih res h c1 g1)⟩
def maskS (s : Shared) : Shared := wg s (s.gens.map maskG)
theorem mask_at {a : Array GenState} {i : Nat} {y : GenState} (e : (a.map maskG)[i]? = some y) : ∃ x, a[i]? = some x ∧ y = maskG x := by
  rw [Array.getElem?_map] at e
  obtain ⟨x, h1, h2⟩ := Option.map_eq_some_iff.mp e
  exact ⟨x, h1, h2.symm⟩
theorem agree_mask (x : GenState) : Agree x (maskG x) := by
  cases x with
  | suspended k l c p fs cl => exact .hid k l c p fs cl
  | _ => exact .same _
theorem mask_ok (a : Array GenState) : GensOk a (a.map maskG) where
  size := by rw [Array.size_map]
  at_ := fun i x y hx hy => by
    obtain ⟨z, h1, rfl⟩ := mask_at hy
    rw [hx] at h1
    cases h1
    exact agree_mask x
theorem mask_clean (a : Array GenState) : Clean (a.map maskG) := fun i k l c p fs cl e => by
  obtain ⟨x, _, h⟩ := mask_at e
  cases x with
  | suspended => cases h; exact .inl rfl
  | _ => cases h
theorem mask_bare {a : Array GenState} (h : AllBare a) : AllBare (a.map maskG) := fun y hy => by
  obtain ⟨x, hx, rfl⟩ := Array.mem_map.mp hy
  have := h x hx
  cases x <;> exact this
/-- what slept sleeps on -/
def Asleep (s s' : Shared) : Prop := ∀ (i : Nat) (k : Resume → Sem PySem.Fin) (l : List Value) (c : Code) (p : Pos) (fs : List Frame) (cl : Bool), s.gens[i]? = some (GenState.suspended k l c p fs cl) → s'.gens[i]? = s.gens[i]?
theorem Like.bare {s' m' : Shared} (h : Like s' m') (b : AllBare m'.gens) : AllBare s'.gens := by
  obtain ⟨G', rfl, g⟩ := h.gens
  intro x hx
  obtain ⟨i, hi, e⟩ := Array.mem_iff_getElem.mp hx
  have hi' : i < m'.gens.size := by rw [← g.size]; exact hi
  have ag := g.at_ i x m'.gens[i] (by rw [← e]; exact Array.getElem?_eq_getElem hi) (Array.getElem?_eq_getElem hi')
  have hb := b _ (Array.getElem_mem hi')
  generalize m'.gens[i] = y at ag hb
  cases ag with
  | same => exact hb
  | hid k l c p fs cl => exact hb
theorem Like.heap {s' m' : Shared} (h : Like s' m') : s'.heap = m'.heap ∧ s'.os = m'.os := by
  obtain ⟨G', rfl, g⟩ := h.gens
  exact ⟨rfl, rfl⟩
theorem wpAny_mask {α : Type} {M : Model} {A : Around} {t : Sem α} {Q : α → Shared → Prop} {E : Value → Shared → Prop} {s : Shared} (h : wpAny M A t Q E (maskS s)) :
    wpAny M A t (fun a s' => Asleep s s' ∧ ∃ m', Like s' m' ∧ Q a m') (fun e s' => Asleep s s' ∧ ∃ m', Like s' m' ∧ E e m') s := by
  have out : ∀ s' m', Twin s.gens (maskS s) s' m' → Asleep s s' ∧ Like s' m' := fun s' m' ⟨G', e, g, _, z⟩ => by
    subst e
    refine ⟨fun i k l c p fs cl hi => ?_, ⟨G', rfl, g⟩⟩
    have hm : (maskS s).gens[i]? = some (.suspended stuckK l c p fs cl) := by
      show (s.gens.map maskG)[i]? = _
      rw [Array.getElem?_map, hi]; rfl
    exact (z i _ hm ⟨_, _, _, _, _, rfl⟩).2
  exact fun Γ p hΓ => Sem.wp_mono M Γ _ (fun _ _ s' ⟨m', t, q⟩ => ⟨(out s' m' t).1, m', (out s' m' t).2, q⟩) (fun _ _ s' ⟨m', t, q⟩ => ⟨(out s' m' t).1, m', (out s' m' t).2, q⟩) _ _
    (wp_mask M Γ t (m := maskS s) (G := s.gens) (h Γ p hΓ) (mask_clean s.gens) (mask_ok s.gens))
end Kn
namespace Kn
open PySem PySem.Spec PyProof.Rows
open L2 hiding St
/-- the objects below n -/
def cutH (h : Heap) (n : Nat) : Heap := ⟨h.objs.extract 0 n, h.life⟩
theorem cut_size {h : Heap} {n : Nat} (k : n ≤ h.objs.size) : (cutH h n).objs.size = n := by
  show (h.objs.extract 0 n).size = n
  rw [Array.size_extract]; omega
theorem cut_get {h : Heap} {n b : Nat} (k : b < n) : (cutH h n).get? b = h.get? b := by
  unfold Heap.get? cutH
  have e : (h.objs.extract 0 n)[b]? = h.objs[b]? := by
    rw [Array.getElem?_extract]
    rw [Nat.zero_add]
    by_cases q : b < h.objs.size
    · rw [if_pos (by omega)]
    · rw [Array.getElem?_eq_none (by omega)]
      split <;> rfl
  rw [e]
theorem cut_lt {h : Heap} {n b : Nat} {o : Obj} (e : (cutH h n).get? b = some o) : b < n ∧ h.get? b = some o := by
  have lt : b < n := by
    have z : (cutH h n).objs.size ≤ n := by
      show (h.objs.extract 0 n).size ≤ n
      rw [Array.size_extract]; omega
    exact Nat.lt_of_lt_of_le (Heap.lt_size e) z
  rw [cut_get lt] at e
  exact ⟨lt, e⟩
/-- the context from the store s on: what is older than n stays but where it is tracked -/
abbrev anew (X : Cx) (n : Nat) (s : Shared) (H : Hp) : Cx := { X with s_0 := { s with heap := cutH s.heap n }, H_0 := H, ex := [] }
section
variable {X : Cx} {pins : List (Addr × Obj)} {σ : L2.St} {H : Hp} {s : Shared}
theorem inv_anew (I : L2.Inv X pins σ H s) {n : Nat} (h1 : n ≤ X.env.locals) (h2 : X.base.objs.size ≤ n) (h4 : ∀ b ∈ X.fs, b < n) (h3 : ∀ x c, X.fn x = true → X.env.cells.lookup x = some c → n ≤ c) : L2.Inv (anew X n s H) pins σ H s := by
  have hs : n ≤ s.heap.objs.size := Nat.le_trans h1 (Nat.le_of_lt I.lt)
  have hfs : ∀ b ∈ X.fs, b < n ∧ H b = none := fun b hb => by
    obtain ⟨_, o, ho, _⟩ := I.ok.funs.mem hb
    exact ⟨h4 b hb, I.base.free b o ho (I.ok.frf b hb) fun z => I.ok.exfs b z hb⟩
  have funs : (cutH s.heap n).FunFrames X.base X.outer := by
    have all : ∀ (l : List Env), (∀ b ∈ frs l, b ∈ X.fs) → s.heap.FunFrames X.base l → (cutH s.heap n).FunFrames X.base l := by
      intro l
      induction l with
      | nil => intro _ _; trivial
      | cons env r ih =>
        intro hm hl
        obtain ⟨hk, ⟨L, o, hf, hn, ho, hd⟩, hr⟩ := hl
        have hL : L ∈ X.fs := hm L (by unfold frs; rw [List.filterMap_cons, hf]; exact List.mem_cons_self)
        exact ⟨hk, ⟨L, o, hf, hn, (cut_get (hfs L hL).1).trans ho, hd⟩, ih (fun b hb => hm b (by unfold frs; rw [List.filterMap_cons, hf]; exact List.mem_cons_of_mem _ hb)) hr⟩
    exact all X.outer (fun _ hb => hb) I.funs
  have ok := I.ok
  refine ⟨⟨ok.mod, ok.kind, ok.glob, ok.blt, ?_, ok.inj, ok.has, ?_, ok.hd, ok.frames, ok.stk, (fun b hb => nomatch hb), fun b o e => ?_, ?_, (fun b o e => fun z => nomatch z), (fun b hb => nomatch hb), funs, fun b hb => (hfs b hb).2⟩,
    rfl, I.bare, ?_, I.loc, I.cell, I.free, I.freeC, I.pin, I.hok, I.len⟩
  · show (cutH s.heap n).objs.size ≤ X.env.locals
    rw [cut_size hs]; exact h1
  · intro x c k e
    show (cutH s.heap n).objs.size ≤ c
    rw [cut_size hs]; exact h3 x c k e
  · obtain ⟨z1, z2⟩ := I.bs b o e
    have lt : b < n := Nat.lt_of_lt_of_le (Heap.lt_size e) h2
    exact ⟨(cut_get lt).trans z1, z2⟩
  · show X.base.objs.size ≤ (cutH s.heap n).objs.size
    rw [cut_size hs]; exact h2
  · exact Un.kept fun b u e => (cut_lt e).2
end
def SegOut (Qy : Value → Shared → GenState → Prop) (Qr : Result → Shared → Prop) (e : End) (s : Shared) : Prop := match e with
  | .ret r => Qr r s
  | .susp v .. => e.quiet = true ∧ Qy v s e.genState
def Seg1 (M : Model) (A : Around) (Qy : Value → Shared → GenState → Prop) (Qr : Result → Shared → Prop) (c : Code) (t : Sem PySem.Fin) (fs : List Frame) (s : Shared) : Prop :=
  ∀ Γ p, Γ.code = c → Γ.Woken A → ∃ e s', Runs M Γ p t fs s e s' ∧ SegOut Qy Qr e s'
def Step (M : Model) (A : Around) (Qy : Value → Shared → GenState → Prop) (Qr : Result → Shared → Prop) : GenState → Shared → Prop
  | .fresh c, s => Seg1 M A Qy Qr c (M.den c) [] s
  | .suspended k _ c _ fs _, s => Seg1 M A Qy Qr c (k (.send .none)) fs s
  | _, _ => False
section
variable {M : Model} {A : Around} {Qy : Value → Shared → GenState → Prop} {Qr : Result → Shared → Prop} {c : Code} {fs : List Frame} {s : Shared}
/-- asleep, nothing to be cleaned up -/
def IsSusp (gs : GenState) : Prop := ∃ k l c p fs, gs = GenState.suspended k l c p fs false
end
end Kn
namespace Kn
open PySem PySem.Spec PyProof.Rows
open L2 hiding St
section
variable {M : Model} {A : Around} {Qy : Value → Shared → GenState → Prop} {Qr : Result → Shared → Prop} {c : Code} {fs : List Frame} {s : Shared} {env : Env} {K : Flow → Sem PySem.Fin} {J : Value → Sem PySem.Fin} {gd : Bool → Bool} {lv : List Value → List Value}
/-- the frame of a while loop that holds yields -/
abbrev loopF (env : Env) (K : Flow → Sem PySem.Fin) (J : Value → Sem PySem.Fin) (gd : Bool → Bool) (lv : List Value → List Value) (c : Code) (p : Pos) : Frame :=
  .ret (fun r => ((match r with | .ok f => (.pure f : Sem Flow) | .error e => .raise e).onRaise (L2.cameBack env)).wrap K J gd lv) none (gd false) (lv []) c p []
abbrev loopJ (env : Env) : Value → Sem PySem.Fin := fun e => (do noteFrame e env; theTreesLotGoes e : Sem Unit).wrap (fun _ => .raise e) .raise id id
end
theorem Off.refl {Cons : Addr → Prop} {O : Own} : Off Cons O O := fun _ _ => rfl
theorem Off.trans {Cons : Addr → Prop} {O O1 O2 : Own} (h : Off Cons O O1) (k : Off Cons O1 O2) : Off Cons O O2 := fun p c => (k p c).trans (h p c)
end Kn
namespace Kn
open PySem PySem.Spec PyProof.Rows
open L2 hiding St
end Kn
namespace Kn
open PySem PySem.Spec PyProof.Rows
open L2 hiding St
section
variable {fs fs' ex ch : List Addr} {H0 H H' : Hp} {h0 h h' : Heap} {n : Nat}
/-- what was seen from the start, then from the cut -/
theorem un_cut (a : L2.Un fs ex H0 H h0 h) (z : h0.objs.size ≤ n) (b : L2.Un fs [] H H' (cutH h n) h') : L2.Un fs ex H0 H' h0 h' := by
  have low : ∀ {c : Addr} {o : Obj}, h0.get? c = some o → c < n := fun e => Nat.lt_of_lt_of_le (Heap.lt_size e) z
  have no : ∀ c : Addr, c ∉ ([] : List Addr) := fun c q => nomatch q
  refine ⟨fun c o e q hc hx => ?_, fun c o e q hc hx => ?_, fun c o e q hx => ?_, fun c o e hx => ?_, fun c xs q => b.tups c xs (a.tups c xs q), fun c o u q => b.frzs c o u (a.frzs c o u q), fun c ps q => ?_⟩
  · exact b.keep c o ((cut_get (low e)).trans (a.keep c o e q hc hx)) (a.free c o e q hx) hc (no c)
  · obtain ⟨sl, e1⟩ := a.slot c o e q hc hx
    obtain ⟨sl2, e2⟩ := b.slot c _ ((cut_get (low e)).trans e1) (a.free c o e q hx) hc (no c)
    exact ⟨sl2, e2⟩
  · obtain ⟨o', e1⟩ := a.there c o e hx
    exact b.free c o' ((cut_get (low e)).trans e1) (a.free c o e q hx) (no c)
  · obtain ⟨o', e1⟩ := a.there c o e hx
    exact b.there c o' ((cut_get (low e)).trans e1) (no c)
  · obtain ⟨m1, e1⟩ := a.tbls c ps q
    obtain ⟨m2, e2⟩ := b.tbls c _ e1
    exact ⟨m1 ++ m2, by rw [← Array.append_assoc]; exact e2⟩
theorem un_over (u : L2.Un fs [] H H' (cutH h n) h') (k : ∀ b o, h.get? b = some o → b ∉ ch → b < n ∨ (h'.get? b = some o ∧ H' b = none)) : L2.Un fs ch H H' h h' := by
  have no : ∀ c : Addr, c ∉ ([] : List Addr) := fun c q => nomatch q
  refine ⟨fun c o e q hc hx => ?_, fun c o e q hc hx => ?_, fun c o e q hx => ?_, fun c o e hx => ?_, u.tups, u.frzs, u.tbls⟩
  · rcases k c o e hx with z | z
    · exact u.keep c o ((cut_get z).trans e) q hc (no c)
    · exact z.1
  · rcases k c o e hx with z | z
    · exact u.slot c o ((cut_get z).trans e) q hc (no c)
    · exact ⟨o.slots, z.1⟩
  · rcases k c o e hx with z | z
    · exact u.free c o ((cut_get z).trans e) q (no c)
    · exact z.2
  · rcases k c o e hx with z | z
    · exact u.there c o ((cut_get z).trans e) (no c)
    · exact ⟨o, z.1⟩
end
section
variable {X : Cx} {pins : List (Addr × Obj)} {σ : SV} {H H' : Hp} {s s' : Shared} {n : Nat}
/-- another has run, and left what is older than the cut -/
theorem hand_over (I : L2.Inv X pins σ H s) (os : s'.os = s.os) (bare : AllBare s'.gens) (u : L2.Un (frs X.stack) [] H H' (cutH s.heap n) s'.heap) (hok : HOk X.prog X.w H' s'.heap) (hn : X.s_0.heap.objs.size ≤ n) (hc : ∀ x c, X.env.cells.lookup x = some c → c < n)
    (hp : ∀ p ∈ X.pn ++ pins, p.1 < n) (hl : X.env.locals < n ∨ (s'.heap.get? X.env.locals = s.heap.get? X.env.locals ∧ H' X.env.locals = none)) : L2.Inv X pins σ H' s' := by
  refine I.call' (ch := (List.range s.heap.objs.size).filter fun b => decide (n ≤ b) && decide (b ≠ X.env.locals)) os (un_over u fun b o e hb => ?_) hok bare fun b hb => ?_
  · have lt := Heap.lt_size e
    by_cases z : b < n
    · exact .inl z
    · have eb : b = X.env.locals := by
        by_cases q : b = X.env.locals
        · exact q
        · exact absurd (List.mem_filter.mpr ⟨List.mem_range.mpr lt, by simp only [Bool.and_eq_true, decide_eq_true_eq]; exact ⟨Nat.le_of_not_lt z, q⟩⟩) hb
      subst eb
      rcases hl with q | q
      · exact absurd q z
      · exact .inr ⟨q.1.trans e, q.2⟩
  · obtain ⟨_, z⟩ := List.mem_filter.mp hb
    have z1 : n ≤ b ∧ b ≠ X.env.locals := by simpa using z
    exact ⟨.inr (Nat.le_trans hn z1.1), z1.2, fun x c e q => absurd (hc x c e) (by rw [q]; exact Nat.not_lt.mpr z1.1), fun p hq q => absurd (hp p hq) (by rw [q]; exact Nat.not_lt.mpr z1.1)⟩
theorem inv_gens (I : L2.Inv X pins σ H s) (h : s'.heap = s.heap) (o : s'.os = s.os) (b : AllBare s'.gens) : L2.Inv X pins σ H s' := by
  obtain ⟨a1, a2, a3, a4, a5, a6, a7, a8, a9, a10, a11⟩ := I
  rw [← h] at a4 a5 a6 a9 a10
  exact ⟨a1, o.trans a2, b, a4, a5, a6, a7, a8, a9, a10, a11⟩
theorem inv_pins {pins' : List (Addr × Obj)} (I : L2.Inv X pins σ H s) (h : ∀ p ∈ X.pn ++ pins', s.heap.get? p.1 = some p.2 ∧ H p.1 = none ∧ p.1 ≠ X.env.locals ∧ p.1 ∉ X.fs ∧ ∀ v, p.2.data ≠ .cell v) : L2.Inv X pins' σ H s :=
  ⟨I.ok, I.os, I.bare, I.base, I.loc, I.cell, I.free, I.freeC, h, I.hok, I.len⟩
/-- a run while a generator sleeps -/
theorem asleep {M : Model} {A : Around} {α : Type} {m : Sem α} {P Q : α → Shared → Prop} {E : Value → Shared → Prop} {g : Nat} {gs : GenState} (I : L2.Inv X pins σ H s) (hg : s.gens[g]? = some gs) (hs : IsSusp gs)
    (h : ∀ s', L2.Inv X pins σ H s' → s'.heap = s.heap → wpAny M A m P (fun _ _ => False) s') (hq : ∀ a s' m', Like s' m' → s'.gens[g]? = some gs → P a m' → Q a s') : wpAny M A m Q E s := by
  refine wpAny_mono (wpAny_mask (h (maskS s) (inv_gens I rfl rfl (mask_bare I.bare)) rfl)) (fun a s' ⟨z, m', l, p⟩ => hq a s' m' l ?_ p) fun _ _ ⟨_, _, _, z⟩ => z.elim
  obtain ⟨k, l, c, p, fs, rfl⟩ := hs
  exact (z g _ _ _ _ _ _ hg).trans hg
end
end Kn
namespace Kn
open PySem PySem.Spec PyProof.Rows
open L2 hiding St
/-- a generator's object, k sleep over it -/
def GenS (h : Heap) (a n k : Nat) : Prop := ∃ o nm qn, h.get? a = some o ∧ o.cls = .type "generator" ∧ o.data = .fields #[.int n 0, nm, qn] ∧ (o.slots = #[some (.int k 0)] ∨ (k = 0 ∧ o.slots = #[]))
theorem GenS.of {h : Heap} {a n : Nat} (g : h.IsGen a n) : GenS h a n 0 := by
  obtain ⟨o, nm, qn, h1, h2, h3, h4⟩ := g
  exact ⟨o, nm, qn, h1, h2, h3, .inr ⟨rfl, h4⟩⟩
theorem GenS.typeIs {s : Shared} {a n k : Nat} (g : GenS s.heap a n k) : s.TypeIs (.ref a) "generator" := by
  obtain ⟨o, nm, qn, h1, h2, h3, h4⟩ := g
  exact ⟨o, h1, h2⟩
theorem GenS.keeps {h h' : Heap} {a n k : Nat} (g : GenS h a n k) (e : ∀ o, h.get? a = some o → h'.get? a = some o) : GenS h' a n k := by
  obtain ⟨o, nm, qn, h1, h2⟩ := g
  exact ⟨o, nm, qn, e o h1, h2⟩
section
variable {M : Model} {A : Around} {E : Value → Shared → Prop} {s : Shared} {a n k : Nat}
theorem gen_number {Q : Nat → Shared → Prop} (g : GenS s.heap a n 0) (h : Q n s) : wpAny M A (Builtin.Generator.genNumber (.ref a)) Q E s := by
  obtain ⟨o, nm, qn, h1, h2, h3, h4⟩ := g
  unfold Builtin.Generator.genNumber
  refine wpAny_bind (wpAny_load h1 ?_)
  rcases h4 with h4 | ⟨_, h4⟩
  · rw [h4, h3]
    show wpAny M A (if ((0 : Int) > 0) then _ else _) Q E s
    rw [if_neg (by decide)]
    show wpAny M A (pure ((n : Int).toNat)) Q E s
    rw [Int.toNat_natCast]; exact wpAny_pure h
  · rw [h4, h3]
    show wpAny M A (pure ((n : Int).toNat)) Q E s
    rw [Int.toNat_natCast]; exact wpAny_pure h
theorem slept_over {Q : Unit → Shared → Prop} {b : Bool} {k' : Nat} (g : GenS s.heap a n k) (e : (if b then k + 1 else k - 1) = k') (hk : b = false → k ≠ 0)
    (h : ∀ h', GenS h' a n k' → Heap.SameBut a s.heap h' → Q () { s with heap := h' }) : wpAny M A (Builtin.Generator.sleptOver (.ref a) b) Q E s := by
  obtain ⟨o, nm, qn, h1, h2, h3, h4⟩ := g
  have nf : o.isFreed = false := Obj.isFreed_of_fields h3
  have put : ∀ x : Nat, x = k' → (o.slots = #[some (.int k 0)] ∨ o.slots = #[]) → wpAny M A (setSlotAt a 0 (some (.int x 0))) Q E s := fun x ex hs => by
    unfold setSlotAt
    rw [if_neg (by decide)]
    refine wpAny_updatePart h1 (h _ ⟨_, nm, qn, Heap.get?_update_self _ h1 ?_, ?_, ?_, .inl ?_⟩ (Heap.SameBut.update ..))
    · obtain ⟨c, d, dt, sl⟩ := o
      have h3 : dt = .fields #[.int n 0, nm, qn] := h3
      subst h3; rfl
    · exact h2
    · exact h3
    · rw [← ex]
      rcases hs with q | q <;> (show (o.slots ++ Array.replicate (0 + 1 - o.slots.size) none).setIfInBounds 0 _ = _; rw [q]; rfl)
  unfold Builtin.Generator.sleptOver
  refine wpAny_bind (wpAny_load h1 ?_)
  rw [h2, if_neg (by decide)]
  rcases h4 with h4 | ⟨rfl, h4⟩
  · rw [h4]
    cases b with
    | true => exact put (k + 1) e (.inl h4)
    | false =>
      have : rawInt ((k : Int) - 1) = .int ((k - 1 : Nat) : Int) 0 := by
        have := hk rfl
        have e : (k : Int) - 1 = ((k - 1 : Nat) : Int) := by omega
        rw [e]; rfl
      show wpAny M A (setSlotAt a 0 (some (rawInt ((k : Int) - 1)))) Q E s
      rw [this]
      exact put (k - 1) e (.inl h4)
  · rw [h4]
    cases b with
    | true => exact put (0 + 1) e (.inr h4)
    | false => exact absurd rfl (hk rfl)
end
section
variable {P : Program} {w : World} {A : Around} {E : Value → Shared → Prop} {s : Shared} {a n : Nat} {gs : GenState}
/-- what a call's code is to give -/
def RetP (Q E : Value → Shared → Prop) : Result → Shared → Prop := fun r s' => match r with
  | .ok (.ret v) => Q v s'
  | .ok _ => False
  | .error e => E e s'
def FinP (M : Model) (A : Around) (R : Result → Shared → Prop) : PySem.Fin → Shared → Prop := fun f s' => match f with
  | .done x => R (.ok x) s'
  | .again c => c.quiet = true ∧ codeAnyP M A c R s'
theorem special_P {T : String} {name : Str} {id : String} {b : Builtin} {self : Value} {rest : List Value} {Q : Option Value → Shared → Prop} (hT : s.TypeIs self T) (h : PySem.Slot T name id) (hb : entryFor table id = some b)
    (hc : wpAnyP (model P w) A.in1 (b ⟨self :: rest, []⟩) (FinP (model P w) A (RetP (fun v => Q (some v)) E)) E s) (ha : argsOk id ⟨self :: rest, []⟩ := by rfl) : wpAnyP (model P w) A (callSpecial? self name rest) Q E s := by
  simp only [callSpecial?]
  refine anyP_bind0 (wpAny_specialOf hT h.lookup ?_)
  simp only [h.bind]
  refine anyP_holding (anyP_bind0 (wpAny_pure (anyP_bind ?_)))
  refine anyP_mono (Q := fun v => Q (some v)) (anyP_call (codeP_tree ?_)) (fun v s' q => anyP_pure q) fun _ _ q => q
  show wpAnyP _ A.in1 (do checkBuiltinCall id ⟨self :: rest, []⟩; again (.builtin id ⟨self :: rest, []⟩)) _ _ s
  refine anyP_bind0 (h.check _ _ _ _ _ _ _ _ hT ha (anyP_pure ⟨plainId_quiet h.plain _, codeP_tree ?_⟩))
  rw [Around.under_plainId h.plain _]
  show wpAnyP _ _ (match entryFor table id with | some b => b ⟨self :: rest, []⟩ | none => unsupported ((withoutEnding? id "#data").getD id)) _ _ s
  rw [hb]
  exact anyP_mono hc (fun f s' q => by cases f with | done x => exact q | again c => exact q) fun _ _ q => q
/-- what a turn of next(..) is to give -/
def NextQ (n : Nat) (Q : Option Value → Shared → Prop) (E : Value → Shared → Prop) (e : End) (t : Shared) : Prop := EndMild t e ∧ match e with
  | .susp v .. => Q (some v) (t.setGen n e.genState)
  | .ret r => (r = .ok (.ret .none) ∨ r = .ok .next) ∧ ∀ h b, (∀ c o, t.heap.get? c = some o → h.get? c = some o) → StopX (.ref b) h → E (.ref b) { t.setGen n .finished with heap := h }
theorem next_P {Q : Option Value → Shared → Prop} (hh : A.handled = none) (hl : s.heap.NoLimit) (hd : A.depth < recursionLimit) (hg : GenS s.heap a n 0) (at_ : s.gens[n]? = some gs)
    (turn : PTurn (model P w) A.in1 (NextQ n Q E) gs (s.setGen n .running)) : wpAnyP (model P w) A (callSpecial? (.ref a) "__next__") Q E s := by
  refine special_P (name := Str.ofString "__next__") hg.typeIs slot_gen_next entry_gen_next ?_ (args_gen_next _)
  show wpAnyP _ A.in1 (Builtin.Generator.genWake (.ref a) (.send .none)) _ _ s
  unfold Builtin.Generator.genWake
  refine anyP_bind0 (wpAny_holding (gen_number hg (anyP_bind0 (wpAny_genState at_ ?_))))
  cases gs with
  | running => exact turn.elim
  | finished => exact turn.elim
  | _ =>
    refine anyP_bind0 (wpAny_roomToWake hl hd ?_)
    refine anyP_resume (l := []) at_ ?_
    refine pturn_mono turn fun e t q => ⟨q.1, ?_⟩
    cases e with
    | susp v g0 l0 k0 c0 p0 fs0 => exact anyP_pure q.2
    | ret r =>
      obtain ⟨_, which, q⟩ := q
      have e : (End.ret r).result = .returned .none := by rcases which with rfl | rfl <;> rfl
      rw [e]
      show wpAnyP _ A.in1 (newExc (.type "StopIteration") [] >>= _) _ _ _
      refine anyP_of (wpAny_bind ?_)
      simp only [newExc, newTuple]
      refine wpAny_bind (wpAny_newObj_type ?_ (by size_fits))
      refine wpAny_bind (m := firstArgMember _ _) (wpAny_of_eq (a := Value.none) (by first | rfl | (simp only [firstArgMember]; rfl)) ?_)
      refine wpAny_newObj_type ?_ (by size_fits)
      simp only [raiseNew]
      refine wpAny_bind (wpAny_bind (wpAny_handled ?_))
      rw [show A.in1.handled = none from hh]
      refine wpAny_throw ?_
      exact q _ _ (fun c o z => Heap.get?_push_of_some _ (Heap.get?_push_of_some _ z)) ⟨_, _, _, rfl, Heap.get?_push_size _ rfl, rfl, rfl, by first | rfl | kernel_rfl⟩
end
end Kn
namespace Kn
open PySem PySem.Spec PyProof.Rows
open L2 hiding St
section
variable {P : Program} {w : World} {A : Around} {E : Value → Shared → Prop} {s : Shared} {a n : Nat}
theorem codeP_builtin {id : String} {args : Args} {b : Builtin} {R : Result → Shared → Prop} (hb : entryFor table id = some b) (h : wpAnyP (model P w) (A.under (.builtin id args)) (b args) (FinP (model P w) A R) (fun e s' => R (.error e) s') s) : codeAnyP (model P w) A (.builtin id args) R s := by
  refine codeP_tree ?_
  show wpAnyP _ _ (match entryFor table id with | some b => b args | none => unsupported ((withoutEnding? id "#data").getD id)) _ _ s
  rw [hb]
  exact anyP_mono h (fun f s' q => by cases f with | done x => exact q | again c => exact q) fun _ _ q => q
theorem call_list_P {Q : Value → Shared → Prop} (hg : s.heap.IsGen a n)
    (loop : ∀ t, t.gens = s.gens → t.os = s.os → (∃ c, t.heap.get? s.heap.objs.size = some (lstObj #[] c)) → (∀ b o, s.heap.get? b = some o → t.heap.get? b = some o) → t.heap.objs.size = s.heap.objs.size + 1 →
      codeAnyP (model P w) A.in1 (.builtin "list.extend.loop" ⟨[.ref s.heap.objs.size, .ref a, .none], []⟩) (RetP (fun v s' => v = .none ∧ Q (.ref s.heap.objs.size) s') E) t) : wpAnyP (model P w) A (call (.type "list") [.ref a]) Q E s := by
  refine anyP_call (codeP_tree ?_)
  show wpAnyP _ _ (callAny (.type "list") _) _ _ _
  refine anyP_pure ⟨Code.quiet_builtin _ (by decide +kernel), codeP_builtin F.entry_type_call ?_⟩
  rw [Around.under_plain (weight_type_call_type "list" _ []) rfl]
  unfold Builtin.«type.__call__»
  dsimp only
  rw [if_neg (by decide)]
  rw [if_neg (by rw [F.called_list.canCreate]; decide)]
  refine anyP_bind0 (wpAny_of_eq (F.typeCall_list_1 _) ?_)
  refine anyP_bind0 (wpAny_of_eq F.mro_list ?_)
  rw [if_neg (by decide)]
  refine anyP_bind0 (wpAny_of_eq F.called_list.made ?_)
  dsimp only
  refine anyP_bind0 (wpAny_pure ?_)
  refine anyP_bind0 (wpAny_holding (wpAny_call (codeAny_mono (code_list_new (E := fun _ _ => False) (.ref a) (Q₁ := fun obj t => obj = .ref s.heap.objs.size ∧ t = { s with heap := s.heap.push { cls := .type "list", data := .seq #[] } }) ⟨rfl, rfl⟩) fun r t h => ?_)))
  cases r with
  | error e => exact h.elim
  | ok f =>
    cases f with
    | ret obj =>
      obtain ⟨rfl, rfl⟩ := h
      have hS : (s.heap.push { cls := .type "list", data := .seq #[] }).get? s.heap.objs.size = some { cls := .type "list", data := .seq #[] } := Heap.get?_push_size _ rfl
      have ty : Shared.TypeIs { s with heap := s.heap.push { cls := .type "list", data := .seq #[] } } (.ref s.heap.objs.size) "list" := ⟨_, hS, rfl⟩
      refine anyP_bind0 (wpAny_isInstance ty F.called_list.sub ?_)
      rw [if_neg (by decide)]
      refine anyP_bind (anyP_holding (special_P (name := Str.ofString "__init__") ty F.called_list.init F.entry_list_init ?_ (F.args_list_init_2 _ _)))
      have old : ∀ {h : Heap} {f : Obj → Obj}, (∀ b o, s.heap.get? b = some o → h.get? b = some o) → ∀ b o, s.heap.get? b = some o → (h.update s.heap.objs.size f).get? b = some o := fun k b o e =>
        (Heap.get?_update_other _ _ (Ne.symm (Nat.ne_of_lt (Heap.lt_size e)))).trans (k b o e)
      have k1 : ∀ b o, s.heap.get? b = some o → (s.heap.push { cls := .type "list", data := .seq #[] }).get? b = some o := fun b o e => Heap.get?_push_of_some _ e
      have isgen : ∀ {h : Heap}, (∀ b o, s.heap.get? b = some o → h.get? b = some o) → Shared.TypeIs { s with heap := h } (.ref a) "generator" := fun {h} k => Heap.IsGen.typeIs (s := { s with heap := h }) (hg.keeps k)
      have ne : s.heap.objs.size ≠ a := by
        obtain ⟨o, _, _, e, _⟩ := hg
        exact Nat.ne_of_gt (Heap.lt_size e)
      show wpAnyP _ A.in1.in1 (Builtin.List.listItems (.ref s.heap.objs.size) >>= fun old => Builtin.List.listUpdate (.ref s.heap.objs.size) (fun _ => #[]) >>= fun _ => letGo old.toList.reverse >>= fun _ => Builtin.List.listExtendWith (.ref s.heap.objs.size) (.ref a) .none) _ _ _
      refine anyP_bind0 ?_
      unfold Builtin.List.listItems
      refine wpAny_bind (wpAny_seqItems hS rfl (wpAny_pure ?_))
      refine anyP_bind0 (show wpAny _ _ (updateSeq s.heap.objs.size fun _ => #[]) _ _ _ from wpAny_updateSeq hS rfl ?_)
      have e1 := Heap.get?_update_self (Obj.mapSeq fun _ => (#[] : Array Value)) hS rfl
      have k2 := old (f := Obj.mapSeq fun _ => (#[] : Array Value)) k1
      refine anyP_bind0 (wpAny_letGo ?_)
      unfold Builtin.List.listExtendWith
      refine anyP_bind0 (wpAny_typeOf (isgen k2) ?_)
      have q1 : Builtin.List.listSameRef (.ref s.heap.objs.size) (.ref a) = false := by simp [Builtin.List.listSameRef, ne]
      simp only [q1, show (Value.type "generator" == Value.type "list") = false by decide, show (Value.type "generator" == Value.type "tuple") = false by decide, Bool.or_false, Bool.false_eq_true, if_false]
      refine anyP_bind0 (wpAny_pyIter_gen (s := { s with heap := _ }) (hg.keeps k2) ?_)
      refine anyP_bind0 (wpAny_holding ?_)
      unfold Builtin.List.listLengthHint
      refine wpAny_bind (wpAny_specialOf (isgen k2) F.gen_no_len ?_)
      refine wpAny_bind (m := specialOf (Value.ref a) (Str.ofString "__length_hint__")) (wpAny_specialOf (isgen k2) F.gen_no_hint (wpAny_pure ?_))
      rw [if_pos (Bool.true_or _)]
      refine anyP_bind0 (wpAny_rule ?_)
      refine anyP_bind0 (show wpAny _ _ (updateSeq s.heap.objs.size (·.push .none) >>= fun _ => updateSeq s.heap.objs.size (·.pop)) _ _ _ from ?_)
      refine wpAny_bind (wpAny_updateSeq e1 rfl ?_)
      have e2 := Heap.get?_update_self (Obj.mapSeq (·.push Value.none)) e1 rfl
      refine wpAny_updateSeq (hz := by seq_fits) e2 rfl ?_
      have e3 := Heap.get?_update_self (Obj.mapSeq (·.pop)) e2 rfl
      refine anyP_pure ⟨plainId_quiet F.plain_extend_loop _, ?_⟩
      refine codeP_mono (R := RetP (fun v s' => v = .none ∧ Q (.ref s.heap.objs.size) s') E) ?_ fun r t q => ?_
      · have k4 := old (f := Obj.mapSeq (·.pop)) (old (f := Obj.mapSeq (·.push Value.none)) k2)
        have z : ∀ h : Heap, h.get? s.heap.objs.size = some (Obj.mapSeq (·.pop) (Obj.mapSeq (·.push Value.none) (Obj.mapSeq (fun _ => (#[] : Array Value)) { cls := .type "list", data := .seq #[] }))) → ∃ c, h.get? s.heap.objs.size = some (lstObj #[] c) := fun h q => ⟨_, q⟩
        have e4 := z _ e3
        have sz : ∀ (h : Heap) (f : Obj → Obj), (h.update s.heap.objs.size f).objs.size = h.objs.size := fun h f => Heap.size_update ..
        have e5 : (Heap.update (Heap.update (Heap.update (s.heap.push { cls := .type "list", data := .seq #[] }) s.heap.objs.size (Obj.mapSeq fun _ => #[])) s.heap.objs.size (Obj.mapSeq (·.push Value.none))) s.heap.objs.size (Obj.mapSeq (·.pop))).objs.size = s.heap.objs.size + 1 := by rw [sz, sz, sz, Heap.size_push]
        clear e1 e2 e3
        generalize (Heap.update (Heap.update (Heap.update (s.heap.push { cls := .type "list", data := .seq #[] }) s.heap.objs.size (Obj.mapSeq fun _ => #[])) s.heap.objs.size (Obj.mapSeq (·.push Value.none))) s.heap.objs.size (Obj.mapSeq (·.pop))) = hh at e4 k4 e5 ⊢
        exact loop ⟨hh, s.gens, s.drawn, s.toks, s.os⟩ rfl rfl e4 k4 e5
      · cases r with
        | error e => exact q
        | ok f =>
          cases f with
          | ret v =>
            obtain ⟨rfl, q⟩ := q
            show wpAnyP _ _ (if (Value.none != Value.none) = true then _ else _) _ _ _
            rw [if_neg (by decide)]
            exact anyP_pure q
          | _ => exact q.elim
    | _ => exact h.elim
end
end Kn
namespace Kn
open PySem PySem.Spec PyProof.Rows
open L2 hiding St
section
variable {α β : Type} {M : Model} {A : Around} {Q : End → Shared → Prop} {c : Code} {fs : List Frame} {s : Shared} {env : Env} {K : Flow → Sem PySem.Fin} {J : Value → Sem PySem.Fin} {gd : Bool → Bool} {lv : List Value → List Value}
theorem wrap_of_bind {γ : Type} (m : Sem α) (f : α → Sem β) (K : β → Sem γ) (J : Value → Sem γ) (gd : Bool → Bool) (lv : List Value → List Value) : (m >>= f).wrap K J gd lv = m.wrap (fun a => (f a).wrap K J gd lv) J gd lv := by
  rw [Sem.bind_eq_wrap', Sem.wrap_wrap]; rfl
/-- a quiet head -/
theorem pseg_head {m : Sem α} {f : α → Sem β} {K : β → Sem PySem.Fin} (h : wpAny M (A.over c fs) m (fun a t => PSeg M A Q c ((f a).wrap K J gd lv) fs t) (fun _ _ => False) s) : PSeg M A Q c ((m >>= f).wrap K J gd lv) fs s := by
  rw [wrap_of_bind]
  exact pseg_wrap (anyP_of (wpAny_mono h (fun _ _ z => z) fun _ _ z => z.elim))
theorem pseg_cons {st : Stmt} {rest : List Stmt} (h : PSeg M A Q c ((exec st env).wrap (fun f => match f with | .next => (execs rest env).wrap K J gd lv | f => K f) J gd lv) fs s) : PSeg M A Q c ((execs (st :: rest) env).wrap K J gd lv) fs s := by
  rw [execs_cons_wrap]
  exact h
/-- yield e -/
theorem pseg_Yield {e : Expr} {yp pos : Pos} (hfs : splitAtGen fs = none) (hgd : gd false = false)
    (h : wpAny M (A.over c fs) (eval e env) (fun v t => ∀ k l p, (∀ A' Q' t', PSeg M A' Q' c (K .next) fs t' → PSeg M A' Q' c (k (.send .none)) fs t') → Q (.susp v false l k c p fs) t) (fun _ _ => False) s)
    (hco : env.scope.isCoroutine = false := by rfl) (hi : interactive env = false := by rfl) : PSeg M A Q c ((exec (.Expr (.Yield (some e) yp) pos) env).wrap K J gd lv) fs s := by
  rw [exec_Expr env _ pos hi rfl]
  have hy : ∀ v, yieldOut env v = yieldValue v := fun v => by simp only [yieldOut, hco, Bool.false_eq_true, if_false]
  show PSeg M A Q c (.at pos fun _ => ((eval e env >>= fun v => (standAt yp >>= fun _ => yieldOut env v)) >>= fun x => dropValue (.Yield (some e) yp) pos x).wrap K J gd lv) fs s
  simp only [hy]
  refine pseg_at ?_
  rw [wrap_of_bind, wrap_of_bind]
  refine pseg_wrap (anyP_of (wpAny_mono h (fun v t q => ?_) fun _ _ z => z.elim))
  refine pseg_at ?_
  have go : ∀ (k : Resume → Sem PySem.Fin) (l : List Value) (g0 : Bool), g0 = false → (∀ A' Q' t', PSeg M A' Q' c (K .next) fs t' → PSeg M A' Q' c (k (.send .none)) fs t') → PSeg M A Q c (.yield v g0 l k) fs t := fun k l g0 e0 hk => by
    subst e0
    exact pseg_yield hfs fun p => q k l p hk
  exact go _ _ _ hgd fun A' Q' t' z => z
/-- the frame of a loop that holds yields -/
theorem pseg_For {tg iter : Expr} {body : List Stmt} {pos : Pos} (h : wpAny M (A.over c fs) (eval iter env) (fun x t => wpAny M (A.over c fs) (pyIter x) (fun it t2 => ∀ p, PSeg M A Q (.forLoop tg it body [] env) (M.den (.forLoop tg it body [] env)) (loopF env K J gd lv c p :: fs) t2) (fun _ _ => False) t) (fun _ _ => False) s)
    (hs : ∀ x, foldedSetIterable iter env x = pure x := by intro _; rfl) : PSeg M A Q c ((exec (.For tg iter body [] pos) env).wrap K J gd lv) fs s := by
  rw [exec_For]
  refine pseg_head (wpAny_standAt ?_)
  refine pseg_head (wpAny_mono h (fun x t q => ?_) fun _ _ z => z)
  refine pseg_head (wpAny_of_eq (hs x) ?_)
  refine pseg_head (wpAny_standAt ?_)
  refine pseg_head (wpAny_holding (wpAny_mono q (fun it t2 q2 => ?_) fun _ _ z => z))
  exact pseg_call q2
/-- what follows a for loop's body -/
abbrev forK (tg : Expr) (it : Value) (body : List Stmt) (env : Env) : Flow → Sem PySem.Fin := fun f => match f with
  | .next | .cont => .pure (.again (.forLoop tg it body [] env))
  | .brk => .pure (.done .next)
  | .ret v => .pure (.done (.ret v))
end
section
variable {P : Program} {w : World} {A : Around} {Q : End → Shared → Prop} {fs : List Frame} {s : Shared} {env : Env} {c : Code} {K : Flow → Sem PySem.Fin} {J : Value → Sem PySem.Fin}
theorem pseg_func {body : List Stmt}
    (h : PSeg (model P w) A Q (.func body env) ((execs body env).wrap (fun f => .pure (.done (.ret (match f with | .ret v => v | _ => .none)))) (fun e => (leaving env e).wrap (fun _ => .raise e) .raise id id) id id) fs s) :
    PSeg (model P w) A Q (.func body env) ((model P w).den (.func body env)) fs s := by
  show PSeg _ A Q _ (.point [] fun _ => ((execs body env).onRaise (leaving env)) >>= _) fs s
  refine pseg_point ?_
  rw [Sem.onRaise_eq_wrap, Sem.bind_eq_wrap', Sem.wrap_wrap]
  rw [Sem.wrap_congr (execs body env) _ _ (K' := fun f => .pure (.done (.ret (match f with | .ret v => v | _ => .none)))) (H' := fun e => (leaving env e).wrap (fun _ => .raise e) .raise id id) (fun f => by cases f <;> rfl)
    (fun e => by rw [Sem.bind_eq_wrap, Sem.wrap_wrap]; rfl)]
  exact h
/-- a turn of a for loop: its end -/
theorem pseg_for_end {x : Str} {px p : Pos} {it : Value} {body : List Stmt} (h : wpAny (model P w) (A.over (.forLoop (.Name x px) it body [] env) (loopF env K J id id c p :: fs)) (pyNext it) (fun r t => r = none ∧ PSeg (model P w) A Q c (K .next) fs t) (fun _ _ => False) s) :
    PSeg (model P w) A Q (.forLoop (.Name x px) it body [] env) ((model P w).den (.forLoop (.Name x px) it body [] env)) (loopF env K J id id c p :: fs) s := by
  show PSeg _ A Q _ ((forTurn (.Name x px) it body [] env).onRaise (fun x => do noteFrame x env; theTreesLotGoes x)) _ s
  unfold forTurn
  rw [Sem.onRaise_eq_wrap]
  refine pseg_head (wpAny_standAt ?_)
  refine pseg_head (wpAny_onRaise (wpAny_mono h (fun r t q => ?_) fun _ _ z => z.elim))
  obtain ⟨rfl, q⟩ := q
  refine pseg_again rfl ?_
  show PSeg _ A Q _ (leafOf (.ok .next)) _ t
  exact pseg_leaf (.ok .next) q
/-- .. or its body -/
theorem pseg_for_item {x : Str} {px p : Pos} {it : Value} {body : List Stmt} (h : wpAny (model P w) (A.over (.forLoop (.Name x px) it body [] env) (loopF env K J id id c p :: fs)) (pyNext it) (fun r t => ∃ v, r = some v ∧ wpAny (model P w) (A.over (.forLoop (.Name x px) it body [] env) (loopF env K J id id c p :: fs)) (letOwnedTupleGo (.Name x px) it v) (fun _ t1 => wpAny (model P w) (A.over (.forLoop (.Name x px) it body [] env) (loopF env K J id id c p :: fs)) (storeName env x v)
      (fun _ t2 => PSeg (model P w) A Q (.forLoop (.Name x px) it body [] env) ((execs body env).wrap (forK (.Name x px) it body env) (loopJ env) id id) (loopF env K J id id c p :: fs) t2) (fun _ _ => False) t1) (fun _ _ => False) t) (fun _ _ => False) s) :
    PSeg (model P w) A Q (.forLoop (.Name x px) it body [] env) ((model P w).den (.forLoop (.Name x px) it body [] env)) (loopF env K J id id c p :: fs) s := by
  show PSeg _ A Q _ ((forTurn (.Name x px) it body [] env).onRaise (fun x => do noteFrame x env; theTreesLotGoes x)) _ s
  unfold forTurn
  rw [Sem.onRaise_eq_wrap]
  refine pseg_head (wpAny_standAt ?_)
  refine pseg_head (wpAny_onRaise (wpAny_mono h (fun r t q => ?_) fun _ _ z => z.elim))
  obtain ⟨v, rfl, q⟩ := q
  refine pseg_head (wpAny_mono q (fun _ t1 q1 => ?_) fun _ _ z => z)
  refine pseg_head (wpAny_assign_Name (wpAny_mono q1 (fun _ t2 q2 => ?_) fun _ _ z => z))
  rw [wrap_of_bind]
  rw [Sem.wrap_congr (execs body env) _ _ (K' := forK (.Name x px) it body env) (H' := loopJ env) (fun f => by cases f <;> rfl)
      (fun e => by first | exact Sem.bind_eq_wrap _ _ | (show (do noteFrame e env; theTreesLotGoes e : Sem Unit).bind (fun _ => .raise e) = _; rw [Sem.bind_eq_wrap]))]
  exact q2
end
end Kn
namespace Kn
open PySem PySem.Spec PyProof.Rows
open L2 hiding St
theorem gen_close : typeLookup (.type "generator") "close" = pure (some (.builtin "generator.close")) := by rw [typeLookup_type, builtinLookup_eq_fast]; kernel_rfl
abbrev yfC (a : Addr) : Code := .builtin "proto.yield_from" ⟨[.ref a, .bool false, .none], []⟩
theorem yf_tree {P : Program} {w : World} {a : Addr} : (model P w).den (yfC a) = Builtin.«proto.yield_from» ⟨[.ref a, .bool false, .none], []⟩ := by
  show (match entryFor table "proto.yield_from" with | some b => b ⟨[.ref a, .bool false, .none], []⟩ | none => unsupported ((withoutEnding? "proto.yield_from" "#data").getD "proto.yield_from")) = _
  rw [entry_yf]
section
variable {P : Program} {w : World} {A : Around} {Q : End → Shared → Prop} {fs : List Frame} {s : Shared} {a n : Nat} {gs : GenState}
theorem pseg_yf (hh : (A.over (yfC a) fs).handled = none) (hl : s.heap.NoLimit) (hd : (A.over (yfC a) fs).depth < recursionLimit) (hg : GenS s.heap a n 0) (at_ : s.gens[n]? = some gs) (hsp : splitAtGen fs = none)
    (turn : PTurn (model P w) (A.over (yfC a) fs).in1 (NextQ n (fun r t => ∃ v, r = some v ∧ GenS t.heap a n 0 ∧ ∀ h', GenS h' a n 1 → Heap.SameBut a t.heap h' → ∀ k l p,
        (∀ A' Q' t', GenS t'.heap a n 1 → (∀ h2, GenS h2 a n 0 → Heap.SameBut a t'.heap h2 → PSeg (model P w) A' Q' (yfC a) ((model P w).den (yfC a)) fs { t' with heap := h2 }) → PSeg (model P w) A' Q' (yfC a) (k (.send .none)) fs t') →
        Q (.susp v true l k (yfC a) p fs) { t with heap := h' }) (fun e t => StopX e t.heap ∧ PSeg (model P w) A Q (yfC a) (leafOf (.ok (.ret .none))) fs t)) gs (s.setGen n .running)) :
    PSeg (model P w) A Q (yfC a) ((model P w).den (yfC a)) fs s := by
  rw [yf_tree]
  unfold Builtin.«proto.yield_from»
  try dsimp only
  refine pseg_bind (anyP_pure ?_)
  try dsimp only
  refine pseg_bind (anyP_attempt (anyP_holding ?_))
  rw [if_neg Bool.false_ne_true, if_pos (show (Value.none == Value.none) = true from rfl)]
  refine anyP_bind0 (wpAny_rule (anyP_bind ?_))
  refine next_P hh hl hd hg at_ (pturn_mono turn fun e t q => ⟨q.1, ?_⟩)
  cases e with
  | ret r =>
    refine ⟨q.2.1, fun h b kp st => ?_⟩
    obtain ⟨st2, q⟩ := q.2.2 h b kp st
    obtain ⟨b', o, vs, eb, ho, hc, hdat, h5⟩ := st
    cases eb
    try dsimp only
    refine pseg_bind (anyP_of (wpAny_endsTurn ho hc ?_))
    try dsimp only
    rw [if_pos rfl, if_neg Bool.false_ne_true]
    refine pseg_bind (anyP_of (wpAny_rule ?_))
    refine pseg_bind (anyP_of (wpAny_field ho hdat h5 ?_))
    exact q
  | susp v g0 l0 k0 c0 p0 fs0 =>
    obtain ⟨_, v', ev, hg2, q⟩ := q
    cases ev
    refine anyP_pure ?_
    try dsimp only
    refine pseg_bind (anyP_of (wpAny_typeOf (GenS.typeIs (s := t.setGen n _) hg2) ?_))
    try dsimp only
    first
      | (refine pseg_bind (anyP_of (wpAny_of_eq gen_close ?_)); refine pseg_bind (anyP_of (wpAny_pure ?_)))
      | refine pseg_bind (anyP_of (wpAny_bind (wpAny_of_eq gen_close (wpAny_pure ?_))))
    try dsimp only
    refine pseg_bind (anyP_of (slept_over (s := t.setGen n _) hg2 (k' := 1) rfl (fun z => by cases z) fun h' g' sb => ?_))
    refine pseg_yield hsp fun p => ?_
    refine q h' g' sb _ _ p fun A' Q' t' g2 h2 => ?_
    show PSeg _ A' Q' _ (Builtin.Generator.sleptOver (.ref a) false >>= fun _ => _) fs t'
    refine pseg_bind (anyP_of (slept_over g2 (k' := 0) rfl (fun _ => by decide) fun h3 g3 sb3 => ?_))
    try dsimp only
    refine pseg_bind (anyP_of (wpAny_pure ?_))
    exact pseg_again (plainId_quiet plain_yf _) (h2 h3 g3 sb3)
/-- a code without frames of its own, called from another: one unit more -/
theorem over_plain {A : Around} {c c' : Code} {fs : List Frame} {k : Result → Sem PySem.Fin} {g : Bool} {l kp : List Value} {p : Pos} (hw : c'.weight = 0) (hu : c'.cUnits = 1) : A.over c' (.ret k none g l c p kp :: fs) = (A.over c fs).in1 := by
  obtain ⟨d, h, fr, gu, un⟩ := A
  have we := Code.envs_of_weight hw
  have wg := Code.guards_of_weight hw
  unfold Around.over Around.in1
  simp only [List.map_cons, show Frame.where_ (.ret k none g l c p kp) = (c, p) from rfl, frameCount_cons, envsOf_cons, guardsOf_cons, unitsOf_cons, hw, hu, we, wg, pushEnvs_eq, pushGuards_eq, Around.mk.injEq]
  and_intros
  all_goals first | omega | rfl | (cases fr <;> simp [Function.comp_def]; done) | (cases gu <;> simp [Function.comp_def]; done)
/-- yield from e, a generator -/
theorem pseg_YieldFrom {e : Expr} {yp pos : Pos} {env : Env} {c : Code} {K : Flow → Sem PySem.Fin} {J : Value → Sem PySem.Fin} {gd : Bool → Bool} {lv : List Value → List Value} (hgd : gd false = false)
    (h : wpAny (model P w) (A.over c fs) (eval e env) (fun u t => ∃ a n, u = .ref a ∧ t.heap.IsGen a n ∧ ∀ p l Kr, (∀ A' Q' t', PSeg (model P w) A' Q' c (K .next) fs t' → PSeg (model P w) A' Q' c (Kr (.ok (.ret .none))) fs t') → PSeg (model P w) A Q (yfC a) ((model P w).den (yfC a)) (.ret Kr none false l c p [] :: fs) t) (fun _ _ => False) s)
    (hi : interactive env = false := by rfl) : PSeg (model P w) A Q c ((exec (.Expr (.YieldFrom e yp) pos) env).wrap K J gd lv) fs s := by
  rw [exec_Expr env _ pos hi rfl]
  refine pseg_head (wpAny_standAt ?_)
  show PSeg _ A Q c (((eval e env >>= fun v => (standAt yp >>= fun _ => yieldFrom env v)) >>= fun x => dropValue (.YieldFrom e yp) pos x).wrap K J gd lv) fs s
  rw [wrap_of_bind]
  refine pseg_head (wpAny_mono h (fun u t q => ?_) fun _ _ z => z)
  obtain ⟨a, n, rfl, g, q⟩ := q
  refine pseg_head (wpAny_standAt ?_)
  unfold yieldFrom
  refine pseg_head (wpAny_typeOf g.typeIs ?_)
  rw [if_neg (by decide)]
  refine pseg_head (wpAny_holding (wpAny_pyIter_gen g ?_))
  refine pseg_call fun p => ?_
  have go : ∀ (Kr : Result → Sem PySem.Fin) (l : List Value) (g0 : Bool), g0 = false → (∀ A' Q' t', PSeg (model P w) A' Q' c (K .next) fs t' → PSeg (model P w) A' Q' c (Kr (.ok (.ret .none))) fs t') → PSeg (model P w) A Q (yfC a) ((model P w).den (yfC a)) (.ret Kr none g0 l c p [] :: fs) t := fun Kr l g0 e hk => by
    subst e
    exact q p l Kr hk
  exact go _ _ _ hgd fun A' Q' t' z => z
end
end Kn
namespace Kn
open PySem PySem.Spec PyProof.Rows
open L2 hiding St
/-- it sleeps; vs may change -/
def Slp (g : Gn) (vs : List Addr) (outer : List Env) (σ : SV) (H : Hp) (s : Shared) : Prop :=
  ∃ s0 H0, ∀ A G, A.handled = none → A.frames = some outer → AllBare G → L2.Inv { g.cx A outer s0 H0 with ex := vs } [] σ H { s with gens := G }
/-- between two turns: a its own object, n its number -/
structure VarS (vs : List Addr) (a n : Nat) (s s' : Shared) : Prop where
  os : s'.os = s.os
  gsz : s'.gens.size = s.gens.size
  up : ∀ i, n ≤ i → s'.gens[i]? = s.gens[i]?
  low : ∀ i x, i < n → s'.gens[i]? = some x → x.bare = true
  heap : ∀ b, b ∉ a :: vs → s'.heap.get? b = s.heap.get? b
  gen : GenS s'.heap a n 0
  vol : ∀ v ∈ vs, ∃ o, s'.heap.get? v = some o ∧ ∀ x, o.data ≠ .cell x
/-- where such objects are -/
structure Vols (g : Gn) (outer : List Env) (vs : List Addr) (a : Addr) : Prop where
  own : g.L < a ∧ a ∉ frs outer ∧ a ∉ vs
  all : ∀ v ∈ vs, v ≠ g.L ∧ v ∉ frs outer ∧ g.base.objs.size ≤ v
  fs : ∀ b ∈ frs outer, b < g.L
  base : g.base.objs.size ≤ g.L
  noc : ∀ x, g.env.cells.lookup x = none
def pinsOf (h : Heap) (l : List Addr) : List (Addr × Obj) := l.filterMap fun v => (h.get? v).map fun o => (v, o)
theorem mem_pins {h : Heap} {l : List Addr} {p : Addr × Obj} (hp : p ∈ pinsOf h l) : p.1 ∈ l ∧ h.get? p.1 = some p.2 := by
  obtain ⟨v, hv, e⟩ := List.mem_filterMap.mp hp
  cases q : h.get? v with
  | none => rw [q] at e; cases e
  | some o => rw [q] at e; cases e; exact ⟨hv, q⟩
theorem pins_mem {h : Heap} {l : List Addr} {v : Addr} {o : Obj} (hv : v ∈ l) (e : h.get? v = some o) : (v, o) ∈ pinsOf h l := List.mem_filterMap.mpr ⟨v, hv, by rw [e]; rfl⟩
/-- what a turn leaves -/
structure TurnFr (g : Gn) (outer : List Env) (vs : List Addr) (a n : Nat) (O : Own) (H H' : Hp) (s t : Shared) : Prop where
  os : t.os = s.os
  gsz : s.gens.size ≤ t.gens.size
  low : ∀ i x, i < n → t.gens[i]? = some x → x.bare = true
  un : L2.Un (frs outer) [] H H' (cutH s.heap g.L) t.heap
  hok : HOk g.P g.w H' t.heap
  own : OwnOk g.K O H'
  same : Same (hid O H) (hid O H')
  vol : ∀ v ∈ a :: vs, t.heap.get? v = s.heap.get? v ∧ H' v = none
/-- it will give ds -/
def Rdy (g : Gn) (outer : List Env) (vs : List Addr) (k a n : Nat) (O : Own) : List Dat → Hp → Shared → Prop
  | [], H, s => ∃ gs, s.gens[n]? = some gs ∧ ∀ s' A, VarS vs a n s s' → Room k A → A.frames = some outer → PTurn (model g.P g.w) A (fun e t => EndMild t e ∧ ∃ r H', e = .ret r ∧ (r = .ok (.ret .none) ∨ r = .ok .next) ∧ TurnFr g outer vs a n O H H' (s'.setGen n .running) t ∧ AllBare t.gens) gs (s'.setGen n .running)
  | d :: ds, H, s => ∃ gs, s.gens[n]? = some gs ∧ ∀ s' A, VarS vs a n s s' → Room k A → A.frames = some outer → PTurn (model g.P g.w) A (fun e t => EndMild t e ∧ ∃ v g0 l0 k0 c0 p0 fs0 x H', e = .susp v g0 l0 k0 c0 p0 fs0 ∧ RelV x v ∧ Rp g.K (hid O H') x d ∧ TurnFr g outer vs a n O H H' (s'.setGen n .running) t ∧ Rdy g outer vs k a n O ds H' (t.setGen n e.genState)) gs (s'.setGen n .running)
section
variable {g : Gn} {vs : List Addr} {outer : List Env} {σ : SV} {H H' : Hp} {s s' t : Shared} {a n : Nat} {A : Around}
theorem un_same {fs ch : List Addr} {h h' : Heap} (k : ∀ b, b ∉ ch → h'.get? b = h.get? b) : L2.Un fs ch H H h h' :=
  ⟨fun b o e _ _ hb => (k b hb).trans e, fun b o e _ _ hb => ⟨o.slots, (k b hb).trans e⟩, fun _ _ _ z _ => z, fun b o e hb => ⟨o, (k b hb).trans e⟩, fun _ _ z => z, fun _ _ _ z => z, fun _ ps z => ⟨#[], by rw [z]; simp⟩⟩
theorem hok_same {P : Program} {w : World} {ch : List Addr} {h h' : Heap} (ok : HOk P w H h) (k : ∀ b, b ∉ ch → h'.get? b = h.get? b) (hn : ∀ v ∈ ch, H v = none) : HOk P w H h' := fun b u e =>
  (ok b u e).stay (fun c x hc q => (k c fun z => by
    rcases hc with rfl | hc
    · rw [hn _ z] at e; cases e
    · rw [hn _ z] at hc; cases hc).trans q) (fun _ z => z) fun _ _ z => z
theorem set_size {g : Nat} {x : GenState} : (s.setGen g x).gens.size = s.gens.size := GenW.setGen_size s g x
theorem Vols.nc (W : Vols g outer vs a) {p : Prop} (x : Str) (c : Addr) (e : g.env.cells.lookup x = some c) : p := by rw [W.noc x] at e; cases e
/-- the store at a turn's start, as its own context sees it -/
abbrev atCut (s : Shared) (L : Nat) : Shared := { s with heap := cutH s.heap L, gens := #[] }
/-- it wakes -/
theorem Slp.wake (S : Slp g vs outer σ H s) (V : VarS vs a n s s') (W : Vols g outer vs a) (hH : ∀ v ∈ a :: vs, H v = none) (hA : A.handled = none) (hf : A.frames = some outer) :
    L2.Inv (g.cx A outer (atCut (s'.setGen n .running) g.L) H) (pinsOf s'.heap (a :: vs)) σ H { s'.setGen n .running with gens := #[] } := by
  obtain ⟨s0, H0, S⟩ := S
  have I0 := S A #[] hA hf AllBare.empty
  have lt0 : s0.heap.objs.size ≤ g.L := I0.ok.above
  have I1 : L2.Inv { g.cx A outer s0 H0 with ex := vs } [] σ H { s'.setGen n .running with gens := #[] } := I0.call' (ch := a :: vs) V.os (un_same V.heap) (hok_same I0.hok V.heap hH) AllBare.empty fun b hb => by
    refine ⟨?_, ?_, fun x c e => W.nc x c e, fun p hp => (nomatch hp)⟩
    · rcases List.mem_cons.mp hb with rfl | hb
      · exact .inr (Nat.le_trans lt0 (Nat.le_of_lt W.own.1))
      · exact .inl hb
    · rcases List.mem_cons.mp hb with rfl | hb
      · exact Nat.ne_of_gt W.own.1
      · exact (W.all b hb).1
  have I2 := inv_anew (n := g.L) I1 (Nat.le_refl _) W.base W.fs fun x c _ e => W.nc x c e
  refine inv_pins (X := g.cx A outer (atCut (s'.setGen n .running) g.L) H) I2 fun p hp => ?_
  obtain ⟨m, e⟩ := mem_pins (show p ∈ pinsOf s'.heap (a :: vs) from hp)
  refine ⟨e, hH _ m, ?_, ?_, ?_⟩
  · rcases List.mem_cons.mp m with z | z
    · rw [z]; exact Nat.ne_of_gt W.own.1
    · exact (W.all _ z).1
  · rcases List.mem_cons.mp m with z | z
    · rw [z]; exact W.own.2.1
    · exact (W.all _ z).2.1
  · rcases List.mem_cons.mp m with z | z
    · obtain ⟨o, nm, qn, h1, h2, h3, h4⟩ := V.gen
      rw [z, h1] at e; cases e
      intro v q; rw [h3] at q; cases q
    · obtain ⟨o, h1, h2⟩ := V.vol _ z
      rw [h1] at e; cases e
      exact h2
/-- it goes to sleep -/
theorem Slp.of {pins : List (Addr × Obj)} {s0 : Shared} {H0 : Hp} (I : L2.Inv (g.cx A outer s0 H0) pins σ H t) (W : Vols g outer vs a) : Slp g vs outer σ H t := by
  obtain ⟨a1, a2, a3, a4, a5, a6, a7, a8, a9, a10, a11⟩ := I
  refine ⟨s0, H0, fun A' G hA hf hG => ⟨⟨a1.mod, a1.kind, a1.glob, a1.blt, a1.above, a1.inj, a1.has, a1.cab, fun _ => hA, ?_, a1.stk, fun b hb => ⟨(W.all b hb).1, fun x c e => W.nc x c e⟩, a1.bs, a1.bsz, fun b o e hb => ?_, fun b hb => (W.all b hb).2.1, a1.funs, a1.frf⟩,
    a2, hG, ⟨fun b o e z hb hx => a4.keep b o e z hb (fun q => nomatch q), fun b o e z hb hx => a4.slot b o e z hb (fun q => nomatch q), fun b o e z hx => a4.free b o e z (fun q => nomatch q), fun b o e hx => a4.there b o e (fun q => nomatch q), a4.tups, a4.frzs, a4.tbls⟩, a5, a6, a7, a8, fun p hp => (nomatch hp), a10, a11⟩⟩
  · show (A'.deeper g.env).frames = _
    simp only [Around.deeper, hf]; rfl
  · exact absurd (Heap.lt_size e) (Nat.not_lt.mpr (W.all b hb).2.2)
/-- it runs: since sb (tracked as in Hb) -/
structure Run (g : Gn) (A : Around) (outer : List Env) (vs : List Addr) (a n : Nat) (O : Own) (xp : List (Addr × Obj)) (sb : Shared) (Hb : Hp) (σ : SV) (ρ : List Slot) (H : Hp) (s : Shared) : Prop where
  inv : L2.Inv (g.cx A outer (atCut sb g.L) Hb) (xp ++ pinsOf sb.heap (a :: vs)) σ H { s with gens := #[] }
  xpo : ∀ p ∈ xp, p.1 ∉ a :: vs
  own : OwnOk g.K O H
  env : Paired (EnvOk g.K (hid O H)) σ ρ
  same : Same (hid O Hb) (hid O H)
  gsz : sb.gens.size ≤ s.gens.size
  num : n < sb.gens.size
  vol : ∀ v ∈ a :: vs, ∃ o, sb.heap.get? v = some o
section
variable {O : Own} {xp : List (Addr × Obj)} {sb : Shared} {Hb : Hp} {ρ : List Slot}
theorem Run.st (R : Run g A outer vs a n O xp sb Hb σ ρ H s) : StOk g.K (hid O H) O σ ρ H := ⟨R.own, Same.refl _, R.env⟩
theorem Run.fr (R : Run g A outer vs a n O xp sb Hb σ ρ H s) (low : ∀ i x, i < n → s.gens[i]? = some x → x.bare = true) : TurnFr g outer vs a n O Hb H sb s :=
  ⟨R.inv.os, R.gsz, low, R.inv.base, R.inv.hok, R.own, R.same, fun v hm => by
    obtain ⟨o, e⟩ := R.vol v hm
    have p := R.inv.pin (v, o) (List.mem_append_right _ (List.mem_append_right _ (pins_mem hm e)))
    exact ⟨p.1.trans e.symm, p.2.1⟩⟩
/-- a quiet piece of its text -/
theorem Run.ew {e : Expr} {k : Slot → Own → Prop} (R : Run g A outer vs a n O xp sb Hb σ ρ H s) (ab : AllBare s.gens) (h : ∀ s0 H0, EW (g.cx A outer s0 H0) O ρ e noX k) :
    wpAny (model g.P g.w) (A.deeper g.env) (eval e g.env) (fun u t => ∃ v H1 z O1, L2.Inv (g.cx A outer (atCut sb g.L) Hb) (xp ++ pinsOf sb.heap (a :: vs)) σ H1 t ∧ RelV v u ∧ k z O1 ∧ StOk g.K (hid O H) O1 σ ρ H1 ∧ SlOk g.K (hid O1 H1) v z ∧ s.gens.size ≤ t.gens.size) (fun _ _ => False) s := by
  have I : L2.Inv (g.cx A outer (atCut sb g.L) Hb) (xp ++ pinsOf sb.heap (a :: vs)) σ H s := inv_gens R.inv rfl rfl ab
  refine GenW.wpAny_gsz (Nat.le_refl _) (wpAny_mono ((h (atCut sb g.L) Hb (hid O H) σ H R.st takes_no (fun v H1 => ∃ z O1, k z O1 ∧ StOk g.K (hid O H) O1 σ ρ H1 ∧ SlOk g.K (hid O1 H1) v z) fun v H1 z O1 hk st1 r1 => ⟨z, O1, hk, st1, r1⟩).r _ s I) (fun u t q => ?_) fun _ _ z => z.elim)
  obtain ⟨v, H1, I1, rv, z, O1, hk, st1, r1⟩ := q
  exact fun gs => ⟨v, H1, z, O1, I1, rv, hk, st1, r1, gs⟩
theorem Run.ev {e : Expr} {d : Dat} (R : Run g A outer vs a n O xp sb Hb σ ρ H s) (ab : AllBare s.gens) (h : ∀ s0 H0, EV (g.cx A outer s0 H0) O ρ e noX d) :
    wpAny (model g.P g.w) (A.deeper g.env) (eval e g.env) (fun u t => ∃ v H1, Run g A outer vs a n O xp sb Hb σ ρ H1 t ∧ AllBare t.gens ∧ RelV v u ∧ Rp g.K (hid O H1) v d ∧ s.gens.size ≤ t.gens.size) (fun _ _ => False) s := by
  refine wpAny_mono (R.ew ab h) (fun u t q => ?_) fun _ _ z => z
  obtain ⟨v, H1, z, O1, I1, rv, ⟨rfl, rfl⟩, st1, r1, gs⟩ := q
  exact ⟨v, H1, ⟨inv_gens I1 rfl rfl AllBare.empty, R.xpo, st1.own, st1.env, R.same.trans st1.base, Nat.le_trans R.gsz gs, R.num, R.vol⟩, I1.bare, rv, r1, gs⟩
end
end
end Kn
namespace Kn
open PySem PySem.Spec PyProof.Rows
open L2 hiding St
theorem pyNext_P {P : Program} {w : World} {A : Around} {E : Value → Shared → Prop} {s : Shared} {a n : Nat} {gs : GenState} {Q : Option Value → Shared → Prop} (hh : A.handled = none) (hl : s.heap.NoLimit) (hd : A.depth < recursionLimit) (hg : GenS s.heap a n 0) (at_ : s.gens[n]? = some gs)
    (turn : PTurn (model P w) A.in1 (fun e t => EndMild t e ∧ match e with
      | .susp v .. => Q (some v) (t.setGen n e.genState)
      | .ret r => (r = .ok (.ret .none) ∨ r = .ok .next) ∧ ∀ h, (∀ c o, t.heap.get? c = some o → h.get? c = some o) → Q none { t.setGen n .finished with heap := h }) gs (s.setGen n .running)) : wpAnyP (model P w) A (pyNext (.ref a)) Q E s := by
  unfold pyNext
  refine anyP_bind (anyP_attempt (next_P hh hl hd hg at_ (pturn_mono turn fun e t q => ⟨q.1, ?_⟩)))
  cases e with
  | susp v g0 l0 k0 c0 p0 fs0 => exact anyP_pure q.2
  | ret r =>
    refine ⟨q.2.1, fun h b kp st => ?_⟩
    obtain ⟨b', o, us, eb, ho, hc, _⟩ := st
    cases eb
    refine anyP_bind0 (wpAny_isInstance (T := "StopIteration") (b := true) ⟨_, ho, hc⟩ isSubtype_stop ?_)
    exact anyP_pure (q.2.2 h kp)
section
variable {g : Gn} {vs : List Addr} {outer : List Env} {k a n S : Nat} {O : Own}
theorem un_to {fs ex : List Addr} {H H' : Hp} {h0 h1 h2 : Heap} {L : Nat} (u : L2.Un fs ex H H' (cutH h0 L) h1) (e : ∀ b, b < L → h2.get? b = h1.get? b) : L2.Un fs ex H H' (cutH h0 L) h2 :=
  ⟨fun b o q z hb hx => (e b (cut_lt q).1).trans (u.keep b o q z hb hx), fun b o q z hb hx => by
    obtain ⟨sl, r⟩ := u.slot b o q z hb hx
    exact ⟨sl, (e b (cut_lt q).1).trans r⟩, u.free, fun b o q hx => by
    obtain ⟨o', r⟩ := u.there b o q hx
    exact ⟨o', (e b (cut_lt q).1).trans r⟩, u.tups, u.frzs, u.tbls⟩
theorem paired_snoc {α β : Type} {F : α → β → Prop} {x : α} {y : β} (h : F x y) : ∀ {xs : List α} {ys : List β}, Paired F xs ys → Paired F (xs ++ [x]) (ys ++ [y])
  | _, _, .nil => .cons h .nil
  | _, _, .cons z t => .cons z (paired_snoc h t)
/-- what stands when all is taken -/
structure Drained (g : Gn) (outer : List Env) (S : Addr) (O : Own) (Hs : Hp) (ss : Shared) (all : List Dat) (t : Shared) : Prop where
  ex : ∃ H' xs acc c, t.heap.get? S = some (lstObj acc c) ∧ Vals xs acc.toList ∧ Paired (Rp g.K (hid O H')) xs all ∧ L2.Un (frs outer) [] Hs H' (cutH ss.heap g.L) t.heap ∧ HOk g.P g.w H' t.heap ∧ OwnOk g.K O H' ∧ Same (hid O Hs) (hid O H') ∧ H' S = none
  os : t.os = ss.os
  bare : AllBare t.gens
theorem drain_P {A : Around} {Hs : Hp} {ss : Shared} (hS : S ∈ vs) (W : Vols g outer vs a) (hSl : g.L ≤ S) (hL : g.L ≤ ss.heap.objs.size) (hr : Room k A.in1.in1) (hf : A.frames = some outer) (nl : ∀ H' h', L2.Un (frs outer) [] Hs H' (cutH ss.heap g.L) h' → h'.NoLimit) :
    ∀ (ds all : List Dat) (H : Hp) (sr s : Shared) (xs : List V) (acc : Array Value) (c : Nat) (pre : List Dat), all = pre ++ ds → all.length ≤ sizeLine → Rdy g outer vs k a n O ds H sr → VarS vs a n sr s → (∀ v ∈ a :: vs, H v = none) → s.heap.get? S = some (lstObj acc c) → Vals xs acc.toList → Paired (Rp g.K (hid O H)) xs pre →
      L2.Un (frs outer) [] Hs H (cutH ss.heap g.L) s.heap → HOk g.P g.w H s.heap → OwnOk g.K O H → Same (hid O Hs) (hid O H) → s.os = ss.os →
      codeAnyP (model g.P g.w) A (.builtin "list.extend.loop" ⟨[.ref S, .ref a, .none], []⟩) (RetP (fun v t => v = .none ∧ Drained g outer S O Hs ss all t) (fun _ _ => False)) s := by
  have hh : A.in1.handled = none := hr.hd
  have hd : A.in1.depth < recursionLimit := by have := hr.dp; show A.depth < _; have e : A.in1.in1.depth = A.depth := rfl; omega
  have hf2 : A.in1.in1.frames = some outer := hf
  have Sa : S ≠ a := fun e => W.own.2.2 (by rw [← e]; exact hS)
  intro ds
  induction ds with
  | nil =>
    intro all H sr s xs acc c pre ea hz rd V hH hl hv hp un hok own same os
    obtain ⟨gs, hgs, go⟩ := rd
    refine codeP_builtin F.entry_extend_loop ?_
    rw [Around.under_plainId F.plain_extend_loop _]
    show wpAnyP _ A.in1 (pyNext (.ref a) >>= _) _ _ s
    refine anyP_bind (pyNext_P hh (nl _ _ un) hd V.gen ((V.up n (Nat.le_refl _)).trans hgs) (pturn_mono (go s A.in1.in1 V hr hf2) fun e t q => ⟨q.1, ?_⟩))
    obtain ⟨_, r, H', rfl, which, fr, bare⟩ := q
    refine ⟨which, fun h kp => ?_⟩
    refine anyP_pure ⟨rfl, ?_, fr.os.trans os, ?_⟩
    · have e0 : t.heap.get? S = s.heap.get? S := (fr.vol S (List.mem_cons_of_mem _ hS)).1
      rw [List.append_nil] at ea
      subst ea
      refine ⟨H', xs, acc, c, kp _ _ (e0.trans hl), hv, pmap (fun _ _ z => Rp.mono fr.same z) hp, ?_, ?_, fr.own, same.trans fr.same, (fr.vol S (List.mem_cons_of_mem _ hS)).2⟩
      · have u2 : L2.Un (frs outer) [] H H' (cutH s.heap g.L) t.heap := fr.un
        exact (un_cut un (Nat.le_of_eq (cut_size hL)) u2).trans (Un.kept kp)
      · exact fr.hok.kept kp
    · exact allBare_setGen bare rfl
  | cons d ds ih =>
    intro all H sr s xs acc c pre ea hz rd V hH hl hv hp un hok own same os
    obtain ⟨gs, hgs, go⟩ := rd
    refine codeP_builtin F.entry_extend_loop ?_
    rw [Around.under_plainId F.plain_extend_loop _]
    show wpAnyP _ A.in1 (pyNext (.ref a) >>= _) _ _ s
    refine anyP_bind (pyNext_P hh (nl _ _ un) hd V.gen ((V.up n (Nat.le_refl _)).trans hgs) (pturn_mono (go s A.in1.in1 V hr hf2) fun e t q => ⟨q.1, ?_⟩))
    obtain ⟨_, v, g0, l0, k0, c0, p0, fs0, x, H', rfl, rv, rd, fr, rdy⟩ := q
    show wpAnyP _ A.in1 (updateSeq S (·.push v) >>= _) _ _ _
    have e0 : t.heap.get? S = some (lstObj acc c) := (fr.vol S (List.mem_cons_of_mem _ hS)).1.trans hl
    have len : acc.size = pre.length := by have e1 := hv.length; have e2 := hp.length; simp at e1; omega
    have hz2 : acc.size < sizeLine := by rw [ea] at hz; simp at hz; omega
    refine anyP_bind0 (wpAny_updateSeq (s := t.setGen n _) e0 rfl (anyP_pure ⟨plainId_quiet F.plain_extend_loop _, ?_⟩) (Nat.le_of_lt hz2) (by show (acc.push v).size ≤ sizeLine + 1; rw [Array.size_push]; omega))
    have e1 := Heap.get?_update_self (Obj.mapSeq (·.push v)) e0 rfl
    have keep : ∀ b, b ≠ S → (t.heap.update S (Obj.mapSeq (·.push v))).get? b = t.heap.get? b := fun b hb => Heap.get?_update_other _ _ (Ne.symm hb)
    have low2 : ∀ i y, i < n → (t.setGen n (End.susp v g0 l0 k0 c0 p0 fs0).genState).gens[i]? = some y → y.bare = true := fun i y hi e => by
      have q : (t.setGen n (End.susp v g0 l0 k0 c0 p0 fs0).genState).gens[i]? = t.gens[i]? := by
        show (t.gens.setIfInBounds n _)[i]? = _
        rw [Array.getElem?_setIfInBounds_ne (Nat.ne_of_gt hi)]
      exact fr.low i y hi (by rw [← q]; exact e)
    have u2 : L2.Un (frs outer) [] H H' (cutH s.heap g.L) t.heap := fr.un
    refine ih all H' (t.setGen n (End.susp v g0 l0 k0 c0 p0 fs0).genState) _ (xs ++ [x]) (acc.push v) _ (pre ++ [d]) (by rw [List.append_assoc]; exact ea) hz rdy ⟨rfl, rfl, fun _ _ => rfl, low2, fun b hb => ?_, ?_, fun b hb => ?_⟩ (fun b hb => (fr.vol b hb).2) e1 ?_ (paired_snoc rd (pmap (fun _ _ z => Rp.mono fr.same z) hp)) ?_ ?_ fr.own (same.trans fr.same) (fr.os.trans os)
    · exact keep b fun z => hb (by rw [z]; exact List.mem_cons_of_mem _ hS)
    · exact V.gen.keeps fun o e => (keep a (Ne.symm Sa)).trans ((fr.vol a List.mem_cons_self).1.trans e)
    · by_cases z : b = S
      · subst z; exact ⟨_, e1, fun y q => by cases q⟩
      · obtain ⟨o, h1, h2⟩ := V.vol b hb
        exact ⟨o, (keep b z).trans ((fr.vol b (List.mem_cons_of_mem _ hb)).1.trans h1), h2⟩
    · rw [Array.toList_push]
      exact paired_snoc rv hv
    · exact un_to (un_cut un (Nat.le_of_eq (cut_size hL)) u2) fun b hb => keep b fun z => absurd hb (by rw [z]; exact Nat.not_lt.mpr hSl)
    · exact hok_same (ch := [S]) fr.hok (fun b hb => keep b fun z => hb (by rw [z]; exact List.mem_cons_self)) fun y hy => by
        rw [List.mem_singleton.mp hy]; exact (fr.vol S (List.mem_cons_of_mem _ hS)).2
end
end Kn
namespace Kn
open PySem PySem.Spec PyProof.Rows
open L2 hiding St
/-- the generator that a call by X's frames makes, its names where L is -/
abbrev gnAt (X : Cx) (N : List Str) (qual : Str) (sc : Scope) (f : Addr) (fd : FuncData) (L : Nat) : Gn where
  P := X.prog
  w := X.w
  K := X.K
  mg := X.mg
  base := X.base
  N := N
  qual := qual
  scope := sc
  f := f
  cd := fd.code
  L := L
/-- fresh it stands at a, its number is n -/
structure FreshG (g : Gn) (body : List Stmt) (stack : List Env) (σ : SV) (H : Hp) (a n : Nat) (s s' : Shared) : Prop where
  os : s'.os = s.os
  bare : AllBare s'.gens
  kp : ∀ b o, s.heap.get? b = some o → s'.heap.get? b = some o
  gen : s'.heap.IsGen a n
  num : s'.gens.size = n + 1
  was : s.gens.size = n
  at_ : s'.gens[n]? = some (.fresh (.func body g.env))
  loc : g.L = s.heap.objs.size
  own : g.L < a
  free : H a = none
  inv : ∃ s0 H0, ∀ A G, A.handled = none → A.frames = some stack → AllBare G → L2.Inv (g.cx A stack s0 H0) [] σ H { s' with gens := G }
theorem gen_made {X : Cx} {N ps : List Str} {x qual : Str} {st : Stmt} {f : Addr} {fd : FuncData} {s : Shared} {H : Hp} {args : Args} {us : List Value} {vs : List V} (F : FunX X.K x qual st f fd) (Sc : GScope N ps (defScope st)) (hd : X.A.handled = none) (hdp : X.A.depth < recursionLimit)
    (e0 : Env0 X.prog X.w X.K X.mg X.base X.A X.stack s H) (hbind : BindsTo s fd args (ps.zip us)) (r : Vals vs us) (hl : vs.length = ps.length) :
    codeAny (model X.prog X.w) X.A (.call (.ref f) args) (fun r s' => ∃ a n, r = .ok (.ret (.ref a)) ∧ FreshG (gnAt X N qual (defScope st) f fd s.heap.objs.size) (defBody st) X.stack (L2.start N vs) H a n s s') s := by
  obtain ⟨oc, od, dV, kV, doc, pm, an, cdv, ct, osl, rfl, lk, hcd⟩ := F
  have KX : X.K.In s.heap := e0.mod.kin.keeps fun b o e => (e0.bs b o e).1
  have lim : s.heap.NoLimit := e0.mod.nolimit.keeps fun b o e => (e0.bs b o e).1
  have hkind : ∀ y ∈ ps.zip us, (defScope st).names.lookup y.1 = some .local ∨ ((defScope st).names.lookup y.1 = some .cell ∧ ((cellsFrom (s.heap.objs.size + 1) (defScope st).names []).lookup y.1).isSome = true) := fun y hy => by
    rcases Sc.par y.1 (List.of_mem_zip (show (y.1, y.2) ∈ ps.zip us from hy)).1 with q | q
    · exact .inl q
    · exact .inr ⟨q, PySem.W.cellsFrom_some _ _ _ (.inl q)⟩
  refine codeAny_call_generator hdp (KX _ _ lk) rfl Sc.co Sc.gen rfl (PySem.W.codeRec_of KX hcd) (hbind _ _ _ _ ?_)
  refine wpAny_newFunctionEnv_cells Sc.kind hkind fun env he s1 hin => ?_
  subst he
  have kp1 : ∀ b o, s.heap.get? b = some o → s1.heap.get? b = some o := hin.toInCall.keep
  refine ⟨lim.keeps kp1, ?_⟩
  obtain ⟨h1, tk, es1, hk1⟩ := hin.done
  have lt1 : s.heap.objs.size < s1.heap.objs.size := hin.toInCall.ns.lt
  have I0 := inv_startG (E := fun _ _ _ => True) Sc hd e0 hl r hin
  have bare1 : AllBare s1.gens := I0.bare
  have os1 : s1.os = s.os := I0.os
  have gsz1 : s1.gens.size = s.gens.size := by rw [es1]
  have main : ∀ (go : Obj) (nm qn : Value) (tk2 : Nat), go.cls = .type "generator" → go.data = .fields #[.int s1.gens.size 0, nm, qn] → go.slots = #[] → (∀ h : Heap, (h.push go).get? h.objs.size = some go) → ∃ a n, Except.ok (Flow.ret (.ref s1.heap.objs.size)) = (.ok (.ret (.ref a)) : Result) ∧
      FreshG (gnAt X N qual (defScope st) f (PySem.W.fnOf x qual (defArgs st) (defBody st) (defScope st) dV kV doc pm an cdv ct) s.heap.objs.size) (defBody st) X.stack (L2.start N vs) H a n s { s1 with gens := s1.gens.push (.fresh (.func (defBody st) (envOfC qual (defScope st) s.heap.objs.size f cdv))), toks := tk2, heap := s1.heap.push go } := by
    intro go nm qn tk2 g1 g2 g3 g4
    refine ⟨s1.heap.objs.size, s1.gens.size, rfl, os1, AllBare.push bare1 rfl, fun b o e => Heap.get?_push_of_some _ (kp1 b o e), ⟨go, nm, qn, g4 _, g1, g2, g3⟩, Array.size_push .., gsz1.symm, Array.getElem?_push_size .., rfl, lt1, e0.hok.fresh (Nat.le_of_lt lt1), s, H, fun A' G hA hfr hG => ?_⟩
    have I2 := I0.call' (s' := { s1 with gens := s1.gens.push (.fresh (.func (defBody st) (envOfC qual (defScope st) s.heap.objs.size f cdv))), toks := tk2, heap := s1.heap.push go }) (ch := []) rfl (Un.kept fun b o e => Heap.get?_push_of_some _ e) (I0.hok.kept fun b o e => Heap.get?_push_of_some _ e) (AllBare.push bare1 rfl) fun b z => nomatch z
    obtain ⟨a1, a2, a3, a4, a5, a6, a7, a8, a9, a10, a11⟩ := I2
    refine ⟨⟨a1.mod, a1.kind, a1.glob, a1.blt, a1.above, a1.inj, a1.has, a1.cab, fun _ => hA, ?_, a1.stk, a1.exf, a1.bs, a1.bsz, a1.noex, a1.exfs, a1.funs, a1.frf⟩, a2, hG, a4, a5, a6, a7, a8, a9, a10, a11⟩
    show (A'.deeper _).frames = _
    simp only [Around.deeper, hfr]; rfl
  exact main _ _ _ _ rfl rfl rfl fun h => Heap.get?_push_size _ rfl
end Kn
namespace Kn
open PySem PySem.Spec PyProof.Rows
open L2 hiding St
section
variable {P : Program} {w : World} {K : PySem.W.Frag} {mg : Str → Option Value} {base : Heap} {N ps : List Str} {qual nm : Str} {st : Stmt} {f : Addr} {fd : FuncData}
/-- its generators, by where their names are -/
abbrev GE (P : Program) (w : World) (K : PySem.W.Frag) (mg : Str → Option Value) (base : Heap) (N : List Str) (qual : Str) (st : Stmt) (f : Addr) (fd : FuncData) (L : Nat) : Gn where
  P := P
  w := w
  K := K
  mg := mg
  base := base
  N := N
  qual := qual
  scope := defScope st
  f := f
  cd := fd.code
  L := L
/-- what a turn is to give -/
def OutQ (g : Gn) (outer : List Env) (vs : List Addr) (k a n : Nat) (O : Own) (sb : Shared) (Hb : Hp) : List Dat → End → Shared → Prop
  | [], e, t => EndMild t e ∧ ∃ r H', e = .ret r ∧ (r = .ok (.ret .none) ∨ r = .ok .next) ∧ TurnFr g outer vs a n O Hb H' sb t ∧ AllBare t.gens
  | d :: ds, e, t => EndMild t e ∧ ∃ v g0 l0 k0 c0 p0 fs0 x H', e = .susp v g0 l0 k0 c0 p0 fs0 ∧ RelV x v ∧ Rp g.K (hid O H') x d ∧ TurnFr g outer vs a n O Hb H' sb t ∧ Rdy g outer vs k a n O ds H' (t.setGen n e.genState)
section
variable {g : Gn} {outer : List Env} {vs : List Addr} {k a n : Nat} {O : Own} {A : Around} {sb s s' t : Shared} {Hb H H1 : Hp} {σ : SV} {ρ : List Slot} {gs : GenState} {xp : List (Addr × Obj)}
theorem rdy_iff {ds : List Dat} : Rdy g outer vs k a n O ds H s ↔ ∃ gs, s.gens[n]? = some gs ∧ ∀ s' A, VarS vs a n s s' → Room k A → A.frames = some outer → PTurn (model g.P g.w) A (OutQ g outer vs k a n O (s'.setGen n .running) H ds) gs (s'.setGen n .running) := by
  cases ds <;> exact Iff.rfl
theorem frs_env {g : Gn} {outer : List Env} : frs (g.env :: outer) = g.L :: frs outer := rfl
/-- it runs on, woken anew -/
theorem Run.again {A' : Around} (R : Run g A outer vs a n O xp sb Hb σ ρ H t) (W : Vols g outer vs a) (V : VarS vs a n (t.setGen n gs) s') (hA : A'.handled = none) (hf : A'.frames = some outer) : Run g A' outer vs a n O xp (s'.setGen n .running) H σ ρ H (s'.setGen n .running) := by
  have S : Slp g vs outer σ H (t.setGen n gs) := Slp.of (t := { t with gens := #[] }) R.inv W
  have pin : ∀ v ∈ a :: vs, H v = none := fun v hm => by
    obtain ⟨o, e⟩ := R.vol v hm
    exact (R.inv.pin (v, o) (List.mem_append_right _ (List.mem_append_right _ (pins_mem hm e)))).2.1
  have I := S.wake (A := A') V W pin hA hf
  refine ⟨inv_pins (X := g.cx A' outer (atCut (s'.setGen n .running) g.L) H) I fun p hp => ?_, R.xpo, R.own, R.env, Same.refl _, Nat.le_refl _, ?_, fun v hm => ?_⟩
  · rcases List.mem_append.mp (show p ∈ xp ++ pinsOf s'.heap (a :: vs) from hp) with z | z
    · obtain ⟨q1, q2⟩ := R.inv.pin p (List.mem_append_right _ (List.mem_append_left _ z))
      exact ⟨(V.heap p.1 (R.xpo p z)).trans q1, q2⟩
    · exact I.pin p (List.mem_append_right _ z)
  · rw [set_size, V.gsz, set_size]
    exact Nat.lt_of_lt_of_le R.num R.gsz
  · rcases List.mem_cons.mp hm with rfl | hm
    · obtain ⟨o, _, _, e, _⟩ := V.gen
      exact ⟨o, e⟩
    · obtain ⟨o, e, _⟩ := V.vol v hm
      exact ⟨o, e⟩
theorem bare_again (V : VarS vs a n (t.setGen n gs) s') (ab : AllBare t.gens) : AllBare (s'.setGen n .running).gens := fun y hy => by
  obtain ⟨i, hi, e⟩ := Array.mem_iff_getElem.mp hy
  have e2 : (s'.setGen n .running).gens[i]? = some y := by rw [Array.getElem?_eq_getElem hi, e]
  by_cases z : i = n
  · subst z
    rw [setGen_at (by rw [set_size] at hi; exact hi)] at e2
    cases e2; rfl
  · have e3 : s'.gens[i]? = some y := by
      have q : (s'.setGen n .running).gens[i]? = s'.gens[i]? := by
        show (s'.gens.setIfInBounds n _)[i]? = _
        rw [Array.getElem?_setIfInBounds_ne (Ne.symm z)]
      rw [← q]; exact e2
    rcases Nat.lt_or_ge i n with c | c
    · exact V.low i y c e3
    · have q := V.up i c
      have q2 : (t.setGen n gs).gens[i]? = t.gens[i]? := by
        show (t.gens.setIfInBounds n _)[i]? = _
        rw [Array.getElem?_setIfInBounds_ne (Ne.symm z)]
      rw [q2] at q
      exact ab y (Array.mem_of_getElem? (q.symm.trans e3))
/-- it has yielded in its own text -/
theorem out_yield {d : Dat} {ds : List Dat} {v : Value} {x : V} {kk : Resume → Sem PySem.Fin} {l : List Value} {p : Pos} {c : Code} {fs : List Frame} (R : Run g A outer vs a n O xp sb Hb σ ρ H t) (ab : AllBare t.gens) (W : Vols g outer vs a) (rv : RelV x v) (rd : Rp g.K (hid O H) x d) (hfs : fs.any Frame.guarded = false)
    (next : ∀ (s' : Shared) (A' : Around), Room k A' → A'.frames = some outer → Run g A' outer vs a n O xp (s'.setGen n .running) H σ ρ H (s'.setGen n .running) → AllBare (s'.setGen n .running).gens → (∀ b, b ∉ a :: vs → s'.heap.get? b = t.heap.get? b) → PSeg (model g.P g.w) A' (OutQ g outer vs k a n O (s'.setGen n .running) H ds) c (kk (.send .none)) fs (s'.setGen n .running)) :
    OutQ g outer vs k a n O sb Hb (d :: ds) (.susp v false l kk c p fs) t := by
  refine ⟨fun _ => ?_, v, false, l, kk, c, p, fs, x, H, rfl, rv, rd, R.fr fun i y _ e => ab y (Array.mem_of_getElem? e), rdy_iff.mpr ⟨_, setGen_at (Nat.lt_of_lt_of_le R.num R.gsz), fun s' A' V hr hf => ?_⟩⟩
  · show (fs.any Frame.guarded || (false && _)) = false
    rw [hfs]; rfl
  · exact next s' A' hr hf (R.again W V hr.hd hf) (bare_again V ab) V.heap
end
end
end Kn
namespace Kn
open PySem PySem.Spec PyProof.Rows
open L2 hiding St
section
variable {g : Gn} {outer : List Env} {vs : List Addr} {k a n : Nat} {O : Own} {A : Around} {sb s : Shared} {Hb H : Hp} {σ : SV} {ρ : List Slot} {xp : List (Addr × Obj)}
/-- what follows a generator's text -/
abbrev genK : Flow → Sem PySem.Fin := fun f => .pure (.done (.ret (match f with | .ret v => v | _ => .none)))
abbrev genJ (env : Env) : Value → Sem PySem.Fin := fun e => (leaving env e).wrap (fun _ => .raise e) .raise id id
/-- the last yield -/
theorem ph_last {e2 : Expr} {yp p : Pos} {body : List Stmt} {d : Dat} (R : Run g A outer vs a n O xp sb Hb σ ρ H s) (ab : AllBare s.gens) (W : Vols g outer vs a) (h2 : ∀ A s0 H0, EV (g.cx A outer s0 H0) O ρ e2 noX d) (co : g.scope.isCoroutine = false) (ki : g.scope.kind = .function) :
    PSeg (model g.P g.w) A (OutQ g outer vs k a n O sb Hb [d]) (.func body g.env) ((execs [.Expr (.Yield (some e2) yp) p] g.env).wrap genK (genJ g.env) id id) [] s := by
  refine pseg_cons (pseg_Yield rfl rfl ?_ co (by simp [interactive, envOfC, ki]))
  rw [GenW.over_func]
  refine wpAny_mono (R.ev ab (h2 A)) (fun v t q => ?_) fun _ _ z => z
  obtain ⟨x, H1, R1, ab1, rv, rd, _⟩ := q
  refine fun kk l p hk => out_yield R1 ab1 W rv rd rfl fun s' A' hr hf R2 ab2 _ => hk A' _ _ ?_
  exact pseg_end (.ok (.ret .none)) ⟨trivial, _, H1, rfl, .inl rfl, R2.fr fun i y _ e => ab2 y (Array.mem_of_getElem? e), ab2⟩
end
section
variable {P : Program} {w : World} {K : PySem.W.Frag} {mg : Str → Option Value} {base : Heap} {N ps : List Str} {qual nm m : Str} {st : Stmt} {f C : Addr} {fd : FuncData} {L : Nat}
variable {outer : List Env} {vs : List Addr} {k a n : Nat} {O : Own} {A : Around} {sb s : Shared} {Hb H : Hp} {σ : SV} {ρ : List Slot} {xp : List (Addr × Obj)}
/-- a child's generator is made -/
theorem Run.gen {o : Expr} {ap p : Pos} {d : Dat} {pl : Sem Bool} (R : Run (GE P w K mg base N qual st f fd L) A outer vs a n O xp sb Hb σ ρ H s) (ab : AllBare s.gens) (W : Vols (GE P w K mg base N qual st f fd L) outer vs a) (nc : ∀ L x, (GE P w K mg base N qual st f fd L).env.cells.lookup x = none)
    (ho : ∀ s0 H0, EV ((GE P w K mg base N qual st f fd L).cx A outer s0 H0) O ρ o noX d) (ins : InsAt O C m (.dat d)) (c : Cls K C) (hm : L2.Meth K C m f) (F : FunX K nm qual st f fd) (Sc : GScope N ps (defScope st)) (bd : Binds K fd ps []) (pl1 : ps.length = 1) (hd : A.handled = none) (hdp : A.depth + 1 < recursionLimit) (hf : A.frames = some outer)
    (ht : eval (.Call (.Attribute o m ap) [] [] p) (GE P w K mg base N qual st f fd L).env = (do
      let ov ← eval o (GE P w K mg base N qual st f fd L).env
      standAt ap.atName
      let (f1, first) ← holding [ov] (getMethod ov m pl)
      callWith p f1 first (backTo p (starEach [] (GE P w K mg base N qual st f fd L).env)) (backToKw p (keywordEach [] (GE P w K mg base N qual st f fd L).env)))) :
    wpAny (model P w) (A.deeper (GE P w K mg base N qual st f fd L).env) (eval (.Call (.Attribute o m ap) [] [] p) (GE P w K mg base N qual st f fd L).env) (fun u t => ∃ a' n' v H1 L', u = .ref a' ∧ Run (GE P w K mg base N qual st f fd L) A outer vs a n O xp sb Hb σ ρ H1 t ∧ AllBare t.gens ∧ Rp K (hid O H1) v d ∧ t.heap.IsGen a' n' ∧ t.gens.size = n' + 1 ∧
      t.gens[n']? = some (.fresh (.func (defBody st) (GE P w K mg base N qual st f fd L').env)) ∧ Slp (GE P w K mg base N qual st f fd L') (a :: vs) ((GE P w K mg base N qual st f fd L).env :: outer) (L2.start N [v]) H1 t ∧ Vols (GE P w K mg base N qual st f fd L') ((GE P w K mg base N qual st f fd L).env :: outer) (a :: vs) a' ∧
      (∀ x ∈ a' :: a :: vs, H1 x = none) ∧ L < L' ∧ (∀ p ∈ xp, p.1 < L') ∧ (∀ v ∈ a :: vs, v < L') ∧ n < n' ∧ Same (hid O H) (hid O H1)) (fun _ _ => False) s := by
  refine PySem.W.methodCall_KW (pl := pl) (wpAny_mono (R.ew ab ho) (fun u s1 q => ?_) fun _ _ z => z) ht
  obtain ⟨v, H1, z, O1, I1, rv, ⟨rfl, rfl⟩, st1, r1, gs1⟩ := q
  obtain ⟨b, dx, fs, rfl, hHa, hl⟩ := ins_at ins st1 r1
  obtain rfl : u = .ref b := rv
  have l1 : L < s1.heap.objs.size := I1.lt
  have pn : ∀ p ∈ xp ++ pinsOf sb.heap (a :: vs), s1.heap.get? p.1 = some p.2 ∧ H1 p.1 = none ∧ p.1 < s1.heap.objs.size := fun p hp => by
    obtain ⟨e, z, _⟩ := I1.pin p (List.mem_append_right _ hp)
    exact ⟨e, z, Heap.lt_size e⟩
  have vl : ∀ v ∈ a :: vs, H1 v = none ∧ v < s1.heap.objs.size := fun v hm => by
    obtain ⟨o, e⟩ := R.vol v hm
    obtain ⟨_, z1, z2⟩ := pn (v, o) (List.mem_append_right _ (pins_mem hm e))
    exact ⟨z1, z2⟩
  refine getmeth_ok I1 hHa c hm hl ?_
  refine PySem.W.callWith_K0 (first := [.ref b]) I1.kIn hm.kp ?_
  have bt := bd s1 [.ref b] I1.kIn (by rw [List.append_nil]; exact pl1.symm)
  rw [List.append_nil] at bt
  refine wpAny_call (codeAny_mono (gen_made (X := (GE P w K mg base N qual st f fd L).cx A outer (atCut sb L) Hb) F Sc hd hdp I1.env0 bt (vs := [.ref b]) (.cons (show L2.RelV (.ref b) (.ref b) from rfl) .nil) pl1.symm) fun r t q => ?_)
  obtain ⟨a', n', rfl, Fr⟩ := q
  have hf2 : (A.deeper (GE P w K mg base N qual st f fd L).env).frames = some ((GE P w K mg base N qual st f fd L).env :: outer) := by
    simp only [Around.deeper, hf]; rfl
  have loc : s1.heap.objs.size = s1.heap.objs.size := rfl
  have own : s1.heap.objs.size < a' := Fr.own
  have fsl : ∀ b ∈ frs ((GE P w K mg base N qual st f fd L).env :: outer), b < s1.heap.objs.size := fun b hb => by
    rw [frs_env] at hb
    rcases List.mem_cons.mp hb with rfl | hb
    · exact l1
    · exact Nat.lt_trans (W.fs b hb) l1
  have W2 : Vols (GE P w K mg base N qual st f fd s1.heap.objs.size) ((GE P w K mg base N qual st f fd L).env :: outer) (a :: vs) a' := by
    refine ⟨⟨own, fun z => absurd (fsl _ z) (Nat.not_lt.mpr (Nat.le_of_lt own)), fun z => absurd (vl _ z).2 (Nat.not_lt.mpr (Nat.le_of_lt own))⟩, fun v hm => ⟨Nat.ne_of_lt (vl v hm).2, fun z => ?_, ?_⟩, fsl, Nat.le_trans W.base (Nat.le_of_lt l1), nc _⟩
    · rw [frs_env] at z
      rcases List.mem_cons.mp z with e | z
      · rcases List.mem_cons.mp hm with e2 | hm
        · rw [e2] at e; exact absurd e (Nat.ne_of_gt W.own.1)
        · exact (W.all v hm).1 e
      · rcases List.mem_cons.mp hm with e2 | hm
        · rw [e2] at z; exact W.own.2.1 z
        · exact (W.all v hm).2.1 z
    · rcases List.mem_cons.mp hm with e2 | hm
      · rw [e2]; exact Nat.le_trans W.base (Nat.le_of_lt W.own.1)
      · exact (W.all v hm).2.2
  obtain ⟨s0, H0, J⟩ := Fr.inv
  refine ⟨a', n', .ref b, H1, s1.heap.objs.size, rfl, ⟨?_, R.xpo, st1.own, st1.env, R.same.trans st1.base, ?_, R.num, R.vol⟩, Fr.bare, r1, Fr.gen, Fr.num, Fr.at_, Slp.of (J (A.deeper (GE P w K mg base N qual st f fd L).env) t.gens hd hf2 Fr.bare) W2, W2, fun x hx => ?_, l1, fun p hp => (pn p (List.mem_append_left _ hp)).2.2, fun v hm => (vl v hm).2, ?_, st1.base⟩
  · exact inv_gens (I1.call' (s' := t) (ch := []) Fr.os (Un.kept Fr.kp) (I1.hok.kept Fr.kp) Fr.bare fun _ z => nomatch z) rfl rfl AllBare.empty
  · rw [Fr.num, ← Fr.was]; exact Nat.le_succ_of_le (Nat.le_trans R.gsz gs1)
  · rcases List.mem_cons.mp hx with rfl | hx
    · exact Fr.free
    · exact (vl x hx).1
  · rw [← Fr.was]; exact Nat.lt_of_lt_of_le R.num (Nat.le_trans R.gsz gs1)
end
end Kn
namespace Kn
open PySem PySem.Spec PyProof.Rows
open L2 hiding St
section
variable {g : Gn} {outer : List Env} {vs : List Addr} {a n : Nat} {O : Own} {A : Around} {xp : List (Addr × Obj)} {sb s : Shared} {Hb H : Hp} {σ : SV} {ρ : List Slot}
/-- an untracked object of its own has changed -/
theorem Run.turned (R : Run g A outer vs a n O xp sb Hb σ ρ H s) (W : Vols g outer vs a) {it : Addr} {h' : Heap} {G : Array GenState} (k : ∀ b o, b ≠ it → s.heap.get? b = some o → h'.get? b = some o) (hn : H it = none) (hL : g.L < it) (hp : ∀ p ∈ xp, p.1 ≠ it) (hv : it ∉ a :: vs) (hG : s.gens.size ≤ G.size) :
    Run g A outer vs a n O xp sb Hb σ ρ H { s with heap := h', gens := G } := by
  have lt0 : (atCut sb g.L).heap.objs.size ≤ g.L := R.inv.ok.above
  refine ⟨R.inv.turned (t' := s.toks) (h' := h') k hn (Nat.ne_of_gt hL) (.inr (Nat.le_trans lt0 (Nat.le_of_lt hL))) (fun x c e => W.nc x c e) fun p hm => ?_, R.xpo, R.own, R.env, R.same, Nat.le_trans R.gsz hG, R.num, R.vol⟩
  rcases List.mem_append.mp (show p ∈ xp ++ pinsOf sb.heap (a :: vs) from hm) with z | z
  · exact hp p z
  · exact fun e => hv (e ▸ (mem_pins z).1)
end
section
variable {P : Program} {w : World} {K : PySem.W.Frag} {mg : Str → Option Value} {base : Heap} {N ps : List Str} {qual : Str} {st : Stmt} {f : Addr} {fd : FuncData} {L L' : Nat}
variable {outer : List Env} {vs : List Addr} {k k' a n a' n' : Nat} {O : Own} {A : Around} {xp : List (Addr × Obj)} {sb s t : Shared} {Hb H H' : Hp} {σ : SV} {ρ : List Slot}
/-- the child has run for a turn -/
theorem Run.over (R : Run (GE P w K mg base N qual st f fd L) A outer vs a n O xp sb Hb σ ρ H s) (nc : ∀ L x, (GE P w K mg base N qual st f fd L).env.cells.lookup x = none) (F : TurnFr (GE P w K mg base N qual st f fd L') ((GE P w K mg base N qual st f fd L).env :: outer) (a :: vs) a' n' O H H' (s.setGen n' .running) t)
    (hx : ∀ p ∈ xp, p.1 < L') (hv : ∀ v ∈ a :: vs, v < L') (hL : L < L') : Run (GE P w K mg base N qual st f fd L) A outer vs a n O xp sb Hb σ ρ H' t := by
  have lt0 : (atCut sb L).heap.objs.size ≤ L := R.inv.ok.above
  refine ⟨hand_over (n := L') R.inv (s' := { t with gens := #[] }) F.os AllBare.empty F.un F.hok (Nat.le_trans lt0 (Nat.le_of_lt hL)) (fun x c e => ?_) (fun p hp => ?_) (.inl hL), R.xpo, F.own, pmap (fun _ _ z => EnvOk.mono F.same z) R.env, R.same.trans F.same, Nat.le_trans R.gsz (by have := F.gsz; rw [set_size] at this; exact this), R.num, R.vol⟩
  · rw [show List.lookup x (GE P w K mg base N qual st f fd L).env.cells = none from nc L x] at e; cases e
  · rcases List.mem_append.mp (show p ∈ xp ++ pinsOf sb.heap (a :: vs) from hp) with z | z
    · exact hx p z
    · exact hv _ (mem_pins z).1
theorem gen_shows {h : Heap} {q : Nat} {s : Shared} (g : GenS s.heap a n q) (reg : s.heap.life.registered = []) : delegateShows s (.ref a) = false := by
  obtain ⟨o, nm, qn, h1, h2, h3, h4⟩ := g
  have e : o.genNumber? = some n := by unfold Obj.genNumber?; rw [h2, h3]; rfl
  show (match s.heap.get? a with | some o => _ | none => false) = false
  rw [h1]
  show (match o.genNumber?, o.cls with | some _, _ => s.heap.life.registered.contains a | none, .type n => _ | none, _ => true) = false
  rw [e, reg]; rfl
theorem ph_yf {G : Hp} {Kr : Result → Sem PySem.Fin} {l : List Value} {cF : Code} {pF : Pos} {fs0 : List Frame} {rest : List Dat} (nc : ∀ L x, (GE P w K mg base N qual st f fd L).env.cells.lookup x = none) (W : Vols (GE P w K mg base N qual st f fd L) outer vs a) (W2 : Vols (GE P w K mg base N qual st f fd L') ((GE P w K mg base N qual st f fd L).env :: outer) (a :: vs) a')
    (hx : ∀ p ∈ xp, p.1 < L') (hv : ∀ v ∈ a :: vs, v < L') (hL : L < L') (hn : n < n') (hk : k' + 1 ≤ k) (hsp : splitAtGen fs0 = none) (hgd : fs0.any Frame.guarded = false) (hov : ∀ A : Around, A.over cF fs0 = A.deeper (GE P w K mg base N qual st f fd L).env)
    (after : ∀ (A : Around) (sb s : Shared) (Hb H : Hp), Room k A → A.frames = some outer → Run (GE P w K mg base N qual st f fd L) A outer vs a n O xp sb Hb σ ρ H s → Same G (hid O H) → AllBare s.gens → PSeg (model P w) A (OutQ (GE P w K mg base N qual st f fd L) outer vs k a n O sb Hb rest) cF (Kr (.ok (.ret .none))) fs0 s) :
    ∀ (es : List Dat) (A : Around) (sb sr s : Shared) (Hb H : Hp), Room k A → A.frames = some outer → Run (GE P w K mg base N qual st f fd L) A outer vs a n O xp sb Hb σ ρ H s → Rdy (GE P w K mg base N qual st f fd L') ((GE P w K mg base N qual st f fd L).env :: outer) (a :: vs) k' a' n' O es H sr → VarS (a :: vs) a' n' sr s → Same G (hid O H) →
      PSeg (model P w) A (OutQ (GE P w K mg base N qual st f fd L) outer vs k a n O sb Hb (es ++ rest)) (yfC a') ((model P w).den (yfC a')) (.ret Kr none false l cF pF [] :: fs0) s := by
  have over : ∀ A : Around, A.over (yfC a') (.ret Kr none false l cF pF [] :: fs0) = (A.deeper (GE P w K mg base N qual st f fd L).env).in1 := fun A => by
    rw [over_plain (plainId_weight plain_yf _) (plainId_units plain_yf _), hov A]
  have a1 : L < a' := Nat.lt_trans hL W2.own.1
  have na : a' ∉ a :: vs := W2.own.2.2
  have nx : ∀ p ∈ xp, p.1 ≠ a' := fun p hp => Nat.ne_of_lt (Nat.lt_trans (hx p hp) W2.own.1)
  have gd : (Frame.ret Kr none false l cF pF [] :: fs0).any Frame.guarded = false := by
    show (false || fs0.any Frame.guarded) = false
    rw [hgd]; rfl
  have sp : splitAtGen (Frame.ret Kr none false l cF pF [] :: fs0) = none := by
    rw [splitAtGen_ret, hsp]; rfl
  intro es
  induction es with
  | nil =>
    intro A sb sr s Hb H hr hf R rd V sm
    obtain ⟨gs, hgs, go⟩ := rdy_iff.mp rd
    have hr2 : Room k' (A.over (yfC a') (.ret Kr none false l cF pF [] :: fs0)).in1 := by
      rw [over]
      exact ⟨hr.hd, by have := hr.dp; show A.depth + 1 + 3 * k' + 5 < _; omega, by have := hr.un; show A.units + 3 + 1 + 1 + 16 * k' + 200 < _; omega⟩
    have hf2 : (A.over (yfC a') (.ret Kr none false l cF pF [] :: fs0)).in1.frames = some ((GE P w K mg base N qual st f fd L).env :: outer) := by
      rw [over]
      show (A.deeper _).frames = _
      simp only [Around.deeper, hf]; rfl
    refine pseg_yf (by rw [over]; exact hr.hd) R.inv.nolimit (by rw [over]; have := hr.dp; show A.depth + 1 < _; omega) V.gen ((V.up n' (Nat.le_refl _)).trans hgs) sp (pturn_mono (go s _ V hr2 hf2) fun e t q => ?_)
    obtain ⟨em, r, H', rfl, which, fr, bare⟩ := q
    refine ⟨em, which, fun h b kp stx => ⟨stx, pseg_leaf (.ok (.ret .none)) (after A sb _ Hb H' hr hf ?_ (sm.trans fr.same) ?_)⟩⟩
    · exact (R.over nc fr hx hv hL).turned W (it := a') (h' := h) (G := (t.setGen n' .finished).gens) (fun b o _ e => kp b o e) (fr.vol a' List.mem_cons_self).2 a1 nx na (Nat.le_of_eq set_size.symm)
    · exact allBare_setGen bare rfl
  | cons e es ih =>
    intro A sb sr s Hb H hr hf R rd V sm
    obtain ⟨gs, hgs, go⟩ := rdy_iff.mp rd
    have hr2 : Room k' (A.over (yfC a') (.ret Kr none false l cF pF [] :: fs0)).in1 := by
      rw [over]
      exact ⟨hr.hd, by have := hr.dp; show A.depth + 1 + 3 * k' + 5 < _; omega, by have := hr.un; show A.units + 3 + 1 + 1 + 16 * k' + 200 < _; omega⟩
    have hf2 : (A.over (yfC a') (.ret Kr none false l cF pF [] :: fs0)).in1.frames = some ((GE P w K mg base N qual st f fd L).env :: outer) := by
      rw [over]
      show (A.deeper _).frames = _
      simp only [Around.deeper, hf]; rfl
    refine pseg_yf (by rw [over]; exact hr.hd) R.inv.nolimit (by rw [over]; have := hr.dp; show A.depth + 1 < _; omega) V.gen ((V.up n' (Nat.le_refl _)).trans hgs) sp (pturn_mono (go s _ V hr2 hf2) fun en t q => ?_)
    obtain ⟨em, v, g0, l0, k0, c0, p0, fs1, x, H', rfl, rv, rdx, fr, rdy⟩ := q
    have gt : GenS t.heap a' n' 0 := V.gen.keeps fun o e => (fr.vol a' List.mem_cons_self).1.trans e
    refine ⟨em, v, rfl, gt, fun h1 g1 sb1 kk l1 p1 hk1 => ?_⟩
    have R2 := (R.over nc fr hx hv hL).turned W (it := a') (h' := h1) (G := (t.setGen n' (End.susp v g0 l0 k0 c0 p0 fs1).genState).gens) (fun b o hb e => (sb1.2 b hb).trans e) (fr.vol a' List.mem_cons_self).2 a1 nx na (Nat.le_of_eq set_size.symm)
    have lowt : ∀ i y, i < n' → (t.setGen n' (End.susp v g0 l0 k0 c0 p0 fs1).genState).gens[i]? = some y → y.bare = true := fun i y hi e => by
      have q : (t.setGen n' (End.susp v g0 l0 k0 c0 p0 fs1).genState).gens[i]? = t.gens[i]? := by
        show (t.gens.setIfInBounds n' _)[i]? = _
        rw [Array.getElem?_setIfInBounds_ne (Nat.ne_of_gt hi)]
      exact fr.low i y hi (by rw [← q]; exact e)
    refine ⟨fun reg => ?_, v, true, l1, kk, yfC a', p1, _, x, H', rfl, rv, rdx, R2.fr fun i y hi e => lowt i y (Nat.lt_trans hi hn) e, rdy_iff.mpr ⟨_, setGen_at (Nat.lt_of_lt_of_le R2.num R2.gsz), fun s' A' V' hr' hf' => ?_⟩⟩
    · show (List.any _ Frame.guarded || (true && delegateShows _ (.ref a'))) = false
      rw [gd, gen_shows (h := h1) g1 reg]; rfl
    · have e0 : ∀ b, b ∉ a :: vs → (s'.setGen n .running).heap.get? b = h1.get? b := fun b hb => V'.heap b hb
      refine hk1 A' _ (s'.setGen n .running) (g1.keeps fun o e => (e0 a' na).trans e) fun h2 g2 sb2 => ?_
      have R3 := (R2.again W V' hr'.hd hf').turned W (it := a') (h' := h2) (G := (s'.setGen n .running).gens) (fun b o hb e => (sb2.2 b hb).trans e) (fr.vol a' List.mem_cons_self).2 a1 nx na (Nat.le_refl _)
      refine ih A' (s'.setGen n .running) (t.setGen n' (End.susp v g0 l0 k0 c0 p0 fs1).genState) _ H' H' hr' hf' R3 rdy ⟨V'.os, ?_, fun i hi => ?_, fun i y hi e => ?_, fun b hb => ?_, g2, fun v hm => ?_⟩ (sm.trans fr.same)
      · show (s'.setGen n .running).gens.size = _
        rw [set_size, V'.gsz, set_size]
      · show (s'.gens.setIfInBounds n _)[i]? = _
        rw [Array.getElem?_setIfInBounds_ne (show n ≠ i by omega), V'.up i (by omega)]
        show ((t.setGen n' _).gens.setIfInBounds n _)[i]? = _
        rw [Array.getElem?_setIfInBounds_ne (show n ≠ i by omega)]
      · by_cases z : i = n
        · subst z
          rw [show (s'.setGen i .running).gens[i]? = some .running from setGen_at (by rw [V'.gsz, set_size]; exact Nat.lt_of_lt_of_le R2.num R2.gsz)] at e
          cases e; rfl
        · have q : (s'.setGen n .running).gens[i]? = s'.gens[i]? := by
            show (s'.gens.setIfInBounds n _)[i]? = _
            rw [Array.getElem?_setIfInBounds_ne (Ne.symm z)]
          rw [q] at e
          rcases Nat.lt_or_ge i n with c | c
          · exact V'.low i y c e
          · rw [V'.up i c] at e
            refine lowt i y hi ?_
            rw [← e]
            show _ = ((t.setGen n' _).gens.setIfInBounds n _)[i]?
            rw [Array.getElem?_setIfInBounds_ne (Ne.symm z)]
      · have h1' : b ≠ a' := fun z => hb (by rw [z]; exact List.mem_cons_self)
        have h2' : b ∉ a :: vs := fun z => hb (List.mem_cons_of_mem _ z)
        exact (sb2.2 b h1').trans ((e0 b h2').trans (sb1.2 b h1'))
      · have h1' : v ≠ a' := fun z => na (z ▸ hm)
        rcases List.mem_cons.mp hm with rfl | hm
        · obtain ⟨o, nm, qn, q1, q2, q3, q4⟩ := V'.gen
          exact ⟨o, (sb2.2 v h1').trans q1, fun x z => by rw [q3] at z; cases z⟩
        · obtain ⟨o, q1, q2⟩ := V'.vol v hm
          exact ⟨o, (sb2.2 v h1').trans q1, q2⟩
end
end Kn
namespace Kn
open PySem PySem.Spec PyProof.Rows
open L2 hiding St
section
variable {P : Program} {w : World} {K : PySem.W.Frag} {mg : Str → Option Value} {base : Heap} {N ps : List Str} {qual nm m cn : Str} {st : Stmt} {f C : Addr} {fd : FuncData} {L : Nat}
variable {τ : Type} {kids : τ → List τ} {rep d1 d2 : τ → Dat} {ok : τ → Prop} {hgt : τ → Nat} {evs : τ → List Dat} {e1 it o e2 : Expr} {y1 p1 q0 q1 q2 y2 p2 p3 y3 p4 : Pos}
/-- the text: yield e1; for cn in it: yield from o.m(); yield e2 -/
structure Descends (P : Program) (w : World) (K : PySem.W.Frag) (mg : Str → Option Value) (base : Heap) (N ps : List Str) (qual nm m cn : Str) (st : Stmt) (f C : Addr) (fd : FuncData) {τ : Type} (kids : τ → List τ) (rep d1 d2 : τ → Dat) (ok : τ → Prop) (hgt : τ → Nat) (evs : τ → List Dat)
    (e1 it o e2 : Expr) (y1 p1 q0 q1 q2 y2 p2 p3 y3 p4 : Pos) : Prop where
  nd : N.Nodup
  len : N.length = 2
  cn1 : N[1]? = some cn
  loc : Loc (defScope st) cn
  ps1 : ps.length = 1
  co : (defScope st).isCoroutine = false
  ki : (defScope st).kind = .function
  noc : ∀ L x, (GE P w K mg base N qual st f fd L).env.cells.lookup x = none
  body : defBody st = [.Expr (.Yield (some e1) y1) p1, .For (.Name cn q0) it [.Expr (.YieldFrom (.Call (.Attribute o m q1) [] [] q2) y2) p2] [] p3, .Expr (.Yield (some e2) y3) p4]
  one : ∀ L A outer s0 H0 O ρ t, ok t → ρ[0]? = some (.dat (rep t)) → EV ((GE P w K mg base N qual st f fd L).cx A outer s0 H0) O ρ e1 noX (d1 t)
  walk : ∀ L A outer s0 H0 O ρ t, ok t → ρ[0]? = some (.dat (rep t)) → IW ((GE P w K mg base N qual st f fd L).cx A outer s0 H0) O ρ (.Name cn q0) it noX (fun ds O' => ds = (kids t).map rep ∧ O' = O)
  child : ∀ L A outer s0 H0 O ρ t, ok t → ρ[1]? = some (.dat (rep t)) → EV ((GE P w K mg base N qual st f fd L).cx A outer s0 H0) O ρ o noX (rep t)
  two : ∀ L A outer s0 H0 O ρ t, ok t → ρ[0]? = some (.dat (rep t)) → EV ((GE P w K mg base N qual st f fd L).cx A outer s0 H0) O ρ e2 noX (d2 t)
  ins : ∀ O t, ok t → InsAt O C m (.dat (rep t))
  cls : Cls K C
  met : L2.Meth K C m f
  fn : FunX K nm qual st f fd
  sc : GScope N ps (defScope st)
  bd : Binds K fd ps []
  kid : ∀ t c, ok t → c ∈ kids t → ok c ∧ hgt c < hgt t
  evs : ∀ t, ok t → evs t = d1 t :: ((kids t).flatMap evs ++ [d2 t])
  fold : ∀ L x, foldedSetIterable it (GE P w K mg base N qual st f fd L).env x = pure x
  call : ∀ L, ∃ pl, eval (.Call (.Attribute o m q1) [] [] q2) (GE P w K mg base N qual st f fd L).env = (do
      let ov ← eval o (GE P w K mg base N qual st f fd L).env
      standAt q1.atName
      let (f1, first) ← holding [ov] (getMethod ov m pl)
      callWith q2 f1 first (backTo q2 (starEach [] (GE P w K mg base N qual st f fd L).env)) (backToKw q2 (keywordEach [] (GE P w K mg base N qual st f fd L).env)))
/-- what is known of the children's iterator -/
structure Goes (g : Gn) (outer : List Env) (vs : List Addr) (a : Addr) (O : Own) (tg : Expr) (J : It) (fp : List Addr) (itr : Addr) (tn : Nat → Heap → Prop) (ds : List Dat) (H : Hp) : Prop where
  turn : Turn g.P g.w g.K tg J fp itr tn
  out : ∀ b ∈ fp, b ∉ a :: vs ∧ g.L < b ∧ b ∉ frs outer
  free : ∀ b ∈ fp, H b = none
  itd : ∃ G, Same G (hid O H) ∧ ItD g.K G J ds
section
variable {outer : List Env} {vs : List Addr} {k a n : Nat} {O : Own}
/-- it is fresh -/
structure New (g : Gn) (body : List Stmt) (outer : List Env) (vs : List Addr) (a n : Nat) (O : Own) (d : Dat) (H : Hp) (s : Shared) : Prop where
  at_ : s.gens[n]? = some (.fresh (.func body g.env))
  num : s.gens.size = n + 1
  slp : ∃ v, Slp g vs outer (L2.start g.N [v]) H s ∧ Rp g.K (hid O H) v d
  own : OwnOk g.K O H
  vol : Vols g outer vs a
  free : ∀ v ∈ a :: vs, H v = none
abbrev bodyK (e2 : Expr) (y3 p4 : Pos) (env : Env) : Flow → Sem PySem.Fin := fun f => match f with
  | .next => (execs [.Expr (.Yield (some e2) y3) p4] env).wrap genK (genJ env) id id
  | f => genK f
abbrev loopB (o : Expr) (m : Str) (q1 q2 y2 p2 : Pos) : List Stmt := [.Expr (.YieldFrom (.Call (.Attribute o m q1) [] [] q2) y2) p2]
theorem ph_loop (T : Descends P w K mg base N ps qual nm m cn st f C fd kids rep d1 d2 ok hgt evs e1 it o e2 y1 p1 q0 q1 q2 y2 p2 p3 y3 p4) (t : τ) (ht : ok t) (W : Vols (GE P w K mg base N qual st f fd L) outer vs a) {J : It} {fp : List Addr} {itr : Addr} {tn : Nat → Heap → Prop} {pF : Pos} {bf : List Stmt}
    (IH : ∀ c ∈ kids t, ∀ L' outer' vs' a' n' H s, New (GE P w K mg base N qual st f fd L') (defBody st) outer' vs' a' n' O (rep c) H s → Rdy (GE P w K mg base N qual st f fd L') outer' vs' (k - 1) a' n' O (evs c) H s) (hk : 1 ≤ k) :
    ∀ (cs : List τ) (i : Nat) (A : Around) (sb s : Shared) (Hb H : Hp) (σ : SV) (ρ : List Slot), (kids t).drop i = cs → Room k A → A.frames = some outer → Run (GE P w K mg base N qual st f fd L) A outer vs a n O [] sb Hb σ ρ H s → AllBare s.gens → ρ[0]? = some (.dat (rep t)) → σ.length = 2 →
      Goes (GE P w K mg base N qual st f fd L) outer vs a O (.Name cn q0) J fp itr tn ((kids t).map rep) H → tn i s.heap →
      PSeg (model P w) A (OutQ (GE P w K mg base N qual st f fd L) outer vs k a n O sb Hb (cs.flatMap evs ++ [d2 t])) (.forLoop (.Name cn q0) (.ref itr) (loopB o m q1 q2 y2 p2) [] (GE P w K mg base N qual st f fd L).env) ((model P w).den (.forLoop (.Name cn q0) (.ref itr) (loopB o m q1 q2 y2 p2) [] (GE P w K mg base N qual st f fd L).env))
        [loopF (GE P w K mg base N qual st f fd L).env (bodyK e2 y3 p4 (GE P w K mg base N qual st f fd L).env) (genJ (GE P w K mg base N qual st f fd L).env) id id (.func bf (GE P w K mg base N qual st f fd L).env) pF] s := by
  have over : ∀ A : Around, A.over (.forLoop (.Name cn q0) (.ref itr) (loopB o m q1 q2 y2 p2) [] (GE P w K mg base N qual st f fd L).env) [loopF (GE P w K mg base N qual st f fd L).env (bodyK e2 y3 p4 (GE P w K mg base N qual st f fd L).env) (genJ (GE P w K mg base N qual st f fd L).env) id id (.func bf (GE P w K mg base N qual st f fd L).env) pF] = A.deeper (GE P w K mg base N qual st f fd L).env := fun A => (GenW.over_loop rfl rfl).trans GenW.over_func
  have fpo : ∀ {A : Around} {sb : Shared} {Hb H : Hp} {xp : List (Addr × Obj)} {σ : SV} {ρ : List Slot} {s : Shared}, Run (GE P w K mg base N qual st f fd L) A outer vs a n O xp sb Hb σ ρ H s → Goes (GE P w K mg base N qual st f fd L) outer vs a O (.Name cn q0) J fp itr tn ((kids t).map rep) H →
      ∀ b ∈ fp, FpOk ((GE P w K mg base N qual st f fd L).cx A outer (atCut sb L) Hb) (pinsOf sb.heap (a :: vs)) H b := fun {A sb Hb H xp σ ρ s} R G b hb => by
    obtain ⟨z1, z2, z3⟩ := G.out b hb
    have lt0 : (atCut sb L).heap.objs.size ≤ L := R.inv.ok.above
    exact ⟨G.free b hb, Nat.ne_of_gt z2, z3, .inr (Nat.le_trans lt0 (Nat.le_of_lt z2)), fun x c e => W.nc x c e, fun p hp e => z1 (e ▸ (mem_pins (show p ∈ pinsOf sb.heap (a :: vs) from hp)).1)⟩
  intro cs
  induction cs with
  | nil =>
    intro i A sb s Hb H σ ρ hd hr hf R ab r0 ls G tni
    obtain ⟨G0, sm, itd⟩ := G.itd
    have hi : ((kids t).map rep)[i]? = none := by
      rw [List.getElem?_map, List.getElem?_eq_none_iff.mpr (List.drop_eq_nil_iff.mp hd)]; rfl
    refine pseg_for_end ?_
    rw [over]
    have I : L2.Inv ((GE P w K mg base N qual st f fd L).cx A outer (atCut sb L) Hb) (pinsOf sb.heap (a :: vs)) σ H s := inv_gens R.inv rfl rfl ab
    refine GenW.wpAny_gsz (Nat.le_refl _) (wpAny_mono (G.turn.done ((GE P w K mg base N qual st f fd L).cx A outer (atCut sb L) Hb) rfl rfl rfl rfl i _ s σ H (fun _ _ => False) I (fpo R G) tni ((itd O H R.own sm i).2 hi)) (fun r t1 q gs1 => ⟨q.1, ?_⟩) fun _ _ z => z.elim)
    exact ph_last (g := GE P w K mg base N qual st f fd L) ⟨show L2.Inv _ ([] ++ pinsOf sb.heap (a :: vs)) σ H { t1 with gens := #[] } from inv_gens q.2 rfl rfl AllBare.empty, R.xpo, R.own, R.env, R.same, Nat.le_trans R.gsz gs1, R.num, R.vol⟩ q.2.bare W (fun A s0 H0 => T.two L A outer s0 H0 O ρ t ht r0) T.co T.ki
  | cons c cs ih =>
    intro i A sb s Hb H σ ρ hd hr hf R ab r0 ls G tni
    obtain ⟨G0, sm, itd⟩ := G.itd
    have hci : (kids t)[i]? = some c := by
      have e : ((kids t).drop i)[0]? = some c := by rw [hd]; rfl
      rw [List.getElem?_drop] at e
      exact e
    have hc : c ∈ kids t := List.mem_of_getElem? hci
    have hi : ((kids t).map rep)[i]? = some (rep c) := by rw [List.getElem?_map, hci]; rfl
    have I : L2.Inv ((GE P w K mg base N qual st f fd L).cx A outer (atCut sb L) Hb) (pinsOf sb.heap (a :: vs)) σ H s := inv_gens R.inv rfl rfl ab
    obtain ⟨go, yl⟩ := (itd O H R.own sm i).1 _ hi
    refine pseg_for_item ?_
    rw [over]
    refine GenW.wpAny_gsz (Nat.le_refl _) (wpAny_mono (G.turn.item ((GE P w K mg base N qual st f fd L).cx A outer (atCut sb L) Hb) rfl rfl rfl rfl i _ s σ H (fun _ _ => False) I (fpo R G) tni go) (fun r t1 q gs1 => ?_) fun _ _ z => z.elim)
    obtain ⟨u, er, q⟩ := q
    refine ⟨u, er, ?_⟩
    refine GenW.wpAny_gsz (Nat.le_refl _) (wpAny_mono q (fun _ t2 q2 gs2 => ?_) fun _ _ z => z.elim)
    obtain ⟨x, H2, I2, rx, yld, tn2, free2⟩ := q2
    obtain ⟨sm2, rpx⟩ := yl x H2 yld
    have st2 : StOk K (hid O H) O σ ρ H2 := R.st.grow sm2
    refine GenW.wpAny_gsz (Nat.le_refl _) (store_ok2 (v := x) I2 T.nd T.cn1 T.loc rx (fun t3 I3 ch gs3 => ?_) (.inl rfl))
    obtain ⟨aa, sba, wh⟩ := ch
    have ea : aa = L := by
      rcases wh with e | e
      · exact e
      · exact W.nc cn aa e
    subst ea
    have tn3 : tn (i + 1) t3.heap := G.turn.keep (i + 1) t2.heap t3.heap tn2 fun b hb ob e => (sba.2 b (Nat.ne_of_gt (G.out b hb).2.1)).trans e
    have st3 : StOk K (hid O H) O (σ.set 1 (some x)) (ρ.set 1 (.dat (rep c))) H2 := st2.set (s := .dat (rep c)) rpx
    have lr : ρ.length = 2 := by rw [← paired_len R.env]; exact ls
    have R3 : Run (GE P w K mg base N qual st f fd aa) A outer vs a n O (pinsOf t3.heap fp) sb Hb (σ.set 1 (some x)) (ρ.set 1 (.dat (rep c))) H2 t3 := by
      refine ⟨inv_pins (X := (GE P w K mg base N qual st f fd aa).cx A outer (atCut sb aa) Hb) (inv_gens (s' := { t3 with gens := #[] }) I3 rfl rfl AllBare.empty) fun p hp => ?_, fun p hp => (G.out p.1 (mem_pins hp).1).1, st3.own, st3.env, R.same.trans st3.base, Nat.le_trans R.gsz (Nat.le_trans gs1 (Nat.le_trans gs2 gs3)), R.num, R.vol⟩
      rcases List.mem_append.mp (show p ∈ pinsOf t3.heap fp ++ pinsOf sb.heap (a :: vs) from hp) with z | z
      · obtain ⟨z1, z2⟩ := mem_pins z
        obtain ⟨ob, z3, z4⟩ := G.turn.obj _ _ tn3 _ z1
        rw [z2] at z3; cases z3
        exact ⟨z2, free2 _ z1, Nat.ne_of_gt (G.out _ z1).2.1, (G.out _ z1).2.2, z4⟩
      · exact I3.pin p (List.mem_append_right _ z)
    obtain ⟨okc, hgc⟩ := T.kid t c ht hc
    obtain ⟨pl, hcall⟩ := T.call aa
    refine pseg_cons (pseg_YieldFrom rfl ?_ (by simp [interactive, envOfC, T.ki]))
    rw [over]
    refine wpAny_mono (R3.gen I3.bare W T.noc (fun s0 H0 => T.child aa A outer s0 H0 O _ c okc (by rw [List.getElem?_set_self (by omega)])) (T.ins O c okc) T.cls T.met T.fn T.sc T.bd T.ps1 hr.hd (by have := hr.dp; omega) hf hcall) (fun u4 t4 q4 => ?_) fun _ _ z => z
    obtain ⟨a', n', v4, H4, L', rfl, R4, ab4, rp4, ig, num4, at4, slp4, W2, free4, hL, hx, hv, hn, sm4⟩ := q4
    refine ⟨a', n', rfl, ig, fun p l Kr hKr => ?_⟩
    rw [List.flatMap_cons, List.append_assoc]
    refine ph_yf (k' := k - 1) (G := hid O H4) T.noc W W2 hx hv hL hn (by omega) rfl rfl over (fun A5 sb5 s5 Hb5 H5 hr5 hf5 R5 sm5 ab5 => hKr A5 _ s5 (pseg_again rfl ?_)) (evs c) A sb t4 t4 Hb H4 hr hf R4 (IH c hc L' _ _ a' n' H4 t4 ⟨at4, num4, ⟨v4, slp4, rp4⟩, R4.own, W2, free4⟩)
      ⟨rfl, rfl, fun _ _ => rfl, fun _ y _ e => ab4 y (Array.mem_of_getElem? e), fun _ _ => rfl, GenS.of ig, fun v hm => ?_⟩ (Same.refl _)
    · have pin5 : ∀ b ∈ fp, ∃ ob, t3.heap.get? b = some ob ∧ s5.heap.get? b = some ob ∧ H5 b = none := fun b hb => by
        obtain ⟨ob, e, _⟩ := G.turn.obj _ _ tn3 b hb
        obtain ⟨z1, z2, _⟩ := R5.inv.pin (b, ob) (List.mem_append_right _ (List.mem_append_left _ (pins_mem hb e)))
        exact ⟨ob, e, z1, z2⟩
      refine ih (i + 1) A5 sb5 s5 Hb5 H5 _ _ ?_ hr5 hf5 ⟨inv_pins (X := (GE P w K mg base N qual st f fd aa).cx A5 outer (atCut sb5 aa) Hb5) R5.inv fun p hp => R5.inv.pin p (List.mem_append_right _ (List.mem_append_right _ (show p ∈ pinsOf sb5.heap (a :: vs) from hp))), fun p hp => (nomatch hp), R5.own, R5.env, R5.same, R5.gsz, R5.num, R5.vol⟩ ab5 ?_ ?_ ⟨G.turn, G.out, fun b hb => ?_, G0, ?_, itd⟩ ?_
      · rw [← List.drop_drop, hd]; rfl
      · rw [List.getElem?_set_ne (by decide)]; exact r0
      · rw [List.length_set]; exact ls
      · obtain ⟨_, _, _, z⟩ := pin5 b hb
        exact z
      · exact (sm.trans st2.base).trans (sm4.trans sm5)
      · exact G.turn.keep (i + 1) t3.heap s5.heap tn3 fun b hb ob e => by
          obtain ⟨ob2, z1, z2, _⟩ := pin5 b hb
          rw [e] at z1; cases z1
          exact z2
    · obtain ⟨ob, e⟩ := R.vol v hm
      obtain ⟨z1, _, _, _, z2⟩ := R4.inv.pin (v, ob) (List.mem_append_right _ (List.mem_append_right _ (pins_mem hm e)))
      exact ⟨ob, z1, z2⟩
theorem rdy_down (T : Descends P w K mg base N ps qual nm m cn st f C fd kids rep d1 d2 ok hgt evs e1 it o e2 y1 p1 q0 q1 q2 y2 p2 p3 y3 p4) :
    ∀ (h : Nat) (t : τ), hgt t ≤ h → ok t → ∀ k, h + 1 ≤ k → ∀ L outer vs a n H s, New (GE P w K mg base N qual st f fd L) (defBody st) outer vs a n O (rep t) H s → Rdy (GE P w K mg base N qual st f fd L) outer vs k a n O (evs t) H s := by
  intro h
  induction h using Nat.strongRecOn with
  | ind h ih =>
    intro t hh ht k hk L outer vs a n H s Nw
    have W := Nw.vol
    have IH : ∀ c ∈ kids t, ∀ L' outer' vs' a' n' H s, New (GE P w K mg base N qual st f fd L') (defBody st) outer' vs' a' n' O (rep c) H s → Rdy (GE P w K mg base N qual st f fd L') outer' vs' (k - 1) a' n' O (evs c) H s := fun c hc L' outer' vs' a' n' H' s' Nw' => by
      obtain ⟨okc, lt⟩ := T.kid t c ht hc
      exact ih (hgt c) (by omega) c (Nat.le_refl _) okc (k - 1) (by omega) L' outer' vs' a' n' H' s' Nw'
    rw [T.evs t ht]
    refine rdy_iff.mpr ⟨_, Nw.at_, fun s' A V hr hf => ?_⟩
    obtain ⟨v, slp, rp⟩ := Nw.slp
    have nlt : n < s'.gens.size := by rw [V.gsz, Nw.num]; exact Nat.lt_succ_self _
    have ab : AllBare (s'.setGen n .running).gens := fun y hy => by
      obtain ⟨i, hi, e⟩ := Array.mem_iff_getElem.mp hy
      have e2 : (s'.setGen n .running).gens[i]? = some y := by rw [Array.getElem?_eq_getElem hi, e]
      by_cases z : i = n
      · subst z
        rw [setGen_at nlt] at e2
        cases e2; rfl
      · have hi2 : i < n := by
          have : i < s'.gens.size := by rw [set_size] at hi; exact hi
          rw [V.gsz, Nw.num] at this; omega
        have q : (s'.setGen n .running).gens[i]? = s'.gens[i]? := by
          show (s'.gens.setIfInBounds n _)[i]? = _
          rw [Array.getElem?_setIfInBounds_ne (Ne.symm z)]
        exact V.low i y hi2 (by rw [← q]; exact e2)
    have R0 : Run (GE P w K mg base N qual st f fd L) A outer vs a n O [] (s'.setGen n .running) H (L2.start N [v]) (startS N [.dat (rep t)]) H (s'.setGen n .running) := by
      refine ⟨slp.wake V W Nw.free hr.hd hf, fun p hp => (nomatch hp), Nw.own, start_env (.cons (show SlOk K (hid O H) v (.dat (rep t)) from rp) .nil), Same.refl _, Nat.le_refl _, by rw [set_size]; exact nlt, fun x hm => ?_⟩
      rcases List.mem_cons.mp hm with rfl | hm
      · obtain ⟨ob, _, _, e, _⟩ := V.gen
        exact ⟨ob, e⟩
      · obtain ⟨ob, e, _⟩ := V.vol x hm
        exact ⟨ob, e⟩
    have r0 : (startS N [.dat (rep t)])[0]? = some (.dat (rep t)) := rfl
    have ls : (L2.start N [v]).length = 2 := R0.inv.len.trans T.len
    have hi : interactive (GE P w K mg base N qual st f fd L).env = false := by simp [interactive, envOfC, T.ki]
    show PSeg (model P w) A _ (.func (defBody st) (GE P w K mg base N qual st f fd L).env) ((model P w).den (.func (defBody st) (GE P w K mg base N qual st f fd L).env)) [] _
    refine pseg_func ?_
    rw [T.body]
    refine pseg_cons (pseg_Yield rfl rfl ?_ T.co hi)
    rw [GenW.over_func]
    refine wpAny_mono (R0.ev ab fun s0 H0 => T.one L A outer s0 H0 O _ t ht r0) (fun u1 t1 q1 => ?_) fun _ _ z => z
    obtain ⟨x, H1, R1, ab1, rv, rd, _⟩ := q1
    refine fun kk l p hkk => out_yield R1 ab1 W rv rd rfl fun s2 A2 hr2 hf2 R2 ab2 _ => hkk A2 _ _ ?_
    refine pseg_cons (pseg_For ?_ (T.fold L))
    rw [GenW.over_func]
    have I2 : L2.Inv ((GE P w K mg base N qual st f fd L).cx A2 outer (atCut (s2.setGen n .running) L) H1) (pinsOf (s2.setGen n .running).heap (a :: vs)) (L2.start N [v]) H1 (s2.setGen n .running) := inv_gens R2.inv rfl rfl ab2
    refine GenW.wpAny_gsz (Nat.le_refl _) (wpAny_mono ((T.walk L A2 outer (atCut (s2.setGen n .running) L) H1 O _ t ht r0 (hid O H1) _ H1 R2.st takes_no (fun J H' => ∃ ds O', (ds = (kids t).map rep ∧ O' = O) ∧ StOk K (hid O H1) O' (L2.start N [v]) (startS N [.dat (rep t)]) H' ∧ ItD K (hid O' H') J ds) fun J H' ds O' a b c => ⟨ds, O', a, b, c⟩).r _ _ I2) (fun x3 t3 q3 gs3 => ?_) fun _ _ z => z.elim)
    refine GenW.wpAny_gsz (Nat.le_refl _) (wpAny_mono q3 (fun x4 t4 q4 gs4 => ?_) fun _ _ z => z.elim)
    obtain ⟨itr, fp, tn, J, H4, rfl, I4, Tn, tn0, fpk, ds, O4, ⟨rfl, rfl⟩, st4, itd⟩ := q4
    intro p3'
    have hL : L ≤ (s2.setGen n .running).heap.objs.size := by
      obtain ⟨ob, e⟩ := R2.vol a List.mem_cons_self
      exact Nat.le_of_lt (Nat.lt_trans W.own.1 (Heap.lt_size e))
    refine ph_loop T t ht W IH (by omega) (kids t) 0 A2 (s2.setGen n .running) t4 H1 H4 _ _ rfl hr2 hf2 ⟨show L2.Inv _ ([] ++ pinsOf (s2.setGen n .running).heap (a :: vs)) _ H4 { t4 with gens := #[] } from inv_gens I4 rfl rfl AllBare.empty, fun p hp => (nomatch hp), st4.own, st4.env, st4.base, Nat.le_trans gs3 gs4, R2.num, R2.vol⟩ I4.bare r0 ls ⟨Tn, fun b hb => ?_, fun b hb => (fpk b hb).1, _, Same.refl _, itd⟩ tn0
    obtain ⟨z1, z2, z3, z4, z5, z6⟩ := fpk b hb
    refine ⟨fun hm => ?_, Nat.lt_of_le_of_ne ?_ (Ne.symm z2), z3⟩
    · obtain ⟨ob, e⟩ := R2.vol b hm
      exact z6 (b, ob) (List.mem_append_right _ (pins_mem hm e)) rfl
    · rcases z4 with z | z
      · exact nomatch z
      · have e : (atCut (s2.setGen n .running) L).heap.objs.size = L := cut_size hL
        rw [← e]; exact z
end
end
end Kn
namespace Kn
open PySem PySem.Spec PyProof.Rows
open L2 hiding St
section
variable {M : Model} {A : Around} {E : Value → Shared → Prop} {s : Shared} {env : Env} {pos : Pos} {f : Value} {first : List Value} {Q : Value → Shared → Prop}
theorem anyP_keep {α : Type} {vs : List Value} {t : Sem α} {Q : α → Shared → Prop} (h : wpAnyP M A t Q E s) : wpAnyP M A (t.keep vs) Q E s := fun Γ p i => wpP_keep _ t (h Γ p i)
theorem anyP_operate {vs : List Value} {t : Sem Value} (h : wpAnyP M A t Q E s) : wpAnyP M A (operate vs t) Q E s := by
  unfold operate
  refine anyP_bind (anyP_holding (anyP_mono h (fun r s1 q => ?_) fun _ _ z => z))
  refine anyP_bind0 (fun Γ p i => ?_)
  rw [Sem.wp_release]
  exact anyP_pure q
theorem anyP_one {x : Sem Value} {Q : Args → Shared → Prop} (h : wpAnyP M A x (fun v s' => Q ⟨[v], []⟩ s') E s) : wpAnyP M A (evalArgs f true [(false, x)] []) Q E s := by
  unfold evalArgs
  show wpAnyP M A (spliced [(false, x)] >>= _) Q E s
  refine anyP_bind ?_
  show wpAnyP M A (x >>= fun v => pure [v] >>= fun here => holding here (pure []) >>= fun r => pure (here ++ r)) _ E s
  refine anyP_bind (anyP_mono h (fun v s' q => ?_) fun _ _ z => z)
  refine anyP_bind (anyP_pure (anyP_bind (anyP_holding (anyP_pure (anyP_pure (anyP_holding ?_))))))
  exact anyP_bind (anyP_pure (anyP_bind (anyP_pure (anyP_pure q))))
theorem anyP_callWith {Pr : Heap → Prop} {args : List (Bool × Sem Value)} {keywords : List (Option Str × Sem Value)} (hplain : (args.any (·.1) || keywords.any (·.1.isNone)) = false)
    (hk : ∀ h, Pr h → ∃ k, (k = Keeper.frame ∨ k = Keeper.machine ∨ k = Keeper.boundFrame) ∧ PySem.W.Looks M h (keeperOf f) k)
    (h : wpAnyP M A (evalArgs f true args keywords) (fun a s₁ => Pr s₁.heap ∧ wpAnyP M A (call f (first ++ a.pos) a.kw) Q E s₁) E s) : wpAnyP M A (callWith pos f first args keywords) Q E s := by
  unfold callWith
  refine anyP_bind (anyP_holding (anyP_mono h (fun a s₁ h₁ => anyP_bind0 (wpAny_standAt ?_)) fun _ _ x => x))
  obtain ⟨k, hk', L⟩ := hk _ h₁.1
  simp only [hplain]
  refine anyP_bind0 (L.here ?_)
  have tail : ∀ {t : Sem Value}, wpAnyP M A t Q E s₁ → wpAnyP M A (t >>= fun r => holding [r] point >>= fun _ => pure r) Q E s₁ :=
    fun ht => anyP_bind (anyP_mono ht (fun r s₂ hr => anyP_bind0 (wpAny_holding (wpAny_point (anyP_pure hr)))) fun _ _ x => x)
  have marked (mk : Value) : wpAnyP M A (callMarked mk f (first ++ a.pos) a.kw) Q E s₁ := by unfold callMarked; exact anyP_keep h₁.2
  rcases hk' with rfl | rfl | rfl <;> dsimp only <;> first | exact tail h₁.2 | (split <;> first | exact tail h₁.2 | exact tail (marked _))
theorem keeps_plain {M : Model} {f : Value} (hf : ∀ a, f ≠ .ref a) (h : Heap) (_ : True) : ∃ k, (k = Keeper.frame ∨ k = Keeper.machine ∨ k = Keeper.boundFrame) ∧ PySem.W.Looks M h (keeperOf f) k := by
  refine ⟨.machine, .inr (.inl rfl), PySem.W.Looks.of_pure ?_⟩
  unfold keeperOf
  cases f <;> first | rfl | exact absurd rfl (hf _)
end
section
variable (X : Cx)
def WeP (e : Expr) : TE := fun σ H Q => Bx (∀ (pins : List (Addr × Obj)) (s : Shared), Inv X pins σ H s → wpAnyP (model X.prog X.w) X.A (eval e X.env) (EP X pins σ Q) X.xe s)
def WtP (e : Expr) : TT := fun σ H Q => Bx (∀ (pins : List (Addr × Obj)) (s : Shared), Inv X pins σ H s → wpAnyP (model X.prog X.w) X.A (isTrue e X.env (eval e X.env)) (TP X pins σ Q) X.xe s)
def WsP (st : Stmt) : TS := fun D σ H => Bx (∀ (pins : List (Addr × Obj)) (s : Shared), Inv X pins σ H s → wpAnyP (model X.prog X.w) X.A (exec st X.env) (SP X pins D) X.xe s)
def WssP (st : List Stmt) : TS := fun D σ H => Bx (∀ (pins : List (Addr × Obj)) (s : Shared), Inv X pins σ H s → wpAnyP (model X.prog X.w) X.A (execs st X.env) (SP X pins D) X.xe s)
def EWP (O : Own) (ρ : List Slot) (e : Expr) (x : ExK) (k : Slot → Own → Prop) : Prop :=
  ∀ H0 σ H, StOk X.K H0 O σ ρ H → Takes X (Wsem X.K H0 x) → ∀ Q : VK, (∀ v H' s O', k s O' → StOk X.K H0 O' σ ρ H' → SlOk X.K (hid O' H') v s → Q v H') → WeP X e σ H Q
def TWP (O : Own) (ρ : List Slot) (e : Expr) (x : ExK) (k : Bool → Own → Prop) : Prop :=
  ∀ H0 σ H, StOk X.K H0 O σ ρ H → Takes X (Wsem X.K H0 x) → ∀ Q : Bool → Hp → Prop, (∀ b H' O', k b O' → StOk X.K H0 O' σ ρ H' → Q b H') → WtP X e σ H Q
def S1P (O : Own) (ρ : List Slot) (st : Stmt) (x : ExK) (D : SD) : Prop :=
  ∀ H0 σ H, StOk X.K H0 O σ ρ H → Takes X (Wsem X.K H0 x) → ∀ E, EndsOk X.K H0 D E → WsP X st E σ H
def SWP (O : Own) (ρ : List Slot) (st : List Stmt) (x : ExK) (D : SD) : Prop :=
  ∀ H0 σ H, StOk X.K H0 O σ ρ H → Takes X (Wsem X.K H0 x) → ∀ E, EndsOk X.K H0 D E → WssP X st E σ H
end
section
variable {X : Cx} {O : Own} {ρ : List Slot} {x : ExK} {k : Slot → Own → Prop} {kt : Bool → Own → Prop} {e a b c : Expr} {es : List Expr} {pos p : Pos} {D : SD} {st : Stmt} {ss ss2 : List Stmt}
theorem s1p_of (h : S1 X O ρ st x D) : S1P X O ρ st x D := fun H0 σ H s t Q q => ⟨fun pins sh I => anyP_of ((h H0 σ H s t Q q).r pins sh I)⟩
theorem swp_of (h : SW X O ρ ss x D) : SWP X O ρ ss x D := fun H0 σ H s t Q q => ⟨fun pins sh I => anyP_of ((h H0 σ H s t Q q).r pins sh I)⟩
theorem ewp_callB {nm : Str} {id : String} (hm : X.mg nm = none) (hv : bootBuiltins nm = some (.builtin id)) (h : EWP X O ρ e x fun s O1 => CaB X (.builtin id) [s] O1 k) (hg : Gl X nm := by rfl) (hn : nm ≠ "__name__" := by decide) (hd : (nm == ("__debug__" : Str)) = false := by decide)
    (hs : backTo pos (starEach [e] X.env) = [(false, eval e X.env)] := by rfl) : EWP X O ρ (.Call (.Name nm p) [e] [] pos) x k := fun H0 σ H st tk Q q => ⟨fun pins s I => by
  rw [arm_eval_Call_Name']
  refine anyP_bind0 (ld_blt I hg hm hv ?_ (hn := hn) (hd := hd))
  refine anyP_callWith (Pr := fun _ => True) (by rw [hs]; rfl) (keeps_plain fun a => by intro z; cases z) ?_
  rw [hs]
  refine anyP_one (anyP_mono ((h H0 σ H st tk (fun v H1 => ∃ r, CallR X (.builtin id) r ∧ r [v] H1 Q) fun v H1 s1 O1 ⟨r, h1, h2⟩ st1 r1 => ⟨r, h1, h2 H0 σ ρ H1 [v] st1 (.cons r1 .nil) Q q⟩).r pins s I) (fun u s1 q1 => ⟨trivial, ?_⟩) fun _ _ z => z)
  obtain ⟨v, H1, I1, rv, r, h1, h2⟩ := q1
  exact anyP_of (h1 pins s1 σ H1 [v] [u] Q I1 (.cons rv .nil) h2)⟩
theorem ewp_cmp {op : CmpOp} (h : EWP X O ρ a x fun s1 O1 => EW X O1 ρ b x fun s2 O2 => OpB X (compareOp op) s1 s2 O2 k) (hm : behindInMarks op b = false := by first | exact nomark _ | rfl) : EWP X O ρ (.Compare a [op] [b] pos) x k := fun H0 σ H st tk Q q => ⟨fun pins s I => by
  rw [eval_Compare1, markedBehindIn_of_false hm]
  refine anyP_bind (anyP_mono ((h H0 σ H st tk (fun v1 H1 => We X b σ H1 fun v2 H2 => ∃ r, OpR X (compareOp op) r ∧ r v1 v2 H2 Q) fun v1 H1 s1 O1 h1 st1 r1 => h1 (hid O1 H1) σ H1 st1.top (takes_base tk st1.base) _ fun v2 H2 s2 O2 h2 st2 r2 => by
    obtain ⟨r, ho, hr⟩ := h2
    exact ⟨r, ho, hr H0 σ ρ H2 v1 v2 (st2.rebase st1.base) (SlOk.mono st2.base r1) r2 Q q⟩).r pins s I) (fun u1 s1 q1 => ?_) fun _ _ z => z)
  obtain ⟨v1, H1, I1, rv1, hb⟩ := q1
  refine anyP_bind0 (wpAny_holding (wpAny_mono (hb.r pins s1 I1) (fun u2 s2 q2 => ?_) fun _ _ z => z))
  obtain ⟨v2, H2, I2, rv2, r, ho, hr⟩ := q2
  exact anyP_bind0 (wpAny_standAt (anyP_operate (anyP_of (ho pins s2 σ H2 v1 v2 u1 u2 Q I2 rv1 rv2 hr))))⟩
theorem ewp_and2 (h : EWP X O ρ a x fun s O1 => ∃ t, s = .dat (.bl t) ∧ (t = true → EW X O1 ρ b x k) ∧ (t = false → k (.dat (.bl false)) O1)) : EWP X O ρ (.BoolOp .And [a, b] pos) x k := fun H0 σ H st tk Q q => ⟨fun pins s I => by
  show wpAnyP _ _ (eval a X.env >>= fun v => standAt pos >>= fun _ => holding [v] (truthy v) >>= fun t => match BoolOp.And, t with
    | .And, false | .Or, true => pure v
    | _, _ => boolOp pos .And [eval b X.env]) _ _ s
  refine anyP_bind (anyP_mono ((h H0 σ H st tk (fun v1 H1 => ∃ t, v1 = .bl t ∧ (t = true → We X b σ H1 Q) ∧ (t = false → Q (.bl false) H1)) fun v1 H1 s1 O1 ⟨t, e1, h1, h2⟩ st1 r1 => by
    subst e1
    cases r1
    exact ⟨t, rfl, fun e => h1 e H0 σ H1 st1 tk Q q, fun e => q _ H1 _ O1 (h2 e) st1 (.bl false)⟩).r pins s I) (fun u1 s1 q1 => ?_) fun _ _ z => z)
  obtain ⟨v1, H1, I1, rv1, t, rfl, h1, h2⟩ := q1
  cases rv1
  refine anyP_bind0 (wpAny_standAt (anyP_bind0 (wpAny_holding (wpAny_truthy_bool ?_))))
  cases t with
  | true => exact anyP_of ((h1 rfl).r pins s1 I1)
  | false => exact anyP_pure ⟨.bl false, H1, I1, rfl, h2 rfl⟩⟩
theorem twp_val (h : EWP X O ρ e x fun s O1 => ∃ t, s = .dat (.bl t) ∧ kt t O1) (he : ∀ whole, isTrue e X.env whole = (do let v ← whole; standAt e.pos; holding [v] (truthy v)) := by intro _; rfl) : TWP X O ρ e x kt := fun H0 σ H st tk Q q => ⟨fun pins s I => by
  rw [he]
  refine anyP_bind (anyP_mono ((h H0 σ H st tk (fun v H1 => ∃ t, v = .bl t ∧ Q t H1) fun v H1 s O1 ⟨t, e1, h1⟩ st1 r1 => by
    subst e1
    cases r1
    exact ⟨t, rfl, q t H1 O1 h1 st1⟩).r pins s I) (fun u s1 q1 => ?_) fun _ _ z => z)
  obtain ⟨v, H1, I1, rv, t, rfl, h1⟩ := q1
  cases rv
  exact anyP_bind0 (wpAny_standAt (anyP_of (wpAny_holding (wpAny_truthy_bool ⟨H1, I1, h1⟩))))⟩
theorem twp_not (h : TWP X O ρ e x fun t O1 => kt (!t) O1) : TWP X O ρ (.UnaryOp .Not e pos) x kt := fun H0 σ H st tk Q q => ⟨fun pins s I => by
  rw [arm_isTrue_UnaryOp]
  refine anyP_bind (anyP_mono ((h H0 σ H st tk (fun t H1 => Q (!t) H1) fun t H1 O1 h1 st1 => q _ H1 O1 h1 st1).r pins s I) (fun t s1 q1 => anyP_pure q1) fun _ _ z => z)⟩
theorem s1p_ret (h : EWP X O ρ e x D.rt) : S1P X O ρ (.Return (some e) pos) x D := fun H0 σ H st tk E ok => ⟨fun pins s I => by
  rw [exec_Return_some]
  refine anyP_bind0 (wpAny_standAt (anyP_bind (anyP_mono ((h H0 σ H st tk E.rt fun v H1 z O1 h1 st1 r1 => ok.rt v z O1 H1 h1 st1.own st1.base r1).r pins s I) (fun u s1 q1 => ?_) fun _ _ z => z)))
  obtain ⟨v, H1, I1, rv, h1⟩ := q1
  exact anyP_pure ⟨v, σ, H1, I1, rv, h1⟩⟩
theorem swp_cons (h : S1P X O ρ st x { D with nx := fun ρ1 O1 => SWP X O1 ρ1 ss x D }) : SWP X O ρ (st :: ss) x D := fun H0 σ H so tk E ok => ⟨fun pins s I => by
  rw [execs_cons]
  refine anyP_bind (anyP_mono ((h H0 σ H so tk { E with nx := fun σ1 H1 => WssP X ss E σ1 H1 } ⟨fun σ1 ρ1 O1 H1 h1 st1 => h1 H0 σ1 H1 st1 tk E ok, ok.rt, ok.bk, ok.ct⟩).r pins s I) (fun fl s1 q1 => ?_) fun _ _ z => z)
  cases fl with
  | next =>
    obtain ⟨σ1, H1, I1, h1⟩ := q1
    exact h1.r pins s1 I1
  | brk => exact anyP_pure q1
  | cont => exact anyP_pure q1
  | ret u => exact anyP_pure q1⟩
/-- a quiet statement first -/
theorem swp_cons0 (h : S1 X O ρ st x { D with nx := fun ρ1 O1 => SWP X O1 ρ1 ss x D }) : SWP X O ρ (st :: ss) x D := swp_cons (s1p_of h)
theorem swp_nil (h : D.nx ρ O) : SWP X O ρ [] x D := fun H0 σ H so tk E ok => ⟨fun pins s I => anyP_of (wpAny_execs_nil ⟨σ, H, I, ok.nx σ ρ O H h so⟩)⟩
theorem swp_one (h : S1P X O ρ st x D) : SWP X O ρ [st] x D := swp_cons fun H0 σ H so tk E ok => h H0 σ H so tk E ⟨fun σ1 ρ1 O1 H1 h1 st1 => ok.nx σ1 ρ1 O1 H1 (swp_nil h1) st1, ok.rt, ok.bk, ok.ct⟩
theorem s1p_if (h : TWP X O ρ e x fun t O1 => if t = true then SWP X O1 ρ ss x D else SWP X O1 ρ ss2 x D) : S1P X O ρ (.If e ss ss2 pos) x D := fun H0 σ H so tk E ok => ⟨fun pins s I => by
  rw [exec_If]
  refine anyP_bind0 (wpAny_standAt (anyP_bind (anyP_mono ((h H0 σ H so tk (fun t H1 => if t = true then WssP X ss E σ H1 else WssP X ss2 E σ H1) fun t H1 O1 h1 st1 => ?_).r pins s I) (fun t s1 q1 => ?_) fun _ _ z => z)))
  · cases t with
    | true => exact h1 H0 σ H1 st1 tk E ok
    | false => exact h1 H0 σ H1 st1 tk E ok
  · obtain ⟨H1, I1, h1⟩ := q1
    cases t with
    | true => exact h1.r pins s1 I1
    | false => exact h1.r pins s1 I1⟩
end
end Kn
namespace Kn
open PySem PySem.Spec PyProof.Rows
open L2 hiding St
section
variable {α : Type} {M : Model}
theorem wpP_onRaise {Γ : PySem.Ctx} (t : Sem α) {f : Value → Sem Unit} {Q : α → Pos → Shared → Prop} {E : Value → Pos → Shared → Prop} : ∀ {p : Pos} {s : Shared}, wpP M Γ t Q (fun e p s => wpP M Γ (f e) (fun _ p s => E e p s) E p s) p s → wpP M Γ (t.onRaise f) Q E p s := by
  induction t with
  | pure a => exact fun h => h
  | raise e => exact fun h => wpP_bind (f e) h
  | unsupported | finish | yield | fork | await | register => exact fun h => False.elim h
  | load a _ k ih | genState a k ih => exact fun ⟨o, ho, h⟩ => ⟨o, ho, ih _ h⟩
  | update a _ f k ih | choose _ _ k ih => exact fun ⟨ha, h⟩ => ⟨ha, ih _ h⟩
  | call c h g l k ih => exact fun h => pcode_mono h fun r s' z => ih r z
  | resume g r l k ih => exact fun h => pwake_mono h fun r s' z => ih r z
  | _ => rename_i k ih; exact fun h => ih _ h
variable {A : Around} {E : Value → Shared → Prop} {s : Shared} {env : Env}
theorem anyP_onRaise {m : Sem α} {k : Value → Sem Unit} {Q : α → Shared → Prop} (h : wpAnyP M A m Q (fun e s' => wpAny M A (k e) (fun _ s'' => E e s'') E s') s) : wpAnyP M A (m.onRaise k) Q E s := fun Γ p i =>
  wpP_onRaise m (wpP_mono m (h Γ p i) (fun _ _ _ z => z) fun e p' s' z => wpP_of _ (z Γ p' i))
theorem anyP_noted {m : Sem α} {Q : α → Shared → Prop} (h : wpAnyP M A m Q (notedBy M A env E) s) : wpAnyP M A (m.onRaise fun x => do noteFrame x env; theTreesLotGoes x) Q E s :=
  anyP_onRaise (anyP_mono h (fun _ _ q => q) fun _ _ hx => wpAny_bind (wpAny_mono hx (fun _ _ e => wpAny_theTreesLotGoes e) fun _ _ e => e))
theorem anyP_passesOwn {t : Sem α} {Q : α → Shared → Prop} (hE : PassesOwn M A env E) (h : wpAnyP M A t Q E s) : wpAnyP M A t Q (notedBy M A env (cameBackBy M A env E)) s := anyP_mono h (fun _ _ z => z) hE
theorem anyP_runOwn {c : Code} {h : Option Value} {Q : Flow → Shared → Prop} (hc : codeAnyP M (A.mark h) c (fun r s' => match r with | .ok f => Q f s' | .error e => cameBackBy M A env E e s') s) (hnb : h ≠ some byPass := by intro x; cases x) : wpAnyP M A (runOwn c env h) Q E s := by
  unfold runOwn
  exact anyP_onRaise (anyP_run hc hnb)
/-- a code that goes to itself again, its measure less each time -/
theorem codeP_loop {c : Code} {R : Result → Shared → Prop} (hq : c.quiet = true) (J : Nat → Shared → Prop)
    (lap : ∀ n, (∀ k, k < n → ∀ s, J k s → codeAnyP M A c R s) → ∀ s, J n s → wpAnyP M (A.under c) (M.den c) (fun fin s' => match fin with | .done f => R (.ok f) s' | .again c' => c'.quiet = true ∧ codeAnyP M A c' R s') (fun e s' => R (.error e) s') s) :
    ∀ n s, J n s → codeAnyP M A c R s := by
  intro n
  induction n using Nat.strongRecOn with
  | ind n less => exact fun s h => codeP_tree (lap n less s h)
end
/-- where a loop's body may come out -/
def BodyOut (R : Result → Shared → Prop) (again : Shared → Prop) : Flow → Shared → Prop
  | .next, s => again s
  | .cont, s => again s
  | .brk, s => R (.ok .next) s
  | .ret v, s => R (.ok (.ret v)) s
section
variable {prog : Program} {w : World} {A : Around} {s : Shared} {env : Env} {E : Value → Shared → Prop}
/-- one turn: either nothing comes and the loop is left, or what comes is bound and the body runs -/
structure LapP (P : Program) (w : World) (A : Around) (tg : Expr) (it : Value) (body : List Stmt) (env : Env) (R : Result → Shared → Prop) (X : Value → Shared → Prop) (again : Shared → Prop) (s : Shared) : Prop where
  run : wpAny (model P w) A (pyNext it) (fun r s1 => match r with
    | none => R (.ok .next) s1
    | some u => wpAny (model P w) A (letOwnedTupleGo tg it u) (fun _ s2 => wpAny (model P w) A (assign tg env u) (fun _ s3 => wpAnyP (model P w) A (execs body env) (BodyOut R again) X s3) X s2) X s1) X s
theorem codeP_for {R : Result → Shared → Prop} {tg : Expr} {it : Value} {body : List Stmt} (J : Nat → Shared → Prop)
    (lap : ∀ n s, J n s → LapP prog w A tg it body env R (notedBy (model prog w) A env fun e s' => R (.error e) s') (fun s' => ∃ k, k < n ∧ J k s') s) (n : Nat) (h : J n s) : codeAnyP (model prog w) A (.forLoop tg it body [] env) R s := by
  refine codeP_loop rfl J (fun n less s hs => ?_) n s h
  show wpAnyP _ A ((forTurn tg it body [] env).onRaise fun x => do noteFrame x env; theTreesLotGoes x) _ _ s
  refine anyP_noted ?_
  unfold forTurn
  refine anyP_bind0 (wpAny_standAt (anyP_bind0 (wpAny_onRaise (wpAny_mono (lap n s hs).run (fun r s1 q => ?_) fun _ _ z => wpAny_standAt z))))
  cases r with
  | none => exact anyP_pure ⟨rfl, codeP_of (codeAny_block (wpAny_execs_nil q))⟩
  | some u =>
    refine anyP_bind0 (wpAny_mono q (fun _ s2 q2 => anyP_bind0 (wpAny_mono q2 (fun _ s3 q3 => anyP_bind (anyP_mono q3 (fun f s4 q4 => ?_) fun _ _ z => z)) fun _ _ z => z)) fun _ _ z => z)
    cases f with
    | brk => exact anyP_pure q4
    | ret v => exact anyP_pure q4
    | next =>
      obtain ⟨k, hk, hJ⟩ := q4
      exact anyP_pure ⟨rfl, less k hk _ hJ⟩
    | cont =>
      obtain ⟨k, hk, hJ⟩ := q4
      exact anyP_pure ⟨rfl, less k hk _ hJ⟩
theorem anyP_For {target iter : Expr} {body orelse : List Stmt} {pos : Pos} {Q : Flow → Shared → Prop}
    (h : wpAnyP (model prog w) A (eval iter env) (fun x s₁ => wpAnyP (model prog w) A (pyIter x) (fun it s₂ =>
      codeAnyP (model prog w) A (.forLoop target it body orelse env) (fun r s' => match r with | .ok f => Q f s' | .error e => cameBackBy (model prog w) A env E e s') s₂) E s₁) E s)
    (hs : ∀ x, foldedSetIterable iter env x = pure x := by intro _; rfl) : wpAnyP (model prog w) A (exec (.For target iter body orelse pos) env) Q E s := by
  rw [exec_For]
  refine anyP_bind0 (wpAny_standAt (anyP_bind (anyP_mono h (fun x s₁ h₁ => ?_) fun _ _ z => z)))
  rw [hs x]
  refine anyP_bind (anyP_pure (anyP_bind0 (wpAny_standAt (anyP_bind (anyP_holding (anyP_mono h₁ (fun it s₂ h₂ => ?_) fun _ _ z => z))))))
  exact anyP_runOwn h₂
end
section
variable {X : Cx} {O : Own} {ρ : List Slot} {x : ExK} {tg iter : Expr} {pos : Pos} {D : SD} {body : List Stmt}
/-- what is wanted of a loop's turns -/
def tForP (X : Cx) (tg : Expr) (body : List Stmt) (D : Ends) (σ : SV) : It → Hp → Prop := fun J H1 => ∃ W : Nat → Nat → SV → Hp → Prop, (∃ m, W 0 m σ H1) ∧ ∀ i m σ H, W i m σ H →
  (J.stop i H ∧ D.nx σ H) ∨ (J.go i H ∧ ∃ N : SV → Hp → Prop, (∀ σ' H', N σ' H' → ∃ m', m' < m ∧ W (i + 1) m' σ' H') ∧ ∀ x H', J.yld i H x H' → Wg X tg x σ H' fun σ2 H2 => WssP X body { D with nx := N, ct := N, bk := D.nx } σ2 H2)
/-- an iterator's objects, fp: untracked, out of the way -/
structure Idle (X : Cx) (pins : List (Addr × Obj)) (fp : List Addr) (tn : Nat → Heap → Prop) (i : Nat) (σ : SV) (H : Hp) (s : Shared) : Prop where
  inv : Inv X pins σ H s
  at_ : tn i s.heap
  fp : ∀ b ∈ fp, FpOk X pins H b
section
variable {pins : List (Addr × Obj)} {fp : List Addr} {tn : Nat → Heap → Prop} {J : It} {it : Addr} {i : Nat} {σ σ2 : SV} {H H2 : Hp} {s s1 s2 : Shared}
/-- they come back from a body that held them fast -/
theorem Idle.back (d : Idle X pins fp tn i σ H s) (T : Turn X.prog X.w X.K tg J fp it tn) (h1 : tn (i + 1) s1.heap) (I : Inv X (pins ++ pinsAt fp s1.heap) σ2 H2 s2) : Idle X pins fp tn (i + 1) σ2 H2 s2 := by
  have held : ∀ b ∈ fp, ∀ o, s1.heap.get? b = some o → s2.heap.get? b = some o ∧ H2 b = none := fun b hb o e => by
    have q := I.pin (b, o) (List.mem_append_right _ (List.mem_append_right _ (mem_pinsAt hb e)))
    exact ⟨q.1, q.2.1⟩
  refine ⟨I.unpinned, T.keep (i + 1) s1.heap s2.heap h1 fun b hb o e => (held b hb o e).1, fun b hb => ⟨?_, (d.fp b hb).2⟩⟩
  obtain ⟨o, e, _⟩ := T.obj (i + 1) s1.heap h1 b hb
  exact (held b hb o e).2
/-- the next item, its objects held fast from then on -/
theorem Idle.item (d : Idle X pins fp tn i σ H s) (T : Turn X.prog X.w X.K tg J fp it tn) (hc : X.calm = true) (go : J.go i H) :
    wpAny (model X.prog X.w) X.A (pyNext (.ref it)) (fun r s1 => ∃ u, r = some u ∧ wpAny (model X.prog X.w) X.A (letOwnedTupleGo tg (.ref it) u) (fun _ s2 => ∃ v H', J.yld i H v H' ∧ RelV v u ∧ tn (i + 1) s2.heap ∧ Inv X (pins ++ pinsAt fp s2.heap) σ H' s2) X.xe s1) X.xe s := by
  refine thn (T.item X rfl rfl rfl hc i pins s σ H X.xe d.inv d.fp d.at_ go) fun r s1 q => ?_
  obtain ⟨u, e, q⟩ := q
  refine ⟨u, e, thn q fun _ s2 q => ?_⟩
  obtain ⟨v, H', I', rv, y, t', fr⟩ := q
  exact ⟨v, H', y, rv, t', I'.pinned (fun b hb => ⟨fr b hb, (d.fp b hb).2⟩) (T.obj _ _ t')⟩
end
theorem wsp_for (hp : PassesOwn (model X.prog X.w) X.A X.env X.xe) (hc : X.calm = true) (hs : ∀ x, foldedSetIterable iter X.env x = pure x) {E : Ends} {σ : SV} {H : Hp} (h : Wi X tg iter σ H (tForP X tg body E σ)) : WsP X (.For tg iter body [] pos) E σ H := ⟨fun pins s I => by
  refine anyP_For (anyP_of (thn (h.r pins s I) fun v s1 h1 => anyP_of (thn h1 fun itv s2 h2 => ?_))) hs
  obtain ⟨it, fp, tn, J, H2, rfl, I2, T, t0, f2, W, ⟨m0, w0⟩, turn⟩ := h2
  refine codeP_for (fun m s' => ∃ i σ' H', Idle X pins fp tn i σ' H' s' ∧ W i m σ' H') (fun m s3 hJ => ⟨?_⟩) m0 ⟨0, σ, H2, ⟨I2, t0, f2⟩, w0⟩
  obtain ⟨i, σ3, H3, d, w3⟩ := hJ
  rcases turn i m σ3 H3 w3 with ⟨stop, nx⟩ | ⟨go, N, less, step⟩
  · refine wpAny_passesOwn hp (thn (T.done X rfl rfl rfl hc i pins s3 σ3 H3 X.xe d.inv d.fp d.at_ stop) fun r s4 q => ?_)
    obtain ⟨rfl, I4⟩ := q
    exact ⟨σ3, H3, I4, nx⟩
  · refine wpAny_passesOwn hp (thn (d.item T hc go) fun r s4 q => ?_)
    obtain ⟨u, rfl, q⟩ := q
    refine wpAny_passesOwn hp (thn q fun _ s5 q => ?_)
    obtain ⟨v, H5, y, rv, t5, I5⟩ := q
    refine wpAny_passesOwn hp (thn ((step v H5 y).r _ s5 u I5 rv) fun _ s6 q => ?_)
    obtain ⟨σ6, H6, I6, b6⟩ := q
    have on : ∀ {σ7 : SV} {H7 : Hp} {s7 : Shared}, Inv X (pins ++ pinsAt fp s5.heap) σ7 H7 s7 → N σ7 H7 → ∃ k, k < m ∧ ∃ i σ' H', Idle X pins fp tn i σ' H' s7 ∧ W i k σ' H' := fun I7 n7 => by
      obtain ⟨k, hk, w7⟩ := less _ _ n7
      exact ⟨k, hk, i + 1, _, _, d.back T t5 I7, w7⟩
    refine anyP_passesOwn hp (anyP_mono (b6.r _ s6 I6) (fun f s7 q => ?_) fun _ _ z => z)
    cases f with
    | next => exact q.elim fun _ q => q.elim fun _ q => on q.1 q.2
    | cont => exact q.elim fun _ q => q.elim fun _ q => on q.1 q.2
    | brk => exact q.elim fun σ7 q => q.elim fun H7 q => ⟨σ7, H7, q.1.unpinned, q.2⟩
    | ret u => exact q.elim fun x7 q => q.elim fun σ7 q => q.elim fun H7 q => ⟨x7, σ7, H7, q.1.unpinned, q.2⟩⟩
theorem s1p_for (hpo : PassesOwn (model X.prog X.w) X.A X.env X.xe)
    (h : IW X O ρ tg iter x fun ds O1 => ∃ J : Nat → List Slot → Own → Prop, J 0 ρ O1 ∧
      (∀ i d ρ' O', J i ρ' O' → ds[i]? = some d → GW X O' ρ' tg (.dat d) x fun ρ2 O2 => SWP X O2 ρ2 body x { nx := J (i + 1), rt := D.rt, bk := D.nx, ct := J (i + 1) }) ∧
      ∀ ρ' O', J ds.length ρ' O' → D.nx ρ' O')
    (hc : X.calm = true := by rfl) (hs : ∀ x, foldedSetIterable iter X.env x = pure x := by intro _; rfl) : S1P X O ρ (.For tg iter body [] pos) x D := fun H0 σ H st tk E ok => by
  refine wsp_for hpo hc hs (h H0 σ H st tk _ fun J0 H1 ds O1 ⟨J, j0, js, je⟩ st1 it => ?_)
  have tkB := takes_base tk st1.base
  have okB := ok.base st1.base
  refine ⟨fun i m σ' H' => i + m = ds.length ∧ ∃ ρ' O', J i ρ' O' ∧ StOk X.K (hid O1 H1) O' σ' ρ' H', ⟨ds.length, by omega, ρ, O1, j0, st1.top⟩, fun i m σ' H' hW => ?_⟩
  obtain ⟨em, ρ', O', hj, st'⟩ := hW
  obtain ⟨i1, i2⟩ := it O' H' st'.own st'.base i
  cases hd : ds[i]? with
  | none =>
    have hi : ds.length ≤ i := List.getElem?_eq_none_iff.mp hd
    have ei : i = ds.length := by omega
    subst ei
    exact .inl ⟨i2 hd, okB.nx σ' ρ' O' H' (je ρ' O' hj) st'⟩
  | some d =>
    have hi : i < ds.length := (List.getElem?_eq_some_iff.mp hd).1
    obtain ⟨g1, g2⟩ := i1 d hd
    refine .inr ⟨g1, fun σ'' H'' => ∃ ρ'' O'', J (i + 1) ρ'' O'' ∧ StOk X.K (hid O1 H1) O'' σ'' ρ'' H'', fun σ'' H'' hN => ⟨m - 1, by omega, by omega, hN⟩, fun v H2 hy => ?_⟩
    obtain ⟨s1, r1⟩ := g2 v H2 hy
    refine js i d ρ' O' hj hd (hid O1 H1) σ' H2 v (st'.grow s1) r1 tkB _ fun σ3 H3 ρ3 O3 h3 st3 => ?_
    exact h3 (hid O1 H1) σ3 H3 st3 tkB _ ⟨fun σ4 ρ4 O4 H4 q s => ⟨ρ4, O4, q, s⟩, okB.rt, okB.nx, fun σ4 ρ4 O4 H4 q s => ⟨ρ4, O4, q, s⟩⟩
theorem s1p_forO (hpo : PassesOwn (model X.prog X.w) X.A X.env X.xe)
    (h : IWO X O ρ tg iter x fun p es ds O1 => ∃ J : Nat → List Slot → Own → Prop, J 0 ρ O1 ∧ (∀ i ρ' O', J i ρ' O' → O' p = some (.lst (es.map .dat))) ∧
      (∀ i d ρ' O', J i ρ' O' → ds[i]? = some d → GW X O' ρ' tg (.dat d) x fun ρ2 O2 => SWP X O2 ρ2 body x { nx := J (i + 1), rt := D.rt, bk := D.nx, ct := J (i + 1) }) ∧
      ∀ ρ' O', J ds.length ρ' O' → D.nx ρ' O')
    (hc : X.calm = true := by rfl) (hs : ∀ x, foldedSetIterable iter X.env x = pure x := by intro _; rfl) : S1P X O ρ (.For tg iter body [] pos) x D := fun H0 σ H st tk E ok => by
  refine wsp_for hpo hc hs (h H0 σ H st tk _ fun J0 H1 p es ds O1 ⟨J, j0, jo, js, je⟩ st1 it => ?_)
  have tkB := takes_base tk st1.base
  have okB := ok.base st1.base
  refine ⟨fun i m σ' H' => i + m = ds.length ∧ ∃ ρ' O', J i ρ' O' ∧ StOk X.K (hid O1 H1) O' σ' ρ' H', ⟨ds.length, by omega, ρ, O1, j0, st1.top⟩, fun i m σ' H' hW => ?_⟩
  obtain ⟨em, ρ', O', hj, st'⟩ := hW
  obtain ⟨i1, i2⟩ := it O' H' st'.own (jo i ρ' O' hj) i
  cases hd : ds[i]? with
  | none =>
    have hi : ds.length ≤ i := List.getElem?_eq_none_iff.mp hd
    obtain rfl : i = ds.length := by omega
    exact .inl ⟨i2 hd, okB.nx σ' ρ' O' H' (je ρ' O' hj) st'⟩
  | some d =>
    have hi : i < ds.length := (List.getElem?_eq_some_iff.mp hd).1
    obtain ⟨g1, g2⟩ := i1 d hd
    refine .inr ⟨g1, fun σ'' H'' => ∃ ρ'' O'', J (i + 1) ρ'' O'' ∧ StOk X.K (hid O1 H1) O'' σ'' ρ'' H'', fun σ'' H'' hN => ⟨m - 1, by omega, by omega, hN⟩, fun v H2 hy => ?_⟩
    obtain ⟨s1, r1⟩ := g2 v H2 hy
    refine js i d ρ' O' hj hd (hid O1 H1) σ' H2 v (st'.grow s1) r1 tkB _ fun σ3 H3 ρ3 O3 h3 st3 => ?_
    exact h3 (hid O1 H1) σ3 H3 st3 tkB _ ⟨fun σ4 ρ4 O4 H4 q s => ⟨ρ4, O4, q, s⟩, okB.rt, okB.nx, fun σ4 ρ4 O4 H4 q s => ⟨ρ4, O4, q, s⟩⟩
end
end Kn
namespace Kn
open PySem PySem.Spec PyProof.Rows
open L2 hiding St
section
variable {prog : Program} {w : World} {A : Around} {s : Shared} {R : Result → Shared → Prop}
theorem codeP_func {body : List Stmt} {env : Env} (h : wpAnyP (model prog w) (A.deeper env) (execs body env) (fun f s' => R (.ok (.ret (match f with | .ret v => v | _ => .none))) s')
      (fun e s' => wpAny (model prog w) (A.deeper env) (leaving env e) (fun _ s'' => R (.error e) s'') (fun e' s'' => R (.error e') s'') s') s) : codeAnyP (model prog w) A (.func body env) R s := by
  refine codeP_tree ?_
  show wpAnyP _ (A.deeper env) (point >>= fun _ => (execs body env).onRaise (leaving env) >>= fun f => match f with | .ret v => ret v | _ => ret .none) _ _ s
  refine anyP_bind0 (wpAny_point (anyP_bind (anyP_onRaise (anyP_mono h (fun f s' q => ?_) fun _ _ z => z))))
  cases f <;> exact anyP_pure q
theorem codeP_call_function {a : Addr} {args : Args} {o : Obj} {fd : FuncData} {body : List Stmt} (hroom : A.depth < recursionLimit) (ho : s.heap.get? a = some o) (hd' : o.data = .func fd) (hco : fd.scope.isCoroutine = false) (hgen : fd.scope.isGenerator = false) (hbody : fd.body = .stmts body)
    (hcd : s.heap.CodeRec fd.code fd.qualname)
    (h : wpAny (model prog w) A.in1 (bindArgs fd args) (fun binds s₁ => wpAny (model prog w) A.in1 (newFunctionEnv fd.scope fd.globals fd.closure binds (fd.qualname ++ ".<locals>.") (some a) fd.code none fd.builtins)
        (fun env s₂ => s₂.heap.NoLimit ∧ codeAnyP (model prog w) A (.func body env) R s₂) (fun e s' => R (.error e) s') s₁) (fun e s' => R (.error e) s') s) : codeAnyP (model prog w) A (.call (.ref a) args) R s := by
  refine codeP_tree (anyP_of ?_)
  show wpAny _ A.in1 (callAny (.ref a) args) _ _ s
  simp only [callAny]
  refine wpAny_bind (wpAny_load ho ?_)
  obtain ⟨c, oc, us, tq, hc, hoc, hdc, hq⟩ := hcd
  simp only [hd', callFunction, hco, hgen, hbody, hc]
  rw [hc] at h
  refine wpAny_bind (m := field (.ref c) 1) (wpAny_field hoc hdc hq (wpAny_bind (wpAny_pure (wpAny_bind (thn h fun binds s₁ h₁ => wpAny_bind (thn h₁ fun env s₂ h₂ => ?_))))))
  exact wpAny_bind (wpAny_enterFrame h₂.1 hroom (wpAny_pure ⟨rfl, h₂.2⟩))
end
structure FnP (P : Program) (w : World) (K : PySem.W.Frag) (mg : Str → Option Value) (base : Heap) (g : Bool) (k : Nat) (f : Addr) (fd : FuncData) (ps : List Str) (S : SpecT) : Prop where
  len : ∀ ss O R, S ss O R → ss.length = ps.length
  run : ∀ (A : Around) (outer : List Env) (s : Shared) (H : Hp) (args : Args) (us : List Value) (vs : List V) (Q : VK) (E : XK), RoomB g k A → Env0 P w K mg base A outer s H → BindsTo s fd args (ps.zip us) → Vals vs us → spS K S vs H Q E →
    codeAnyP (model P w) A (.call (.ref f) args) (CR (L2.CX P w) outer P w H s Q E) s
def CalP (P : Program) (w : World) (K : PySem.W.Frag) (mg : Str → Option Value) (base : Heap) (g : Bool) (k : Nat) (nm : Str) (S : SpecT) (df : List Dat) : Prop :=
  ∃ (f : Addr) (fd : FuncData) (ps : List Str) (ds : List Value) (dvs : List V), mg nm = some (.ref f) ∧ PySem.W.keepIn K (.ref f) = true ∧ FnP P w K mg base g k f fd ps S ∧ Binds K fd ps ds ∧ Vals dvs ds ∧ ∀ G, RpA K G dvs df
section
variable {P : Program} {w : World} {K : PySem.W.Frag} {mg : Str → Option Value} {base : Heap} {g : Bool} {k : Nat} {f : Addr} {fd : FuncData} {ps : List Str} {S : SpecT}
theorem fnp_mkX {x qual : Str} {st : Stmt} {N : List Str} (F : FunX K x qual st f fd) (Sc : FnScope N ps (defScope st)) (len : ∀ ss O R, S ss O R → ss.length = ps.length)
    (body : ∀ (cdv : Value) (A : Around) (outer : List Env) (s : Shared) (H : Hp) (E : XK) (ss : List Slot) (O : Own) (R : Out → Own → Prop), RoomB g k (cxOf (L2.CX P w) P w K mg base N qual (defScope st) f cdv A outer s H E).A →
      PassesOwn (model P w) (cxOf (L2.CX P w) P w K mg base N qual (defScope st) f cdv A outer s H E).A (cxOf (L2.CX P w) P w K mg base N qual (defScope st) f cdv A outer s H E).env (cxOf (L2.CX P w) P w K mg base N qual (defScope st) f cdv A outer s H E).xe → S ss O R →
      SWP (cxOf (L2.CX P w) P w K mg base N qual (defScope st) f cdv A outer s H E) O (startS N ss) (defBody st) (fun e _ O' => R (.exc e) O') { nx := fun _ O' => R (.ret (.dat .non)) O', rt := fun z O' => R (.ret z) O' }) :
    FnP P w K mg base g (k + 1) f fd ps S := by
  obtain ⟨oc, od, dV, kV, doc, pm, an, cdv, ct, osl, rfl, lk, hcd⟩ := F
  refine ⟨len, fun A outer s H args us vs Q E hr e0 hb r hsp => ?_⟩
  obtain ⟨O, ss, R, own, pr, hS, hret, herr⟩ := hsp
  have hl : vs.length = ps.length := (paired_len pr).trans (len _ _ _ hS)
  have KX : K.In s.heap := e0.mod.kin.keeps fun b o e => (e0.bs b o e).1
  have lim : s.heap.NoLimit := e0.mod.nolimit.keeps fun b o e => (e0.bs b o e).1
  have hkind : ∀ y ∈ ps.zip us, (defScope st).names.lookup y.1 = some .local ∨ ((defScope st).names.lookup y.1 = some .cell ∧ ((cellsFrom (s.heap.objs.size + 1) (defScope st).names []).lookup y.1).isSome = true) := fun y hy => by
    rcases Sc.par y.1 (List.of_mem_zip (show (y.1, y.2) ∈ ps.zip us from hy)).1 with q | q
    · exact .inl q
    · exact .inr ⟨q, PySem.W.cellsFrom_some _ _ _ (.inl q)⟩
  refine codeP_call_function hr.r.depth (KX _ _ lk) rfl Sc.co Sc.gen rfl (PySem.W.codeRec_of KX hcd) (hb _ _ _ _ ?_)
  refine wpAny_newFunctionEnv_cells Sc.kind hkind fun env he s1 hin => ?_
  subst he
  refine ⟨lim.keeps hin.toInCall.keep, codeP_func ?_⟩
  have I := inv_start (CX := L2.CX P w) (E := E) Sc hr.r.hd e0 hl r hin
  have hrD : RoomB g k (cxOf (L2.CX P w) P w K mg base N qual (defScope st) f cdv A outer s H E).A := roomB_deeper hr _
  have hpo : PassesOwn (model P w) (cxOf (L2.CX P w) P w K mg base N qual (defScope st) f cdv A outer s H E).A (cxOf (L2.CX P w) P w K mg base N qual (defScope st) f cdv A outer s H E).env (cxOf (L2.CX P w) P w K mg base N qual (defScope st) f cdv A outer s H E).xe :=
    passes_of (X := cxOf (L2.CX P w) P w K mg base N qual (defScope st) f cdv A outer s H E) rfl
  have hst : StOk K (hid O H) O (L2.start N vs) (startS N ss) H := ⟨own, Same.refl _, start_env pr⟩
  have tk : Takes (cxOf (L2.CX P w) P w K mg base N qual (defScope st) f cdv A outer s H E) (Wsem K (hid O H) fun e _ O' => R (.exc e) O') :=
    (takes_of (X := cxOf (L2.CX P w) P w K mg base N qual (defScope st) f cdv A outer s H E) rfl rfl rfl rfl).imp fun cls d σ' H' ⟨e, ρ', O', h1, h2, h3⟩ => herr cls d e H' O' h1 h2.own h2.base h3
  have main := (body cdv A outer s H E ss O R hrD hpo hS (hid O H) (L2.start N vs) H hst tk { nx := fun _ H' => Q .non H', rt := Q }
    ⟨fun σ' ρ' O' H' h1 h2 => hret .non H' _ O' h1 h2.own h2.base .non, fun v z O' H' h1 h2 h3 h4 => hret v H' z O' h1 h2 h3 h4, fun _ _ _ _ h _ => h.elim, fun _ _ _ _ h _ => h.elim⟩).r [] s1 I
  refine anyP_mono main (fun fl s' hs => ?_) fun e s' hs => hs
  have fin : ∀ {σ' : SV} {H' : Hp} {v : V} {u : Value}, L2.Inv (cxOf (L2.CX P w) P w K mg base N qual (defScope st) f cdv A outer s H E) [] σ' H' s' → RelV v u → Q v H' → CE outer P w H s Q u s' :=
    fun {σ' H' v u} J rv q => ⟨v, H', J.os, J.bare, J.base, J.hok, rv, q⟩
  cases fl with
  | ret u =>
    obtain ⟨v, σ', H', J, rv, q⟩ := hs
    exact fin J rv q
  | next =>
    obtain ⟨σ', H', J, q⟩ := hs
    exact fin (v := V.non) (u := Value.none) J rfl q
  | brk =>
    obtain ⟨_, _, _, q⟩ := hs
    exact False.elim q
  | cont =>
    obtain ⟨_, _, _, q⟩ := hs
    exact False.elim q
end
section
variable {X : Cx} {O : Own} {ρ : List Slot} {x : ExK} {k : Slot → Own → Prop} {e : Expr} {es : List Expr} {pos p : Pos} {g g' : Bool} {j n : Nat} {S : SpecT} {df : List Dat}
theorem run_callP {f : Addr} {fd : FuncData} {ps : List Str} {ds : List Value} {dvs vs : List V} {us : List Value} {ss : List Slot} {pins : List (Addr × Obj)} {s : Shared} {σ : SV} {H0 H : Hp} {Q : VK}
    (F : FnP X.prog X.w X.K X.mg X.base g n f fd ps S) (hr : RoomB g n X.A) (hb : Binds X.K fd ps ds) (hd : Vals dvs ds) (hdf : ∀ G, RpA X.K G dvs df) (I : Inv X pins σ H s) (st : StOk X.K H0 O σ ρ H) (tk : Takes X (Wsem X.K H0 x)) (rv : Vals vs us)
    (pr : Paired (SlOk X.K (hid O H)) vs ss) (hS : S (ss ++ df.map .dat) O (kOut x ρ k)) (q : ∀ v H' s O', k s O' → StOk X.K H0 O' σ ρ H' → SlOk X.K (hid O' H') v s → Q v H') :
    wpAnyP (model X.prog X.w) X.A (call (.ref f) us) (EP X pins σ Q) X.xe s := by
  have r2 : Vals (vs ++ dvs) (us ++ ds) := rv.append hd
  have sp : spS X.K S (vs ++ dvs) H Q (fun cls d H' => Wsem X.K H0 x cls d σ H') := ⟨O, ss ++ df.map .dat, kOut x ρ k, st.own, paired_app pr (hdf _).paired, hS,
    fun v H' s' O' h1 h2 h3 h4 => q v H' s' O' h1 (st.next h2 h3) h4, fun cls d e H' O' h1 h2 h3 h4 => ⟨e, ρ, O', h1, st.next h2 h3, h4⟩⟩
  have hl : (us ++ ds).length = ps.length := by rw [← r2.length]; exact spS_len F.len _ _ _ _ sp
  refine anyP_call (codeP_mono (F.run X.A X.stack s H ⟨us, []⟩ (us ++ ds) (vs ++ dvs) Q _ hr I.env0 (hb s us I.kIn hl) r2 sp) fun r s' hq => ?_)
  cases r with
  | error e => exact tk e s' (XE.of_call I (fun _ _ _ h => h) hq)
  | ok fl =>
    cases fl with
    | ret u => exact I.after hq
    | next => exact False.elim hq
    | brk => exact False.elim hq
    | cont => exact False.elim hq
theorem ewp_call {nm : Str} (cl : CalP X.prog X.w X.K X.mg X.base g n nm S df) (hr : RoomB g' j X.A) (h : AW X O ρ (e :: es) x fun ss O1 => S (ss ++ df.map .dat) O1 (kOut x ρ k)) (hj : n ≤ j := by decide) (hgg : g = true → g' = true := by first | exact fun _ => rfl | exact fun h => h | exact fun h => nomatch h)
    (hg : Gl X nm := by rfl) (hdb : (nm == ("__debug__" : Str)) = false := by decide) (he : starEach (e :: es) X.env = (false, eval e X.env) :: starEach es X.env := by rfl) (hpl : (backTo pos (starEach es X.env)).any (·.1) = false := by rfl) :
    EWP X O ρ (.Call (.Name nm p) (e :: es) [] pos) x k := fun H0 σ H st tk Q q => ⟨fun pins s I => by
  obtain ⟨f, fd, ps, ds, dvs, hm, hk, F, hb, hd, hdf⟩ := cl
  rw [arm_eval_Call_Name']
  refine anyP_bind0 (ld_glob I hg hm ?_ hdb)
  rw [he]
  refine anyP_callWith (by show ((false || (backTo pos (starEach es X.env)).any (·.1)) || false) = false; rw [hpl]; rfl) (PySem.W.keeps_K hk) (anyP_of (PySem.Calls.evalArgs_plain ?_))
  have a := (pa_w (es := e :: es)).run pos pins s σ H (fun vs H1 => ∃ ss O1, StOk X.K H0 O1 σ ρ H1 ∧ Paired (SlOk X.K (hid O1 H1)) vs ss ∧ S (ss ++ df.map .dat) O1 (kOut x ρ k)) I (h H0 σ H st tk _ fun vs H1 ss O1 h1 st1 r1 => ⟨ss, O1, st1, r1, h1⟩)
  rw [he] at a
  refine thn a fun us s1 hq => ?_
  obtain ⟨vs, H1, I1, rv, ss, O1, st1, pr, hS⟩ := hq
  exact ⟨I1.kIn, run_callP F (hr.mono hj hgg) hb hd hdf I1 st1 tk rv pr hS q⟩⟩
end
end Kn
namespace Kn
open PySem PySem.Spec PyProof.Rows
open L2 hiding St
theorem un_grow {fs ex : List Addr} {H H' : Hp} {h0 h h' : Heap} (u : L2.Un fs ex H H' h h') (k : ∀ b o, h0.get? b = some o → h.get? b = some o) : L2.Un fs ex H H' h0 h' :=
  ⟨fun b o e => u.keep b o (k b o e), fun b o e => u.slot b o (k b o e), fun b o e => u.free b o (k b o e), fun b o e => u.there b o (k b o e), u.tups, u.frzs, u.tbls⟩
section
variable {X : Cx} {N ps : List Str} {qual nm m cn : Str} {st : Stmt} {f C : Addr} {fd : FuncData}
variable {τ : Type} {kids : τ → List τ} {rep d1 d2 : τ → Dat} {ok : τ → Prop} {hgt : τ → Nat} {evs : τ → List Dat} {e1 it o' e2 : Expr} {y1 p1 q0 q1 q2 y2 p2 p3 y3 p4 : Pos}
theorem pmapR {α β γ : Type} {F : α → β → Prop} {F' : α → γ → Prop} {g : β → γ} (e : ∀ a b, F a b → F' a (g b)) : ∀ {xs : List α} {ys : List β}, Paired F xs ys → Paired F' xs (ys.map g)
  | _, _, .nil => .nil
  | _, _, .cons h t => .cons (e _ _ h) (pmapR e t)
/-- the generator of t, made by X's text, and the list that takes all of it -/
theorem list_down (T : Descends X.prog X.w X.K X.mg X.base N ps qual nm m cn st f C fd kids rep d1 d2 ok hgt evs e1 it o' e2 y1 p1 q0 q1 q2 y2 p2 p3 y3 p4) {t : τ} (ht : ok t) {kk a n : Nat} (hk : hgt t + 1 ≤ kk) (hr : Room (kk + 1) X.A) (hz : (evs t).length ≤ sizeLine)
    {pins : List (Addr × Obj)} {s1 s2 : Shared} {σ : SV} {H0 H1 : Hp} {O1 : Own} {ρ : List Slot} {v : V} (I1 : Inv X pins σ H1 s1) (st1 : StOk X.K H0 O1 σ ρ H1) (rv : Rp X.K (hid O1 H1) v (rep t))
    (Fr : FreshG (gnAt X N qual (defScope st) f fd s1.heap.objs.size) (defBody st) X.stack (L2.start N [v]) H1 a n s1 s2) {k : Slot → Own → Prop} (hq : ∀ p, O1 p = none → k (.own p) (up O1 p (.lst ((evs t).map .dat)))) {Q : VK}
    (q : ∀ v H' s O', k s O' → StOk X.K H0 O' σ ρ H' → SlOk X.K (hid O' H') v s → Q v H') : wpAnyP (model X.prog X.w) X.A (call (.type "list") [.ref a]) (EP X pins σ Q) X.xe s2 := by
  have hd : X.A.handled = none := hr.hd
  have hf : X.A.frames = some X.stack := I1.ok.frames
  have own : s1.heap.objs.size < a := Fr.own
  have aS : a < s2.heap.objs.size := by
    obtain ⟨ob, _, _, e, _⟩ := Fr.gen
    exact Heap.lt_size e
  have lS : s1.heap.objs.size < s2.heap.objs.size := Nat.lt_trans own aS
  have fsl : ∀ b ∈ frs X.stack, b < s1.heap.objs.size := fun b hb => by
    obtain ⟨_, ob, ho, _⟩ := I1.stack.mem hb
    exact Heap.lt_size ho
  have bsz : X.base.objs.size ≤ s1.heap.objs.size := Nat.le_trans I1.ok.bsz I1.sz
  have W : Vols (GE X.prog X.w X.K X.mg X.base N qual st f fd s1.heap.objs.size) X.stack [s2.heap.objs.size] a := by
    refine ⟨⟨own, fun z => absurd (fsl _ z) (Nat.not_lt.mpr (Nat.le_of_lt own)), fun z => ?_⟩, fun b hb => ?_, fsl, bsz, T.noc _⟩
    · rw [List.mem_singleton] at z
      exact absurd aS (by rw [z]; exact Nat.lt_irrefl _)
    · rw [List.mem_singleton] at hb
      subst hb
      exact ⟨Nat.ne_of_gt lS, fun z => absurd (fsl _ z) (Nat.not_lt.mpr (Nat.le_of_lt lS)), Nat.le_trans bsz (Nat.le_of_lt lS)⟩
  have free : ∀ b ∈ [a, s2.heap.objs.size], H1 b = none := fun b hb => by
    rcases List.mem_cons.mp hb with rfl | hb
    · exact Fr.free
    · rw [List.mem_singleton.mp hb]
      exact I1.hok.fresh (Nat.le_of_lt lS)
  refine call_list_P Fr.gen fun t' eg eo eL kp sz => ?_
  obtain ⟨c0, eL⟩ := eL
  have bare' : AllBare t'.gens := by rw [eg]; exact Fr.bare
  have kp1 : ∀ b ob, s1.heap.get? b = some ob → t'.heap.get? b = some ob := fun b ob e => kp b ob (Fr.kp b ob e)
  obtain ⟨sx, Hx, J⟩ := Fr.inv
  have J1 := J X.A s2.gens hd hf Fr.bare
  have J2 := J1.call' (s' := t') (ch := []) eo (Un.kept kp) (J1.hok.kept kp) bare' fun _ z => nomatch z
  have Nw : New (GE X.prog X.w X.K X.mg X.base N qual st f fd s1.heap.objs.size) (defBody st) X.stack [s2.heap.objs.size] a n O1 (rep t) H1 t' :=
    ⟨by rw [eg]; exact Fr.at_, by rw [eg]; exact Fr.num, ⟨v, Slp.of (g := GE X.prog X.w X.K X.mg X.base N qual st f fd s1.heap.objs.size) J2 W, rv⟩, st1.own, W, free⟩
  have R := rdy_down T (hgt t) t (Nat.le_refl _) ht kk hk _ _ _ _ _ H1 t' Nw
  have V : VarS [s2.heap.objs.size] a n t' t' := ⟨rfl, rfl, fun _ _ => rfl, fun _ y _ e => bare' y (Array.mem_of_getElem? e), fun _ _ => rfl, GenS.of (Fr.gen.keeps kp), fun b hb => by
    rw [List.mem_singleton.mp hb]
    exact ⟨_, eL, fun y z => by cases z⟩⟩
  have hL : s1.heap.objs.size ≤ t'.heap.objs.size := by rw [sz]; exact Nat.le_succ_of_le (Nat.le_of_lt lS)
  have cutI : ∀ b ob, (cutH t'.heap s1.heap.objs.size).get? b = some ob → t'.heap.get? b = some ob := fun b ob e => (cut_lt e).2
  have k1 : ∀ b ob, s1.heap.get? b = some ob → (cutH t'.heap s1.heap.objs.size).get? b = some ob := fun b ob e => by
    rw [cut_get (Heap.lt_size e)]
    exact kp1 b ob e
  have nl : ∀ H' h', L2.Un (frs X.stack) [] H1 H' (cutH t'.heap s1.heap.objs.size) h' → h'.NoLimit := fun H' h' u => I1.ok.mod.nolimit.keeps fun b ob e => by
    obtain ⟨z1, z2⟩ := I1.env0.bs b ob e
    refine u.keep b ob (k1 b ob z1) z2 (fun z => ?_) (fun z => nomatch z)
    rcases I1.ok.stk with q1 | ⟨q1, q2⟩
    · rw [q1] at z
      exact I1.ok.nofr e z
    · rw [q1] at z
      unfold frs at z
      rw [List.filterMap_cons, q2] at z
      rcases List.mem_cons.mp z with q3 | q3
      · exact absurd (Nat.lt_of_lt_of_le (Heap.lt_size e) (Nat.le_trans I1.ok.bsz I1.ok.above)) (by rw [q3]; exact Nat.lt_irrefl _)
      · exact I1.ok.nofr e q3
  refine codeP_mono (drain_P (g := GE X.prog X.w X.K X.mg X.base N qual st f fd s1.heap.objs.size) (A := X.A.in1) (ss := t') (k := kk) List.mem_cons_self W (Nat.le_of_lt lS) hL ⟨hd, by have := hr.dp; show X.A.depth + 3 * kk + 5 < _; omega, by have := hr.un; show X.A.units + 1 + 1 + 1 + 16 * kk + 200 < _; omega⟩ hf nl
    (evs t) (evs t) H1 t' t' [] #[] c0 [] rfl hz R V free eL .nil .nil (Un.kept cutI) (I1.hok.kept kp1) st1.own (Same.refl _) rfl) fun r t2 z => ?_
  cases r with
  | error e => exact z.elim
  | ok fl =>
    cases fl with
    | next => exact z.elim
    | brk => exact z.elim
    | cont => exact z.elim
    | ret u =>
      obtain ⟨rfl, D⟩ := z
      refine ⟨rfl, ?_⟩
      obtain ⟨H', xs, acc, c, e, vals, pr, un, hok, own', same, hn⟩ := D.ex
      have st2 : StOk X.K H0 O1 σ ρ H' := st1.next own' same
      have hl : xs.length ≤ sizeLine := by rw [paired_len pr]; exact hz
      have I2 := I1.drained (Nat.le_of_lt lS) hl e vals ExOk.nil (D.os.trans (eo.trans Fr.os)) D.bare (un_grow un k1) hok hn
      refine ⟨.ref s2.heap.objs.size, upd H' s2.heap.objs.size (.lst xs), I2, rfl, q _ _ _ _ (hq _ (own_free own' hn)) (st2.alloc hn ⟨xs, rfl, ?_⟩) rfl⟩
      exact pmapR (F' := SlOk X.K (hid O1 H')) (g := Slot.dat) (fun _ _ z => z) pr
/-- list(o.m()) -/
theorem ewp_list {kk : Nat} {x : ExK} {k : Slot → Own → Prop} {O : Own} {ρ : List Slot} {o : Expr} {ap pp pos p : Pos} {pl : Sem Bool} (T : Descends X.prog X.w X.K X.mg X.base N ps qual nm m cn st f C fd kids rep d1 d2 ok hgt evs e1 it o' e2 y1 p1 q0 q1 q2 y2 p2 p3 y3 p4) (hr : Room (kk + 1) X.A) (hm : X.mg "list" = none)
    (h : EW X O ρ o x fun s O1 => ∃ t, s = .dat (rep t) ∧ ok t ∧ hgt t + 1 ≤ kk ∧ (evs t).length ≤ sizeLine ∧ ∀ p, O1 p = none → k (.own p) (up O1 p (.lst ((evs t).map .dat))))
    (ht : eval (.Call (.Attribute o m ap) [] [] pp) X.env = (do
      let ov ← eval o X.env
      standAt ap.atName
      let (f1, first) ← holding [ov] (getMethod ov m pl)
      callWith pp f1 first (backTo pp (starEach [] X.env)) (backToKw pp (keywordEach [] X.env))) := by rfl)
    (hg : Gl X "list" := by rfl) (hs : backTo pos (starEach [.Call (.Attribute o m ap) [] [] pp] X.env) = [(false, eval (.Call (.Attribute o m ap) [] [] pp) X.env)] := by rfl) :
    EWP X O ρ (.Call (.Name "list" p) [.Call (.Attribute o m ap) [] [] pp] [] pos) x k := fun H0 σ H st0 tk Q q => ⟨fun pins s I => by
  rw [arm_eval_Call_Name']
  refine anyP_bind0 (ld_blt I hg hm bt_list ?_)
  refine anyP_callWith (Pr := fun _ => True) (by rw [hs]; rfl) (keeps_plain fun a => by intro z; cases z) ?_
  rw [hs]
  refine anyP_one (anyP_of (PySem.W.methodCall_KW (pl := pl) (thn ((h H0 σ H st0 tk (fun v H1 => ∃ t O1, ok t ∧ hgt t + 1 ≤ kk ∧ (evs t).length ≤ sizeLine ∧ (∀ p, O1 p = none → k (.own p) (up O1 p (.lst ((evs t).map .dat)))) ∧ StOk X.K H0 O1 σ ρ H1 ∧ Rp X.K (hid O1 H1) v (rep t)) fun v H1 z O1 ⟨t, e1, h1, h2, h3, h4⟩ st1 r1 => by
    subst e1
    exact ⟨t, O1, h1, h2, h3, h4, st1, r1⟩).r pins s I) fun u s1 hq => ?_) ht))
  obtain ⟨v, H1, I1, rv, t, O1, h1, h2, h3, h4, st1, r1⟩ := hq
  obtain ⟨b, dx, fs, rfl, hHa, hl⟩ := ins_at (T.ins O1 t h1) st1 r1
  obtain rfl : u = .ref b := rv
  refine getmeth_ok I1 hHa T.cls T.met hl ?_
  refine PySem.W.callWith_K0 (first := [.ref b]) I1.kIn T.met.kp ?_
  have bt := T.bd s1 [.ref b] I1.kIn (by rw [List.append_nil]; exact T.ps1.symm)
  rw [List.append_nil] at bt
  refine wpAny_call (codeAny_mono (gen_made (X := X) T.fn T.sc hr.hd (by have := hr.dp; omega) I1.env0 bt (vs := [.ref b]) (.cons (show L2.RelV (.ref b) (.ref b) from rfl) .nil) T.ps1.symm) fun r t2 q2 => ?_)
  obtain ⟨a', n', rfl, Fr⟩ := q2
  exact ⟨trivial, list_down T h1 h2 hr h3 I1 st1 r1 Fr h4 q⟩⟩
end
end Kn
namespace Kn
open PySem PySem.Spec PyProof.Rows
open L2 hiding St
/-- what the claim's caller does, to its end -/
theorem caller_ends {P : Program} {w : World} {t : Sem PySem.Fin} {s : Shared} {v : Value} {R : Shared → Prop} (z : s.asleep)
    (h : wpAnyP (model P w) callerA t (fun fin s' => fin = .done (.ret v) ∧ R s' ∧ AllBare s'.gens) (fun _ _ => False) s) :
    ∃ n σ' s', PySem.runN (denote table) P w n s ⟨t, .builtin "claim.caller" {}, default, []⟩ = .halted (.done (.ret v)) σ' ∧ schedN (denote table) P w n (.single s ⟨t, .builtin "claim.caller" {}, default, []⟩) = .halted (.done (.ret v)) σ' ∧ σ'.forget = s'.forget ∧ R s' := by
  have ft : PySem.Ctx.Fits (⟨.builtin "claim.caller" {}, none, none, [], none⟩ : PySem.Ctx) [] := ⟨rfl, rfl, rfl, rfl⟩
  obtain ⟨s', p', lf, go, r⟩ := wpP_go ft t (h _ default caller_in)
  rcases r with ⟨a, rfl, rfl, hR, bare⟩ | ⟨e, _, z⟩
  · obtain ⟨n, σ', h1, h2, h3⟩ := go_ends (r := .ok (.ret v)) go z (leftWithCleanup_false_of_bare bare)
    exact ⟨n, σ', s', h1, h2, h3, hR⟩
  · exact z.elim
open PySem.W PySem.Calls
/-- what a law that keeps its word leaves behind -/
structure Kept (sh s' : Shared) : Prop where
  old : OldK sh.heap s'.heap
  os : s'.os = sh.os
  bare : AllBare s'.gens
/-- the law's def says True of each script, wherever it is called from -/
def Keeps (l : OpenLaw) (q : Program) (loose : List Str) (XP : (Str → Option Value) → Heap → Prop) (YP : World → Heap → Prop) (d : DefRec) (n : Nat) : Prop :=
  ∀ (w : World) (st sh : Shared) (mg mb : Str → Option Value) (f a : Addr) (o : Obj) (pm cd doc : Value) (us : List Value) (is : List Int), Ground q loose [] XP w st mg mb sh.heap → YP w sh.heap →
    mg d.name = some (.ref f) ∧ sh.heap.get? f = some o ∧ o.data = .func (docDef d.name d.params d.body d.scope pm cd doc) ∧ sh.heap.CodeRec cd d.name →
    sh.heap.get? a = some { cls := .type "list", data := .seq us.toArray } ∧ IntsAre us is ∧ is.length ≤ n → sh.gens = #[] →
    codeAnyP (model l.prog w) callerA (.call (.ref f) ⟨[.ref a], []⟩) (fun r s' => r = .ok (.ret (.bool true)) ∧ Kept sh s') sh
section
variable {l : OpenLaw} {q : Program} {loose : List Str} {XP : (Str → Option Value) → Heap → Prop} {YP : World → Heap → Prop} {d : DefRec} {n : Nat} {w : World} {st sh : Shared}
/-- the script is laid -/
theorem script_laid {args : List WData} {ord : List DictEntry → List DictEntry} {mg mb : Str → Option Value} (G : Ground q loose [] XP w st mg mb st.heap) (g0 : st.gens = #[]) (pre : l.row.toRowW.claim.pre args = true) (lay : WData.layableAll args = true) (perm : ∀ l, (ord l).Perm l) :
    ∃ vals sh as, layAllW [] (classAt st.heap) w.params ord args st = some (vals, sh) ∧ Laid [] w st sh args vals as ∧ sh.heap.life = st.heap.life := by
  obtain ⟨⟨vals, sh⟩, e⟩ := Option.isSome_iff_exists.mp (layAllW_isSome (P := w.params) (ord := ord) G.has args [.list .int] st (pre_splitW pre).1)
  obtain ⟨as, r, within, there⟩ := reads_layAllW perm args st (vals, sh) e lay sh.heap fun b o z => z
  have rest := layAllW_rest args st (vals, sh) e
  exact ⟨vals, sh, as, e, ⟨⟨ord, perm, e⟩, r, within, there, layAllW_keeps args st (vals, sh) e, rest.1.trans g0, rest.2.2.1⟩, rest.2.2.2⟩
/-- the caller's text, to its end -/
theorem law_called {args : List WData} {vals : List Value} {as : List Addr} {mg mb : Str → Option Value} (K : Keeps l q loose XP YP d n) (G : Ground q loose [] XP w st mg mb sh.heap) (y : YP w sh.heap) (hdef : defOf q l.row.name = some (d, [])) (hdf : d.params.defaults = []) (hn : l.most = some n)
    (z : sh.asleep) (pre : l.row.toRowW.claim.pre args = true) (L : Laid [] w st sh args vals as) :
    ∃ k σ' s', PySem.runN (denote table) l.prog w k sh (callStub l.row.name vals) = .halted (.done (.ret (.bool true))) σ' ∧ schedN (denote table) l.prog w k (.single sh (callStub l.row.name vals)) = .halted (.done (.ret (.bool true))) σ' ∧ σ'.forget = s'.forget ∧ Kept sh s' := by
  obtain ⟨f, o, pm, cd, doc, dV, kV, at_, g, data, code, dflt⟩ := G.fn hdef
  obtain rfl := Dflts.none dflt hdf
  obtain rfl := Dflts.noKw dflt
  obtain ⟨a, us, is, rfl, _, script⟩ := Att.script_of hn pre L.well
  have run := K w st sh mg mb f a o pm cd doc us is G y ⟨defOf_name hdef ▸ at_, g, fd_plain data, code⟩ script L.gens
  refine caller_ends z (anyP_bind0 (wpAny_nsGet G.T.g ?_))
  rw [at_]
  refine anyP_bind (anyP_call (codeP_mono run fun r s' k => ?_))
  rw [k.1]
  exact anyP_pure ⟨rfl, k.2, k.2.bare⟩
theorem law_heldP {Xt : Shared → Bool} {α : Type} {Yf : Shared → α} {Ya : World → α} {N : Nat} (left : LeftO l.row.prog q loose Xt Yf Ya N) (seen : ∀ w s, Yf s = Ya w → YP w s.heap) (lasts : ∀ w h h', YP w h → (∀ b o, h.get? b = some o → h'.get? b = some o) → YP w h')
    (xt : ∀ s, Xt s = true → XP (s.heap.nsMap mainGlobals) s.heap) (xl : ∀ mg h h', XP mg h → (∀ b o, h.get? b = some o → h'.get? b = some o) → XP mg h') (hdef : defOf q l.row.name = some (d, [])) (hp : l.row.prog.theDef l.row.name = some (d.params, d.body, d.scope))
    (hk : kwWritten? d.params.kwonlyargs d.params.kw_defaults = some []) (k1 : l.row.wellSaid = true) (hch : chainsOk q = true) (hop : opensWell l.row.prog = true) (hb : l.row.prog.bare) (hw : l.row.toRowW.promised) (hn : l.most = some n) (hdf : d.params.defaults = []) (K : Keeps l q loose XP YP d n) : l.row.Holds := by
  refine ⟨k1, hw, ⟨hb, hop, rfl⟩, hw.witness, fun w => ?_⟩
  obtain ⟨some_, all⟩ := left.behind xt hch w
  refine ⟨some_, fun s0 h0 => ?_⟩
  obtain ⟨sf, fence, gf, st, top, z, g0, ns, G, y⟩ := all s0 h0
  have g0 : st.gens = #[] := Array.eq_empty_of_size_eq_zero (by simpa using g0)
  refine ⟨sf, fence, gf, st, top, fun m hm => ?_, (fun x hx => nomatch (show x ∈ [] from hx)), (fun x hx => nomatch (show x ∈ [] from hx)), fun args pre lay ord perm => ?_⟩
  · rw [List.mem_singleton.mp hm]
    exact pinned_of_view ns G hdef hp hk
  obtain ⟨vals, sh, as, e, L, life⟩ := script_laid (l := l) G g0 pre lay perm
  obtain ⟨k, σ', s', run, sched, forget, kept⟩ := law_called K (G.keeps xl L.keeps) (lasts w _ _ (seen w st y) L.keeps) hdef hdf hn (Shared.asleep_of_life life z) pre L
  have good : GoodWG l.row.toRowW.claim (classAt st.heap) (ExcName.means st.heap) args sh (.ok (.ret (.bool true))) s' :=
    ⟨.inl ⟨.bool true, .bool true, [], rfl, fun _ => rfl, .bool true, Att.post_true l args, fun _ => ⟨List.Pairwise.nil, fun _ hm => (nomatch hm)⟩⟩, kept.old, kept.os, kept.bare⟩
  have ends := good.laid (c := l.row.toRowW.claim) rfl rfl (ident_freeW (r := l.row.toRowW) rfl rfl rfl) L
  have same := Shared.forget_eq forget
  refine ⟨vals, sh, e, k, _, σ', sched, .inl ?_, fun _ i x hx => ?_, fun _ => ⟨?_, (fun x hx => nomatch (show x ∈ [] from hx))⟩, ?_, Shared.rest_eq (same.2.2.2.1.trans ends.2.1)⟩
  · rcases ends.1.congr same.1 with ⟨v, ev, d1, d2, d3, d4, d5⟩ | ⟨_, _, _, bad, _⟩
    · cases ev
      exact ⟨_, rfl, d1, d2, d3, fun b o z _ => d4 b o z, d5⟩
    · cases bad
  · rw [g0] at hx
    simp at hx
  · rw [same.1]
    exact namesKept_of top ns _ L.keeps kept.old.old
  · rw [runN_life _ _ _ run, life]
end
end Kn
namespace Kn
open PySem PySem.Spec PyProof.Rows
open L2 hiding St
theorem fnp_at {P : Program} {w : World} {K : PySem.W.Frag} {mg : Str → Option Value} {base : Heap} {n : Nat} {fa a : Addr} {fd : FuncData} {x : Str} {ns : List Int} {s : Shared} {H : Hp}
    (F : FnP P w K mg base true n fa fd [x] LawS) (hr : RoomB true n callerA) (e0 : Env0 P w K mg base callerA [] s H) (hb : BindsTo s fd ⟨[.ref a], []⟩ [(x, .ref a)]) (hS : SqL K H a (ns.map V.int)) (hl : ns.length ≤ 63) :
    codeAnyP (model P w) callerA (.call (.ref fa) ⟨[.ref a], []⟩) (CR (L2.CX P w) [] P w H s (fun v _ => v = .bl true) fun _ _ _ => False) s := by
  refine F.run callerA [] s H ⟨[.ref a], []⟩ [.ref a] [.ref a] _ _ hr e0 hb (.cons rfl .nil) ?_
  refine ⟨noO, [.dat (.fro (ns.map .int))], fun o _ => o = .ret (.dat (.bl true)), ⟨fun p c hp => by cases hp⟩, .cons ?_ .nil, ⟨ns, rfl, hl, fun _ => rfl⟩, fun v H' z O' e1 _ _ r => ?_, fun cls d e H' O' e1 => ?_⟩
  · refine Rp.fro (xs := ns.map V.int) ?_ (ints_rp ns)
    rw [hid_no]; exact hS
  · cases e1
    cases r
    rfl
  · cases e1
/-- the law's def, called with the script -/
theorem run_lawP {P : Program} {w : World} {K : PySem.W.Frag} {mg mb : Str → Option Value} {n : Nat} {fa a : Addr} {fd : FuncData} {x : Str} {sh : Shared} {vs : List Value} {ns : List Int}
    (kin : K.In sh.heap) (glob : sh.heap.Ns mainGlobals mg) (blt : sh.heap.Ns builtinsNs mb) (bltE : ∀ y : Str, y ≠ "__name__" → mb y = bootBuiltins y) (lim : sh.heap.NoLimit) (gen : sh.gens = #[])
    (hobj : sh.heap.get? a = some { cls := .type "list", data := .seq vs.toArray }) (hint : IntsAre vs ns) (hlen : ns.length ≤ 63) (hr : RoomB true n callerA)
    (F : ∀ base : Heap, K.In base → base.Ns mainGlobals mg → FnP P w K mg base true n fa fd [x] LawS) (hbind : ∀ (s : Shared) (u : Value), BindsTo s fd ⟨[u], []⟩ [(x, u)]) :
    codeAnyP (model P w) callerA (.call (.ref fa) ⟨[.ref a], []⟩) (fun r s' => r = .ok (.ret (.bool true)) ∧ OldK sh.heap s'.heap ∧ s'.os = sh.os ∧ AllBare s'.gens) sh := by
  have vals := vals_ints hint
  have lenV := hint.length
  have small : ns.length ≤ sizeLine := Nat.le_trans hlen (by decide)
  -- H tells of the script alone, or of nothing
  suffices main : ∀ H : Hp, Only H → SqL K H a (ns.map V.int) → HOk P w H sh.heap → (∀ b, H b ≠ none → b = a) → (H a ≠ none → K.lookup a = none) →
      codeAnyP (model P w) callerA (.call (.ref fa) ⟨[.ref a], []⟩) (fun r s' => r = .ok (.ret (.bool true)) ∧ OldK sh.heap s'.heap ∧ s'.os = sh.os ∧ AllBare s'.gens) sh by
    by_cases hk : ∃ o, K.lookup a = some o
    · obtain ⟨o, hk⟩ := hk
      have eo := (kin a o hk).symm.trans hobj
      cases eo
      have frz : SqL K (fun _ => none) a (ns.map V.int) := .inr ⟨_, vs.toArray, _, hk, rfl, rfl, rfl, by rw [List.size_toArray, lenV]; exact small, by simpa using vals⟩
      exact main (fun _ => none) (fun _ => .inl rfl) frz (fun b u z => by
        have z' : (none : Option HO) = some u := z
        cases z') (fun b z => absurd rfl z) fun z => absurd rfl z
    · have hk : K.lookup a = none := by
        cases q : K.lookup a with
        | none => rfl
        | some o => exact absurd ⟨o, q⟩ hk
      let O1 : HO := .frz { cls := .type "list", data := .seq vs.toArray } (.lst (ns.map V.int))
      have at1 : ∀ b u, (if b = a then some O1 else none) = some u → b = a ∧ O1 = u := fun b u z => by
        by_cases q : b = a
        · rw [if_pos q] at z
          exact ⟨q, Option.some.inj z⟩
        · rw [if_neg q] at z
          cases z
      refine main (fun b => if b = a then some O1 else none) (fun b => ?_) (.inl (.inr ⟨_, if_pos rfl⟩)) (fun b u z => ?_) (fun b z => ?_) fun _ => hk
      · by_cases q : b = a
        · exact .inr ⟨_, _, if_pos q⟩
        · exact .inl (if_neg q)
      · obtain ⟨rfl, rfl⟩ := at1 b u z
        exact ⟨hobj, by rw [List.length_map]; exact small, vs, _, vals, hobj⟩
      · cases q : (if b = a then some O1 else none) with
        | none => exact absurd q z
        | some u => exact (at1 b u q).1
  intro H only hS hok isA notK
  -- the base: the heap without the script
  have at_base : ∀ {b : Addr} {o : Obj}, sh.heap.get? b = some o → H b = none → (hidT sh.heap H).get? b = some o := fun e z => hidT_get e z
  have dict_free : ∀ {b : Addr} {o : Obj} {es : Array DictEntry} {ep : Nat}, sh.heap.get? b = some o → o.data = .dict es ep → H b = none := fun {b o es ep} e d => by
    cases q : H b with
    | none => rfl
    | some u =>
      obtain rfl := isA b (by rw [q]; exact fun z => by cases z)
      have eo := e.symm.trans hobj
      cases eo
      have d : Data.seq vs.toArray _ = Data.dict es ep := d
      cases d
  have nsB : ∀ {b : Addr} {m : Str → Option Value}, sh.heap.Ns b m → (hidT sh.heap H).Ns b m := fun {b m} z => by
    obtain ⟨o, es, ep, e, d, r⟩ := z
    exact ⟨o, es, ep, at_base e (dict_free e d), d, r⟩
  have kinB : K.In (hidT sh.heap H) := fun b o e => at_base (kin b o e) (by
    cases q : H b with
    | none => rfl
    | some u =>
      obtain rfl := isA b (by rw [q]; exact fun z => by cases z)
      rw [notK (by rw [q]; exact fun z => by cases z)] at e
      cases e)
  have limB : (hidT sh.heap H).NoLimit := by
    obtain ⟨mc, h1, h2⟩ := lim
    exact ⟨mc, nsB h1, h2⟩
  have e0 : Env0 P w K mg (hidT sh.heap H) callerA [] sh H :=
    { frames := rfl, mod := ⟨kinB, nsB glob, ⟨mb, nsB blt, bltE⟩, limB⟩, bs := fun b o e => of_hidT e, bsz := Nat.le_of_eq (hidT_size _ _), funs := trivial, frf := fun b hb => absurd (show b ∈ ([] : List Addr) from hb) List.not_mem_nil, hok := hok, bare := .of_eq gen }
  refine codeP_mono (fnp_at (F _ kinB (nsB glob)) hr e0 (hbind sh (.ref a)) hS hlen) fun r s' h => ?_
  cases r with
  | error e =>
    have h : L2.CX P w [] H sh (fun _ _ _ => False) e s' := h
    obtain ⟨_, _, _, _, _, _, _, _, _, _, h⟩ := h
    exact False.elim h.2.2
  | ok fl =>
    cases fl with
    | next => exact False.elim h
    | brk => exact False.elim h
    | cont => exact False.elim h
    | ret u =>
      obtain ⟨v, H', os, bare, un, hok', rv, q⟩ := h
      have q : v = .bl true := q
      subst q
      obtain rfl : u = Value.bool true := rv
      refine ⟨rfl, OldK.of_keep fun b o e => ?_, os, bare⟩
      cases q : H b with
      | none => exact un.keep b o e q (fun z => absurd (show b ∈ ([] : List Addr) from z) List.not_mem_nil) (by simp)
      | some u =>
        rcases only b with z | ⟨ob, xs, z⟩
        · rw [q] at z; cases z
        · obtain ⟨e1, _⟩ := hok b _ z
          obtain ⟨e2, _⟩ := hok' b _ (un.frzs b ob _ z)
          cases e.symm.trans e1
          exact e2
open PySem.W in
/-- a law over the run of its head -/
theorem law_lookP {l : PySem.W.OpenLaw} {n : Nat} {q : Program} {loose : List Str} {d : DefRec} {x nm : Str} {st : Stmt} {Z : PySem.W.Frag → Prop} {lo len M : Nat} {Ls : List Look}
    (e : opening l.row.prog = PySem.W.plainProg l.row.prog.main.scope.names) (f : ∀ s, fenceModules? l.row.prog s = some s) (run : ∀ w, HandSHeadRun.RunEq l.row q (hookL lo len Ls) (obL lo len Ls) M loose w)
    (hdef : defOf q l.row.name = some (d, [])) (hp : l.row.prog.theDef l.row.name = some (d.params, d.body, d.scope)) (hk : kwWritten? d.params.kwonlyargs d.params.kw_defaults = some [])
    (k1 : l.row.wellSaid = true) (ok : (chainsOk q && opensWell l.row.prog) = true) (hb : l.row.prog.bare) (hw : l.row.toRowW.promised)
    (hn : l.most = some 63) (hdf : d.params.defaults = []) (hnm : d.name = nm) (hr : Room n callerA) (hg : callerA.guards = some []) (hz : ∀ K, (∀ L ∈ Ls, L.Holds K) → Z K) (hD : ∀ K, Z K → DefIn K nm st) (hbi : BindsAs nm st [x])
    (F : ∀ (w : World) (K : PySem.W.Frag) (mg : Str → Option Value) (f : Addr) (fd : FuncData), Z K → TopOf K mg → L2.Fun K nm nm st f fd → ∀ base : Heap, K.In base → FnP l.prog w K mg base true n f fd [x] LawS) : l.row.Holds := by
  obtain ⟨hch, hop⟩ := Bool.and_eq_true_iff.mp ok
  have left : LeftO l.row.prog q loose (fun s => xlAt q [] s && recOk l.row.toRowW.records s) (hookL lo len Ls).obs (hookL lo len Ls).val (M + 600) true :=
    HandSHeadRun.left_one (M := M) e (Nat.ble_eq_true_of_le (by omega)) f (Nat.ble_eq_true_of_le (by omega)) fun w os => by
      have z := run w os
      have eo : obL lo len Ls = fun s => (hookL lo len Ls).obs s.abs := funext fun s => obL_eq lo len Ls s
      rw [eo] at z
      simp only [HandSHeadRun.endQ_eq, HandSHeadRun.seenQ_eq]
      exact z
  refine law_heldP (XP := XL q []) (YP := (hookL lo len Ls).says) left (hookL lo len Ls).of (hookL lo len Ls).keeps (fun s z => xl_of s (Bool.and_eq_true_iff.mp z).1) XL.keeps hdef hp hk k1 hch hop hb hw hn hdf fun w s0 s1 mg mb fa a o pm cd doc vs ns G Y ⟨hmg, ho, hd, hcd⟩ ⟨hobj, hints, hlen⟩ hgen => ?_
  obtain ⟨K, kin, c⟩ := Y
  have T : TopOf K mg := ⟨_, kin, G.T.g⟩
  obtain ⟨f, fd, ha, hF⟩ := (hD K (hz K c)).ex
  rw [hnm] at hmg
  have e := hmg.symm.trans (T.is ha)
  cases e
  obtain ⟨oc, od, kV, doc', pm', an, cdv, ct, osl, rfl, _, _⟩ := id hF.ex
  refine codeP_mono (run_lawP kin G.T.g G.T.b G.T.builtins G.T.nolimit hgen hobj hints hlen ⟨hr, fun _ => hg⟩ (fun base kb nb => F w K mg fa _ (hz K c) T hF base kb) fun s u => .of_eq (hbi _ _ _ _ _ _ [u] rfl)) fun r s' ⟨z1, z2, z3, z4⟩ => ⟨z1, ⟨z2, z3, z4⟩⟩
end Kn
namespace Kn
open PySem PySem.Spec PyProof.Rows PySem.Calls
open L2 hiding St
section
variable {prog : Program} {w : World} {A : Around} {E : Value → Shared → Prop} {s : Shared}
theorem applied_back {sl : Addr} {vk : Value} {n : Nat} {Q : Int × Int × Nat → Shared → Prop} (hs : s.heap.IsSliceOf sl .none .none vk) (pk : IsPart vk (some (-1))) (h : Q ((n : Int) - 1, -1, n) s) :
    wpAny (model prog w) A (Builtin.Slice.sliceApplied (.ref sl) (pure (n : Int))) Q E s := by
  obtain ⟨o, g, _, d⟩ := id hs
  unfold Builtin.Slice.sliceApplied Builtin.Slice.sliceFields
  refine wpAny_bind (wpAny_bind (wpAny_field g d (x := .none) rfl (wpAny_bind (wpAny_field g d (x := .none) rfl (wpAny_bind (wpAny_field g d (x := vk) rfl (wpAny_pure ?_)))))))
  refine wpAny_bind (HT.slicePart_ pk ?_)
  show wpAny _ _ (if ((-1 : Int) == 0) = true then _ else _) _ _ s
  rw [if_neg (by decide)]
  refine wpAny_bind (HT.slicePart_ .none (wpAny_bind (HT.slicePart_ .none (wpAny_bind (wpAny_pure ?_)))))
  have a : Builtin.Slice.sliceAdjust none none (-1) (n : Int) = ((n : Int) - 1, -1) := by
    unfold Builtin.Slice.sliceAdjust
    simp
  have p : Builtin.Slice.slicePlaces ((n : Int) - 1) (-1) (-1) = n := by
    unfold Builtin.Slice.slicePlaces
    rw [if_neg (by decide), show (-(-1 : Int)) = 1 from rfl, Int.ediv_one]
    split <;> omega
  show wpAny _ _ (match Builtin.Slice.sliceAdjust none none (-1) (n : Int) with | (lo, hi) => pure (lo, (-1 : Int), Builtin.Slice.slicePlaces lo hi (-1))) _ _ s
  rw [a]
  show wpAny _ _ (pure ((n : Int) - 1, (-1 : Int), Builtin.Slice.slicePlaces ((n : Int) - 1) (-1) (-1))) _ _ s
  rw [p]
  exact wpAny_pure h
theorem fm_congr {α β : Type} {f g : α → Option β} : ∀ {l : List α}, (∀ a ∈ l, f a = g a) → l.filterMap f = l.filterMap g
  | [], _ => rfl
  | a :: l, h => by
    rw [List.filterMap_cons, List.filterMap_cons, h a List.mem_cons_self, fm_congr fun b hb => h b (List.mem_cons_of_mem _ hb)]
theorem pick_back (xs : Array Value) : ((List.range xs.size).filterMap fun (k : Nat) => xs[(((xs.size : Int) - 1) + (k : Int) * -1).toNat]?) = xs.toList.reverse := by
  have e : (List.range xs.size).filterMap (fun (k : Nat) => xs[(((xs.size : Int) - 1) + (k : Int) * -1).toNat]?) = ((List.range xs.size).map fun k => xs.size - 1 - k).filterMap (xs[·]?) := by
    rw [List.filterMap_map]
    refine fm_congr fun k hk => ?_
    have := List.mem_range.mp hk
    rw [show (((xs.size : Int) - 1) + (k : Int) * -1).toNat = xs.size - 1 - k by omega]
    rfl
  rw [e, PySem.W.krv_range, List.filterMap_reverse, PySem.W.krv_all]
theorem item_back {t sl : Addr} {xs : Array Value} {vk : Value} {Q : Value → Shared → Prop} (ht : s.heap.IsTuple t xs) (hs : s.heap.IsSliceOf sl .none .none vk) (pk : IsPart vk (some (-1)))
    (h : Q (.ref s.heap.objs.size) { s with heap := s.heap.push { cls := .type "tuple", data := .seq xs.toList.reverse.toArray } }) (hz : xs.size ≤ sizeLine) : wpAny (model prog w) A (getItem (.ref t) (.ref sl)) Q E s := by
  obtain ⟨o, g, cl, d⟩ := id hs
  have few : sizeOk (.seq xs.toList.reverse.toArray) := by
    show xs.toList.reverse.toArray.size ≤ sizeLine
    rw [List.size_toArray, List.length_reverse, Array.length_toList]
    exact hz
  have T : s.TypeIs (.ref sl) "slice" := ⟨o, g, cl⟩
  unfold getItem
  try with_reducible refine wpAny_holding ?_
  first | refine wpAny_bind (wpAny_pure ?_) | skip
  refine wpAny_bind (wpAny_sequenceKey ht.typeIs (by decide) ?_)
  refine wpAny_bind (wpAny_callSpecial?_slot (name := Str.ofString "__getitem__") ht.typeIs PyProof.Rows.slot_tuple_getitem (wpAny_call_entry PyProof.Rows.slot_tuple_getitem ht.typeIs entry_tuple_getitem ?_ (args_tuple_getitem _ _)))
  show wpAny _ _ (Builtin.Tuple.tupleItemsOf (.ref t) >>= _) _ _ s
  refine wpAny_bind (tupleItemsOf_ ht ?_)
  refine wpAny_bind (wpAny_typeOf T ?_)
  rw [if_pos (by decide)]
  refine wpAny_bind (applied_back hs pk ?_)
  show wpAny _ _ (if (((xs.size : Int) - 1) == 0 && (-1 : Int) == 1 && xs.size == xs.size) = true then _ else _) _ _ s
  rw [if_neg (by simp), pick_back]
  first
    | exact wpAny_bind (m := Builtin.Tuple.tupleExact _) (wpAny_newObj_type (wpAny_pure ⟨_, rfl, wpAny_pure h⟩) few)
    | exact wpAny_bind (wpAny_bind (m := Builtin.Tuple.tupleExact _) (wpAny_newObj_type (wpAny_pure (wpAny_pure ⟨_, rfl, wpAny_pure h⟩)) few))
    | exact wpAny_bind (wpAny_bind (m := Builtin.Tuple.tupleExact _) (wpAny_newObj_type (wpAny_pure ⟨_, rfl, wpAny_pure h⟩) few))
end
section
variable {X : Cx} {O : Own} {ρ : List Slot} {x : ExK} {k : Slot → Own → Prop} {e : Expr} {pos : Pos}
/-- the three parts of [::-1] -/
theorem parts_back {pins : List (Addr × Obj)} {s : Shared} {σ : SV} {H : Hp} {j : Nat} {p1 p2 : Pos} {R : Value → Value → Value → Shared → Prop} (I : Inv X pins σ H s) (q : ∀ vk s', Inv X pins σ H s' → IsPart vk (some (-1)) → R .none .none vk s') :
    wpAny (model X.prog X.w) X.A (evalPart none X.env) (fun a s1 => wpAny (model X.prog X.w) X.A (evalPart none X.env) (fun b s2 => wpAny (model X.prog X.w) X.A (evalPart (some (.UnaryOp .USub (.Constant (.int 1) j p1) p2)) X.env) (R a b) X.xe s2) X.xe s1) X.xe s := by
  have minus : PO X (some (.UnaryOp .USub (.Constant (.int 1) j p1) p2)) (tPart (tUn (rU fun i => .int (-i)) (tC (.int 1)))) := po_some (pe_un un_neg pe_int)
  have gone : ∀ {F : Value → Shared → Prop} {s' : Shared}, F .none s' → wpAny (model X.prog X.w) X.A (evalPart none X.env) F X.xe s' := fun h => wpAny_pure h
  refine gone (gone (wpAny_mono (minus.run pins s σ H (fun o H' => o = some (-1) ∧ H' = H) I ⟨1, rfl, -1, rfl, rfl, rfl⟩) (fun vk s' z => ?_) fun _ _ z => z))
  obtain ⟨o, H', I', pk, rfl, rfl⟩ := z
  exact q vk s' I' pk
/-- t[::-1] -/
theorem ew_revT {j : Nat} {p1 p2 p3 : Pos} (h : EW X O ρ e x fun s O1 => ∃ ds, s = .dat (.tup ds) ∧ k (.dat (.tup ds.reverse)) O1) : EW X O ρ (.Subscript e (.Slice none none (some (.UnaryOp .USub (.Constant (.int 1) j p1) p2)) p3) pos) x k := fun H0 σ H st tk Q q => ⟨fun pins s I => by
  have first := (h H0 σ H st tk (fun v H1 => ∃ a xs, v = .ref a ∧ SqT X.K H1 a xs ∧ ∀ p, H1 p = none → Q (.ref p) (upd H1 p (.tup xs.reverse))) fun v H1 z O1 ⟨ds, e1, h1⟩ st1 r1 => by
    subst e1
    cases r1 with
    | tup h2 h3 => exact ⟨_, _, rfl, sqt_mono hid_le h2, fun p hp => q _ _ _ O1 h1 (st1.grow (same_new hp)) (.tup (.inl (.inl (by rw [hid_none (own_free st1.own hp), upd_same]))) (RpA.mono (hid_same (same_new hp)) h3.reverse))⟩).r pins s I
  refine Subscript_ (wpAny_mono first (fun v s1 z => ?_) fun _ _ z => z)
  obtain ⟨_, H1, I1, r1, a, xs, rfl, hx, q⟩ := z
  cases r1
  refine wpAny_Slice (parts_back I1 fun vk s4 I4 pk => ?_)
  have I5 : Inv X pins σ H1 { s4 with heap := s4.heap.push { cls := .type "slice", data := .fields #[.none, .none, vk] } } := I4.kept (t' := s4.toks) fun b ob q => Heap.get?_push_of_some _ q
  obtain ⟨its, r, ht, hz⟩ := I5.tuple hx
  have few : its.toArray.size ≤ sizeLine := by
    have := r.length
    rw [List.size_toArray]
    omega
  show wpAny (model X.prog X.w) X.A (subscriptTail e (.Slice none none (some (.UnaryOp .USub (.Constant (.int 1) j p1) p2)) p3) (.ref a) (.ref s4.heap.objs.size)) (EP X pins σ Q) X.xe { s4 with heap := s4.heap.push { cls := .type "slice", data := .fields #[.none, .none, vk] } }
  refine tail_any (ops := [.ref a, .ref s4.heap.objs.size]) ht.typeIs (PyProof.Rows.slot_tuple_getitem.lookup) (item_back ht (Heap.IsSliceOf.new _ .none .none vk) pk ?_ few) (by with_unfolding_all rfl)
  refine ⟨.ref _, _, I5.laid (t' := s4.toks) (o := .tup xs.reverse) (fun b ob q => Heap.get?_push_of_some _ q) (Nat.le_refl _) ?_, rfl, q _ (I5.hok.fresh (Nat.le_refl _))⟩
  exact ⟨by rw [List.length_reverse]; exact hz, _, r.reverse, ⟨_, Heap.get?_push_size _ rfl, rfl, 0, rfl⟩⟩⟩
end
end Kn
namespace Kn
open PySem PySem.Spec PyProof.Rows
open L2 hiding St
section
variable {P : Program} {w : World} {K : PySem.W.Frag} {mg : Str → Option Value} {base : Heap} {g : Bool} {k : Nat} {f : Addr} {fd : FuncData} {ps : List Str} {S : SpecT}
theorem fnp_mk {x qual : Str} {st : Stmt} {N : List Str} (F : L2.Fun K x qual st f fd) (Sc : FnScope N ps (defScope st)) (len : ∀ ss O R, S ss O R → ss.length = ps.length)
    (body : ∀ (cdv : Value) (A : Around) (outer : List Env) (s : Shared) (H : Hp) (E : XK) (ss : List Slot) (O : Own) (R : Out → Own → Prop), RoomB g k (cxOf (L2.CX P w) P w K mg base N qual (defScope st) f cdv A outer s H E).A →
      PassesOwn (model P w) (cxOf (L2.CX P w) P w K mg base N qual (defScope st) f cdv A outer s H E).A (cxOf (L2.CX P w) P w K mg base N qual (defScope st) f cdv A outer s H E).env (cxOf (L2.CX P w) P w K mg base N qual (defScope st) f cdv A outer s H E).xe → S ss O R →
      SWP (cxOf (L2.CX P w) P w K mg base N qual (defScope st) f cdv A outer s H E) O (startS N ss) (defBody st) (fun e _ O' => R (.exc e) O') { nx := fun _ O' => R (.ret (.dat .non)) O', rt := fun z O' => R (.ret z) O' }) :
    FnP P w K mg base g (k + 1) f fd ps S := fnp_mkX (funX_of F) Sc len body
theorem calp_of {nm : Str} {st : Stmt} (T : TopOf K mg) (D : DefIn K nm st) (b : BindsAs nm st ps) (h : ∀ f fd, L2.Fun K nm nm st f fd → FnP P w K mg base g k f fd ps S) : CalP P w K mg base g k nm S [] := by
  obtain ⟨f, fd, a, F⟩ := D.ex
  exact ⟨f, fd, ps, [], [], T.is a, F.kp, h f fd F, F.binds b, .nil, fun _ => .nil⟩
end
section
variable {X : Cx} {O : Own} {ρ : List Slot} {x : ExK} {e : Expr} {pos p2 : Pos} {D : SD} {st : Stmt} {ss ss2 : List Stmt}
theorem swp_one0 (h : S1 X O ρ st x D) : SWP X O ρ [st] x D := swp_of (sw_one h)
/-- if not f(..): ..: where it is told True -/
theorem s1p_ifN (h : EWP X O ρ e x fun s O1 => s = .dat (.bl true) ∧ SWP X O1 ρ ss2 x D) (he : ∀ whole, isTrue e X.env whole = (do let v ← whole; standAt e.pos; holding [v] (truthy v)) := by intro _; rfl) : S1P X O ρ (.If (.UnaryOp .Not e p2) ss ss2 pos) x D :=
  s1p_if (twp_not (twp_val (fun H0 σ H so tk Q q => h H0 σ H so tk Q fun v H' s O' ⟨e1, h1⟩ st' r => q v H' s O' ⟨true, e1, by
    rw [if_neg (by decide)]
    exact h1⟩ st' r) he))
/-- the cell is given away at once -/
theorem ewp_frz {k : Slot → Own → Prop} (h : EWP X O ρ e x fun s O' => ∃ p ds, s = .own p ∧ O' p = some (.lst (ds.map .dat)) ∧ k (.dat (.lst ds)) (dn O' p)) : EWP X O ρ e x k := fun H0 σ H st tk Q q =>
  h H0 σ H st tk Q fun v H' s O' ⟨p, ds, e1, h1, h2⟩ st' r => by
    subst e1
    obtain rfl : v = .ref p := r
    exact q _ H' _ _ h2 st'.freeze (st'.own.lst h1)
theorem swp_drop (h : SWP X O ρ ss (drX x) { nx := drN D.nx, rt := drR D.rt, bk := drN D.bk, ct := drN D.ct }) : SWP X O ρ ss x D := fun H0 σ H st tk E ok =>
  h H0 σ H st (takes_dr tk) E ⟨fun σ ρ O H ⟨O', s, q⟩ z => ok.nx σ ρ O' H q (z.sub s), fun v z O H ⟨O', s, q⟩ o b r => ok.rt v z O' H q (o.sub s) (b.trans (hid_sub s)) (SlOk.mono (hid_sub s) r), fun σ ρ O H ⟨O', s, q⟩ z => ok.bk σ ρ O' H q (z.sub s), fun σ ρ O H ⟨O', s, q⟩ z => ok.ct σ ρ O' H q (z.sub s)⟩
end
end Kn
namespace Lw
open PySem PySem.Spec PyProof.Rows
open L2 hiding St
open Kn
abbrev N_Tree_init : List Str := ["self", "name", "mark", "children", "child", "node"]
theorem sc_Tree_init : FnScope ["self", "name", "mark", "children", "child", "node"] ["self", "name", "mark", "children"] (defScope s_Tree_init) := ⟨rfl, rfl, rfl, by decide +kernel, rfl, by decide +kernel, by decide +kernel⟩
theorem sc_Tree_len : FnScope ["self"] ["self"] (defScope s_Tree_len) := ⟨rfl, rfl, rfl, by decide +kernel, rfl, by decide +kernel, by decide +kernel⟩
theorem sc_Tree_iter : FnScope ["self"] ["self"] (defScope s_Tree_iter) := ⟨rfl, rfl, rfl, by decide +kernel, rfl, by decide +kernel, by decide +kernel⟩
theorem sc_Tree_eq : FnScope ["self", "other"] ["self", "other"] (defScope s_Tree_eq) := ⟨rfl, rfl, rfl, by decide +kernel, rfl, by decide +kernel, by decide +kernel⟩
theorem sc_Tree_str : FnScope ["self"] ["self"] (defScope s_Tree_str) := ⟨rfl, rfl, rfl, by decide +kernel, rfl, by decide +kernel, by decide +kernel⟩
abbrev N_Tree_events : List Str := ["self", "child"]
abbrev N_law_box : List Str := ["_law_script", "_law_k", "_law_own", "_law_cell", "_law_seed"]
theorem sc_law_box : FnScope ["_law_script", "_law_k", "_law_own", "_law_cell", "_law_seed"] ["_law_script", "_law_k", "_law_own"] (defScope s_law_box) := ⟨rfl, rfl, rfl, by decide +kernel, rfl, by decide +kernel, by decide +kernel⟩
theorem sc_law_take : FnScope ["_law_box_here", "_law_many", "_law_digit", "_law_raw", "_law_wide"] ["_law_box_here", "_law_many"] (defScope s_law_take) := ⟨rfl, rfl, rfl, by decide +kernel, rfl, by decide +kernel, by decide +kernel⟩
theorem sc_law_mixed : FnScope ["_law_box_here", "_law_items", "_law_left", "_law_found", "_law_turn"] ["_law_box_here", "_law_items"] (defScope s_law_mixed) := ⟨rfl, rfl, rfl, by decide +kernel, rfl, by decide +kernel, by decide +kernel⟩
abbrev N_law_names : List Str := ["_law_box_here", "_law_many", "_law_letters", "_law_first", "_law_form", "_law_found", "_law_k"]
theorem sc_law_names : FnScope ["_law_box_here", "_law_many", "_law_letters", "_law_first", "_law_form", "_law_found", "_law_k"] ["_law_box_here", "_law_many"] (defScope s_law_names) := ⟨rfl, rfl, rfl, by decide +kernel, rfl, by decide +kernel, by decide +kernel⟩
theorem sc_law_tree : FnScope ["_law_box_here", "_law_names_here", "_law_most", "_law_marks", "_law_heads", "_law_rows", "_law_mark", "_law_turn", "_law_children"] ["_law_box_here", "_law_names_here", "_law_most"] (defScope s_law_tree) := ⟨rfl, rfl, rfl, by decide +kernel, rfl, by decide +kernel, by decide +kernel⟩
theorem sc_law_events : FnScope ["_law_tree_here", "_law_name", "_law_mark", "_law_children", "_law_found", "_law_child"] ["_law_tree_here"] (defScope s_law_events) := ⟨rfl, rfl, rfl, by decide +kernel, rfl, by decide +kernel, by decide +kernel⟩
abbrev N_law_text : List Str := ["_law_events_here", "_law_event"]
theorem sc_law_text : FnScope ["_law_events_here", "_law_event"] ["_law_events_here"] (defScope s_law_text) := ⟨rfl, rfl, rfl, by decide +kernel, rfl, by decide +kernel, by decide +kernel⟩
theorem sc_law_nodes : FnScope ["_law_tree_here", "_law_found", "_law_child"] ["_law_tree_here"] (defScope s_law_nodes) := ⟨rfl, rfl, rfl, by decide +kernel, rfl, by decide +kernel, by decide +kernel⟩
abbrev N_law_built : List Str := ["_law_tree_here", "_law_child"]
theorem sc_law_built : FnScope ["_law_tree_here", "_law_child"] ["_law_tree_here"] (defScope s_law_built) := ⟨rfl, rfl, rfl, by decide +kernel, rfl, by decide +kernel, by decide +kernel⟩
theorem sc_law_near : FnScope ["_law_box_here", "_law_tree_here", "_law_names_here", "_law_fresh", "_law_name", "_law_mark", "_law_children", "_law_form", "_law_at"] ["_law_box_here", "_law_tree_here", "_law_names_here", "_law_fresh"] (defScope s_law_near) := ⟨rfl, rfl, rfl, by decide +kernel, rfl, by decide +kernel, by decide +kernel⟩
abbrev N_law_told_right : List Str := ["_law_tree_here", "_law_children", "_law_child", "_law_made", "_law_other", "_law_nodes_here", "_law_events_here", "_law_turn", "_law_found", "_law_node", "_law_one"]
theorem sc_law_told_right : FnScope ["_law_tree_here", "_law_children", "_law_child", "_law_made", "_law_other", "_law_nodes_here", "_law_events_here", "_law_turn", "_law_found", "_law_node", "_law_one"] ["_law_tree_here"] (defScope s_law_told_right) := ⟨rfl, rfl, rfl, by decide +kernel, rfl, by decide +kernel, by decide +kernel⟩
abbrev N_law : List Str := ["_law_script", "_law_k", "_law_box_here", "_law_names_here", "_law_some", "_law_turn", "_law_tree_here", "_law_node", "_law_one", "_law_other", "_law_made", "_law_twin"]
theorem sc_law : FnScope ["_law_script", "_law_k", "_law_box_here", "_law_names_here", "_law_some", "_law_turn", "_law_tree_here", "_law_node", "_law_one", "_law_other", "_law_made", "_law_twin"] ["_law_script"] (defScope s_law) := ⟨rfl, rfl, rfl, by decide +kernel, rfl, by decide +kernel, by decide +kernel⟩
structure Facts (K : PySem.W.Frag) : Prop where
  n_isinstance : PySem.W.nsIn K mainGlobals "isinstance" = some none
  n_str : PySem.W.nsIn K mainGlobals "str" = some none
  n_all : PySem.W.nsIn K mainGlobals "all" = some none
  n_len : PySem.W.nsIn K mainGlobals "len" = some none
  n_int : PySem.W.nsIn K mainGlobals "int" = some none
  n_bool : PySem.W.nsIn K mainGlobals "bool" = some none
  n_list : PySem.W.nsIn K mainGlobals "list" = some none
  n_tuple : PySem.W.nsIn K mainGlobals "tuple" = some none
  n_property : PySem.W.nsIn K mainGlobals "property" = some none
  n_classmethod : PySem.W.nsIn K mainGlobals "classmethod" = some none
  n_enumerate : PySem.W.nsIn K mainGlobals "enumerate" = some none
  n_iter : PySem.W.nsIn K mainGlobals "iter" = some none
  n_abs : PySem.W.nsIn K mainGlobals "abs" = some none
  n_range : PySem.W.nsIn K mainGlobals "range" = some none
  n_repr : PySem.W.nsIn K mainGlobals "repr" = some none
  n_max : PySem.W.nsIn K mainGlobals "max" = some none
  n_min : PySem.W.nsIn K mainGlobals "min" = some none
  d_split_words : DefIn K "split_words" s_split_words
  d_is_made_of : DefIn K "is_made_of" s_is_made_of
  d_is_name : DefIn K "is_name" s_is_name
  d_is_figure : DefIn K "is_figure" s_is_figure
  d_is_mark : DefIn K "is_mark" s_is_mark
  d_own_copy : DefIn K "own_copy" s_own_copy
  d_is_event : DefIn K "is_event" s_is_event
  d_event_of : DefIn K "event_of" s_event_of
  d_law_box : DefIn K "_law_box" s_law_box
  d_law_take : DefIn K "_law_take" s_law_take
  d_law_mixed : DefIn K "_law_mixed" s_law_mixed
  d_law_names : DefIn K "_law_names" s_law_names
  d_law_tree : DefIn K "_law_tree" s_law_tree
  d_law_events : DefIn K "_law_events" s_law_events
  d_law_text : DefIn K "_law_text" s_law_text
  d_law_nodes : DefIn K "_law_nodes" s_law_nodes
  d_law_built : DefIn K "_law_built" s_law_built
  d_law_near : DefIn K "_law_near" s_law_near
  d_law_told_right : DefIn K "_law_told_right" s_law_told_right
  d_law : DefIn K "law" s_law
  g_NAME_LETTERS : TextIn K "NAME_LETTERS" k_NAME_LETTERS
  g_DIGITS : TextIn K "DIGITS" k_DIGITS
  g_TAKEN : TextsIn K "TAKEN" k_TAKEN
  x_NoTree : ∃ C B, ExcIn K "NoTree" "NoTree.__init__" "KeptError" s_NoTree_init C B ∧ PySem.W.findIn K (.ref C) "at" = some none
  c_Row : ∃ C, SlsIn K "Row" C ∧ MethIn K C "__init__" "Row.__init__" s_Row_init ∧ PropIn K C "is_whole" "Row.is_whole" s_Row_is_whole ∧ MethIn K C "can_take" "Row.can_take" s_Row_can_take ∧ MethIn K C "take" "Row.take" s_Row_take ∧ SlotIn K C "done" 0 ∧ SlotIn K C "heads" 1 ∧ SlotIn K C "rows" 2
  c_Tree : ∃ C, ClsIn K "Tree" C ∧ MethInD K C "__init__" "Tree.__init__" s_Tree_init 1 ∧ CMethIn K C "read" "Tree.read" s_Tree_read ∧ CMethIn K C "from_events" "Tree.from_events" s_Tree_from_events ∧ MethIn K C "__len__" "Tree.__len__" s_Tree_len ∧ MethIn K C "__iter__" "Tree.__iter__" s_Tree_iter ∧ MethIn K C "__eq__" "Tree.__eq__" s_Tree_eq ∧ MethIn K C "__str__" "Tree.__str__" s_Tree_str ∧ MethIn K C "events" "Tree.events" s_Tree_events ∧ PySem.W.findIn K (.ref C) "name" = some none ∧ PySem.W.findIn K (.ref C) "mark" = some none ∧ PySem.W.findIn K (.ref C) "children" = some none ∧ PySem.W.findIn K (.ref C) "nodes" = some none ∧ PySem.W.findIn K (.ref C) "text" = some none
  e_cls_Tree : ∃ C, PySem.W.nsIn K mainGlobals "Tree" = some (some (.ref C)) ∧ PySem.W.isClsIn K C = true ∧ PySem.W.typeIn K (.ref C) = some (.type "type")
structure Facts2 (K : PySem.W.Frag) : Prop where
  f : Facts K
  e : Kn.EmpD K "Tree" "Tree.__init__" s_Tree_init
end Lw
namespace LwE
open PySem PySem.W PyProof.Rows Lw
def looks : List Kn.Look := [look0, look1]
set_option maxHeartbeats 0 in
theorem facts_of (K : Frag) (c : ∀ L ∈ looks, L.Holds K) : Facts2 K := by
  have c0 : look0.Holds K := c _ (.head _)
  have c1 : look1.Holds K := c _ (.tail _ (.head _))
  refine ⟨?_, Kn.empD_look (c1.say 1) (c1.txt 0)⟩
  constructor
  · exact Kn.free_look (c0.say 0)
  · exact Kn.free_look (c0.say 1)
  · exact Kn.free_look (c0.say 2)
  · exact Kn.free_look (c0.say 3)
  · exact Kn.free_look (c0.say 4)
  · exact Kn.free_look (c0.say 5)
  · exact Kn.free_look (c0.say 6)
  · exact Kn.free_look (c0.say 7)
  · exact Kn.free_look (c0.say 8)
  · exact Kn.free_look (c0.say 9)
  · exact Kn.free_look (c0.say 10)
  · exact Kn.free_look (c0.say 11)
  · exact Kn.free_look (c0.say 12)
  · exact Kn.free_look (c0.say 13)
  · exact Kn.free_look (c0.say 14)
  · exact Kn.free_look (c0.say 15)
  · exact Kn.free_look (c0.say 16)
  · exact Kn.def_look (c0.say 17) (c0.txt 0)
  · exact Kn.def_look (c0.say 18) (c0.txt 1)
  · exact Kn.def_look (c0.say 19) (c0.txt 2)
  · exact Kn.def_look (c0.say 20) (c0.txt 3)
  · exact Kn.def_look (c0.say 21) (c0.txt 4)
  · exact Kn.def_look (c0.say 22) (c0.txt 5)
  · exact Kn.def_look (c0.say 23) (c0.txt 6)
  · exact Kn.def_look (c0.say 24) (c0.txt 7)
  · exact Kn.def_look (c0.say 25) (c0.txt 8)
  · exact Kn.def_look (c0.say 26) (c0.txt 9)
  · exact Kn.def_look (c0.say 27) (c0.txt 10)
  · exact Kn.def_look (c0.say 28) (c0.txt 11)
  · exact Kn.def_look (c0.say 29) (c0.txt 12)
  · exact Kn.def_look (c0.say 30) (c0.txt 13)
  · exact Kn.def_look (c0.say 31) (c0.txt 14)
  · exact Kn.def_look (c0.say 32) (c0.txt 15)
  · exact Kn.def_look (c0.say 33) (c0.txt 16)
  · exact Kn.def_look (c0.say 34) (c0.txt 17)
  · exact Kn.def_look (c0.say 35) (c0.txt 18)
  · exact Kn.def_look (c0.say 36) (c0.txt 19)
  · exact Kn.text_look (c0.say 37)
  · exact Kn.text_look (c0.say 38)
  · exact Kn.texts_look (c0.say 39)
  · obtain ⟨C, B, E, no⟩ := Kn.exc_look (c0.say 40) (c0.txt 20)
    exact ⟨C, B, E, no _ (.head _)⟩
  · exact ⟨He.ga K "Row", Kn.sls_look (c0.say 41), Kn.meth_look (c0.say 42) (c0.txt 21), Kn.prop_look (c0.say 43) (c0.txt 22), Kn.meth_look (c0.say 44) (c0.txt 23), Kn.meth_look (c0.say 45) (c0.txt 24), Kn.slot_look (c0.say 46), Kn.slot_look (c0.say 47), Kn.slot_look (c0.say 48)⟩
  · exact ⟨He.ga K "Tree", Kn.cls_look (c0.say 49), Kn.methD_look (c0.say 50) (c0.txt 25), Kn.cmeth_look (c0.say 51) (c0.txt 26), Kn.cmeth_look (c0.say 52) (c0.txt 27), Kn.meth_look (c0.say 53) (c0.txt 28), Kn.meth_look (c0.say 54) (c0.txt 29), Kn.meth_look (c0.say 55) (c0.txt 30), Kn.meth_look (c0.say 56) (c0.txt 31), Kn.meth_look (c0.say 57) (c0.txt 32), Kn.noAt_look (c0.say 58), Kn.noAt_look (c0.say 59), Kn.noAt_look (c0.say 60), Kn.noAt_look (c0.say 61), Kn.noAt_look (c0.say 62)⟩
  · exact Kn.isCls_look (c1.say 0)
theorem run (w : World) : HandSHeadRun.RunEq R qv (Kn.hookL 4 2500 looks) (Kn.obL 4 2500 looks) 20000 bound w := fun os => Kn.run_parts (run_all w os) fun L hL => by
  rcases List.mem_cons.mp hL with rfl | hL
  · exact run_0 w os
  rw [List.mem_singleton.mp hL]; exact run_1 w os
end LwE
namespace Lw
open PySem PySem.Spec PyProof.Rows
open L2 hiding St
open Kn
local macro_rules | `(tactic| walk_at "side") => `(tactic| first | rfl | decide | assumption | omega | (constructor <;> first | decide | omega) | (refine ⟨?_, ?_, ?_⟩ <;> first | decide | omega))
local macro_rules | `(tactic| walk_at "cell") => `(tactic| first | exact up_at | assumption | (rw [up_ne (by assumption)]; first | exact up_at | assumption) | (rw [up_ne (Ne.symm (by assumption))]; first | exact up_at | assumption))
local macro_rules | `(tactic| walk_at "ty") => `(tactic| first | exact rfl | exact ⟨rfl, _, by walk_at "cell"⟩)
local macro_rules | `(tactic| walk_at "ix") => `(tactic| first | refine ix_own (by walk_at "cell") (by rfl) ?_ | refine ix_lst (by rfl) ?_ | refine ix_tpl (by rfl) ?_ | refine ix_fro (by rfl) ?_)
local macro_rules | `(tactic| walk_at "op add") => `(tactic| first | refine ob_add ?_ | refine ob_cat (by walk_at "side") ?_ | refine ob_catL (by walk_at "side") ?_ | refine ob_catT (by walk_at "side") ?_)
local macro_rules | `(tactic| walk_at "op sub") => `(tactic| refine ob_sub ?_)
local macro_rules | `(tactic| walk_at "op mul") => `(tactic| first | refine ob_mul (.inr (by decide)) ?_ | refine ob_mul (.inl (by decide)) ?_ | refine ob_mul (.inl (by constructor <;> omega)) ?_ | refine ob_mul (.inr (by constructor <;> omega)) ?_ | refine ob_rep (by walk_at "side") (by walk_at "side") ?_ | refine ob_times (by walk_at "side") (by walk_at "side") ?_)
local macro_rules | `(tactic| walk_at "op mod") => `(tactic| refine ob_mod (by first | decide | omega) ?_)
local macro_rules | `(tactic| walk_at "op fdiv") => `(tactic| refine ob_fdiv (by first | decide | omega) ?_)
local macro_rules | `(tactic| walk_at "op pow") => `(tactic| refine ob_pow (by first | decide | (refine ⟨by decide, by decide, by omega⟩)) ?_)
local macro_rules | `(tactic| walk_at "cmp Gt") => `(tactic| refine ob_gt ?_)
local macro_rules | `(tactic| walk_at "cmp Lt") => `(tactic| refine ob_lt ?_)
local macro_rules | `(tactic| walk_at "cmp GtE") => `(tactic| refine ob_ge ?_)
local macro_rules | `(tactic| walk_at "cmp LtE") => `(tactic| refine ob_le ?_)
local macro_rules | `(tactic| walk_at "cmp Eq") => `(tactic| first | refine ob_eqI ?_ | refine ob_eqS ?_ | refine ob_eqB ?_)
local macro_rules | `(tactic| walk_at "cmp NotEq") => `(tactic| first | refine ob_neI ?_ | refine ob_neS ?_)
local macro_rules | `(tactic| walk_at "cmp Is") => `(tactic| refine ob_isN ?_)
local macro_rules | `(tactic| walk_at "cmp IsNot") => `(tactic| refine ob_isNotN ?_)
local macro_rules | `(tactic| walk_at "cmp In") => `(tactic| first | refine ob_inS ?_ | refine ob_inT ?_ | refine ob_inL ?_)
local macro_rules | `(tactic| walk_at "cmp NotIn") => `(tactic| first | refine ob_niS ?_ | refine ob_niT ?_ | refine ob_niL ?_)
local macro_rules | `(tactic| walk_at "cb len") => `(tactic| first | refine cb_lenL ?_ | refine cb_lenT ?_ | refine cb_lenF ?_ | refine cb_lenO (by walk_at "cell") ?_ | refine cb_lenS (by walk_at "side") ?_)
local macro_rules | `(tactic| walk_at "cb abs") => `(tactic| refine cb_abs ?_)
local macro_rules | `(tactic| walk_at "cb int") => `(tactic| refine cb_intB ?_)
local macro_rules | `(tactic| walk_at "cb max") => `(tactic| refine cb_max rfl ?_)
local macro_rules | `(tactic| walk_at "cb min") => `(tactic| refine cb_min rfl ?_)
local macro_rules | `(tactic| walk_at "cb str") => `(tactic| first | refine cb_strS ?_ | refine cb_strI (by walk_at "side") ?_)
local macro_rules | `(tactic| walk_at "cb tuple") => `(tactic| first | refine cb_tupL ?_ | refine cb_tupT ?_)
local macro_rules | `(tactic| walk_at "cb list") => `(tactic| first | refine cb_listL fun p hp => ?_ | refine cb_listT fun p hp => ?_)
local macro_rules | `(tactic| walk_at "m1 split") => `(tactic| refine m1_split (by first | rfl | decide) (by walk_at "side") ?_)
local macro_rules | `(tactic| walk_at "m1 partition") => `(tactic| refine m1_partition (by first | rfl | decide) (by walk_at "side") ?_)
local macro_rules | `(tactic| walk_at "m1 find") => `(tactic| refine m1_find ?_)
local macro_rules | `(tactic| walk_at "mb append") => `(tactic| refine mb_append (by walk_at "cell") (by walk_at "side") ?_)
local macro_rules | `(tactic| walk_at "b0") => `(tactic| exact fun _ _ _ _ _ _ us hl => match us, hl with | [], _ => rfl)
local macro_rules | `(tactic| walk_at "b1") => `(tactic| exact fun _ _ _ _ _ _ us hl => match us, hl with | [_], _ => rfl)
local macro_rules | `(tactic| walk_at "b2") => `(tactic| exact fun _ _ _ _ _ _ us hl => match us, hl with | [_, _], _ => rfl)
local macro_rules | `(tactic| walk_at "b3") => `(tactic| exact fun _ _ _ _ _ _ us hl => match us, hl with | [_, _, _], _ => rfl)
local macro_rules | `(tactic| walk_at "b4") => `(tactic| exact fun _ _ _ _ _ _ us hl => match us, hl with | [_, _, _, _], _ => rfl)
local macro_rules | `(tactic| walk_at "b5") => `(tactic| exact fun _ _ _ _ _ _ us hl => match us, hl with | [_, _, _, _, _], _ => rfl)
local macro_rules | `(tactic| walk_at "b6") => `(tactic| exact fun _ _ _ _ _ _ us hl => match us, hl with | [_, _, _, _, _, _], _ => rfl)
local macro_rules | `(tactic| walk_at "blk") => `(tactic| first | exact ⟨rfl, by decide +kernel, by decide +kernel, by decide +kernel, by decide +kernel⟩ | (constructor <;> first | rfl | decide +kernel))
local macro_rules | `(tactic| walk_at "few") => `(tactic| first | decide | exact Nat.le_of_ble_eq_true rfl)
local macro_rules | `(tactic| walk_at "own") => `(tactic| (funext z_; simp only [Kn.up, Kn.dn]; (repeat' split) <;> first | rfl | (subst_vars; first | rfl | contradiction) | simp_all))
local macro_rules | `(tactic| walk_at "len") => `(tactic| (intro ss O R h; first | (obtain ⟨_, e, _⟩ := h; subst e; rfl) | (obtain ⟨_, _, e, _⟩ := h; subst e; rfl) | (obtain ⟨_, _, _, e, _⟩ := h; subst e; rfl) | (obtain ⟨_, _, _, _, e, _⟩ := h; subst e; rfl) | (obtain ⟨_, _, _, _, _, e, _⟩ := h; subst e; rfl) | (obtain ⟨_, _, _, _, _, _, e, _⟩ := h; subst e; rfl) | (obtain ⟨_, _, _, _, _, _, _, e, _⟩ := h; subst e; rfl) | (obtain ⟨_, _, _, _, _, _, _, _, e, _⟩ := h; subst e; rfl) | (obtain ⟨_, _, _, _, _, _, _, _, _, e, _⟩ := h; subst e; rfl) | (obtain ⟨_, _, _, _, _, _, _, _, _, _, e, _⟩ := h; subst e; rfl) | (obtain ⟨_, _, _, _, _, _, _, _, _, _, _, e, _⟩ := h; subst e; rfl) | (obtain ⟨_, _, _, _, _, _, _, _, _, _, _, _, e, _⟩ := h; subst e; rfl) | (obtain ⟨_, _, _, _, _, _, _, _, _, _, _, _, _, e, _⟩ := h; subst e; rfl) | (obtain ⟨_, _, _, _, _, _, _, _, _, _, _, _, _, _, e, _⟩ := h; subst e; rfl) | (obtain ⟨_, _, _, _, _, _, _, _, _, _, _, _, _, _, _, e, _⟩ := h; subst e; rfl)))
section
variable {P : Program} {w : World} {K : PySem.W.Frag} {mg : Str → Option Value} {base : Heap}
theorem num_log {m : Int} (h0 : 0 ≤ m) (h : m < 10 ^ 100) : m.natAbs.log2 < 1920 := by
  by_cases hz : m.natAbs = 0
  · rw [hz]; decide
  · rw [Nat.log2_lt hz]
    have e : m.natAbs < 10 ^ 100 := by omega
    exact Nat.lt_of_lt_of_le e (by decide +kernel)
theorem num_len {m : Int} (h0 : 0 ≤ m) (h : m < 10 ^ 100) : (Str.ofString (toString m)).length ≤ 100 := PyProof.Rows.toString_length_le h0 (by decide) h
theorem wordE_len {e : Ev} (h : smallE e) : (wordE e).length ≤ 201 := by
  cases e with
  | none => exact (show (Str.ofString "/").length ≤ 201 by decide +kernel)
  | some q =>
    obtain ⟨n, m⟩ := q
    obtain ⟨h1, h2, h3⟩ := h
    have h4 := num_len h2 h3
    show (n ++ Str.ofString ":" ++ Str.ofString (toString m)).length ≤ 201
    rw [len_app, len_app, show (Str.ofString ":").length = 1 by decide +kernel]
    omega
theorem sum_le {α : Type} {g : α → Nat} {b : Nat} : ∀ {l : List α}, (∀ a ∈ l, g a ≤ b) → (l.map g).sum ≤ l.length * b
  | [], _ => Nat.zero_le _
  | a :: l, h => by
    have h1 := h a List.mem_cons_self
    have h2 := sum_le fun c hc => h c (List.mem_cons_of_mem a hc)
    rw [List.map_cons, List.sum_cons, List.length_cons, Nat.succ_mul]
    omega
theorem colon_len : (Str.ofString ":").length = 1 := by decide +kernel
end
/-- the source of draws -/
def boxC (c s n : Int) : Cell := .lst [.dat (.int c), .dat (.int s), .dat (.int n)]
def isBox (b : Cell) : Prop := ∃ c s n, b = boxC c s n ∧ 0 ≤ c ∧ 1 ≤ s ∧ s ≤ 2147483629 ∧ 0 ≤ n
def Take : SpecT := fun ss O R => ∃ (p : Addr) (m : Int) (b : Cell), ss = [.own p, .dat (.int m)] ∧ O p = some b ∧ isBox b ∧ 1 ≤ m ∧ m < 1073741824 ∧ ∀ (d : Int) (b' : Cell), 0 ≤ d → d < m → isBox b' → R (.ret (.dat (.int d))) (up O p b')
def BoxS : SpecT := fun ss O R => ∃ (ns : List Int) (k o : Int), ss = [.dat (.fro (ns.map .int)), .dat (.int k), .dat (.int o)] ∧ 0 ≤ k ∧ k ≤ 1000 ∧ 0 ≤ o ∧ o ≤ 1000 ∧ ∀ p b, O p = none → isBox b → R (.ret (.own p)) (up O p b)
section
variable {P : Program} {w : World} {K : PySem.W.Frag} {mg : Str → Option Value} {base : Heap}
theorem fn_law_take {f : Addr} {fd : FuncData} (F : L2.Fun K "_law_take" "_law_take" s_law_take f fd) : Fn P w K mg base false 1 f fd ["_law_box_here", "_law_many"] Take := by
  have sc := sc_law_take
  refine fn_mk F sc_law_take (fun ss O R h => by obtain ⟨p, m, b, rfl, _⟩ := h; rfl) fun cdv A outer s H E ss O R hr hpo h => ?_
  obtain ⟨p, m, b, rfl, hp, hb, hm1, hm2, h⟩ := h
  obtain ⟨c, s0, n, rfl, hc, hs1, hs2, hn⟩ := hb
  have hp : O p = some (.lst [.dat (.int c), .dat (.int s0), .dat (.int n)]) := hp
  -- 0:_law_box_here 1:_law_many 2:_law_digit 3:_law_raw 4:_law_wide
  refine sw_cons ?_
  refine s1_if ?_
  refine tw_cmp ?_
  refine ew_ix ?_
  refine ew_var 0 ?_
  refine ew_int ?_
  walk_at "ix"
  refine ew_int ?_
  walk_at "cmp Gt"
  refine ⟨_, rfl, fun ht => ?_, fun ht => ?_⟩
  · refine sw_cons ?_
    refine s1_set 2 ?_ sc.nd
    refine ew_bin ?_
    refine ew_ix ?_
    refine ew_var 0 ?_
    refine ew_int ?_
    walk_at "ix"
    refine ew_var 1 ?_
    walk_at "op mod"
    refine sw_cons ?_
    refine s1_asg ?_
    refine ew_bin ?_
    refine ew_ix ?_
    refine ew_var 0 ?_
    refine ew_int ?_
    walk_at "ix"
    refine ew_var 1 ?_
    walk_at "op fdiv"
    refine gw_set ?_
    refine ew_var 0 ?_
    refine ew_int ?_
    refine ⟨_, _, _, _, rfl, rfl, by walk_at "cell", rfl, ?_⟩
    refine sw_one ?_
    refine s1_ret ?_
    refine ew_var 2 ?_
    show R (.ret _) (up O p _)
    exact h _ _ (Int.emod_nonneg _ (by omega)) (Int.emod_lt_of_pos _ (by omega)) ⟨c / m, s0, n, rfl, Int.ediv_nonneg hc (by omega), hs1, hs2, hn⟩
  · refine sw_nil ?_
    refine sw_cons ?_
    refine s1_asg ?_
    refine ew_bin ?_
    refine ew_ix ?_
    refine ew_var 0 ?_
    refine ew_int ?_
    walk_at "ix"
    refine ew_int ?_
    walk_at "op add"
    refine gw_set ?_
    refine ew_var 0 ?_
    refine ew_int ?_
    refine ⟨_, _, _, _, rfl, rfl, by walk_at "cell", rfl, ?_⟩
    refine sw_cons ?_
    refine s1_set 3 ?_ sc.nd
    refine ew_bin ?_
    refine ew_bin ?_
    refine ew_bin ?_
    refine ew_ix ?_
    refine ew_var 0 ?_
    refine ew_int ?_
    walk_at "ix"
    refine ew_bin ?_
    refine ew_int ?_
    refine ew_ix ?_
    refine ew_var 0 ?_
    refine ew_int ?_
    walk_at "ix"
    walk_at "op mul"
    walk_at "op add"
    refine ew_int ?_
    walk_at "op mul"
    refine ew_int ?_
    walk_at "op mod"
    refine sw_cons ?_
    refine s1_asg ?_
    refine ew_bin ?_
    refine ew_bin ?_
    refine ew_bin ?_
    refine ew_bin ?_
    refine ew_var 3 ?_
    refine ew_int ?_
    walk_at "op mul"
    refine ew_int ?_
    walk_at "op add"
    refine ew_int ?_
    walk_at "op mod"
    refine ew_int ?_
    walk_at "op add"
    refine gw_set ?_
    refine ew_var 0 ?_
    refine ew_int ?_
    refine ⟨_, _, _, _, rfl, rfl, by walk_at "cell", rfl, ?_⟩
    refine sw_cons ?_
    refine s1_if ?_
    refine tw_cmp ?_
    refine ew_var 1 ?_
    refine ew_bin ?_
    refine ew_int ?_
    refine ew_int ?_
    walk_at "op pow"
    walk_at "cmp Lt"
    refine ⟨_, rfl, fun ht => ?_, fun ht => ?_⟩
    · refine sw_one ?_
      refine s1_ret ?_
      refine ew_bin ?_
      refine ew_bin ?_
      refine ew_bin ?_
      refine ew_bin ?_
      refine ew_var 3 ?_
      refine ew_int ?_
      walk_at "op mul"
      refine ew_ix ?_
      refine ew_var 0 ?_
      refine ew_int ?_
      walk_at "ix"
      walk_at "op add"
      refine ew_int ?_
      walk_at "op fdiv"
      refine ew_var 1 ?_
      walk_at "op mod"
      show R (.ret _) (up (up O p _) p _)
      rw [up_up]
      refine h _ _ (Int.emod_nonneg _ (by omega)) (Int.emod_lt_of_pos _ (by omega)) ⟨c, _, n + 1, rfl, hc, ?_, ?_, by omega⟩ <;> omega
    · refine sw_nil ?_
      refine sw_cons ?_
      refine s1_set 4 ?_ sc.nd
      refine ew_bin ?_
      refine ew_bin ?_
      refine ew_bin ?_
      refine ew_var 3 ?_
      refine ew_int ?_
      walk_at "op mul"
      refine ew_ix ?_
      refine ew_var 0 ?_
      refine ew_int ?_
      walk_at "ix"
      walk_at "op add"
      refine ew_bin ?_
      refine ew_int ?_
      refine ew_int ?_
      walk_at "op pow"
      walk_at "op mul"
      refine sw_one ?_
      refine s1_ret ?_
      refine ew_bin ?_
      refine ew_bin ?_
      refine ew_bin ?_
      refine ew_var 4 ?_
      refine ew_bin ?_
      refine ew_bin ?_
      refine ew_ix ?_
      refine ew_var 0 ?_
      refine ew_int ?_
      walk_at "ix"
      refine ew_int ?_
      walk_at "op pow"
      refine ew_int ?_
      walk_at "op mul"
      walk_at "op add"
      refine ew_var 3 ?_
      walk_at "op add"
      refine ew_var 1 ?_
      walk_at "op mod"
      show R (.ret _) (up (up O p _) p _)
      rw [up_up]
      refine h _ _ (Int.emod_nonneg _ (by omega)) (Int.emod_lt_of_pos _ (by omega)) ⟨c, _, n + 1, rfl, hc, ?_, ?_, by omega⟩ <;> omega
theorem c_law_take (T : TopOf K mg) (Z : Facts K) : Cal P w K mg base false 1 "_law_take" Take [] := cal_of T Z.d_law_take (by walk_at "b2") fun f fd F => fn_law_take F
theorem box_last {c k o : Int} (hc : 0 ≤ c) (hk : 0 ≤ k) (ho : 0 ≤ o) : isBox (boxC c ((c % 2147483629 * 48271 + 40692 * (k + 11 * o)) % 2147483629 + 1) 0) := ⟨c, _, 0, rfl, hc, by omega, by omega, by omega⟩
theorem box_zero {c k o : Int} (hk : 0 ≤ k) (ho : 0 ≤ o) : isBox (boxC 0 ((c % 2147483629 * 48271 + 40692 * (k + 11 * o)) % 2147483629 + 1) 0) := ⟨0, _, 0, rfl, by omega, by omega, by omega, by omega⟩
theorem at_int {ns : List Int} {k : Int} (h0 : 0 ≤ k) (h : k < (ns.length : Int)) : ∃ n, atI (ns.map Dat.int) k = some (.int n) := by
  obtain ⟨j, rfl⟩ := Int.eq_ofNat_of_zero_le h0
  have hj : j < ns.length := by omega
  exact ⟨ns[j], atI_nat (by rw [List.getElem?_map, List.getElem?_eq_getElem hj]; rfl)⟩
theorem fn_law_box (T : TopOf K mg) (Z : Facts K) {f : Addr} {fd : FuncData} (F : L2.Fun K "_law_box" "_law_box" s_law_box f fd) : Fn P w K mg base false 1 f fd ["_law_script", "_law_k", "_law_own"] BoxS := by
  have sc := sc_law_box
  refine fn_mk F sc_law_box (fun ss O R h => by obtain ⟨_, _, _, rfl, _⟩ := h; rfl) fun cdv A outer s H E ss O R hr hpo h => ?_
  obtain ⟨ns, k, o, rfl, hk, hk2, ho, ho2, h⟩ := h
  -- 0:_law_script 1:_law_k 2:_law_own 3:_law_cell 4:_law_seed
  have tail : ∀ (x : ExK) (c : Int) (ρ : List Slot) (s4 : Slot), 0 ≤ c → (∀ e ρ' O', x e ρ' O' ↔ x e ρ' O') → SW (cxOf (L2.CX P w) P w K mg base N_law_box "_law_box" (defScope s_law_box) f cdv A outer s H E) O [.dat (.fro (ns.map .int)), .dat (.int k), .dat (.int o), .dat (.int c), s4] ((defBody s_law_box).drop 2) x { nx := fun _ O' => R (.ret (.dat .non)) O', rt := fun z O' => R (.ret z) O' } := by
    intro x c ρ s4 hc _
    refine sw_cons ?_
    refine s1_set 4 ?_ sc.nd
    refine ew_bin ?_
    refine ew_bin ?_
    refine ew_bin ?_
    refine ew_bin ?_
    refine ew_bin ?_
    refine ew_var 3 ?_
    refine ew_int ?_
    walk_at "op mod"
    refine ew_int ?_
    walk_at "op mul"
    refine ew_bin ?_
    refine ew_int ?_
    refine ew_bin ?_
    refine ew_var 1 ?_
    refine ew_bin ?_
    refine ew_int ?_
    refine ew_var 2 ?_
    walk_at "op mul"
    walk_at "op add"
    walk_at "op mul"
    walk_at "op add"
    refine ew_int ?_
    walk_at "op mod"
    refine ew_int ?_
    walk_at "op add"
    refine sw_one ?_
    refine s1_ret ?_
    refine ew_lst ?_
    refine aw_cons ?_
    refine ew_ix ?_
    refine ew_lstD ?_
    refine aw_cons ?_
    refine ew_int ?_
    refine aw_cons ?_
    refine ew_var 3 ?_
    refine aw_nil ?_
    refine ⟨[_, _], rfl, by walk_at "few", ?_⟩
    refine ew_callTy (T.no Z.n_int) bt_int ?_
    refine aw_cons ?_
    refine ew_cmp ?_
    refine ew_var 3 ?_
    refine ew_bin ?_
    refine ew_int ?_
    refine ew_int ?_
    walk_at "op pow"
    walk_at "cmp GtE"
    refine aw_nil ?_
    walk_at "cb int"
    by_cases hb : (10 : Int) ^ (18 : Int).toNat ≤ c
    · rw [decide_eq_true hb]
      refine ix_lst (i := 1) (atI_nat (j := 1) rfl) ?_
      refine aw_cons ?_
      refine ew_var 4 ?_
      refine aw_cons ?_
      refine ew_int ?_
      refine aw_nil ?_
      refine ⟨by walk_at "few", fun p hp => ?_⟩
      exact h p _ hp (box_last hc hk ho)
    · rw [decide_eq_false hb]
      refine ix_lst (i := 0) (atI_nat (j := 0) rfl) ?_
      refine aw_cons ?_
      refine ew_var 4 ?_
      refine aw_cons ?_
      refine ew_int ?_
      refine aw_nil ?_
      refine ⟨by walk_at "few", fun p hp => ?_⟩
      exact h p _ hp (box_zero hk ho)
  refine sw_cons ?_
  refine s1_set 3 ?_ sc.nd
  refine ew_bin ?_
  refine ew_bin ?_
  refine ew_bin ?_
  refine ew_int ?_
  refine ew_var 1 ?_
  walk_at "op mul"
  refine ew_bin ?_
  refine ew_int ?_
  refine ew_var 2 ?_
  walk_at "op mul"
  walk_at "op add"
  refine ew_int ?_
  walk_at "op add"
  refine sw_cons ?_
  refine s1_if ?_
  refine tw_cmp ?_
  refine ew_var 1 ?_
  refine ew_callB (T.no Z.n_len) bt_len ?_
  refine aw_cons ?_
  refine ew_var 0 ?_
  refine aw_nil ?_
  walk_at "cb len"
  rw [List.length_map]
  walk_at "cmp Lt"
  refine ⟨_, rfl, fun ht => ?_, fun ht => ?_⟩
  · obtain ⟨n, hn⟩ := at_int hk (of_decide_eq_true ht)
    refine sw_one ?_
    refine s1_set 3 ?_ sc.nd
    refine ew_callB (T.no Z.n_abs) bt_abs ?_
    refine aw_cons ?_
    refine ew_ix ?_
    refine ew_var 0 ?_
    refine ew_var 1 ?_
    refine ix_fro hn ?_
    refine aw_nil ?_
    walk_at "cb abs"
    refine tail _ _ [] _ ?_ (fun _ _ _ => Iff.rfl)
    split <;> omega
  · refine sw_one ?_
    refine s1_if ?_
    refine tw_cmp ?_
    refine ew_callB (T.no Z.n_len) bt_len ?_
    refine aw_cons ?_
    refine ew_var 0 ?_
    refine aw_nil ?_
    walk_at "cb len"
    rw [List.length_map]
    refine ew_int ?_
    walk_at "cmp Gt"
    refine ⟨_, rfl, fun ht2 => ?_, fun ht2 => ?_⟩
    · have hl : 0 < (ns.length : Int) := of_decide_eq_true ht2
      obtain ⟨n, hn⟩ := at_int (ns := ns) (Int.emod_nonneg k (by omega)) (Int.emod_lt_of_pos k hl)
      refine sw_one ?_
      refine s1_set 3 ?_ sc.nd
      refine ew_bin ?_
      refine ew_var 3 ?_
      refine ew_bin ?_
      refine ew_bin ?_
      refine ew_callB (T.no Z.n_abs) bt_abs ?_
      refine aw_cons ?_
      refine ew_ix ?_
      refine ew_var 0 ?_
      refine ew_bin ?_
      refine ew_var 1 ?_
      refine ew_callB (T.no Z.n_len) bt_len ?_
      refine aw_cons ?_
      refine ew_var 0 ?_
      refine aw_nil ?_
      walk_at "cb len"
      rw [List.length_map]
      refine ob_mod hl ?_
      refine ix_fro hn ?_
      refine aw_nil ?_
      walk_at "cb abs"
      refine ew_int ?_
      walk_at "op mod"
      refine ew_int ?_
      walk_at "op mul"
      walk_at "op add"
      refine tail _ _ [] _ ?_ (fun _ _ _ => Iff.rfl)
      have := Int.emod_nonneg (if n < 0 then -n else n) (show (2147483629 : Int) ≠ 0 by decide)
      omega
    · refine sw_nil ?_
      refine tail _ _ [] _ ?_ (fun _ _ _ => Iff.rfl)
      omega
theorem c_law_box (T : TopOf K mg) (Z : Facts K) : Cal P w K mg base false 1 "_law_box" BoxS [] := cal_of T Z.d_law_box (by walk_at "b3") fun f fd F => fn_law_box T Z F
end
def MixS : SpecT := fun ss O R => ∃ (α : Type) (l : List α) (ι : α → Dat) (p : Addr) (b : Cell), ss = [.own p, .dat (.lst (l.map ι))] ∧ O p = some b ∧ isBox b ∧ l.length ≤ 1000 ∧ ∀ (q : Addr) (b' : Cell) (l' : List α), O q = none → isBox b' → l'.Perm l → R (.ret (.own q)) (up (up O p b') q (.lst ((l'.map ι).map .dat)))
section
variable {P : Program} {w : World} {K : PySem.W.Frag} {mg : Str → Option Value} {base : Heap}
theorem fn_law_mixed (T : TopOf K mg) (Z : Facts K) {f : Addr} {fd : FuncData} (F : L2.Fun K "_law_mixed" "_law_mixed" s_law_mixed f fd) : Fn P w K mg base false 2 f fd ["_law_box_here", "_law_items"] MixS := by
  have sc := sc_law_mixed
  refine fn_mk F sc_law_mixed (fun ss O R h => by obtain ⟨_, _, _, _, _, rfl, _⟩ := h; rfl) fun cdv A outer s H E ss O R hr hpo h => ?_
  obtain ⟨α, l, ι, p, b, rfl, hp, hb, hl, h⟩ := h
  -- 0:_law_box_here 1:_law_items 2:_law_left 3:_law_found 4:_law_turn
  refine sw_drop ?_
  refine sw_cons ?_
  refine s1_par 2 3 ?_ sc.nd
  refine aw_cons ?_
  refine ew_callTy (T.no Z.n_list) bt_list ?_
  refine aw_cons ?_
  refine ew_var 1 ?_
  refine aw_nil ?_
  refine cb_listL fun L hL => ?_
  refine aw_cons ?_
  refine ew_lst ?_
  refine aw_nil ?_
  refine ⟨by decide, fun q hq => ?_⟩
  have hqO : O q = none := by
    have n : q ≠ L := fun e => by rw [e, up_at] at hq; cases hq
    rw [up_ne n] at hq; exact hq
  have nql : q ≠ L := fun e => by rw [e, up_at] at hq; cases hq
  have npL : p ≠ L := own_ne hp hL
  have npq : p ≠ q := own_ne hp hqO
  refine aw_nil ?_
  refine ⟨_, _, rfl, ?_⟩
  refine sw_cons ?_
  refine s1_for hpo ?_
  refine iw_range1 (T.no Z.n_range) ?_
  refine aw_cons ?_
  refine ew_callB (T.no Z.n_len) bt_len ?_
  refine aw_cons ?_
  refine ew_var 2 ?_
  refine aw_nil ?_
  refine cb_lenO (by walk_at "cell") ?_
  refine aw_nil ?_
  refine ⟨_, rfl, by rw [List.length_map, List.length_map]; constructor <;> omega, ?_⟩
  rw [List.length_map, List.length_map, Int.toNat_natCast]
  refine ⟨fun i ρ' O' => ∃ (b' : Cell) (ls es : List α) (s4 : Slot), ρ' = [.own p, .dat (.lst (l.map ι)), .own L, .own q, s4] ∧ O' = up (up (up O p b') L (.lst ((ls.map ι).map .dat))) q (.lst ((es.map ι).map .dat)) ∧ isBox b' ∧ (es ++ ls).Perm l ∧ es.length = i, ?_, ?_, ?_⟩
  · refine ⟨b, l, [], .unk, rfl, ?_, hb, .refl _, rfl⟩
    rw [up_self hp]
    rfl
  · intro i d ρ2 O2 hj hd
    obtain ⟨b', ls, es, s4, rfl, rfl, hb', hperm, hes⟩ := hj
    have hi := (rangeD_at hd).1
    have hlen := hperm.length_eq
    rw [List.length_append] at hlen
    refine gw_name 4 ?_ sc.nd
    refine sw_one ?_
    refine s1_expr ?_
    refine ew_append ?_
    refine ew_var 3 ?_
    refine ⟨?_, ?_⟩
    · walk_at "ty"
    refine ew_popAt ?_
    refine ew_var 2 ?_
    refine ⟨?_, ?_⟩
    · exact ⟨rfl, _, by rw [up_ne nql.symm]; exact up_at⟩
    refine ew_call (c_law_take T Z) hr ?_
    refine aw_cons ?_
    refine ew_var 0 ?_
    refine aw_cons ?_
    refine ew_callB (T.no Z.n_len) bt_len ?_
    refine aw_cons ?_
    refine ew_var 2 ?_
    refine aw_nil ?_
    refine cb_lenO (by rw [up_ne nql.symm]; exact up_at) ?_
    refine aw_nil ?_
    refine ⟨p, _, b', rfl, by rw [up_ne npq, up_ne npL]; exact up_at, hb', by rw [List.length_map, List.length_map]; omega, by rw [List.length_map, List.length_map]; omega, fun r b2 h0 h1 hb2 => ?_⟩
    rw [List.length_map, List.length_map] at h1
    obtain ⟨a, ha⟩ : ∃ a, ls[r.toNat]? = some a := ⟨_, List.getElem?_eq_getElem (by omega)⟩
    refine mb_popAt (j := r.toNat) (s := .dat (ι a)) (by rw [up_ne npL.symm, up_ne nql.symm]; exact up_at) (by constructor <;> omega) (by rw [List.length_map, List.length_map]; exact seq_at h0 h1) (by rw [List.getElem?_map, List.getElem?_map, ha]; rfl) ?_
    refine mb_append (by rw [up_ne nql, up_ne npq.symm]; exact up_at) (by rw [List.length_map, List.length_map]; exact Nat.lt_of_le_of_lt (show es.length ≤ 1000 by omega) (by decide)) ?_
    refine ⟨b2, ls.eraseIdx r.toNat, es ++ [a], _, rfl, ?_, hb2, ?_, ?_⟩
    · rw [erase_map, erase_map, List.map_append, List.map_append]
      walk_at "own"
    · rw [List.append_assoc]
      exact ((rot_perm ha).append_left es).trans hperm
    · rw [List.length_append, hes]; rfl
  · intro ρ2 O2 hj
    obtain ⟨b', ls, es, s4, rfl, rfl, hb', hperm, hes⟩ := hj
    rw [rangeD_len] at hes
    have hlen := hperm.length_eq
    rw [List.length_append] at hlen
    have els : ls = [] := List.length_eq_zero_iff.mp (by omega)
    subst els
    rw [List.append_nil] at hperm
    refine sw_one ?_
    refine s1_ret ?_
    refine ew_var 3 ?_
    refine ⟨_, ?_, h q b' es hqO hb' hperm⟩
    exact Sub.ups (Sub.up (by rw [up_ne npL.symm]; exact hL))
theorem c_law_mixed (T : TopOf K mg) (Z : Facts K) : Cal P w K mg base false 2 "_law_mixed" MixS [] := cal_of T Z.d_law_mixed (by walk_at "b2") fun f fd F => fn_law_mixed T Z F
end
def NamesS : SpecT := fun ss O R => ∃ (p : Addr) (b : Cell) (m : Int), ss = [.own p, .dat (.int m)] ∧ O p = some b ∧ isBox b ∧ 1 ≤ m ∧ m ≤ 8 ∧ ∀ (b' : Cell) (ws : List Str), isBox b' → 0 < ws.length → ws.length ≤ 20 → (∀ y ∈ ws, isNm y = true) → R (.ret (.dat (.lst (ws.map .str)))) (up O p b')
def nmAt (first form : Int) (i : Nat) : Str := timesS ⟨#[97 + ((first + 7 * (0 + (i : Int))) % 26).toNat]⟩ (1 + (0 + (i : Int)) * (if decide (form = 1) = true then 1 else 0))
theorem ltr_at : ∀ j : Fin 26, (sgs ltrs)[j.val]? = some (97 + j.val) := by decide +kernel
theorem nm_ok : ∀ c : Fin 26, ∀ n : Fin 8, isNm (timesS ⟨#[97 + c.val]⟩ ((n.val : Int) + 1)) = true := by decide +kernel
theorem nmAt_ok {first form : Int} {i : Nat} (hi : i < 8) : isNm (nmAt first form i) = true := by
  unfold nmAt
  have h0 := Int.emod_nonneg (first + 7 * (0 + (i : Int))) (show (26 : Int) ≠ 0 by decide)
  have h1 := Int.emod_lt_of_pos (first + 7 * (0 + (i : Int))) (show (0 : Int) < 26 by decide)
  generalize (first + 7 * (0 + (i : Int))) % 26 = r at h0 h1
  by_cases hf : form = 1
  · rw [decide_eq_true hf, if_pos rfl]
    have e := nm_ok ⟨r.toNat, by omega⟩ ⟨i, hi⟩
    rw [show 1 + (0 + (i : Int)) * 1 = (i : Int) + 1 by omega]
    exact e
  · rw [decide_eq_false hf, if_neg Bool.false_ne_true]
    have e := nm_ok ⟨r.toNat, by omega⟩ ⟨0, by decide⟩
    rw [show 1 + (0 + (i : Int)) * 0 = ((0 : Nat) : Int) + 1 by omega]
    exact e
def words2 : Str := "kind of some every not mod open close root parent above earlier later all"
def words3 : Str := "a aa b bounds zz others anyone c"
theorem words2_ok : ((Txt.split words2 " ").all isNm && decide (8 ≤ (Txt.split words2 " ").length) && decide ((Txt.split words2 " ").length ≤ 20)) = true := by decide +kernel
theorem words3_ok : ((Txt.split words3 " ").all isNm && decide (8 ≤ (Txt.split words3 " ").length) && decide ((Txt.split words3 " ").length ≤ 20)) = true := by decide +kernel
structure GoodWs (ws : List Str) : Prop where
  all : ∀ y ∈ ws, isNm y = true
  lo : 8 ≤ ws.length
  hi : ws.length ≤ 20
theorem goodWs_of {ws : List Str} (h : (ws.all isNm && decide (8 ≤ ws.length) && decide (ws.length ≤ 20)) = true) : GoodWs ws := by
  simp only [Bool.and_eq_true, decide_eq_true_eq, List.all_eq_true] at h
  exact ⟨h.1.1, h.1.2, h.2⟩
theorem names_good {first form : Int} : GoodWs ((List.range 8).map (nmAt first form)) := ⟨fun y hy => by
  obtain ⟨i, hi, rfl⟩ := List.mem_map.mp hy
  exact nmAt_ok (List.mem_range.mp hi), by rw [List.length_map]; decide, by rw [List.length_map]; decide⟩
section
variable {P : Program} {w : World} {K : PySem.W.Frag} {mg : Str → Option Value} {base : Heap}
theorem fn_law_names (T : TopOf K mg) (Z : Facts K) {f : Addr} {fd : FuncData} (F : L2.Fun K "_law_names" "_law_names" s_law_names f fd) : Fn P w K mg base false 3 f fd ["_law_box_here", "_law_many"] NamesS := by
  have sc := sc_law_names
  refine fn_mk F sc_law_names (fun ss O R h => by obtain ⟨_, _, _, rfl, _⟩ := h; rfl) fun cdv A outer s H E ss O R hr hpo h => ?_
  obtain ⟨p, b, m, rfl, hp, hb, hm1, hm2, h⟩ := h
  -- 0:_law_box_here 1:_law_many 2:_law_letters 3:_law_first 4:_law_form 5:_law_found 6:_law_k
  have tail : ∀ (b1 : Cell) (ws : List Str) (s2 s3 s4 s6 : Slot) (x : ExK), isBox b1 → GoodWs ws → SW (cxOf (L2.CX P w) P w K mg base N_law_names "_law_names" (defScope s_law_names) f cdv A outer s H E) (up O p b1) [.own p, .dat (.int m), s2, s3, s4, .dat (.lst (ws.map .str)), s6] ((defBody s_law_names).drop 4) x { nx := fun _ O' => R (.ret (.dat .non)) O', rt := fun z O' => R (.ret z) O' } := by
    intro b1 ws s2 s3 s4 s6 x hb1 hg
    have h1 := hg.lo
    have h2 := hg.hi
    refine sw_one ?_
    refine s1_ret ?_
    refine ew_slice ?_
    refine ew_frz ?_
    refine ew_call (c_law_mixed T Z) hr ?_
    refine aw_cons ?_
    refine ew_var 0 ?_
    refine aw_cons ?_
    refine ew_var 5 ?_
    refine aw_nil ?_
    refine ⟨Str, ws, .str, p, b1, rfl, up_at, hb1, by omega, fun q b2 ws' hq hb2 hperm => ?_⟩
    refine ⟨q, ws'.map .str, rfl, up_at, ?_⟩
    have hq2 : up (up O p b1) p b2 q = none := by
      have n : q ≠ p := fun e => by rw [e, up_at] at hq; cases hq
      rw [up_ne n]; exact hq
    rw [dn_up hq2, up_up]
    refine ow_none ?_
    refine ow_some ?_
    refine ew_var 1 ?_
    refine ⟨_, rfl, ?_⟩
    refine sb_lst ?_
    rw [cut_take (by omega), ← List.map_take]
    have e := hperm.length_eq
    refine h b2 _ hb2 ?_ ?_ fun y hy => hg.all y (hperm.mem_iff.mp (List.mem_of_mem_take hy))
    · rw [List.length_take]; omega
    · rw [List.length_take]; omega
  refine sw_cons ?_
  refine s1_asg ?_
  refine ew_tup ?_
  refine aw_cons ?_
  refine ew_str ?_
  refine aw_cons ?_
  refine ew_call (c_law_take T Z) hr ?_
  refine aw_cons ?_
  refine ew_var 0 ?_
  refine aw_cons ?_
  refine ew_int ?_
  refine aw_nil ?_
  refine ⟨p, _, b, rfl, hp, hb, by decide, by decide, fun first b1 hf0 hf1 hb1 => ?_⟩
  refine aw_cons ?_
  refine ew_call (c_law_take T Z) hr ?_
  refine aw_cons ?_
  refine ew_var 0 ?_
  refine aw_cons ?_
  refine ew_int ?_
  refine aw_nil ?_
  refine ⟨p, _, b1, rfl, up_at, hb1, by decide, by decide, fun form b2 hg0 hg1 hb2 => ?_⟩
  rw [up_up]
  refine aw_nil ?_
  refine ⟨[_, _, _], rfl, by walk_at "few", ?_⟩
  refine gw_tup ?_
  refine gsw_cons ?_
  refine gw_name 2 ?_ sc.nd
  refine gsw_cons ?_
  refine gw_name 3 ?_ sc.nd
  refine gsw_cons ?_
  refine gw_name 4 ?_ sc.nd
  refine gsw_nil ?_
  refine sw_cons ?_
  refine s1_setMap1 (List.range 8) (fun i => .int (0 + (i : Int))) (fun i => .str (nmAt first form i)) [("_law_k", 6)] 5 sc.nd (.name (i := 6) (by decide) fun Y ⟨_, _, _, _, _, e⟩ => by subst e; exact pg_name (i := 6) sc.nd rfl (.inl rfl) (.inr rfl)) (blkOk_by (N := N_law_names) (sc := defScope s_law_names) (by decide +kernel)) ?_ (by decide) (fun i hi => ⟨_, rfl, fun O' Y hY => ?_⟩) ?_
  · refine iw_range1 (T.no Z.n_range) ?_
    refine aw_cons ?_
    refine ew_int ?_
    refine aw_nil ?_
    exact ⟨8, rfl, by decide, rfl, rfl⟩
  · obtain ⟨_, _, _, _, _, rfl⟩ := hY
    have hi := List.mem_range.mp hi
    have h0 := Int.emod_nonneg (first + 7 * (0 + (i : Int))) (show (26 : Int) ≠ 0 by decide)
    have h1 := Int.emod_lt_of_pos (first + 7 * (0 + (i : Int))) (show (0 : Int) < 26 by decide)
    refine ew_bin ?_
    refine ew_ix ?_
    refine ew_var 2 ?_
    refine ew_bin ?_
    refine ew_bin ?_
    refine ew_var 3 ?_
    refine ew_bin ?_
    refine ew_int ?_
    refine ew_var 6 ?_
    walk_at "op mul"
    walk_at "op add"
    refine ew_int ?_
    walk_at "op mod"
    have hat : atI (sgs ltrs) ((first + 7 * (0 + (i : Int))) % 26) = some (97 + ((first + 7 * (0 + (i : Int))) % 26).toNat) := by
      have e := ltr_at ⟨((first + 7 * (0 + (i : Int))) % 26).toNat, by omega⟩
      have e2 : (first + 7 * (0 + (i : Int))) % 26 = (((first + 7 * (0 + (i : Int))) % 26).toNat : Int) := by omega
      rw [e2]
      exact atI_nat e
    refine ix_sgn (by decide +kernel) hat ?_
    refine ew_bin ?_
    refine ew_int ?_
    refine ew_bin ?_
    refine ew_var 6 ?_
    refine ew_callTy (T.no Z.n_int) bt_int ?_
    refine aw_cons ?_
    refine ew_cmp ?_
    refine ew_var 4 ?_
    refine ew_int ?_
    walk_at "cmp Eq"
    refine aw_nil ?_
    walk_at "cb int"
    refine ob_mul (.inl (by constructor <;> omega)) ?_
    walk_at "op add"
    refine ob_times ?_ (show 1 ≤ 1000 by decide) ?_
    · by_cases hf : form = 1
      · rw [decide_eq_true hf, if_pos rfl]
        constructor <;> omega
      · rw [decide_eq_false hf, if_neg Bool.false_ne_true]
        constructor <;> omega
    · exact ⟨rfl, rfl⟩
  intro q hq
  have eL : (List.range 8).map (fun i => Dat.str (nmAt first form i)) = ((List.range 8).map (nmAt first form)).map .str := by rw [List.map_map]; rfl
  rw [eL]
  refine sw_frz 5 (p := q) (ds := ((List.range 8).map (nmAt first form)).map .str) up_at ?_
  rw [dn_up hq]
  refine sw_cons ?_
  refine s1_if ?_
  refine tw_cmp ?_
  refine ew_var 4 ?_
  refine ew_int ?_
  walk_at "cmp Eq"
  refine ⟨_, rfl, fun ht => ?_, fun ht => ?_⟩
  · refine sw_one ?_
    refine s1_set 5 ?_ sc.nd
    refine ew_split ?_
    refine ew_str ?_
    refine ⟨_, rfl, ?_⟩
    refine ew_str ?_
    refine m1_split (by decide +kernel) (by decide +kernel) ?_
    refine sw_cons ?_
    refine s1_if ?_
    refine tw_cmp ?_
    refine ew_var 4 ?_
    refine ew_int ?_
    walk_at "cmp Eq"
    refine ⟨_, rfl, fun ht => ?_, fun ht => ?_⟩
    · refine sw_one ?_
      refine s1_set 5 ?_ sc.nd
      refine ew_split ?_
      refine ew_str ?_
      refine ⟨_, rfl, ?_⟩
      refine ew_str ?_
      refine m1_split (by decide +kernel) (by decide +kernel) ?_
      exact tail b2 _ _ _ _ _ _ hb2 (goodWs_of words3_ok)
    · refine sw_nil ?_
      exact tail b2 _ _ _ _ _ _ hb2 (goodWs_of words2_ok)
  · refine sw_nil ?_
    refine sw_cons ?_
    refine s1_if ?_
    refine tw_cmp ?_
    refine ew_var 4 ?_
    refine ew_int ?_
    walk_at "cmp Eq"
    refine ⟨_, rfl, fun ht => ?_, fun ht => ?_⟩
    · refine sw_one ?_
      refine s1_set 5 ?_ sc.nd
      refine ew_split ?_
      refine ew_str ?_
      refine ⟨_, rfl, ?_⟩
      refine ew_str ?_
      refine m1_split (by decide +kernel) (by decide +kernel) ?_
      exact tail b2 _ _ _ _ _ _ hb2 (goodWs_of words3_ok)
    · refine sw_nil ?_
      exact tail b2 _ _ _ _ _ _ hb2 names_good
theorem c_law_names (T : TopOf K mg) (Z : Facts K) : Cal P w K mg base false 3 "_law_names" NamesS [] := cal_of T Z.d_law_names (by walk_at "b2") fun f fd F => fn_law_names T Z F
end
inductive Nd where
  | mk (n : Str) (m : Int) (cs : List Nd)
mutual
def txN : Nd → Str
  | .mk n m cs => Txt.join " " ((n ++ ":" ++ Str.ofString (toString m)) :: (txNs cs ++ [("/" : Str)]))
def txNs : List Nd → List Str
  | [] => []
  | c :: cs => txN c :: txNs cs
end
mutual
def ndD (C : Addr) : Nd → Dat
  | .mk n m cs => .tre C [("name", .str n), ("mark", .int m), ("children", .tup (ndDs C cs))] "nodes" (alDs C cs) [("text", .str (txN (.mk n m cs)))]
def ndDs (C : Addr) : List Nd → List Dat
  | [] => []
  | c :: cs => ndD C c :: ndDs C cs
/-- all that is below -/
def beD (C : Addr) : Nd → List Dat
  | .mk _ _ cs => alDs C cs
/-- all nodes of some trees -/
def alDs (C : Addr) : List Nd → List Dat
  | [] => []
  | c :: cs => ndD C c :: (beD C c ++ alDs C cs)
end
mutual
def szN : Nd → Nat
  | .mk _ _ cs => 1 + szNs cs
def szNs : List Nd → Nat
  | [] => 0
  | c :: cs => szN c + szNs cs
end
mutual
/-- short names, small marks -/
def okT : Nd → Prop
  | .mk n m cs => n.length ≤ 8 ∧ 0 ≤ m ∧ m < 1000000000000 ∧ okTs cs
def okTs : List Nd → Prop
  | [] => True
  | c :: cs => okT c ∧ okTs cs
end
theorem txNs_map : ∀ cs : List Nd, txNs cs = cs.map txN
  | [] => by rw [txNs]; rfl
  | c :: cs => by rw [txNs, txNs_map cs]; rfl
theorem ndDs_map (C : Addr) : ∀ cs : List Nd, ndDs C cs = cs.map (ndD C)
  | [] => by rw [ndDs]; rfl
  | c :: cs => by rw [ndDs, ndDs_map C cs]; rfl
theorem alDs_flat (C : Addr) : ∀ cs : List Nd, alDs C cs = cs.flatMap fun c => ndD C c :: beD C c
  | [] => by rw [alDs]; rfl
  | c :: cs => by rw [alDs, alDs_flat C cs]; rfl
theorem okTs_all : ∀ {cs : List Nd}, okTs cs ↔ ∀ c ∈ cs, okT c
  | [] => by rw [okTs]; simp
  | c :: cs => by rw [okTs, okTs_all (cs := cs)]; simp
mutual
theorem beD_len (C : Addr) : ∀ t : Nd, (beD C t).length + 1 = szN t
  | .mk n m cs => by rw [beD, szN, alDs_len C cs]; omega
theorem alDs_len (C : Addr) : ∀ cs : List Nd, (alDs C cs).length = szNs cs
  | [] => by rw [alDs, szNs]; rfl
  | c :: cs => by
    have h1 := beD_len C c
    have h2 := alDs_len C cs
    rw [alDs, szNs, List.length_cons, List.length_append]; omega
end
theorem szN_pos (t : Nd) : 1 ≤ szN t := by cases t; rw [szN]; omega
theorem szNs_len : ∀ cs : List Nd, cs.length ≤ szNs cs
  | [] => Nat.zero_le _
  | c :: cs => by
    have := szN_pos c
    have := szNs_len cs
    rw [szNs, List.length_cons]; omega
theorem mark_len {m : Int} (h0 : 0 ≤ m) (h : m < 1000000000000) : (Str.ofString (toString m)).length ≤ 12 := PyProof.Rows.toString_length_le h0 (by decide) (by omega)
theorem mark_log {m : Int} (h0 : 0 ≤ m) (h : m < 1000000000000) : m.natAbs.log2 < 1920 := by
  have h1 : m.natAbs < 2 ^ 1920 := Nat.lt_of_lt_of_le (show m.natAbs < 1000000000000 by omega) (by decide +kernel)
  by_cases e : m.natAbs = 0
  · rw [e]; decide
  · exact (Nat.log2_lt e).mpr h1
theorem colon1 : (Str.ofString ":").length = 1 := by decide +kernel
theorem emp_app {z : Str} : Str.empty ++ z = z := sgs_ext (by rw [sgs_app]; rfl)
theorem slash1 : (Str.ofString "/").length = 1 := by decide +kernel
theorem head_len {n : Str} {m : Int} (h1 : n.length ≤ 8) (h2 : 0 ≤ m) (h3 : m < 1000000000000) : (n ++ ":" ++ Str.ofString (toString m)).length ≤ 21 := by
  have := mark_len h2 h3
  rw [len_app, len_app, colon1]; omega
mutual
theorem txN_len : ∀ {t : Nd}, okT t → (txN t).length + 1 ≤ 32 * szN t
  | .mk n m cs, h => by
    rw [okT] at h
    obtain ⟨h1, h2, h3, h4⟩ := h
    have a := txNs_len h4
    have b := join_le (ws := (n ++ ":" ++ Str.ofString (toString m)) :: (txNs cs ++ [("/" : Str)]))
    have c := head_len h1 h2 h3
    have e : (txNs cs).length = cs.length := by rw [txNs_map, List.length_map]
    rw [List.map_cons, List.sum_cons, List.map_append, List.sum_append, List.length_cons, List.length_append, e] at b
    have f : ([("/" : Str)].map (·.length)).sum = 1 := by simp [slash1]
    rw [f] at b
    rw [txN, szN]
    simp only [List.length_cons, List.length_nil] at b
    omega
theorem txNs_len : ∀ {cs : List Nd}, okTs cs → ((txNs cs).map (·.length)).sum + cs.length ≤ 32 * szNs cs
  | [], _ => by rw [txNs, szNs]; simp
  | c :: cs, h => by
    rw [okTs] at h
    have a := txN_len h.1
    have b := txNs_len h.2
    rw [txNs, szNs, List.map_cons, List.sum_cons, List.length_cons]; omega
end
def TrInitS (K : PySem.W.Frag) : SpecT := fun ss O R => ∃ (a C dx : Addr) (n : Str) (m : Int) (cs : List Nd) (d : Dat), ss = [.own a, .dat (.str n), .dat (.int m), .dat d] ∧ clsAt K "Tree" C ∧ O a = some (.ins C dx []) ∧ (d = .lst (ndDs C cs) ∨ d = .tup (ndDs C cs)) ∧
  okT (.mk n m cs) ∧ szNs cs ≤ 100000 ∧ ∀ q, O q = none → R (.ret (.dat .non)) (up (up O q (.tpl (.own a :: (alDs C cs).map .dat))) a (.ins C dx [("name", .dat (.str n)), ("mark", .dat (.int m)), ("children", .dat (.tup (ndDs C cs))), ("nodes", .own q), ("text", .dat (.str (txN (.mk n m cs))))]))
theorem up_swp {O : Own} {a q : Addr} {x t y : Cell} (h : q ≠ a) : up (up (up O a x) q t) a y = up (up O q t) a y := by
  funext b
  by_cases e : b = a
  · subst e; rw [up_at, up_at]
  · rw [up_ne e, up_ne e]
    by_cases f : b = q
    · subst f; rw [up_at, up_at]
    · rw [up_ne f, up_ne f, up_ne e]
def nmN : Nd → Str | .mk n _ _ => n
def mkN : Nd → Int | .mk _ m _ => m
def csN : Nd → List Nd | .mk _ _ cs => cs
section
variable {X : Cx} {O : Own} {ρ : List Slot} {x : ExK} {k : Slot → Own → Prop} {o : Expr} {pos : Pos} {C : Addr}
theorem cb_tupE {d : Dat} {ds : List Dat} (hd : d = .lst ds ∨ d = .tup ds) (h : k (.dat (.tup ds)) O) : CaB X (.type "tuple") [.dat d] O k := by
  rcases hd with rfl | rfl
  · exact cb_tupL h
  · exact cb_tupT h
theorem ew_nodes (c : Cls X.K C) (na : NoAttr X.K C "nodes") (h : EW X O ρ o x fun s O1 => ∃ t, s = .dat (ndD C t) ∧ k (.dat (.tup (ndD C t :: beD C t))) O1) (hb : attributeBase o "nodes" X.env (eval o X.env) = eval o X.env := by rfl) : EW X O ρ (.Attribute o "nodes" pos) x k :=
  ew_treN (h.mono fun s O1 ⟨t, e, hk⟩ => by
    obtain ⟨n, m, cs⟩ := t
    rw [ndD, beD] at hk
    rw [ndD] at e
    exact ⟨C, _, _, _, e, c, na, rfl, hk⟩) hb
theorem ew_tfld {f : Str} (c : Cls X.K C) (na : NoAttr X.K C f) {g : Nd → Dat} (nf : f ≠ "nodes") (ok : ∀ n m cs, ([("name", .str n), ("mark", .int m), ("children", .tup (ndDs C cs)), ("text", .str (txN (.mk n m cs)))] : List (Str × Dat)).lookup f = some (g (.mk n m cs)))
    (h : EW X O ρ o x fun s O1 => ∃ t, s = .dat (ndD C t) ∧ k (.dat (g t)) O1) (hb : attributeBase o f X.env (eval o X.env) = eval o X.env := by rfl) : EW X O ρ (.Attribute o f pos) x k :=
  ew_fld (h.mono fun s O1 ⟨t, e, hk⟩ => by
    obtain ⟨n, m, cs⟩ := t
    subst e
    have o1 := ok n m cs
    rw [ndD]
    exact ⟨_, c, na, nf, o1, hk⟩) hb
theorem ew_name (c : Cls X.K C) (na : NoAttr X.K C "name") (h : EW X O ρ o x fun s O1 => ∃ t, s = .dat (ndD C t) ∧ k (.dat (.str (nmN t))) O1) (hb : attributeBase o "name" X.env (eval o X.env) = eval o X.env := by rfl) : EW X O ρ (.Attribute o "name" pos) x k := ew_tfld (g := fun t => .str (nmN t)) c na (by decide) (fun _ _ _ => rfl) h hb
theorem ew_mark (c : Cls X.K C) (na : NoAttr X.K C "mark") (h : EW X O ρ o x fun s O1 => ∃ t, s = .dat (ndD C t) ∧ k (.dat (.int (mkN t))) O1) (hb : attributeBase o "mark" X.env (eval o X.env) = eval o X.env := by rfl) : EW X O ρ (.Attribute o "mark" pos) x k := ew_tfld (g := fun t => .int (mkN t)) c na (by decide) (fun _ _ _ => rfl) h hb
theorem ew_children (c : Cls X.K C) (na : NoAttr X.K C "children") (h : EW X O ρ o x fun s O1 => ∃ t, s = .dat (ndD C t) ∧ k (.dat (.tup (ndDs C (csN t)))) O1) (hb : attributeBase o "children" X.env (eval o X.env) = eval o X.env := by rfl) : EW X O ρ (.Attribute o "children" pos) x k := ew_tfld (g := fun t => .tup (ndDs C (csN t))) c na (by decide) (fun _ _ _ => rfl) h hb
theorem ew_text (c : Cls X.K C) (na : NoAttr X.K C "text") (h : EW X O ρ o x fun s O1 => ∃ t, s = .dat (ndD C t) ∧ k (.dat (.str (txN t))) O1) (hb : attributeBase o "text" X.env (eval o X.env) = eval o X.env := by rfl) : EW X O ρ (.Attribute o "text" pos) x k := ew_tfld (g := fun t => .str (txN t)) c na (by decide) (fun _ _ _ => rfl) h hb
end
section
variable {P : Program} {w : World} {K : PySem.W.Frag} {mg : Str → Option Value} {base : Heap}
theorem fn_Tree_init (T : TopOf K mg) (Z : Facts K) {f : Addr} {fd : FuncData} (F : FunX K "__init__" "Tree.__init__" s_Tree_init f fd) : Fn P w K mg base false (1) f fd ["self", "name", "mark", "children"] (TrInitS K) := by
  have sc := sc_Tree_init
  refine fn_mkX F sc_Tree_init (by walk_at "len") fun cdv A outer s H E ss O R hr hpo h => ?_
  obtain ⟨a, C, dx, n, m, cs, d, rfl, hC, ha, hd, hok, hsz, h⟩ := h
  obtain ⟨C', I_Tree, mI, mRd, mFe, mL, mIt, mE, mS, mEv, na1, na2, na3, na4, na5⟩ := Z.c_Tree
  obtain rfl := at_inj hC I_Tree.at_
  have hok2 := hok
  rw [okT] at hok2
  obtain ⟨k1, k2, k3, k4⟩ := hok2
  -- 0:self 1:name 2:mark 3:children 4:child 5:node
  refine sw_cons ?_
  refine s1_fld ?_
  refine ew_var 1 ?_
  refine ew_var 0 ?_
  refine ⟨a, C, dx, [], rfl, ha, I_Tree.ins.cl, na1, by decide, ?_⟩
  refine sw_cons ?_
  refine s1_fld ?_
  refine ew_var 2 ?_
  refine ew_var 0 ?_
  refine ⟨a, C, dx, _, rfl, up_at, I_Tree.ins.cl, na2, Nat.le_of_ble_eq_true rfl, ?_⟩
  rw [up_up]
  refine sw_cons ?_
  refine s1_fld ?_
  refine ew_callTy (T.no Z.n_tuple) bt_tuple ?_
  refine aw_cons ?_
  refine ew_var 3 ?_
  refine aw_nil ?_
  refine cb_tupE hd ?_
  refine ew_var 0 ?_
  refine ⟨a, C, dx, _, rfl, up_at, I_Tree.ins.cl, na3, Nat.le_of_ble_eq_true rfl, ?_⟩
  rw [up_up]
  refine sw_cons ?_
  refine s1_fld ?_
  refine ew_tupO ?_
  refine aw_cons ?_
  refine ew_var 0 ?_
  refine aw_starL ?_
  refine ew_frz ?_
  refine ew_lc2J [("child", 4), ("node", 5)] (vs1 := [5]) sc.nd (.name (i := 4) (by decide) fun Y ⟨_, _, _, _, _, e⟩ => by subst e; exact pg_name (i := 4) sc.nd rfl (.inl rfl) (.inr rfl)) (.name (i := 5) (by decide) fun Y ⟨_, _, _, _, _, e⟩ => by subst e; exact pg_name (i := 5) sc.nd rfl (.inl rfl) (.inr rfl)) (blkOk_by (N := N_Tree_init) (sc := defScope s_Tree_init) (by decide +kernel)) (by decide) ?_
  refine lc2_flat cs (ndD C) (fun c => ndD C c :: beD C c) id (fun _ e => e) (iw_tup (ew_fld (ew_var (s := .own a) 0 ⟨C, dx, _, _, up_at, I_Tree.ins.cl, na3, rfl, _, rfl, ndDs_map C cs, rfl⟩))) ?_ (fun t ht => ⟨_, rfl, fun O' Y hY => ?_, fun e he => ⟨_, rfl, fun O' Y hY => ?_⟩⟩) fun p hp => ?_
  · rw [← alDs_flat, alDs_len]; exact Nat.le_trans hsz (by decide)
  · obtain ⟨_, _, _, _, _, rfl⟩ := hY
    exact iw_tup (ew_nodes I_Tree.ins.cl na4 (ew_var 4 ⟨t, rfl, _, rfl, by rw [List.map_id], rfl⟩))
  · obtain ⟨_, _, _, _, _, rfl⟩ := hY
    exact ew_var 5 ⟨rfl, rfl⟩
  have ef : (cs.flatMap fun c => (ndD C c :: beD C c).map fun e => e) = alDs C cs := by rw [alDs_flat]; congr 1; funext c; rw [List.map_id']
  rw [ef]
  refine ⟨p, _, rfl, up_at, ?_⟩
  rw [dn_up hp]
  refine ⟨_, rfl, ?_⟩
  refine aw_nil ?_
  rw [List.append_nil]
  refine ⟨?_, fun q hq => ?_⟩
  · rw [List.length_cons, List.length_map, alDs_len]
    exact Nat.le_trans (show _ ≤ 100001 by omega) (by decide)
  refine ew_var 0 ?_
  have nqa : q ≠ a := fun e => by rw [e, up_at] at hq; cases hq
  refine ⟨a, C, dx, _, rfl, by rw [up_ne nqa.symm]; exact up_at, I_Tree.ins.cl, na4, Nat.le_of_ble_eq_true rfl, ?_⟩
  rw [up_swp nqa]
  refine sw_one ?_
  refine s1_fld ?_
  refine ew_join ?_
  refine ew_str ?_
  refine ⟨_, rfl, ?_⟩
  refine ew_lstD ?_
  refine aw_cons ?_
  refine ew_joined ?_
  refine ew_fmt ?_
  refine ew_var 1 ?_
  refine .inl ⟨_, rfl, Nat.le_trans k1 (by decide), ?_⟩
  refine ⟨_, rfl, by rw [emp_app]; exact Nat.le_trans k1 (by decide), ?_⟩
  refine ew_str ?_
  refine ⟨_, rfl, by rw [emp_app, len_app, colon1]; exact Nat.le_trans (Nat.add_le_add_right k1 1) (by decide), ?_⟩
  refine ew_fmt ?_
  refine ew_var 2 ?_
  refine .inr ⟨m, rfl, mark_log k2 k3, ?_⟩
  refine ⟨_, rfl, by rw [emp_app]; exact Nat.le_trans (head_len k1 k2 k3) (by decide), ?_⟩
  rw [emp_app]
  refine aw_starL ?_
  refine ew_map1 cs (ndD C) (fun c => .str (txN c)) [("child", 4)] sc.nd (.name (i := 4) (by decide) fun Y ⟨_, _, _, _, _, e⟩ => by subst e; exact pg_name (i := 4) sc.nd rfl (.inl rfl) (.inr rfl)) (blkOk_by (N := N_Tree_init) (sc := defScope s_Tree_init) (by decide +kernel)) (iw_tup (ew_fld (ew_var (s := .own a) 0 ⟨C, dx, _, _, up_at, I_Tree.ins.cl, na3, rfl, _, rfl, ndDs_map C cs, rfl⟩))) (Nat.le_trans (Nat.le_trans (szNs_len cs) hsz) (by decide)) (fun t ht => ⟨_, rfl, fun O' Y hY => ?_⟩) ?_
  · obtain ⟨_, _, _, _, _, rfl⟩ := hY
    exact ew_text I_Tree.ins.cl na5 (ew_var 4 ⟨t, rfl, rfl, rfl⟩)
  refine ⟨_, rfl, ?_⟩
  refine aw_cons ?_
  refine ew_str ?_
  refine aw_nil ?_
  refine ⟨.str (n ++ ":" ++ Str.ofString (toString m)) :: ((txNs cs).map .str ++ [.str "/"]), ?_, ?_, ?_⟩
  · rw [txNs_map, List.map_cons, List.map_append, List.map_map, List.map_map, List.map_map]; rfl
  · rw [List.length_cons, List.length_append, List.length_map, txNs_map, List.length_map]
    exact Nat.le_trans (show _ ≤ 100002 by have := szNs_len cs; simp only [List.length_cons, List.length_nil]; omega) (by decide)
  
  rw [show (Dat.str (n ++ ":" ++ Str.ofString (toString m)) :: ((txNs cs).map Dat.str ++ [Dat.str "/"])) = ((n ++ ":" ++ Str.ofString (toString m)) :: (txNs cs ++ [("/" : Str)])).map Dat.str by rw [List.map_cons, List.map_append]; rfl]
  refine m1_join ?_ ?_
  · have b1 := txNs_len k4
    have b2 := head_len k1 k2 k3
    have b3 := szNs_len cs
    have b4 : (txNs cs).length = cs.length := by rw [txNs_map, List.length_map]
    rw [show (Str.ofString " ").length = 1 by decide +kernel, List.map_cons, List.sum_cons, List.map_append, List.sum_append, List.length_cons, List.length_append, b4, show ([("/" : Str)].map (·.length)).sum = 1 by simp [slash1]]
    simp only [List.length_cons, List.length_nil]
    omega
  rw [show Txt.join " " ((n ++ ":" ++ Str.ofString (toString m)) :: (txNs cs ++ [("/" : Str)])) = txN (.mk n m cs) by rw [txN]]
  refine ew_var 0 ?_
  refine ⟨a, C, dx, _, rfl, up_at, I_Tree.ins.cl, na5, Nat.le_of_ble_eq_true rfl, ?_⟩
  rw [up_up]
  rw [up_ne nqa] at hq
  exact h q hq
end
mutual
def lwD : Nd → Dat
  | .mk n m cs => .tup [.str n, .int m, .tup (lwDs cs)]
def lwDs : List Nd → List Dat
  | [] => []
  | c :: cs => lwD c :: lwDs cs
end
theorem lwDs_map : ∀ cs : List Nd, lwDs cs = cs.map lwD
  | [] => by rw [lwDs]; rfl
  | c :: cs => by rw [lwDs, lwDs_map cs]; rfl
mutual
def htN : Nd → Nat
  | .mk _ _ cs => 1 + htNs cs
def htNs : List Nd → Nat
  | [] => 0
  | c :: cs => max (htN c) (htNs cs)
end
theorem htN_pos (t : Nd) : 1 ≤ htN t := by cases t; rw [htN]; omega
theorem htNs_mem : ∀ {cs : List Nd} {c : Nd}, c ∈ cs → htN c ≤ htNs cs
  | d :: cs, c, h => by
    rw [htNs]
    rcases List.mem_cons.mp h with rfl | h
    · exact Nat.le_max_left _ _
    · exact Nat.le_trans (htNs_mem h) (Nat.le_max_right _ _)
theorem nd_eq (t : Nd) : ∃ nm mk cs, t = Nd.mk nm mk cs := by cases t; exact ⟨_, _, _, rfl⟩
theorem lw_mk (nm : Str) (mk : Int) (cs : List Nd) : lwD (.mk nm mk cs) = .tup [.str nm, .int mk, .tup (lwDs cs)] := by rw [lwD]
mutual
/-- the events of a tree -/
def evsN : Nd → List Ev
  | .mk n m cs => some (n, m) :: (evsNs cs ++ [none])
def evsNs : List Nd → List Ev
  | [] => []
  | c :: cs => evsN c ++ evsNs cs
end
mutual
theorem evsN_len : ∀ t : Nd, (evsN t).length = 2 * szN t
  | .mk n m cs => by rw [evsN, szN, List.length_cons, List.length_append, evsNs_len cs, List.length_singleton]; omega
theorem evsNs_len : ∀ cs : List Nd, (evsNs cs).length = 2 * szNs cs
  | [] => by rw [evsNs, szNs]; rfl
  | c :: cs => by rw [evsNs, szNs, List.length_append, evsN_len c, evsNs_len cs]; omega
end
theorem evsNs_app (c : Nd) : ∀ cs : List Nd, evsNs (cs ++ [c]) = evsNs cs ++ evsN c
  | [] => by rw [List.nil_append, evsNs]; simp [evsNs]
  | d :: cs => by rw [List.cons_append, evsNs, evsNs_app c cs, evsNs, List.append_assoc]
theorem szNs_takeS : ∀ {cs : List Nd} {i : Nat} {c : Nd}, cs[i]? = some c → szNs (cs.take i) + szN c ≤ szNs cs
  | [], _, _, h => by simp at h
  | d :: cs, 0, c, h => by
    simp only [List.getElem?_cons_zero, Option.some.injEq] at h
    subst h
    rw [List.take_zero, szNs, szNs]; omega
  | d :: cs, i + 1, c, h => by
    rw [List.getElem?_cons_succ] at h
    have := szNs_takeS h
    rw [List.take_succ_cons, szNs, szNs]; omega
def LEvS (n : Nat) : SpecT := fun ss O R => ∃ t : Nd, ss = [.dat (lwD t)] ∧ htN t ≤ n ∧ szN t ≤ 1000 ∧ R (.ret (.dat (.lst ((evsN t).map evD)))) O
theorem zero_law_events {ss : List Slot} {O : Own} {R : Out → Own → Prop} (h : LEvS 0 ss O R) : False := by
  obtain ⟨t, _, h0, _⟩ := h
  have := htN_pos t
  omega
def TextS : SpecT := fun ss O R => ∃ es : List Ev, ss = [.dat (.lst (es.map evD))] ∧ es.length ≤ 1000 ∧ (∀ e ∈ es, smallE e) ∧ R (.ret (.dat (.str (textE es)))) O
section
variable {P : Program} {w : World} {K : PySem.W.Frag} {mg : Str → Option Value} {base : Heap}
theorem fn_law_text (T : TopOf K mg) (Z : Facts K) {f : Addr} {fd : FuncData} (F : L2.Fun K "_law_text" "_law_text" s_law_text f fd) : Fn P w K mg base false 1 f fd ["_law_events_here"] TextS := by
  have sc := sc_law_text
  refine fn_mk F sc_law_text (fun ss O R h => by obtain ⟨_, rfl, _⟩ := h; rfl) fun cdv A outer s H E ss O R hr hpo h => ?_
  obtain ⟨es, rfl, hl, hs, h⟩ := h
  -- 0:_law_events 1:_law_event
  refine sw_one ?_
  refine s1_ret ?_
  refine ew_join ?_
  refine ew_str ?_
  refine ⟨_, rfl, ?_⟩
  refine ew_map1 es evD (fun e => .str (wordE e)) [("_law_event", 1)] sc.nd (.name (i := 1) (by decide) fun Y ⟨_, _, _, _, _, e⟩ => by subst e; exact pg_name (i := 1) sc.nd rfl (.inl rfl) (.inr rfl)) (blkOk_by (N := N_law_text) (sc := defScope s_law_text) (by decide +kernel)) (iw_list (ew_var 0 ⟨_, rfl, rfl, rfl⟩)) (Nat.le_trans hl (by decide)) (fun e he => ⟨_, rfl, fun O' Y hY => ?_⟩) ?_
  · obtain ⟨_, _, _, _, _, rfl⟩ := hY
    have hse := hs e he
    refine ew_if ?_
    refine tw_cmp ?_
    refine ew_callB (T.no Z.n_len) bt_len ?_
    refine aw_cons ?_
    refine ew_var 1 ?_
    refine aw_nil ?_
    cases e with
    | none =>
      refine cb_lenT ?_
      refine ew_int ?_
      walk_at "cmp Gt"
      refine ⟨_, rfl, fun ht => ?_, fun ht => ?_⟩
      · exact absurd ht (by decide +kernel)
      · refine ew_str ?_
        exact ⟨rfl, rfl⟩
    | some q =>
      obtain ⟨n, m⟩ := q
      obtain ⟨h1, h2, h3⟩ := hse
      have h4 := num_len h2 h3
      refine cb_lenT ?_
      refine ew_int ?_
      walk_at "cmp Gt"
      refine ⟨_, rfl, fun ht => ?_, fun ht => ?_⟩
      · refine ew_bin ?_
        refine ew_bin ?_
        refine ew_ix ?_
        refine ew_var 1 ?_
        refine ew_int ?_
        refine ix_tpl (atI_nat (j := 1) rfl) ?_
        refine ew_str ?_
        refine ob_cat (by rw [colon_len]; exact Nat.le_trans (Nat.add_le_add_right h1 1) (by decide)) ?_
        refine ew_callTy (T.no Z.n_str) bt_str ?_
        refine aw_cons ?_
        refine ew_ix ?_
        refine ew_var 1 ?_
        refine ew_int ?_
        refine ix_tpl (atI_nat (j := 2) rfl) ?_
        refine aw_nil ?_
        refine cb_strI (num_log h2 h3) ?_
        refine ob_cat (by rw [len_app, colon_len]; exact Nat.le_trans (Nat.add_le_add (Nat.add_le_add_right h1 1) h4) (by decide)) ?_
        exact ⟨rfl, rfl⟩
      · have ht : decide ((1 : Int) < 3) = false := ht
        exact absurd ht (by decide)
  · have e : (es.map fun e => Dat.str (wordE e)) = (es.map wordE).map .str := by rw [List.map_map]; rfl
    rw [e]
    refine m1_join ?_ h
    have hb := sum_le (g := fun e : Ev => (wordE e).length) (b := 201) fun e he => wordE_len (hs e he)
    rw [List.map_map, List.length_map, show (Str.ofString " ").length = 1 by decide +kernel]
    show (es.map fun e => (wordE e).length).sum + es.length * 1 ≤ _
    omega
theorem c_law_text (T : TopOf K mg) (Z : Facts K) : Cal P w K mg base false 1 "_law_text" TextS [] := cal_of T Z.d_law_text (by walk_at "b1") fun f fd F => fn_law_text T Z F
theorem fn_law_events (T : TopOf K mg) (Z : Facts K) : ∀ (n : Nat) {f : Addr} {fd : FuncData} (F : L2.Fun K "_law_events" "_law_events" s_law_events f fd), Fn P w K mg base false (n + 2) f fd ["_law_tree_here"] (LEvS n)
  | 0, f, fd, F => by
    refine fn_mk F sc_law_events (by walk_at "len") fun cdv A outer s H E ss O R hr hpo h => ?_
    exact (zero_law_events h).elim
  | n + 1, f, fd, F => by
    have cr : Cal P w K mg base false (n + 2) "_law_events" (LEvS n) [] := cal_of T Z.d_law_events (by walk_at "b1") fun f fd F => fn_law_events T Z n F
    have sc := sc_law_events
    refine fn_mk F sc_law_events (by walk_at "len") fun cdv A outer s H E ss O R hr hpo h => ?_
    obtain ⟨t, rfl, hn, hz, h⟩ := h
    obtain ⟨nm, mk, cs, rfl⟩ := nd_eq t
    rw [htN] at hn
    rw [szN] at hz
    rw [lw_mk]
    rw [evsN] at h
    -- 0:_law_tree_here 1:_law_name 2:_law_mark 3:_law_children 4:_law_found 5:_law_child
    refine sw_cons ?_
    refine s1_asg ?_
    refine ew_var 0 ?_
    refine gw_tup ?_
    refine gsw_cons ?_
    refine gw_name 1 ?_ sc.nd
    refine gsw_cons ?_
    refine gw_name 2 ?_ sc.nd
    refine gsw_cons ?_
    refine gw_name 3 ?_ sc.nd
    refine gsw_nil ?_
    refine sw_cons ?_
    refine s1_set 4 ?_ sc.nd
    refine ew_lst ?_
    refine aw_cons ?_
    refine ew_tup ?_
    refine aw_cons ?_
    refine ew_str ?_
    refine aw_cons ?_
    refine ew_var 1 ?_
    refine aw_cons ?_
    refine ew_var 2 ?_
    refine aw_nil ?_
    refine ⟨[_, _, _], rfl, by walk_at "few", ?_⟩
    refine aw_nil ?_
    refine ⟨Nat.le_of_ble_eq_true rfl, fun m hm => ?_⟩
    refine sw_cons ?_
    refine s1_for hpo ?_
    refine iw_tup ?_
    refine ew_var 3 ?_
    refine ⟨_, rfl, ?_⟩
    refine ⟨fun i ρ' O' => ∃ s5 : Slot, ρ' = [.dat (.tup [.str nm, .int mk, .tup (lwDs cs)]), .dat (.str nm), .dat (.int mk), .dat (.tup (lwDs cs)), .own m, s5] ∧ O' = up O m (.lst (((some (nm, mk) :: evsNs (cs.take i)).map evD).map .dat)), ?_, ?_, ?_⟩
    · refine ⟨_, rfl, ?_⟩
      rw [List.take_zero, evsNs]
      rfl
    · intro i d ρ2 O2 hj hd
      obtain ⟨s5, rfl, rfl⟩ := hj
      rw [lwDs_map, List.getElem?_map] at hd
      obtain ⟨c, hc, rfl⟩ := Option.map_eq_some_iff.mp hd
      have hta : cs.take (i + 1) = cs.take i ++ [c] := by rw [List.take_add_one, hc]; rfl
      have h1 := szNs_takeS hc
      have h2 := htNs_mem (List.mem_of_getElem? hc)
      refine gw_name 5 ?_ sc.nd
      refine sw_one ?_
      refine s1_expr ?_
      refine ew_extend ?_
      refine ew_var 4 ?_
      refine ⟨?_, ?_⟩
      · exact ⟨rfl, _, up_at⟩
      refine ew_call cr hr ?_ (hj := by omega)
      refine aw_cons ?_
      refine ew_var 5 ?_
      refine aw_nil ?_
      refine ⟨c, rfl, by omega, by omega, ?_⟩
      
      refine mb_extendL up_at (by rw [List.length_map, List.length_map, List.length_cons, evsNs_len, List.length_map, evsN_len, sizeLine_eq]; omega) ?_
      refine ⟨_, rfl, ?_⟩
      rw [up_up, hta, evsNs_app, ← List.map_append, ← List.map_append]
      rfl
    · intro ρ2 O2 hj
      obtain ⟨s5, rfl, rfl⟩ := hj
      rw [lwDs_map, List.length_map, List.take_length]
      refine sw_frz 4 (ds := (some (nm, mk) :: evsNs cs).map evD) up_at ?_
      rw [dn_up hm]
      refine sw_one ?_
      refine s1_ret ?_
      refine ew_bin ?_
      refine ew_var 4 ?_
      refine ew_lstD ?_
      refine aw_cons ?_
      refine ew_tup ?_
      refine aw_cons ?_
      refine ew_str ?_
      refine aw_nil ?_
      refine ⟨[_], rfl, by walk_at "few", ?_⟩
      refine aw_nil ?_
      refine ⟨[_], rfl, by walk_at "few", ?_⟩
      
      refine ob_catL (by rw [List.length_map, List.length_cons, evsNs_len, sizeLine_eq]; show _ + 1 ≤ _; omega) ?_
      rw [show ([Dat.tup [.str "close"]] : List Dat) = [(none : Ev)].map evD from rfl, ← List.map_append]
      exact h
theorem c_law_events (T : TopOf K mg) (Z : Facts K) (n : Nat) : Cal P w K mg base false (n + 2) "_law_events" (LEvS n) [] := cal_of T Z.d_law_events (by walk_at "b1") fun f fd F => fn_law_events T Z n F
end
structure Op where
  n : Str
  m : Int
  cs : List Nd
def opD (q : Op) : Dat := .tup [.str q.n, .int q.m]
theorem sum_len : ∀ st : List Op, st.length ≤ (st.map fun q => 1 + szNs q.cs).sum
  | [] => Nat.zero_le _
  | p :: st => by
    have := sum_len st
    rw [List.map_cons, List.sum_cons, List.length_cons]; omega
structure HT (O : Own) (p hq rq : Addr) (b : Cell) (st : List Op) (ls : List Addr) (O' : Own) : Prop where
  box : O' p = some b
  isb : isBox b
  h : O' hq = some (.lst ((st.reverse.map opD).map .dat))
  r : O' rq = some (.lst (ls.reverse.map .own))
  k : Paired (fun a q => O' a = some (.lst ((q.cs.map lwD).map .dat))) ls st
  ph : p ≠ hq
  pr : p ≠ rq
  hr : hq ≠ rq
  nk : ∀ a ∈ ls, a ≠ p ∧ a ≠ hq ∧ a ≠ rq
  nl : ls.Nodup
  keep : ∀ q v, q ≠ p → O q = some v → O' q = some v
  nh : O hq = none
  nr : O rq = none
  ns : ∀ a ∈ ls, O a = none
def closeOp (q q2 : Op) : Op := ⟨q2.n, q2.m, q2.cs ++ [Nd.mk q.n q.m q.cs]⟩
section
variable {O O' : Own} {p hq rq : Addr} {b : Cell} {st : List Op} {ls : List Addr}
theorem ne_free {x y : Addr} {v : Cell} (h : O x = none) (e : O y = some v) : y ≠ x := fun z => by rw [z, h] at e; cases e
theorem HT.draw {b' : Cell} (h : HT O p hq rq b st ls O') (hb : isBox b') : HT O p hq rq b' st ls (up O' p b') where
  box := up_at
  isb := hb
  h := by rw [up_ne h.ph.symm]; exact h.h
  r := by rw [up_ne h.pr.symm]; exact h.r
  k := by
    have hk := h.k
    have nk := h.nk
    clear h
    induction hk with
    | nil => exact .nil
    | cons e _ ih => exact .cons (by rw [up_ne (nk _ (List.mem_cons_self ..)).1]; exact e) (ih fun a ha => nk a (List.mem_cons_of_mem _ ha))
  ph := h.ph
  pr := h.pr
  hr := h.hr
  nk := h.nk
  nl := h.nl
  keep := fun q v n e => by rw [up_ne n]; exact h.keep q v n e
  nh := h.nh
  nr := h.nr
  ns := h.ns
theorem paired_keep {O1 : Own} {ls : List Addr} {st : List Op} (hk : Paired (fun a q => O' a = some (.lst ((q.cs.map lwD).map .dat))) ls st) (e : ∀ a ∈ ls, O1 a = O' a) : Paired (fun a q => O1 a = some (.lst ((q.cs.map lwD).map .dat))) ls st := by
  induction hk with
  | nil => exact .nil
  | cons h _ ih => exact .cons (by rw [e _ (List.mem_cons_self ..)]; exact h) (ih fun a ha => e a (List.mem_cons_of_mem _ ha))
/-- the last open node is closed -/
theorem HT.close {a a2 : Addr} {q q2 : Op} {r : List Op} (h : HT O p hq rq b (q :: q2 :: r) (a :: a2 :: ls) O') :
    HT O p hq rq b (closeOp q q2 :: r) (a2 :: ls) (up (up (dn (up O' rq (.lst ((a2 :: ls).reverse.map .own))) a) hq (.lst (((q2 :: r).reverse.map opD).map .dat))) a2 (.lst (((q2.cs ++ [Nd.mk q.n q.m q.cs]).map lwD).map .dat))) := by
  have na := h.nk a (List.mem_cons_self ..)
  have na2 := h.nk a2 (List.mem_cons_of_mem _ (List.mem_cons_self ..))
  have hnl := h.nl
  rw [List.nodup_cons, List.nodup_cons] at hnl
  have naa : a2 ≠ a := fun e => hnl.1 (by rw [← e]; exact List.mem_cons_self ..)
  have hk := h.k
  cases hk with
  | cons e1 hk =>
    cases hk with
    | cons e2 hk =>
      refine ⟨?_, h.isb, ?_, ?_, .cons (by rw [up_at]; rfl) (paired_keep hk fun c hc => ?_), h.ph, h.pr, h.hr, fun c hc => h.nk c (List.mem_cons_of_mem _ hc), by rw [List.nodup_cons]; exact hnl.2, fun x v n e => ?_, h.nh, h.nr, fun c hc => h.ns c (List.mem_cons_of_mem _ hc)⟩
      · rw [up_ne na2.1.symm, up_ne h.ph, dn_ne na.1.symm, up_ne h.pr]; exact h.box
      · rw [up_ne na2.2.1.symm, up_at, List.reverse_cons, List.reverse_cons, List.map_append (f := opD), List.map_append (f := opD)]; rfl
      · rw [up_ne na2.2.2.symm, up_ne h.hr.symm, dn_ne na.2.2.symm, up_at]
      · have nc := h.nk c (List.mem_cons_of_mem _ (List.mem_cons_of_mem _ hc))
        have c2 : c ≠ a2 := fun e => hnl.2.1 (e ▸ hc)
        have c1 : c ≠ a := fun e => hnl.1 (List.mem_cons_of_mem _ (e ▸ hc))
        rw [up_ne c2, up_ne nc.2.1, dn_ne c1, up_ne nc.2.2]
      · have x1 : x ≠ a2 := ne_free (h.ns a2 (List.mem_cons_of_mem _ (List.mem_cons_self ..))) e
        have x2 : x ≠ hq := ne_free h.nh e
        have x3 : x ≠ a := ne_free (h.ns a (List.mem_cons_self ..)) e
        have x4 : x ≠ rq := ne_free h.nr e
        rw [up_ne x1, up_ne x2, dn_ne x3, up_ne x4]; exact h.keep x v n e
/-- a node is opened -/
theorem HT.open {a : Addr} {n : Str} {m : Int} (h : HT O p hq rq b st ls O') (hn : up O' hq (.lst (((⟨n, m, []⟩ :: st : List Op).reverse.map opD).map .dat)) a = none) :
    HT O p hq rq b (⟨n, m, []⟩ :: st) (a :: ls) (up (up (up O' hq (.lst (((⟨n, m, []⟩ :: st : List Op).reverse.map opD).map .dat))) a (.lst [])) rq (.lst ((a :: ls).reverse.map .own))) := by
  have ah : a ≠ hq := fun e => by rw [e, up_at] at hn; cases hn
  have hn : O' a = none := by rw [up_ne ah] at hn; exact hn
  have ap : a ≠ p := fun e => by rw [e, h.box] at hn; cases hn
  have ar : a ≠ rq := fun e => by rw [e, h.r] at hn; cases hn
  have al : a ∉ ls := fun hm => by
    have : ∀ {ls : List Addr} {st : List Op}, Paired (fun a q => O' a = some (.lst ((q.cs.map lwD).map .dat))) ls st → a ∈ ls → ∃ v, O' a = some v := by
      intro ls st hk hm
      induction hk with
      | nil => cases hm
      | cons e _ ih =>
        rcases List.mem_cons.mp hm with rfl | hm
        · exact ⟨_, e⟩
        · exact ih hm
    obtain ⟨v, e⟩ := this h.k hm
    rw [hn] at e; cases e
  refine ⟨?_, h.isb, ?_, up_at, .cons ?_ (paired_keep h.k fun c hc => ?_), h.ph, h.pr, h.hr, fun c hc => ?_, List.nodup_cons.mpr ⟨al, h.nl⟩, fun x v n e => ?_, h.nh, h.nr, fun c hc => ?_⟩
  · rw [up_ne h.pr, up_ne ap.symm, up_ne h.ph]; exact h.box
  · rw [up_ne h.hr, up_ne ah.symm, up_at]
  · rw [up_ne ar, up_at]; rfl
  · have nc := h.nk c hc
    have ca : c ≠ a := fun e => al (by rw [← e]; exact hc)
    rw [up_ne nc.2.2, up_ne ca, up_ne nc.2.1]
  · rcases List.mem_cons.mp hc with rfl | hc
    · exact ⟨ap, ah, ar⟩
    · exact h.nk c hc
  · have x1 := ne_free h.nh e
    have x2 := ne_free h.nr e
    have e' := h.keep x v n e
    have x3 : x ≠ a := fun z => by rw [z, hn] at e'; cases e'
    rw [up_ne x2, up_ne x3, up_ne x1]; exact e'
  · rcases List.mem_cons.mp hc with rfl | hc
    · cases e : O c with
      | none => rfl
      | some v => rw [h.keep c v ap e] at hn; cases hn
    · exact h.ns c hc
end
def mkOk (m : Int) : Prop := 0 ≤ m ∧ m < 1000000
def gdT (t : Nd) : Prop := ∀ n m, some (n, m) ∈ evsN t → isNm n = true ∧ mkOk m
structure OpsG (st : List Op) (k : Nat) : Prop where
  nm : ∀ q ∈ st, isNm q.n = true ∧ mkOk q.m
  kids : ∀ q ∈ st, ∀ c ∈ q.cs, gdT c
  sz : (st.map fun q => 1 + szNs q.cs).sum = k
theorem evsNs_in {e : Ev} : ∀ {cs : List Nd}, e ∈ evsNs cs → ∃ c ∈ cs, e ∈ evsN c
  | [], h => by rw [evsNs] at h; cases h
  | c :: cs, h => by
    rw [evsNs] at h
    rcases List.mem_append.mp h with h | h
    · exact ⟨c, List.mem_cons_self .., h⟩
    · obtain ⟨d, h1, h2⟩ := evsNs_in h
      exact ⟨d, List.mem_cons_of_mem _ h1, h2⟩
theorem gd_mk {n : Str} {m : Int} {cs : List Nd} (h : isNm n = true ∧ mkOk m) (hc : ∀ c ∈ cs, gdT c) : gdT (Nd.mk n m cs) := fun n' m' e => by
  rw [evsN] at e
  rcases List.mem_cons.mp e with e | e
  · cases e; exact h
  · rcases List.mem_append.mp e with e | e
    · obtain ⟨c, h1, h2⟩ := evsNs_in e
      exact hc c h1 n' m' h2
    · cases List.mem_singleton.mp e
theorem szNs_snoc (c : Nd) : ∀ cs : List Nd, szNs (cs ++ [c]) = szNs cs + szN c
  | [] => by
    have e : szNs ([] : List Nd) = 0 := by rw [szNs]
    have e1 : szNs [c] = szN c + szNs [] := by simp only [szNs]
    rw [List.nil_append, e1, e]; omega
  | d :: cs => by rw [List.cons_append, szNs, szNs_snoc c cs, szNs]; omega
theorem OpsG.close {q q2 : Op} {r : List Op} {k : Nat} (h : OpsG (q :: q2 :: r) k) : OpsG (closeOp q q2 :: r) k := by
  have hq := h.nm q (List.mem_cons_self ..)
  have hq2 := h.nm q2 (List.mem_cons_of_mem _ (List.mem_cons_self ..))
  refine ⟨fun x hx => ?_, fun x hx c hc => ?_, ?_⟩
  · rcases List.mem_cons.mp hx with rfl | hx
    · exact hq2
    · exact h.nm x (List.mem_cons_of_mem _ (List.mem_cons_of_mem _ hx))
  · rcases List.mem_cons.mp hx with rfl | hx
    · rcases List.mem_append.mp hc with hc | hc
      · exact h.kids q2 (List.mem_cons_of_mem _ (List.mem_cons_self ..)) c hc
      · rw [List.mem_singleton.mp hc]
        exact gd_mk hq (h.kids q (List.mem_cons_self ..))
    · exact h.kids x (List.mem_cons_of_mem _ (List.mem_cons_of_mem _ hx)) c hc
  · have := h.sz
    rw [List.map_cons, List.map_cons, List.sum_cons, List.sum_cons] at this
    rw [List.map_cons, List.sum_cons]
    show 1 + szNs (q2.cs ++ [Nd.mk q.n q.m q.cs]) + _ = k
    rw [szNs_snoc, szN]; omega
theorem OpsG.open {st : List Op} {k : Nat} {n : Str} {m : Int} (h : OpsG st k) (hn : isNm n = true) (hm : mkOk m) : OpsG (⟨n, m, []⟩ :: st) (k + 1) := by
  refine ⟨fun x hx => ?_, fun x hx c hc => ?_, ?_⟩
  · rcases List.mem_cons.mp hx with rfl | hx
    · exact ⟨hn, hm⟩
    · exact h.nm x hx
  · rcases List.mem_cons.mp hx with rfl | hx
    · cases hc
    · exact h.kids x hx c hc
  · have := h.sz
    rw [List.map_cons, List.sum_cons]
    show 1 + szNs [] + _ = k + 1
    rw [szNs]; omega
theorem cut_two {α : Type} {l : List α} {a b : Int} (h : 0 ≤ a) (hb : a ≤ b) : cutD l (some a) (some b) = (l.drop a.toNat).take (b.toNat - a.toNat) := by
  obtain ⟨m, rfl⟩ := Int.eq_ofNat_of_zero_le h
  obtain ⟨n, rfl⟩ := Int.eq_ofNat_of_zero_le (Int.le_trans h hb)
  have hmn : m ≤ n := by omega
  unfold Kn.cutD
  rw [show HT.sIx l.length 0 (some (m : Int)) = min m l.length from HT.sIx_nat _ _ m, show HT.sIx l.length l.length (some (n : Int)) = min n l.length from HT.sIx_nat _ _ n, Int.toNat_natCast, Int.toNat_natCast]
  by_cases q : m ≤ l.length
  · rw [Nat.min_eq_left q]
    by_cases q2 : n ≤ l.length
    · rw [Nat.min_eq_left q2]
    · rw [Nat.min_eq_right (by omega), List.take_of_length_le (by rw [List.length_drop]; omega), List.take_of_length_le (by rw [List.length_drop]; omega)]
  · rw [List.drop_of_length_le (show l.length ≤ min m l.length by omega), List.drop_of_length_le (show l.length ≤ m by omega), List.take_nil, List.take_nil]
def TreeS : SpecT := fun ss O R => ∃ (p : Addr) (b : Cell) (ws : List Str) (m : Int), ss = [.own p, .dat (.lst (ws.map .str)), .dat (.int m)] ∧ O p = some b ∧ isBox b ∧ 0 < ws.length ∧ ws.length ≤ 20 ∧ (∀ y ∈ ws, isNm y = true) ∧ 1 ≤ m ∧ m ≤ 100 ∧
  ∀ (b' : Cell) (t : Nd), isBox b' → gdT t → (szN t : Int) ≤ m → R (.ret (.dat (lwD t))) (up O p b')
/-- the marks that are drawn from -/
def marks0 (n : Nat) : List Int := [0, 1, 2, 1000, 999999] ++ (List.range n).map fun (i : Nat) => 3 + (i : Int)
theorem marks0_len (n : Nat) : (marks0 n).length = 5 + n := by unfold marks0; rw [List.length_append, List.length_map, List.length_range]; rfl
theorem marks_eq (n : Nat) : ([.int 0, .int 1, .int 2, .int 1000, .int 999999] ++ rangeD 3 n : List Dat) = (marks0 n).map .int := by
  unfold marks0 rangeD
  rw [List.map_append, List.map_map]; rfl
theorem marks0_ok {n : Nat} {x : Int} (hn : n ≤ 1000) (h : x ∈ marks0 n) : mkOk x := by
  unfold marks0 at h
  rcases List.mem_append.mp h with h | h
  · simp only [List.mem_cons, List.not_mem_nil, or_false] at h
    rcases h with rfl | rfl | rfl | rfl | rfl <;> constructor <;> decide
  · obtain ⟨i, hi, rfl⟩ := List.mem_map.mp h
    have := List.mem_range.mp hi
    constructor <;> omega
section
variable {P : Program} {w : World} {K : PySem.W.Frag} {mg : Str → Option Value} {base : Heap}
theorem fn_law_tree (T : TopOf K mg) (Z : Facts K) {f : Addr} {fd : FuncData} (F : L2.Fun K "_law_tree" "_law_tree" s_law_tree f fd) : Fn P w K mg base false (4) f fd ["_law_box_here", "_law_names_here", "_law_most"] (TreeS) := by
  have sc := sc_law_tree
  refine fn_mk F sc_law_tree (by walk_at "len") fun cdv A outer s H E ss O R hr hpo h => ?_
  obtain ⟨p, b, ws, m, rfl, hp, hb, hw0, hw1, hwn, hm0, hm1, h⟩ := h
  refine sw_drop ?_
  -- 0:_law_box_here 1:_law_names_here 2:_law_most 3:_law_marks 4:_law_heads 5:_law_rows 6:_law_mark 7:_law_turn 8:_law_children
  refine sw_cons ?_
  refine s1_set 3 ?_ sc.nd
  refine ew_frz ?_
  refine ew_call (c_law_mixed T Z) hr ?_
  refine aw_cons ?_
  refine ew_var 0 ?_
  refine aw_cons ?_
  refine ew_bin ?_
  refine ew_lstD ?_
  refine aw_cons ?_
  refine ew_int ?_
  refine aw_cons ?_
  refine ew_int ?_
  refine aw_cons ?_
  refine ew_int ?_
  refine aw_cons ?_
  refine ew_int ?_
  refine aw_cons ?_
  refine ew_int ?_
  refine aw_nil ?_
  refine ⟨[_, _, _, _, _], rfl, by walk_at "few", ?_⟩
  refine ew_frz ?_
  refine ew_listRange2 (T.no Z.n_list) (T.no Z.n_range) ?_
  refine ew_int ?_
  refine ew_bin ?_
  refine ew_int ?_
  refine ew_var 2 ?_
  refine ob_add ?_
  refine ⟨3, 4 + m, rfl, rfl, ⟨by decide, by decide, by omega, by omega, by omega⟩, fun q0 hq0 => ?_⟩
  refine ⟨q0, _, rfl, up_at, ?_⟩
  rw [dn_up hq0]
  refine ob_catL (by rw [rangeD_len, sizeLine_eq]; simp only [List.length_cons, List.length_nil]; omega) ?_
  refine aw_nil ?_
  rw [marks_eq]
  refine ⟨Int, marks0 (4 + m - 3).toNat, .int, p, b, rfl, hp, hb, by rw [marks0_len]; omega, fun q1 b1 mks hq1 hb1 hperm => ?_⟩
  have n1p : q1 ≠ p := (own_ne hp hq1).symm
  refine ⟨q1, mks.map .int, rfl, up_at, ?_⟩
  rw [dn_up (by rw [up_ne n1p]; exact hq1)]
  have hmk : ∀ x ∈ mks, mkOk x := fun x hx => marks0_ok (by omega) (hperm.mem_iff.mp hx)
  have hml : mks.length = 6 + m.toNat := by rw [hperm.length_eq, marks0_len]; omega
  refine sw_cons ?_
  refine s1_par 4 5 ?_ sc.nd
  refine aw_cons ?_
  refine ew_lst ?_
  refine aw_cons ?_
  refine ew_tup ?_
  refine aw_cons ?_
  refine ew_ix ?_
  refine ew_var 1 ?_
  refine ew_call (c_law_take T Z) hr ?_
  refine aw_cons ?_
  refine ew_var 0 ?_
  refine aw_cons ?_
  refine ew_callB (T.no Z.n_len) bt_len ?_
  refine aw_cons ?_
  refine ew_var 1 ?_
  refine aw_nil ?_
  refine cb_lenL ?_
  rw [List.length_map]
  refine aw_nil ?_
  refine ⟨p, _, b1, rfl, up_at, hb1, by omega, by omega, fun d0 b2 hd0 hd1 hb2 => ?_⟩
  rw [up_up]
  obtain ⟨y0, hy0⟩ : ∃ y, ws[d0.toNat]? = some y := ⟨_, List.getElem?_eq_getElem (by omega)⟩
  refine ix_lst (d := .str y0) (by rw [show d0 = ((d0.toNat : Nat) : Int) by omega]; exact atI_nat (by simpa using hy0)) ?_
  refine aw_cons ?_
  refine ew_ix ?_
  refine ew_var 3 ?_
  refine ew_int ?_
  obtain ⟨m0, hm00⟩ : ∃ y, mks[0]? = some y := ⟨_, List.getElem?_eq_getElem (by omega)⟩
  refine ix_lst (d := .int m0) (atI_nat (j := 0) (by simpa using hm00)) ?_
  refine aw_nil ?_
  refine ⟨[_, _], rfl, by walk_at "few", ?_⟩
  refine aw_nil ?_
  refine ⟨Nat.le_of_ble_eq_true rfl, fun hq hhq => ?_⟩
  refine aw_cons ?_
  refine ew_lst ?_
  refine aw_cons ?_
  refine ew_lst ?_
  refine aw_nil ?_
  refine ⟨Nat.zero_le _, fun a0 ha0 => ?_⟩
  refine aw_nil ?_
  refine ⟨Nat.le_of_ble_eq_true rfl, fun rq hrq => ?_⟩
  refine aw_nil ?_
  refine ⟨_, _, rfl, ?_⟩
  have hT0 : HT O p hq rq b2 [⟨y0, m0, []⟩] [a0] (up (up (up (up O p b2) hq (.lst [.dat (.tup [.str y0, .int m0])])) a0 (.lst [])) rq (.lst [.own a0])) := by
    have nhp : hq ≠ p := fun e => by rw [e, up_at] at hhq; cases hhq
    have nah : a0 ≠ hq := fun e => by rw [e, up_at] at ha0; cases ha0
    have nap : a0 ≠ p := fun e => by rw [e, up_ne nhp.symm, up_at] at ha0; cases ha0
    have nra : rq ≠ a0 := fun e => by rw [e, up_at] at hrq; cases hrq
    have nrh : rq ≠ hq := fun e => by rw [e, up_ne nah.symm, up_at] at hrq; cases hrq
    have nrp : rq ≠ p := fun e => by rw [e, up_ne nap.symm, up_ne nhp.symm, up_at] at hrq; cases hrq
    have oh : O hq = none := by rw [up_ne nhp] at hhq; exact hhq
    have oa : O a0 = none := by rw [up_ne nah, up_ne nap] at ha0; exact ha0
    have or_ : O rq = none := by rw [up_ne nra, up_ne nrh, up_ne nrp] at hrq; exact hrq
    refine ⟨by rw [up_ne nrp.symm, up_ne nap.symm, up_ne nhp.symm, up_at], hb2, by rw [up_ne nrh.symm, up_ne nah.symm, up_at]; rfl, by rw [up_at]; rfl, .cons (by rw [up_ne nra.symm, up_at]; rfl) .nil, nhp.symm, nrp.symm, nrh.symm, fun x hx => by rw [List.mem_singleton.mp hx]; exact ⟨nap, nah, nra.symm⟩, by simp, fun x v n e => ?_, oh, or_, fun x hx => by rw [List.mem_singleton.mp hx]; exact oa⟩
    rw [up_ne (ne_free or_ e), up_ne (ne_free oa e), up_ne (ne_free oh e), up_ne n]; exact e
  have hG0 : OpsG [⟨y0, m0, []⟩] 1 := ⟨fun x hx => by rw [List.mem_singleton.mp hx]; exact ⟨hwn _ (List.mem_of_getElem? hy0), hmk _ (List.mem_of_getElem? hm00)⟩, fun x hx => (by rw [List.mem_singleton.mp hx]; exact fun c hc => (nomatch hc)), by rw [List.map_singleton, List.sum_singleton]; show 1 + szNs [] = 1; rw [szNs]⟩
  generalize (up (up (up (up O p b2) hq (.lst [.dat (.tup [.str y0, .int m0])])) a0 (.lst [])) rq (.lst [.own a0])) = O1 at hT0
  refine sw_cons ?_
  refine s1_for hpo ?_
  refine iw_list ?_
  refine ew_slice ?_
  refine ew_var 3 ?_
  refine ow_some ?_
  refine ew_int ?_
  refine ⟨_, rfl, ?_⟩
  refine ow_some ?_
  refine ew_bin ?_
  refine ew_int ?_
  refine ew_call (c_law_take T Z) hr ?_
  refine aw_cons ?_
  refine ew_var 0 ?_
  refine aw_cons ?_
  refine ew_var 2 ?_
  refine aw_nil ?_
  refine ⟨p, m, b2, rfl, hT0.box, hb2, by omega, by omega, fun dd b3 hdd0 hdd1 hb3 => ?_⟩
  refine ob_add ?_
  refine ⟨_, rfl, ?_⟩
  refine sb_lst ?_
  rw [cut_two (show (0 : Int) ≤ 1 by decide) (show (1 : Int) ≤ 1 + dd by omega)]
  refine ⟨_, rfl, ?_⟩
  have hT1 := hT0.draw hb3
  generalize up O1 p b3 = O2 at hT1
  refine ⟨fun i ρ' O' => ∃ (b' : Cell) (st : List Op) (ls : List Addr) (s6 s7 s8 : Slot), ρ' = [.own p, .dat (.lst (ws.map .str)), .dat (.int m), .dat (.lst (mks.map .int)), .own hq, .own rq, s6, s7, s8] ∧ HT O p hq rq b' st ls O' ∧ OpsG st (i + 1) ∧ st ≠ [], ?_, ?_, ?_⟩
  · exact ⟨b3, _, _, _, _, _, rfl, hT1, hG0, by simp⟩
  · intro i d ρ2 O2 hj hd
    obtain ⟨b', st, ls, s6, s7, s8, rfl, hT, hG, hne⟩ := hj
    have hil : i < m.toNat := by
      have h1 := (List.getElem?_eq_some_iff.mp hd).1
      rw [List.length_take] at h1
      omega
    obtain ⟨mk, hmkd, rfl⟩ : ∃ mk, mks[1 + i]? = some mk ∧ Dat.int mk = d := by
      rw [List.getElem?_take, List.getElem?_drop] at hd
      split at hd
      · rw [List.getElem?_map] at hd
        exact Option.map_eq_some_iff.mp hd
      · cases hd
    have hmo := hmk _ (List.mem_of_getElem? hmkd)
    refine gw_name 6 ?_ sc.nd
    refine sw_cons ?_
    refine s1_for hpo ?_
    refine iw_range1 (T.no Z.n_range) ?_
    refine aw_cons ?_
    refine ew_ix ?_
    refine ew_lstD ?_
    refine aw_cons ?_
    refine ew_int ?_
    refine aw_cons ?_
    refine ew_int ?_
    refine aw_cons ?_
    refine ew_int ?_
    refine aw_cons ?_
    refine ew_int ?_
    refine aw_nil ?_
    refine ⟨[_, _, _, _], rfl, by walk_at "few", ?_⟩
    refine ew_call (c_law_take T Z) hr ?_
    refine aw_cons ?_
    refine ew_var 0 ?_
    refine aw_cons ?_
    refine ew_int ?_
    refine aw_nil ?_
    refine ⟨p, _, b', rfl, hT.box, hT.isb, by decide, by decide, fun d4 b4 h40 h41 hb4 => ?_⟩
    
    obtain ⟨n4, e4, n40, n41⟩ : ∃ n : Int, atI [Dat.int 0, .int 0, .int 1, .int 2] d4 = some (.int n) ∧ 0 ≤ n ∧ n ≤ 2 := by
      rcases (show d4 = 0 ∨ d4 = 1 ∨ d4 = 2 ∨ d4 = 3 by omega) with rfl | rfl | rfl | rfl
      · exact ⟨0, atI_nat (j := 0) rfl, by decide, by decide⟩
      · exact ⟨0, atI_nat (j := 1) rfl, by decide, by decide⟩
      · exact ⟨1, atI_nat (j := 2) rfl, by decide, by decide⟩
      · exact ⟨2, atI_nat (j := 3) rfl, by decide, by decide⟩
    refine ix_lst e4 ?_
    refine aw_nil ?_
    refine ⟨n4, rfl, by constructor <;> omega, ?_⟩
    have hT4 := hT.draw hb4
    refine ⟨fun j ρ' O' => ∃ (b' : Cell) (st : List Op) (ls : List Addr) (s7 s8 : Slot), ρ' = [.own p, .dat (.lst (ws.map .str)), .dat (.int m), .dat (.lst (mks.map .int)), .own hq, .own rq, .dat (.int mk), s7, s8] ∧ HT O p hq rq b' st ls O' ∧ OpsG st (i + 1) ∧ st ≠ [], ?_, ?_, ?_⟩
    · exact ⟨b4, _, _, _, _, rfl, hT4, hG, hne⟩
    · intro i d ρ2 O2 hj hd
      clear hT4 hT hG hne
      obtain ⟨b', st, ls, s7, s8, rfl, hT, hG, hne⟩ := hj
      refine gw_name 7 ?_ sc.nd
      refine sw_one ?_
      refine s1_if ?_
      refine tw_cmp ?_
      refine ew_callB (T.no Z.n_len) bt_len ?_
      refine aw_cons ?_
      refine ew_var 4 ?_
      refine aw_nil ?_
      refine cb_lenO hT.h ?_
      rw [List.length_map, List.length_map, List.length_reverse]
      refine ew_int ?_
      walk_at "cmp Gt"
      refine ⟨_, rfl, fun ht => ?_, fun ht => ?_⟩
      · have hgt : 1 < st.length := by have := of_decide_eq_true ht; omega
        refine sw_cons ?_
        obtain ⟨q, q2, r, rfl⟩ : ∃ q q2 r, st = q :: q2 :: r := by
          cases st with
          | nil => exact absurd hgt (by simp)
          | cons q r => cases r with
            | nil => exact absurd hgt (by simp)
            | cons q2 r => exact ⟨q, q2, r, rfl⟩
        obtain ⟨a, a2, ls', rfl⟩ : ∃ a a2 ls', ls = a :: a2 :: ls' := by
          have := paired_len hT.k
          cases ls with
          | nil => cases this
          | cons a r => cases r with
            | nil => cases this
            | cons a2 r => exact ⟨a, a2, r, rfl⟩
        have hro : O2 rq = some (.lst ((a2 :: ls').reverse.map .own ++ [.own a])) := by rw [hT.r]; simp
        have na := hT.nk a (List.mem_cons_self ..)
        have na2 := hT.nk a2 (List.mem_cons_of_mem _ (List.mem_cons_self ..))
        have hnl := hT.nl
        rw [List.nodup_cons, List.nodup_cons] at hnl
        have naa : a2 ≠ a := fun e => hnl.1 (by rw [← e]; exact List.mem_cons_self ..)
        obtain ⟨e1, e2⟩ : O2 a = some (.lst ((q.cs.map lwD).map .dat)) ∧ O2 a2 = some (.lst ((q2.cs.map lwD).map .dat)) := by
          have hk := hT.k
          cases hk with
          | cons e1 hk => cases hk with
            | cons e2 _ => exact ⟨e1, e2⟩
        refine s1_set 8 ?_ sc.nd
        refine ew_callTy (T.no Z.n_tuple) bt_tuple ?_
        refine aw_cons ?_
        refine ew_frz ?_
        refine ew_pop ?_
        refine ew_var 5 ?_
        refine ⟨⟨rfl, _, hT.r⟩, ?_⟩
        refine mb_pop hro ?_
        refine ⟨a, q.cs.map lwD, rfl, by rw [up_ne na.2.2]; exact e1, ?_⟩
        refine aw_nil ?_
        refine cb_tupL ?_
        refine sw_one ?_
        have hr1 : (dn (up O2 rq (.lst ((a2 :: ls').reverse.map .own))) a) rq = some (.lst ((a2 :: ls').reverse.map .own)) := by rw [dn_ne na.2.2.symm, up_at]
        have hh1 : (dn (up O2 rq (.lst ((a2 :: ls').reverse.map .own))) a) hq = some (.lst (((q2 :: r).reverse.map opD).map .dat ++ [.dat (opD q)])) := by
          rw [dn_ne na.2.1.symm, up_ne hT.hr, hT.h]; simp
        have ha1 : (up (dn (up O2 rq (.lst ((a2 :: ls').reverse.map .own))) a) hq (.lst (((q2 :: r).reverse.map opD).map .dat))) a2 = some (.lst ((q2.cs.map lwD).map .dat)) := by
          rw [up_ne na2.2.1, dn_ne naa, up_ne na2.2.2]; exact e2
        have ha0 : (dn (up O2 rq (.lst ((a2 :: ls').reverse.map .own))) a) a2 = some (.lst ((q2.cs.map lwD).map .dat)) := by
          rw [dn_ne naa, up_ne na2.2.2]; exact e2
        have hsz : q2.cs.length ≤ 200 := by
          have h1 := hG.sz
          rw [List.map_cons, List.map_cons, List.sum_cons, List.sum_cons] at h1
          have h2 := szNs_len q2.cs
          omega
        refine s1_expr ?_
        refine ew_append ?_
        refine ew_ix ?_
        refine ew_var 5 ?_
        refine ew_bin ?_
        refine ew_callB (T.no Z.n_len) bt_len ?_
        refine aw_cons ?_
        refine ew_var 5 ?_
        refine aw_nil ?_
        refine cb_lenO hr1 ?_
        refine ew_int ?_
        refine ob_sub ?_
        refine ix_own hr1 (s := .own a2) ?_ ?_
        · rw [List.reverse_cons, List.map_append, List.length_append, List.length_map]
          rw [show (((ls'.reverse.length + (([a2] : List Addr).map Slot.own).length : Nat) : Int) - 1) = ((ls'.reverse.length : Nat) : Int) by simp]
          refine atI_nat ?_
          rw [List.getElem?_append_right (by rw [List.length_map]; exact Nat.le_refl _), List.length_map, Nat.sub_self]
          rfl
        refine ⟨⟨rfl, _, ha0⟩, ?_⟩
        refine ew_bin ?_
        refine ew_pop ?_
        refine ew_var 4 ?_
        refine ⟨⟨rfl, _, hh1⟩, ?_⟩
        refine mb_pop hh1 ?_
        refine ew_tup ?_
        refine aw_cons ?_
        refine ew_var 8 ?_
        refine aw_nil ?_
        refine ⟨[_], rfl, by walk_at "few", ?_⟩
        refine ob_catT (Nat.le_of_ble_eq_true rfl) ?_
        refine mb_append ha1 (by rw [List.length_map, List.length_map, sizeLine_eq]; omega) ?_
        have hcl : up (up (dn (up O2 rq (.lst ((a2 :: ls').reverse.map .own))) a) hq (.lst (((q2 :: r).reverse.map opD).map .dat))) a2 (.lst ((q2.cs.map lwD).map .dat ++ [.dat (.tup ([.str q.n, .int q.m] ++ [.tup (q.cs.map lwD)]))])) = up (up (dn (up O2 rq (.lst ((a2 :: ls').reverse.map .own))) a) hq (.lst (((q2 :: r).reverse.map opD).map .dat))) a2 (.lst (((q2.cs ++ [Nd.mk q.n q.m q.cs]).map lwD).map .dat)) := by
          congr 1
          rw [List.map_append, List.map_append, List.map_singleton, lw_mk, lwDs_map]; rfl
        rw [show opD q = .tup [.str q.n, .int q.m] from rfl] at *
        rw [hcl]
        exact ⟨b', _, _, _, _, rfl, hT.close, hG.close, by simp⟩
      · refine sw_nil ?_
        exact ⟨b', st, ls, _, _, rfl, hT, hG, hne⟩
    · intro ρ2 O2 hj
      clear hT4 hT hG hne
      obtain ⟨b', st, ls, s7, s8, rfl, hT, hG, hne⟩ := hj
      have hstl : st.length ≤ 200 := by
        have h1 := hG.sz
        have h2 := sum_len st
        omega
      refine sw_cons ?_
      refine s1_expr ?_
      refine ew_append ?_
      refine ew_var 4 ?_
      refine ⟨⟨rfl, _, hT.h⟩, ?_⟩
      refine ew_tup ?_
      refine aw_cons ?_
      refine ew_ix ?_
      refine ew_var 1 ?_
      refine ew_call (c_law_take T Z) hr ?_
      refine aw_cons ?_
      refine ew_var 0 ?_
      refine aw_cons ?_
      refine ew_callB (T.no Z.n_len) bt_len ?_
      refine aw_cons ?_
      refine ew_var 1 ?_
      refine aw_nil ?_
      refine cb_lenL ?_
      rw [List.length_map]
      refine aw_nil ?_
      refine ⟨p, _, b', rfl, hT.box, hT.isb, by omega, by omega, fun d5 b5 hd50 hd51 hb5 => ?_⟩
      have hT5 := hT.draw hb5
      obtain ⟨y5, hy5⟩ : ∃ y, ws[d5.toNat]? = some y := ⟨_, List.getElem?_eq_getElem (by omega)⟩
      refine ix_lst (d := .str y5) (by rw [show d5 = ((d5.toNat : Nat) : Int) by omega]; exact atI_nat (by simpa using hy5)) ?_
      refine aw_cons ?_
      refine ew_var 6 ?_
      refine aw_nil ?_
      refine ⟨[_, _], rfl, by walk_at "few", ?_⟩
      refine mb_append hT5.h (by rw [List.length_map, List.length_map, List.length_reverse, sizeLine_eq]; omega) ?_
      have e5 : ((st.reverse.map opD).map Slot.dat ++ [.dat (.tup [.str y5, .int mk])]) = (((⟨y5, mk, []⟩ :: st : List Op).reverse.map opD).map Slot.dat) := by
        rw [List.reverse_cons, List.map_append, List.map_append]; rfl
      rw [e5]
      refine sw_one ?_
      refine s1_expr ?_
      refine ew_append ?_
      refine ew_var 5 ?_
      refine ⟨⟨rfl, _, by rw [up_ne hT5.hr.symm]; exact hT5.r⟩, ?_⟩
      refine ew_lst ?_
      refine aw_nil ?_
      refine ⟨Nat.zero_le _, fun a ha => ?_⟩
      have nar : a ≠ rq := fun e => by rw [e, up_ne hT5.hr.symm, hT5.r] at ha; cases ha
      refine mb_append (by rw [up_ne nar.symm, up_ne hT5.hr.symm]; exact hT5.r) (by rw [List.length_map, List.length_reverse, paired_len hT5.k, sizeLine_eq]; omega) ?_
      have e6 : (ls.reverse.map Slot.own ++ [.own a]) = ((a :: ls).reverse.map Slot.own) := by rw [List.reverse_cons, List.map_append]; rfl
      rw [e6]
      exact ⟨b5, _, _, _, _, _, rfl, hT5.open ha, hG.open (hwn _ (List.mem_of_getElem? hy5)) hmo, by simp⟩
  · intro ρ2 O2 hj
    clear hT1 hG0
    obtain ⟨b', st, ls, s6, s7, s8, rfl, hT, hG, hne⟩ := hj
    have hkm : (((mks.map Dat.int).drop (1 : Int).toNat).take ((1 + dd).toNat - (1 : Int).toNat)).length + 1 ≤ m.toNat := by
      rw [List.length_take]; omega
    generalize (((mks.map Dat.int).drop (1 : Int).toNat).take ((1 + dd).toNat - (1 : Int).toNat)).length + 1 = kk at hG hkm
    refine sw_cons ?_
    refine s1_while hpo (fun n ρ' O' => ∃ (b' : Cell) (st : List Op) (ls : List Addr) (s6 s7 s8 : Slot), ρ' = [.own p, .dat (.lst (ws.map .str)), .dat (.int m), .dat (.lst (mks.map .int)), .own hq, .own rq, s6, s7, s8] ∧ HT O p hq rq b' st ls O' ∧ OpsG st kk ∧ st ≠ [] ∧ st.length = n) ?_ fun n ρ2 O' hj => ?_
    · exact ⟨st.length, b', st, ls, _, _, _, rfl, hT, hG, hne, rfl⟩
    · clear hT hG hne
      obtain ⟨b', st, ls, s6, s7, s8, rfl, hT, hG, hne, hn⟩ := hj
      refine tw_cmp ?_
      refine ew_callB (T.no Z.n_len) bt_len ?_
      refine aw_cons ?_
      refine ew_var 4 ?_
      refine aw_nil ?_
      refine cb_lenO hT.h ?_
      rw [List.length_map, List.length_map, List.length_reverse]
      refine ew_int ?_
      walk_at "cmp Gt"
      refine ⟨_, rfl, fun ht => ?_, fun ht => ?_⟩
      · have hgt : 1 < st.length := by have := of_decide_eq_true ht; omega
        have hi9 : kk ≤ 200 := by omega
        refine sw_cons ?_
        obtain ⟨q, q2, r, rfl⟩ : ∃ q q2 r, st = q :: q2 :: r := by
          cases st with
          | nil => exact absurd hgt (by simp)
          | cons q r => cases r with
            | nil => exact absurd hgt (by simp)
            | cons q2 r => exact ⟨q, q2, r, rfl⟩
        obtain ⟨a, a2, ls', rfl⟩ : ∃ a a2 ls', ls = a :: a2 :: ls' := by
          have := paired_len hT.k
          cases ls with
          | nil => cases this
          | cons a r => cases r with
            | nil => cases this
            | cons a2 r => exact ⟨a, a2, r, rfl⟩
        have hro : O' rq = some (.lst ((a2 :: ls').reverse.map .own ++ [.own a])) := by rw [hT.r]; simp
        have na := hT.nk a (List.mem_cons_self ..)
        have na2 := hT.nk a2 (List.mem_cons_of_mem _ (List.mem_cons_self ..))
        have hnl := hT.nl
        rw [List.nodup_cons, List.nodup_cons] at hnl
        have naa : a2 ≠ a := fun e => hnl.1 (by rw [← e]; exact List.mem_cons_self ..)
        obtain ⟨e1, e2⟩ : O' a = some (.lst ((q.cs.map lwD).map .dat)) ∧ O' a2 = some (.lst ((q2.cs.map lwD).map .dat)) := by
          have hk := hT.k
          cases hk with
          | cons e1 hk => cases hk with
            | cons e2 _ => exact ⟨e1, e2⟩
        refine s1_set 8 ?_ sc.nd
        refine ew_callTy (T.no Z.n_tuple) bt_tuple ?_
        refine aw_cons ?_
        refine ew_frz ?_
        refine ew_pop ?_
        refine ew_var 5 ?_
        refine ⟨⟨rfl, _, hT.r⟩, ?_⟩
        refine mb_pop hro ?_
        refine ⟨a, q.cs.map lwD, rfl, by rw [up_ne na.2.2]; exact e1, ?_⟩
        refine aw_nil ?_
        refine cb_tupL ?_
        refine sw_one ?_
        have hr1 : (dn (up O' rq (.lst ((a2 :: ls').reverse.map .own))) a) rq = some (.lst ((a2 :: ls').reverse.map .own)) := by rw [dn_ne na.2.2.symm, up_at]
        have hh1 : (dn (up O' rq (.lst ((a2 :: ls').reverse.map .own))) a) hq = some (.lst (((q2 :: r).reverse.map opD).map .dat ++ [.dat (opD q)])) := by
          rw [dn_ne na.2.1.symm, up_ne hT.hr, hT.h]; simp
        have ha1 : (up (dn (up O' rq (.lst ((a2 :: ls').reverse.map .own))) a) hq (.lst (((q2 :: r).reverse.map opD).map .dat))) a2 = some (.lst ((q2.cs.map lwD).map .dat)) := by
          rw [up_ne na2.2.1, dn_ne naa, up_ne na2.2.2]; exact e2
        have ha0 : (dn (up O' rq (.lst ((a2 :: ls').reverse.map .own))) a) a2 = some (.lst ((q2.cs.map lwD).map .dat)) := by
          rw [dn_ne naa, up_ne na2.2.2]; exact e2
        have hsz : q2.cs.length ≤ 200 := by
          have h1 := hG.sz
          rw [List.map_cons, List.map_cons, List.sum_cons, List.sum_cons] at h1
          have h2 := szNs_len q2.cs
          omega
        refine s1_expr ?_
        refine ew_append ?_
        refine ew_ix ?_
        refine ew_var 5 ?_
        refine ew_bin ?_
        refine ew_callB (T.no Z.n_len) bt_len ?_
        refine aw_cons ?_
        refine ew_var 5 ?_
        refine aw_nil ?_
        refine cb_lenO hr1 ?_
        refine ew_int ?_
        refine ob_sub ?_
        refine ix_own hr1 (s := .own a2) ?_ ?_
        · rw [List.reverse_cons, List.map_append, List.length_append, List.length_map]
          rw [show (((ls'.reverse.length + (([a2] : List Addr).map Slot.own).length : Nat) : Int) - 1) = ((ls'.reverse.length : Nat) : Int) by simp]
          refine atI_nat ?_
          rw [List.getElem?_append_right (by rw [List.length_map]; exact Nat.le_refl _), List.length_map, Nat.sub_self]
          rfl
        refine ⟨⟨rfl, _, ha0⟩, ?_⟩
        refine ew_bin ?_
        refine ew_pop ?_
        refine ew_var 4 ?_
        refine ⟨⟨rfl, _, hh1⟩, ?_⟩
        refine mb_pop hh1 ?_
        refine ew_tup ?_
        refine aw_cons ?_
        refine ew_var 8 ?_
        refine aw_nil ?_
        refine ⟨[_], rfl, by walk_at "few", ?_⟩
        refine ob_catT (Nat.le_of_ble_eq_true rfl) ?_
        refine mb_append ha1 (by rw [List.length_map, List.length_map, sizeLine_eq]; omega) ?_
        have hcl : up (up (dn (up O' rq (.lst ((a2 :: ls').reverse.map .own))) a) hq (.lst (((q2 :: r).reverse.map opD).map .dat))) a2 (.lst ((q2.cs.map lwD).map .dat ++ [.dat (.tup ([.str q.n, .int q.m] ++ [.tup (q.cs.map lwD)]))])) = up (up (dn (up O' rq (.lst ((a2 :: ls').reverse.map .own))) a) hq (.lst (((q2 :: r).reverse.map opD).map .dat))) a2 (.lst (((q2.cs ++ [Nd.mk q.n q.m q.cs]).map lwD).map .dat)) := by
          congr 1
          rw [List.map_append, List.map_append, List.map_singleton, lw_mk, lwDs_map]; rfl
        rw [show opD q = .tup [.str q.n, .int q.m] from rfl] at *
        rw [hcl]
        refine ⟨(closeOp q q2 :: r).length, by rw [← hn, List.length_cons, List.length_cons, List.length_cons]; omega, b', _, _, _, _, _, rfl, hT.close, hG.close, by simp, rfl⟩
      · obtain ⟨q, rfl⟩ : ∃ q, st = [q] := by
          have := of_decide_eq_false ht
          cases st with
          | nil => exact absurd rfl hne
          | cons q r => cases r with
            | nil => exact ⟨q, rfl⟩
            | cons q2 r => rw [List.length_cons, List.length_cons] at this; exact absurd (by omega) this
        obtain ⟨a, rfl⟩ : ∃ a, ls = [a] := by
          have := paired_len hT.k
          cases ls with
          | nil => cases this
          | cons a r => cases r with
            | nil => exact ⟨a, rfl⟩
            | cons a2 r => cases this
        have e1 : O' a = some (.lst ((q.cs.map lwD).map .dat)) := by
          have hk := hT.k
          cases hk with
          | cons e1 hk => exact e1
        have na := hT.nk a (List.mem_cons_self ..)
        refine sw_one ?_
        refine s1_ret ?_
        refine ew_bin ?_
        refine ew_ix ?_
        refine ew_var 4 ?_
        refine ew_int ?_
        refine ix_own hT.h (s := .dat (opD q)) (atI_nat (j := 0) rfl) ?_
        refine ew_tup ?_
        refine aw_cons ?_
        refine ew_callTy (T.no Z.n_tuple) bt_tuple ?_
        refine aw_cons ?_
        refine ew_frz ?_
        refine ew_ix ?_
        refine ew_var 5 ?_
        refine ew_int ?_
        refine ix_own hT.r (s := .own a) (atI_nat (j := 0) rfl) ?_
        refine ⟨a, q.cs.map lwD, rfl, e1, ?_⟩
        refine aw_nil ?_
        refine cb_tupL ?_
        refine aw_nil ?_
        refine ⟨[_], rfl, by walk_at "few", ?_⟩
        refine ob_catT (Nat.le_of_ble_eq_true rfl) ?_
        have et : Dat.tup ([.str q.n, .int q.m] ++ [.tup (q.cs.map lwD)]) = lwD (.mk q.n q.m q.cs) := by rw [lw_mk, lwDs_map]; rfl
        rw [et]
        have hzz := hG.sz
        rw [List.map_singleton, List.sum_singleton] at hzz
        refine ⟨up O p b', fun x v hv => ?_, h b' _ hT.isb (gd_mk (hG.nm q (List.mem_singleton.mpr rfl)) (hG.kids q (List.mem_singleton.mpr rfl))) (by rw [szN]; omega)⟩
        by_cases hx : x = p
        · subst hx
          rw [up_at] at hv
          rw [dn_ne na.1.symm, hT.box, hv]
        · rw [up_ne hx] at hv
          rw [dn_ne (ne_free (hT.ns a (List.mem_cons_self ..)) hv)]
          exact hT.keep x v hx hv
theorem c_law_tree (T : TopOf K mg) (Z : Facts K) : Cal P w K mg base false (4) "_law_tree" (TreeS) [] := cal_of T Z.d_law_tree (by walk_at "b3") fun f fd F => fn_law_tree T Z F
end
mutual
def preN : Nd → List Nd
  | .mk n m cs => .mk n m cs :: preNs cs
def preNs : List Nd → List Nd
  | [] => []
  | c :: cs => preN c ++ preNs cs
end
mutual
theorem preN_len : ∀ t : Nd, (preN t).length = szN t
  | .mk n m cs => by rw [preN, szN, List.length_cons, preNs_len cs]; omega
theorem preNs_len : ∀ cs : List Nd, (preNs cs).length = szNs cs
  | [] => by rw [preNs, szNs]; rfl
  | c :: cs => by rw [preNs, szNs, List.length_append, preN_len c, preNs_len cs]
end
theorem preNs_app (c : Nd) : ∀ cs : List Nd, preNs (cs ++ [c]) = preNs cs ++ preN c
  | [] => by rw [List.nil_append, preNs]; simp [preNs]
  | d :: cs => by rw [List.cons_append, preNs, preNs_app c cs, preNs, List.append_assoc]
mutual
theorem be_pre (C : Addr) : ∀ t : Nd, ndD C t :: beD C t = (preN t).map (ndD C)
  | .mk n m cs => by rw [beD, al_pre C cs, preN, List.map_cons]
theorem al_pre (C : Addr) : ∀ cs : List Nd, alDs C cs = (preNs cs).map (ndD C)
  | [] => by rw [alDs, preNs]; rfl
  | c :: cs => by rw [alDs, preNs, List.map_append, ← be_pre C c, ← al_pre C cs]; rfl
end
theorem bt_iter : bootBuiltins "iter" = some (.builtin "iter") := by decide +kernel
section
variable {X : Cx} {O : Own} {ρ : List Slot} {x : ExK} {k : Slot → Own → Prop} {e : Expr} {es : List Expr} {p pos : Pos} {CT : Addr} {g : Bool} {j : Nat}
theorem ew_mkTree (mk : MkC X.prog X.w X.K X.mg X.base 1 CT (TrInitS X.K) []) (hC : clsAt X.K "Tree" CT) (hm : X.mg "Tree" = some (.ref CT)) (hr : RoomB g j X.A)
    (h : AW X O ρ (e :: es) x fun ss O1 => ∃ n m cs d, ss = [.dat (.str n), .dat (.int m), .dat d] ∧ (d = .lst (ndDs CT cs) ∨ d = .tup (ndDs CT cs)) ∧ okT (.mk n m cs) ∧ szNs cs ≤ 100000 ∧ k (.dat (ndD CT (.mk n m cs))) O1) (hj : 2 ≤ j := by decide)
    (hg : Gl X "Tree" := by rfl) (he : starEach (e :: es) X.env = (false, eval e X.env) :: starEach es X.env := by rfl) (hpl : (backTo pos (starEach es X.env)).any (·.1) = false := by rfl) :
    EW X O ρ (.Call (.Name "Tree" p) (e :: es) [] pos) x k := by
  refine ew_frzT (ew_make mk hm hr (h.mono fun ss O1 hh => ?_) hj hg (by decide) he hpl)
  obtain ⟨n, m, cs, d, rfl, hd, hok, hsz, hk⟩ := hh
  intro a dx ha hdx hne
  refine ⟨a, CT, dx, n, m, cs, d, rfl, hC, up_at, hd, hok, hsz, fun q hq => ⟨rfl, ?_⟩⟩
  have nqa : q ≠ a := fun z => by rw [z, up_at] at hq; cases hq
  have hq1 : O1 q = none := by rw [up_ne nqa] at hq; exact hq
  refine ⟨a, CT, dx, q, [("name", .str n), ("mark", .int m), ("children", .tup (ndDs CT cs))], "nodes", alDs CT cs, [("text", .str (txN (.mk n m cs)))], rfl, up_at, ?_, ?_⟩
  · rw [up_ne nqa, up_at]
  · rw [up_swp nqa]
    have ed : dn (dn (up (up O1 q (.tpl (.own a :: (alDs CT cs).map .dat))) a (.ins CT dx [("name", .dat (.str n)), ("mark", .dat (.int m)), ("children", .dat (.tup (ndDs CT cs))), ("nodes", .own q), ("text", .dat (.str (txN (.mk n m cs))))])) a) q = O1 := by
      rw [dn_up (by rw [up_ne nqa.symm]; exact ha), dn_up hq1]
    rw [ed, ← ndD]
    exact hk
end
def LNodesS (n : Nat) : SpecT := fun ss O R => ∃ t : Nd, ss = [.dat (lwD t)] ∧ htN t ≤ n ∧ szN t ≤ 1000 ∧ R (.ret (.dat (.lst ((preN t).map lwD)))) O
theorem zero_law_nodes {ss : List Slot} {O : Own} {R : Out → Own → Prop} (h : LNodesS 0 ss O R) : False := by
  obtain ⟨t, _, h0, _⟩ := h
  have := htN_pos t
  omega
def MadeS (K : PySem.W.Frag) (n : Nat) : SpecT := fun ss O R => ∃ (CT : Addr) (t : Nd), ss = [.dat (lwD t)] ∧ clsAt K "Tree" CT ∧ okT t ∧ htN t ≤ n ∧ szN t ≤ 1000 ∧ R (.ret (.dat (ndD CT t))) O
theorem zero_law_built {K : PySem.W.Frag} {ss : List Slot} {O : Own} {R : Out → Own → Prop} (h : MadeS K 0 ss O R) : False := by
  obtain ⟨_, t, _, _, _, h0, _⟩ := h
  have := htN_pos t
  omega
def ItrS (K : PySem.W.Frag) : Nat → SpecT := fun N ss O R => ∃ (CT : Addr) (t : Nd), ss = [.dat (ndD CT t)] ∧ clsAt K "Tree" CT ∧ ∀ it, O it = none → N ≤ it → R (.ret (.own it)) (up O it (.itr ((preN t).map (ndD CT))))
section
variable {P : Program} {w : World} {K : PySem.W.Frag} {mg : Str → Option Value} {base : Heap}
theorem fn_law_nodes (T : TopOf K mg) (Z : Facts K) : ∀ (n : Nat) {f : Addr} {fd : FuncData} (F : L2.Fun K "_law_nodes" "_law_nodes" s_law_nodes f fd), Fn P w K mg base false (n + 2) f fd ["_law_tree_here"] (LNodesS n)
  | 0, f, fd, F => by
    refine fn_mk F sc_law_nodes (by walk_at "len") fun cdv A outer s H E ss O R hr hpo h => ?_
    exact (zero_law_nodes h).elim
  | n + 1, f, fd, F => by
    have cr : Cal P w K mg base false (n + 2) "_law_nodes" (LNodesS n) [] := cal_of T Z.d_law_nodes (by walk_at "b1") fun f fd F => fn_law_nodes T Z n F
    have sc := sc_law_nodes
    refine fn_mk F sc_law_nodes (by walk_at "len") fun cdv A outer s H E ss O R hr hpo h => ?_
    obtain ⟨t, rfl, hn, hz, h⟩ := h
    obtain ⟨nm, mk, cs, rfl⟩ := nd_eq t
    rw [htN] at hn
    rw [szN] at hz
    rw [lw_mk]
    -- 0:_law_tree_here 1:_law_found 2:_law_child
    refine sw_cons ?_
    refine s1_set 1 ?_ sc.nd
    refine ew_lst ?_
    refine aw_cons ?_
    refine ew_var 0 ?_
    refine aw_nil ?_
    refine ⟨Nat.le_of_ble_eq_true rfl, fun m hm => ?_⟩
    refine sw_cons ?_
    refine s1_for hpo ?_
    refine iw_tup ?_
    refine ew_ix ?_
    refine ew_var 0 ?_
    refine ew_int ?_
    refine ix_tpl (d := .tup (lwDs cs)) (atI_nat (j := 2) rfl) ?_
    refine ⟨_, rfl, ?_⟩
    refine ⟨fun i ρ' O' => ∃ s2 : Slot, ρ' = [.dat (.tup [.str nm, .int mk, .tup (lwDs cs)]), .own m, s2] ∧ O' = up O m (.lst (((Nd.mk nm mk cs :: preNs (cs.take i)).map lwD).map .dat)), ?_, ?_, ?_⟩
    · refine ⟨_, rfl, ?_⟩
      rw [List.take_zero, preNs, List.map_cons, lw_mk]
      rfl
    · intro i d ρ2 O2 hj hd
      obtain ⟨s2, rfl, rfl⟩ := hj
      rw [lwDs_map, List.getElem?_map] at hd
      obtain ⟨c, hc, rfl⟩ := Option.map_eq_some_iff.mp hd
      have hta : cs.take (i + 1) = cs.take i ++ [c] := by rw [List.take_add_one, hc]; rfl
      have h1 := szNs_takeS hc
      have h2 := htNs_mem (List.mem_of_getElem? hc)
      refine gw_name 2 ?_ sc.nd
      refine sw_one ?_
      refine s1_expr ?_
      refine ew_extend ?_
      refine ew_var 1 ?_
      refine ⟨?_, ?_⟩
      · exact ⟨rfl, _, up_at⟩
      refine ew_call cr hr ?_ (hj := by omega)
      refine aw_cons ?_
      refine ew_var 2 ?_
      refine aw_nil ?_
      refine ⟨c, rfl, by omega, by omega, ?_⟩
      
      refine mb_extendL up_at (by rw [List.length_map, List.length_map, List.length_cons, preNs_len, List.length_map, preN_len, sizeLine_eq]; omega) ?_
      refine ⟨_, rfl, ?_⟩
      rw [up_up, hta, preNs_app, ← List.map_append, ← List.map_append]
      rfl
    · intro ρ2 O2 hj
      obtain ⟨s2, rfl, rfl⟩ := hj
      rw [lwDs_map, List.length_map, List.take_length]
      refine sw_one ?_
      refine s1_ret ?_
      refine ew_frz ?_
      refine ew_var 1 ?_
      refine ⟨m, _, rfl, up_at, ?_⟩
      rw [dn_up hm]
      rw [preN] at h
      exact h
theorem c_law_nodes (T : TopOf K mg) (Z : Facts K) (n : Nat) : Cal P w K mg base false (n + 2) "_law_nodes" (LNodesS n) [] := cal_of T Z.d_law_nodes (by walk_at "b1") fun f fd F => fn_law_nodes T Z n F
theorem fn_law_built (T : TopOf K mg) (Z : Facts K) : ∀ (n : Nat) {f : Addr} {fd : FuncData} (F : L2.Fun K "_law_built" "_law_built" s_law_built f fd), Fn P w K mg base false (n + 3) f fd ["_law_tree_here"] (MadeS K n)
  | 0, f, fd, F => by
    refine fn_mk F sc_law_built (by walk_at "len") fun cdv A outer s H E ss O R hr hpo h => ?_
    exact (zero_law_built h).elim
  | n + 1, f, fd, F => by
    have cr : Cal P w K mg base false (n + 3) "_law_built" (MadeS K n) [] := cal_of T Z.d_law_built (by walk_at "b1") fun f fd F => fn_law_built T Z n F
    have sc := sc_law_built
    refine fn_mk F sc_law_built (by walk_at "len") fun cdv A outer s H E ss O R hr hpo h => ?_
    obtain ⟨CT, t, rfl, hCT, hok, hn, hz, h⟩ := h
    obtain ⟨C2, I_Tree, tI, tRd, tFe, tL, tIt, tE, tS, tEv, na1, na2, na3, na4, na5⟩ := Z.c_Tree
    obtain rfl := at_inj hCT I_Tree.at_
    have mk_Tree : MkC P w K mg base 1 CT (TrInitS K) [] := mkc_ofD I_Tree tI (fun T kV doc pm an cdv ct us its h1 h2 => match us, its, h1, h2 with | [_, _, _, _], [_], _, _ => ⟨_, rfl, rfl⟩) fun f fd F => fn_Tree_init T Z F
    obtain ⟨nm, mk, cs, rfl⟩ := nd_eq t
    rw [htN] at hn
    rw [szN] at hz
    rw [lw_mk]
    have hok2 := hok
    rw [okT] at hok2
    obtain ⟨k1, k2, k3, k4⟩ := hok2
    -- 0:_law_tree_here 1:_law_child
    refine sw_one ?_
    refine s1_ret ?_
    refine ew_mkTree (hj := by omega) mk_Tree I_Tree.at_ (T.is I_Tree.at_) hr ?_
    refine aw_cons ?_
    refine ew_ix ?_
    refine ew_var 0 ?_
    refine ew_int ?_
    refine ix_tpl (d := .str nm) (atI_nat (j := 0) rfl) ?_
    refine aw_cons ?_
    refine ew_ix ?_
    refine ew_var 0 ?_
    refine ew_int ?_
    refine ix_tpl (d := .int mk) (atI_nat (j := 1) rfl) ?_
    refine aw_cons ?_
    refine ew_map1 cs lwD (ndD CT) [("_law_child", 1)] sc.nd (.name (i := 1) (by decide) fun Y ⟨_, _, _, _, _, e⟩ => by subst e; exact pg_name (i := 1) sc.nd rfl (.inl rfl) (.inr rfl)) (blkOk_by (N := N_law_built) (sc := defScope s_law_built) (by decide +kernel)) (iw_tup (ew_ix (ew_var 0 (ew_int (ix_tpl (d := .tup (lwDs cs)) (atI_nat (j := 2) rfl) ⟨_, rfl, lwDs_map cs, rfl⟩))))) (by have := szNs_len cs; rw [sizeLine_eq]; omega) (fun c hc => ⟨_, rfl, fun O' Y hY => ?_⟩) ?_
    · obtain ⟨_, _, _, _, _, rfl⟩ := hY
      have h2 := htNs_mem hc
      have h3 : szN c ≤ szNs cs := by
        obtain ⟨i, hi⟩ := List.getElem?_of_mem hc
        have := szNs_takeS hi
        omega
      exact ew_call cr hr (aw_cons (ew_var 1 (aw_nil ⟨CT, c, rfl, I_Tree.at_, okTs_all.mp k4 c hc, by omega, by omega, rfl, rfl⟩))) (hj := by omega)
    refine aw_nil ?_
    refine ⟨nm, mk, cs, _, rfl, .inl (by rw [ndDs_map]), hok, by omega, ?_⟩
    exact h
theorem c_law_built (T : TopOf K mg) (Z : Facts K) (n : Nat) : Cal P w K mg base false (n + 3) "_law_built" (MadeS K n) [] := cal_of T Z.d_law_built (by walk_at "b1") fun f fd F => fn_law_built T Z n F
end
mutual
def beqN : Nd → Nd → Bool
  | .mk n m cs, .mk n' m' cs' => decide (n = n') && (decide (m = m') && beqNs cs cs')
def beqNs : List Nd → List Nd → Bool
  | [], [] => true
  | c :: cs, d :: ds => beqN c d && beqNs cs ds
  | [], _ :: _ => false
  | _ :: _, [] => false
end
theorem beqNs_zip : ∀ cs ds : List Nd, beqNs cs ds = (((cs.zip ds).map fun (z : Nd × Nd) => beqN z.1 z.2).all id && decide (cs.length = ds.length))
  | [], [] => by rw [beqNs]; rfl
  | c :: cs, d :: ds => by
    rw [beqNs, beqNs_zip cs ds, List.zip_cons_cons, List.map_cons, List.all_cons, List.length_cons, List.length_cons]
    simp [Bool.and_assoc]
  | [], _ :: _ => by rw [beqNs]; rfl
  | _ :: _, [] => by rw [beqNs]; rfl
mutual
theorem nd_one {K : PySem.W.Frag} {G : Hp} {C : Addr} (uq : ∀ a xs ys, SqT K G a xs → SqT K G a ys → xs = ys) : ∀ {t u : Nd} {v : V}, Rp K G v (ndD C t) → Rp K G v (ndD C u) → beqN t u = true
  | .mk n m cs, .mk n' m' cs', v, r1, r2 => by
    rw [ndD] at r1 r2
    cases r1 with
    | tre g1 _ h1 _ _ =>
      cases r2 with
      | tre g2 _ h2 _ _ =>
        rw [g1] at g2
        cases h1 with
        | cons p1 h1 =>
          cases h1 with
          | cons p2 h1 =>
            cases h1 with
            | cons p3 h1 =>
              cases h1
              cases h2 with
              | cons q1 h2 =>
                cases h2 with
                | cons q2 h2 =>
                  cases h2 with
                  | cons q3 h2 =>
                    cases h2
                    simp only [Option.some.injEq, HO.ins.injEq, List.cons_append, List.nil_append, List.cons.injEq, Prod.mk.injEq] at g2
                    obtain ⟨_, _, ⟨_, rfl⟩, ⟨_, rfl⟩, ⟨_, rfl⟩, _⟩ := g2
                    cases p1; cases q1; cases p2; cases q2
                    cases p3 with
                    | @tup a xs _ s1 a1 =>
                      cases q3 with
                      | @tup _ ys _ s2 a2 =>
                        obtain rfl := uq _ _ _ s1 s2
                        rw [beqN, nds_one uq a1 a2]
                        simp
theorem nds_one {K : PySem.W.Frag} {G : Hp} {C : Addr} (uq : ∀ a xs ys, SqT K G a xs → SqT K G a ys → xs = ys) : ∀ {cs ds : List Nd} {vs : List V}, RpA K G vs (ndDs C cs) → RpA K G vs (ndDs C ds) → beqNs cs ds = true
  | [], [], _, _, _ => by rw [beqNs]
  | [], _ :: _, _, r1, r2 => by
    have h1 := r1.length
    have h2 := r2.length
    rw [ndDs_map, List.length_map] at h1 h2
    rw [h1] at h2
    cases h2
  | _ :: _, [], _, r1, r2 => by
    have h1 := r1.length
    have h2 := r2.length
    rw [ndDs_map, List.length_map] at h1 h2
    rw [h1] at h2
    cases h2
  | c :: cs, d :: ds, _, r1, r2 => by
    rw [ndDs] at r1 r2
    cases r1 with
    | cons x1 t1 =>
      cases r2 with
      | cons x2 t2 => rw [beqNs, nd_one uq x1 x2, nds_one uq t1 t2]; rfl
end
/-- == of two trees -/
def TEqB (K : PySem.W.Frag) (n : Nat) : SpecT := fun ss O R => ∃ (CT : Addr) (t u : Nd), ss = [.dat (ndD CT t), .dat (ndD CT u)] ∧ clsAt K "Tree" CT ∧ htN t ≤ n ∧ R (.ret (.dat (.bl (beqN t u)))) O
def relN (C : Addr) (n : Nat) (d e : Dat) (b : Bool) : Prop := ∃ t u, d = ndD C t ∧ e = ndD C u ∧ htN t ≤ n ∧ b = beqN t u
theorem nd_ins {K : PySem.W.Frag} {G : Hp} {C : Addr} {t : Nd} {v : V} (r : Rp K G v (ndD C t)) : ∃ a dx fs, v = .ref a ∧ G a = some (.ins C dx fs) := by
  obtain ⟨nm, mk, cs, rfl⟩ := nd_eq t
  rw [ndD] at r
  cases r with
  | tre g _ _ _ _ => exact ⟨_, _, _, rfl, g⟩
theorem eqk_nd {K : PySem.W.Frag} {C : Addr} {n : Nat} (hC : clsAt K "Tree" C) : EqK K C (TEqB K n) (relN C n) where
  run := fun d e b O R ⟨t, u, e1, e2, h, e3⟩ hR => by
    subst e1 e2 e3
    exact ⟨C, t, u, rfl, hC, h, hR⟩
  one := fun d e b ⟨t, u, e1, e2, h, e3⟩ G v r => by
    subst e1
    exact nd_ins r
  two := fun d e b ⟨t, u, e1, e2, h, e3⟩ G v r => by
    subst e2
    exact nd_ins r
  slf := fun d e b ⟨t, u, e1, e2, h, e3⟩ G a uq r1 r2 => by
    subst e1 e2 e3
    exact nd_one uq r1 r2
theorem pair_nd {C : Addr} {n : Nat} : ∀ {cs ds : List Nd}, (∀ c ∈ cs, htN c ≤ n) → Paired (fun (z : Dat × Dat) (t : Bool) => relN C n z.1 z.2 t) ((ndDs C cs).zip (ndDs C ds)) ((cs.zip ds).map fun (z : Nd × Nd) => beqN z.1 z.2)
  | [], ds, _ => by
    have e : ndDs C ([] : List Nd) = [] := by rw [ndDs]
    rw [e]; exact .nil
  | c :: cs, [], _ => by
    have e : ndDs C ([] : List Nd) = [] := by rw [ndDs]
    have e2 : ndDs C (c :: cs) = ndD C c :: ndDs C cs := by rw [ndDs]
    rw [e, e2]; exact .nil
  | c :: cs, d :: ds, h => by
    have e1 : ndDs C (d :: ds) = ndD C d :: ndDs C ds := by rw [ndDs]
    have e2 : ndDs C (c :: cs) = ndD C c :: ndDs C cs := by rw [ndDs]
    rw [e1, e2]
    exact .cons ⟨c, d, rfl, rfl, h c List.mem_cons_self, rfl⟩ (pair_nd fun x hx => h x (List.mem_cons_of_mem _ hx))
/-- == of a tree and what is none -/
def TEqX (K : PySem.W.Frag) : SpecT := fun ss O R => ∃ (CT : Addr) (t : Nd) (d : Dat), ss = [.dat (ndD CT t), .dat d] ∧ clsAt K "Tree" CT ∧ ((∃ z, d = .str z) ∨ ∃ ds, d = .tup ds) ∧ R (.ret (.dat (.bl false))) O
theorem sub_ty {K : PySem.W.Frag} {T : String} {C : Addr} (h : (fastBuiltinMro T).isSome = true) : PySem.W.subIn K (.type T) (.ref C) = some false := by
  show (fastBuiltinMro T).map (·.contains (.ref C)) = some false
  unfold fastBuiltinMro at h ⊢
  cases e : fastFind? T with
  | none => rw [e] at h; cases h
  | some x =>
    rw [Option.map_some, Option.map_some]
    congr 1
    simp [List.contains_eq_any_beq]
def TLenS (K : PySem.W.Frag) : SpecT := fun ss O R => ∃ (CT : Addr) (t : Nd), ss = [.dat (ndD CT t)] ∧ clsAt K "Tree" CT ∧ R (.ret (.dat (.int (szN t)))) O
def TStrS (K : PySem.W.Frag) : SpecT := fun ss O R => ∃ (CT : Addr) (t : Nd), ss = [.dat (ndD CT t)] ∧ clsAt K "Tree" CT ∧ R (.ret (.dat (.str (txN t)))) O
section
variable {P : Program} {w : World} {K : PySem.W.Frag} {mg : Str → Option Value} {base : Heap}
theorem kit_no (Z : Facts K) {C : Addr} (hC : clsAt K "Tree" C) {T : String} (h : (fastBuiltinMro T).isSome = true) : PySem.W.kitOne K (.type T) (.ref C) = some false := by
  obtain ⟨C', h1, h2, h3⟩ := Z.e_cls_Tree
  have q := h1.symm.trans hC
  cases q
  exact kit_of_sub (by intro z; cases z) h2 h3 (sub_ty h)
theorem fn_Tree_eqS (T : TopOf K mg) (Z : Facts K) (n : Nat) (EQ : ∀ C, clsAt K "Tree" C → EqC P w K mg base (3 * n + 1) C (TEqB K n)) {f : Addr} {fd : FuncData} (F : L2.Fun K "__eq__" "Tree.__eq__" s_Tree_eq f fd) : Fn P w K mg base false (3 * n + 4) f fd ["self", "other"] (TEqB K (n + 1)) := by
  have sc := sc_Tree_eq
  refine fn_mk F sc_Tree_eq (by walk_at "len") fun cdv A outer s H E ss O R hr hpo h => ?_
  obtain ⟨C, t, u, rfl, hC, hn, h⟩ := h
  obtain ⟨CT, I_Tree, tI, tRd, tFe, tL, tIt, tE, tS, tEv, na1, na2, na3, na4, na5⟩ := Z.c_Tree
  obtain rfl := at_inj hC I_Tree.at_
  obtain ⟨nm, mk, cs, rfl⟩ := nd_eq t
  obtain ⟨nm2, mk2, cs2, rfl⟩ := nd_eq u
  rw [htN] at hn
  -- 0:self 1:other
  refine sw_cons ?_
  refine s1_if ?_
  refine tw_not ?_
  refine tw_val ?_
  refine ew_callB (T.no Z.n_isinstance) bt_isinstance ?_
  refine aw_cons ?_
  refine ew_var 1 ?_
  refine aw_cons ?_
  refine ew_cls (T.is I_Tree.at_) ?_
  refine aw_nil ?_
  refine cb_isC kit_self (.inr ⟨_, I_Tree.ins, by rw [ndD]; rfl, rfl⟩) ?_
  refine ⟨_, rfl, fun ht => ?_, fun ht => ?_⟩
  · cases ht
  · refine sw_nil ?_
    refine sw_one ?_
    refine s1_ret ?_
    refine ew_cmp ?_
    refine ew_tup ?_
    refine aw_cons ?_
    refine ew_name I_Tree.ins.cl na1 ?_
    refine ew_var 0 ?_
    refine ⟨_, rfl, ?_⟩
    refine aw_cons ?_
    refine ew_mark I_Tree.ins.cl na2 ?_
    refine ew_var 0 ?_
    refine ⟨_, rfl, ?_⟩
    refine aw_cons ?_
    refine ew_children I_Tree.ins.cl na3 ?_
    refine ew_var 0 ?_
    refine ⟨_, rfl, ?_⟩
    refine aw_nil ?_
    refine ⟨[_, _, _], rfl, by walk_at "few", ?_⟩
    refine ew_tup ?_
    refine aw_cons ?_
    refine ew_name I_Tree.ins.cl na1 ?_
    refine ew_var 1 ?_
    refine ⟨_, rfl, ?_⟩
    refine aw_cons ?_
    refine ew_mark I_Tree.ins.cl na2 ?_
    refine ew_var 1 ?_
    refine ⟨_, rfl, ?_⟩
    refine aw_cons ?_
    refine ew_children I_Tree.ins.cl na3 ?_
    refine ew_var 1 ?_
    refine ⟨_, rfl, ?_⟩
    refine aw_nil ?_
    refine ⟨[_, _, _], rfl, by walk_at "few", ?_⟩
    
    refine ob_eqTup3B (EQ _ hC) (eqk_nd hC) (hr.r.mono (by omega)) (pair_nd (cs := cs) (ds := cs2) fun c hc => by have := htNs_mem hc; have hn : 1 + htNs cs ≤ n + 1 := hn; omega) ?_
    rw [beqN, beqNs_zip] at h
    show R (.ret (.dat (.bl (decide (nm = nm2) && (decide (mk = mk2) && (((cs.zip cs2).map fun (z : Nd × Nd) => beqN z.1 z.2).all id && decide ((ndDs C cs).length = (ndDs C cs2).length))))))) O
    rw [show (ndDs C cs).length = cs.length by rw [ndDs_map, List.length_map], show (ndDs C cs2).length = cs2.length by rw [ndDs_map, List.length_map]]
    exact h
theorem fn_Tree_eqN (T : TopOf K mg) (Z : Facts K) : ∀ (n : Nat) {f : Addr} {fd : FuncData} (F : L2.Fun K "__eq__" "Tree.__eq__" s_Tree_eq f fd), Fn P w K mg base false (3 * n + 1) f fd ["self", "other"] (TEqB K n)
  | 0, f, fd, F => fn_mk F sc_Tree_eq (fun ss O R ⟨_, _, _, e, _⟩ => by rw [e]; rfl) fun cdv A outer s H E ss O R hr hpo h => by
    obtain ⟨_, t, _, _, _, h0, _⟩ := h
    have := htN_pos t
    omega
  | n + 1, f, fd, F => fn_Tree_eqS T Z n (fun C hC => by
    obtain ⟨CT, I_Tree, tI, tRd, tFe, tL, tIt, tE, tS, tEv, na1, na2, na3, na4, na5⟩ := Z.c_Tree
    obtain rfl := at_inj hC I_Tree.at_
    exact eqc_of I_Tree tE (by walk_at "b2") fun f fd F => fn_Tree_eqN T Z n F) F
theorem eq_Tree (T : TopOf K mg) (Z : Facts K) (n : Nat) {C : Addr} (hC : clsAt K "Tree" C) : EqC P w K mg base (3 * n + 1) C (TEqB K n) := by
  obtain ⟨CT, I_Tree, tI, tRd, tFe, tL, tIt, tE, tS, tEv, na1, na2, na3, na4, na5⟩ := Z.c_Tree
  obtain rfl := at_inj hC I_Tree.at_
  exact eqc_of I_Tree tE (by walk_at "b2") fun f fd F => fn_Tree_eqN T Z n F
theorem fn_Tree_eqX (T : TopOf K mg) (Z : Facts K) {f : Addr} {fd : FuncData} (F : L2.Fun K "__eq__" "Tree.__eq__" s_Tree_eq f fd) : Fn P w K mg base false (1) f fd ["self", "other"] (TEqX K) := by
  have sc := sc_Tree_eq
  refine fn_mk F sc_Tree_eq (by walk_at "len") fun cdv A outer s H E ss O R hr hpo h => ?_
  obtain ⟨C, t, d, rfl, hC, hd, h⟩ := h
  obtain ⟨CT, I_Tree, tI, tRd, tFe, tL, tIt, tE, tS, tEv, na1, na2, na3, na4, na5⟩ := Z.c_Tree
  obtain rfl := at_inj hC I_Tree.at_
  -- 0:self 1:other
  refine sw_cons ?_
  refine s1_if ?_
  refine tw_not ?_
  refine tw_val ?_
  refine ew_callB (T.no Z.n_isinstance) bt_isinstance ?_
  refine aw_cons ?_
  refine ew_var 1 ?_
  refine aw_cons ?_
  refine ew_cls (T.is I_Tree.at_) ?_
  refine aw_nil ?_
  
  refine cb_isC (t := .type (tyName d)) (b := false) ?_ (.inl ⟨d, rfl, ?_, rfl⟩) ?_
  · rcases hd with ⟨z, rfl⟩ | ⟨ds, rfl⟩
    · exact kit_no Z hC (T := "str") (by decide +kernel)
    · exact kit_no Z hC (T := "tuple") (by decide +kernel)
  · rcases hd with ⟨z, rfl⟩ | ⟨ds, rfl⟩
    · exact (by decide : ("str" : String) ≠ "")
    · exact (by decide : ("tuple" : String) ≠ "")
  refine ⟨_, rfl, fun ht => ?_, fun ht => ?_⟩
  · refine sw_one ?_
    refine s1_ret ?_
    refine ew_bl ?_
    exact h
  · cases ht
theorem eqx_Tree (T : TopOf K mg) (Z : Facts K) {C : Addr} (hC : clsAt K "Tree" C) : EqC P w K mg base 1 C (TEqX K) := by
  obtain ⟨CT, I_Tree, tI, tRd, tFe, tL, tIt, tE, tS, tEv, na1, na2, na3, na4, na5⟩ := Z.c_Tree
  obtain rfl := at_inj hC I_Tree.at_
  exact eqc_of I_Tree tE (by walk_at "b2") fun f fd F => fn_Tree_eqX T Z F
theorem fn_Tree_len (T : TopOf K mg) (Z : Facts K) {f : Addr} {fd : FuncData} (F : L2.Fun K "__len__" "Tree.__len__" s_Tree_len f fd) : Fn P w K mg base false (1) f fd ["self"] (TLenS K) := by
  have sc := sc_Tree_len
  refine fn_mk F sc_Tree_len (by walk_at "len") fun cdv A outer s H E ss O R hr hpo h => ?_
  obtain ⟨C, t, rfl, hC, h⟩ := h
  obtain ⟨C1, I_Tree, tI, tRd, tFe, tL, tIt, tE, tS, tEv, na1, na2, na3, na4, na5⟩ := Z.c_Tree
  obtain rfl := at_inj hC I_Tree.at_
  -- 0:self
  refine sw_one ?_
  refine s1_ret ?_
  refine ew_callB (T.no Z.n_len) bt_len ?_
  refine aw_cons ?_
  refine ew_nodes I_Tree.ins.cl na4 (ew_var 0 ⟨t, rfl, ?_⟩)
  refine aw_nil ?_
  refine cb_lenT ?_
  rw [List.length_cons, beD_len]
  exact h
theorem mlen_tree (T : TopOf K mg) (Z : Facts K) {C : Addr} (hC : clsAt K "Tree" C) : MCal P w K mg base false 1 C "__len__" (TLenS K) [] := by
  obtain ⟨C1, I_Tree, tI, tRd, tFe, tL, tIt, tE, tS, tEv, na1, na2, na3, na4, na5⟩ := Z.c_Tree
  obtain rfl := at_inj hC I_Tree.at_
  exact mcal_of tL (by walk_at "b1") fun f fd F => fn_Tree_len T Z F
theorem fn_Tree_str (T : TopOf K mg) (Z : Facts K) {f : Addr} {fd : FuncData} (F : L2.Fun K "__str__" "Tree.__str__" s_Tree_str f fd) : Fn P w K mg base false (1) f fd ["self"] (TStrS K) := by
  have sc := sc_Tree_str
  refine fn_mk F sc_Tree_str (by walk_at "len") fun cdv A outer s H E ss O R hr hpo h => ?_
  obtain ⟨CT, t, rfl, hCT, h⟩ := h
  obtain ⟨C', I_Tree, tI, tRd, tFe, tL, tIt, tE, tS, tEv, na1, na2, na3, na4, na5⟩ := Z.c_Tree
  obtain rfl := at_inj hCT I_Tree.at_
  -- 0:self
  refine sw_one ?_
  refine s1_ret ?_
  refine ew_callTy (T.no Z.n_str) bt_str ?_
  refine aw_cons ?_
  refine ew_text I_Tree.ins.cl na5 ?_
  refine ew_var 0 ?_
  refine ⟨t, rfl, ?_⟩
  refine aw_nil ?_
  walk_at "cb str"
  exact h
theorem fn_Tree_iter (T : TopOf K mg) (Z : Facts K) {f : Addr} {fd : FuncData} (F : L2.Fun K "__iter__" "Tree.__iter__" s_Tree_iter f fd) : FnN P w K mg base 1 f fd ["self"] (ItrS K) := by
  have sc := sc_Tree_iter
  refine fnN_mk F sc_Tree_iter (fun n ss O R h => by obtain ⟨_, _, rfl, _⟩ := h; rfl) fun cdv A outer s H E ss O R hr hpo h => ?_
  obtain ⟨CT, t, rfl, hCT, h⟩ := h
  obtain ⟨C2, I_Tree, tI, tRd, tFe, tL, tIt, tE, tS, tEv, na1, na2, na3, na4, na5⟩ := Z.c_Tree
  obtain rfl := at_inj hCT I_Tree.at_
  refine sw_one ?_
  refine s1_ret ?_
  refine ew_callB (T.no Z.n_iter) bt_iter ?_
  refine aw_cons ?_
  refine ew_nodes I_Tree.ins.cl na4 ?_
  refine ew_var 0 ?_
  refine ⟨t, rfl, ?_⟩
  refine aw_nil ?_
  refine cb_iterT fun it hit hN => ?_
  rw [be_pre]
  exact h it hit hN
theorem m_iter (T : TopOf K mg) (Z : Facts K) {CT : Addr} (hC : clsAt K "Tree" CT) : MIter P w K mg base 1 CT (ItrS K) := by
  obtain ⟨C2, I_Tree, tI, tRd, tFe, tL, tIt, tE, tS, tEv, na1, na2, na3, na4, na5⟩ := Z.c_Tree
  obtain rfl := at_inj hC I_Tree.at_
  obtain ⟨f, fd, hm, F⟩ := tIt.ex
  exact ⟨f, fd, _, hm.at_, hm.fn, fn_Tree_iter T Z F, mbinds F (by walk_at "b1")⟩
end
/-- for x in a tree: its nodes -/
theorem iw_tree {X : Cx} {O : Own} {ρ : List Slot} {x : ExK} {kd : List Dat → Own → Prop} {o tg : Expr} {CT : Addr} (M : MIter X.prog X.w X.K X.mg X.base 1 CT (ItrS X.K)) (hC : clsAt X.K "Tree" CT) (hr : Room 1 X.A) (h : EW X O ρ o x fun s O1 => ∃ t, s = .dat (ndD CT t) ∧ kd ((preN t).map (ndD CT)) O1) : IW X O ρ tg o x kd :=
  iw_ownIt M hr (h.mono fun s O1 ⟨t, e, hk⟩ => by
    subst e
    obtain ⟨nm, mk, cs, rfl⟩ := nd_eq t
    refine ⟨by rw [ndD]; rfl, fun N => ⟨CT, _, rfl, hC, fun it hit hN => ⟨it, _, rfl, hit, hN, rfl, hk⟩⟩⟩)
theorem sc_Tree_events : GScope N_Tree_events ["self"] (defScope s_Tree_events) := ⟨rfl, rfl, rfl, by decide +kernel, rfl, by decide +kernel, by decide +kernel⟩
def opN (t : Nd) : Dat := .tup [.str "open", .str (nmN t), .int (mkN t)]
def clN (_ : Nd) : Dat := .tup [.str "close"]
theorem evs_flat : ∀ cs : List Nd, (evsNs cs).map evD = cs.flatMap fun c => (evsN c).map evD
  | [] => by rw [evsNs]; rfl
  | c :: cs => by rw [evsNs, List.map_append, evs_flat cs, List.flatMap_cons]
theorem ht_csN {t c : Nd} (h : c ∈ csN t) : htN c < htN t := by
  obtain ⟨n, m, cs, rfl⟩ := nd_eq t
  have := htNs_mem (cs := cs) h
  rw [htN]; omega
section
variable {P : Program} {w : World} {K : PySem.W.Frag} {mg : Str → Option Value} {base : Heap}
theorem events_down (Z : Facts K) {C : Addr} (hC : clsAt K "Tree" C) : ∃ (f : Addr) (fd : FuncData) (e1 it o e2 : Expr) (y1 p1 q0 q1 q2 y2 p2 p3 y3 p4 : Pos),
    Descends P w K mg base N_Tree_events ["self"] "Tree.events" "events" "events" "child" s_Tree_events f C fd csN (ndD C) opN clN (fun _ => True) htN (fun t => (evsN t).map evD) e1 it o e2 y1 p1 q0 q1 q2 y2 p2 p3 y3 p4 := by
  obtain ⟨CT, I_Tree, tI, tRd, tFe, tL, tIt, tE, tS, tEv, na1, na2, na3, na4, na5⟩ := Z.c_Tree
  obtain rfl := at_inj hC I_Tree.at_
  obtain ⟨f, fd, hm, F⟩ := tEv.ex
  refine ⟨f, fd, _, _, _, _, _, _, _, _, _, _, _, _, _, _, { nd := sc_Tree_events.nd, len := rfl, cn1 := rfl, loc := .inl rfl, ps1 := rfl, co := rfl, ki := rfl, noc := fun L x => rfl, body := rfl, one := ?_, walk := ?_, child := ?_, two := ?_, ins := ?_, cls := I_Tree.ins.cl, met := hm, fn := funX_of F, sc := sc_Tree_events, bd := mbinds F (by walk_at "b1"), kid := fun t c _ h => ⟨trivial, ht_csN h⟩, evs := ?_, fold := fun L x => rfl, call := fun L => ⟨_, rfl⟩ }⟩
  · intro L A outer s0 H0 O ρ t _ h0
    refine ew_tup ?_
    refine aw_cons ?_
    refine ew_str ?_
    refine aw_cons ?_
    refine ew_name I_Tree.ins.cl na1 ?_
    refine ew_var 0 ?_ h0
    refine ⟨t, rfl, ?_⟩
    refine aw_cons ?_
    refine ew_mark I_Tree.ins.cl na2 ?_
    refine ew_var 0 ?_ h0
    refine ⟨t, rfl, ?_⟩
    refine aw_nil ?_
    exact ⟨[_, _, _], rfl, by walk_at "few", rfl, rfl⟩
  · intro L A outer s0 H0 O ρ t _ h0
    refine iw_tup ?_
    refine ew_children I_Tree.ins.cl na3 ?_
    refine ew_var 0 ?_ h0
    exact ⟨t, rfl, _, rfl, ndDs_map C _, rfl⟩
  · intro L A outer s0 H0 O ρ t _ h0
    refine ew_var 1 ?_ h0
    exact ⟨rfl, rfl⟩
  · intro L A outer s0 H0 O ρ t _ h0
    refine ew_tup ?_
    refine aw_cons ?_
    refine ew_str ?_
    refine aw_nil ?_
    exact ⟨[_], rfl, by walk_at "few", rfl, rfl⟩
  · intro O t _
    obtain ⟨n, m, cs, rfl⟩ := nd_eq t
    rw [ndD]
    exact ⟨rfl, by decide, rfl⟩
  · intro t _
    obtain ⟨n, m, cs, rfl⟩ := nd_eq t
    show (evsN (.mk n m cs)).map evD = _ :: (cs.flatMap (fun c => (evsN c).map evD) ++ _)
    rw [evsN, List.map_cons, List.map_append, evs_flat]
    rfl
end
/-- names of the law, marks up to B -/
def gdB (B : Int) (t : Nd) : Prop := ∀ n m, some (n, m) ∈ evsN t → isNm n = true ∧ 0 ≤ m ∧ m ≤ B
theorem gdB_of {t : Nd} (h : gdT t) : gdB 999999 t := fun n m e => by
  obtain ⟨h1, h2, h3⟩ := h n m e
  exact ⟨h1, h2, by omega⟩
theorem gdB_mono {B B' : Int} {t : Nd} (h : gdB B t) (hb : B ≤ B') : gdB B' t := fun n m e => by
  obtain ⟨h1, h2, h3⟩ := h n m e
  exact ⟨h1, h2, by omega⟩
theorem evsNs_mem {e : Ev} {c : Nd} : ∀ {cs : List Nd}, c ∈ cs → e ∈ evsN c → e ∈ evsNs cs
  | d :: cs, h, he => by
    rw [evsNs]
    rcases List.mem_cons.mp h with rfl | h
    · exact List.mem_append_left _ he
    · exact List.mem_append_right _ (evsNs_mem h he)
theorem gdB_inv {B : Int} {n : Str} {m : Int} {cs : List Nd} (h : gdB B (.mk n m cs)) : (isNm n = true ∧ 0 ≤ m ∧ m ≤ B) ∧ ∀ c ∈ cs, gdB B c := by
  refine ⟨h n m (by rw [evsN]; exact List.mem_cons_self), fun c hc n' m' e => h n' m' ?_⟩
  rw [evsN]
  exact List.mem_cons_of_mem _ (List.mem_append_left _ (evsNs_mem hc e))
theorem gdB_mk {B : Int} {n : Str} {m : Int} {cs : List Nd} (h : isNm n = true ∧ 0 ≤ m ∧ m ≤ B) (hc : ∀ c ∈ cs, gdB B c) : gdB B (.mk n m cs) := fun n' m' e => by
  rw [evsN] at e
  rcases List.mem_cons.mp e with e | e
  · cases e; exact h
  · rcases List.mem_append.mp e with e | e
    · obtain ⟨c, h1, h2⟩ := evsNs_in e
      exact hc c h1 n' m' h2
    · cases List.mem_singleton.mp e
theorem nm_len8 {z : Str} (h : isNm z = true) : z.length ≤ 8 := (madeOf_pos (Bool.and_eq_true_iff.mp h).1).2.1
theorem nm_sml3 {z : Str} (h : isNm z = true) : smlB z = true := sml_b fun c hc => by
  have := ltrs_mem.mp ((madeOf_pos (Bool.and_eq_true_iff.mp h).1).2.2 c hc)
  omega
mutual
theorem okT_gd {B : Int} (hB : B < 1000000000000) : ∀ {t : Nd}, gdB B t → okT t
  | .mk n m cs, h => by
    obtain ⟨⟨h1, h2, h3⟩, h4⟩ := gdB_inv h
    rw [okT]
    exact ⟨nm_len8 h1, h2, by omega, okTs_gd hB h4⟩
theorem okTs_gd {B : Int} (hB : B < 1000000000000) : ∀ {cs : List Nd}, (∀ c ∈ cs, gdB B c) → okTs cs
  | [], _ => by rw [okTs]; trivial
  | c :: cs, h => by
    rw [okTs]
    exact ⟨okT_gd hB (h c List.mem_cons_self), okTs_gd hB fun d hd => h d (List.mem_cons_of_mem _ hd)⟩
end
theorem htN_sz : ∀ t : Nd, htN t ≤ szN t := by
  suffices main : ∀ k t, szN t ≤ k → htN t ≤ szN t from fun t => main _ t (Nat.le_refl _)
  intro k
  induction k with
  | zero => intro t h; have := szN_pos t; omega
  | succ k ih =>
    intro t h
    obtain ⟨n, m, cs, rfl⟩ := nd_eq t
    rw [szN] at h ⊢
    rw [htN]
    have : ∀ cs : List Nd, szNs cs ≤ k → htNs cs ≤ szNs cs := by
      intro cs
      induction cs with
      | nil => intro _; rw [htNs]; exact Nat.zero_le _
      | cons c cs ih2 =>
        intro h
        rw [szNs] at h ⊢
        rw [htNs]
        have := ih c (by omega)
        have := ih2 (by omega)
        omega
    have := this cs (by omega)
    omega
mutual
theorem fine_lw {B : Int} (hB : B < 1000000000000) : ∀ {t : Nd}, gdB B t → fine (lwD t) = true
  | .mk n m cs, h => by
    obtain ⟨⟨h1, h2, h3⟩, h4⟩ := gdB_inv h
    rw [lwD]
    show (smlB n && (fine (.int m) && (fines (lwDs cs) && true))) = true
    rw [nm_sml3 h1, fine_nat h2 (by omega), fines_lw hB h4]; rfl
theorem fines_lw {B : Int} (hB : B < 1000000000000) : ∀ {cs : List Nd}, (∀ c ∈ cs, gdB B c) → fines (lwDs cs) = true
  | [], _ => by rw [lwDs]; rfl
  | c :: cs, h => by
    rw [lwDs]
    show (fine (lwD c) && fines (lwDs cs)) = true
    rw [fine_lw hB (h c List.mem_cons_self), fines_lw hB fun d hd => h d (List.mem_cons_of_mem _ hd)]; rfl
end
theorem deps_c (d : Dat) (ds : List Dat) : deps (d :: ds) = max (dep d) (deps ds) := rfl
theorem deps_n : deps [] = 0 := rfl
mutual
theorem dep_lw : ∀ t : Nd, dep (lwD t) ≤ 2 * htN t
  | .mk n m cs => by
    have := deps_lw cs
    rw [lwD, htN, dep_tup, deps_c, deps_c, deps_c, deps_n, dep_tup, show dep (.str n) = 0 from rfl, show dep (.int m) = 0 from rfl]
    omega
theorem deps_lw : ∀ cs : List Nd, deps (lwDs cs) ≤ 2 * htNs cs
  | [] => by rw [lwDs, deps_n]; exact Nat.zero_le _
  | c :: cs => by
    have := dep_lw c
    have := deps_lw cs
    rw [lwDs, deps_c, htNs]
    omega
end
theorem shape_lw {B : Int} {t : Nd} (hB : B < 1000000000000) (h : gdB B t) (hs : szN t ≤ 30) : SeqAt.shaped (toPy (lwD t)) = true := shape_of (fine_lw hB h) (by have := dep_lw t; have := htN_sz t; omega)
theorem plain_lw {B : Int} {t : Nd} (hB : B < 1000000000000) (h : gdB B t) : plain (lwD t) = true := (fine_all _ (fine_lw hB h)).1
theorem eqD_int3 (i j : Int) : eqD (.int i) (.int j) = decide (i = j) := by
  show PyData.eqv (.int i) (.int j) = _
  unfold PyData.eqv
  by_cases h : i = j
  · subst h; simp
  · simp [h]
mutual
theorem eq_lw : ∀ t u : Nd, eqD (lwD t) (lwD u) = beqN t u
  | .mk n m cs, .mk n' m' cs' => by
    rw [lwD, lwD, beqN, eqD_tup, eqA_cons, eqA_cons, eqA_cons, eqA_nil, eqD_str, eqD_int3, eqD_tup, eqs_lw cs cs', Bool.and_true]
theorem eqs_lw : ∀ cs ds : List Nd, PyData.eqvAll (toPys (lwDs cs)) (toPys (lwDs ds)) = beqNs cs ds
  | [], [] => by
    rw [beqNs, lwDs]; exact eqA_nil
  | c :: cs, d :: ds => by
    rw [lwDs, lwDs, eqA_cons, eq_lw c d, eqs_lw cs ds, beqNs]
  | [], d :: ds => by
    have e1 : lwDs [] = [] := by rw [lwDs]
    have e2 : lwDs (d :: ds) = lwD d :: lwDs ds := by rw [lwDs]
    rw [e1, e2, eqA_nc, beqNs]
  | c :: cs, [] => by
    have e1 : lwDs [] = [] := by rw [lwDs]
    have e2 : lwDs (c :: cs) = lwD c :: lwDs cs := by rw [lwDs]
    rw [e1, e2, eqA_cn, beqNs]
end
mutual
theorem beqN_rfl : ∀ t : Nd, beqN t t = true
  | .mk n m cs => by rw [beqN, beqNs_rfl cs]; simp
theorem beqNs_rfl : ∀ cs : List Nd, beqNs cs cs = true
  | [] => by rw [beqNs]
  | c :: cs => by rw [beqNs, beqN_rfl c, beqNs_rfl cs]; rfl
end
theorem small_gd {B : Int} {t : Nd} (hB : B < 1000000000000) (h : gdB B t) : ∀ e ∈ evsN t, smallE e := fun e he => by
  cases e with
  | none => trivial
  | some q =>
    obtain ⟨n, m⟩ := q
    obtain ⟨h1, h2, h3⟩ := h n m he
    have := nm_len8 h1
    exact ⟨by omega, h2, Int.lt_trans (show m < 1000000000000 by omega) (by decide)⟩
theorem fine_ev3 {B : Int} {t : Nd} (hB : B < 1000000000000) (h : gdB B t) : ∀ e ∈ evsN t, fine (evD e) = true := fun e he => by
  cases e with
  | none => exact (by decide +kernel : fine (.tup [.str "close"]) = true)
  | some q =>
    obtain ⟨n, m⟩ := q
    obtain ⟨h1, h2, h3⟩ := h n m he
    show (fine (.str "open") && (smlB n && (fine (.int m) && true))) = true
    rw [nm_sml3 h1, fine_nat h2 (by omega), show fine (.str "open") = true by decide +kernel]; rfl
theorem wgt_ev3 {B : Int} {t : Nd} (hB : B < 1000000000000) (h : gdB B t) : ∀ e ∈ evsN t, wgt (evD e) ≤ 100 := fun e he => by
  cases e with
  | none => exact (by decide +kernel : wgt (.tup [.str "close"]) ≤ 100)
  | some q =>
    obtain ⟨n, m⟩ := q
    obtain ⟨h1, h2, h3⟩ := h n m he
    have e1 := wgt_nat h2 (show m < 10 ^ 12 by omega)
    have e2 := nm_len8 h1
    show wgt (.str "open") + 1 + (n.cps.size + 1 + (wgt (.int m) + 1 + 0)) ≤ 100
    have e3 : wgt (.str "open") = 4 := by decide +kernel
    have e4 : n.cps.size ≤ 8 := e2
    omega
theorem wgts_le {b : Nat} : ∀ {ds : List Dat}, (∀ d ∈ ds, wgt d ≤ b) → wgts ds ≤ ds.length * (b + 1)
  | [], _ => Nat.zero_le _
  | d :: ds, h => by
    have h1 := h d (List.mem_cons_self ..)
    have h2 := wgts_le fun d hd => h d (List.mem_cons_of_mem _ hd)
    have e : wgts (d :: ds) = wgt d + 1 + wgts ds := rfl
    rw [e, List.length_cons, Nat.add_mul, Nat.one_mul]
    omega
theorem rep_evs {B : Int} {t : Nd} (hB : B < 1000000000000) (h : gdB B t) (hs : szN t ≤ 1000) : reprOk (.lst ((evsN t).map evD)) = true := by
  have f : fine (.lst ((evsN t).map evD)) = true := fines_map (fine_ev3 hB h)
  have dd := deps_map (f := evD) (l := evsN t) (b := 1) fun e he => by cases e <;> exact Nat.le_refl 1
  have ww := wgts_le (ds := (evsN t).map evD) (b := 100) fun d hd => by
    obtain ⟨e, he, rfl⟩ := List.mem_map.mp hd
    exact wgt_ev3 hB h e he
  rw [List.length_map, evsN_len] at ww
  refine reprOk_of f ?_ ?_
  · rw [dep_lst]; omega
  · rw [wgt_lst]; omega
theorem szNs_cut (cs : List Nd) (i : Nat) : szNs (cs.take i) + szNs (cs.drop i) = szNs cs := by
  have e := congrArg szNs (List.take_append_drop i cs)
  have a : ∀ as bs : List Nd, szNs (as ++ bs) = szNs as + szNs bs := by
    intro as bs
    induction as with
    | nil => rw [List.nil_append, show szNs ([] : List Nd) = 0 by rw [szNs]]; omega
    | cons x as ih => rw [List.cons_append, szNs, szNs, ih]; omega
  rw [a] at e
  exact e
theorem szNs_app3 (as bs : List Nd) : szNs (as ++ bs) = szNs as + szNs bs := by
  induction as with
  | nil => rw [List.nil_append, show szNs ([] : List Nd) = 0 by rw [szNs]]; omega
  | cons x as ih => rw [List.cons_append, szNs, szNs, ih]; omega
theorem szNs_rev : ∀ cs : List Nd, szNs cs.reverse = szNs cs
  | [] => rfl
  | c :: cs => by
    rw [List.reverse_cons, szNs_app3, szNs_rev cs, szNs, szNs, szNs]; omega
theorem lwDs_app (as bs : List Nd) : lwDs (as ++ bs) = lwDs as ++ lwDs bs := by rw [lwDs_map, lwDs_map, lwDs_map, List.map_append]
theorem lwDs_take (cs : List Nd) (i : Nat) : (lwDs cs).take i = lwDs (cs.take i) := by rw [lwDs_map, lwDs_map, List.map_take]
theorem lwDs_drop (cs : List Nd) (i : Nat) : (lwDs cs).drop i = lwDs (cs.drop i) := by rw [lwDs_map, lwDs_map, List.map_drop]
theorem lwDs_rev (cs : List Nd) : (lwDs cs).reverse = lwDs cs.reverse := by rw [lwDs_map, lwDs_map, List.map_reverse]
theorem lwDs_len (cs : List Nd) : (lwDs cs).length = cs.length := by rw [lwDs_map, List.length_map]
theorem lwDs_one (c : Nd) : lwDs [c] = [lwD c] := by rw [lwDs, lwDs]
theorem app_assoc (a b c : Str) : a ++ b ++ c = a ++ (b ++ c) := sgs_ext (by simp [sgs_app])
theorem join_cons {y a : Str} {ks : List Str} (h : ks ≠ []) : Txt.join y (a :: ks) = a ++ y ++ Txt.join y ks := by
  rw [TL.join_eq, TL.join_eq]
  cases ks with
  | nil => exact absurd rfl h
  | cons b r => rfl
theorem txt_one (y a : Str) : Txt.join y [a] = a := by rw [TL.join_eq]; rfl
theorem join_app {y : Str} : ∀ {ks ls : List Str}, ks ≠ [] → ls ≠ [] → Txt.join y (ks ++ ls) = Txt.join y ks ++ y ++ Txt.join y ls
  | [a], ls, _, h => by
    rw [List.singleton_append, join_cons h, txt_one]
  | a :: b :: r, ls, _, h => by
    show Txt.join y (a :: ((b :: r) ++ ls)) = _
    rw [join_cons (by simp), join_app (ks := b :: r) (by simp) h, join_cons (ks := b :: r) (by simp), app_assoc, app_assoc, app_assoc, app_assoc, app_assoc]
mutual
/-- the text of a tree is the text of its events -/
theorem tx_evs : ∀ t : Nd, txN t = textE (evsN t)
  | .mk n m cs => by
    have e := txs_evs cs
    rw [txN, evsN]
    unfold textE
    rw [List.map_cons, List.map_append]
    show Txt.join " " ((n ++ ":" ++ Str.ofString (toString m)) :: (txNs cs ++ [("/" : Str)])) = Txt.join " " ((n ++ ":" ++ Str.ofString (toString m)) :: ((evsNs cs).map wordE ++ [("/" : Str)]))
    rw [join_cons (by simp), join_cons (by simp)]
    congr 1
    exact e _ (by simp)
theorem txs_evs : ∀ cs : List Nd, ∀ ls : List Str, ls ≠ [] → Txt.join " " (txNs cs ++ ls) = Txt.join " " ((evsNs cs).map wordE ++ ls)
  | [], ls, _ => by rw [txNs, evsNs]; rfl
  | c :: cs, ls, h => by
    have e1 := tx_evs c
    have e2 := txs_evs cs ls h
    have hne : (evsN c).map wordE ≠ [] := by
      obtain ⟨nm, mk, ds, rfl⟩ := nd_eq c
      rw [evsN]; simp
    have hn2 : txNs cs ++ ls ≠ [] := by simp [h]
    have hn3 : (evsNs cs).map wordE ++ ls ≠ [] := by simp [h]
    rw [txNs, evsNs, List.cons_append, join_cons hn2, List.map_append, List.append_assoc, join_app hne hn3, e2, e1]
    rfl
end
def NearS (n : Nat) : SpecT := fun ss O R => ∃ (p : Addr) (b : Cell) (t : Nd) (ws : List Str) (fr B : Int), ss = [.own p, .dat (lwD t), .dat (.lst (ws.map .str)), .dat (.int fr)] ∧ O p = some b ∧ isBox b ∧ 0 < ws.length ∧ ws.length ≤ 20 ∧ (∀ y ∈ ws, isNm y = true) ∧ htN t ≤ n ∧ szN t ≤ 28 ∧ gdB B t ∧ B < 1000000000000 ∧ 0 ≤ fr ∧ fr ≤ B ∧
  ∀ (b' : Cell) (u : Nd), isBox b' → gdB B u → szN u ≤ szN t + 1 → R (.ret (.dat (lwD u))) (up O p b')
theorem zero_law_near {ss : List Slot} {O : Own} {R : Out → Own → Prop} (h : NearS 0 ss O R) : False := by
  obtain ⟨_, _, t, _, _, _, _, _, _, _, _, _, h0, _⟩ := h
  have := htN_pos t
  omega
theorem kids_ok {B : Int} {cs : List Nd} (hB : B < 1000000000000) (h : ∀ c ∈ cs, gdB B c) (hs : szNs cs ≤ 28) : plain (.tup (lwDs cs)) = true ∧ SeqAt.shaped (toPy (.tup (lwDs cs))) = true := by
  have f : fine (.tup (lwDs cs)) = true := fines_lw hB h
  have d : dep (.tup (lwDs cs)) = deps (lwDs cs) + 1 := rfl
  have e := deps_lw cs
  have q := htN_sz (.mk ("" : Str) 0 cs)
  rw [htN, szN] at q
  exact ⟨(fine_all _ f).1, shape_of f (by omega)⟩
theorem eq_kids (cs : List Nd) : eqD (.tup (lwDs cs)) (.tup []) = cs.isEmpty := by
  rw [eqD_tup]
  cases cs with
  | nil => rw [lwDs]; exact eqA_nil
  | cons c cs => rw [lwDs, eqA_cn]; rfl
theorem szNs_dropS (cs : List Nd) (i : Nat) : szNs (cs.drop (i + 1)) ≤ szNs (cs.drop i) := by
  have e := szNs_cut (cs.drop i) 1
  rw [List.drop_drop] at e
  omega
theorem nil_ok : plain (.tup []) = true ∧ SeqAt.shaped (toPy (.tup [])) = true := ⟨rfl, by decide +kernel⟩
section
variable {P : Program} {w : World} {K : PySem.W.Frag} {mg : Str → Option Value} {base : Heap}
theorem fn_law_near (T : TopOf K mg) (Z : Facts K) : ∀ (n : Nat) {f : Addr} {fd : FuncData} (F : L2.Fun K "_law_near" "_law_near" s_law_near f fd), Fn P w K mg base false (n + 3) f fd ["_law_box_here", "_law_tree_here", "_law_names_here", "_law_fresh"] (NearS n)
  | 0, f, fd, F => by
    refine fn_mk F sc_law_near (by walk_at "len") fun cdv A outer s H E ss O R hr hpo h => ?_
    exact (zero_law_near h).elim
  | n + 1, f, fd, F => by
    have cr : Cal P w K mg base false (n + 3) "_law_near" (NearS n) [] := cal_of T Z.d_law_near (by walk_at "b4") fun f fd F => fn_law_near T Z n F
    have sc := sc_law_near
    refine fn_mk F sc_law_near (by walk_at "len") fun cdv A outer s H E ss O R hr hpo h => ?_
    obtain ⟨p, b, t, ws, fr, B, rfl, hp, hb, hw0, hw1, hwn, hn, hz, hg, hB, hf0, hf1, h⟩ := h
    obtain ⟨nm, mk, cs, rfl⟩ := nd_eq t
    have hsz : szN (.mk nm mk cs) = 1 + szNs cs := by rw [szN]
    rw [htN] at hn
    rw [hsz] at hz h
    rw [lw_mk]
    obtain ⟨g1, g2⟩ := gdB_inv hg
    have hcl := szNs_len cs
    have hks := kids_ok hB g2 (by omega)
    -- 0:_law_box_here 1:_law_tree_here 2:_law_names_here 3:_law_fresh 4:_law_name 5:_law_mark 6:_law_children 7:_law_form 8:_law_at
    refine sw_cons ?_
    refine s1_asg ?_
    refine ew_var 1 ?_
    refine gw_tup ?_
    refine gsw_cons ?_
    refine gw_name 4 ?_ sc.nd
    refine gsw_cons ?_
    refine gw_name 5 ?_ sc.nd
    refine gsw_cons ?_
    refine gw_name 6 ?_ sc.nd
    refine gsw_nil ?_
    refine sw_cons ?_
    refine s1_set 7 ?_ sc.nd
    refine ew_call (c_law_take T Z) hr ?_ (hj := by omega)
    refine aw_cons ?_
    refine ew_var 0 ?_
    refine aw_cons ?_
    refine ew_int ?_
    refine aw_nil ?_
    refine ⟨p, 7, b, rfl, hp, hb, by omega, by omega, fun fm b1 hm0 hm1 hb1 => ?_⟩
    refine sw_cons ?_
    refine s1_if ?_
    refine tw_tv (t := !cs.isEmpty && decide (fm < 3)) (tv_w (tvw_and (tw_cmp (ew_var 6 (ew_tup (aw_nil ⟨[], rfl, by walk_at "few", ob_ne (hr.r.mono (by omega)) hks.1 nil_ok.1 hks.2 nil_ok.2 ⟨_, rfl, by rw [eq_kids], rfl⟩⟩)))) fun _ => tvw_and1 (tw_cmp (ew_var 7 (ew_int (ob_lt ⟨_, rfl, rfl, rfl⟩)))))) ?_
    refine ⟨fun ht => ?_, fun ht => ?_⟩
    · obtain ⟨q1, q2⟩ := Bool.and_eq_true_iff.mp ht
      have q2 := of_decide_eq_true q2
      have hc0 : 0 < cs.length := by
        cases cs with
        | nil => cases q1
        | cons c cs => exact Nat.zero_lt_succ _
      refine sw_cons ?_
      refine s1_set 8 ?_ sc.nd
      refine ew_call (c_law_take T Z) hr ?_ (hj := by omega)
      refine aw_cons ?_
      refine ew_var 0 ?_
      refine aw_cons ?_
      refine ew_callB (T.no Z.n_len) bt_len ?_
      refine aw_cons ?_
      refine ew_var 6 ?_
      refine aw_nil ?_
      walk_at "cb len"
      refine aw_nil ?_
      rw [lwDs_len]
      refine ⟨p, _, b1, rfl, up_at, hb1, by omega, by omega, fun a b2 ha0 ha1 hb2 => ?_⟩
      rw [up_up]
      obtain ⟨c, hc⟩ : ∃ c, cs[a.toNat]? = some c := ⟨_, List.getElem?_eq_getElem (by omega)⟩
      have hcm := List.mem_of_getElem? hc
      have hs1 := szNs_takeS hc
      have hh := htNs_mem hcm
      have hdr : szNs (cs.take (a.toNat + 1)) = szNs (cs.take a.toNat) + szN c := by
        rw [List.take_add_one, hc, szNs_app3]
        show _ + szNs [c] = _
        rw [szNs, szNs]; omega
      have hsp := szNs_cut cs (a.toNat + 1)
      refine sw_one ?_
      refine s1_ret ?_
      refine ew_tup ?_
      refine aw_cons ?_
      refine ew_var 4 ?_
      refine aw_cons ?_
      refine ew_var 5 ?_
      refine aw_cons ?_
      refine ew_bin ?_
      refine ew_bin ?_
      refine ew_slice ?_
      refine ew_var 6 ?_
      refine ow_none ?_
      refine ow_some ?_
      refine ew_var 8 ?_
      refine ⟨_, rfl, ?_⟩
      
      refine sb_tup ?_
      rw [cut_take ha0, lwDs_take]
      refine ew_tup ?_
      refine aw_cons ?_
      refine ew_call cr hr ?_ (hj := by omega)
      refine aw_cons ?_
      refine ew_var 0 ?_
      refine aw_cons ?_
      refine ew_ix ?_
      refine ew_var 6 ?_
      refine ew_var 8 ?_
      refine ix_tpl (d := lwD c) (by rw [show a = ((a.toNat : Nat) : Int) by omega]; exact atI_nat (by rw [lwDs_map, List.getElem?_map]; simpa using congrArg (Option.map lwD) hc)) ?_
      refine aw_cons ?_
      refine ew_var 2 ?_
      refine aw_cons ?_
      refine ew_var 3 ?_
      refine aw_nil ?_
      refine ⟨p, b2, c, ws, fr, B, rfl, up_at, hb2, hw0, hw1, hwn, by omega, by omega, g2 c hcm, hB, hf0, hf1, fun b3 u hb3 hgu hzu => ?_⟩
      rw [up_up]
      refine aw_nil ?_
      refine ⟨[_], rfl, by walk_at "few", ?_⟩
      refine ob_catT (by rw [lwDs_len, List.length_take, sizeLine_eq]; show _ + 1 ≤ _; omega) ?_
      refine ew_slice ?_
      refine ew_var 6 ?_
      refine ow_some ?_
      refine ew_bin ?_
      refine ew_var 8 ?_
      refine ew_int ?_
      refine ob_add ?_
      refine ⟨_, rfl, ?_⟩
      refine ow_none ?_
      
      refine sb_tup ?_
      rw [cut_drop (by omega), show (a + 1).toNat = a.toNat + 1 by omega, lwDs_drop]
      refine ob_catT (by rw [List.length_append, lwDs_len, lwDs_len, List.length_take, List.length_drop, sizeLine_eq]; show _ + 1 + _ ≤ _; omega) ?_
      refine aw_nil ?_
      refine ⟨[_, _, _], rfl, by walk_at "few", ?_⟩
      rw [← lwDs_one u, ← lwDs_app, ← lwDs_app, ← lw_mk]
      refine h b3 _ hb3 (gdB_mk g1 fun x hx => ?_) ?_
      · rcases List.mem_append.mp hx with q | q
        · rcases List.mem_append.mp q with q | q
          · exact g2 x (List.mem_of_mem_take q)
          · rw [List.mem_singleton.mp q]; exact hgu
        · exact g2 x (List.mem_of_mem_drop q)
      · have e1 : szNs [u] = szN u := by rw [szNs, szNs]; omega
        rw [szN, szNs_app3, szNs_app3, e1]
        omega
    · refine sw_nil ?_
      refine sw_cons ?_
      refine s1_if ?_
      refine tw_cmp ?_
      refine ew_var 7 ?_
      refine ew_int ?_
      walk_at "cmp Eq"
      refine ⟨_, rfl, fun ht => ?_, fun ht => ?_⟩
      · refine sw_one ?_
        refine s1_ret ?_
        refine ew_tup ?_
        refine aw_cons ?_
        refine ew_ix ?_
        refine ew_var 2 ?_
        refine ew_call (c_law_take T Z) hr ?_ (hj := by omega)
        refine aw_cons ?_
        refine ew_var 0 ?_
        refine aw_cons ?_
        refine ew_callB (T.no Z.n_len) bt_len ?_
        refine aw_cons ?_
        refine ew_var 2 ?_
        refine aw_nil ?_
        walk_at "cb len"
        refine aw_nil ?_
        rw [List.length_map]
        refine ⟨p, _, b1, rfl, up_at, hb1, by omega, by omega, fun d b2 hd0 hd1 hb2 => ?_⟩
        rw [up_up]
        obtain ⟨y, hy⟩ : ∃ y, ws[d.toNat]? = some y := ⟨_, List.getElem?_eq_getElem (by omega)⟩
        refine ix_lst (d := .str y) (by rw [show d = ((d.toNat : Nat) : Int) by omega]; exact atI_nat (by simpa using hy)) ?_
        refine aw_cons ?_
        refine ew_var 5 ?_
        refine aw_cons ?_
        refine ew_var 6 ?_
        refine aw_nil ?_
        refine ⟨[_, _, _], rfl, by walk_at "few", ?_⟩
        rw [← lw_mk]
        exact h b2 _ hb2 (gdB_mk ⟨hwn y (List.mem_of_getElem? hy), g1.2⟩ g2) (by rw [szN]; omega)
      · refine sw_nil ?_
        refine sw_cons ?_
        refine s1_if ?_
        refine tw_cmp ?_
        refine ew_var 7 ?_
        refine ew_int ?_
        walk_at "cmp Eq"
        refine ⟨_, rfl, fun ht => ?_, fun ht => ?_⟩
        · refine sw_one ?_
          refine s1_ret ?_
          refine ew_tup ?_
          refine aw_cons ?_
          refine ew_var 4 ?_
          refine aw_cons ?_
          refine ew_ix ?_
          refine ew_lstD ?_
          refine aw_cons ?_
          refine ew_var 5 ?_
          refine aw_cons ?_
          refine ew_var 3 ?_
          refine aw_nil ?_
          refine ⟨[_, _], rfl, by walk_at "few", ?_⟩
          refine ew_call (c_law_take T Z) hr ?_ (hj := by omega)
          refine aw_cons ?_
          refine ew_var 0 ?_
          refine aw_cons ?_
          refine ew_int ?_
          refine aw_nil ?_
          refine ⟨p, _, b1, rfl, up_at, hb1, by omega, by omega, fun d b2 hd0 hd1 hb2 => ?_⟩
          rw [up_up]
          obtain ⟨y, hy, hy0, hy1⟩ : ∃ y : Int, ([.int mk, .int fr] : List Dat)[d.toNat]? = some (.int y) ∧ 0 ≤ y ∧ y ≤ B := by
            have : d = 0 ∨ d = 1 := by omega
            rcases this with rfl | rfl
            · exact ⟨mk, rfl, g1.2⟩
            · exact ⟨fr, rfl, hf0, hf1⟩
          refine ix_lst (d := .int y) (by rw [show d = ((d.toNat : Nat) : Int) by omega]; exact atI_nat hy) ?_
          refine aw_cons ?_
          refine ew_var 6 ?_
          refine aw_nil ?_
          refine ⟨[_, _, _], rfl, by walk_at "few", ?_⟩
          rw [← lw_mk]
          exact h b2 _ hb2 (gdB_mk ⟨g1.1, hy0, hy1⟩ g2) (by rw [szN]; omega)
        · refine sw_nil ?_
          refine sw_cons ?_
          refine s1_set 8 ?_ sc.nd
          refine ew_call (c_law_take T Z) hr ?_ (hj := by omega)
          refine aw_cons ?_
          refine ew_var 0 ?_
          refine aw_cons ?_
          refine ew_bin ?_
          refine ew_callB (T.no Z.n_len) bt_len ?_
          refine aw_cons ?_
          refine ew_var 6 ?_
          refine aw_nil ?_
          walk_at "cb len"
          refine ew_int ?_
          walk_at "op add"
          refine aw_nil ?_
          rw [lwDs_len]
          refine ⟨p, _, b1, rfl, up_at, hb1, by omega, by omega, fun a b2 ha0 ha1 hb2 => ?_⟩
          rw [up_up]
          have hsp := szNs_cut cs a.toNat
          have hsp1 := szNs_dropS cs a.toNat
          refine sw_cons ?_
          refine s1_if ?_
          refine tw_cmp ?_
          refine ew_var 7 ?_
          refine ew_int ?_
          walk_at "cmp Eq"
          refine ⟨_, rfl, fun ht => ?_, fun ht => ?_⟩
          · refine sw_one ?_
            refine s1_ret ?_
            refine ew_tup ?_
            refine aw_cons ?_
            refine ew_var 4 ?_
            refine aw_cons ?_
            refine ew_var 5 ?_
            refine aw_cons ?_
            refine ew_bin ?_
            refine ew_slice ?_
            refine ew_var 6 ?_
            refine ow_none ?_
            refine ow_some ?_
            refine ew_var 8 ?_
            refine ⟨_, rfl, ?_⟩
            
            refine sb_tup ?_
            rw [cut_take ha0, lwDs_take]
            refine ew_slice ?_
            refine ew_var 6 ?_
            refine ow_some ?_
            refine ew_bin ?_
            refine ew_var 8 ?_
            refine ew_int ?_
            refine ob_add ?_
            refine ⟨_, rfl, ?_⟩
            refine ow_none ?_
            
            refine sb_tup ?_
            rw [cut_drop (by omega), show (a + 1).toNat = a.toNat + 1 by omega, lwDs_drop]
            refine ob_catT (by rw [lwDs_len, lwDs_len, List.length_take, List.length_drop, sizeLine_eq]; omega) ?_
            refine aw_nil ?_
            refine ⟨[_, _, _], rfl, by walk_at "few", ?_⟩
            rw [← lwDs_app, ← lw_mk]
            refine h b2 _ hb2 (gdB_mk g1 fun x hx => ?_) ?_
            · rcases List.mem_append.mp hx with q | q
              · exact g2 x (List.mem_of_mem_take q)
              · exact g2 x (List.mem_of_mem_drop q)
            · rw [szN, szNs_app3]
              omega
          · refine sw_nil ?_
            refine sw_one ?_
            refine s1_ret ?_
            refine ew_tup ?_
            refine aw_cons ?_
            refine ew_var 4 ?_
            refine aw_cons ?_
            refine ew_var 5 ?_
            refine aw_cons ?_
            refine ew_ix ?_
            refine ew_lstD ?_
            refine aw_cons ?_
            refine ew_bin ?_
            refine ew_bin ?_
            refine ew_slice ?_
            refine ew_var 6 ?_
            refine ow_none ?_
            refine ow_some ?_
            refine ew_var 8 ?_
            refine ⟨_, rfl, ?_⟩
            
            refine sb_tup ?_
            rw [cut_take ha0, lwDs_take]
            refine ew_tup ?_
            refine aw_cons ?_
            refine ew_tup ?_
            refine aw_cons ?_
            refine ew_var 4 ?_
            refine aw_cons ?_
            refine ew_var 3 ?_
            refine aw_cons ?_
            refine ew_tup ?_
            refine aw_nil ?_
            refine ⟨[], rfl, by walk_at "few", ?_⟩
            refine aw_nil ?_
            refine ⟨[_, _, _], rfl, by walk_at "few", ?_⟩
            refine aw_nil ?_
            refine ⟨[_], rfl, by walk_at "few", ?_⟩
            
            rw [show (Dat.tup [Dat.str nm, Dat.int fr, Dat.tup []]) = lwD (.mk nm fr []) by rw [lw_mk, lwDs], ← lwDs_one]
            refine ob_catT (by rw [lwDs_len, lwDs_len, List.length_take, sizeLine_eq]; show _ + 1 ≤ _; omega) ?_
            refine ew_slice ?_
            refine ew_var 6 ?_
            refine ow_some ?_
            refine ew_var 8 ?_
            refine ⟨_, rfl, ?_⟩
            refine ow_none ?_
            
            refine sb_tup ?_
            rw [cut_drop ha0, lwDs_drop, ← lwDs_app]
            
            refine ob_catT (by rw [lwDs_len, lwDs_len, List.length_append, List.length_take, List.length_drop, sizeLine_eq]; show _ + 1 + _ ≤ _; omega) ?_
            rw [← lwDs_app]
            refine aw_cons ?_
            refine ew_revT (ew_var 6 ⟨_, rfl, ?_⟩)
            rw [lwDs_rev]
            refine aw_nil ?_
            refine ⟨[_, _], rfl, by walk_at "few", ?_⟩
            refine ew_call (c_law_take T Z) hr ?_ (hj := by omega)
            refine aw_cons ?_
            refine ew_var 0 ?_
            refine aw_cons ?_
            refine ew_int ?_
            refine aw_nil ?_
            refine ⟨p, _, b2, rfl, up_at, hb2, by omega, by omega, fun d b3 hd0 hd1 hb3 => ?_⟩
            rw [up_up]
            obtain ⟨ks, hk, hk0, hk1⟩ : ∃ ks : List Nd, ([.tup (lwDs (cs.take a.toNat ++ [Nd.mk nm fr []] ++ cs.drop a.toNat)), .tup (lwDs cs.reverse)] : List Dat)[d.toNat]? = some (.tup (lwDs ks)) ∧ (∀ x ∈ ks, gdB B x) ∧ szNs ks ≤ szNs cs + 1 := by
              have : d = 0 ∨ d = 1 := by omega
              rcases this with rfl | rfl
              · refine ⟨_, rfl, fun x hx => ?_, ?_⟩
                · rcases List.mem_append.mp hx with q | q
                  · rcases List.mem_append.mp q with q | q
                    · exact g2 x (List.mem_of_mem_take q)
                    · rw [List.mem_singleton.mp q]; exact gdB_mk ⟨g1.1, hf0, hf1⟩ fun y hy => nomatch hy
                  · exact g2 x (List.mem_of_mem_drop q)
                · have e1 : szNs [Nd.mk nm fr []] = 1 := by rw [szNs, szNs, szN, szNs]
                  rw [szNs_app3, szNs_app3, e1]
                  omega
              · exact ⟨_, rfl, fun x hx => g2 x (List.mem_reverse.mp hx), by rw [szNs_rev]; omega⟩
            refine ix_lst (d := .tup (lwDs ks)) (by rw [show d = ((d.toNat : Nat) : Int) by omega]; exact atI_nat hk) ?_
            refine aw_nil ?_
            refine ⟨[_, _, _], rfl, by walk_at "few", ?_⟩
            rw [← lw_mk]
            exact h b3 _ hb3 (gdB_mk g1 hk0) (by rw [szN]; omega)
theorem c_law_near (T : TopOf K mg) (Z : Facts K) (n : Nat) : Cal P w K mg base false (n + 3) "_law_near" (NearS n) [] := cal_of T Z.d_law_near (by walk_at "b4") fun f fd F => fn_law_near T Z n F
end
def TrInitO (K : PySem.W.Frag) : SpecT := fun ss O R => ∃ (a C dx : Addr) (n : Str) (m : Int) (cs : List Nd) (r : Addr), ss = [.own a, .dat (.str n), .dat (.int m), .own r] ∧ clsAt K "Tree" C ∧ O a = some (.ins C dx []) ∧ O r = some (.lst ((ndDs C cs).map .dat)) ∧ r ≠ a ∧
  okT (.mk n m cs) ∧ szNs cs ≤ 100000 ∧ ∀ q, O q = none → R (.ret (.dat .non)) (up (up O q (.tpl (.own a :: (alDs C cs).map .dat))) a (.ins C dx [("name", .dat (.str n)), ("mark", .dat (.int m)), ("children", .dat (.tup (ndDs C cs))), ("nodes", .own q), ("text", .dat (.str (txN (.mk n m cs))))]))
section
variable {X : Cx} {O : Own} {ρ : List Slot} {x : ExK} {k : Slot → Own → Prop} {e : Expr} {es : List Expr} {p pos : Pos} {CT : Addr} {g : Bool} {j : Nat}
theorem cb_tupO {r : Addr} {ds : List Dat} (hr : O r = some (.lst (ds.map .dat))) (h : k (.dat (.tup ds)) O) : CaB X (.type "tuple") [.own r] O k := ⟨_, call_tuple_of, fun H0 σ ρ H vs st pr Q q => by
  cases pr with
  | cons r1 pr =>
    cases pr
    cases r1
    obtain ⟨xs, h1, h2⟩ := own_list st.own hr
    refine ⟨_, _, rfl, .inl ⟨sql_at h1, fun p hp => q _ _ _ O h (st.grow (same_new hp)) ?_⟩⟩
    exact .tup (.inl (.inl (by rw [hid_none (own_free st.own hp), upd_same]))) (RpA.mono (hid_same (same_new hp)) h2)⟩
theorem ew_mkTreeO (mk : MkC X.prog X.w X.K X.mg X.base 1 CT (TrInitO X.K) []) (hC : clsAt X.K "Tree" CT) (hm : X.mg "Tree" = some (.ref CT)) (hr : RoomB g j X.A)
    (h : AW X O ρ (e :: es) x fun ss O1 => ∃ n m cs r, ss = [.dat (.str n), .dat (.int m), .own r] ∧ O1 r = some (.lst ((ndDs CT cs).map .dat)) ∧ okT (.mk n m cs) ∧ szNs cs ≤ 100000 ∧ k (.dat (ndD CT (.mk n m cs))) O1) (hj : 2 ≤ j := by decide)
    (hg : Gl X "Tree" := by rfl) (he : starEach (e :: es) X.env = (false, eval e X.env) :: starEach es X.env := by rfl) (hpl : (backTo pos (starEach es X.env)).any (·.1) = false := by rfl) :
    EW X O ρ (.Call (.Name "Tree" p) (e :: es) [] pos) x k := by
  refine ew_frzT (ew_make mk hm hr (h.mono fun ss O1 hh => ?_) hj hg (by decide) he hpl)
  obtain ⟨n, m, cs, r, rfl, hd, hok, hsz, hk⟩ := hh
  intro a dx ha hdx hne
  have nra : r ≠ a := fun z => by rw [z, ha] at hd; cases hd
  refine ⟨a, CT, dx, n, m, cs, r, rfl, hC, up_at, by rw [up_ne nra]; exact hd, nra, hok, hsz, fun q hq => ⟨rfl, ?_⟩⟩
  have nqa : q ≠ a := fun z => by rw [z, up_at] at hq; cases hq
  have hq1 : O1 q = none := by rw [up_ne nqa] at hq; exact hq
  refine ⟨a, CT, dx, q, [("name", .str n), ("mark", .int m), ("children", .tup (ndDs CT cs))], "nodes", alDs CT cs, [("text", .str (txN (.mk n m cs)))], rfl, up_at, ?_, ?_⟩
  · rw [up_ne nqa, up_at]
  · rw [up_swp nqa]
    have ed : dn (dn (up (up O1 q (.tpl (.own a :: (alDs CT cs).map .dat))) a (.ins CT dx [("name", .dat (.str n)), ("mark", .dat (.int m)), ("children", .dat (.tup (ndDs CT cs))), ("nodes", .own q), ("text", .dat (.str (txN (.mk n m cs))))])) a) q = O1 := by
      rw [dn_up (by rw [up_ne nqa.symm]; exact ha), dn_up hq1]
    rw [ed, ← ndD]
    exact hk
end
section
variable {P : Program} {w : World} {K : PySem.W.Frag} {mg : Str → Option Value} {base : Heap}
theorem fn_Tree_initO (T : TopOf K mg) (Z : Facts K) {f : Addr} {fd : FuncData} (F : FunX K "__init__" "Tree.__init__" s_Tree_init f fd) : Fn P w K mg base false (1) f fd ["self", "name", "mark", "children"] (TrInitO K) := by
  have sc := sc_Tree_init
  refine fn_mkX F sc_Tree_init (by walk_at "len") fun cdv A outer s H E ss O R hr hpo h => ?_
  obtain ⟨a, C, dx, n, m, cs, r, rfl, hC, ha, hd, nra, hok, hsz, h⟩ := h
  obtain ⟨C', I_Tree, mI, mRd, mFe, mL, mIt, mE, mS, mEv, na1, na2, na3, na4, na5⟩ := Z.c_Tree
  obtain rfl := at_inj hC I_Tree.at_
  have hok2 := hok
  rw [okT] at hok2
  obtain ⟨k1, k2, k3, k4⟩ := hok2
  -- 0:self 1:name 2:mark 3:children 4:child 5:node
  refine sw_cons ?_
  refine s1_fld ?_
  refine ew_var 1 ?_
  refine ew_var 0 ?_
  refine ⟨a, C, dx, [], rfl, ha, I_Tree.ins.cl, na1, by decide, ?_⟩
  refine sw_cons ?_
  refine s1_fld ?_
  refine ew_var 2 ?_
  refine ew_var 0 ?_
  refine ⟨a, C, dx, _, rfl, up_at, I_Tree.ins.cl, na2, Nat.le_of_ble_eq_true rfl, ?_⟩
  rw [up_up]
  refine sw_cons ?_
  refine s1_fld ?_
  refine ew_callTy (T.no Z.n_tuple) bt_tuple ?_
  refine aw_cons ?_
  refine ew_var 3 ?_
  refine aw_nil ?_
  refine cb_tupO (by rw [up_ne nra]; exact hd) ?_
  refine ew_var 0 ?_
  refine ⟨a, C, dx, _, rfl, up_at, I_Tree.ins.cl, na3, Nat.le_of_ble_eq_true rfl, ?_⟩
  rw [up_up]
  refine sw_cons ?_
  refine s1_fld ?_
  refine ew_tupO ?_
  refine aw_cons ?_
  refine ew_var 0 ?_
  refine aw_starL ?_
  refine ew_frz ?_
  refine ew_lc2J [("child", 4), ("node", 5)] (vs1 := [5]) sc.nd (.name (i := 4) (by decide) fun Y ⟨_, _, _, _, _, e⟩ => by subst e; exact pg_name (i := 4) sc.nd rfl (.inl rfl) (.inr rfl)) (.name (i := 5) (by decide) fun Y ⟨_, _, _, _, _, e⟩ => by subst e; exact pg_name (i := 5) sc.nd rfl (.inl rfl) (.inr rfl)) (blkOk_by (N := N_Tree_init) (sc := defScope s_Tree_init) (by decide +kernel)) (by decide) ?_
  refine lc2_flat cs (ndD C) (fun c => ndD C c :: beD C c) id (fun _ e => e) (iw_tup (ew_fld (ew_var (s := .own a) 0 ⟨C, dx, _, _, up_at, I_Tree.ins.cl, na3, rfl, _, rfl, ndDs_map C cs, rfl⟩))) ?_ (fun t ht => ⟨_, rfl, fun O' Y hY => ?_, fun e he => ⟨_, rfl, fun O' Y hY => ?_⟩⟩) fun p hp => ?_
  · rw [← alDs_flat, alDs_len]; exact Nat.le_trans hsz (by decide)
  · obtain ⟨_, _, _, _, _, rfl⟩ := hY
    exact iw_tup (ew_nodes I_Tree.ins.cl na4 (ew_var 4 ⟨t, rfl, _, rfl, by rw [List.map_id], rfl⟩))
  · obtain ⟨_, _, _, _, _, rfl⟩ := hY
    exact ew_var 5 ⟨rfl, rfl⟩
  have ef : (cs.flatMap fun c => (ndD C c :: beD C c).map fun e => e) = alDs C cs := by rw [alDs_flat]; congr 1; funext c; rw [List.map_id']
  rw [ef]
  refine ⟨p, _, rfl, up_at, ?_⟩
  rw [dn_up hp]
  refine ⟨_, rfl, ?_⟩
  refine aw_nil ?_
  rw [List.append_nil]
  refine ⟨?_, fun q hq => ?_⟩
  · rw [List.length_cons, List.length_map, alDs_len]
    exact Nat.le_trans (show _ ≤ 100001 by omega) (by decide)
  refine ew_var 0 ?_
  have nqa : q ≠ a := fun e => by rw [e, up_at] at hq; cases hq
  refine ⟨a, C, dx, _, rfl, by rw [up_ne nqa.symm]; exact up_at, I_Tree.ins.cl, na4, Nat.le_of_ble_eq_true rfl, ?_⟩
  rw [up_swp nqa]
  refine sw_one ?_
  refine s1_fld ?_
  refine ew_join ?_
  refine ew_str ?_
  refine ⟨_, rfl, ?_⟩
  refine ew_lstD ?_
  refine aw_cons ?_
  refine ew_joined ?_
  refine ew_fmt ?_
  refine ew_var 1 ?_
  refine .inl ⟨_, rfl, Nat.le_trans k1 (by decide), ?_⟩
  refine ⟨_, rfl, by rw [emp_app]; exact Nat.le_trans k1 (by decide), ?_⟩
  refine ew_str ?_
  refine ⟨_, rfl, by rw [emp_app, len_app, colon1]; exact Nat.le_trans (Nat.add_le_add_right k1 1) (by decide), ?_⟩
  refine ew_fmt ?_
  refine ew_var 2 ?_
  refine .inr ⟨m, rfl, mark_log k2 k3, ?_⟩
  refine ⟨_, rfl, by rw [emp_app]; exact Nat.le_trans (head_len k1 k2 k3) (by decide), ?_⟩
  rw [emp_app]
  refine aw_starL ?_
  refine ew_map1 cs (ndD C) (fun c => .str (txN c)) [("child", 4)] sc.nd (.name (i := 4) (by decide) fun Y ⟨_, _, _, _, _, e⟩ => by subst e; exact pg_name (i := 4) sc.nd rfl (.inl rfl) (.inr rfl)) (blkOk_by (N := N_Tree_init) (sc := defScope s_Tree_init) (by decide +kernel)) (iw_tup (ew_fld (ew_var (s := .own a) 0 ⟨C, dx, _, _, up_at, I_Tree.ins.cl, na3, rfl, _, rfl, ndDs_map C cs, rfl⟩))) (Nat.le_trans (Nat.le_trans (szNs_len cs) hsz) (by decide)) (fun t ht => ⟨_, rfl, fun O' Y hY => ?_⟩) ?_
  · obtain ⟨_, _, _, _, _, rfl⟩ := hY
    exact ew_text I_Tree.ins.cl na5 (ew_var 4 ⟨t, rfl, rfl, rfl⟩)
  refine ⟨_, rfl, ?_⟩
  refine aw_cons ?_
  refine ew_str ?_
  refine aw_nil ?_
  refine ⟨.str (n ++ ":" ++ Str.ofString (toString m)) :: ((txNs cs).map .str ++ [.str "/"]), ?_, ?_, ?_⟩
  · rw [txNs_map, List.map_cons, List.map_append, List.map_map, List.map_map, List.map_map]; rfl
  · rw [List.length_cons, List.length_append, List.length_map, txNs_map, List.length_map]
    exact Nat.le_trans (show _ ≤ 100002 by have := szNs_len cs; simp only [List.length_cons, List.length_nil]; omega) (by decide)
  
  rw [show (Dat.str (n ++ ":" ++ Str.ofString (toString m)) :: ((txNs cs).map Dat.str ++ [Dat.str "/"])) = ((n ++ ":" ++ Str.ofString (toString m)) :: (txNs cs ++ [("/" : Str)])).map Dat.str by rw [List.map_cons, List.map_append]; rfl]
  refine m1_join ?_ ?_
  · have b1 := txNs_len k4
    have b2 := head_len k1 k2 k3
    have b3 := szNs_len cs
    have b4 : (txNs cs).length = cs.length := by rw [txNs_map, List.length_map]
    rw [show (Str.ofString " ").length = 1 by decide +kernel, List.map_cons, List.sum_cons, List.map_append, List.sum_append, List.length_cons, List.length_append, b4, show ([("/" : Str)].map (·.length)).sum = 1 by simp [slash1]]
    simp only [List.length_cons, List.length_nil]
    omega
  rw [show Txt.join " " ((n ++ ":" ++ Str.ofString (toString m)) :: (txNs cs ++ [("/" : Str)])) = txN (.mk n m cs) by rw [txN]]
  refine ew_var 0 ?_
  refine ⟨a, C, dx, _, rfl, up_at, I_Tree.ins.cl, na5, Nat.le_of_ble_eq_true rfl, ?_⟩
  rw [up_up]
  rw [up_ne nqa] at hq
  exact h q hq
end
def ToldS : SpecT := fun ss O R => ∃ (t : Nd) (B : Int), ss = [.dat (lwD t)] ∧ gdB B t ∧ B < 1000000000000 ∧ szN t ≤ 28 ∧ R (.ret (.dat (.bl true))) O
section
variable {X : Cx} {O : Own} {k : Slot → Own → Prop}
theorem cb_reprI {i : Int} (hl : i.natAbs.log2 < 1920) (h : k (.dat (.str (toString i))) O) : CaB X (.builtin "repr") [.dat (.int i)] O k := ⟨_, SkE.call_repr_int, fun H0 σ ρ H vs st pr Q q => by
  cases pr with
  | cons r1 pr =>
    cases pr
    cases r1
    exact ⟨i, rfl, hl, q _ H _ O h st (.str _)⟩⟩
end
theorem notFirst3 {K : PySem.W.Frag} {C : Addr} : PySem.W.notFirst K C (.ref C) = true := by
  unfold PySem.W.notFirst
  simp
theorem eqD_same {d : Dat} (h : fine d = true) : eqD d d = true := SeqAt.eqv_refl _ (fine_all _ h).2.1
/-- what is told of each node -/
def rowN (u : Nd) : Dat := .tup [.str (nmN u), .int (mkN u), .int (szN u)]
theorem pre_sub {u : Nd} : ∀ {t : Nd}, u ∈ preN t → (∀ e ∈ evsN u, e ∈ evsN t) ∧ szN u ≤ szN t := by
  suffices main : ∀ k t, szN t ≤ k → u ∈ preN t → (∀ e ∈ evsN u, e ∈ evsN t) ∧ szN u ≤ szN t from fun {t} h => main _ t (Nat.le_refl _) h
  intro k
  induction k with
  | zero => intro t h; have := szN_pos t; omega
  | succ k ih =>
    intro t h hu
    obtain ⟨n, m, cs, rfl⟩ := nd_eq t
    rw [preN] at hu
    rcases List.mem_cons.mp hu with rfl | hu
    · exact ⟨fun e he => he, Nat.le_refl _⟩
    · rw [szN] at h
      have key : ∀ cs : List Nd, szNs cs ≤ k → u ∈ preNs cs → (∀ e ∈ evsN u, e ∈ evsNs cs) ∧ szN u ≤ szNs cs := by
        intro cs
        induction cs with
        | nil => intro _ h; rw [preNs] at h; cases h
        | cons c cs ih2 =>
          intro h hu
          rw [szNs] at h
          rw [preNs] at hu
          rw [evsNs, szNs]
          rcases List.mem_append.mp hu with hu | hu
          · obtain ⟨q1, q2⟩ := ih c (by omega) hu
            exact ⟨fun e he => List.mem_append_left _ (q1 e he), by omega⟩
          · obtain ⟨q1, q2⟩ := ih2 (by omega) hu
            exact ⟨fun e he => List.mem_append_right _ (q1 e he), by omega⟩
      obtain ⟨q1, q2⟩ := key cs (by omega) hu
      rw [evsN, szN]
      exact ⟨fun e he => List.mem_cons_of_mem _ (List.mem_append_left _ (q1 e he)), by omega⟩
theorem gd_head {B : Int} {u : Nd} (h : gdB B u) : isNm (nmN u) = true ∧ 0 ≤ mkN u ∧ mkN u ≤ B := by
  obtain ⟨n, m, cs, rfl⟩ := nd_eq u
  exact (gdB_inv h).1
theorem fine_rows {B : Int} {t : Nd} (hB : B < 1000000000000) (h : gdB B t) (hs : szN t ≤ 1000) : fine (.lst ((preN t).map rowN)) = true := fines_map fun u hu => by
  obtain ⟨q1, q2⟩ := pre_sub hu
  obtain ⟨g1, g2, g3⟩ := gd_head (B := B) (u := u) fun n m e => h n m (q1 _ e)
  show (smlB (nmN u) && (fine (.int (mkN u)) && (fine (.int (szN u)) && true))) = true
  rw [nm_sml3 g1, fine_nat g2 (by omega), fine_nat (Int.natCast_nonneg _) (by omega)]; rfl
theorem shape_rows {B : Int} {t : Nd} (hB : B < 1000000000000) (h : gdB B t) (hs : szN t ≤ 1000) : SeqAt.shaped (toPy (.lst ((preN t).map rowN))) = true := shape_of (fine_rows hB h hs) (by
  rw [dep_lst]
  have := deps_map (f := rowN) (l := preN t) (b := 1) fun u _ => Nat.le_refl 1
  omega)
section
variable {P : Program} {w : World} {K : PySem.W.Frag} {mg : Str → Option Value} {base : Heap}
theorem fn_law_told_right (T : TopOf K mg) (Z : Facts K) {f : Addr} {fd : FuncData} (F : L2.Fun K "_law_told_right" "_law_told_right" s_law_told_right f fd) : FnP P w K mg base true (90) f fd ["_law_tree_here"] (ToldS) := by
  have sc := sc_law_told_right
  refine fnp_mk F sc_law_told_right (by walk_at "len") fun cdv A outer s H E ss O R hr hpo h => ?_
  obtain ⟨t, B, rfl, hg, hB, hz, h⟩ := h
  obtain ⟨CT, I_Tree, tI, tRd, tFe, tL, tIt, tE, tS, tEv, na1, na2, na3, na4, na5⟩ := Z.c_Tree
  have hCT := I_Tree.at_
  have MI : MIter P w K mg base 1 CT (ItrS K) := m_iter T Z hCT
  have mkO : MkC P w K mg base 1 CT (TrInitO K) [] := mkc_ofD I_Tree tI (fun T kV doc pm an cdv ct us its h1 h2 => match us, its, h1, h2 with | [_, _, _, _], [_], _, _ => ⟨_, rfl, rfl⟩) fun f fd F => fn_Tree_initO T Z F
  have mkT : MkC P w K mg base 1 CT (TrInitS K) [] := mkc_ofD I_Tree tI (fun T kV doc pm an cdv ct us its h1 h2 => match us, its, h1, h2 with | [_, _, _, _], [_], _, _ => ⟨_, rfl, rfl⟩) fun f fd F => fn_Tree_init T Z F
  obtain ⟨nm, mk, cs, rfl⟩ := nd_eq t
  have hok := okT_gd hB hg
  have hsz : szN (.mk nm mk cs) = 1 + szNs cs := by rw [szN]
  have hht := htN_sz (.mk nm mk cs)
  have hcl := szNs_len cs
  obtain ⟨g1, g2⟩ := gdB_inv hg
  rw [lw_mk]
  refine swp_drop ?_
  -- 0:_law_tree_here 1:_law_children 2:_law_child 3:_law_made 4:_law_other 5:_law_nodes_here 6:_law_events_here 7:_law_turn 8:_law_found 9:_law_node 10:_law_one
  refine swp_cons0 ?_
  refine s1_setMap1 cs lwD (ndD CT) [("_law_child", 2)] 1 sc.nd (.name (i := 2) (by decide) fun Y ⟨_, _, _, _, _, e⟩ => by subst e; exact pg_name (i := 2) sc.nd rfl (.inl rfl) (.inr rfl)) (blkOk_by (N := N_law_told_right) (sc := defScope s_law_told_right) (by decide +kernel)) (iw_tup (ew_ix (ew_var 0 (ew_int (ix_tpl (d := .tup (lwDs cs)) (atI_nat (j := 2) rfl) ⟨_, rfl, lwDs_map cs, rfl⟩))))) (by rw [sizeLine_eq]; omega) (fun c hc => ⟨_, rfl, fun O' Y hY => ?_⟩) fun pc hpc => ?_
  · obtain ⟨_, _, _, _, _, rfl⟩ := hY
    have h2 := htNs_mem hc
    have h3 : szN c ≤ szNs cs := by
      obtain ⟨i, hi⟩ := List.getElem?_of_mem hc
      have := szNs_takeS hi
      omega
    rw [htN] at hht
    exact ew_call (c_law_built T Z 28) hr (aw_cons (ew_var 2 (aw_nil ⟨CT, c, rfl, hCT, okT_gd hB (g2 c hc), by omega, by omega, rfl, rfl⟩)))
  have hcell : up O pc (.lst ((cs.map (ndD CT)).map .dat)) pc = some (.lst ((ndDs CT cs).map .dat)) := by rw [up_at, ndDs_map]
  refine swp_cons0 ?_
  refine s1_par 3 4 ?_ sc.nd
  refine aw_cons ?_
  refine ew_mkTreeO (hj := by decide) mkO hCT (T.is hCT) hr ?_
  refine aw_cons ?_
  refine ew_ix ?_
  refine ew_var 0 ?_
  refine ew_int ?_
  refine ix_tpl (d := .str nm) (atI_nat (j := 0) rfl) ?_
  refine aw_cons ?_
  refine ew_ix ?_
  refine ew_var 0 ?_
  refine ew_int ?_
  refine ix_tpl (d := .int mk) (atI_nat (j := 1) rfl) ?_
  refine aw_cons ?_
  refine ew_var 1 ?_
  refine aw_nil ?_
  refine ⟨nm, mk, cs, pc, rfl, hcell, hok, by omega, ?_⟩
  refine aw_cons ?_
  refine ew_mkTree (hj := by decide) mkT hCT (T.is hCT) hr ?_
  refine aw_cons ?_
  refine ew_ix ?_
  refine ew_var 0 ?_
  refine ew_int ?_
  refine ix_tpl (d := .str nm) (atI_nat (j := 0) rfl) ?_
  refine aw_cons ?_
  refine ew_ix ?_
  refine ew_var 0 ?_
  refine ew_int ?_
  refine ix_tpl (d := .int mk) (atI_nat (j := 1) rfl) ?_
  refine aw_cons ?_
  refine ew_callTy (T.no Z.n_tuple) bt_tuple ?_
  refine aw_cons ?_
  refine ew_var 1 ?_
  refine aw_nil ?_
  refine cb_tupO hcell ?_
  refine aw_nil ?_
  refine ⟨nm, mk, cs, _, rfl, .inr rfl, hok, by omega, ?_⟩
  have hmk : mk.natAbs.log2 < 1920 := mark_log g1.2.1 (by omega)
  refine aw_nil ?_
  refine ⟨_, _, rfl, ?_⟩
  refine swp_cons0 ?_
  refine s1_expr ?_
  refine ew_append ?_
  refine ew_var 1 ?_
  refine ⟨?_, ?_⟩
  · walk_at "ty"
  refine ew_non ?_
  refine mb_append up_at (by rw [List.length_map, List.length_map, sizeLine_eq]; omega) ?_
  rw [up_up]
  refine swp_cons0 ?_
  refine s1_if ?_
  refine tw_tv (t := (!decide (nm = nm)) || ((!decide (Str.ofString (toString mk) = Str.ofString (toString mk))) || !true)) (tv_w (tvw_or ?_ fun _ => tvw_or ?_ fun _ => tvw_or1 ?_)) ?_
  · refine tw_cmp ?_
    refine ew_name I_Tree.ins.cl na1 ?_
    refine ew_var 3 ?_
    refine ⟨_, rfl, ?_⟩
    refine ew_ix ?_
    refine ew_var 0 ?_
    refine ew_int ?_
    refine ix_tpl (d := .str nm) (atI_nat (j := 0) rfl) ?_
    refine ob_neS ?_
    exact ⟨_, rfl, rfl, rfl⟩
  · refine tw_cmp ?_
    refine ew_callB (T.no Z.n_repr) bt_repr ?_
    refine aw_cons ?_
    refine ew_mark I_Tree.ins.cl na2 ?_
    refine ew_var 3 ?_
    refine ⟨_, rfl, ?_⟩
    refine aw_nil ?_
    refine cb_reprI hmk ?_
    refine ew_callB (T.no Z.n_repr) bt_repr ?_
    refine aw_cons ?_
    refine ew_ix ?_
    refine ew_var 0 ?_
    refine ew_int ?_
    refine ix_tpl (d := .int mk) (atI_nat (j := 1) rfl) ?_
    refine aw_nil ?_
    refine cb_reprI hmk ?_
    refine ob_neS ?_
    exact ⟨_, rfl, rfl, rfl⟩
  · refine tw_not ?_
    refine tw_val ?_
    refine ew_callB (T.no Z.n_isinstance) bt_isinstance ?_
    refine aw_cons ?_
    refine ew_children I_Tree.ins.cl na3 ?_
    refine ew_var 3 ?_
    refine ⟨_, rfl, ?_⟩
    refine aw_cons ?_
    refine ew_bltn (T.no Z.n_tuple) bt_tuple ?_
    refine aw_nil ?_
    refine cb_isTy (t := true) (show kitB "tuple" "tuple" = some true by decide +kernel) ?_ (hp := (by decide : ("tuple" : String) ≠ ""))
    exact ⟨_, rfl, rfl, rfl⟩
  refine ⟨fun ht => ?_, fun ht => ?_⟩
  · exact absurd ht (by simp)
  · refine sw_nil ?_
    refine swp_cons0 ?_
    refine s1_par 5 6 ?_ sc.nd
    refine aw_cons ?_
    refine ew_call (c_law_nodes T Z 28) hr ?_
    refine aw_cons ?_
    refine ew_var 0 ?_
    refine aw_nil ?_
    refine ⟨.mk nm mk cs, by rw [lw_mk]; rfl, by omega, by omega, ?_⟩
    refine aw_cons ?_
    refine ew_call (c_law_events T Z 28) hr ?_
    refine aw_cons ?_
    refine ew_var 0 ?_
    refine aw_nil ?_
    refine ⟨.mk nm mk cs, by rw [lw_mk]; rfl, by omega, by omega, ?_⟩
    refine aw_nil ?_
    refine ⟨_, _, rfl, ?_⟩
    refine swp_cons0 ?_
    refine s1_if ?_
    refine tw_tv (t := (!decide (((szN (.mk nm mk cs) : Nat) : Int) = ((((preN (.mk nm mk cs)).map lwD).length : Nat) : Int))) || ((!decide (((ndDs CT cs).length : Int) = ((lwDs cs).length : Int))) || !beqN (.mk nm mk cs) (.mk nm mk cs))) (tv_w (tvw_or ?_ fun _ => tvw_or ?_ fun _ => tvw_or1 ?_)) ?_
    · refine tw_cmp ?_
      refine ew_callB (T.no Z.n_len) bt_len ?_
      refine aw_cons ?_
      refine ew_var 3 ?_
      refine aw_nil ?_
      refine cb_lenOwn (mlen_tree T Z hCT) (hr.r.mono (by decide)) (by rw [ndD]; rfl) ⟨CT, _, rfl, hCT, _, rfl, by constructor <;> omega, ?_⟩
      refine ew_callB (T.no Z.n_len) bt_len ?_
      refine aw_cons ?_
      refine ew_var 5 ?_
      refine aw_nil ?_
      refine cb_lenL ?_
      refine ob_neI ?_
      exact ⟨_, rfl, rfl, rfl⟩
    · refine tw_cmp ?_
      refine ew_callB (T.no Z.n_len) bt_len ?_
      refine aw_cons ?_
      refine ew_children I_Tree.ins.cl na3 ?_
      refine ew_var 3 ?_
      refine ⟨_, rfl, ?_⟩
      refine aw_nil ?_
      refine cb_lenT ?_
      refine ew_callB (T.no Z.n_len) bt_len ?_
      refine aw_cons ?_
      refine ew_ix ?_
      refine ew_var 0 ?_
      refine ew_int ?_
      refine ix_tpl (d := .tup (lwDs cs)) (atI_nat (j := 2) rfl) ?_
      refine aw_nil ?_
      refine cb_lenT ?_
      refine ob_neI ?_
      exact ⟨_, rfl, rfl, rfl⟩
    · refine tw_cmp ?_
      refine ew_var 3 ?_
      refine ew_var 4 ?_
      refine ob_ownNe (eq_Tree T Z 28 hCT) (hr.r.mono (by decide)) (by rw [ndD]; rfl) (by rw [ndD]; rfl) notFirst3 ⟨CT, _, _, rfl, hCT, by omega, _, rfl, ?_⟩
      exact ⟨_, rfl, rfl, rfl⟩
    refine ⟨fun ht => ?_, fun ht => ?_⟩
    · exact absurd ht (by rw [List.length_map, preN_len, ndDs_map, lwDs_map, List.length_map, List.length_map, beqN_rfl]; simp)
    · refine sw_nil ?_
      refine swp_cons0 ?_
      refine s1_for hpo ?_
      refine iw_range1 (T.no Z.n_range) ?_
      refine aw_cons ?_
      refine ew_int ?_
      refine aw_nil ?_
      refine ⟨2, rfl, by decide, ?_⟩
      refine ⟨fun i ρ' O' => ∃ s2 s7 s8 s9 s10 : Slot, ρ' = [.dat (.tup [.str nm, .int mk, .tup (lwDs cs)]), .own pc, s2, .dat (ndD CT (.mk nm mk cs)), .dat (ndD CT (.mk nm mk cs)), .dat (.lst ((preN (.mk nm mk cs)).map lwD)), .dat (.lst ((evsN (.mk nm mk cs)).map evD)), s7, s8, s9, s10] ∧ Sub O O', ?_, ?_, ?_⟩
      · exact ⟨_, _, _, _, _, rfl, fun b c hb => by
          have nb : b ≠ pc := fun z => by rw [z, hpc] at hb; cases hb
          rw [up_ne nb]; exact hb⟩
      · intro i d ρ2 O2 hj hd
        obtain ⟨s2, s7, s8, s9, s10, rfl, hsub⟩ := hj
        refine gw_name 7 ?_ sc.nd
        refine sw_cons ?_
        refine s1_setMap1 (preN (.mk nm mk cs)) (ndD CT) rowN [("_law_node", 9)] 8 sc.nd (.name (i := 9) (by decide) fun Y ⟨_, _, _, _, _, e⟩ => by subst e; exact pg_name (i := 9) sc.nd rfl (.inl rfl) (.inr rfl)) (blkOk_by (N := N_law_told_right) (sc := defScope s_law_told_right) (by decide +kernel)) (iw_tree MI hCT (hr.r.mono (by decide)) (ew_var 3 ⟨_, rfl, rfl, rfl⟩)) (by rw [preN_len, sizeLine_eq]; omega) (fun u hu => ⟨_, rfl, fun O' Y hY => ?_⟩) fun pf hpf => ?_
        · obtain ⟨_, _, _, _, _, rfl⟩ := hY
          refine ew_tup ?_
          refine aw_cons ?_
          refine ew_name I_Tree.ins.cl na1 ?_
          refine ew_var 9 ?_
          refine ⟨u, rfl, ?_⟩
          refine aw_cons ?_
          refine ew_mark I_Tree.ins.cl na2 ?_
          refine ew_var 9 ?_
          refine ⟨u, rfl, ?_⟩
          refine aw_cons ?_
          refine ew_callB (T.no Z.n_len) bt_len ?_
          refine aw_cons ?_
          refine ew_var 9 ?_
          refine aw_nil ?_
          have hu2 := (pre_sub hu).2
          refine cb_lenOwn (mlen_tree T Z hCT) (hr.r.mono (by decide)) (by obtain ⟨n1, m1, c1, rfl⟩ := nd_eq u; rw [ndD]; rfl) ⟨CT, u, rfl, hCT, _, rfl, by constructor <;> omega, ?_⟩
          refine aw_nil ?_
          exact ⟨[_, _, _], rfl, by walk_at "few", rfl, rfl⟩
        refine sw_frz 8 (ds := (preN (.mk nm mk cs)).map rowN) up_at ?_
        rw [dn_up hpf]
        refine sw_one ?_
        refine s1_if ?_
        refine tw_cmp ?_
        refine ew_var 8 ?_
        refine ew_map1 (preN (.mk nm mk cs)) lwD rowN [("_law_one", 10)] sc.nd (.name (i := 10) (by decide) fun Y ⟨_, _, _, _, _, e⟩ => by subst e; exact pg_name (i := 10) sc.nd rfl (.inl rfl) (.inr rfl)) (blkOk_by (N := N_law_told_right) (sc := defScope s_law_told_right) (by decide +kernel)) (iw_list (ew_var 5 ⟨_, rfl, rfl, rfl⟩)) (by rw [preN_len, sizeLine_eq]; omega) (fun u hu => ⟨_, rfl, fun O' Y hY => ?_⟩) ?_
        · obtain ⟨_, _, _, _, _, rfl⟩ := hY
          have hu2 := (pre_sub hu).2
          have hu3 := htN_sz u
          obtain ⟨n1, m1, c1, rfl⟩ := nd_eq u
          refine ew_tup ?_
          refine aw_cons ?_
          refine ew_ix ?_
          refine ew_var 10 ?_
          refine ew_int ?_
          rw [lw_mk]
          refine ix_tpl (d := .str n1) (atI_nat (j := 0) rfl) ?_
          refine aw_cons ?_
          refine ew_ix ?_
          refine ew_var 10 ?_
          refine ew_int ?_
          refine ix_tpl (d := .int m1) (atI_nat (j := 1) rfl) ?_
          refine aw_cons ?_
          refine ew_callB (T.no Z.n_len) bt_len ?_
          refine aw_cons ?_
          refine ew_call (c_law_nodes T Z 28) hr ?_
          refine aw_cons ?_
          refine ew_var 10 ?_
          refine aw_nil ?_
          refine ⟨.mk n1 m1 c1, by rw [lw_mk]; rfl, by omega, by omega, ?_⟩
          refine aw_nil ?_
          refine cb_lenL ?_
          refine aw_nil ?_
          rw [List.length_map, preN_len]
          exact ⟨[_, _, _], rfl, by walk_at "few", rfl, rfl⟩
        
        have hsh := shape_rows hB hg (by omega)
        have hfi := fine_rows hB hg (by omega)
        refine ob_ne (hr.r.mono (by decide)) (fine_all _ hfi).1 (fine_all _ hfi).1 hsh hsh ?_
        refine ⟨_, rfl, fun ht => ?_, fun ht => ?_⟩
        · exact absurd ht (by rw [eqD_same hfi]; simp)
        · refine sw_nil ?_
          exact ⟨_, _, _, _, _, rfl, hsub⟩
      · intro ρ2 O2 hj
        obtain ⟨s2, s7, s8, s9, s10, rfl, hsub⟩ := hj
        refine swp_one ?_
        obtain ⟨f0, fd0, e1, it, o', e2, y1, p1, q0, q1, q2, y2, p2, p3, y3, p4, TD⟩ := events_down (P := P) (w := w) (mg := mg) (base := base) Z hCT
        refine s1p_ret ?_
        refine ewp_and2 ?_
        refine ewp_cmp ?_
        refine ewp_callB (T.no Z.n_repr) bt_repr ?_
        refine ewp_frz ?_
        refine ewp_list (kk := 30) TD (hr.r.mono (by decide)) (T.no Z.n_list) ?_
        refine ew_var 3 ?_
        refine ⟨.mk nm mk cs, rfl, trivial, by omega, by rw [List.length_map, evsN_len, sizeLine_eq]; omega, fun q hq => ?_⟩
        refine ⟨q, _, rfl, up_at, ?_⟩
        rw [dn_up hq]
        refine cb_reprL (hr.mono (by decide) fun z => z) (rep_evs hB hg (by omega)) ?_
        refine ew_callB (T.no Z.n_repr) bt_repr ?_
        refine aw_cons ?_
        refine ew_var 6 ?_
        refine aw_nil ?_
        refine cb_reprL (hr.mono (by decide) fun z => z) (rep_evs hB hg (by omega)) ?_
        refine ob_eqS ?_
        refine ⟨_, rfl, fun _ => ?_, fun ht => absurd ht (by simp)⟩
        refine ew_cmp ?_
        refine ew_callTy (T.no Z.n_str) bt_str ?_
        refine aw_cons ?_
        refine ew_var 3 ?_
        refine aw_nil ?_
        obtain ⟨g0, fd1, hm0, F0⟩ := tS.ex
        refine cb_strOwn hm0.at_ hm0.fn (fn_Tree_str T Z F0) (mbinds F0 (by walk_at "b1")) (hr.r.mono (by decide)) (by rw [ndD]; rfl) ⟨CT, _, rfl, hCT, _, rfl, ?_⟩
        refine ew_call (c_law_text T Z) hr ?_
        refine aw_cons ?_
        refine ew_var 6 ?_
        refine aw_nil ?_
        refine ⟨evsN (.mk nm mk cs), rfl, by rw [evsN_len]; omega, small_gd hB hg, ?_⟩
        refine ob_eqS ?_
        rw [tx_evs, decide_eq_true rfl]
        exact ⟨O, hsub, h⟩
theorem c_law_told_right (T : TopOf K mg) (Z : Facts K) : CalP P w K mg base true (90) "_law_told_right" (ToldS) [] := calp_of T Z.d_law_told_right (by walk_at "b1") fun f fd F => fn_law_told_right T Z F
end
section
variable {X : Cx} {O : Own} {ρ : List Slot} {x : ExK} {k : Slot → Own → Prop} {e : Expr} {es : List Expr} {p pos : Pos} {CT : Addr} {g : Bool} {j : Nat}
theorem ew_mkTree2 (mk : MkC X.prog X.w X.K X.mg X.base 1 CT (TrInitS X.K) [.tup []]) (hC : clsAt X.K "Tree" CT) (hm : X.mg "Tree" = some (.ref CT)) (hr : RoomB g j X.A)
    (h : AW X O ρ (e :: es) x fun ss O1 => ∃ n m, ss = [.dat (.str n), .dat (.int m)] ∧ okT (.mk n m []) ∧ k (.dat (ndD CT (.mk n m []))) O1) (hj : 2 ≤ j := by decide)
    (hg : Gl X "Tree" := by rfl) (he : starEach (e :: es) X.env = (false, eval e X.env) :: starEach es X.env := by rfl) (hpl : (backTo pos (starEach es X.env)).any (·.1) = false := by rfl) :
    EW X O ρ (.Call (.Name "Tree" p) (e :: es) [] pos) x k := by
  refine ew_frzT (ew_make mk hm hr (h.mono fun ss O1 hh => ?_) hj hg (by decide) he hpl)
  obtain ⟨n, m, rfl, hok, hk⟩ := hh
  intro a dx ha hdx hne
  refine ⟨a, CT, dx, n, m, [], .tup [], rfl, hC, up_at, .inr (by rw [ndDs]), hok, by rw [szNs]; exact Nat.zero_le _, fun q hq => ⟨rfl, ?_⟩⟩
  have nqa : q ≠ a := fun z => by rw [z, up_at] at hq; cases hq
  have hq1 : O1 q = none := by rw [up_ne nqa] at hq; exact hq
  refine ⟨a, CT, dx, q, [("name", .str n), ("mark", .int m), ("children", .tup (ndDs CT []))], "nodes", alDs CT [], [("text", .str (txN (.mk n m [])))], rfl, up_at, ?_, ?_⟩
  · rw [up_ne nqa, up_at]
  · rw [up_swp nqa]
    have ed : dn (dn (up (up O1 q (.tpl (.own a :: (alDs CT []).map .dat))) a (.ins CT dx [("name", .dat (.str n)), ("mark", .dat (.int m)), ("children", .dat (.tup (ndDs CT []))), ("nodes", .own q), ("text", .dat (.str (txN (.mk n m []))))])) a) q = O1 := by
      rw [dn_up (by rw [up_ne nqa.symm]; exact ha), dn_up hq1]
    rw [ed, ← ndD]
    exact hk
end
theorem ty_nd {O : Own} {C : Addr} (t : Nd) : tySl O (.ref C) (.dat (ndD C t)) := by
  obtain ⟨n, m, cs, rfl⟩ := nd_eq t
  rw [ndD]; rfl
theorem lw_tup (t : Nd) : ∃ ds, lwD t = .tup ds := by
  obtain ⟨n, m, cs, rfl⟩ := nd_eq t
  exact ⟨_, lw_mk n m cs⟩
theorem ty_lw {O : Own} (t : Nd) : tySl O (.type "tuple") (.dat (lwD t)) := by
  obtain ⟨ds, e⟩ := lw_tup t
  rw [e]; rfl
theorem ok_a : okT (.mk "a" 0 []) := by rw [okT, okTs]; decide +kernel
theorem bools3 {a b : Bool} : SeqAt.shaped (toPy (.lst [.bl a, .bl b])) = true := by cases a <;> cases b <;> decide +kernel
theorem bools_same {a b : Bool} : eqD (.lst [.bl a, .bl b]) (.lst [.bl a, .bl b]) = true := by cases a <;> cases b <;> decide +kernel
theorem notFirst_ty {K : PySem.W.Frag} {C : Addr} {T : String} (h : (fastBuiltinMro T).isSome = true) : PySem.W.notFirst K C (.type T) = true := by
  unfold PySem.W.notFirst
  rw [sub_ty h]
  simp
section
variable {P : Program} {w : World} {K : PySem.W.Frag} {mg : Str → Option Value} {base : Heap}
theorem fn_law (T : TopOf K mg) (Z : Facts K) (ED : Kn.EmpD K "Tree" "Tree.__init__" s_Tree_init) {f : Addr} {fd : FuncData} (F : L2.Fun K "law" "law" s_law f fd) : FnP P w K mg base true (95) f fd ["_law_script"] (LawS) := by
  have sc := sc_law
  refine fnp_mk F sc_law (by walk_at "len") fun cdv A outer s H E ss O R hr hpo h => ?_
  obtain ⟨CT, I_Tree, tI, tRd, tFe, tL, tIt, tE, tS, tEv, na1, na2, na3, na4, na5⟩ := Z.c_Tree
  have hCT := I_Tree.at_
  have mk2 : MkC P w K mg base 1 CT (TrInitS K) [.tup []] := mkc_emp I_Tree ED (by decide) (fun T kV doc pm an cdv ct us its h1 h2 => match us, its, h1, h2 with | [_, _, _], [_], _, _ => ⟨_, rfl, rfl⟩) fun f fd F => fn_Tree_init T Z F
  have mkT : MkC P w K mg base 1 CT (TrInitS K) [] := mkc_ofD I_Tree tI (fun T kV doc pm an cdv ct us its h1 h2 => match us, its, h1, h2 with | [_, _, _, _], [_], _, _ => ⟨_, rfl, rfl⟩) fun f fd F => fn_Tree_init T Z F
  obtain ⟨ns, rfl, hns, h⟩ := h
  -- 0:_law_script 1:_law_k 2:_law_box_here 3:_law_names_here 4:_law_some 5:_law_turn 6:_law_tree_here 7:_law_node 8:_law_one 9:_law_other 10:_law_made 11:_law_twin
  refine swp_cons ?_
  refine s1p_for hpo ?_
  refine iw_range1 (T.no Z.n_range) ?_
  refine aw_cons ?_
  refine ew_callB (T.no Z.n_max) bt_max ?_
  refine aw_cons ?_
  refine ew_int ?_
  refine aw_cons ?_
  refine ew_callB (T.no Z.n_min) bt_min ?_
  refine aw_cons ?_
  refine ew_int ?_
  refine aw_cons ?_
  refine ew_callB (T.no Z.n_len) bt_len ?_
  refine aw_cons ?_
  refine ew_var 0 ?_
  refine aw_nil ?_
  walk_at "cb len"
  refine aw_nil ?_
  walk_at "cb min"
  refine aw_nil ?_
  walk_at "cb max"
  refine aw_nil ?_
  refine ⟨_, rfl, by constructor <;> (repeat' split) <;> omega, ?_⟩
  refine ⟨fun i ρ' O' => ∃ s1 s2 s3 s4 s5 s6 s7 s8 s9 s10 s11 : Slot, ρ' = [.dat (.fro (ns.map .int)), s1, s2, s3, s4, s5, s6, s7, s8, s9, s10, s11], ?_, ?_, ?_⟩
  · exact ⟨_, _, _, _, _, _, _, _, _, _, _, rfl⟩
  · intro i d ρ2 O2 hj hd
    obtain ⟨s1, s2, s3, s4, s5, s6, s7, s8, s9, s10, s11, rfl⟩ := hj
    obtain ⟨hi, rfl⟩ := rangeD_at hd
    have hi : i < 7 := by
      rw [List.length_map] at hi
      revert hi
      (repeat' split) <;> omega
    refine gw_name 1 ?_ sc.nd
    refine swp_cons0 ?_
    refine s1_set 2 ?_ sc.nd
    refine ew_call (c_law_box T Z) hr ?_
    refine aw_cons ?_
    refine ew_var 0 ?_
    refine aw_cons ?_
    refine ew_var 1 ?_
    refine aw_cons ?_
    refine ew_int ?_
    refine aw_nil ?_
    refine ⟨ns, _, _, rfl, by omega, by omega, by decide, by decide, fun p b hp hb => ?_⟩
    refine swp_cons0 ?_
    refine s1_set 3 ?_ sc.nd
    refine ew_call (c_law_names T Z) hr ?_
    refine aw_cons ?_
    refine ew_var 2 ?_
    refine aw_cons ?_
    refine ew_bin ?_
    refine ew_int ?_
    refine ew_call (c_law_take T Z) hr ?_
    refine aw_cons ?_
    refine ew_var 2 ?_
    refine aw_cons ?_
    refine ew_int ?_
    refine aw_nil ?_
    refine ⟨p, _, b, rfl, up_at, hb, by decide, by decide, fun v1 b1 hv0 hv1 hb1 => ?_⟩
    rw [up_up]
    refine ob_add ?_
    refine aw_nil ?_
    refine ⟨p, b1, 1 + v1, rfl, up_at, hb1, by omega, by omega, fun b2 ws hb2 hw0 hw1 hwn => ?_⟩
    rw [up_up]
    refine swp_cons0 ?_
    refine s1_set 4 ?_ sc.nd
    refine ew_lst ?_
    refine aw_cons ?_
    refine ew_call (c_law_tree T Z) hr ?_
    refine aw_cons ?_
    refine ew_var 2 ?_
    refine aw_cons ?_
    refine ew_var 3 ?_
    refine aw_cons ?_
    refine ew_int ?_
    refine aw_nil ?_
    refine ⟨p, b2, ws, 14, rfl, up_at, hb2, hw0, hw1, hwn, by decide, by decide, fun b3 t1 hb3 gt1 hz1 => ?_⟩
    rw [up_up]
    refine aw_cons ?_
    refine ew_call (c_law_tree T Z) hr ?_
    refine aw_cons ?_
    refine ew_var 2 ?_
    refine aw_cons ?_
    refine ew_var 3 ?_
    refine aw_cons ?_
    refine ew_int ?_
    refine aw_nil ?_
    refine ⟨p, b3, ws, 3, rfl, up_at, hb3, hw0, hw1, hwn, by decide, by decide, fun b4 t2 hb4 gt2 hz2 => ?_⟩
    rw [up_up]
    refine aw_nil ?_
    refine ⟨by walk_at "few", fun m hm => ?_⟩
    have npm : p ≠ m := own_ne up_at hm
    refine swp_cons0 ?_
    refine s1_for hpo ?_
    refine iw_range1 (T.no Z.n_range) ?_
    refine aw_cons ?_
    refine ew_int ?_
    refine aw_nil ?_
    refine ⟨5, rfl, by decide, ?_⟩
    refine ⟨fun (j : Nat) ρ' O' => ∃ (b : Cell) (stk : List Nd) (s1 s5 s6 s7 s8 s9 s10 s11 : Slot), ρ' = [.dat (.fro (ns.map .int)), s1, .own p, .dat (.lst (ws.map .str)), .own m, s5, s6, s7, s8, s9, s10, s11] ∧ O' p = some b ∧ isBox b ∧ O' m = some (.lst ((stk.map lwD).map .dat)) ∧ stk.length = 2 + j ∧ ∀ t ∈ stk, gdB (999999 + (j : Int)) t ∧ szN t ≤ 14 + j, ?_, ?_, ?_⟩
    · refine ⟨b4, [t1, t2], _, _, _, _, _, _, _, _, rfl, by rw [up_ne npm, up_at], hb4, up_at, rfl, fun t ht => ?_⟩
      rcases List.mem_cons.mp ht with rfl | ht
      · exact ⟨gdB_of gt1, by omega⟩
      · rw [List.mem_singleton.mp ht]
        exact ⟨gdB_of gt2, by omega⟩
    · intro i d ρ2 O2 hj hd
      obtain ⟨b5, stk, s1, s5, s6, s7, s8, s9, s10, s11, rfl, hOp, hb5, hOm, hsl, hstk⟩ := hj
      obtain ⟨hj, rfl⟩ := rangeD_at hd
      refine gw_name 5 ?_ sc.nd
      refine sw_cons ?_
      refine s1_set 6 ?_ sc.nd
      refine ew_ix ?_
      refine ew_var 4 ?_
      refine ew_call (c_law_take T Z) hr ?_
      refine aw_cons ?_
      refine ew_var 2 ?_
      refine aw_cons ?_
      refine ew_callB (T.no Z.n_len) bt_len ?_
      refine aw_cons ?_
      refine ew_var 4 ?_
      refine aw_nil ?_
      
      refine cb_lenO hOm ?_
      rw [List.length_map, List.length_map]
      refine aw_nil ?_
      refine ⟨p, _, b5, rfl, hOp, hb5, by omega, by omega, fun d5 b6 hd0 hd1 hb6 => ?_⟩
      obtain ⟨t, ht⟩ : ∃ t, stk[d5.toNat]? = some t := ⟨_, List.getElem?_eq_getElem (by omega)⟩
      have htm := List.mem_of_getElem? ht
      obtain ⟨gt, hzt⟩ := hstk t htm
      have hht := htN_sz t
      have hOm6 : up O2 p b6 m = some (.lst ((stk.map lwD).map .dat)) := by rw [up_ne npm.symm]; exact hOm
      
      refine ix_own hOm6 (s := .dat (lwD t)) (by rw [show d5 = ((d5.toNat : Nat) : Int) by omega]; exact atI_nat (by rw [List.getElem?_map, List.getElem?_map, ht]; rfl)) ?_
      refine sw_one ?_
      refine s1_expr ?_
      refine ew_append ?_
      refine ew_var 4 ?_
      refine ⟨?_, ?_⟩
      · exact ⟨rfl, _, hOm6⟩
      refine ew_call (c_law_near T Z 20) hr ?_
      refine aw_cons ?_
      refine ew_var 2 ?_
      refine aw_cons ?_
      refine ew_var 6 ?_
      refine aw_cons ?_
      refine ew_var 3 ?_
      refine aw_cons ?_
      refine ew_bin ?_
      refine ew_int ?_
      refine ew_callB (T.no Z.n_max) bt_max ?_
      refine aw_cons ?_
      refine ew_map1 (preN t) lwD (fun u => .int (mkN u)) [("_law_node", 7)] sc.nd (.name (i := 7) (by decide) fun Y ⟨_, _, _, _, _, e⟩ => by subst e; exact pg_name (i := 7) sc.nd rfl (.inl rfl) (.inr rfl)) (blkOk_by (N := N_law) (sc := defScope s_law) (by decide +kernel)) (iw_list (ew_call (c_law_nodes T Z 28) hr (aw_cons (ew_var 6 (aw_nil ⟨t, rfl, by omega, by omega, _, rfl, rfl, rfl⟩))))) (by rw [preN_len, sizeLine_eq]; omega) (fun u hu => ⟨_, rfl, fun O' Y hY => ?_⟩) ?_
      · obtain ⟨_, _, _, _, _, rfl⟩ := hY
        obtain ⟨n1, m1, c1, rfl⟩ := nd_eq u
        refine ew_ix ?_
        refine ew_var 7 ?_
        refine ew_int ?_
        rw [lw_mk]
        refine ix_tpl (d := .int m1) (atI_nat (j := 1) rfl) ?_
        exact ⟨rfl, rfl⟩
      refine aw_nil ?_
      
      rw [show ((preN t).map fun u => Dat.int (mkN u)) = ((preN t).map mkN).map Dat.int by rw [List.map_map]; rfl]
      refine cb_maxL rfl (by rw [List.length_map, preN_len]; have := szN_pos t; omega) fun mx hmx _ => ?_
      obtain ⟨u, hu, rfl⟩ := List.mem_map.mp hmx
      obtain ⟨q1, q2⟩ := pre_sub hu
      obtain ⟨_, hx0, hx1⟩ := gd_head (B := 999999 + (i : Int)) (u := u) fun n m e => gt n m (q1 _ e)
      refine ob_add ?_
      refine aw_nil ?_
      refine ⟨p, b6, t, ws, 1 + mkN u, 999999 + ((i + 1 : Nat) : Int), rfl, up_at, hb6, hw0, hw1, hwn, by omega, by omega, gdB_mono gt (by omega), by omega, by omega, by omega, fun b7 v hb7 gv hzv => ?_⟩
      rw [up_up]
      
      refine mb_append (by rw [up_ne npm.symm]; exact hOm) (by rw [List.length_map, List.length_map, sizeLine_eq]; omega) ?_
      refine ⟨b7, stk ++ [v], _, _, _, _, _, _, _, _, rfl, by rw [up_ne npm, up_at], hb7, by rw [up_at, List.map_append, List.map_append]; rfl, by rw [List.length_append, hsl]; show _ + 1 = _; omega, fun t' ht' => ?_⟩
      rcases List.mem_append.mp ht' with q | q
      · obtain ⟨k1, k2⟩ := hstk t' q
        exact ⟨gdB_mono k1 (by omega), by omega⟩
      · rw [List.mem_singleton.mp q]
        exact ⟨gv, by omega⟩
    · intro ρ2 O2 hj
      obtain ⟨b9, stk, s1, s5, s6, s7, s8, s9, s10, s11, rfl, _, _, hOm, hsl, hstk⟩ := hj
      have hg5 : ∀ t ∈ stk, gdB 1000004 t ∧ szN t ≤ 19 := fun t ht => by
        obtain ⟨k1, k2⟩ := hstk t ht
        rw [rangeD_len] at k1 k2
        exact ⟨gdB_mono k1 (by decide), k2⟩
      refine swp_one ?_
      refine s1p_forO hpo ?_
      refine iwo_list ?_
      refine ew_var 4 ?_
      refine ⟨m, stk.map lwD, rfl, hOm, ?_⟩
      refine ⟨fun (_ : Nat) ρ' O' => ∃ (s1 s5 s6 s7 s8 s9 s10 s11 : Slot), ρ' = [.dat (.fro (ns.map .int)), s1, .own p, .dat (.lst (ws.map .str)), .own m, s5, s6, s7, s8, s9, s10, s11] ∧ O' m = some (.lst ((stk.map lwD).map .dat)), ?_, ?_, ?_, ?_⟩
      · exact ⟨_, _, _, _, _, _, _, _, rfl, hOm⟩
      · intro i ρ2 O2 hj
        obtain ⟨s1, s5, s6, s7, s8, s9, s10, s11, rfl, hOm⟩ := hj
        exact hOm
      · intro i d ρ2 O2 hj hd
        clear hOm
        obtain ⟨s1, s5, s6, s7, s8, s9, s10, s11, rfl, hOm⟩ := hj
        rw [List.getElem?_map] at hd
        obtain ⟨t, ht, rfl⟩ := Option.map_eq_some_iff.mp hd
        obtain ⟨gt, hzt⟩ := hg5 t (List.mem_of_getElem? ht)
        have hht := htN_sz t
        refine gw_name 8 ?_ sc.nd
        refine swp_cons ?_
        refine s1p_ifN ?_
        refine ewp_call (c_law_told_right T Z) hr ?_
        refine aw_cons ?_
        refine ew_var 8 ?_
        refine aw_nil ?_
        refine ⟨t, 1000004, rfl, gt, by decide, by omega, rfl, ?_⟩
        refine swp_nil ?_
        refine swp_cons0 ?_
        refine s1_forO hpo ?_
        refine iwo_list ?_
        refine ew_var 4 ?_
        refine ⟨m, stk.map lwD, rfl, hOm, ?_⟩
        refine ⟨fun (_ : Nat) ρ' O' => ∃ (s1 s5 s6 s7 s9 s10 s11 : Slot), ρ' = [.dat (.fro (ns.map .int)), s1, .own p, .dat (.lst (ws.map .str)), .own m, s5, s6, s7, .dat (lwD t), s9, s10, s11] ∧ O' m = some (.lst ((stk.map lwD).map .dat)), ?_, ?_, ?_, ?_⟩
        · exact ⟨_, _, _, _, _, _, _, rfl, hOm⟩
        · intro i ρ2 O2 hj
          obtain ⟨s1, s5, s6, s7, s9, s10, s11, rfl, hOm⟩ := hj
          exact hOm
        · intro i d ρ2 O2 hj hd
          clear hOm
          obtain ⟨s1, s5, s6, s7, s9, s10, s11, rfl, hOm⟩ := hj
          rw [List.getElem?_map] at hd
          obtain ⟨u, hu, rfl⟩ := Option.map_eq_some_iff.mp hd
          obtain ⟨gu, hzu⟩ := hg5 u (List.mem_of_getElem? hu)
          have hhu := htN_sz u
          refine gw_name 9 ?_ sc.nd
          refine sw_cons ?_
          refine s1_par 10 11 ?_ sc.nd
          refine aw_cons ?_
          refine ew_call (c_law_built T Z 20) hr ?_
          refine aw_cons ?_
          refine ew_var 8 ?_
          refine aw_nil ?_
          refine ⟨CT, t, rfl, hCT, okT_gd (by decide) gt, by omega, by omega, ?_⟩
          refine aw_cons ?_
          refine ew_call (c_law_built T Z 20) hr ?_
          refine aw_cons ?_
          refine ew_var 9 ?_
          refine aw_nil ?_
          refine ⟨CT, u, rfl, hCT, okT_gd (by decide) gu, by omega, by omega, ?_⟩
          refine aw_nil ?_
          refine ⟨_, _, rfl, ?_⟩
          refine sw_one ?_
          refine s1_if ?_
          refine tw_cmp ?_
          refine ew_lstD ?_
          refine aw_cons ?_
          refine ew_cmp ?_
          refine ew_var 10 ?_
          refine ew_var 11 ?_
          refine ob_ownEq (eq_Tree T Z 20 hCT) (hr.r.mono (by decide)) (ty_nd t) (ty_nd u) notFirst3 ⟨CT, t, u, rfl, hCT, by omega, ?_⟩
          refine aw_cons ?_
          refine ew_cmp ?_
          refine ew_var 10 ?_
          refine ew_var 11 ?_
          refine ob_ownNe (eq_Tree T Z 20 hCT) (hr.r.mono (by decide)) (ty_nd t) (ty_nd u) notFirst3 ⟨CT, t, u, rfl, hCT, by omega, _, rfl, ?_⟩
          refine aw_nil ?_
          refine ⟨[_, _], rfl, by walk_at "few", ?_⟩
          refine ew_lstD ?_
          refine aw_cons ?_
          refine ew_cmp ?_
          refine ew_var 8 ?_
          refine ew_var 9 ?_
          
          refine ob_eq (hr.r.mono (by decide)) (plain_lw (by decide) gt) (plain_lw (by decide) gu) (shape_lw (by decide) gt (by omega)) (shape_lw (by decide) gu (by omega)) ?_
          rw [eq_lw]
          refine aw_cons ?_
          refine ew_cmp ?_
          refine ew_var 8 ?_
          refine ew_var 9 ?_
          
          refine ob_ne (hr.r.mono (by decide)) (plain_lw (by decide) gt) (plain_lw (by decide) gu) (shape_lw (by decide) gt (by omega)) (shape_lw (by decide) gu (by omega)) ?_
          rw [eq_lw]
          refine aw_nil ?_
          refine ⟨[_, _], rfl, by walk_at "few", ?_⟩
          refine ob_ne (hr.r.mono (by decide)) rfl rfl bools3 bools3 ?_
          refine ⟨_, rfl, fun ht => ?_, fun ht => ?_⟩
          · exact absurd ht (by rw [bools_same]; simp)
          · refine sw_nil ?_
            exact ⟨_, _, _, _, _, _, _, rfl, hOm⟩
        · intro ρ2 O2 hj
          clear hOm
          obtain ⟨s1, s5, s6, s7, s9, s10, s11, rfl, hOm⟩ := hj
          refine swp_one0 ?_
          refine s1_if ?_
          refine tw_tv (t := false || false) (tv_w (tvw_or ?_ fun _ => tvw_or1 ?_)) ?_
          · refine tw_cmp ?_
            refine ew_call (c_law_built T Z 20) hr ?_
            refine aw_cons ?_
            refine ew_var 8 ?_
            refine aw_nil ?_
            refine ⟨CT, t, rfl, hCT, okT_gd (by decide) gt, by omega, by omega, ?_⟩
            refine ew_callTy (T.no Z.n_str) bt_str ?_
            refine aw_cons ?_
            refine ew_call (c_law_built T Z 20) hr ?_
            refine aw_cons ?_
            refine ew_var 8 ?_
            refine aw_nil ?_
            refine ⟨CT, t, rfl, hCT, okT_gd (by decide) gt, by omega, by omega, ?_⟩
            refine aw_nil ?_
            obtain ⟨g0, fd1, hm0, F0⟩ := tS.ex
            refine cb_strOwn hm0.at_ hm0.fn (fn_Tree_str T Z F0) (mbinds F0 (by walk_at "b1")) (hr.r.mono (by decide)) (ty_nd t) ⟨CT, t, rfl, hCT, _, rfl, ?_⟩
            refine ob_ownEq (eqx_Tree T Z hCT) (hr.r.mono (by decide)) (ty_nd t) rfl (notFirst_ty (T := "str") (by decide +kernel)) ⟨CT, t, _, rfl, hCT, .inl ⟨_, rfl⟩, ?_⟩
            exact ⟨_, rfl, rfl, rfl⟩
          · refine tw_cmp ?_
            refine ew_call (c_law_built T Z 20) hr ?_
            refine aw_cons ?_
            refine ew_var 8 ?_
            refine aw_nil ?_
            refine ⟨CT, t, rfl, hCT, okT_gd (by decide) gt, by omega, by omega, ?_⟩
            refine ew_var 8 ?_
            refine ob_ownEq (eqx_Tree T Z hCT) (hr.r.mono (by decide)) (ty_nd t) (ty_lw t) (notFirst_ty (T := "tuple") (by decide +kernel)) ⟨CT, t, _, rfl, hCT, .inr (lw_tup t), ?_⟩
            exact ⟨_, rfl, rfl, rfl⟩
          refine ⟨fun ht => ?_, fun ht => ?_⟩
          · cases ht
          · refine sw_nil ?_
            exact ⟨_, _, _, _, _, _, _, _, rfl, hOm⟩
      · intro ρ2 O2 hj
        obtain ⟨s1, s5, s6, s7, s8, s9, s10, s11, rfl, _⟩ := hj
        exact ⟨_, _, _, _, _, _, _, _, _, _, _, rfl⟩
  · intro ρ2 O2 hj
    obtain ⟨s1, s2, s3, s4, s5, s6, s7, s8, s9, s10, s11, rfl⟩ := hj
    refine swp_one0 ?_
    refine s1_ret ?_
    refine ew_and ?_
    refine ew_cmp ?_
    refine ew_mkTree2 mk2 hCT (T.is hCT) hr ?_
    refine aw_cons ?_
    refine ew_str ?_
    refine aw_cons ?_
    refine ew_int ?_
    refine aw_nil ?_
    refine ⟨"a", 0, rfl, ok_a, ?_⟩
    refine ew_mkTree mkT hCT (T.is hCT) hr ?_
    refine aw_cons ?_
    refine ew_str ?_
    refine aw_cons ?_
    refine ew_int ?_
    refine aw_cons ?_
    refine ew_lstD ?_
    refine aw_nil ?_
    refine ⟨[], rfl, by walk_at "few", ?_⟩
    refine aw_nil ?_
    refine ⟨"a", 0, [], _, rfl, .inl (by rw [ndDs]), ok_a, by rw [szNs]; decide, ?_⟩
    refine ob_ownEq (eq_Tree T Z 20 hCT) (hr.r.mono (by decide)) (ty_nd _) (ty_nd _) notFirst3 ⟨CT, _, _, rfl, hCT, by rw [htN, htNs]; decide, ?_⟩
    refine ⟨_, rfl, fun ht => ?_, fun ht => ?_⟩
    · refine ew_one ?_
      refine ew_cmp ?_
      refine ew_callB (T.no Z.n_len) bt_len ?_
      refine aw_cons ?_
      refine ew_mkTree2 mk2 hCT (T.is hCT) hr ?_
      refine aw_cons ?_
      refine ew_str ?_
      refine aw_cons ?_
      refine ew_int ?_
      refine aw_nil ?_
      refine ⟨"a", 0, rfl, ok_a, ?_⟩
      refine aw_nil ?_
      
      refine cb_lenOwn (mlen_tree T Z hCT) (hr.r.mono (by decide)) (ty_nd _) ⟨CT, _, rfl, hCT, _, rfl, by rw [szN, szNs]; decide, ?_⟩
      refine ew_int ?_
      refine ob_eqI ?_
      rw [show szN (.mk "a" 0 []) = 1 by rw [szN, szNs]]
      exact h _
    · exact absurd ht (by rw [beqN_rfl]; simp)
end
end Lw
open PySem PySem.W PyProof.Rows
set_option maxHeartbeats 0 in
theorem PySem.Challenge.cw_keptnomore_k03_trees_told_holds : PySem.Challenge.rw_keptnomore_k03_trees_told.Holds := by
  w_on; o_law
  refine Kn.law_lookP (l := PySem.Challenge.rw_keptnomore_k03_trees_told) (n := 95) (q := LwE.qv) (loose := LwE.bound) (d := HandSHeadRun.topDef (OpenLaw.row PySem.Challenge.rw_keptnomore_k03_trees_told).prog 30) (x := "_law_script") (nm := "law") (st := Lw.s_law) (Z := Lw.Facts2) (lo := 4) (len := 2500) (M := 20000) (Ls := LwE.looks)
    (by kernel_rfl) (fun s => by kernel_rfl) LwE.run (by kernel_rfl) (by kernel_rfl) (by kernel_rfl) (by first | assumption | decide +kernel) (by decide +kernel) ⟨rfl, rfl, rfl, rfl, rfl, by decide +kernel⟩ ?hw rfl (by kernel_rfl) (by kernel_rfl) ⟨rfl, by decide, by decide⟩ rfl LwE.facts_of (fun K Z => Z.f.d_law) ?B ?F
  case hw => w_witness2
  case B => exact fun _ _ _ _ _ _ us hl => match us, hl with | [_], _ => rfl
  case F => exact fun w K mg f fd Z T F base hb => Lw.fn_law T Z.f Z.e F
