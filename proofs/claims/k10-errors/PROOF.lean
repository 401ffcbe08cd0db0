import PyProof.Rows.All
import Wide.All
import OpenK.AllK
import Wide.FinOn
import HandS.ForMost
import HandS.Slots
import HandS.Base
import HandS.Call
import HandS.List
import HandS.Set
import HandS.SetFor
import HandS.SetTxt0
import HandS.Strs
import HandS.TupSets
import PyProof.Rows.SortShellAny
import HandS.ExcInit
import HandS.ExcValue
import HandS.TupAny
import HandS.TupMul
import HandS.IsInst
import HandS.Wide
import HandS.Star
import HandS.Deep
import HandS.Defaults
import HandS.HeadEnd
import HandS.Head0
import HandS.Head1
import HandS.Head2
import HandS.HeadHook1
import HandS.HeadHook2
import HandS.HeadHook3
import PyProof.RowDictHeap
import KE.DatumOrd
import HandS.SortKw
import KE.KDictZip
import HandS.Iter
import HandS.DictComp
import HandS.RaiseMore
import PyProof.EqAt
import HandS.Style
import PyProof.EqKinds
import KE.KExcSuper
import HandS.Nested
import KE.KExcIs
import HandS.ExcField
import KE.GoesEnum
import PyProof.Rows.Range3
import KE.KDictPairs
import HandS.TupLen
import PyProof.NeData
import PyProof.NeKinds
import HandS.Property
import HandS.SlotsOwn
import PyProof.InstNe
import KE.SortData
import KE.KDictSum
import HandS.Conv
import PyProof.TupleOfSeq
import KE.KDictWalk
import HandS.DictTup
import HandS.DeepEq
import HandS.ListEq
import HandS.TryOnly
import HandS.Zip
import KE.GoesZip
import HandS.HotCalls
import PyProof.StrLawsRepr
import PyProof.Rows.ReprShort
import PyProof.ReprText
import PyProof.ReprLen
import PySem.Challenge.RW_cutoutpieces_k10_errors
set_option Elab.async false
set_option linter.all false
set_option maxRecDepth 100000
set_option maxHeartbeats 4000000
namespace Ts
open PySem PySem.Spec PyProof.Rows L2
abbrev Led (w : World) (t : SetTable) : Prop := w.params.followText "set-order" = true ∨ t.led = true
def SetT (P : Program) (w : World) (h : Heap) (a : Addr) (l : List Str) : Prop := ∃ D : Froz.SD, h.get? a = some (Froz.sObj "set" D) ∧ Froz.TxOk P w D l ∧ l.Nodup ∧ Ris D.2.2.place.toList ∧ Led w D.2.2
def SetX (P : Program) (w : World) (a : Addr) (l : List Str) : HO := .ext fun h => SetT P w h a l
def ins (x : Str) : List Str → List Str
  | [] => [x]
  | y :: ys => if ltCps y.cps.toList x.cps.toList = true then y :: ins x ys else x :: y :: ys
end Ts
namespace Zf
open PySem L2
inductive D where
  | non
  | bl (b : Bool)
  | int (i : Int)
  | str (x : Str)
  | lst (xs : List D)
  | ro (xs : List D)
  | tup (xs : List D)
  | dct (kvs : List (Key × D))
  | dtp (kvs : List (List Key × D))
  | st (ks : List Str)
  | ins (c : Nat) (fs : List (Str × D))
inductive Ck where
  | dct
  | tup
  | obj (c : Nat)
deriving DecidableEq
inductive W where
  | d (x : D)
  | r (n : Nat)
  | own (xs : List W)
  | bor (xs : List W)
  | od (kvs : List (Key × W))
  | bd (kvs : List (Key × W))
  | slf (c : Nat) (fs : List (Str × D))
  | slb (c : Nat) (fs : List (Str × D))
  | exn (c : Nat) (x : D)
  | c (k : Ck) (n : Nat)
  | ev (c : Nat) (f : Str) (w : W)
abbrev Store := List (List W)
abbrev Th := List Addr
abbrev En := List (Option W)
structure Gd where
  P : Program
  w : World
  K : PySem.W.Frag
  cls : Nat → Addr
  slf : Addr := 0
  slt : Nat → List Str := fun _ => []
  exn : Nat → Str := fun _ => ""
  exa : Addr := 0
  exd : Addr := 0
  exk : Value := .none
  exw : Value → Option Addr → L2.St → Hp → Prop := fun _ _ _ _ => False
def InsAt (G : Gd) (F : Hp) (a : Addr) (c : Nat) (dx : Addr) (us : List (Str × V)) : Prop :=
  (G.slt c = [] ∧ F a = some (.ins (G.cls c) dx us) ∧ F dx = some (.own a)) ∨
    (G.slt c ≠ [] ∧ ∃ vs, F a = some (SlX.SlO a (G.cls c) dx vs) ∧ F dx = some (.xd []) ∧ ∀ (f : Str) (y : V), us.lookup f = some y → ∃ i : Nat, (G.slt c)[i]? = some f ∧ vs[i]? = some (some y))
def EvAt (G : Gd) (F : Hp) (a : Addr) (c : Nat) (f : Str) (y : V) : Prop :=
  (∃ dx, F a = some (exo a (G.cls c) (some dx)) ∧ F dx = some (exd dx [(f, y)])) ∨ (f = "" ∧ F a = some (ExO (.ref (G.cls c)) a))
def SlfAt (G : Gd) (H : Hp) (a : Addr) (c : Nat) (dx : Addr) (us : List (Str × V)) : Prop :=
  InsAt G H a c dx us ∨ (G.slt c ≠ [] ∧ H a = some (.ins (G.cls c) dx []) ∧ H dx = some (.own a) ∧ us = [])
theorem SlfAt.keep {G : Gd} {H H' : Hp} {a dx : Addr} {c : Nat} {us : List (Str × V)} (h : SlfAt G H a c dx us) (k : ∀ b ∈ [a, dx], ∀ u, H b = some u → H' b = some u) : SlfAt G H' a c dx us := by
  have ka := k a (by simp)
  have kd := k dx (by simp)
  rcases h with (⟨q, h1, h2⟩ | ⟨q, vs, h1, h2, h3⟩) | ⟨q, h1, h2, h3⟩
  · exact .inl (.inl ⟨q, ka _ h1, kd _ h2⟩)
  · exact .inl (.inr ⟨q, vs, ka _ h1, kd _ h2, h3⟩)
  · exact .inr ⟨q, ka _ h1, kd _ h2, h3⟩
theorem SlfAt.there {G : Gd} {H : Hp} {a dx : Addr} {c : Nat} {us : List (Str × V)} (h : SlfAt G H a c dx us) : ∀ b ∈ [a, dx], ∃ u, H b = some u := by
  have key : ∀ {u1 u2 : HO}, H a = some u1 → H dx = some u2 → ∀ b ∈ [a, dx], ∃ u, H b = some u := fun {u1 u2} h1 h2 b hb => by
    rcases List.mem_cons.mp hb with e | hb
    · exact ⟨_, by rw [e]; exact h1⟩
    · exact ⟨_, by rw [List.mem_singleton.mp hb]; exact h2⟩
  rcases h with (⟨q, h1, h2⟩ | ⟨q, vs, h1, h2, h3⟩) | ⟨q, h1, h2, h3⟩
  · exact key h1 h2
  · exact key h1 h2
  · exact key h1 h2
theorem InsAt.cong {G G' : Gd} (hc : G.cls = G'.cls) (hs : G.slt = G'.slt) {F : Hp} {a dx : Addr} {c : Nat} {us : List (Str × V)} (h : InsAt G F a c dx us) : InsAt G' F a c dx us := by
  unfold InsAt at h ⊢
  rw [← hc, ← hs]
  exact h
theorem SlfAt.cong {G G' : Gd} (hc : G.cls = G'.cls) (hs : G.slt = G'.slt) {F : Hp} {a dx : Addr} {c : Nat} {us : List (Str × V)} (h : SlfAt G F a c dx us) : SlfAt G' F a c dx us := by
  unfold SlfAt InsAt at h ⊢
  rw [← hc, ← hs]
  exact h
def SqP (K : PySem.W.Frag) (F : Hp) (a : Addr) (xs : List V) : Prop :=
  F a = some (.tup xs) ∨ ∃ (o : Obj) (its : Array Value) (n : Nat), K.lookup a = some o ∧ o.cls = .type "tuple" ∧ o.data = .seq its n ∧ its.size ≤ sizeLine ∧ Vals xs its.toList
def Fz (F : Hp) (a : Addr) (u : HO) : Prop := ∃ o, F a = some (.frz o u)
theorem Fz.rd {F : Hp} {a : Addr} {u : HO} (h : Fz F a u) : Rd F a u := .inr h
mutual
def R (G : Gd) (F : Hp) : D → V → Prop
  | .non, v => v = .non
  | .bl b, v => v = .bl b
  | .int i, v => v = .int i
  | .str x, v => v = .str x
  | .lst xs, v => ∃ a vs, v = .ref a ∧ F a = some (.lst vs) ∧ Rs G F xs vs
  | .ro xs, v => ∃ a vs, v = .ref a ∧ SqL G.K F a vs ∧ Rs G F xs vs
  | .tup xs, v => ∃ a vs, v = .ref a ∧ SqP G.K F a vs ∧ Rs G F xs vs
  | .dct kvs, v => ∃ a kv, v = .ref a ∧ Fz F a (.dK kv) ∧ Rk G F kvs kv
  | .dtp kvs, v => ∃ a kv, v = .ref a ∧ Fz F a (.dT kv) ∧ Rt G F kvs kv
  | .st ks, v => ∃ a, v = .ref a ∧ F a = some (Ts.SetX G.P G.w a ks)
  | .ins c fs, v => ∃ a dx us, v = .ref a ∧ SlfAt G F a c dx us ∧ Rf G F fs us
def Rs (G : Gd) (F : Hp) : List D → List V → Prop
  | [], vs => vs = []
  | x :: xs, vs => ∃ v r, vs = v :: r ∧ R G F x v ∧ Rs G F xs r
def Rk (G : Gd) (F : Hp) : List (Key × D) → List (Key × V) → Prop
  | [], vs => vs = []
  | (k, x) :: xs, vs => ∃ v r, vs = (k, v) :: r ∧ R G F x v ∧ Rk G F xs r
def Rt (G : Gd) (F : Hp) : List (List Key × D) → List (List Key × V) → Prop
  | [], vs => vs = []
  | (k, x) :: xs, vs => ∃ v r, vs = (k, v) :: r ∧ R G F x v ∧ Rt G F xs r
def Rf (G : Gd) (F : Hp) : List (Str × D) → List (Str × V) → Prop
  | [], vs => vs = []
  | (k, x) :: xs, vs => ∃ v r, vs = (k, v) :: r ∧ R G F x v ∧ Rf G F xs r
end
inductive Kd where
  | lst
  | dct
  | tup
  | obj (C dx : Addr)
def kdO : HO → Option Kd
  | .lst _ => some .lst
  | .dK _ => some .dct
  | .tup _ => some .tup
  | .ins C dx _ => some (.obj C dx)
  | _ => none
def LstV (H : Hp) (v : V) : Prop := ∃ a u, v = .ref a ∧ H a = some u ∧ kdO u = some .lst
theorem kd_lst {u : HO} (h : kdO u = some .lst) : ∃ vs, u = .lst vs := by
  cases u <;> first | exact ⟨_, rfl⟩ | cases h
def CkOf (G : Gd) : Ck → Kd → Prop
  | .dct, k => k = .dct
  | .tup, k => k = .tup
  | .obj c, k => ∃ dx, k = .obj (G.cls c) dx
def CkV (G : Gd) (H : Hp) (v : V) (k : Ck) : Prop := ∃ a u kd, v = .ref a ∧ H a = some u ∧ kdO u = some kd ∧ CkOf G k kd
theorem CkV.cong {G G' : Gd} (hc : G.cls = G'.cls) {H : Hp} {v : V} {k : Ck} (h : CkV G H v k) : CkV G' H v k := by
  obtain ⟨a, u, kd, h1, h2, h3, h4⟩ := h
  refine ⟨a, u, kd, h1, h2, h3, ?_⟩
  cases k <;> first | exact h4 | (rw [CkOf, ← hc]; exact h4)
theorem LstV.at {H : Hp} {a : Addr} (h : LstV H (.ref a)) : ∃ vs, H a = some (.lst vs) := by
  obtain ⟨b, u, e, h1, h2⟩ := h
  cases e
  obtain ⟨vs, rfl⟩ := kd_lst h2
  exact ⟨vs, h1⟩
mutual
def RW (G : Gd) (F : Hp) (θ : Th) (H : Hp) : W → V → List Addr → Prop
  | .d x, v, f => R G F x v ∧ f = []
  | .r n, v, f => (∃ a, v = .ref a ∧ θ[n]? = some a) ∧ (f = [] ∧ LstV H v)
  | .c k n, v, f => (∃ a, v = .ref a ∧ θ[n]? = some a) ∧ (f = [] ∧ CkV G H v k)
  | .ev c g x, v, f => ∃ a y, v = .ref a ∧ EvAt G F a c g y ∧ RW G F θ H x y [] ∧ f = []
  | .own xs, v, f => ∃ a vs fs, v = .ref a ∧ H a = some (.lst vs) ∧ RWs G F θ H xs vs fs ∧ f = a :: fs
  | .bor xs, v, f => ∃ a vs fs, v = .ref a ∧ H a = some (.lst vs) ∧ RWs G F θ H xs vs fs ∧ f = a :: fs
  | .od kvs, v, f => ∃ a vs fs, v = .ref a ∧ H a = some (.dK vs) ∧ RWk G F θ H kvs vs fs ∧ f = a :: fs
  | .bd kvs, v, f => ∃ a vs fs, v = .ref a ∧ H a = some (.dK vs) ∧ RWk G F θ H kvs vs fs ∧ f = a :: fs
  | .slf c fs, v, f => ∃ dx us, v = .ref G.slf ∧ SlfAt G H G.slf c dx us ∧ Rf G F fs us ∧ f = [G.slf, dx]
  | .slb c fs, v, f => ∃ dx us, v = .ref G.slf ∧ SlfAt G H G.slf c dx us ∧ Rf G F fs us ∧ f = [G.slf, dx]
  | .exn c x, v, f => ∃ y, v = .ref G.exa ∧ G.exk = .ref (G.cls c) ∧ H G.exd = some (.xd [(G.exn c, y)]) ∧ R G F x y ∧ f = [G.exd]
def RWk (G : Gd) (F : Hp) (θ : Th) (H : Hp) : List (Key × W) → List (Key × V) → List Addr → Prop
  | [], vs, f => vs = [] ∧ f = []
  | (k, x) :: xs, vs, f => ∃ v r f1 f2, vs = (k, v) :: r ∧ RW G F θ H x v f1 ∧ RWk G F θ H xs r f2 ∧ f = f1 ++ f2
def RWs (G : Gd) (F : Hp) (θ : Th) (H : Hp) : List W → List V → List Addr → Prop
  | [], vs, f => vs = [] ∧ f = []
  | x :: xs, vs, f => ∃ v r f1 f2, vs = v :: r ∧ RW G F θ H x v f1 ∧ RWs G F θ H xs r f2 ∧ f = f1 ++ f2
end
def RE (G : Gd) (F : Hp) (θ : Th) (H : Hp) : En → L2.St → List Addr → Prop
  | [], σ, f => σ = [] ∧ f = []
  | none :: e, σ, f => ∃ o r, σ = o :: r ∧ RE G F θ H e r f
  | some x :: e, σ, f => ∃ v r f1 f2, σ = some v :: r ∧ RW G F θ H x v f1 ∧ RE G F θ H e r f2 ∧ f = f1 ++ f2
def ilv : List (Str × V) → List V
  | [] => []
  | (x, v) :: r => .str x :: v :: ilv r
def dkS (us : List (Str × V)) : List (Key × V) := us.map fun p => (.inr p.1, p.2)
def CellAt (F H : Hp) (a : Addr) (vs : List V) : Prop := H a = some (.lst vs) ∨ (H a = some (.tup vs) ∧ ∃ b, V.ref b ∈ vs) ∨ ∃ us, ilv us = vs ∧ (H a = some (.dK (dkS us)) ∨ ∃ C dx, H a = some (.ins C dx us) ∧ F dx = some (.own a))
theorem CellAt.to {F F' H H' : Hp} {a : Addr} {vs : List V} (c : CellAt F H a vs) (g : ∀ b u, F b = some u → F' b = some u) (h : ∀ u, H a = some u → H' a = some u) : CellAt F' H' a vs := by
  rcases c with h1 | h1 | ⟨us, h1, h2 | ⟨C, dx, h2, h3⟩⟩
  · exact .inl (h _ h1)
  · exact .inr (.inl ⟨h _ h1.1, h1.2⟩)
  · exact .inr (.inr ⟨us, h1, .inl (h _ h2)⟩)
  · exact .inr (.inr ⟨us, h1, .inr ⟨C, dx, h _ h2, g _ _ h3⟩⟩)
theorem CellAt.some {F H : Hp} {a : Addr} {vs : List V} (c : CellAt F H a vs) : ∃ u, H a = .some u ∧ ∀ b, u ≠ .own b := by
  rcases c with h | ⟨h, _⟩ | ⟨us, _, h | ⟨C, dx, h, _⟩⟩
  · exact ⟨_, h, fun b z => by cases z⟩
  · exact ⟨_, h, fun b z => by cases z⟩
  · exact ⟨_, h, fun b z => by cases z⟩
  · exact ⟨_, h, fun b z => by cases z⟩
structure RS (G : Gd) (F : Hp) (θ : Th) (H : Hp) (S : Store) : Prop where
  len : θ.length = S.length
  nd : θ.Nodup
  cellR : ∀ (n : Nat) xs, S[n]? = some xs → ∃ a vs, θ[n]? = some a ∧ F a = none ∧ CellAt F H a vs ∧ RWs G F θ H xs vs []
theorem RS.cell {G : Gd} {F : Hp} {θ : Th} {H : Hp} {S : Store} (r : RS G F θ H S) (n : Nat) (xs : List W) (e : S[n]? = some xs) {b : Addr} (hb : θ[n]? = some b) (hl : LstV H (.ref b)) : ∃ a vs, θ[n]? = some a ∧ F a = none ∧ H a = some (.lst vs) ∧ RWs G F θ H xs vs [] := by
  obtain ⟨a, vs, h1, h2, h3, h4⟩ := r.cellR n xs e
  rw [hb] at h1
  cases h1
  obtain ⟨us, h5⟩ := hl.at
  rcases h3 with h3 | ⟨h3, _⟩ | ⟨kv, h6, h3 | ⟨C, dx, h3, _⟩⟩
  · exact ⟨b, vs, hb, h2, h3, h4⟩
  · rw [h5] at h3
    cases h3
  · rw [h5] at h3
    cases h3
  · rw [h5] at h3
    cases h3
structure St (G : Gd) (F : Hp) (θ : Th) (H : Hp) (S : Store) (env : En) (σ : L2.St) (fp : List Addr) : Prop where
  sub : ∀ a u, F a = some u → H a = some u
  store : RS G F θ H S
  env : RE G F θ H env σ fp
  nd : fp.Nodup
  apart : ∀ a ∈ fp, F a = none ∧ a ∉ θ
def IsD0 : HO → Bool
  | .dK _ => true
  | .dT _ => true
  | _ => false
def IsDk (u : HO) : Prop := ∃ d, IsD0 d = true ∧ (u = d ∨ ∃ o, u = .frz o d)
def Le (F F' : Hp) : Prop := ∀ a u, F a = some u → F' a = some u
theorem Le.of {F F' : Hp} (h : ∀ a u, F a = some u → F' a = some u) : Le F F' := h
theorem Le.trans {F F1 F2 : Hp} (a : Le F F1) (b : Le F1 F2) : Le F F2 := fun x u h => b x u (a x u h)
theorem Le.rd0 {F F' : Hp} (e : Le F F') {a : Addr} {u : HO} (h : Rd F a u) : Rd F' a u := h.imp (e a u) fun ⟨o, q⟩ => ⟨o, e a _ q⟩
theorem Le.rd {F F' : Hp} (e : Le F F') {a : Addr} {u : HO} (_ : ¬ IsDk u) (_ : ∀ o, ¬ IsDk (.frz o u)) (h : Rd F a u) : Rd F' a u := e.rd0 h
theorem Le.at {F F' : Hp} (e : Le F F') {a : Addr} {u : HO} (_ : ¬ IsDk u) (h : F a = some u) : F' a = some u := e a u h
theorem Le.fz {F F' : Hp} (e : Le F F') {a : Addr} {u : HO} (h : Fz F a u) : Fz F' a u := h.imp fun _ q => e a _ q
theorem not_dk_of {u : HO} (h0 : IsD0 u = false) (h1 : ∀ o d, u = .frz o d → IsD0 d = false) : ¬ IsDk u := fun ⟨d, g, h⟩ => by
  rcases h with h | ⟨o, h⟩
  · rw [h, g] at h0
    cases h0
  · rw [h1 o d h] at g
    cases g
theorem not_dk_lst {xs : List V} : ¬ IsDk (.lst xs) := not_dk_of rfl fun _ _ z => by cases z
theorem not_dk_tup {xs : List V} : ¬ IsDk (.tup xs) := not_dk_of rfl fun _ _ z => by cases z
theorem not_dk_xd {xs : List (Str × V)} : ¬ IsDk (.xd xs) := not_dk_of rfl fun _ _ z => by cases z
theorem not_dk_ext {φ : Heap → Prop} : ¬ IsDk (.ext φ) := not_dk_of rfl fun _ _ z => by cases z
theorem not_dk_ins {C dx : Addr} {xs : List (Str × V)} : ¬ IsDk (.ins C dx xs) := not_dk_of rfl fun _ _ z => by cases z
theorem not_dk_own {x : Addr} : ¬ IsDk (.own x) := not_dk_of rfl fun _ _ z => by cases z
theorem not_fdk {o : Obj} {u : HO} (h : IsD0 u = false) : ¬ IsDk (.frz o u) := not_dk_of rfl fun _ _ z => by
  cases z
  exact h
theorem Le.sqL {K : PySem.W.Frag} {F F' : Hp} (e : Le F F') {a : Addr} {vs : List V} (h : SqL K F a vs) : SqL K F' a vs := by
  rcases h with h | h
  · exact .inl (e.rd not_dk_lst (fun o => not_fdk rfl) h)
  · exact .inr h
theorem Le.sqP {K : PySem.W.Frag} {F F' : Hp} (e : Le F F') {a : Addr} {vs : List V} (h : SqP K F a vs) : SqP K F' a vs := by
  rcases h with h | h
  · exact .inl (e.at not_dk_tup h)
  · exact .inr h
theorem InsAt.mono {G : Gd} {F F' : Hp} (e : Le F F') {a dx : Addr} {c : Nat} {us : List (Str × V)} (h : InsAt G F a c dx us) : InsAt G F' a c dx us := by
  rcases h with ⟨q, h1, h2⟩ | ⟨q, vs, h1, h2, h3⟩
  · exact .inl ⟨q, e.at not_dk_ins h1, e.at not_dk_own h2⟩
  · exact .inr ⟨q, vs, e.at not_dk_ext h1, e.at not_dk_xd h2, h3⟩
theorem EvAt.mono {G : Gd} {F F' : Hp} (e : Le F F') {a : Addr} {c : Nat} {f : Str} {y : V} (h : EvAt G F a c f y) : EvAt G F' a c f y :=
  h.imp (fun ⟨dx, h1, h2⟩ => ⟨dx, e _ _ h1, e _ _ h2⟩) fun ⟨h1, h2⟩ => ⟨h1, e _ _ h2⟩
theorem EvAt.cong {G G' : Gd} (hc : G.cls = G'.cls) {F : Hp} {a : Addr} {c : Nat} {f : Str} {y : V} (h : EvAt G F a c f y) : EvAt G' F a c f y := by
  unfold EvAt at h ⊢
  rw [← hc]
  exact h
theorem SlfAt.mono {G : Gd} {F F' : Hp} (e : Le F F') {a dx : Addr} {c : Nat} {us : List (Str × V)} (h : SlfAt G F a c dx us) : SlfAt G F' a c dx us := by
  rcases h with h | ⟨q, h1, h2, h3⟩
  · exact .inl (h.mono e)
  · exact .inr ⟨q, e.at not_dk_ins h1, e.at not_dk_own h2, h3⟩
section
variable {G : Gd} {F F' : Hp} (e : Le F F')
include e
mutual
theorem R.mono : ∀ (d : D) (v : V), R G F d v → R G F' d v
  | .non, _, h => h
  | .bl _, _, h => h
  | .int _, _, h => h
  | .str _, _, h => h
  | .lst xs, _, ⟨a, vs, h1, h2, h3⟩ => ⟨a, vs, h1, e.at not_dk_lst h2, Rs.mono xs vs h3⟩
  | .ro xs, _, ⟨a, vs, h1, h2, h3⟩ => ⟨a, vs, h1, e.sqL h2, Rs.mono xs vs h3⟩
  | .tup xs, _, ⟨a, vs, h1, h2, h3⟩ => ⟨a, vs, h1, e.sqP h2, Rs.mono xs vs h3⟩
  | .dct kvs, _, ⟨a, kv, h1, h2, h3⟩ => ⟨a, kv, h1, e.fz h2, Rk.mono kvs kv h3⟩
  | .dtp kvs, _, ⟨a, kv, h1, h2, h3⟩ => ⟨a, kv, h1, e.fz h2, Rt.mono kvs kv h3⟩
  | .st ks, _, ⟨a, h1, h2⟩ => ⟨a, h1, e.at not_dk_ext h2⟩
  | .ins c fs, _, ⟨a, dx, vs, h1, h2, h4⟩ => ⟨a, dx, vs, h1, h2.mono e, Rf.mono fs vs h4⟩
theorem Rs.mono : ∀ (ds : List D) (vs : List V), Rs G F ds vs → Rs G F' ds vs
  | [], _, h => h
  | x :: xs, _, ⟨v, r, h1, h2, h3⟩ => ⟨v, r, h1, R.mono x v h2, Rs.mono xs r h3⟩
theorem Rk.mono : ∀ (ds : List (Key × D)) (vs : List (Key × V)), Rk G F ds vs → Rk G F' ds vs
  | [], _, h => h
  | (k, x) :: xs, _, ⟨v, r, h1, h2, h3⟩ => ⟨v, r, h1, R.mono x v h2, Rk.mono xs r h3⟩
theorem Rt.mono : ∀ (ds : List (List Key × D)) (vs : List (List Key × V)), Rt G F ds vs → Rt G F' ds vs
  | [], _, h => h
  | (k, x) :: xs, _, ⟨v, r, h1, h2, h3⟩ => ⟨v, r, h1, R.mono x v h2, Rt.mono xs r h3⟩
theorem Rf.mono : ∀ (ds : List (Str × D)) (vs : List (Str × V)), Rf G F ds vs → Rf G F' ds vs
  | [], _, h => h
  | (k, x) :: xs, _, ⟨v, r, h1, h2, h3⟩ => ⟨v, r, h1, R.mono x v h2, Rf.mono xs r h3⟩
end
end
structure Tr (F : Hp) (θ : Th) (H : Hp) (F' : Hp) (θ' : Th) (H' : Hp) : Prop where
  le : Le F F'
  th : ∃ m, θ' = θ ++ m
  newF : ∀ a, F a = none → F' a ≠ none → H a = none ∨ (a ∉ θ' ∧ ∃ vs, H a = some (.tup vs))
  newT : ∀ a, a ∈ θ' → a ∉ θ → H a = none
  keep : ∀ a u, a ∉ θ → H a = some u → H' a = some u
  live : ∀ a u, H a = some u → ∃ u', H' a = some u' ∧ (a ∈ θ → kdO u' = kdO u)
theorem Tr.back {F F' H H' : Hp} {θ θ' : Th} (t : Tr F θ H F' θ' H') {a : Addr} (h : H' a = none) : H a = none := by
  cases e : H a with
  | none => rfl
  | some u =>
    obtain ⟨u', h', _⟩ := t.live a u e
    rw [h] at h'
    cases h'
theorem Tr.get {F F' H H' : Hp} {θ θ' : Th} (t : Tr F θ H F' θ' H') {n : Nat} {a : Addr} (h : θ[n]? = some a) : θ'[n]? = some a := by
  obtain ⟨m, rfl⟩ := t.th
  have hn := (List.getElem?_eq_some_iff.mp h).1
  rw [List.getElem?_append_left hn]
  exact h
theorem Tr.trans {F F1 F2 H H1 H2 : Hp} {θ θ1 θ2 : Th} (a : Tr F θ H F1 θ1 H1) (b : Tr F1 θ1 H1 F2 θ2 H2) : Tr F θ H F2 θ2 H2 where
  le := a.le.trans b.le
  th := by
    obtain ⟨m1, rfl⟩ := a.th
    obtain ⟨m2, rfl⟩ := b.th
    exact ⟨m1 ++ m2, List.append_assoc ..⟩
  newF := fun x h1 h2 => by
    cases e : F1 x with
    | none =>
      rcases b.newF x e h2 with z | ⟨z1, vs, z2⟩
      · exact .inl (a.back z)
      · have hx : x ∉ θ1 := fun z => z1 (by obtain ⟨m, hm⟩ := b.th; rw [hm]; exact List.mem_append_left _ z)
        have hx0 : x ∉ θ := fun z => hx (by obtain ⟨m, hm⟩ := a.th; rw [hm]; exact List.mem_append_left _ z)
        cases hh : H x with
        | none => exact .inl rfl
        | some u =>
          have := a.keep x u hx0 hh
          rw [z2] at this
          cases this
          exact .inr ⟨z1, vs, rfl⟩
    | some u =>
      rcases a.newF x h1 (by rw [e]; exact fun z => by cases z) with z | ⟨z1, vs, z2⟩
      · exact .inl z
      · refine .inr ⟨fun z => ?_, vs, z2⟩
        have q := b.newT x z z1
        have := a.keep x _ (fun z => z1 (by obtain ⟨m, hm⟩ := a.th; rw [hm]; exact List.mem_append_left _ z)) z2
        rw [q] at this
        cases this
  newT := fun x h1 h2 => by
    by_cases h : x ∈ θ1
    · exact a.newT x h h2
    · exact a.back (b.newT x h1 h)
  keep := fun x u h1 h2 => by
    refine b.keep x u (fun h => ?_) (a.keep x u h1 h2)
    have z := a.newT x h h1
    rw [h2] at z
    cases z
  live := fun x u h => by
    obtain ⟨u1, h1, k1⟩ := a.live x u h
    obtain ⟨u2, h2, k2⟩ := b.live x u1 h1
    exact ⟨u2, h2, fun hx => (k2 (by obtain ⟨m, hm⟩ := a.th; rw [hm]; exact List.mem_append_left _ hx)).trans (k1 hx)⟩
section
variable {G : Gd} {F F' H H' : Hp} {θ θ' : Th} (t : Tr F θ H F' θ' H')
include t
mutual
theorem RW.mono : ∀ (w : W) (v : V) (f : List Addr), (∀ a ∈ f, a ∉ θ) → RW G F θ H w v f → RW G F' θ' H' w v f
  | .d x, v, f, _, ⟨h, e⟩ => ⟨R.mono t.le x v h, e⟩
  | .r n, v, f, _, ⟨⟨a, h1, h2⟩, e, b, u, h3, h4, h5⟩ => ⟨⟨a, h1, t.get h2⟩, e, by
    subst h1
    cases h3
    obtain ⟨u', q1, q2⟩ := t.live a u h4
    exact ⟨a, u', rfl, q1, (q2 (List.mem_of_getElem? h2)).trans h5⟩⟩
  | .c k n, v, f, _, ⟨⟨a, h1, h2⟩, e, b, u, kd, h3, h4, h5, h6⟩ => ⟨⟨a, h1, t.get h2⟩, e, by
    subst h1
    cases h3
    obtain ⟨u', q1, q2⟩ := t.live a u h4
    exact ⟨a, u', kd, rfl, q1, (q2 (List.mem_of_getElem? h2)).trans h5, h6⟩⟩
  | .ev c g x, v, f, _, ⟨a, y, h1, h2, h3, h4⟩ => ⟨a, y, h1, h2.mono t.le, RW.mono x y [] (fun b hb => by cases hb) h3, h4⟩
  | .own xs, v, f, hf, ⟨a, vs, fs, h1, h2, h3, h4⟩ => by
    subst h4
    exact ⟨a, vs, fs, h1, t.keep a _ (hf a (List.mem_cons_self ..)) h2, RWs.mono xs vs fs (fun b hb => hf b (List.mem_cons_of_mem _ hb)) h3, rfl⟩
  | .bor xs, v, f, hf, ⟨a, vs, fs, h1, h2, h3, h4⟩ => by
    subst h4
    exact ⟨a, vs, fs, h1, t.keep a _ (hf a (List.mem_cons_self ..)) h2, RWs.mono xs vs fs (fun b hb => hf b (List.mem_cons_of_mem _ hb)) h3, rfl⟩
  | .od xs, v, f, hf, ⟨a, vs, fs, h1, h2, h3, h4⟩ => by
    subst h4
    exact ⟨a, vs, fs, h1, t.keep a _ (hf a (List.mem_cons_self ..)) h2, RWk.mono xs vs fs (fun b hb => hf b (List.mem_cons_of_mem _ hb)) h3, rfl⟩
  | .bd xs, v, f, hf, ⟨a, vs, fs, h1, h2, h3, h4⟩ => by
    subst h4
    exact ⟨a, vs, fs, h1, t.keep a _ (hf a (List.mem_cons_self ..)) h2, RWk.mono xs vs fs (fun b hb => hf b (List.mem_cons_of_mem _ hb)) h3, rfl⟩
  | .slf c xs, v, f, hf, ⟨dx, vs, h1, h2, h4, h5⟩ => by
    subst h5
    exact ⟨dx, vs, h1, h2.keep fun b hb u => t.keep b u (hf b hb), Rf.mono t.le xs vs h4, rfl⟩
  | .slb c xs, v, f, hf, ⟨dx, vs, h1, h2, h4, h5⟩ => by
    subst h5
    exact ⟨dx, vs, h1, h2.keep fun b hb u => t.keep b u (hf b hb), Rf.mono t.le xs vs h4, rfl⟩
  | .exn c x, v, f, hf, ⟨y, h1, h2, h3, h4, h5⟩ => by
    subst h5
    exact ⟨y, h1, h2, t.keep _ _ (hf _ (by simp)) h3, R.mono t.le x y h4, rfl⟩
theorem RWk.mono : ∀ (ws : List (Key × W)) (vs : List (Key × V)) (f : List Addr), (∀ a ∈ f, a ∉ θ) → RWk G F θ H ws vs f → RWk G F' θ' H' ws vs f
  | [], _, _, _, h => h
  | (k, x) :: xs, vs, f, hf, ⟨v, r, f1, f2, h1, h2, h3, h4⟩ => by
    subst h4
    exact ⟨v, r, f1, f2, h1, RW.mono x v f1 (fun a ha => hf a (List.mem_append_left _ ha)) h2, RWk.mono xs r f2 (fun a ha => hf a (List.mem_append_right _ ha)) h3, rfl⟩
theorem RWs.mono : ∀ (ws : List W) (vs : List V) (f : List Addr), (∀ a ∈ f, a ∉ θ) → RWs G F θ H ws vs f → RWs G F' θ' H' ws vs f
  | [], _, _, _, h => h
  | x :: xs, vs, f, hf, ⟨v, r, f1, f2, h1, h2, h3, h4⟩ => by
    subst h4
    exact ⟨v, r, f1, f2, h1, RW.mono x v f1 (fun a ha => hf a (List.mem_append_left _ ha)) h2, RWs.mono xs r f2 (fun a ha => hf a (List.mem_append_right _ ha)) h3, rfl⟩
end
theorem RE.mono : ∀ (env : En) (σ : L2.St) (f : List Addr), (∀ a ∈ f, a ∉ θ) → RE G F θ H env σ f → RE G F' θ' H' env σ f
  | [], _, _, _, h => h
  | none :: e, σ, f, hf, ⟨o, r, h1, h2⟩ => ⟨o, r, h1, RE.mono e r f hf h2⟩
  | some x :: e, σ, f, hf, ⟨v, r, f1, f2, h1, h2, h3, h4⟩ => by
    subst h4
    exact ⟨v, r, f1, f2, h1, RW.mono t x v f1 (fun a ha => hf a (List.mem_append_left _ ha)) h2, RE.mono e r f2 (fun a ha => hf a (List.mem_append_right _ ha)) h3, rfl⟩
end
mutual
theorem RW.there {G : Gd} {F H : Hp} {θ : Th} : ∀ (w : W) (v : V) (f : List Addr), RW G F θ H w v f → ∀ a ∈ f, ∃ u, H a = some u
  | .d x, v, f, ⟨_, e⟩, a, ha => by
    rw [e] at ha
    cases ha
  | .r n, v, f, ⟨_, e, _⟩, a, ha => by
    rw [e] at ha
    cases ha
  | .c k n, v, f, ⟨_, e, _⟩, a, ha => by
    rw [e] at ha
    cases ha
  | .ev c g x, v, f, ⟨b, y, _, _, _, e⟩, a, ha => by
    rw [e] at ha
    cases ha
  | .own xs, v, f, ⟨b, vs, fs, _, h2, h3, h4⟩, a, ha => by
    rw [h4] at ha
    rcases List.mem_cons.mp ha with e | ha
    · exact ⟨_, by rw [e]; exact h2⟩
    · exact RWs.there xs vs fs h3 a ha
  | .bor xs, v, f, ⟨b, vs, fs, _, h2, h3, h4⟩, a, ha => by
    rw [h4] at ha
    rcases List.mem_cons.mp ha with e | ha
    · exact ⟨_, by rw [e]; exact h2⟩
    · exact RWs.there xs vs fs h3 a ha
  | .od xs, v, f, ⟨b, vs, fs, _, h2, h3, h4⟩, a, ha => by
    rw [h4] at ha
    rcases List.mem_cons.mp ha with e | ha
    · exact ⟨_, by rw [e]; exact h2⟩
    · exact RWk.there xs vs fs h3 a ha
  | .bd xs, v, f, ⟨b, vs, fs, _, h2, h3, h4⟩, a, ha => by
    rw [h4] at ha
    rcases List.mem_cons.mp ha with e | ha
    · exact ⟨_, by rw [e]; exact h2⟩
    · exact RWk.there xs vs fs h3 a ha
  | .slf c xs, v, f, ⟨dx, vs, _, h2, h4, h5⟩, a, ha => h2.there a (by rw [← h5]; exact ha)
  | .slb c xs, v, f, ⟨dx, vs, _, h2, h4, h5⟩, a, ha => h2.there a (by rw [← h5]; exact ha)
  | .exn c x, v, f, ⟨y, _, _, h3, _, h5⟩, a, ha => by
    rw [h5] at ha
    exact ⟨_, by rw [List.mem_singleton.mp ha]; exact h3⟩
theorem RWk.there {G : Gd} {F H : Hp} {θ : Th} : ∀ (ws : List (Key × W)) (vs : List (Key × V)) (f : List Addr), RWk G F θ H ws vs f → ∀ a ∈ f, ∃ u, H a = some u
  | [], _, f, ⟨_, e⟩, a, ha => by
    rw [e] at ha
    cases ha
  | (k, x) :: xs, vs, f, ⟨v, r, f1, f2, _, h2, h3, h4⟩, a, ha => by
    rw [h4] at ha
    rcases List.mem_append.mp ha with ha | ha
    · exact RW.there x v f1 h2 a ha
    · exact RWk.there xs r f2 h3 a ha
theorem RWs.there {G : Gd} {F H : Hp} {θ : Th} : ∀ (ws : List W) (vs : List V) (f : List Addr), RWs G F θ H ws vs f → ∀ a ∈ f, ∃ u, H a = some u
  | [], _, f, ⟨_, e⟩, a, ha => by
    rw [e] at ha
    cases ha
  | x :: xs, vs, f, ⟨v, r, f1, f2, _, h2, h3, h4⟩, a, ha => by
    rw [h4] at ha
    rcases List.mem_append.mp ha with ha | ha
    · exact RW.there x v f1 h2 a ha
    · exact RWs.there xs r f2 h3 a ha
end
theorem RE.there {G : Gd} {F H : Hp} {θ : Th} : ∀ (env : En) (σ : L2.St) (f : List Addr), RE G F θ H env σ f → ∀ a ∈ f, ∃ u, H a = some u
  | [], _, f, ⟨_, e⟩, a, ha => by
    rw [e] at ha
    cases ha
  | none :: e, σ, f, ⟨o, r, _, h2⟩, a, ha => RE.there e r f h2 a ha
  | some x :: e, σ, f, ⟨v, r, f1, f2, _, h2, h3, h4⟩, a, ha => by
    rw [h4] at ha
    rcases List.mem_append.mp ha with ha | ha
    · exact RW.there x v f1 h2 a ha
    · exact RE.there e r f2 h3 a ha
theorem SlfAt.nt {G : Gd} {H : Hp} {a dx : Addr} {c : Nat} {us : List (Str × V)} (h : SlfAt G H a c dx us) : ∀ b ∈ [a, dx], ∀ ws, H b ≠ some (.tup ws) := by
  have key : ∀ {u1 u2 : HO}, H a = some u1 → H dx = some u2 → (∀ ws, u1 ≠ .tup ws) → (∀ ws, u2 ≠ .tup ws) → ∀ b ∈ [a, dx], ∀ ws, H b ≠ some (.tup ws) := fun {u1 u2} h1 h2 n1 n2 b hb ws z => by
    rcases List.mem_cons.mp hb with e | hb
    · rw [e, h1] at z
      exact n1 ws (Option.some.inj z)
    · rw [List.mem_singleton.mp hb, h2] at z
      exact n2 ws (Option.some.inj z)
  rcases h with (⟨q, h1, h2⟩ | ⟨q, vs, h1, h2, h3⟩) | ⟨q, h1, h2, h3⟩
  · exact key h1 h2 (fun _ z => by cases z) (fun _ z => by cases z)
  · exact key h1 h2 (fun _ z => by unfold SlX.SlO at z; cases z) (fun _ z => by cases z)
  · exact key h1 h2 (fun _ z => by cases z) (fun _ z => by cases z)
mutual
theorem RW.nt {G : Gd} {F H : Hp} {θ : Th} : ∀ (w : W) (v : V) (f : List Addr), RW G F θ H w v f → ∀ a ∈ f, ∀ ws, H a ≠ some (.tup ws)
  | .d x, v, f, ⟨_, e⟩, a, ha => by
    rw [e] at ha
    cases ha
  | .r n, v, f, ⟨_, e, _⟩, a, ha => by
    rw [e] at ha
    cases ha
  | .c k n, v, f, ⟨_, e, _⟩, a, ha => by
    rw [e] at ha
    cases ha
  | .ev c g x, v, f, ⟨b, y, _, _, _, e⟩, a, ha => by
    rw [e] at ha
    cases ha
  | .own xs, v, f, ⟨b, vs, fs, _, h2, h3, h4⟩, a, ha => by
    rw [h4] at ha
    rcases List.mem_cons.mp ha with e | ha
    · exact fun ws z => by rw [e, h2] at z; cases z
    · exact RWs.nt xs vs fs h3 a ha
  | .bor xs, v, f, ⟨b, vs, fs, _, h2, h3, h4⟩, a, ha => by
    rw [h4] at ha
    rcases List.mem_cons.mp ha with e | ha
    · exact fun ws z => by rw [e, h2] at z; cases z
    · exact RWs.nt xs vs fs h3 a ha
  | .od xs, v, f, ⟨b, vs, fs, _, h2, h3, h4⟩, a, ha => by
    rw [h4] at ha
    rcases List.mem_cons.mp ha with e | ha
    · exact fun ws z => by rw [e, h2] at z; cases z
    · exact RWk.nt xs vs fs h3 a ha
  | .bd xs, v, f, ⟨b, vs, fs, _, h2, h3, h4⟩, a, ha => by
    rw [h4] at ha
    rcases List.mem_cons.mp ha with e | ha
    · exact fun ws z => by rw [e, h2] at z; cases z
    · exact RWk.nt xs vs fs h3 a ha
  | .slf c xs, v, f, ⟨dx, vs, _, h2, h4, h5⟩, a, ha => h2.nt a (by rw [← h5]; exact ha)
  | .slb c xs, v, f, ⟨dx, vs, _, h2, h4, h5⟩, a, ha => h2.nt a (by rw [← h5]; exact ha)
  | .exn c x, v, f, ⟨y, _, _, h3, _, h5⟩, a, ha => by
    rw [h5] at ha
    exact fun ws z => by rw [List.mem_singleton.mp ha, h3] at z; cases z
theorem RWk.nt {G : Gd} {F H : Hp} {θ : Th} : ∀ (ws : List (Key × W)) (vs : List (Key × V)) (f : List Addr), RWk G F θ H ws vs f → ∀ a ∈ f, ∀ ws, H a ≠ some (.tup ws)
  | [], _, f, ⟨_, e⟩, a, ha => by
    rw [e] at ha
    cases ha
  | (k, x) :: xs, vs, f, ⟨v, r, f1, f2, _, h2, h3, h4⟩, a, ha => by
    rw [h4] at ha
    rcases List.mem_append.mp ha with ha | ha
    · exact RW.nt x v f1 h2 a ha
    · exact RWk.nt xs r f2 h3 a ha
theorem RWs.nt {G : Gd} {F H : Hp} {θ : Th} : ∀ (ws : List W) (vs : List V) (f : List Addr), RWs G F θ H ws vs f → ∀ a ∈ f, ∀ ws, H a ≠ some (.tup ws)
  | [], _, f, ⟨_, e⟩, a, ha => by
    rw [e] at ha
    cases ha
  | x :: xs, vs, f, ⟨v, r, f1, f2, _, h2, h3, h4⟩, a, ha => by
    rw [h4] at ha
    rcases List.mem_append.mp ha with ha | ha
    · exact RW.nt x v f1 h2 a ha
    · exact RWs.nt xs r f2 h3 a ha
end
theorem RE.nt {G : Gd} {F H : Hp} {θ : Th} : ∀ (env : En) (σ : L2.St) (f : List Addr), RE G F θ H env σ f → ∀ a ∈ f, ∀ ws, H a ≠ some (.tup ws)
  | [], _, f, ⟨_, e⟩, a, ha => by
    rw [e] at ha
    cases ha
  | none :: e, σ, f, ⟨o, r, _, h2⟩, a, ha => RE.nt e r f h2 a ha
  | some x :: e, σ, f, ⟨v, r, f1, f2, _, h2, h3, h4⟩, a, ha => by
    rw [h4] at ha
    rcases List.mem_append.mp ha with ha | ha
    · exact RW.nt x v f1 h2 a ha
    · exact RE.nt e r f2 h3 a ha
theorem St.step {G : Gd} {F F' H H' : Hp} {θ θ' : Th} {S S' : Store} {env : En} {σ : L2.St} {fp : List Addr} (s : St G F θ H S env σ fp) (t : Tr F θ H F' θ' H')
    (sub : ∀ a u, F' a = some u → H' a = some u) (store : RS G F' θ' H' S') : St G F' θ' H' S' env σ fp where
  sub := sub
  store := store
  env := RE.mono t env σ fp (fun a ha => (s.apart a ha).2) s.env
  nd := s.nd
  apart := fun a ha => by
    obtain ⟨u, hu⟩ := RE.there env σ fp s.env a ha
    refine ⟨?_, fun h => ?_⟩
    · cases e : F' a with
      | none => rfl
      | some x =>
        rcases t.newF a (s.apart a ha).1 (by rw [e]; exact fun z => by cases z) with z | ⟨_, ws, z⟩
        case inr => exact absurd z (RE.nt env σ fp s.env a ha ws)
        rw [hu] at z
        cases z
    · have z := t.newT a h (s.apart a ha).2
      rw [hu] at z
      cases z
abbrev ME := En → Store → Option (W × Store)
abbrev MT := En → Store → Option (Bool × Store)
abbrev MA := En → Store → Option (List W × Store)
def IsOwn : W → Prop
  | .own _ => True
  | .od _ => True
  | _ => False
structure Res (G : Gd) (H : Hp) (fp : List Addr) (F' : Hp) (θ' : Th) (H' : Hp) (w : W) (v : V) (f : List Addr) : Prop where
  rw : RW G F' θ' H' w v f
  nd : f.Nodup
  ap : ∀ a ∈ f, F' a = none ∧ a ∉ θ'
  src : ∀ a ∈ f, a ∈ fp ∨ H a = none
  own : IsOwn w → ∀ a ∈ f, H a = none
theorem Res.d {G : Gd} {H : Hp} {fp : List Addr} {F' : Hp} {θ' : Th} {H' : Hp} {x : D} {v : V} (h : R G F' x v) : Res G H fp F' θ' H' (.d x) v [] :=
  ⟨⟨h, rfl⟩, .nil, fun _ h => absurd h (by simp), fun _ h => absurd h (by simp), fun h => h.elim⟩
theorem RW.dAt {G : Gd} {F : Hp} {θ : Th} {H : Hp} {x : D} {v : V} {f : List Addr} (h : RW G F θ H (.d x) v f) : R G F x v := h.1
theorem Res.mono {G : Gd} {H H1 H2 : Hp} {fp f : List Addr} {F1 F2 : Hp} {θ1 θ2 : Th} {w : W} {v : V} (r : Res G H fp F1 θ1 H1 w v f) (t : Tr F1 θ1 H1 F2 θ2 H2) : Res G H fp F2 θ2 H2 w v f where
  rw := RW.mono t w v f (fun a ha => (r.ap a ha).2) r.rw
  nd := r.nd
  ap := fun a ha => by
    obtain ⟨u, hu⟩ := RW.there w v f r.rw a ha
    refine ⟨?_, fun h => ?_⟩
    · cases e : F2 a with
      | none => rfl
      | some x =>
        rcases t.newF a (r.ap a ha).1 (by rw [e]; exact fun z => by cases z) with z | ⟨_, ws, z⟩
        case inr => exact absurd z (RW.nt w v f r.rw a ha ws)
        rw [hu] at z
        cases z
    · have z := t.newT a h (r.ap a ha).2
      rw [hu] at z
      cases z
  src := r.src
  own := r.own
def RsA (G : Gd) (H : Hp) (fp : List Addr) (F' : Hp) (θ' : Th) (H' : Hp) : List W → List V → Prop
  | [], vs => vs = []
  | w :: ws, vs => ∃ v r f, vs = v :: r ∧ Res G H fp F' θ' H' w v f ∧ RsA G H fp F' θ' H' ws r
theorem RsA.mono {G : Gd} {H H1 H2 : Hp} {fp : List Addr} {F1 F2 : Hp} {θ1 θ2 : Th} (t : Tr F1 θ1 H1 F2 θ2 H2) : ∀ {ws : List W} {vs : List V}, RsA G H fp F1 θ1 H1 ws vs → RsA G H fp F2 θ2 H2 ws vs
  | [], _, h => h
  | _ :: _, _, ⟨v, r, f, h1, h2, h3⟩ => ⟨v, r, f, h1, h2.mono t, RsA.mono t h3⟩
def toBor : W → W
  | .own xs => .bor xs
  | .od xs => .bd xs
  | .slf c xs => .slb c xs
  | w => w
def mVar (i : Nat) : ME := fun env S => match env[i]? with
  | some (some w) => some (toBor w, S)
  | _ => none
def mD (d : D) : ME := fun _ S => some (.d d, S)
theorem RW.bor {G : Gd} {F : Hp} {θ : Th} {H : Hp} : ∀ {w : W} {v : V} {f : List Addr}, RW G F θ H w v f → RW G F θ H (toBor w) v f
  | .d _, _, _, h => h
  | .r _, _, _, h => h
  | .own _, _, _, h => h
  | .bor _, _, _, h => h
  | .od _, _, _, h => h
  | .bd _, _, _, h => h
  | .slf _ _, _, _, h => h
  | .slb _ _, _, _, h => h
  | .exn _ _, _, _, h => h
  | .c _ _, _, _, h => h
  | .ev _ _ _, _, _, h => h
theorem not_own_bor (w : W) : ¬ IsOwn (toBor w) := fun h => by cases w <;> exact h
theorem RE.at {G : Gd} {F : Hp} {θ : Th} {H : Hp} : ∀ {env : En} {σ : L2.St} {fp : List Addr} {i : Nat} {w : W}, RE G F θ H env σ fp → env[i]? = some (some w) → ∃ v f, σ[i]? = some (some v) ∧ RW G F θ H w v f ∧ f.Sublist fp
  | [], _, _, i, _, _, e => by simp at e
  | none :: en, σ, fp, i, w, ⟨o, r, h1, h2⟩, e => by
    cases i with
    | zero => simp at e
    | succ i =>
      obtain ⟨v, f, a, b, c⟩ := RE.at (i := i) h2 (by simpa using e)
      exact ⟨v, f, by rw [h1]; simpa using a, b, c⟩
  | some x :: en, σ, fp, i, w, ⟨v, r, f1, f2, h1, h2, h3, h4⟩, e => by
    cases i with
    | zero =>
      have e' : x = w := by simpa using e
      subst e'
      exact ⟨v, f1, by rw [h1]; rfl, h2, by rw [h4]; exact List.sublist_append_left ..⟩
    | succ i =>
      obtain ⟨v, f, a, b, c⟩ := RE.at (i := i) h3 (by simpa using e)
      exact ⟨v, f, by rw [h1]; simpa using a, b, by rw [h4]; exact c.trans (List.sublist_append_right ..)⟩
theorem St.at {G : Gd} {F : Hp} {θ : Th} {H : Hp} {S : Store} {env : En} {σ : L2.St} {fp : List Addr} (s : St G F θ H S env σ fp) {i : Nat} {w : W} (e : env[i]? = some (some w)) :
    ∃ v f, σ[i]? = some (some v) ∧ Res G H fp F θ H (toBor w) v f := by
  obtain ⟨v, f, a, b, c⟩ := RE.at s.env e
  exact ⟨v, f, a, b.bor, s.nd.sublist c, fun x hx => s.apart x (c.subset hx), fun x hx => .inl (c.subset hx), fun h => (not_own_bor w h).elim⟩
abbrev Op2 := Store → W → W → Option W
def mBin (g : Op2) (a b : ME) : ME := fun env S => (a env S).bind fun p => (b env p.2).bind fun q => (g q.2 p.1 q.1).map fun w => (w, q.2)
def Kt (G : Gd) (F : Hp) (θ : Th) (H0 H : Hp) (S : Store) (env : En) (σ : L2.St) (fp : List Addr) (w : W) (Q : VK) : Prop :=
  ∀ F' θ' H' v f, Tr F θ H F' θ' H' → St G F' θ' H' S env σ fp → Res G H0 fp F' θ' H' w v f → Q v H'
structure Sim2 (G : Gd) (r : R2) (g : Op2) : Prop where
  run : ∀ {F θ H0 H S env σ fp x y vx vy fx fy z Q}, St G F θ H S env σ fp → Res G H0 fp F θ H x vx fx → Res G H0 fp F θ H y vy fy → g S x y = some z →
    (∀ a u, H0 a = some u → ∃ u', H a = some u') → Kt G F θ H0 H S env σ fp z Q → r vx vy H Q
theorem Sim2.or {G : Gd} {r r' : R2} {g g' : Op2} (h : Sim2 G r g) (h' : Sim2 G r' g') : Sim2 G (fun x y H Q => r x y H Q ∨ r' x y H Q) (fun S x y => (g S x y).or (g' S x y)) := by
  refine ⟨fun {F θ H0 H S env σ fp x y vx vy fx fy z Q} st rx ry e l k => ?_⟩
  cases q : g S x y with
  | some w =>
    have e' : w = z := by
      simpa [q] using e
    subst e'
    exact .inl (h.run st rx ry q l k)
  | none =>
    have e' : g' S x y = some z := by
      simpa [q] using e
    exact .inr (h'.run st rx ry e' l k)
section
variable {X : Cx} {G : Gd} {a b : Expr} {ma mb : ME} {g : Op2} {r : R2} {pos : Pos}
def mTst (m : ME) : MT := fun env S => (m env S).bind fun p => match p.1 with
  | .d (.bl b) => some (b, p.2)
  | _ => none
end
def mAndT (a b : MT) : MT := fun env S => (a env S).bind fun p => if p.1 = true then b env p.2 else some (false, p.2)
def mOrT (a b : MT) : MT := fun env S => (a env S).bind fun p => if p.1 = true then some (true, p.2) else b env p.2
def mNotT (a : MT) : MT := fun env S => (a env S).map fun p => (!p.1, p.2)
def mIf (c : MT) (a b : ME) : ME := fun env S => (c env S).bind fun p => if p.1 = true then a env p.2 else b env p.2
section
variable {X : Cx} {G : Gd} {a b c : Expr} {mc : MT} {ma mb : ME} {rest : List Expr} {pos : Pos}
def mAndV (a b : ME) : ME := fun env S => (a env S).bind fun p => match p.1 with
  | .d (.bl true) => (b env p.2).bind fun q => match q.1 with
    | .d (.bl c) => some (.d (.bl c), q.2)
    | _ => none
  | .d (.bl false) => some (.d (.bl false), p.2)
  | _ => none
end
def mNil : MA := fun _ S => some ([], S)
def mCons (a : ME) (r : MA) : MA := fun env S => (a env S).bind fun p => (r env p.2).map fun q => (p.1 :: q.1, q.2)
def cap : Nat := 10000000
def asDs : List W → Option (List D)
  | [] => some []
  | .d x :: r => (asDs r).map (x :: ·)
  | _ :: _ => none
def vL (S : Store) : W → Option (List W)
  | .d (.lst xs) => some (xs.map .d)
  | .r n => S[n]?
  | .own xs => some xs
  | .bor xs => some xs
  | _ => none
def vT : W → Option (List D)
  | .d (.tup xs) => some xs
  | _ => none
section
variable {G : Gd} {F : Hp} {θ : Th} {H : Hp}
theorem Rs.len : ∀ {xs : List D} {vs : List V}, Rs G F xs vs → vs.length = xs.length
  | [], _, h => by
    rw [h]
    rfl
  | _ :: _, _, ⟨v, r, h1, _, h3⟩ => by rw [h1, List.length_cons, List.length_cons, Rs.len h3]
theorem RWs.len : ∀ {xs : List W} {vs : List V} {f : List Addr}, RWs G F θ H xs vs f → vs.length = xs.length
  | [], _, _, h => by
    rw [h.1]
    rfl
  | _ :: _, _, _, ⟨v, r, _, _, h1, _, h3, _⟩ => by rw [h1, List.length_cons, List.length_cons, RWs.len h3]
theorem Rs.get : ∀ {xs : List D} {vs : List V} {i : Nat} {x : D}, Rs G F xs vs → xs[i]? = some x → ∃ v, vs[i]? = some v ∧ R G F x v
  | [], _, _, _, _, e => by simp at e
  | y :: _, _, 0, x, ⟨v, r, h1, h2, h3⟩, e => by
    have e' : y = x := by simpa using e
    subst e'
    exact ⟨v, by rw [h1]; rfl, h2⟩
  | _ :: _, _, i + 1, x, ⟨v, r, h1, h2, h3⟩, e => by
    obtain ⟨u, a, b⟩ := Rs.get (i := i) h3 (by simpa using e)
    exact ⟨u, by rw [h1]; simpa using a, b⟩
theorem RWs.get : ∀ {xs : List W} {vs : List V} {f : List Addr} {i : Nat} {x : W}, RWs G F θ H xs vs f → xs[i]? = some x → ∃ v f', vs[i]? = some v ∧ RW G F θ H x v f' ∧ f'.Sublist f
  | [], _, _, _, _, _, e => by simp at e
  | y :: _, _, _, 0, x, ⟨v, r, f1, f2, h1, h2, h3, h4⟩, e => by
    have e' : y = x := by simpa using e
    subst e'
    exact ⟨v, f1, by rw [h1]; rfl, h2, by rw [h4]; exact List.sublist_append_left ..⟩
  | _ :: _, _, _, i + 1, x, ⟨v, r, f1, f2, h1, h2, h3, h4⟩, e => by
    obtain ⟨u, f', a, b, c⟩ := RWs.get (i := i) h3 (by simpa using e)
    exact ⟨u, f', by rw [h1]; simpa using a, b, by rw [h4]; exact c.trans (List.sublist_append_right ..)⟩
theorem Rs.drop : ∀ {xs : List D} {vs : List V} (n : Nat), Rs G F xs vs → Rs G F (xs.drop n) (vs.drop n)
  | _, _, 0, h => h
  | [], _, _ + 1, h => by
    rw [h]
    rfl
  | _ :: _, _, n + 1, ⟨v, r, h1, h2, h3⟩ => by
    rw [h1]
    exact Rs.drop n h3
theorem Rs.take : ∀ {xs : List D} {vs : List V} (n : Nat), Rs G F xs vs → Rs G F (xs.take n) (vs.take n)
  | _, _, 0, _ => rfl
  | [], _, _ + 1, h => by
    rw [h]
    rfl
  | _ :: _, _, n + 1, ⟨v, r, h1, h2, h3⟩ => by
    rw [h1]
    exact ⟨v, _, rfl, h2, Rs.take n h3⟩
theorem Res.newT {H0 : Hp} {fp : List Addr} {p : Addr} {xs : List D} {vs : List V} (r : Rs G (upd F p (.tup vs)) xs vs) : Res G H0 fp (upd F p (.tup vs)) θ (upd H p (.tup vs)) (.d (.tup xs)) (.ref p) [] := .d ⟨p, vs, rfl, .inl upd_same, r⟩
end
def gInt (c : Int → Int → Bool) (g : Int → Int → D) : Op2 := fun _ x y => match x, y with
  | .d (.int i), .d (.int j) => if c i j = true then some (.d (g i j)) else none
  | _, _ => none
def gStr2 (g : Str → Str → D) : Op2 := fun _ x y => match x, y with
  | .d (.str i), .d (.str j) => some (.d (g i j))
  | _, _ => none
def gAddS : Op2 := fun _ x y => match x, y with
  | .d (.str i), .d (.str j) => if i.length + j.length ≤ cap then some (.d (.str (i ++ j))) else none
  | _, _ => none
def gAddL : Op2 := fun S x y => (vL S x).bind fun xs => (vL S y).bind fun ys => (asDs xs).bind fun xs => (asDs ys).bind fun ys => if xs.length + ys.length ≤ cap then some (.d (.lst (xs ++ ys))) else none
def gAddT : Op2 := fun _ x y => (vT x).bind fun xs => (vT y).bind fun ys => if xs.length + ys.length ≤ cap then some (.d (.tup (xs ++ ys))) else none
def gAdd : Op2 := fun S x y => (gInt (fun _ _ => true) (fun i j => .int (i + j)) S x y).or ((gAddS S x y).or ((gAddL S x y).or (gAddT S x y)))
def gLt : Op2 := fun S x y => (gInt (fun _ _ => true) (fun i j => .bl (decide (i < j))) S x y).or (gStr2 (fun i j => .bl (decide (i.cps.toList < j.cps.toList))) S x y)
def gLe : Op2 := fun S x y => (gInt (fun _ _ => true) (fun i j => .bl (decide (i ≤ j))) S x y).or (gStr2 (fun i j => .bl (!decide (j.cps.toList < i.cps.toList))) S x y)
def gGt : Op2 := fun S x y => (gInt (fun _ _ => true) (fun i j => .bl (decide (j < i))) S x y).or (gStr2 (fun i j => .bl (decide (j.cps.toList < i.cps.toList))) S x y)
def gGe : Op2 := fun S x y => (gInt (fun _ _ => true) (fun i j => .bl (decide (j ≤ i))) S x y).or (gStr2 (fun i j => .bl (!decide (i.cps.toList < j.cps.toList))) S x y)
mutual
def dpy : D → Option PyData
  | .non => some .none
  | .bl b => some (.bool b)
  | .int i => some (.int i)
  | .str x => some (.str x)
  | .lst xs => (dpys xs).map .list
  | .tup xs => (dpys xs).map .tuple
  | .ro xs => (dpys xs).map .list
  | _ => none
def dpys : List D → Option (List PyData)
  | [] => some []
  | x :: r => (dpy x).bind fun a => (dpys r).map (a :: ·)
end
def tupPy : PyData → Option PyData
  | .list ps => some (.tuple ps)
  | _ => none
mutual
def wpyG (c : Nat → Option PyData) : W → Option PyData
  | .d x => dpy x
  | .r n => c n
  | .c .tup n => (c n).bind tupPy
  | .own xs => (wpysG c xs).map .list
  | .bor xs => (wpysG c xs).map .list
  | _ => none
def wpysG (c : Nat → Option PyData) : List W → Option (List PyData)
  | [] => some []
  | x :: r => (wpyG c x).bind fun a => (wpysG c r).map (a :: ·)
end
def cellPy (S : Store) : Nat → Nat → Option PyData
  | 0, _ => none
  | k + 1, n => (S[n]?).bind fun xs => (wpysG (cellPy S k) xs).map .list
def wpy (S : Store) : W → Option PyData := wpyG (cellPy S 5)
def gEqS (neg : Bool) : Op2 := fun _ x y => match x, y with
  | .d (.int i), .d (.int j) => some (.d (.bl (neg != decide (i = j))))
  | .d (.str i), .d (.str j) => some (.d (.bl (neg != decide (i = j))))
  | .d (.bl i), .d (.bl j) => some (.d (.bl (neg != decide (i = j))))
  | _, _ => none
def gEqP (neg : Bool) : Op2 := fun S x y => (wpy S x).bind fun a => (wpy S y).bind fun b => if SeqAt.shaped a = true ∧ SeqAt.shaped b = true then some (.d (.bl (neg != PyData.eqv a b))) else none
def gEq : Op2 := fun S x y => (gEqS false S x y).or (gEqP false S x y)
def gNe : Op2 := fun S x y => (gEqS true S x y).or (gEqP true S x y)
def vSeq (S : Store) (w : W) : Option (List D) := ((vL S w).bind asDs).or (vT w)
end Zf
set_option maxHeartbeats 1000000
namespace Zf
open PySem L2
def vLT (S : Store) : W → Option (List W)
  | .c .tup n => S[n]?
  | w => vL S w
abbrev MO := En → Store → Option (Option Int × Store)
def mNoPart : MO := fun _ S => some (none, S)
def mPart (m : ME) : MO := fun env S => (m env S).bind fun p => match p.1 with
  | .d (.int i) => some (some i, p.2)
  | _ => none
def cutA {α : Type} (xs : List α) (lo hi : Option Int) : List α := (xs.drop (HT.sIx xs.length 0 lo)).take (HT.sIx xs.length xs.length hi - HT.sIx xs.length 0 lo)
def gSl (S : Store) (w : W) (lo hi : Option Int) : Option W := match w with
  | .d (.str z) => if z.length ≤ cap then some (.d (.str (cutS z lo hi))) else none
  | .d (.ro xs) => some (.d (.lst (cutA xs lo hi)))
  | w => match vT w with
    | some xs => some (.d (.tup (cutA xs lo hi)))
    | none => ((vL S w).bind asDs).map fun xs => .d (.lst (cutA xs lo hi))
def mSl (m : ME) (lo hi : MO) : ME := fun env S => (m env S).bind fun p => (lo env p.2).bind fun q => (hi env q.2).bind fun r => (gSl r.2 p.1 q.1 r.1).map fun w => (w, r.2)
theorem RsA.d {G : Gd} {H0 : Hp} {fp : List Addr} {F : Hp} {θ : Th} {H : Hp} : ∀ {ws : List W} {xs : List D} {vs : List V}, RsA G H0 fp F θ H ws vs → asDs ws = some xs → Rs G F xs vs
  | [], _, _, h, e => by
    cases e
    exact h
  | .d x :: r, _, _, ⟨v, r', f, h1, h2, h3⟩, e => by
    obtain ⟨ys, e1, e2⟩ := Option.map_eq_some_iff.mp e
    cases e2
    exact ⟨v, r', h1, h2.rw.dAt, RsA.d h3 e1⟩
  | .r _ :: _, _, _, _, e => by cases e
  | .own _ :: _, _, _, _, e => by cases e
  | .bor _ :: _, _, _, _, e => by cases e
  | .od _ :: _, _, _, _, e => by cases e
  | .bd _ :: _, _, _, _, e => by cases e
  | .slf _ _ :: _, _, _, _, e => by cases e
  | .slb _ _ :: _, _, _, _, e => by cases e
  | .exn _ _ :: _, _, _, _, e => by cases e
  | .ev _ _ _ :: _, _, _, _, e => by cases e
def mTup (m : MA) : ME := fun env S => (m env S).bind fun p => (asDs p.1).bind fun xs => if xs.length ≤ cap then some (.d (.tup xs), p.2) else none
def mLst (m : MA) : ME := fun env S => (m env S).bind fun p => (asDs p.1).bind fun xs => if xs.length ≤ cap then some (.d (.lst xs), p.2) else none
section
variable {X : Cx} {G : Gd} {es : List Expr} {ms : MA} {pos : Pos}
def mStar (m : ME) (r : MA) : MA := fun env S => (m env S).bind fun p => (vSeq p.2 p.1).bind fun xs => (r env p.2).map fun q => (xs.map .d ++ q.1, q.2)
end
section
variable {G : Gd} {F F' H H' : Hp} {θ θ' : Th} (le : Le F F') (th : ∀ (n : Nat) a, θ[n]? = some a → θ'[n]? = some a) (ln : ∀ a ∈ θ, ∀ u, H a = some u → ∃ u', H' a = some u' ∧ kdO u' = kdO u)
include le th ln
mutual
theorem RW.move : ∀ (w : W) (v : V) (f : List Addr), (∀ a ∈ f, ∀ u, H a = some u → H' a = some u) → RW G F θ H w v f → RW G F' θ' H' w v f
  | .d x, v, f, _, ⟨h, e⟩ => ⟨R.mono le x v h, e⟩
  | .r n, v, f, _, ⟨⟨a, h1, h2⟩, e, b, u, h3, h4, h5⟩ => ⟨⟨a, h1, th n a h2⟩, e, by
    subst h1
    cases h3
    obtain ⟨u', q1, q2⟩ := ln a (List.mem_of_getElem? h2) u h4
    exact ⟨a, u', rfl, q1, q2.trans h5⟩⟩
  | .c k n, v, f, _, ⟨⟨a, h1, h2⟩, e, b, u, kd, h3, h4, h5, h6⟩ => ⟨⟨a, h1, th n a h2⟩, e, by
    subst h1
    cases h3
    obtain ⟨u', q1, q2⟩ := ln a (List.mem_of_getElem? h2) u h4
    exact ⟨a, u', kd, rfl, q1, q2.trans h5, h6⟩⟩
  | .ev c g x, v, f, _, ⟨a, y, h1, h2, h3, h4⟩ => ⟨a, y, h1, h2.mono le, RW.move x y [] (fun b hb => by cases hb) h3, h4⟩
  | .own xs, v, f, hf, ⟨a, vs, fs, h1, h2, h3, h4⟩ => by
    subst h4
    exact ⟨a, vs, fs, h1, hf a (List.mem_cons_self ..) _ h2, RWs.move xs vs fs (fun b hb => hf b (List.mem_cons_of_mem _ hb)) h3, rfl⟩
  | .bor xs, v, f, hf, ⟨a, vs, fs, h1, h2, h3, h4⟩ => by
    subst h4
    exact ⟨a, vs, fs, h1, hf a (List.mem_cons_self ..) _ h2, RWs.move xs vs fs (fun b hb => hf b (List.mem_cons_of_mem _ hb)) h3, rfl⟩
  | .od xs, v, f, hf, ⟨a, vs, fs, h1, h2, h3, h4⟩ => by
    subst h4
    exact ⟨a, vs, fs, h1, hf a (List.mem_cons_self ..) _ h2, RWk.move xs vs fs (fun b hb => hf b (List.mem_cons_of_mem _ hb)) h3, rfl⟩
  | .bd xs, v, f, hf, ⟨a, vs, fs, h1, h2, h3, h4⟩ => by
    subst h4
    exact ⟨a, vs, fs, h1, hf a (List.mem_cons_self ..) _ h2, RWk.move xs vs fs (fun b hb => hf b (List.mem_cons_of_mem _ hb)) h3, rfl⟩
  | .slf c xs, v, f, hf, ⟨dx, vs, h1, h2, h4, h5⟩ => by
    subst h5
    exact ⟨dx, vs, h1, h2.keep hf, Rf.mono le xs vs h4, rfl⟩
  | .slb c xs, v, f, hf, ⟨dx, vs, h1, h2, h4, h5⟩ => by
    subst h5
    exact ⟨dx, vs, h1, h2.keep hf, Rf.mono le xs vs h4, rfl⟩
  | .exn c x, v, f, hf, ⟨y, h1, h2, h3, h4, h5⟩ => by
    subst h5
    exact ⟨y, h1, h2, hf _ (by simp) _ h3, R.mono le x y h4, rfl⟩
theorem RWk.move : ∀ (ws : List (Key × W)) (vs : List (Key × V)) (f : List Addr), (∀ a ∈ f, ∀ u, H a = some u → H' a = some u) → RWk G F θ H ws vs f → RWk G F' θ' H' ws vs f
  | [], _, _, _, h => h
  | (k, x) :: xs, vs, f, hf, ⟨v, r, f1, f2, h1, h2, h3, h4⟩ => by
    subst h4
    exact ⟨v, r, f1, f2, h1, RW.move x v f1 (fun a ha => hf a (List.mem_append_left _ ha)) h2, RWk.move xs r f2 (fun a ha => hf a (List.mem_append_right _ ha)) h3, rfl⟩
theorem RWs.move : ∀ (ws : List W) (vs : List V) (f : List Addr), (∀ a ∈ f, ∀ u, H a = some u → H' a = some u) → RWs G F θ H ws vs f → RWs G F' θ' H' ws vs f
  | [], _, _, _, h => h
  | x :: xs, vs, f, hf, ⟨v, r, f1, f2, h1, h2, h3, h4⟩ => by
    subst h4
    exact ⟨v, r, f1, f2, h1, RW.move x v f1 (fun a ha => hf a (List.mem_append_left _ ha)) h2, RWs.move xs r f2 (fun a ha => hf a (List.mem_append_right _ ha)) h3, rfl⟩
end
theorem RE.move : ∀ (env : En) (σ : L2.St) (f : List Addr), (∀ a ∈ f, ∀ u, H a = some u → H' a = some u) → RE G F θ H env σ f → RE G F' θ' H' env σ f
  | [], _, _, _, h => h
  | none :: e, σ, f, hf, ⟨o, r, h1, h2⟩ => ⟨o, r, h1, RE.move e r f hf h2⟩
  | some x :: e, σ, f, hf, ⟨v, r, f1, f2, h1, h2, h3, h4⟩ => by
    subst h4
    exact ⟨v, r, f1, f2, h1, RW.move le th ln x v f1 (fun a ha => hf a (List.mem_append_left _ ha)) h2, RE.move e r f2 (fun a ha => hf a (List.mem_append_right _ ha)) h3, rfl⟩
end
theorem RE.cut {G : Gd} {F : Hp} {θ : Th} {H : Hp} : ∀ {env : En} {σ : L2.St} {fp : List Addr} {i : Nat}, RE G F θ H env σ fp → i < env.length →
    ∃ (ea eb : En) (o : Option W) (sa sb : L2.St) (v : Option V) (pre old post : List Addr), env = ea ++ o :: eb ∧ σ = sa ++ v :: sb ∧ ea.length = i ∧ sa.length = i ∧ fp = pre ++ (old ++ post) ∧ RE G F θ H ea sa pre ∧ RE G F θ H eb sb post ∧
      (o = none → old = []) ∧ ∀ w, o = some w → ∃ u, v = some u ∧ RW G F θ H w u old
  | [], _, _, i, _, h => absurd h (Nat.not_lt_zero _)
  | none :: e, σ, fp, i, ⟨o, r, h1, h2⟩, hi => by
    cases i with
    | zero => exact ⟨[], e, none, [], r, o, [], [], fp, rfl, h1, rfl, rfl, rfl, ⟨rfl, rfl⟩, h2, fun _ => rfl, fun w h => by cases h⟩
    | succ i =>
      obtain ⟨ea, eb, x, sa, sb, v, pre, old, post, q1, q2, q3, q4, q5, q6, q7, q8, q9⟩ := RE.cut (i := i) h2 (Nat.lt_of_succ_lt_succ hi)
      exact ⟨none :: ea, eb, x, o :: sa, sb, v, pre, old, post, by rw [q1]; rfl, by rw [h1, q2]; rfl, by rw [List.length_cons, q3], by rw [List.length_cons, q4], q5, ⟨o, sa, rfl, q6⟩, q7, q8, q9⟩
  | some x :: e, σ, fp, i, ⟨v, r, f1, f2, h1, h2, h3, h4⟩, hi => by
    cases i with
    | zero => exact ⟨[], e, some x, [], r, some v, [], f1, f2, rfl, h1, rfl, rfl, h4, ⟨rfl, rfl⟩, h3, fun h => (by cases h), fun w h => ⟨v, rfl, Option.some.inj h ▸ h2⟩⟩
    | succ i =>
      obtain ⟨ea, eb, y, sa, sb, u, pre, old, post, q1, q2, q3, q4, q5, q6, q7, q8, q9⟩ := RE.cut (i := i) h3 (Nat.lt_of_succ_lt_succ hi)
      exact ⟨some x :: ea, eb, y, some v :: sa, sb, u, f1 ++ pre, old, post, by rw [q1]; rfl, by rw [h1, q2]; rfl, by rw [List.length_cons, q3], by rw [List.length_cons, q4], by rw [h4, q5, List.append_assoc], ⟨v, sa, f1, pre, rfl, h2, q6, rfl⟩, q7, q8, q9⟩
theorem RE.join {G : Gd} {F : Hp} {θ : Th} {H : Hp} : ∀ {ea eb : En} {sa sb : L2.St} {pre post : List Addr}, RE G F θ H ea sa pre → RE G F θ H eb sb post → RE G F θ H (ea ++ eb) (sa ++ sb) (pre ++ post)
  | [], _, _, _, _, _, h, h' => by
    rw [h.1, h.2]
    exact h'
  | none :: e, _, _, _, _, _, ⟨o, r, h1, h2⟩, h' => by
    rw [h1]
    exact ⟨o, _, rfl, RE.join h2 h'⟩
  | some x :: e, _, _, _, _, _, ⟨v, r, f1, f2, h1, h2, h3, h4⟩, h' => by
    rw [h1, h4, List.append_assoc]
    exact ⟨v, _, f1, _, rfl, h2, RE.join h3 h', rfl⟩
theorem RE.len {G : Gd} {F : Hp} {θ : Th} {H : Hp} : ∀ {env : En} {σ : L2.St} {fp : List Addr}, RE G F θ H env σ fp → σ.length = env.length
  | [], _, _, h => by
    rw [h.1]
    rfl
  | none :: e, _, _, ⟨o, r, h1, h2⟩ => by rw [h1, List.length_cons, List.length_cons, RE.len h2]
  | some x :: e, _, _, ⟨v, r, f1, f2, h1, _, h3, _⟩ => by rw [h1, List.length_cons, List.length_cons, RE.len h3]
theorem set_mid {α : Type} {a b : List α} {x y : α} {i : Nat} (h : a.length = i) : (a ++ x :: b).set i y = a ++ y :: b := by
  subst h
  simp
inductive Fl where
  | nx | brk | cont
  | ret (w : W)
  | exc (c : Nat) (x : D)
abbrev MS := En → Store → Option (Fl × En × Store)
structure TrS (F : Hp) (θ : Th) (H : Hp) (fp : List Addr) (F' : Hp) (θ' : Th) (H' : Hp) (fp' : List Addr) : Prop where
  le : Le F F'
  th : ∃ m, θ' = θ ++ m
  newF : ∀ a, F a = none → F' a ≠ none → H a = none ∨ a ∈ fp ∨ (a ∉ θ' ∧ a ∉ fp' ∧ ∃ vs, H a = some (.tup vs))
  newT : ∀ a, a ∈ θ' → a ∉ θ → H a = none ∨ a ∈ fp
  newP : ∀ a, a ∈ fp' → a ∈ fp ∨ H a = none
  keep : ∀ a u, a ∉ θ → a ∉ fp → H a = some u → H' a = some u
  live : ∀ a u, H a = some u → ∃ u', H' a = some u' ∧ (a ∈ θ → kdO u' = kdO u)
theorem TrS.back {F F' H H' : Hp} {θ θ' : Th} {fp fp' : List Addr} (t : TrS F θ H fp F' θ' H' fp') {a : Addr} (h : H' a = none) : H a = none := by
  cases e : H a with
  | none => rfl
  | some u =>
    obtain ⟨u', h', _⟩ := t.live a u e
    rw [h] at h'
    cases h'
theorem TrS.trans {F F1 F2 H H1 H2 : Hp} {θ θ1 θ2 : Th} {fp fp1 fp2 : List Addr} (a : TrS F θ H fp F1 θ1 H1 fp1) (b : TrS F1 θ1 H1 fp1 F2 θ2 H2 fp2) : TrS F θ H fp F2 θ2 H2 fp2 where
  le := a.le.trans b.le
  th := by
    obtain ⟨m1, rfl⟩ := a.th
    obtain ⟨m2, rfl⟩ := b.th
    exact ⟨m1 ++ m2, List.append_assoc ..⟩
  newF := fun x h1 h2 => by
    cases e : F1 x with
    | none =>
      rcases b.newF x e h2 with z | z | ⟨z1, z3, vs, z2⟩
      · exact .inl (a.back z)
      · rcases a.newP x z with q | q
        · exact .inr (.inl q)
        · exact .inl q
      · by_cases hf : x ∈ fp
        · exact .inr (.inl hf)
        · have hx1 : x ∉ θ1 := fun z => z1 (by obtain ⟨m, hm⟩ := b.th; rw [hm]; exact List.mem_append_left _ z)
          have hx0 : x ∉ θ := fun z => hx1 (by obtain ⟨m, hm⟩ := a.th; rw [hm]; exact List.mem_append_left _ z)
          cases hh : H x with
          | none => exact .inl rfl
          | some u =>
            have := a.keep x u hx0 hf hh
            rw [z2] at this
            cases this
            exact .inr (.inr ⟨z1, z3, vs, rfl⟩)
    | some u =>
      rcases a.newF x h1 (by rw [e]; exact fun z => by cases z) with z | z | ⟨z1, z3, vs, z2⟩
      · exact .inl z
      · exact .inr (.inl z)
      · by_cases hf : x ∈ fp
        · exact .inr (.inl hf)
        · have hx0 : x ∉ θ := fun z => z1 (by obtain ⟨m, hm⟩ := a.th; rw [hm]; exact List.mem_append_left _ z)
          have k1 := a.keep x _ hx0 hf z2
          refine .inr (.inr ⟨fun z => ?_, fun z => ?_, vs, z2⟩)
          · rcases b.newT x z z1 with q | q
            · rw [q] at k1; cases k1
            · exact z3 q
          · rcases b.newP x z with q | q
            · exact z3 q
            · rw [q] at k1; cases k1
  newT := fun x h1 h2 => by
    by_cases h : x ∈ θ1
    · exact a.newT x h h2
    · rcases b.newT x h1 h with z | z
      · exact .inl (a.back z)
      · exact (a.newP x z).symm
  newP := fun x h => by
    rcases b.newP x h with z | z
    · exact a.newP x z
    · exact .inr (a.back z)
  keep := fun x u h1 h2 h3 => by
    refine b.keep x u (fun h => ?_) (fun h => ?_) (a.keep x u h1 h2 h3)
    · rcases a.newT x h h1 with z | z
      · rw [h3] at z
        cases z
      · exact h2 z
    · rcases a.newP x h with z | z
      · exact h2 z
      · rw [h3] at z
        cases z
  live := fun x u h => by
    obtain ⟨u1, h1, k1⟩ := a.live x u h
    obtain ⟨u2, h2, k2⟩ := b.live x u1 h1
    exact ⟨u2, h2, fun hx => (k2 (by obtain ⟨m, hm⟩ := a.th; rw [hm]; exact List.mem_append_left _ hx)).trans (k1 hx)⟩
structure Rr (G : Gd) (H : Hp) (fp : List Addr) (F' : Hp) (θ' : Th) (H' : Hp) (w : W) (v : V) (f : List Addr) : Prop where
  rw : RW G F' θ' H' w v f
  nd : f.Nodup
  ap : ∀ a ∈ f, F' a = none ∧ a ∉ θ'
  src : ∀ a ∈ f, a ∈ fp ∨ H a = none
def mNext : MS := fun env S => some (.nx, env, S)
def mSeq (a b : MS) : MS := fun env S => (a env S).bind fun p => match p.1 with
  | .nx => b p.2.1 p.2.2
  | fl => some (fl, p.2.1, p.2.2)
def mRet (m : ME) : MS := fun env S => (m env S).map fun p => (.ret p.1, env, p.2)
def mIfS (c : MT) (a b : MS) : MS := fun env S => (c env S).bind fun p => if p.1 = true then a env p.2 else b env p.2
def canSet : W → Bool
  | .bor _ => false
  | .bd _ => false
  | .slf _ _ => false
  | .slb _ _ => false
  | .exn _ _ => false
  | _ => true
theorem St.set {G : Gd} {F H0 H : Hp} {θ : Th} {S : Store} {env : En} {σ : L2.St} {fp f : List Addr} {w : W} {v : V} {i : Nat} (s : St G F θ H S env σ fp) (r : Res G H0 fp F θ H w v f) (hl : ∀ a ∈ fp, H0 a ≠ none) (hi : i < env.length) (hw : canSet w = true) :
    ∃ fp', St G F θ H S (env.set i (some w)) (σ.set i (some v)) fp' ∧ ∀ a ∈ fp', a ∈ fp ∨ H0 a = none := by
  obtain ⟨ea, eb, o, sa, sb, v0, pre, old, post, q1, q2, q3, q4, q5, q6, q7, q8, q9⟩ := RE.cut s.env hi
  have dj : ∀ a ∈ f, H0 a = none := fun a ha => by
    cases w with
    | d x =>
      rw [r.rw.2] at ha
      cases ha
    | r n =>
      rw [r.rw.2.1] at ha
      cases ha
    | c k n =>
      rw [r.rw.2.1] at ha
      cases ha
    | ev c g x =>
      obtain ⟨_, _, _, _, _, e⟩ := r.rw
      rw [e] at ha
      cases ha
    | own xs => exact r.own trivial a ha
    | od xs => exact r.own trivial a ha
    | bor xs => cases hw
    | bd xs => cases hw
    | slf _ _ => cases hw
    | slb _ _ => cases hw
    | exn _ _ => cases hw
  have nd := s.nd
  rw [q5] at nd
  have hf : ∀ a ∈ fp, a ∉ f := fun a h1 h2 => hl a h1 (dj a h2)
  refine ⟨pre ++ (f ++ post), ⟨s.sub, s.store, ?_, ?_, fun a ha => ?_⟩, fun a ha => ?_⟩
  · rw [q1, q2, set_mid q3, set_mid q4]
    exact RE.join q6 ⟨v, sb, f, post, rfl, r.rw, q7, rfl⟩
  · obtain ⟨n1, n2, n3⟩ := List.nodup_append.mp nd
    obtain ⟨n4, n5, n6⟩ := List.nodup_append.mp n2
    refine List.nodup_append.mpr ⟨n1, List.nodup_append.mpr ⟨r.nd, n5, fun a h1 b h2 e => ?_⟩, fun a h1 b h2 e => ?_⟩
    · subst e
      exact hf a (by rw [q5]; simp [h2]) h1
    · subst e
      rcases List.mem_append.mp h2 with h2 | h2
      · exact hf a (by rw [q5]; simp [h1]) h2
      · exact n3 a h1 a (List.mem_append_right _ h2) rfl
  · rcases List.mem_append.mp ha with ha | ha
    · exact s.apart a (by rw [q5]; simp [ha])
    · rcases List.mem_append.mp ha with ha | ha
      · exact r.ap a ha
      · exact s.apart a (by rw [q5]; simp [ha])
  · rcases List.mem_append.mp ha with ha | ha
    · exact .inl (by rw [q5]; simp [ha])
    · rcases List.mem_append.mp ha with ha | ha
      · exact .inr (dj a ha)
      · exact .inl (by rw [q5]; simp [ha])
def mSet (i : Nat) (m : ME) : MS := fun env S => (m env S).bind fun p => if i < env.length ∧ canSet p.1 = true then some (.nx, env.set i (some p.1), p.2) else none
structure Grow (F H F' H' : Hp) : Prop where
  f : ∀ a u, F a = some u → F' a = some u
  h : ∀ a u, H a = some u → H' a = some u
  new : ∀ a, F a = none → F' a ≠ none → H a = none
  sub : ∀ a u, F' a = some u → H' a = some u
theorem RS.move {G : Gd} {F F' H H' : Hp} {θ : Th} {S : Store} (r : RS G F θ H S) (le : Le F F') (hF : ∀ a ∈ θ, F a = none → F' a = none) (hH : ∀ a ∈ θ, ∀ u, H a = some u → H' a = some u) : RS G F' θ H' S where
  len := r.len
  nd := r.nd
  cellR := fun n xs e => by
    obtain ⟨a, vs, h1, h2, h3, h4⟩ := r.cellR n xs e
    exact ⟨a, vs, h1, hF a (List.mem_of_getElem? h1) h2, h3.to le (hH a (List.mem_of_getElem? h1)), RWs.move le (fun _ _ h => h) (fun b hb u h => ⟨u, hH b hb u h, rfl⟩) xs vs [] (fun _ h => absurd h (by simp)) h4⟩
theorem RS.there {G : Gd} {F H : Hp} {θ : Th} {S : Store} (r : RS G F θ H S) {a : Addr} (h : a ∈ θ) : F a = none ∧ ∃ u, H a = some u := by
  obtain ⟨n, hn, e⟩ := List.getElem_of_mem h
  have hs : n < S.length := by
    rw [← r.len]
    exact hn
  obtain ⟨b, vs, h1, h2, h3, _⟩ := r.cellR n S[n] (List.getElem?_eq_getElem hs)
  rw [List.getElem?_eq_getElem hn, e] at h1
  cases h1
  exact ⟨h2, let ⟨u, hu, _⟩ := h3.some; ⟨u, hu⟩⟩
def Runs (G : Gd) (F : Hp) (J : It) (ds : List D) : Prop := ∀ (i : Nat) (F2 H2 : Hp), Le F F2 → (∀ a u, F2 a = some u → H2 a = some u) →
  (∀ d, ds[i]? = some d → J.go i H2 ∧ ∀ x H3, J.yld i H2 x H3 → ∃ F3, Grow F2 H2 F3 H3 ∧ R G F3 d x) ∧ (ds.length = i → J.stop i H2)
abbrev MI := En → Store → Option (List D × Store)
def mISeq (m : ME) : MI := fun env S => (m env S).bind fun p => match p.1 with
  | .d (.lst xs) => some (xs, p.2)
  | .d (.tup xs) => some (xs, p.2)
  | _ => none
def dRange (lo : Int) (n : Nat) : List D := (List.range n).map fun (i : Nat) => .int (lo + (i : Int))
def mIRng1 (m : MA) : MI := fun env S => (m env S).bind fun p => match p.1 with
  | [.d (.int n)] => if -1000000 < n ∧ n < 1000000 then some (dRange 0 n.toNat, p.2) else none
  | _ => none
def dEnum : Nat → List D → List D
  | _, [] => []
  | n, x :: xs => .tup [.int (n : Int), x] :: dEnum (n + 1) xs
def dZip : List D → List D → List D
  | x :: xs, y :: ys => .tup [x, y] :: dZip xs ys
  | _, _ => []
def mIEnum (m : MA) : MI := fun env S => (m env S).bind fun p => match p.1 with
  | [.d (.lst xs)] => some (dEnum 0 xs, p.2)
  | _ => none
def mIZip (m : MA) : MI := fun env S => (m env S).bind fun p => match p.1 with
  | [.d (.lst xs), .d (.lst ys)] => some (dZip xs ys, p.2)
  | _ => none
inductive Tg where
  | nm (i : Nat)
  | tup (is : List Nat)
  | pr (i : Nat) (is : List Nat)
def bindAll : List Nat → List D → En → Option En
  | [], [], env => some env
  | i :: is, x :: xs, env => if i < env.length then bindAll is xs (env.set i (some (.d x))) else none
  | _, _, _ => none
def bindT : Tg → En → D → Option En
  | .nm i, env, x => if i < env.length then some (env.set i (some (.d x))) else none
  | .tup is, env, .tup xs => bindAll is xs env
  | .pr i is, env, .tup [x, .tup xs] => if i < env.length then bindAll is xs (env.set i (some (.d x))) else none
  | _, _, _ => none
def goFor (t : Tg) (body : MS) : List D → MS
  | [], env, S => some (.nx, env, S)
  | x :: xs, env, S => (bindT t env x).bind fun env1 => (body env1 S).bind fun p => match p.1 with
    | .nx => goFor t body xs p.2.1 p.2.2
    | .cont => goFor t body xs p.2.1 p.2.2
    | .brk => some (.nx, p.2.1, p.2.2)
    | .ret w => some (.ret w, p.2.1, p.2.2)
    | .exc c x => some (.exc c x, p.2.1, p.2.2)
def mFor (mi : MI) (t : Tg) (body : MS) : MS := fun env S => (mi env S).bind fun p => goFor t body p.1 env p.2
def wipeE (env : En) : List Nat → En
  | [] => env
  | v :: vs => (wipeE env vs).set v none
def mYes : MT := fun _ S => some (true, S)
def goLc (t : Tg) (mt : MT) (me : ME) (ew : En) : List D → Store → List D → Option (List D × Store)
  | [], S, acc => some (acc, S)
  | x :: xs, S, acc => (bindT t ew x).bind fun env1 => (mt env1 S).bind fun p => if p.1 = true then
      (me env1 p.2).bind fun q => match q.1 with
        | .d y => if acc.length < cap then goLc t mt me ew xs q.2 (acc ++ [y]) else none
        | _ => none
    else goLc t mt me ew xs p.2 acc
def mLc (mi : MI) (t : Tg) (mt : MT) (me : ME) (vs : List Nat) : ME := fun env S => (mi env S).bind fun p => (goLc t mt me (wipeE env vs) p.1 p.2 []).map fun q => (.d (.lst q.1), q.2)
end Zf
namespace Zf
open PySem PySem.Spec PyProof.Rows L2
abbrev MF := List W → Store → Option (W × Store)
def unBor : W → W
  | .bor xs => .own xs
  | .bd xs => .od xs
  | .slb c xs => .slf c xs
  | w => w
def isArg : W → Bool
  | .d _ => true
  | .r _ => true
  | .c _ _ => true
  | .ev _ _ _ => true
  | _ => false
def mFn (k n : Nat) (body : MS) : MF := fun as S => if as.length = k ∧ as.all isArg = true then (body (as.map some ++ List.replicate (n - k) none) S).bind fun p => match p.1 with
  | .nx => some (.d .non, p.2.2)
  | .ret w => some (unBor w, p.2.2)
  | _ => none else none
def CeG (G : Gd) (outer : List Env) (H : Hp) (s : Shared) (F : Hp) (θ : Th) (w : W) (S' : Store) (r : Result) (s' : Shared) : Prop := match r with
  | .ok (.ret u) => ∃ v H' F' θ' f, s'.os = s.os ∧ AllBare s'.gens ∧ Un (frs outer) [] H H' s.heap s'.heap ∧ HOk G.P G.w H' s'.heap ∧ RelV v u ∧ Tr F θ H F' θ' H' ∧ (∀ a u, F' a = some u → H' a = some u) ∧ RS G F' θ' H' S' ∧ Rr G H [] F' θ' H' w v f
  | _ => False
structure FnG (G : Gd) (mg : Str → Option Value) (base : Heap) (k : Nat) (f : Addr) (fd : FuncData) (ps : List Str) (m : MF) : Prop where
  len : ∀ as S r, m as S = some r → as.length = ps.length
  run : ∀ (A : Around) (outer : List Env) (s : Shared) (H : Hp) (args : Args) (us : List Value) (vs : List V) (F : Hp) (θ : Th) (S : Store) (as : List W) (w : W) (S' : Store), Room k A → A.guards = some [] → Env0 G.P G.w G.K mg base A outer s H →
    BindsTo s fd args (ps.zip us) → Vals vs us → (∀ a u, F a = some u → H a = some u) → RS G F θ H S → RWs G F θ H as vs [] → m as S = some (w, S') → codeAny (model G.P G.w) A (.call (.ref f) args) (CeG G outer H s F θ w S') s
theorem FnG.mono {G : Gd} {mg : Str → Option Value} {base : Heap} {j k : Nat} {f : Addr} {fd : FuncData} {ps : List Str} {m : MF} (F : FnG G mg base j f fd ps m) (h : j ≤ k) : FnG G mg base k f fd ps m :=
  ⟨F.len, fun A outer s H args us vs F0 θ S as w S' hr => F.run A outer s H args us vs F0 θ S as w S' (hr.mono h)⟩
def mCall (m : MF) (ms : MA) : ME := fun env S => (ms env S).bind fun p => if p.1.all isArg = true then m p.1 p.2 else none
abbrev OpN := Store → List W → Option W
structure SimC (G : Gd) (r : List V → Hp → VK → Prop) (g : OpN) : Prop where
  run : ∀ {F θ H0 H S env σ fp ws vs z Q}, St G F θ H S env σ fp → RsA G H0 fp F θ H ws vs → g S ws = some z → (∀ a u, H0 a = some u → ∃ u', H a = some u') → Kt G F θ H0 H S env σ fp z Q → r vs H Q
def mCB (g : OpN) (ms : MA) : ME := fun env S => (ms env S).bind fun p => (g p.2 p.1).map fun w => (w, p.2)
theorem SimC.or {G : Gd} {r r' : List V → Hp → VK → Prop} {g g' : OpN} (h : SimC G r g) (h' : SimC G r' g') : SimC G (fun xs H Q => r xs H Q ∨ r' xs H Q) (fun S ws => (g S ws).or (g' S ws)) := by
  refine ⟨fun {F θ H0 H S env σ fp ws vs z Q} st rx e l k => ?_⟩
  cases q : g S ws with
  | some w =>
    have e' : w = z := by simpa [q] using e
    subst e'
    exact .inl (h.run st rx q l k)
  | none =>
    have e' : g' S ws = some z := by simpa [q] using e
    exact .inr (h'.run st rx e' l k)
def g1 (g : Store → W → Option W) : OpN := fun S ws => match ws with
  | [w] => g S w
  | _ => none
def gLen (S : Store) (w : W) : Option W := match w with
  | .d (.str z) => if z.length ≤ cap then some (.d (.int z.length)) else none
  | w => match vT w with
    | some xs => some (.d (.int xs.length))
    | none => (vL S w).map fun xs => .d (.int xs.length)
def gAbs (_ : Store) (w : W) : Option W := match w with
  | .d (.int i) => some (.d (.int (if i < 0 then -i else i)))
  | _ => none
def gInt1 (_ : Store) (w : W) : Option W := match w with
  | .d (.int i) => some (.d (.int i))
  | .d (.bl b) => some (.d (.int (if b then 1 else 0)))
  | _ => none
def gList (S : Store) (w : W) : Option W := (vSeq S w).map fun xs => .d (.lst xs)
def tyD (S : Store) (w : W) : Option String := match w with
  | .d .non => some "NoneType"
  | .d (.bl _) => some "bool"
  | .d (.int _) => some "int"
  | .d (.str _) => some "str"
  | .d (.lst _) => some "list"
  | .d (.tup _) => some "tuple"
  | .d (.dct _) => some "dict"
  | .own _ => some "list"
  | .bor _ => some "list"
  | .od _ => some "dict"
  | .bd _ => some "dict"
  | .r n => (S[n]?).map fun _ => "list"
  | _ => none
def isTy (t T : String) : Bool := t == T || (t == "bool" && T == "int")
def asked : List String := ["bool", "int", "str", "list", "tuple", "dict"]
def mIsi (T : String) (m : ME) : ME := fun env S => (m env S).bind fun p => if asked.contains T = true then (tyD p.2 p.1).map fun t => (.d (.bl (isTy t T)), p.2) else none
def mIsi2 (T T' : String) (m : ME) : ME := fun env S => (m env S).bind fun p => if asked.contains T = true ∧ asked.contains T' = true then (tyD p.2 p.1).map fun t => (.d (.bl (isTy t T || isTy t T')), p.2) else none
def setIx (S : Store) (o i w : W) : Option Store := match o, i with
  | .r n, .d (.int k) => (S[n]?).bind fun xs => (ixN xs.length k).bind fun j => if isArg w = true then some (S.set n (xs.set j w)) else none
  | _, _ => none
def mSetIx (mo mi me : ME) : MS := fun env S => (me env S).bind fun p => (mo env p.2).bind fun q => (mi env q.2).bind fun r => (setIx r.2 q.1 r.1 p.1).map fun S' => (.nx, env, S')
def mLstO (m : MA) : ME := fun env S => (m env S).bind fun p => if p.1.all isArg = true ∧ p.1.length ≤ cap then some (.own p.1, p.2) else none
def mMutE (mo : ME) (ms : MA) (g : Store → List W → List W → Option (List W)) : MS := fun env S => (mo env S).bind fun o => match o.1 with
  | .r n => (ms env o.2).bind fun p => if p.1.all isArg = true then (p.2[n]?).bind fun xs => (g p.2 xs p.1).bind fun zs => some (.nx, env, p.2.set n zs) else none
  | _ => none
def mPubE (m : ME) : ME := fun env S => (m env S).bind fun p => match p.1 with
  | .own xs => if xs.all isArg = true then some (.r p.2.length, p.2 ++ [xs]) else none
  | _ => none
def mNeg (m : ME) : ME := fun env S => (m env S).bind fun p => match p.1 with
  | .d (.int i) => some (.d (.int (-i)), p.2)
  | _ => none
structure Kn (G : Gd) (mg : Str → Option Value) (base : Heap) (x : Str) (k : Nat) (ps : List Str) (m : MF) : Prop where
  ex : ∃ f fd, FnG G mg base k f fd ps m ∧ mg x = some (.ref f) ∧ PySem.W.keepIn G.K (.ref f) = true ∧ Binds G.K fd ps []
theorem Kn.mono {G : Gd} {mg : Str → Option Value} {base : Heap} {x : Str} {j k : Nat} {ps : List Str} {m : MF} (h : Kn G mg base x j ps m) (l : j ≤ k) : Kn G mg base x k ps m := by
  obtain ⟨f, fd, a, b⟩ := h.ex
  exact ⟨f, fd, a.mono l, b⟩
theorem FnG.none {G : Gd} {mg : Str → Option Value} {base : Heap} {k : Nat} {f : Addr} {fd : FuncData} {ps : List Str} : FnG G mg base k f fd ps (fun _ _ => Option.none) :=
  ⟨by intros; contradiction, by intros; contradiction⟩
end Zf
namespace Zf
open PySem L2
end Zf
set_option maxHeartbeats 2000000
namespace Zf
open PySem PySem.Spec PyProof.Rows L2
def SysK (K : PySem.W.Frag) : Prop := ∃ o, K.lookup sysModules = some o ∧ o.cls = .type "dict"
inductive Src where
  | ds (xs : List D)
  | cel (n : Nat)
def nxt (S : Store) (i : Nat) : Src → Option (Option W)
  | .ds xs => match xs[i]? with
    | some d => some (some (.d d))
    | none => if xs.length = i then some none else none
  | .cel n => (S[n]?).bind fun ys => match ys[i]? with
    | none => some none
    | some w => if isArg w = true then some (some w) else none
def Src.size (S : Store) : Src → Nat
  | .ds xs => xs.length
  | .cel n => (S.getD n []).length
def Ln (θ : Th) (H H' : Hp) : Prop := ∀ a ∈ θ, ∀ u, H a = some u → ∃ u', H' a = some u' ∧ kdO u' = kdO u
theorem Ln.trans {θ θ' : Th} {H H1 H2 : Hp} (a : Ln θ H H1) (b : Ln θ' H1 H2) (h : ∃ m, θ' = θ ++ m) : Ln θ H H2 := fun x hx u hu => by
  obtain ⟨u1, h1, k1⟩ := a x hx u hu
  obtain ⟨m, rfl⟩ := h
  obtain ⟨u2, h2, k2⟩ := b x (List.mem_append_left _ hx) u1 h1
  exact ⟨u2, h2, k2.trans k1⟩
def RunsW (G : Gd) (F : Hp) (θ : Th) (H : Hp) (J : It) (src : Src) : Prop := ∀ (i : Nat) (F2 : Hp) (θ2 : Th) (H2 : Hp) (S2 : Store), Le F F2 → (∃ m, θ2 = θ ++ m) → Ln θ H H2 → (∀ a u, F2 a = some u → H2 a = some u) → RS G F2 θ2 H2 S2 →
  (∀ w, nxt S2 i src = some (some w) → isArg w = true ∧ J.go i H2 ∧ ∀ x H3, J.yld i H2 x H3 → ∃ F3, Grow F2 H2 F3 H3 ∧ RW G F3 θ2 H3 w x []) ∧ (nxt S2 i src = some none → J.stop i H2)
theorem Runs.w {G : Gd} {F : Hp} {θ : Th} {H : Hp} {J : It} {ds : List D} (r : Runs G F J ds) : RunsW G F θ H J (.ds ds) := fun i F2 θ2 H2 S2 le _ _ sub _ => by
  obtain ⟨h1, h2⟩ := r i F2 H2 le sub
  refine ⟨fun w e => ?_, fun e => ?_⟩
  · simp only [nxt] at e
    split at e
    · rename_i d e1
      cases e
      obtain ⟨g, y⟩ := h1 d e1
      refine ⟨rfl, g, fun x H3 q => ?_⟩
      obtain ⟨F3, g3, r3⟩ := y x H3 q
      exact ⟨F3, g3, r3, rfl⟩
    · split at e
      · cases e
      · cases e
  · simp only [nxt] at e
    split at e
    · cases e
    · split at e
      · rename_i hl
        exact h2 hl
      · cases e
def mFrzE (m : ME) : ME := fun env S => (m env S).bind fun p => match p.1 with
  | .own xs => (asDs xs).map fun ds => (.d (.lst ds), p.2)
  | _ => none
def mPar (i j : Nat) (ms : MA) : MS := fun env S => (ms env S).bind fun p => match p.1 with
  | [x, y] => if isArg x = true ∧ isArg y = true ∧ i < env.length ∧ j < env.length then some (.nx, (env.set i (some x)).set j (some y), p.2) else none
  | _ => none
structure Eb where
  b : List (PySem.W.Frag → Bool)
  fc : List He.DefD := []
  pr : List He.DefD := []
def prG (K : PySem.W.Frag) (p : Str × Option Str) : Addr := match PySem.W.recIn K (He.fAd K p) "property" with
  | some (.ref g :: _) => g
  | _ => 0
def prF (K : PySem.W.Frag) (d : He.DefD) : He.FnW := match K.lookup (prG K d.at_) with
  | some ⟨_, _, .func fd, _⟩ => some (fd.name, fd.qualname, fd.params, fd.body, fd.scope, fd.globals, fd.closure, fd.builtins)
  | _ => none
def cutFn : He.FnW → Option (Str × Str × Arguments × FuncBody × Scope × Addr × List Str × Addr)
  | some (a, b, c, d, e, f, g, h) => some (a, b, c, d, e, f, g.map (·.1), h)
  | none => none
def fnC (K : PySem.W.Frag) (d : He.DefD) : Option (Str × Str × Arguments × FuncBody × Scope × Addr × List Str × Addr) := cutFn (He.fnW K d.at_)
def fnCv (d : He.DefD) : Option (Str × Str × Arguments × FuncBody × Scope × Addr × List Str × Addr) := some (d.name, d.qual, d.params, .stmts d.body, d.scope, mainGlobals, ["__class__"], builtinsNs)
abbrev AlZ : Type := ((He.AlT × List Bool) × List (Option (Str × Str × Arguments × FuncBody × Scope × Addr × List Str × Addr))) × List He.FnW
def obsZ (fa : List He.Fa) (fn : List He.DefD) (ts : List He.Tab) (eb : Eb) (K : PySem.W.Frag) : AlZ := (((He.obsT fa fn ts K, eb.b.map fun b => b K), eb.fc.map (fnC K)), eb.pr.map (prF K))
def valZ (fn : List He.DefD) (ts : List He.Tab) (eb : Eb) (w : World) : AlZ := (((He.valT fn ts w, eb.b.map fun _ => true), eb.fc.map fnCv), eb.pr.map He.DefD.val)
def SaysZ (fa : List He.Fa) (fn : List He.DefD) (ts : List He.Tab) (eb : Eb) (w : World) (K : PySem.W.Frag) : Prop := obsZ fa fn ts eb K = valZ fn ts eb w
section
variable {fa : List He.Fa} {fn : List He.DefD} {ts : List He.Tab} {eb : Eb} {w : World} {K : PySem.W.Frag}
theorem SaysZ.t (c : SaysZ fa fn ts eb w K) : He.SaysT fa fn ts w K := congrArg (fun z : AlZ => z.1.1.1) c
theorem SaysZ.d (c : SaysZ fa fn ts eb w K) : He.SaysD fa fn K := He.SaysT.d c.t
theorem SaysZ.ex (c : SaysZ fa fn ts eb w K) (i : Nat) {b : PySem.W.Frag → Bool} (h : eb.b[i]? = some b := by rfl) : b K = true := by
  have e : eb.b.map (fun b => b K) = eb.b.map fun _ => true := congrArg (fun z : AlZ => z.1.1.2) c
  have e2 : (eb.b.map fun b => b K)[i]? = (eb.b.map fun _ => true)[i]? := by rw [e]
  rw [List.getElem?_map, List.getElem?_map, h] at e2
  exact Option.some.inj e2
theorem SaysZ.fc (c : SaysZ fa fn ts eb w K) (i : Nat) {d : He.DefD} (h : eb.fc[i]? = some d := by rfl) : fnC K d = fnCv d := by
  have e : eb.fc.map (fnC K) = eb.fc.map fnCv := congrArg (fun z : AlZ => z.1.2) c
  have e2 : (eb.fc.map (fnC K))[i]? = (eb.fc.map fnCv)[i]? := by rw [e]
  rw [List.getElem?_map, List.getElem?_map, h] at e2
  exact Option.some.inj e2
theorem SaysZ.pr (c : SaysZ fa fn ts eb w K) (i : Nat) {d : He.DefD} (h : eb.pr[i]? = some d := by rfl) : prF K d = d.val := by
  have e : eb.pr.map (prF K) = eb.pr.map He.DefD.val := congrArg (fun z : AlZ => z.2) c
  have e2 : (eb.pr.map (prF K))[i]? = (eb.pr.map He.DefD.val)[i]? := by rw [e]
  rw [List.getElem?_map, List.getElem?_map, h] at e2
  exact Option.some.inj e2
end
def sysB (K : PySem.W.Frag) : Bool := match K.lookup sysModules with
  | some o => decide (o.cls = .type "dict")
  | none => false
structure Hd (fa : List He.Fa) (fn : List He.DefD) (ts : List He.Tab) (eb : Eb) (G : Gd) (mg : Str → Option Value) (base : Heap) : Prop where
  kin : G.K.In base
  ns : base.Ns mainGlobals mg
  z : SaysZ fa fn ts eb G.w G.K
  sys : SysK G.K
section
variable {fa : List He.Fa} {fn : List He.DefD} {ts : List He.Tab} {eb : Eb} {G : Gd} {mg : Str → Option Value} {base : Heap}
theorem Hd.says (h : Hd fa fn ts eb G mg base) : He.SaysD fa fn G.K := h.z.d
theorem Hd.glo (h : Hd fa fn ts eb G mg base) (i : Nat) {x : Str} (e : fa[i]? = some (.glo x) := by rfl) : mg x = some (.ref (He.ga G.K x)) := He.glo_ok h.kin h.ns (h.says.fact i e)
theorem Hd.free (h : Hd fa fn ts eb G mg base) (i : Nat) {x : Str} (e : fa[i]? = some (.free x) := by rfl) : mg x = none := He.free_ok h.kin h.ns (h.says.fact i e)
end
def mInK (neg : Bool) (ks : List Str) (m : ME) : ME := fun env S => (m env S).bind fun p => match p.1 with
  | .d (.str z) => some (.d (.bl (neg != ks.contains z)), p.2)
  | _ => none
def HasKeys (K : PySem.W.Frag) (a : Addr) (ks : List Str) : Prop := ∀ z : Str, ∃ r, PySem.W.nsIn K a z = some r ∧ r.isSome = ks.contains z
theorem keys_find {P : Params} : ∀ {l : List DictEntry} {ks : List Str}, l.map He.keyOf = He.keysIn P ks → ∀ z, (l.find? (·.key.isStr z)).isSome = ks.contains z ∧ l.any (·.refKey) = false
  | [], ks, h, z => by
    have e : ks = [] := by simpa [He.keysIn] using h.symm
    subst e
    exact ⟨rfl, rfl⟩
  | e :: r, [], h, z => by cases h
  | e :: r, k :: ks, h, z => by
    have h1 : He.keyOf e :: r.map He.keyOf = some (k, PyData.keyHash P k) :: He.keysIn P ks := h
    injection h1 with h2 h3
    obtain ⟨i1, i2⟩ := keys_find h3 z
    unfold He.keyOf at h2
    split at h2
    · rename_i x t q
      obtain ⟨h5, h6⟩ := Prod.mk.inj (Option.some.inj h2)
      subst h5
      have ek : e.key.isStr z = (x == z) := by
        rw [q]
        rfl
      refine ⟨?_, ?_⟩
      · rw [List.find?_cons, ek, List.contains_cons]
        cases c : x == z with
        | true =>
          have : z = x := (beq_iff_eq.mp c).symm
          simp [this]
        | false =>
          have : (z == x) = false := by
            cases d : z == x with
            | false => rfl
            | true =>
              rw [beq_iff_eq.mp d] at c
              simp at c
          rw [this]
          exact i1
      · rw [List.any_cons, i2, Bool.or_false]
        unfold DictEntry.refKey
        rw [q]
    · cases h2
theorem hasKeys_of {K : PySem.W.Frag} {w : World} {a : Addr} {ks : List Str} (h : He.dicW K a = some (He.keysIn w.params ks)) : HasKeys K a ks := fun z => by
  unfold He.dicW at h
  split at h
  · rename_i c es n sl q
    split at h
    · obtain ⟨h1, h2⟩ := keys_find (Option.some.inj h) z
      unfold PySem.W.nsIn
      rw [q]
      dsimp only
      cases e : es.toList.find? (·.key.isStr z) with
      | some d =>
        rw [e] at h1
        exact ⟨_, rfl, h1⟩
      | none =>
        rw [e] at h1
        rw [h2]
        exact ⟨_, rfl, h1⟩
    · cases h
  · cases h
theorem SaysZ.keys {fa : List He.Fa} {fn : List He.DefD} {ts : List He.Tab} {eb : Eb} {w : World} {K : PySem.W.Frag} (c : SaysZ fa fn ts eb w K) (i : Nat) {t : He.Tab} (h : ts[i]? = some t := by rfl) : HasKeys K (t.1 K) t.2 := by
  have e : ts.map (fun t => He.dicW K (t.1 K)) = ts.map fun t => some (He.keysIn w.params t.2) := congrArg (fun z : AlZ => z.1.1.1.2) c
  have e2 : (ts.map fun t => He.dicW K (t.1 K))[i]? = (ts.map fun t => some (He.keysIn w.params t.2))[i]? := by rw [e]
  rw [List.getElem?_map, List.getElem?_map, h] at e2
  exact hasKeys_of (Option.some.inj e2)
def asInts : List D → Option (List Int)
  | [] => some []
  | .int x :: r => (asInts r).map (x :: ·)
  | _ :: _ => none
def vInts (S : Store) (w : W) : Option (List Int) := ((vL S w).bind asDs).bind asInts
def maxI : Int → List Int → Int
  | x, [] => x
  | x, y :: r => maxI (if x < y then y else x) r
def maxOr (d : Int) : List Int → Int
  | [] => d
  | x :: r => maxI x r
def mMaxD (d : Int) (m : ME) : ME := fun env S => (m env S).bind fun p => (vInts p.2 p.1).map fun ns => (.d (.int (maxOr d ns)), p.2)
def dval (kvs : List (Key × D)) (k : Key) : Option D := (kvs.find? fun kv => decide (kv.1 = k)).map (·.2)
def dkey : W → Option Key
  | .d (.str z) => some (.inr z)
  | .d (.int i) => some (.inl i)
  | _ => none
theorem Rk.val {G : Gd} {F : Hp} (k : Key) : ∀ {kvs : List (Key × D)} {vs : List (Key × V)}, Rk G F kvs vs → match dval kvs k with
    | some d => ∃ v, valV vs k = some v ∧ R G F d v
    | none => valV vs k = none
  | [], _, h => by
    rw [show _ = [] from h]
    rfl
  | (k', x) :: kvs, _, ⟨v, r, h1, h2, h3⟩ => by
    have ih := Rk.val k h3
    subst h1
    unfold dval at ih ⊢
    rw [List.find?_cons]
    by_cases c : k' = k
    · subst c
      simp only [decide_true, Option.map_some]
      exact ⟨v, valV_pos rfl, h2⟩
    · simp only [decide_eq_false c]
      rw [valV_neg (p := (k', v)) c]
      exact ih
def mDix (mo mi : ME) : ME := fun env S => (mo env S).bind fun p => (mi env p.2).bind fun q => match p.1 with
  | .d (.dct kvs) => (dkey q.1).bind fun k => (dval kvs k).map fun d => (.d d, q.2)
  | _ => none
section
variable {X : Cx} {G : Gd} {a b e : Expr} {ma mb mc : ME} {pos apos cpos : Pos} {k : Nat}
def mDget2 (mo mi mx : ME) : ME := fun env S => (mo env S).bind fun p => (mi env p.2).bind fun q => (mx env q.2).bind fun r => match p.1, r.1 with
  | .d (.dct kvs), .d x => (dkey q.1).map fun k => (.d ((dval kvs k).getD x), r.2)
  | _, _ => none
end
theorem Rk.keys {G : Gd} {F : Hp} : ∀ {kvs : List (Key × D)} {vs : List (Key × V)}, Rk G F kvs vs → vs.map (·.1) = kvs.map (·.1)
  | [], _, h => by
    rw [show _ = [] from h]
    rfl
  | (k, x) :: r, _, ⟨v, r', h1, h2, h3⟩ => by
    rw [h1, List.map_cons, List.map_cons, Rk.keys h3]
theorem Rk.len {G : Gd} {F : Hp} {kvs : List (Key × D)} {vs : List (Key × V)} (h : Rk G F kvs vs) : vs.length = kvs.length := by
  have := congrArg List.length h.keys
  simpa using this
def putD (kvs : List (Key × D)) (k : Key) (v : D) : List (Key × D) :=
  if (kvs.any fun kv => decide (kv.1 = k)) = true then kvs.map (fun kv => if kv.1 = k then (kv.1, v) else kv) else kvs ++ [(k, v)]
def mergeD (kvs more : List (Key × D)) : List (Key × D) := more.foldl (fun acc kv => putD acc kv.1 kv.2) kvs
theorem Rk.any {G : Gd} {F : Hp} (k : Key) {kvs : List (Key × D)} {vs : List (Key × V)} (h : Rk G F kvs vs) : (vs.any fun kv => decide (kv.1 = k)) = (kvs.any fun kv => decide (kv.1 = k)) := by
  have e : ∀ {α : Type} (l : List (Key × α)), (l.any fun kv => decide (kv.1 = k)) = ((l.map (·.1)).any fun q => decide (q = k)) := fun l => by
    rw [List.any_map]
    rfl
  rw [e, e, h.keys]
def bindAllW : List Nat → List W → En → Option En
  | [], [], env => some env
  | i :: is, x :: xs, env => if i < env.length ∧ isArg x = true then bindAllW is xs (env.set i (some x)) else none
  | _, _, _ => none
def mUnp (is : List Nat) (ms : MA) : MS := fun env S => (ms env S).bind fun p => if p.1.length ≤ cap then (bindAllW is p.1 env).map fun env' => (.nx, env', p.2) else none
def asKeys : List D → Option (List Key)
  | [] => some []
  | .str x :: r => (asKeys r).map (.inr x :: ·)
  | .int x :: r => (asKeys r).map (.inl x :: ·)
  | _ :: _ => none
theorem Rk.zip {G : Gd} {F : Hp} : ∀ {ks : List Key} {ds : List D} {vs : List V}, Rs G F ds vs → Rk G F (ks.zip ds) (ks.zip vs)
  | [], _, _, _ => by
    rw [List.zip_nil_left, List.zip_nil_left]
    rfl
  | _ :: _, [], _, h => by
    rw [show _ = [] from h, List.zip_nil_right, List.zip_nil_right]
    rfl
  | k :: ks, d :: ds, _, ⟨v, r, h1, h2, h3⟩ => by
    rw [h1, List.zip_cons_cons, List.zip_cons_cons]
    exact ⟨v, _, rfl, h2, Rk.zip h3⟩
def mDictZip (ms : MA) : ME := fun env S => (ms env S).bind fun p => match p.1 with
  | [a, b] => (((vL p.2 a).bind asDs).bind asKeys).bind fun ks => ((vL p.2 b).bind asDs).map fun ds => (.d (.dct (mergeD [] (ks.zip ds))), p.2)
  | _ => none
end Zf
set_option maxHeartbeats 4000000
namespace Zn
open PySem PySem.Spec PyProof.Rows L2
section
variable {P : Program} {w : World} {A : Around} {E : Value → Shared → Prop} {s : Shared} {z TI TO i1 i2 l1 l2 T : Addr} {k1 k2 : Nat} {xs ys : Array Value} {x y a b f0 : Value} {f : Bool}
abbrev ZZ (h : Heap) (z TI TO : Addr) (f0 : Value) (f : Bool) : Prop := h.get? z = some { cls := .type "zip", dict := none, data := .fields #[f0, .bool f, .bool false, .ref TI, .ref TO], slots := #[] }
theorem stop {Q : Fin → Shared → Prop} (calm : A.handled = none) (D : ZipApart z TI TO i1 i2 l1 l2) (hz : ZZ s.heap z TI TO f0 f) (free : ∀ {R : Bool → Shared → Prop}, R true s → wpAny (model P w) A (Builtin.SmallTypes.ownedTupleIsFree (.ref z)) R E s)
    (hI : IsPair s.heap TI (.ref i1) (.ref i2)) (hO : IsPair s.heap TO a b) (n1 : s.heap.IsListIter i1 l1 k1) (n2 : s.heap.IsListIter i2 l2 k2) (g1 : s.heap.IsList l1 xs) (g2 : s.heap.IsList l2 ys) (fin : xs[k1]? = none ∨ ys[k2]? = none)
    (q : ∀ h' e, (∀ c o, c ≠ z → c ≠ TO → c ≠ i1 → c ≠ i2 → s.heap.get? c = some o → h'.get? c = some o) → (∃ o, h'.get? e = some o ∧ o.cls = .type "StopIteration") → E (.ref e) { s with heap := h' }) :
    wpAny (model P w) A (Builtin.«zip.__next__» ⟨[.ref z], []⟩) Q E s := by
  refine wpAny_bind (m := field (.ref z) 2) (wpAny_field hz rfl (x := .bool false) rfl ?_)
  refine wpAny_bind (m := field (.ref z) 3) (wpAny_field hz rfl (x := .ref TI) rfl (wpAny_bind (wpAny_seqItems hI rfl ?_)))
  refine wpAny_bind (m := Builtin.SmallTypes.ownedTupleIsFree (.ref z)) (free ?_)
  simp only [if_true]
  refine wpAny_bind (wpAny_rule (wpAny_bind (wpAny_field hz rfl (x := .ref TO) rfl (wpAny_bind (wpAny_setField_rec hz (by simp) fun m1 (c1 : ZZ m1 z TI TO .ellipsis f) b1 => ?_)))))
  refine wpAny_bind ?_
  simp only [List.zipIdx_cons, List.zipIdx_nil, List.forIn_cons, List.forIn_nil]
  refine wpAny_bind (wpAny_bind (wpAny_onRaise (?_ : wpAny _ _ (Builtin.SmallTypes.nextOf (.ref i1) >>= _) _ _ _)))
  have apart : ∀ {m : Heap} {e : Addr}, ZZ m z TI TO .ellipsis f → (∃ o, m.get? e = some o ∧ o.cls = .type "StopIteration") → e ≠ z := fun {m e} c he d => by
    obtain ⟨o, ho, hc⟩ := he
    rw [d, c] at ho
    cases ho
    simp at hc
  cases hx : xs[k1]? with
  | none =>
    refine wpAny_bind (wpAny_nextOf_list_end calm (n1.extBut b1.extBut D.i1z) (g1.extBut b1.extBut D.l1z) hx fun m2 e b2 he => ?_)
    have c2 : ZZ m2 z TI TO .ellipsis f := b2 _ _ D.i1z.symm c1
    have ne := apart c2 he
    obtain ⟨o, ho, hc⟩ := he
    exact wpAny_setField_rec c2 (by simp) fun m3 _ b3 => q m3 e (fun c u d1 _ d3 _ t => b3.extBut _ _ d1 (b2 _ _ d3 (b1.extBut _ _ d1 t))) ⟨o, b3.extBut _ _ ne ho, hc⟩
  | some x =>
    have hy : ys[k2]? = none := by
      rcases fin with t | t
      · rw [hx] at t
        cases t
      · exact t
    refine wpAny_bind (wpAny_nextOf_list_item (n1.extBut b1.extBut D.i1z) (g1.extBut b1.extBut D.l1z) hx fun m2 u1 b2 => wpAny_pure ?_)
    have o2 : IsPair m2 TO a b := b2.extBut _ _ D.TOi1 (b1.extBut _ _ D.TOz hO)
    refine wpAny_bind (wpAny_seqItems o2 rfl (wpAny_bind (wpAny_updateSeq_pair o2 fun m3 o3 b3 => wpAny_bind (wpAny_letGo (wpAny_pure ?_)))))
    refine wpAny_bind (wpAny_bind (wpAny_onRaise (?_ : wpAny _ _ (Builtin.SmallTypes.nextOf (.ref i2) >>= _) _ _ _)))
    refine wpAny_bind (wpAny_nextOf_list_end calm (((n2.extBut b1.extBut D.i2z).extBut b2.extBut D.i12.symm).extBut b3.extBut D.TOi2.symm) (((g2.extBut b1.extBut D.l2z).extBut b2.extBut D.l2i1).extBut b3.extBut D.l2TO) hy fun m4 e b4 he => ?_)
    have c4 : ZZ m4 z TI TO .ellipsis f := b4 _ _ D.i2z.symm (b3.extBut _ _ D.TOz.symm (b2.extBut _ _ D.i1z.symm c1))
    have ne := apart c4 he
    obtain ⟨o, ho, hc⟩ := he
    exact wpAny_setField_rec c4 (by simp) fun m5 _ b5 => q m5 e (fun c u d1 d2 d3 d4 t => b5.extBut _ _ d1 (b4 _ _ d4 (b3.extBut _ _ d2 (b2.extBut _ _ d3 (b1.extBut _ _ d1 t))))) ⟨o, b5.extBut _ _ ne ho, hc⟩
end
end Zn
set_option maxHeartbeats 2000000
namespace Zf
open PySem PySem.Spec PyProof.Rows L2
end Zf
set_option maxHeartbeats 4000000
namespace Zf
open PySem PySem.Spec PyProof.Rows L2
@[simp] theorem vLT_t {S : Zf.Store} {n : Nat} : Zf.vLT S (.c .tup n) = S[n]? := rfl
@[simp] theorem vLT_d {S : Zf.Store} {x : Zf.D} : Zf.vLT S (.d x) = Zf.vL S (.d x) := rfl
@[simp] theorem vLT_r {S : Zf.Store} {n : Nat} : Zf.vLT S (.r n) = Zf.vL S (.r n) := rfl
@[simp] theorem vLT_o {S : Zf.Store} {xs : List Zf.W} : Zf.vLT S (.own xs) = Zf.vL S (.own xs) := rfl
@[simp] theorem vLT_b {S : Zf.Store} {xs : List Zf.W} : Zf.vLT S (.bor xs) = Zf.vL S (.bor xs) := rfl
def OkE (m : Option (W × Store)) (P : W → Store → Prop) : Prop := ∃ r, m = some r ∧ P r.1 r.2
def OkT (m : Option (Bool × Store)) (P : Bool → Store → Prop) : Prop := ∃ r, m = some r ∧ P r.1 r.2
def OkA (m : Option (List W × Store)) (P : List W → Store → Prop) : Prop := ∃ r, m = some r ∧ P r.1 r.2
def OkI (m : Option (List D × Store)) (P : List D → Store → Prop) : Prop := ∃ r, m = some r ∧ P r.1 r.2
def OkS (m : Option (Fl × En × Store)) (P : Fl → En → Store → Prop) : Prop := ∃ r, m = some r ∧ P r.1 r.2.1 r.2.2
theorem OkE.mono {m : Option (W × Store)} {P Q : W → Store → Prop} (h : OkE m P) (i : ∀ w S, P w S → Q w S) : OkE m Q := let ⟨r, a, b⟩ := h; ⟨r, a, i _ _ b⟩
theorem OkS.mono {m : Option (Fl × En × Store)} {P Q : Fl → En → Store → Prop} (h : OkS m P) (i : ∀ f e S, P f e S → Q f e S) : OkS m Q := let ⟨r, a, b⟩ := h; ⟨r, a, i _ _ _ b⟩
section
variable {env : En} {S : Store} {P : W → Store → Prop} {PT : Bool → Store → Prop} {PA : List W → Store → Prop} {PI : List D → Store → Prop} {PS : Fl → En → Store → Prop} {ma mb mc : ME} {t u : MT} {ms : MA} {a b : MS} {g : Op2} {i : Nat} {d : D}
theorem wp_d : OkE (mD d env S) P ↔ P (.d d) S := ⟨fun ⟨r, e, h⟩ => by cases e; exact h, fun h => ⟨_, rfl, h⟩⟩
theorem wp_var : OkE (mVar i env S) P ↔ ∃ w, env[i]? = some (some w) ∧ P (toBor w) S := by
  unfold mVar OkE
  constructor
  · rintro ⟨r, e, h⟩
    split at e
    · rename_i w hw
      cases e
      exact ⟨w, hw, h⟩
    · cases e
  · rintro ⟨w, hw, h⟩
    exact ⟨_, by rw [hw], h⟩
theorem wp_bin : OkE (mBin g ma mb env S) P ↔ OkE (ma env S) fun x S1 => OkE (mb env S1) fun y S2 => ∃ z, g S2 x y = some z ∧ P z S2 := by
  unfold mBin OkE
  constructor
  · rintro ⟨r, e, h⟩
    obtain ⟨p, e1, e⟩ := Option.bind_eq_some_iff.mp e
    obtain ⟨q, e2, e⟩ := Option.bind_eq_some_iff.mp e
    obtain ⟨z, e3, e4⟩ := Option.map_eq_some_iff.mp e
    cases e4
    exact ⟨p, e1, q, e2, z, e3, h⟩
  · rintro ⟨p, e1, q, e2, z, e3, h⟩
    exact ⟨(z, q.2), by rw [e1]; simp only [Option.bind_some]; rw [e2]; simp only [Option.bind_some]; rw [e3]; rfl, h⟩
theorem wp_tst : OkT (mTst ma env S) PT ↔ OkE (ma env S) fun w S' => ∃ k, w = .d (.bl k) ∧ PT k S' := by
  unfold mTst OkE OkT
  constructor
  · rintro ⟨r, e, h⟩
    obtain ⟨p, e1, e⟩ := Option.bind_eq_some_iff.mp e
    split at e
    · rename_i k hk
      cases e
      exact ⟨p, e1, k, hk, h⟩
    · cases e
  · rintro ⟨p, e1, k, hk, h⟩
    exact ⟨(k, p.2), by rw [e1]; simp only [Option.bind_some]; rw [hk], h⟩
theorem wp_andT : OkT (mAndT t u env S) PT ↔ OkT (t env S) fun k S' => if k = true then OkT (u env S') PT else PT false S' := by
  unfold mAndT OkT
  constructor
  · rintro ⟨r, e, h⟩
    obtain ⟨p, e1, e⟩ := Option.bind_eq_some_iff.mp e
    refine ⟨p, e1, ?_⟩
    split at e
    · rename_i hk
      rw [if_pos hk]
      exact ⟨r, e, h⟩
    · rename_i hk
      rw [if_neg hk]
      cases e
      exact h
  · rintro ⟨p, e1, h⟩
    split at h
    · rename_i hk
      obtain ⟨r, e, h⟩ := h
      exact ⟨r, by rw [e1]; simp only [Option.bind_some]; rw [if_pos hk]; exact e, h⟩
    · rename_i hk
      exact ⟨(false, p.2), by rw [e1]; simp only [Option.bind_some]; rw [if_neg hk], h⟩
theorem wp_orT : OkT (mOrT t u env S) PT ↔ OkT (t env S) fun k S' => if k = true then PT true S' else OkT (u env S') PT := by
  unfold mOrT OkT
  constructor
  · rintro ⟨r, e, h⟩
    obtain ⟨p, e1, e⟩ := Option.bind_eq_some_iff.mp e
    refine ⟨p, e1, ?_⟩
    split at e
    · rename_i hk
      rw [if_pos hk]
      cases e
      exact h
    · rename_i hk
      rw [if_neg hk]
      exact ⟨r, e, h⟩
  · rintro ⟨p, e1, h⟩
    split at h
    · rename_i hk
      exact ⟨(true, p.2), by rw [e1]; simp only [Option.bind_some]; rw [if_pos hk], h⟩
    · rename_i hk
      obtain ⟨r, e, h⟩ := h
      exact ⟨r, by rw [e1]; simp only [Option.bind_some]; rw [if_neg hk]; exact e, h⟩
theorem wp_notT : OkT (mNotT t env S) PT ↔ OkT (t env S) fun k S' => PT (!k) S' := by
  unfold mNotT OkT
  constructor
  · rintro ⟨r, e, h⟩
    obtain ⟨p, e1, e2⟩ := Option.map_eq_some_iff.mp e
    cases e2
    exact ⟨p, e1, h⟩
  · rintro ⟨p, e1, h⟩
    exact ⟨(!p.1, p.2), by rw [e1]; rfl, h⟩
theorem wp_if : OkE (mIf t ma mb env S) P ↔ OkT (t env S) fun k S' => if k = true then OkE (ma env S') P else OkE (mb env S') P := by
  unfold mIf OkE OkT
  constructor
  · rintro ⟨r, e, h⟩
    obtain ⟨p, e1, e⟩ := Option.bind_eq_some_iff.mp e
    refine ⟨p, e1, ?_⟩
    split at e
    · rename_i hk
      rw [if_pos hk]
      exact ⟨r, e, h⟩
    · rename_i hk
      rw [if_neg hk]
      exact ⟨r, e, h⟩
  · rintro ⟨p, e1, h⟩
    split at h
    · rename_i hk
      obtain ⟨r, e, h⟩ := h
      exact ⟨r, by rw [e1]; simp only [Option.bind_some]; rw [if_pos hk]; exact e, h⟩
    · rename_i hk
      obtain ⟨r, e, h⟩ := h
      exact ⟨r, by rw [e1]; simp only [Option.bind_some]; rw [if_neg hk]; exact e, h⟩
theorem wp_nil : OkA (mNil env S) PA ↔ PA [] S := ⟨fun ⟨r, e, h⟩ => by cases e; exact h, fun h => ⟨_, rfl, h⟩⟩
theorem wp_cons : OkA (mCons ma ms env S) PA ↔ OkE (ma env S) fun w S1 => OkA (ms env S1) fun ws S2 => PA (w :: ws) S2 := by
  unfold mCons OkE OkA
  constructor
  · rintro ⟨r, e, h⟩
    obtain ⟨p, e1, e⟩ := Option.bind_eq_some_iff.mp e
    obtain ⟨q, e2, e3⟩ := Option.map_eq_some_iff.mp e
    cases e3
    exact ⟨p, e1, q, e2, h⟩
  · rintro ⟨p, e1, q, e2, h⟩
    exact ⟨(p.1 :: q.1, q.2), by rw [e1]; simp only [Option.bind_some]; rw [e2]; rfl, h⟩
theorem wp_call {m : MF} : OkE (mCall m ms env S) P ↔ OkA (ms env S) fun ws S1 => ws.all isArg = true ∧ OkE (m ws S1) P := by
  unfold mCall OkE OkA
  constructor
  · rintro ⟨r, e, h⟩
    obtain ⟨p, e1, e⟩ := Option.bind_eq_some_iff.mp e
    split at e
    · rename_i hk
      exact ⟨p, e1, hk, r, e, h⟩
    · cases e
  · rintro ⟨p, e1, hk, r, e, h⟩
    exact ⟨r, by rw [e1]; simp only [Option.bind_some]; rw [if_pos hk]; exact e, h⟩
theorem wp_cb {f : OpN} : OkE (mCB f ms env S) P ↔ OkA (ms env S) fun ws S1 => ∃ z, f S1 ws = some z ∧ P z S1 := by
  unfold mCB OkE OkA
  constructor
  · rintro ⟨r, e, h⟩
    obtain ⟨p, e1, e⟩ := Option.bind_eq_some_iff.mp e
    obtain ⟨z, e2, e3⟩ := Option.map_eq_some_iff.mp e
    cases e3
    exact ⟨p, e1, z, e2, h⟩
  · rintro ⟨p, e1, z, e2, h⟩
    exact ⟨(z, p.2), by rw [e1]; simp only [Option.bind_some]; rw [e2]; rfl, h⟩
theorem wp_seq : OkS (mSeq a b env S) PS ↔ OkS (a env S) fun f e S' => match f with
    | .nx => OkS (b e S') PS
    | f => PS f e S' := by
  unfold mSeq OkS
  constructor
  · rintro ⟨r, e, h⟩
    obtain ⟨⟨f, en, S1⟩, e1, e⟩ := Option.bind_eq_some_iff.mp e
    refine ⟨_, e1, ?_⟩
    cases f with
    | nx => exact ⟨r, e, h⟩
    | _ =>
      cases e
      exact h
  · rintro ⟨⟨f, en, S1⟩, e1, h⟩
    rw [e1]
    cases f with
    | nx => exact h
    | _ => exact ⟨_, rfl, h⟩
theorem wp_next : OkS (mNext env S) PS ↔ PS .nx env S := ⟨fun ⟨r, e, h⟩ => by cases e; exact h, fun h => ⟨_, rfl, h⟩⟩
theorem wp_ifS : OkS (mIfS t a b env S) PS ↔ OkT (t env S) fun k S' => if k = true then OkS (a env S') PS else OkS (b env S') PS := by
  unfold mIfS OkS OkT
  constructor
  · rintro ⟨r, e, h⟩
    obtain ⟨p, e1, e⟩ := Option.bind_eq_some_iff.mp e
    refine ⟨p, e1, ?_⟩
    split at e
    · rename_i hk
      rw [if_pos hk]
      exact ⟨r, e, h⟩
    · rename_i hk
      rw [if_neg hk]
      exact ⟨r, e, h⟩
  · rintro ⟨p, e1, h⟩
    split at h
    · rename_i hk
      obtain ⟨r, e, h⟩ := h
      exact ⟨r, by rw [e1]; simp only [Option.bind_some]; rw [if_pos hk]; exact e, h⟩
    · rename_i hk
      obtain ⟨r, e, h⟩ := h
      exact ⟨r, by rw [e1]; simp only [Option.bind_some]; rw [if_neg hk]; exact e, h⟩
theorem wp_set : OkS (mSet i ma env S) PS ↔ OkE (ma env S) fun w S' => (i < env.length ∧ canSet w = true) ∧ PS .nx (env.set i (some w)) S' := by
  unfold mSet OkS OkE
  constructor
  · rintro ⟨r, e, h⟩
    obtain ⟨p, e1, e⟩ := Option.bind_eq_some_iff.mp e
    split at e
    · rename_i hk
      cases e
      exact ⟨p, e1, hk, h⟩
    · cases e
  · rintro ⟨p, e1, hk, h⟩
    exact ⟨_, by rw [e1]; simp only [Option.bind_some]; rw [if_pos hk], h⟩
theorem wp_ret : OkS (mRet ma env S) PS ↔ OkE (ma env S) fun w S' => PS (.ret w) env S' := by
  unfold mRet OkS OkE
  constructor
  · rintro ⟨r, e, h⟩
    obtain ⟨p, e1, e2⟩ := Option.map_eq_some_iff.mp e
    cases e2
    exact ⟨p, e1, h⟩
  · rintro ⟨p, e1, h⟩
    exact ⟨_, by rw [e1]; rfl, h⟩
theorem wp_setIx : OkS (mSetIx ma mb mc env S) PS ↔ OkE (mc env S) fun w S1 => OkE (ma env S1) fun o S2 => OkE (mb env S2) fun j S3 => ∃ S', setIx S3 o j w = some S' ∧ PS .nx env S' := by
  unfold mSetIx OkS OkE
  constructor
  · rintro ⟨r, e, h⟩
    obtain ⟨p, e1, e⟩ := Option.bind_eq_some_iff.mp e
    obtain ⟨q, e2, e⟩ := Option.bind_eq_some_iff.mp e
    obtain ⟨s, e3, e⟩ := Option.bind_eq_some_iff.mp e
    obtain ⟨S', e4, e5⟩ := Option.map_eq_some_iff.mp e
    cases e5
    exact ⟨p, e1, q, e2, s, e3, S', e4, h⟩
  · rintro ⟨p, e1, q, e2, s, e3, S', e4, h⟩
    exact ⟨_, by rw [e1]; simp only [Option.bind_some]; rw [e2]; simp only [Option.bind_some]; rw [e3]; simp only [Option.bind_some]; rw [e4]; rfl, h⟩
theorem wp_fn {k n : Nat} {as : List W} : OkE (mFn k n a as S) P ↔ (as.length = k ∧ as.all isArg = true) ∧ OkS (a (as.map some ++ List.replicate (n - k) none) S) fun f _ S' => match f with
    | .nx => P (.d .non) S'
    | .ret w => P (unBor w) S'
    | _ => False := by
  unfold mFn OkE OkS
  constructor
  · rintro ⟨r, e, h⟩
    split at e
    · rename_i hk
      obtain ⟨⟨f, en, S1⟩, e1, e⟩ := Option.bind_eq_some_iff.mp e
      refine ⟨hk, _, e1, ?_⟩
      cases f with
      | nx =>
        cases e
        exact h
      | ret w =>
        cases e
        exact h
      | brk => cases e
      | cont => cases e
      | exc _ _ => cases e
    · cases e
  · rintro ⟨hk, ⟨f, en, S1⟩, e1, h⟩
    rw [if_pos hk, e1]
    cases f with
    | nx => exact ⟨_, rfl, h⟩
    | ret w => exact ⟨_, rfl, h⟩
    | brk => exact h.elim
    | cont => exact h.elim
    | exc _ _ => exact h.elim
end
def OkO (m : Option (Option Int × Store)) (P : Option Int → Store → Prop) : Prop := ∃ r, m = some r ∧ P r.1 r.2
section
variable {env : En} {S : Store} {P : W → Store → Prop} {PT : Bool → Store → Prop} {PA : List W → Store → Prop} {PI : List D → Store → Prop} {PO : Option Int → Store → Prop} {PS : Fl → En → Store → Prop} {ma mb mc : ME} {t u : MT} {ms : MA} {a b : MS} {g : Op2} {i : Nat} {d : D} {l h : MO} {mi : MI}
theorem wp_frzE : OkE (mFrzE ma env S) P ↔ OkE (ma env S) fun w S' => ∃ xs ds, w = .own xs ∧ asDs xs = some ds ∧ P (.d (.lst ds)) S' := by
  unfold mFrzE OkE
  constructor
  · rintro ⟨r, e, h⟩
    obtain ⟨p, e1, e⟩ := Option.bind_eq_some_iff.mp e
    split at e
    · rename_i xs hk
      obtain ⟨ds, e2, e3⟩ := Option.map_eq_some_iff.mp e
      cases e3
      exact ⟨p, e1, xs, ds, hk, e2, h⟩
    · cases e
  · rintro ⟨p, e1, xs, ds, hk, e2, h⟩
    exact ⟨_, by rw [e1]; simp only [Option.bind_some]; rw [hk]; simp only []; rw [e2]; rfl, h⟩
theorem wp_pubE : OkE (mPubE ma env S) P ↔ OkE (ma env S) fun w S' => ∃ xs, w = .own xs ∧ xs.all isArg = true ∧ P (.r S'.length) (S' ++ [xs]) := by
  unfold mPubE OkE
  constructor
  · rintro ⟨r, e, h⟩
    obtain ⟨p, e1, e⟩ := Option.bind_eq_some_iff.mp e
    split at e
    · rename_i xs hk
      split at e
      · rename_i hA
        cases e
        exact ⟨p, e1, xs, hk, hA, h⟩
      · cases e
    · cases e
  · rintro ⟨p, e1, xs, hk, hA, h⟩
    exact ⟨_, by rw [e1]; simp only [Option.bind_some]; rw [hk]; simp only []; rw [if_pos hA], h⟩
theorem wp_lst : OkE (mLst ms env S) P ↔ OkA (ms env S) fun ws S' => ∃ xs, asDs ws = some xs ∧ xs.length ≤ cap ∧ P (.d (.lst xs)) S' := by
  unfold mLst OkE OkA
  constructor
  · rintro ⟨r, e, h⟩
    obtain ⟨p, e1, e⟩ := Option.bind_eq_some_iff.mp e
    obtain ⟨xs, e2, e⟩ := Option.bind_eq_some_iff.mp e
    split at e
    · rename_i hk
      cases e
      exact ⟨p, e1, xs, e2, hk, h⟩
    · cases e
  · rintro ⟨p, e1, xs, e2, hk, h⟩
    exact ⟨_, by rw [e1]; simp only [Option.bind_some]; rw [e2]; simp only [Option.bind_some]; rw [if_pos hk], h⟩
theorem wp_tup : OkE (mTup ms env S) P ↔ OkA (ms env S) fun ws S' => ∃ xs, asDs ws = some xs ∧ xs.length ≤ cap ∧ P (.d (.tup xs)) S' := by
  unfold mTup OkE OkA
  constructor
  · rintro ⟨r, e, h⟩
    obtain ⟨p, e1, e⟩ := Option.bind_eq_some_iff.mp e
    obtain ⟨xs, e2, e⟩ := Option.bind_eq_some_iff.mp e
    split at e
    · rename_i hk
      cases e
      exact ⟨p, e1, xs, e2, hk, h⟩
    · cases e
  · rintro ⟨p, e1, xs, e2, hk, h⟩
    exact ⟨_, by rw [e1]; simp only [Option.bind_some]; rw [e2]; simp only [Option.bind_some]; rw [if_pos hk], h⟩
theorem wp_lstO : OkE (mLstO ms env S) P ↔ OkA (ms env S) fun ws S' => (ws.all isArg = true ∧ ws.length ≤ cap) ∧ P (.own ws) S' := by
  unfold mLstO OkE OkA
  constructor
  · rintro ⟨r, e, h⟩
    obtain ⟨p, e1, e⟩ := Option.bind_eq_some_iff.mp e
    split at e
    · rename_i hk
      cases e
      exact ⟨p, e1, hk, h⟩
    · cases e
  · rintro ⟨p, e1, hk, h⟩
    exact ⟨_, by rw [e1]; simp only [Option.bind_some]; rw [if_pos hk], h⟩
theorem wp_andV : OkE (mAndV ma mb env S) P ↔ OkE (ma env S) fun w S1 => ∃ k, w = .d (.bl k) ∧ if k = true then OkE (mb env S1) (fun v S2 => ∃ c, v = .d (.bl c) ∧ P v S2) else P (.d (.bl false)) S1 := by
  unfold mAndV OkE
  constructor
  · rintro ⟨r, e, h⟩
    obtain ⟨p, e1, e⟩ := Option.bind_eq_some_iff.mp e
    refine ⟨p, e1, ?_⟩
    split at e
    · rename_i hk
      obtain ⟨q, e2, e⟩ := Option.bind_eq_some_iff.mp e
      split at e
      · rename_i c hc
        cases e
        refine ⟨true, hk, ?_⟩
        rw [if_pos rfl]
        exact ⟨q, e2, c, hc, by rw [hc]; exact h⟩
      · cases e
    · rename_i hk
      cases e
      refine ⟨false, hk, ?_⟩
      rw [if_neg Bool.false_ne_true]
      exact h
    · cases e
  · rintro ⟨p, e1, k, hk, h⟩
    cases k with
    | true =>
      rw [if_pos rfl] at h
      obtain ⟨q, e2, c, hc, h⟩ := h
      exact ⟨(.d (.bl c), q.2), by rw [e1]; simp only [Option.bind_some]; rw [hk]; simp only []; rw [e2]; simp only [Option.bind_some]; rw [hc], by rw [← hc]; exact h⟩
    | false =>
      rw [if_neg Bool.false_ne_true] at h
      exact ⟨_, by rw [e1]; simp only [Option.bind_some]; rw [hk], h⟩
theorem wp_noPart : OkO (mNoPart env S) PO ↔ PO none S := ⟨fun ⟨r, e, h⟩ => by cases e; exact h, fun h => ⟨_, rfl, h⟩⟩
theorem wp_part : OkO (mPart ma env S) PO ↔ OkE (ma env S) fun w S' => ∃ j, w = .d (.int j) ∧ PO (some j) S' := by
  unfold mPart OkO OkE
  constructor
  · rintro ⟨r, e, h⟩
    obtain ⟨p, e1, e⟩ := Option.bind_eq_some_iff.mp e
    split at e
    · rename_i j hj
      cases e
      exact ⟨p, e1, j, hj, h⟩
    · cases e
  · rintro ⟨p, e1, j, hj, h⟩
    exact ⟨_, by rw [e1]; simp only [Option.bind_some]; rw [hj], h⟩
theorem wp_sl : OkE (mSl ma l h env S) P ↔ OkE (ma env S) fun w S1 => OkO (l env S1) fun lo S2 => OkO (h env S2) fun hi S3 => ∃ z, gSl S3 w lo hi = some z ∧ P z S3 := by
  unfold mSl OkO OkE
  constructor
  · rintro ⟨r, e, hh⟩
    obtain ⟨p, e1, e⟩ := Option.bind_eq_some_iff.mp e
    obtain ⟨q, e2, e⟩ := Option.bind_eq_some_iff.mp e
    obtain ⟨s, e3, e⟩ := Option.bind_eq_some_iff.mp e
    obtain ⟨z, e4, e5⟩ := Option.map_eq_some_iff.mp e
    cases e5
    exact ⟨p, e1, q, e2, s, e3, z, e4, hh⟩
  · rintro ⟨p, e1, q, e2, s, e3, z, e4, hh⟩
    exact ⟨_, by rw [e1]; simp only [Option.bind_some]; rw [e2]; simp only [Option.bind_some]; rw [e3]; simp only [Option.bind_some]; rw [e4]; rfl, hh⟩
theorem wp_par {j : Nat} : OkS (mPar i j ms env S) PS ↔ OkA (ms env S) fun ws S' => ∃ x y, ws = [x, y] ∧ (isArg x = true ∧ isArg y = true ∧ i < env.length ∧ j < env.length) ∧ PS .nx ((env.set i (some x)).set j (some y)) S' := by
  unfold mPar OkS OkA
  constructor
  · rintro ⟨r, e, hh⟩
    obtain ⟨p, e1, e⟩ := Option.bind_eq_some_iff.mp e
    split at e
    · rename_i x y hw
      split at e
      · rename_i hk
        cases e
        exact ⟨p, e1, x, y, hw, hk, hh⟩
      · cases e
    · cases e
  · rintro ⟨p, e1, x, y, hw, hk, hh⟩
    exact ⟨_, by rw [e1]; simp only [Option.bind_some]; rw [hw]; simp only []; rw [if_pos hk], hh⟩
theorem wp_unp {is : List Nat} : OkS (mUnp is ms env S) PS ↔ OkA (ms env S) fun ws S' => ws.length ≤ cap ∧ ∃ env', bindAllW is ws env = some env' ∧ PS .nx env' S' := by
  unfold mUnp OkS OkA
  constructor
  · rintro ⟨r, e, hh⟩
    obtain ⟨p, e1, e⟩ := Option.bind_eq_some_iff.mp e
    split at e
    · rename_i hk
      obtain ⟨z, e4, e5⟩ := Option.map_eq_some_iff.mp e
      cases e5
      exact ⟨p, e1, hk, z, e4, hh⟩
    · cases e
  · rintro ⟨p, e1, hk, z, e4, hh⟩
    exact ⟨_, by rw [e1]; simp only [Option.bind_some]; rw [if_pos hk, e4]; rfl, hh⟩
theorem wp_seqI : OkI (mISeq ma env S) PI ↔ OkE (ma env S) fun w S' => ∃ xs, (w = .d (.lst xs) ∨ w = .d (.tup xs)) ∧ PI xs S' := by
  unfold mISeq OkI OkE
  constructor
  · rintro ⟨r, e, hh⟩
    obtain ⟨p, e1, e⟩ := Option.bind_eq_some_iff.mp e
    split at e
    · rename_i xs hw
      cases e
      exact ⟨p, e1, xs, .inl hw, hh⟩
    · rename_i xs hw
      cases e
      exact ⟨p, e1, xs, .inr hw, hh⟩
    · cases e
  · rintro ⟨p, e1, xs, hw, hh⟩
    refine ⟨(xs, p.2), ?_, hh⟩
    rw [e1]
    simp only [Option.bind_some]
    rcases hw with hw | hw <;> rw [hw]
theorem wp_rng1 : OkI (mIRng1 ms env S) PI ↔ OkA (ms env S) fun ws S' => ∃ n, ws = [.d (.int n)] ∧ (-1000000 < n ∧ n < 1000000) ∧ PI (dRange 0 n.toNat) S' := by
  unfold mIRng1 OkI OkA
  constructor
  · rintro ⟨r, e, hh⟩
    obtain ⟨p, e1, e⟩ := Option.bind_eq_some_iff.mp e
    split at e
    · rename_i n hw
      split at e
      · rename_i hk
        cases e
        exact ⟨p, e1, n, hw, hk, hh⟩
      · cases e
    · cases e
  · rintro ⟨p, e1, n, hw, hk, hh⟩
    exact ⟨_, by rw [e1]; simp only [Option.bind_some]; rw [hw]; simp only []; rw [if_pos hk], hh⟩
theorem wp_for {t : Tg} : OkS (mFor mi t a env S) PS ↔ OkI (mi env S) fun ds S' => OkS (goFor t a ds env S') PS := by
  unfold mFor OkS OkI
  constructor
  · rintro ⟨r, e, hh⟩
    obtain ⟨p, e1, e⟩ := Option.bind_eq_some_iff.mp e
    exact ⟨p, e1, r, e, hh⟩
  · rintro ⟨p, e1, r, e, hh⟩
    exact ⟨r, by rw [e1]; exact e, hh⟩
theorem wp_lc {tg : Tg} {vs : List Nat} : OkE (mLc mi tg t ma vs env S) P ↔ OkI (mi env S) fun ds S' => OkI (goLc tg t ma (wipeE env vs) ds S' []) fun xs S2 => P (.d (.lst xs)) S2 := by
  unfold mLc OkE OkI
  constructor
  · rintro ⟨r, e, hh⟩
    obtain ⟨p, e1, e⟩ := Option.bind_eq_some_iff.mp e
    obtain ⟨q, e2, e3⟩ := Option.map_eq_some_iff.mp e
    cases e3
    exact ⟨p, e1, q, e2, hh⟩
  · rintro ⟨p, e1, q, e2, hh⟩
    exact ⟨_, by rw [e1]; simp only [Option.bind_some]; rw [e2]; rfl, hh⟩
theorem wp_yes : OkT (mYes env S) PT ↔ PT true S := ⟨fun ⟨r, e, h⟩ => by cases e; exact h, fun h => ⟨_, rfl, h⟩⟩
end
end Zf
namespace Zf
open PySem PySem.Spec PyProof.Rows L2
section
variable {S : Store} {i j : Int} {x y : Str} {d : D} {ds : List D} {n : Nat}
theorem toBor_d : toBor (.d d) = .d d := rfl
theorem toBor_r : toBor (.r n) = .r n := rfl
theorem toBor_own {xs : List W} : toBor (.own xs) = .bor xs := rfl
theorem unBor_d : unBor (.d d) = .d d := rfl
theorem unBor_r : unBor (.r n) = .r n := rfl
theorem unBor_bor {xs : List W} : unBor (.bor xs) = .own xs := rfl
theorem unBor_own {xs : List W} : unBor (.own xs) = .own xs := rfl
theorem isArg_d : isArg (.d d) = true := rfl
theorem isArg_r : isArg (.r n) = true := rfl
theorem canSet_d : canSet (.d d) = true := rfl
theorem canSet_r : canSet (.r n) = true := rfl
theorem canSet_own {xs : List W} : canSet (.own xs) = true := rfl
theorem v_int {c : Int → Int → Bool} {g : Int → Int → D} : gInt c g S (.d (.int i)) (.d (.int j)) = if c i j = true then some (.d (g i j)) else none := rfl
theorem v_addI : gAdd S (.d (.int i)) (.d (.int j)) = some (.d (.int (i + j))) := rfl
theorem v_ltI : gLt S (.d (.int i)) (.d (.int j)) = some (.d (.bl (decide (i < j)))) := rfl
theorem v_leI : gLe S (.d (.int i)) (.d (.int j)) = some (.d (.bl (decide (i ≤ j)))) := rfl
theorem v_gtI : gGt S (.d (.int i)) (.d (.int j)) = some (.d (.bl (decide (j < i)))) := rfl
theorem v_geI : gGe S (.d (.int i)) (.d (.int j)) = some (.d (.bl (decide (j ≤ i)))) := rfl
theorem v_eqI : gEq S (.d (.int i)) (.d (.int j)) = some (.d (.bl (decide (i = j)))) := by simp [gEq, gEqS]
theorem v_neI : gNe S (.d (.int i)) (.d (.int j)) = some (.d (.bl (!decide (i = j)))) := by simp [gNe, gEqS]
theorem v_eqS : gEq S (.d (.str x)) (.d (.str y)) = some (.d (.bl (decide (x = y)))) := by simp [gEq, gEqS]
theorem v_neS : gNe S (.d (.str x)) (.d (.str y)) = some (.d (.bl (!decide (x = y)))) := by simp [gNe, gEqS]
theorem v_int1 : g1 gInt1 S [.d (.int i)] = some (.d (.int i)) := rfl
theorem v_int1b {b : Bool} : g1 gInt1 S [.d (.bl b)] = some (.d (.int (if b then 1 else 0))) := rfl
theorem v_abs : g1 gAbs S [.d (.int i)] = some (.d (.int (if i < 0 then -i else i))) := rfl
theorem asDs_map : ∀ ds : List D, asDs (ds.map .d) = some ds
  | [] => rfl
  | d :: ds => by
    rw [List.map_cons]
    unfold asDs
    rw [asDs_map ds]
    rfl
theorem v_lenL : g1 gLen S [.d (.lst ds)] = some (.d (.int ds.length)) := by
  simp [g1, gLen, vT, vL]
theorem v_lenT : g1 gLen S [.d (.tup ds)] = some (.d (.int ds.length)) := rfl
theorem v_lenB {xs : List W} : g1 gLen S [.bor xs] = some (.d (.int xs.length)) := by
  simp [g1, gLen, vT, vL]
theorem v_listL : g1 gList S [.d (.lst ds)] = some (.d (.lst ds)) := by
  simp [g1, gList, vSeq, vT, vL, asDs_map]
theorem v_listT : g1 gList S [.d (.tup ds)] = some (.d (.lst ds)) := by
  simp [g1, gList, vSeq, vT, vL]
end
section
variable {env : En} {S : Store} {P : W → Store → Prop} {PT : Bool → Store → Prop} {PA : List W → Store → Prop} {PI : List D → Store → Prop} {PS : Fl → En → Store → Prop} {ma mb mc : ME} {t u : MT} {ms : MA} {a b : MS} {i : Nat} {g : Store → List W → List W → Option (List W)}
theorem wp_mutE {mo : ME} : OkS (mMutE mo ms g env S) PS ↔ OkE (mo env S) fun o S1 => ∃ n, o = .r n ∧ OkA (ms env S1) fun ws S' => ws.all isArg = true ∧ ∃ xs zs, S'[n]? = some xs ∧ g S' xs ws = some zs ∧ PS .nx env (S'.set n zs) := by
  unfold mMutE OkS OkE OkA
  constructor
  · rintro ⟨r, e, hh⟩
    obtain ⟨o, e0, e⟩ := Option.bind_eq_some_iff.mp e
    split at e
    · rename_i n hn
      obtain ⟨p, e1, e⟩ := Option.bind_eq_some_iff.mp e
      split at e
      · rename_i hA
        obtain ⟨xs, e2, e⟩ := Option.bind_eq_some_iff.mp e
        obtain ⟨zs, e3, e⟩ := Option.bind_eq_some_iff.mp e
        cases e
        exact ⟨o, e0, n, hn, p, e1, hA, xs, zs, e2, e3, hh⟩
      · cases e
    · cases e
  · rintro ⟨o, e0, n, hn, p, e1, hA, xs, zs, e2, e3, hh⟩
    refine ⟨(.nx, env, p.2.set n zs), ?_, hh⟩
    rw [e0]
    simp only [Option.bind_some]
    rw [hn]
    simp only []
    rw [e1]
    simp only [Option.bind_some]
    rw [if_pos hA, e2]
    simp only [Option.bind_some]
    rw [e3]
    rfl
theorem wp_neg : OkE (mNeg ma env S) P ↔ OkE (ma env S) fun w S' => ∃ j, w = .d (.int j) ∧ P (.d (.int (-j))) S' := by
  unfold mNeg OkE
  constructor
  · rintro ⟨r, e, h⟩
    obtain ⟨p, e1, e⟩ := Option.bind_eq_some_iff.mp e
    split at e
    · rename_i j hj
      cases e
      exact ⟨p, e1, j, hj, h⟩
    · cases e
  · rintro ⟨p, e1, j, hj, h⟩
    exact ⟨_, by rw [e1]; simp only [Option.bind_some]; rw [hj], h⟩
theorem wp_inK {neg : Bool} {ks : List Str} : OkE (mInK neg ks ma env S) P ↔ OkE (ma env S) fun w S' => ∃ z, w = .d (.str z) ∧ P (.d (.bl (neg != ks.contains z))) S' := by
  unfold mInK OkE
  constructor
  · rintro ⟨r, e, h⟩
    obtain ⟨p, e1, e⟩ := Option.bind_eq_some_iff.mp e
    split at e
    · rename_i j hj
      cases e
      exact ⟨p, e1, j, hj, h⟩
    · cases e
  · rintro ⟨p, e1, j, hj, h⟩
    exact ⟨_, by rw [e1]; simp only [Option.bind_some]; rw [hj], h⟩
theorem wp_isi {T : String} : OkE (mIsi T ma env S) P ↔ OkE (ma env S) fun w S' => asked.contains T = true ∧ ∃ k, tyD S' w = some k ∧ P (.d (.bl (isTy k T))) S' := by
  unfold mIsi OkE
  constructor
  · rintro ⟨r, e, h⟩
    obtain ⟨p, e1, e⟩ := Option.bind_eq_some_iff.mp e
    split at e
    · rename_i hT
      obtain ⟨k, e2, e3⟩ := Option.map_eq_some_iff.mp e
      cases e3
      exact ⟨p, e1, hT, k, e2, h⟩
    · cases e
  · rintro ⟨p, e1, hT, k, e2, h⟩
    exact ⟨_, by rw [e1]; simp only [Option.bind_some]; rw [if_pos hT, e2]; rfl, h⟩
theorem wp_isi2 {T T' : String} : OkE (mIsi2 T T' ma env S) P ↔ OkE (ma env S) fun w S' => (asked.contains T = true ∧ asked.contains T' = true) ∧ ∃ k, tyD S' w = some k ∧ P (.d (.bl (isTy k T || isTy k T'))) S' := by
  unfold mIsi2 OkE
  constructor
  · rintro ⟨r, e, h⟩
    obtain ⟨p, e1, e⟩ := Option.bind_eq_some_iff.mp e
    split at e
    · rename_i hT
      obtain ⟨k, e2, e3⟩ := Option.map_eq_some_iff.mp e
      cases e3
      exact ⟨p, e1, hT, k, e2, h⟩
    · cases e
  · rintro ⟨p, e1, hT, k, e2, h⟩
    exact ⟨_, by rw [e1]; simp only [Option.bind_some]; rw [if_pos hT, e2]; rfl, h⟩
theorem wp_star : OkA (mStar ma ms env S) PA ↔ OkE (ma env S) fun w S1 => ∃ xs, vSeq S1 w = some xs ∧ OkA (ms env S1) fun ws S2 => PA (xs.map .d ++ ws) S2 := by
  unfold mStar OkE OkA
  constructor
  · rintro ⟨r, e, h⟩
    obtain ⟨p, e1, e⟩ := Option.bind_eq_some_iff.mp e
    obtain ⟨xs, e2, e⟩ := Option.bind_eq_some_iff.mp e
    obtain ⟨q, e3, e4⟩ := Option.map_eq_some_iff.mp e
    cases e4
    exact ⟨p, e1, xs, e2, q, e3, h⟩
  · rintro ⟨p, e1, xs, e2, q, e3, h⟩
    exact ⟨_, by rw [e1]; simp only [Option.bind_some]; rw [e2]; simp only [Option.bind_some]; rw [e3]; rfl, h⟩
theorem wp_dix : OkE (mDix ma mb env S) P ↔ OkE (ma env S) fun w S1 => OkE (mb env S1) fun v S2 => ∃ kvs k d, w = .d (.dct kvs) ∧ dkey v = some k ∧ dval kvs k = some d ∧ P (.d d) S2 := by
  unfold mDix OkE
  constructor
  · rintro ⟨r, e, h⟩
    obtain ⟨p, e1, e⟩ := Option.bind_eq_some_iff.mp e
    obtain ⟨q, e2, e⟩ := Option.bind_eq_some_iff.mp e
    split at e
    · rename_i kvs hk
      obtain ⟨k, e3, e⟩ := Option.bind_eq_some_iff.mp e
      obtain ⟨d, e4, e5⟩ := Option.map_eq_some_iff.mp e
      cases e5
      exact ⟨p, e1, q, e2, kvs, k, d, hk, e3, e4, h⟩
    · cases e
  · rintro ⟨p, e1, q, e2, kvs, k, d, hk, e3, e4, h⟩
    exact ⟨_, by rw [e1]; simp only [Option.bind_some]; rw [e2]; simp only [Option.bind_some]; rw [hk]; simp only []; rw [e3]; simp only [Option.bind_some]; rw [e4]; rfl, h⟩
theorem wp_dget2 : OkE (mDget2 ma mb mc env S) P ↔ OkE (ma env S) fun w S1 => OkE (mb env S1) fun v S2 => OkE (mc env S2) fun u S3 => ∃ kvs x k, w = .d (.dct kvs) ∧ u = .d x ∧ dkey v = some k ∧ P (.d ((dval kvs k).getD x)) S3 := by
  unfold mDget2 OkE
  constructor
  · rintro ⟨r, e, h⟩
    obtain ⟨p, e1, e⟩ := Option.bind_eq_some_iff.mp e
    obtain ⟨q, e2, e⟩ := Option.bind_eq_some_iff.mp e
    obtain ⟨s, e3, e⟩ := Option.bind_eq_some_iff.mp e
    split at e
    · rename_i kvs x hk hx
      obtain ⟨k, e4, e5⟩ := Option.map_eq_some_iff.mp e
      cases e5
      exact ⟨p, e1, q, e2, s, e3, kvs, x, k, hk, hx, e4, h⟩
    · cases e
  · rintro ⟨p, e1, q, e2, s, e3, kvs, x, k, hk, hx, e4, h⟩
    exact ⟨_, by rw [e1]; simp only [Option.bind_some]; rw [e2]; simp only [Option.bind_some]; rw [e3]; simp only [Option.bind_some]; rw [hk, hx]; simp only []; rw [e4]; rfl, h⟩
theorem wp_maxD {d : Int} : OkE (mMaxD d ma env S) P ↔ OkE (ma env S) fun w S' => ∃ ns, vInts S' w = some ns ∧ P (.d (.int (maxOr d ns))) S' := by
  unfold mMaxD OkE
  constructor
  · rintro ⟨r, e, h⟩
    obtain ⟨p, e1, e⟩ := Option.bind_eq_some_iff.mp e
    obtain ⟨ns, e2, e3⟩ := Option.map_eq_some_iff.mp e
    cases e3
    exact ⟨p, e1, ns, e2, h⟩
  · rintro ⟨p, e1, ns, e2, h⟩
    exact ⟨_, by rw [e1]; simp only [Option.bind_some]; rw [e2]; rfl, h⟩
theorem wp_enum : OkI (mIEnum ms env S) PI ↔ OkA (ms env S) fun ws S' => ∃ xs, ws = [.d (.lst xs)] ∧ PI (dEnum 0 xs) S' := by
  unfold mIEnum OkI OkA
  constructor
  · rintro ⟨r, e, hh⟩
    obtain ⟨p, e1, e⟩ := Option.bind_eq_some_iff.mp e
    split at e
    · rename_i xs hw
      cases e
      exact ⟨p, e1, xs, hw, hh⟩
    · cases e
  · rintro ⟨p, e1, xs, hw, hh⟩
    exact ⟨_, by rw [e1]; simp only [Option.bind_some]; rw [hw], hh⟩
theorem wp_zip : OkI (mIZip ms env S) PI ↔ OkA (ms env S) fun ws S' => ∃ xs ys, ws = [.d (.lst xs), .d (.lst ys)] ∧ PI (dZip xs ys) S' := by
  unfold mIZip OkI OkA
  constructor
  · rintro ⟨r, e, hh⟩
    obtain ⟨p, e1, e⟩ := Option.bind_eq_some_iff.mp e
    split at e
    · rename_i xs ys hw
      cases e
      exact ⟨p, e1, xs, ys, hw, hh⟩
    · cases e
  · rintro ⟨p, e1, xs, ys, hw, hh⟩
    exact ⟨_, by rw [e1]; simp only [Option.bind_some]; rw [hw], hh⟩
theorem wp_dictZip : OkE (mDictZip ms env S) P ↔ OkA (ms env S) fun ws S' => ∃ x y ks ds, ws = [x, y] ∧ ((vL S' x).bind asDs).bind asKeys = some ks ∧ (vL S' y).bind asDs = some ds ∧ P (.d (.dct (mergeD [] (ks.zip ds)))) S' := by
  unfold mDictZip OkE OkA
  constructor
  · rintro ⟨r, e, hh⟩
    obtain ⟨p, e1, e⟩ := Option.bind_eq_some_iff.mp e
    split at e
    · rename_i x y hw
      obtain ⟨ks, e2, e⟩ := Option.bind_eq_some_iff.mp e
      obtain ⟨ds, e3, e4⟩ := Option.map_eq_some_iff.mp e
      cases e4
      exact ⟨p, e1, x, y, ks, ds, hw, e2, e3, hh⟩
    · cases e
  · rintro ⟨p, e1, x, y, ks, ds, hw, e2, e3, hh⟩
    exact ⟨_, by rw [e1]; simp only [Option.bind_some]; rw [hw]; simp only []; rw [e2]; simp only [Option.bind_some]; rw [e3]; rfl, hh⟩
end
end Zf
local macro_rules | `(tactic| decreasing_with trivial) => `(tactic| (simp only [Zf.wp_d, Zf.wp_var, Zf.wp_bin, Zf.wp_tst, Zf.wp_andT, Zf.wp_orT, Zf.wp_notT, Zf.wp_if, Zf.wp_nil, Zf.wp_cons, Zf.wp_call, Zf.wp_cb, Zf.wp_seq, Zf.wp_next, Zf.wp_ifS, Zf.wp_set, Zf.wp_ret, Zf.wp_setIx, Zf.wp_fn, Zf.wp_frzE, Zf.wp_pubE, Zf.wp_lst, Zf.wp_tup, Zf.wp_lstO, Zf.wp_andV, Zf.wp_noPart, Zf.wp_part, Zf.wp_sl, Zf.wp_par, Zf.wp_unp, Zf.wp_seqI, Zf.wp_rng1, Zf.wp_for, Zf.wp_lc, Zf.wp_yes, Zf.wp_mutE, Zf.wp_neg, Zf.wp_inK, Zf.wp_isi, Zf.wp_isi2, Zf.wp_star, Zf.wp_dix, Zf.wp_dget2, Zf.wp_maxD, Zf.wp_enum, Zf.wp_zip, Zf.wp_dictZip]))
local macro_rules | `(tactic| decreasing_with rfl) => `(tactic| (try simp only [Zf.v_int, Zf.v_addI, Zf.v_ltI, Zf.v_leI, Zf.v_gtI, Zf.v_geI, Zf.v_eqI, Zf.v_neI, Zf.v_eqS, Zf.v_neS, Zf.v_int1, Zf.v_int1b, Zf.v_abs, Zf.v_lenL, Zf.v_lenT, Zf.v_lenB, Zf.v_listL, Zf.v_listT, Zf.toBor_d, Zf.toBor_r, Zf.toBor_own, Zf.unBor_d, Zf.unBor_r, Zf.unBor_bor, Zf.unBor_own, Zf.isArg_d, Zf.isArg_r, Zf.canSet_d, Zf.canSet_r, Zf.canSet_own, Option.some.injEq, exists_eq_left', exists_eq_left, List.getElem?_cons_zero, List.getElem?_cons_succ, List.length_cons, List.length_nil, List.map_cons, List.map_nil, List.all_cons, List.all_nil, Bool.and_true, and_self, true_and, List.cons_append, List.nil_append, List.replicate, Nat.reduceSub, Nat.reduceLT, Nat.reduceAdd, List.set_cons_zero, List.set_cons_succ, Zf.W.d.injEq, Zf.D.bl.injEq, Zf.D.int.injEq, Zf.D.str.injEq]))
local macro_rules | `(tactic| decreasing_with trivial) => `(tactic| (simp only [Zf.wp_d, Zf.wp_var, Zf.wp_bin, Zf.wp_tst, Zf.wp_andT, Zf.wp_orT, Zf.wp_notT, Zf.wp_if, Zf.wp_nil, Zf.wp_cons, Zf.wp_call, Zf.wp_cb, Zf.wp_seq, Zf.wp_next, Zf.wp_ifS, Zf.wp_set, Zf.wp_ret, Zf.wp_setIx, Zf.wp_fn, Zf.wp_frzE, Zf.wp_pubE, Zf.wp_lst, Zf.wp_tup, Zf.wp_lstO, Zf.wp_andV, Zf.wp_noPart, Zf.wp_part, Zf.wp_sl, Zf.wp_par, Zf.wp_unp, Zf.wp_seqI, Zf.wp_rng1, Zf.wp_for, Zf.wp_lc, Zf.wp_yes, Zf.wp_mutE, Zf.wp_neg, Zf.wp_inK, Zf.wp_isi, Zf.wp_isi2, Zf.wp_star, Zf.wp_dix, Zf.wp_dget2, Zf.wp_maxD, Zf.wp_enum, Zf.wp_zip, Zf.wp_dictZip]))
local macro_rules | `(tactic| decreasing_with rfl) => `(tactic| (try simp only [Zf.v_int, Zf.v_addI, Zf.v_ltI, Zf.v_leI, Zf.v_gtI, Zf.v_geI, Zf.v_eqI, Zf.v_neI, Zf.v_eqS, Zf.v_neS, Zf.v_int1, Zf.v_int1b, Zf.v_abs, Zf.v_lenL, Zf.v_lenT, Zf.v_lenB, Zf.v_listL, Zf.v_listT, Zf.toBor_d, Zf.toBor_r, Zf.toBor_own, Zf.unBor_d, Zf.unBor_r, Zf.unBor_bor, Zf.unBor_own, Zf.isArg_d, Zf.isArg_r, Zf.canSet_d, Zf.canSet_r, Zf.canSet_own, Option.some.injEq, exists_eq_left', exists_eq_left, List.getElem?_cons_zero, List.getElem?_cons_succ, List.length_cons, List.length_nil, List.map_cons, List.map_nil, List.all_cons, List.all_nil, Bool.and_true, and_self, true_and, List.cons_append, List.nil_append, List.replicate, Nat.reduceSub, Nat.reduceLT, Nat.reduceAdd, List.set_cons_zero, List.set_cons_succ, Zf.W.d.injEq, Zf.D.bl.injEq, Zf.D.int.injEq, Zf.D.str.injEq]))
set_option maxHeartbeats 2000000
namespace Zf
open PySem PySem.Spec PyProof.Rows L2
abbrev Gd.at (G : Gd) (x : Addr) : Gd := { G with slf := x }
section
variable {G G' : Gd} {F : Hp} (hP : G.P = G'.P) (hw : G.w = G'.w) (hK : G.K = G'.K) (hc : G.cls = G'.cls) (hl : G.slt = G'.slt)
include hP hw hK hc hl
mutual
theorem R.cong : ∀ (d : D) (v : V), R G F d v → R G' F d v
  | .non, _, h => h
  | .bl _, _, h => h
  | .int _, _, h => h
  | .str _, _, h => h
  | .lst xs, _, ⟨a, vs, h1, h2, h3⟩ => ⟨a, vs, h1, h2, Rs.cong xs vs h3⟩
  | .ro xs, _, ⟨a, vs, h1, h2, h3⟩ => ⟨a, vs, h1, hK ▸ h2, Rs.cong xs vs h3⟩
  | .tup xs, _, ⟨a, vs, h1, h2, h3⟩ => ⟨a, vs, h1, hK ▸ h2, Rs.cong xs vs h3⟩
  | .dct kvs, _, ⟨a, kv, h1, h2, h3⟩ => ⟨a, kv, h1, h2, Rk.cong kvs kv h3⟩
  | .dtp kvs, _, ⟨a, kv, h1, h2, h3⟩ => ⟨a, kv, h1, h2, Rt.cong kvs kv h3⟩
  | .st ks, _, ⟨a, h1, h2⟩ => ⟨a, h1, by rw [← hP, ← hw]; exact h2⟩
  | .ins c fs, _, ⟨a, dx, vs, h1, h2, h4⟩ => ⟨a, dx, vs, h1, h2.cong hc hl, Rf.cong fs vs h4⟩
theorem Rs.cong : ∀ (ds : List D) (vs : List V), Rs G F ds vs → Rs G' F ds vs
  | [], _, h => h
  | x :: xs, _, ⟨v, r, h1, h2, h3⟩ => ⟨v, r, h1, R.cong x v h2, Rs.cong xs r h3⟩
theorem Rk.cong : ∀ (ds : List (Key × D)) (vs : List (Key × V)), Rk G F ds vs → Rk G' F ds vs
  | [], _, h => h
  | (k, x) :: xs, _, ⟨v, r, h1, h2, h3⟩ => ⟨v, r, h1, R.cong x v h2, Rk.cong xs r h3⟩
theorem Rt.cong : ∀ (ds : List (List Key × D)) (vs : List (List Key × V)), Rt G F ds vs → Rt G' F ds vs
  | [], _, h => h
  | (k, x) :: xs, _, ⟨v, r, h1, h2, h3⟩ => ⟨v, r, h1, R.cong x v h2, Rt.cong xs r h3⟩
theorem Rf.cong : ∀ (ds : List (Str × D)) (vs : List (Str × V)), Rf G F ds vs → Rf G' F ds vs
  | [], _, h => h
  | (k, x) :: xs, _, ⟨v, r, h1, h2, h3⟩ => ⟨v, r, h1, R.cong x v h2, Rf.cong xs r h3⟩
end
variable {θ : Th} {H : Hp}
theorem RW.cong : ∀ (w : W) (v : V), RW G F θ H w v [] → RW G' F θ H w v []
  | .d x, v, ⟨h, e⟩ => ⟨R.cong hP hw hK hc hl x v h, e⟩
  | .r n, v, h => h
  | .c k n, v, ⟨h, e, q⟩ => ⟨h, e, q.cong hc⟩
  | .ev c g x, v, ⟨a, y, h1, h2, h3, h4⟩ => ⟨a, y, h1, h2.cong hc, RW.cong x y h3, h4⟩
  | .own xs, v, ⟨a, vs, fs, h1, h2, h3, h4⟩ => by cases h4
  | .bor xs, v, ⟨a, vs, fs, h1, h2, h3, h4⟩ => by cases h4
  | .od xs, v, ⟨a, vs, fs, h1, h2, h3, h4⟩ => by cases h4
  | .bd xs, v, ⟨a, vs, fs, h1, h2, h3, h4⟩ => by cases h4
  | .slf c xs, v, ⟨dx, vs, h1, h2, h4, h5⟩ => by cases h5
  | .slb c xs, v, ⟨dx, vs, h1, h2, h4, h5⟩ => by cases h5
  | .exn c x, v, ⟨y, h1, h2, h3, h4, h5⟩ => by cases h5
theorem RWs.cong : ∀ (ws : List W) (vs : List V), RWs G F θ H ws vs [] → RWs G' F θ H ws vs []
  | [], _, h => h
  | x :: xs, vs, ⟨v, r, f1, f2, h1, h2, h3, h4⟩ => by
    obtain ⟨rfl, rfl⟩ := List.append_eq_nil_iff.mp h4.symm
    exact ⟨v, r, [], [], h1, RW.cong hP hw hK hc hl x v h2, RWs.cong xs r h3, rfl⟩
theorem RS.cong {S : Store} (h : RS G F θ H S) : RS G' F θ H S := ⟨h.len, h.nd, fun n xs e => by
  obtain ⟨a, vs, h1, h2, h3, h4⟩ := h.cellR n xs e
  exact ⟨a, vs, h1, h2, h3, RWs.cong hP hw hK hc hl xs vs h4⟩⟩
end
theorem Rf.len {G : Gd} {F : Hp} : ∀ {fs : List (Str × D)} {vs : List (Str × V)}, Rf G F fs vs → vs.length = fs.length
  | [], _, e => by rw [show _ = [] from e]; rfl
  | (g, z) :: fs, _, ⟨v, r, h1, h2, h3⟩ => by rw [h1, List.length_cons, List.length_cons, Rf.len h3]
theorem Rf.get {G : Gd} {F : Hp} {f : Str} {x : D} : ∀ {fs : List (Str × D)} {vs : List (Str × V)}, Rf G F fs vs → fs.lookup f = some x → ∃ y, vs.lookup f = some y ∧ R G F x y
  | [], _, e, h => by cases h
  | (g, z) :: fs, _, ⟨v, r, h1, h2, h3⟩, h => by
    rw [h1]
    cases c : (f == g) with
    | true =>
      rw [List.lookup_cons, c] at h
      cases h
      exact ⟨v, by rw [List.lookup_cons, c], h2⟩
    | false =>
      rw [List.lookup_cons, c] at h
      obtain ⟨y, q1, q2⟩ := Rf.get h3 h
      exact ⟨y, by rw [List.lookup_cons, c]; exact q1, q2⟩
theorem Rf.none {G : Gd} {F : Hp} {f : Str} : ∀ {fs : List (Str × D)} {vs : List (Str × V)}, Rf G F fs vs → fs.lookup f = Option.none → vs.lookup f = Option.none
  | [], _, e, h => by rw [show _ = [] from e]; rfl
  | (g, z) :: fs, _, ⟨v, r, h1, h2, h3⟩, h => by
    rw [h1]
    cases c : (f == g) with
    | true =>
      rw [List.lookup_cons, c] at h
      cases h
    | false =>
      rw [List.lookup_cons, c] at h
      rw [List.lookup_cons, c]
      exact Rf.none h3 h
theorem RsA.len {G : Gd} {H0 : Hp} {fp : List Addr} {F : Hp} {θ : Th} {H : Hp} : ∀ {ws : List W} {vs : List V}, RsA G H0 fp F θ H ws vs → vs.length = ws.length
  | [], vs, r => by rw [show vs = [] from r]; rfl
  | w :: ws, vs, ⟨v, r', f, q1, q2, q3⟩ => by rw [q1, List.length_cons, List.length_cons, RsA.len q3]
structure KnC (G : Gd) (mg : Str → Option Value) (base : Heap) (x : Str) (k : Nat) (m : MF) : Prop where
  ex : ∃ C, mg x = some (.ref C) ∧ PySem.W.keepIn G.K (.ref C) = true ∧ ∀ (X : Cx), X.prog = G.P ∧ X.w = G.w ∧ X.K = G.K → X.mg = mg → X.base = base → Room k X.A → X.A.guards = some [] →
    ∀ (pins : List (Addr × Obj)) (σ : L2.St) (H : Hp) (s : Shared) (Q : VK) (us : List Value) (vs : List V) (F : Hp) (θ : Th) (S S' : Store) (as : List W) (w : W) (env : En) (fp : List Addr), Inv X pins σ H s → Vals vs us → St G F θ H S env σ fp → RWs G F θ H as vs [] → m as S = some (w, S') →
      (∀ F' θ' H' v f, Tr F θ H F' θ' H' → St G F' θ' H' S' env σ fp → Res G H fp F' θ' H' w v f → Q v H') → wpAny (model X.prog X.w) X.A (call (.ref C) us) (EP X pins σ Q) X.xe s
theorem KnC.mono {G : Gd} {mg : Str → Option Value} {base : Heap} {x : Str} {j k : Nat} {m : MF} (h : KnC G mg base x j m) (l : j ≤ k) : KnC G mg base x k m := by
  obtain ⟨C, a, b, c⟩ := h.ex
  exact ⟨C, a, b, fun X h1 h2 h3 hr => c X h1 h2 h3 (hr.mono l)⟩
end Zf
set_option maxHeartbeats 4000000
set_option maxHeartbeats 2000000
namespace Zf
open PySem PySem.Spec PyProof.Rows L2
theorem Hd.at {fa : List He.Fa} {fn : List He.DefD} {ts : List He.Tab} {eb : Eb} {G : Gd} {mg : Str → Option Value} {base : Heap} (h : Hd fa fn ts eb G mg base) (y : Addr) : Hd fa fn ts eb (G.at y) mg base := ⟨h.kin, h.ns, h.z, h.sys⟩
end Zf
set_option maxHeartbeats 4000000
namespace Zf
open PySem PySem.Spec PyProof.Rows L2
end Zf
set_option maxHeartbeats 2000000
namespace Zf
open PySem PySem.Spec PyProof.Rows L2
end Zf
namespace Zf
open PySem PySem.Spec L2 PySem.W PySem.Calls NdefX
end Zf
namespace Zf
open PySem PySem.Spec PyProof.Rows L2
section
variable {G G' : Gd} {F : Hp} (hP : G.P = G'.P) (hw : G.w = G'.w) (hK : G.K = G'.K) (hc : G.cls = G'.cls) (hl : G.slt = G'.slt) (hs : G.slf = G'.slf) {θ : Th} {H : Hp}
include hP hw hK hc hl hs
mutual
theorem RW.congX : ∀ (w : W) (v : V) (f : List Addr), (G.exk = .none ∨ G.exd ∉ f) → RW G F θ H w v f → RW G' F θ H w v f
  | .d x, v, f, _, ⟨h, e⟩ => ⟨R.cong hP hw hK hc hl x v h, e⟩
  | .r n, v, f, _, h => h
  | .c k n, v, f, _, ⟨h, e, q⟩ => ⟨h, e, q.cong hc⟩
  | .ev c g x, v, f, _, ⟨a, y, h1, h2, h3, h4⟩ => ⟨a, y, h1, h2.cong hc, RW.congX x y [] (.inr (fun z => by cases z)) h3, h4⟩
  | .own xs, v, f, q, ⟨a, vs, fs, h1, h2, h3, h4⟩ => ⟨a, vs, fs, h1, h2, RWs.congX xs vs fs (q.imp id fun z y => z (by rw [h4]; exact List.mem_cons_of_mem _ y)) h3, h4⟩
  | .bor xs, v, f, q, ⟨a, vs, fs, h1, h2, h3, h4⟩ => ⟨a, vs, fs, h1, h2, RWs.congX xs vs fs (q.imp id fun z y => z (by rw [h4]; exact List.mem_cons_of_mem _ y)) h3, h4⟩
  | .od xs, v, f, q, ⟨a, vs, fs, h1, h2, h3, h4⟩ => ⟨a, vs, fs, h1, h2, RWk.congX xs vs fs (q.imp id fun z y => z (by rw [h4]; exact List.mem_cons_of_mem _ y)) h3, h4⟩
  | .bd xs, v, f, q, ⟨a, vs, fs, h1, h2, h3, h4⟩ => ⟨a, vs, fs, h1, h2, RWk.congX xs vs fs (q.imp id fun z y => z (by rw [h4]; exact List.mem_cons_of_mem _ y)) h3, h4⟩
  | .slf c xs, v, f, _, ⟨dx, vs, h1, h2, h4, h5⟩ => ⟨dx, vs, hs ▸ h1, by rw [← hs]; exact h2.cong hc hl, Rf.cong hP hw hK hc hl xs vs h4, by rw [← hs]; exact h5⟩
  | .slb c xs, v, f, _, ⟨dx, vs, h1, h2, h4, h5⟩ => ⟨dx, vs, hs ▸ h1, by rw [← hs]; exact h2.cong hc hl, Rf.cong hP hw hK hc hl xs vs h4, by rw [← hs]; exact h5⟩
  | .exn c x, v, f, q, ⟨y, h1, h2, h3, h4, h5⟩ => by
    rcases q with q | q
    · rw [q] at h2
      cases h2
    · exact absurd (by rw [h5]; exact List.mem_singleton.mpr rfl) q
theorem RWk.congX : ∀ (ws : List (Key × W)) (vs : List (Key × V)) (f : List Addr), (G.exk = .none ∨ G.exd ∉ f) → RWk G F θ H ws vs f → RWk G' F θ H ws vs f
  | [], _, _, _, h => h
  | (k, x) :: xs, vs, f, q, ⟨v, r, f1, f2, h1, h2, h3, h4⟩ => ⟨v, r, f1, f2, h1, RW.congX x v f1 (q.imp id fun z y => z (by rw [h4]; exact List.mem_append_left _ y)) h2, RWk.congX xs r f2 (q.imp id fun z y => z (by rw [h4]; exact List.mem_append_right _ y)) h3, h4⟩
theorem RWs.congX : ∀ (ws : List W) (vs : List V) (f : List Addr), (G.exk = .none ∨ G.exd ∉ f) → RWs G F θ H ws vs f → RWs G' F θ H ws vs f
  | [], _, _, _, h => h
  | x :: xs, vs, f, q, ⟨v, r, f1, f2, h1, h2, h3, h4⟩ => ⟨v, r, f1, f2, h1, RW.congX x v f1 (q.imp id fun z y => z (by rw [h4]; exact List.mem_append_left _ y)) h2, RWs.congX xs r f2 (q.imp id fun z y => z (by rw [h4]; exact List.mem_append_right _ y)) h3, h4⟩
end
theorem RE.congX : ∀ (env : En) (σ : L2.St) (f : List Addr), (G.exk = .none ∨ G.exd ∉ f) → RE G F θ H env σ f → RE G' F θ H env σ f
  | [], _, _, _, h => h
  | none :: e, _, f, q, ⟨o, r, h1, h2⟩ => ⟨o, r, h1, RE.congX e r f q h2⟩
  | some x :: e, _, f, q, ⟨v, r, f1, f2, h1, h2, h3, h4⟩ => ⟨v, r, f1, f2, h1, RW.congX hP hw hK hc hl hs x v f1 (q.imp id fun z y => z (by rw [h4]; exact List.mem_append_left _ y)) h2, RE.congX e r f2 (q.imp id fun z y => z (by rw [h4]; exact List.mem_append_right _ y)) h3, h4⟩
theorem RS.congX {S : Store} (h : RS G F θ H S) : RS G' F θ H S := ⟨h.len, h.nd, fun n xs e => by
  obtain ⟨a, vs, h1, h2, h3, h4⟩ := h.cellR n xs e
  exact ⟨a, vs, h1, h2, h3, RWs.congX hP hw hK hc hl hs xs vs [] (.inr (by simp)) h4⟩⟩
theorem St.congX {S : Store} {env : En} {σ : L2.St} {fp : List Addr} (q : G.exk = .none ∨ G.exd ∉ fp) (s : St G F θ H S env σ fp) : St G' F θ H S env σ fp := ⟨s.sub, s.store.congX hP hw hK hc hl hs, s.env.congX hP hw hK hc hl hs env σ fp q, s.nd, s.apart⟩
end
abbrev Gd.inHand (G : Gd) (a d : Addr) (C : Value) : Gd := { G with exa := a, exd := d, exk := C, exw := fun _ _ _ _ => False }
abbrev Gd.wish (G : Gd) (W : WX) : Gd := { G with exw := W }
theorem St.drop {G : Gd} {F H : Hp} {θ : Th} {S : Store} {env : En} {σ : L2.St} {fp : List Addr} {i c : Nat} {x : D} {d a : Addr} {C : Value} (s : St (G.inHand a d C) F θ H S env σ fp) (hi : env[i]? = some (some (.exn c x))) :
    ∃ fp', St G F θ H S (env.set i none) (σ.set i none) fp' ∧ ∀ b ∈ fp', b ∈ fp := by
  have hl : i < env.length := (List.getElem?_eq_some_iff.mp hi).1
  obtain ⟨ea, eb, o, sa, sb, v0, pre, old, post, q1, q2, q3, q4, q5, q6, q7, q8, q9⟩ := RE.cut s.env hl
  have ho : o = some (.exn c x) := by
    rw [q1, List.getElem?_append_right (by omega), q3, Nat.sub_self] at hi
    simpa using hi
  obtain ⟨u, hu, y, h1, h2, h3, h4, h5⟩ := q9 _ ho
  have nd := s.nd
  rw [q5, h5] at nd
  obtain ⟨m1, m2, m3⟩ := List.nodup_append.mp nd
  obtain ⟨m4, m5, m6⟩ := List.nodup_append.mp m2
  have np : d ∉ pre := fun z => m3 d z d (List.mem_append_left _ (List.mem_singleton.mpr rfl)) rfl
  have nq : d ∉ post := fun z => m6 d (List.mem_singleton.mpr rfl) d z rfl
  refine ⟨pre ++ ([] ++ post), ⟨s.sub, s.store.congX (G := G.inHand a d C) (G' := G) rfl rfl rfl rfl rfl rfl, ?_, ?_, fun b hb => s.apart b ?_⟩, fun b hb => ?_⟩
  · rw [q1, set_mid q3, q2, set_mid q4]
    exact RE.join (RE.congX (G := G.inHand a d C) (G' := G) rfl rfl rfl rfl rfl rfl _ _ _ (.inr np) q6) ⟨none, sb, rfl, RE.congX (G := G.inHand a d C) (G' := G) rfl rfl rfl rfl rfl rfl _ _ _ (.inr nq) q7⟩
  · exact List.nodup_append.mpr ⟨m1, m5, fun b hb b' hb' z => m3 b hb b' (List.mem_append_right _ hb') z⟩
  · rw [q5]
    rcases List.mem_append.mp hb with h | h
    · exact List.mem_append_left _ h
    · exact List.mem_append_right _ (List.mem_append_right _ h)
  · rw [q5]
    rcases List.mem_append.mp hb with h | h
    · exact List.mem_append_left _ h
    · exact List.mem_append_right _ (List.mem_append_right _ h)
inductive RX where
  | ok (w : W)
  | exc (c : Nat) (x : D)
abbrev MFX := List W → Store → Option (RX × Store)
def XkG (G : Gd) (F : Hp) (θ : Th) (H : Hp) (r : RX) (S' : Store) : XK := fun cls d H' => match r with
  | .ok _ => False
  | .exc c x => ∃ dd y F' θ', cls = .ref (G.cls c) ∧ d = some dd ∧ H' dd = some (.xd [(G.exn c, y)]) ∧ R G F' x y ∧ F' dd = none ∧ dd ∉ θ' ∧ H dd = none ∧ Tr F θ H F' θ' H' ∧ (∀ a u, F' a = some u → H' a = some u) ∧ RS G F' θ' H' S'
def CxG (G : Gd) (outer : List Env) (H : Hp) (s : Shared) (F : Hp) (θ : Th) (r : RX) (S' : Store) (res : Result) (s' : Shared) : Prop := match res with
  | .ok (.ret u) => ∃ w, r = .ok w ∧ CeG G outer H s F θ w S' (.ok (.ret u)) s'
  | .ok _ => False
  | .error e => CX G.P G.w outer H s (XkG G F θ H r S') e s'
structure FnX (G : Gd) (mg : Str → Option Value) (base : Heap) (k : Nat) (f : Addr) (fd : FuncData) (ps : List Str) (m : MFX) : Prop where
  len : ∀ as S r, m as S = some r → as.length = ps.length
  run : ∀ (A : Around) (outer : List Env) (s : Shared) (H : Hp) (args : Args) (us : List Value) (vs : List V) (F : Hp) (θ : Th) (S : Store) (as : List W) (r : RX) (S' : Store), Room k A → A.guards = some [] → Env0 G.P G.w G.K mg base A outer s H →
    BindsTo s fd args (ps.zip us) → Vals vs us → (∀ a u, F a = some u → H a = some u) → RS G F θ H S → RWs G F θ H as vs [] → m as S = some (r, S') → codeAny (model G.P G.w) A (.call (.ref f) args) (CxG G outer H s F θ r S') s
theorem FnX.mono {G : Gd} {mg : Str → Option Value} {base : Heap} {j k : Nat} {f : Addr} {fd : FuncData} {ps : List Str} {m : MFX} (F : FnX G mg base j f fd ps m) (h : j ≤ k) : FnX G mg base k f fd ps m :=
  ⟨F.len, fun A outer s H args us vs F0 θ S as w S' hr => F.run A outer s H args us vs F0 θ S as w S' (hr.mono h)⟩
def KeX (G : Gd) (H : Hp) (fp : List Addr) (F' : Hp) (θ' : Th) (H' : Hp) (σ : L2.St) (Q : VK) : RX → Prop
  | .ok w => ∀ v f, Res G H fp F' θ' H' w v f → Q v H'
  | .exc c x => ∀ d y, H' d = some (.xd [(G.exn c, y)]) → R G F' x y → F' d = none → d ∉ θ' → d ∉ fp → H d = none → G.exw (.ref (G.cls c)) (some d) σ H'
structure KnX (G : Gd) (mg : Str → Option Value) (base : Heap) (x : Str) (k : Nat) (ps : List Str) (m : MFX) : Prop where
  ex : ∃ f fd, FnX G mg base k f fd ps m ∧ mg x = some (.ref f) ∧ PySem.W.keepIn G.K (.ref f) = true ∧ Binds G.K fd ps []
theorem KnX.mono {G : Gd} {mg : Str → Option Value} {base : Heap} {x : Str} {j k : Nat} {ps : List Str} {m : MFX} (h : KnX G mg base x j ps m) (l : j ≤ k) : KnX G mg base x k ps m := by
  obtain ⟨f, fd, a, b⟩ := h.ex
  exact ⟨f, fd, a.mono l, b⟩
structure KnCX (G : Gd) (mg : Str → Option Value) (base : Heap) (x : Str) (k : Nat) (m : MFX) : Prop where
  ex : ∃ C, mg x = some (.ref C) ∧ PySem.W.keepIn G.K (.ref C) = true ∧ ∀ (X : Cx), X.prog = G.P ∧ X.w = G.w ∧ X.K = G.K → X.mg = mg → X.base = base → Room k X.A → X.A.guards = some [] →
    ∀ (pins : List (Addr × Obj)) (σ : L2.St) (H : Hp) (s : Shared) (us : List Value) (vs : List V) (F : Hp) (θ : Th) (S S' : Store) (as : List W) (r : RX) (env : En) (fp : List Addr) (Q : VK), Inv X pins σ H s → Vals vs us → St G F θ H S env σ fp → RWs G F θ H as vs [] → m as S = some (r, S') →
      ∀ (W : WX), (Takes X W ∨ ∃ w, r = .ok w) → (∀ F' θ' H', Tr F θ H F' θ' H' → St G F' θ' H' S' env σ fp → KeX (G.wish W) H fp F' θ' H' σ Q r) → wpAny (model X.prog X.w) X.A (call (.ref C) us) (EP X pins σ Q) X.xe s
theorem KnCX.mono {G : Gd} {mg : Str → Option Value} {base : Heap} {x : Str} {j k : Nat} {m : MFX} (h : KnCX G mg base x j m) (l : j ≤ k) : KnCX G mg base x k m := by
  obtain ⟨C, a, b, c⟩ := h.ex
  exact ⟨C, a, b, fun X h1 h2 h3 hr => c X h1 h2 h3 (hr.mono l)⟩
end Zf
namespace Zf
open PySem PySem.Spec PyProof.Rows L2 PySem.W NdefX
def oexB (K : PySem.W.Frag) (C : Addr) : Bool := match K.lookup C with
  | some ⟨.type "type", _, .cls cd, sl⟩ => (match cd.mro, sl.toList with
    | .ref C' :: bm, [_, _, _, _, some (.builtin n), _] => decide (C' = C) && (decide (n = "ValueError.__new__") && (!cd.hasDel && (cd.hasDict && PySem.HandSPX.refsVE bm)))
    | _, _ => false)
  | _ => false
def oexAll (x : Str) (K : PySem.W.Frag) : Bool := oexB K (He.ga K x) && (He.eqO (PySem.W.findIn K (.ref (He.ga K x)) "__setattr__") (some (some (.builtin "object.__setattr__"))) && (decide (PySem.W.subIn K (.ref (He.ga K x)) (.type "BaseException") = some true) && (decide (PySem.W.typeIn K (.ref (He.ga K x)) = some (.type "type")) && PySem.W.keepIn K (.ref (He.ga K x)))))
def exfB (x : Str) (file qual : Str) (K : PySem.W.Frag) : Bool := match K.lookup (He.fAd K (x, some ("__init__" : Str))) with
  | some ⟨.type "function", _, .func fd, _⟩ => decide (fd.defaults = .none) && (decide (fd.kwdefaults = .none) && (decide (fd.annotations = none) && ((match fd.code with
      | .ref c => PySem.W.codeIn K (.ref c) qual && (match K.lookup c with
        | some ⟨_, _, .fields vs0, _⟩ => (match (vs0[2]? : Option Value) with
          | some (.str f _) => decide (file = f)
          | _ => false)
        | _ => false)
      | _ => false) && (match fd.closure with
      | [(_, cc)] => (match K.lookup cc with
        | some ⟨_, _, .cell (some (.ref C)), _⟩ => decide (C = He.ga K x)
        | _ => false)
      | _ => false))))
  | _ => false
def exiB (x fld : Str) (K : PySem.W.Frag) : Bool := He.eqO (PySem.W.findIn K (.ref (He.ga K x)) "__init__") (some (some (.ref (He.ma K (He.ga K x) "__init__")))) && (decide (PySem.W.typeIn K (.ref (He.ma K (He.ga K x) "__init__")) = some (.type "function")) && ((PySem.W.clsIn K (He.ga K x)).isSome && (decide (PySem.W.mroIn K (He.ga K x) (.ref (He.ga K x)) = some true) &&
  (He.eqO (PySem.W.nsIn K cStatics "thirdparty.any") (some none) && (He.eqO (PySem.W.ks_superIn K (He.ga K x) (He.ga K x) "__init__") (some (some (.builtin "ValueError.__init__"))) && (decide (PySem.W.subIn K (.ref (He.ga K x)) (.type "ValueError") = some true) && He.eqO (PySem.W.findIn K (.ref (He.ga K x)) fld) (some none)))))))
def exdB (x : Str) (K : PySem.W.Frag) : Bool := (PySem.W.clsIn K (He.ga K x)).isSome && (He.eqO (PySem.W.findIn K (.ref (He.ga K x)) "__getattribute__") (some (some (.builtin "BaseException.__getattribute__"))) && (He.eqO (PySem.W.findIn K (.ref (He.ga K x)) "__getattr__") (some none) && (decide (PySem.W.subIn K (.ref (He.ga K x)) (.type "BaseException") = some true) &&
  (He.eqO (PySem.W.findIn K (.ref (He.ga K x)) "__class__") (some (some (.builtin "object.__class__"))) && (He.eqO (PySem.W.specialIn K (.builtin "object.__class__") "__get__") (some (some (.builtin "getset_descriptor.__get__"))) && (decide (PySem.W.takesIn K (.builtin "object.__class__") = some true) && decide (PySem.W.mroIn K (He.ga K x) (.type "object") = some true)))))))
def kitB (x y : Str) (b : Bool) (K : PySem.W.Frag) : Bool := decide (PySem.W.kitOne K (.ref (He.ga K x)) (.ref (He.ga K y)) = some b)
def exmB (x y : Str) (b : Bool) (K : PySem.W.Frag) : Bool := decide (PySem.W.exmOne K (.ref (He.ga K x)) (.ref (He.ga K y)) = some b)
def xffB (x fld : Str) (K : PySem.W.Frag) : Bool := xfB K (He.ga K x) && He.eqO (PySem.W.findIn K (.ref (He.ga K x)) fld) (some none)
end Zf
namespace Zf
open PySem PySem.Spec PyProof.Rows L2 PySem.W
end Zf
namespace Zf
open PySem PySem.Spec PyProof.Rows L2
structure Alike (G G' : Gd) : Prop where
  P : G'.P = G.P
  w : G'.w = G.w
  K : G'.K = G.K
  cls : G'.cls = G.cls
  slt : G'.slt = G.slt
  exn : G'.exn = G.exn
  exk : G'.exk = .none
theorem Alike.trans {G G' G'' : Gd} (a : Alike G G') (b : Alike G' G'') : Alike G G'' := ⟨b.P.trans a.P, b.w.trans a.w, b.K.trans a.K, b.cls.trans a.cls, b.slt.trans a.slt, b.exn.trans a.exn, b.exk⟩
theorem Hd.to {fa : List He.Fa} {fn : List He.DefD} {ts : List He.Tab} {eb : Eb} {G G' : Gd} {mg : Str → Option Value} {base : Heap} (h : Hd fa fn ts eb G mg base) (e : Alike G G') : Hd fa fn ts eb G' mg base :=
  ⟨by rw [e.K]; exact h.kin, h.ns, by rw [e.w, e.K]; exact h.z, by rw [e.K]; exact h.sys⟩
theorem SlfAt.sub {G : Gd} {F H : Hp} {a dx : Addr} {c : Nat} {us : List (Str × V)} (sub : ∀ a u, F a = some u → H a = some u) (h : SlfAt G F a c dx us) : SlfAt G H a c dx us := h.keep fun b _ u => sub b u
def dvalT (kvs : List (List Key × D)) (k : List Key) : Option D := (kvs.find? fun kv => decide (kv.1 = k)).map (·.2)
theorem Rt.val {G : Gd} {F : Hp} (k : List Key) : ∀ {kvs : List (List Key × D)} {vs : List (List Key × V)}, Rt G F kvs vs → match dvalT kvs k with
    | some d => ∃ v, valV vs k = some v ∧ R G F d v
    | none => valV vs k = none
  | [], _, h => by
    rw [show _ = [] from h]
    rfl
  | (k', x) :: kvs, _, ⟨v, r, h1, h2, h3⟩ => by
    have ih := Rt.val k h3
    subst h1
    unfold dvalT at ih ⊢
    rw [List.find?_cons]
    by_cases c : k' = k
    · subst c
      simp only [decide_true, Option.map_some]
      exact ⟨v, valV_pos rfl, h2⟩
    · simp only [decide_eq_false c]
      rw [valV_neg (p := (k', v)) c]
      exact ih
theorem Rt.keys {G : Gd} {F : Hp} : ∀ {kvs : List (List Key × D)} {vs : List (List Key × V)}, Rt G F kvs vs → vs.map (·.1) = kvs.map (·.1)
  | [], _, h => by
    rw [show _ = [] from h]
    rfl
  | (k, x) :: r, _, ⟨v, r', h1, h2, h3⟩ => by
    rw [h1, List.map_cons, List.map_cons, Rt.keys h3]
theorem Rt.len {G : Gd} {F : Hp} {kvs : List (List Key × D)} {vs : List (List Key × V)} (h : Rt G F kvs vs) : vs.length = kvs.length := by
  have := congrArg List.length h.keys
  simpa using this
theorem Rt.any {G : Gd} {F : Hp} (k : List Key) {kvs : List (List Key × D)} {vs : List (List Key × V)} (h : Rt G F kvs vs) : (vs.any fun kv => decide (kv.1 = k)) = (kvs.any fun kv => decide (kv.1 = k)) := by
  have e : ∀ {α : Type} (l : List (List Key × α)), (l.any fun kv => decide (kv.1 = k)) = ((l.map (·.1)).any fun q => decide (q = k)) := fun l => by
    rw [List.any_map]
    rfl
  rw [e, e, h.keys]
end Zf
set_option maxHeartbeats 4000000
namespace Zf
open PySem PySem.Spec PyProof.Rows L2
end Zf
set_option maxHeartbeats 2000000
namespace Zf
open PySem PySem.Spec PyProof.Rows L2
structure ClsOk (G : Gd) (c : Nat) : Prop where
  ex : (G.slt c = [] ∧ Cls G.K (G.cls c)) ∨ (G.slt c ≠ [] ∧ SlX.SCls G.K (G.cls c))
structure KnM (G : Gd) (mg : Str → Option Value) (base : Heap) (c : Nat) (x : Str) (k : Nat) (ps : List Str) (m : MF) : Prop where
  ex : ∃ f fd, FnG G mg base k f fd ps m ∧ Meth G.K (G.cls c) x f ∧ Binds G.K fd ps []
  ok : ClsOk G c
theorem KnM.mono {G : Gd} {mg : Str → Option Value} {base : Heap} {c : Nat} {x : Str} {j k : Nat} {ps : List Str} {m : MF} (h : KnM G mg base c x j ps m) (l : j ≤ k) : KnM G mg base c x k ps m := by
  obtain ⟨f, fd, a, b⟩ := h.ex
  exact ⟨⟨f, fd, a.mono l, b⟩, h.ok⟩
structure KnP (G : Gd) (mg : Str → Option Value) (base : Heap) (c : Nat) (x : Str) (k : Nat) (ps : List Str) (m : MF) : Prop where
  ex : ∃ p f fd, FnG G mg base k f fd ps m ∧ PropOf G.K (G.cls c) x p f ∧ Binds G.K fd ps []
  ok : ClsOk G c
theorem KnP.mono {G : Gd} {mg : Str → Option Value} {base : Heap} {c : Nat} {x : Str} {j k : Nat} {ps : List Str} {m : MF} (h : KnP G mg base c x j ps m) (l : j ≤ k) : KnP G mg base c x k ps m := by
  obtain ⟨p, f, fd, a, b⟩ := h.ex
  exact ⟨⟨p, f, fd, a.mono l, b⟩, h.ok⟩
structure KnMX (G : Gd) (mg : Str → Option Value) (base : Heap) (c : Nat) (x : Str) (k : Nat) (ps : List Str) (m : MFX) : Prop where
  ex : ∃ f fd, FnX G mg base k f fd ps m ∧ Meth G.K (G.cls c) x f ∧ Binds G.K fd ps []
  ok : ClsOk G c
theorem KnMX.mono {G : Gd} {mg : Str → Option Value} {base : Heap} {c : Nat} {x : Str} {j k : Nat} {ps : List Str} {m : MFX} (h : KnMX G mg base c x j ps m) (l : j ≤ k) : KnMX G mg base c x k ps m := by
  obtain ⟨f, fd, a, b⟩ := h.ex
  exact ⟨⟨f, fd, a.mono l, b⟩, h.ok⟩
def frz (F H : Hp) (as : List Addr) : Hp := fun a => if a ∈ as then H a else F a
theorem frz_in {F H : Hp} {as : List Addr} {a : Addr} (h : a ∈ as) : frz F H as a = H a := if_pos h
theorem frz_out {F H : Hp} {as : List Addr} {a : Addr} (h : a ∉ as) : frz F H as a = F a := if_neg h
theorem RS.nt {G : Gd} {F H : Hp} {θ : Th} {S : Store} (r : RS G F θ H S) {a : Addr} (h : a ∈ θ) (ws : List Key) : H a ≠ some (.tup (ws.map kV)) := by
  intro z
  obtain ⟨n, hn, e⟩ := List.mem_iff_getElem.mp h
  have hl : n < S.length := by rw [← r.len]; exact hn
  obtain ⟨b, vs, h1, _, h3, _⟩ := r.cellR n S[n] (List.getElem?_eq_getElem hl)
  rw [List.getElem?_eq_getElem hn, e] at h1
  cases h1
  rcases h3 with h3 | ⟨h3, b, hb⟩ | ⟨kv, _, h3 | ⟨_, _, h3, _⟩⟩
  · rw [z] at h3
    cases h3
  · rw [z] at h3
    cases h3
    obtain ⟨k, _, e⟩ := List.mem_map.mp hb
    cases k <;> cases e
  · rw [z] at h3
    cases h3
  · rw [z] at h3
    cases h3
theorem St.frz {G : Gd} {F : Hp} {θ : Th} {H : Hp} {S : Store} {env : En} {σ : L2.St} {fp : List Addr} (s : St G F θ H S env σ fp) {as : List Addr} (h : ∀ a ∈ as, ∃ vs : List Key, H a = some (.tup (vs.map kV))) : Tr F θ H (frz F H as) θ H ∧ St G (Zf.frz F H as) θ H S env σ fp := by
  have le : Le F (Zf.frz F H as) := Le.of fun a u e => by
    by_cases q : a ∈ as
    · rw [frz_in q]; exact s.sub a u e
    · rw [frz_out q]; exact e
  have nth : ∀ a ∈ as, a ∉ θ := fun a ha z => by
    obtain ⟨vs, e⟩ := h a ha
    exact RS.nt s.store z vs e
  have t : Tr F θ H (Zf.frz F H as) θ H := by
    refine ⟨le, ⟨[], (List.append_nil θ).symm⟩, fun a h1 h2 => ?_, fun a h1 h2 => absurd h1 h2, fun a u _ e => e, fun a u e => ⟨u, e, fun _ => rfl⟩⟩
    by_cases q : a ∈ as
    · exact .inr ⟨nth a q, let ⟨ks, e⟩ := h a q; ⟨_, e⟩⟩
    · rw [frz_out q] at h2
      exact absurd h1 h2
  refine ⟨t, s.step t (fun a u e => ?_) (s.store.move le (fun b hb e => ?_) fun b hb u e => e)⟩
  · by_cases q : a ∈ as
    · rw [frz_in q] at e; exact e
    · rw [frz_out q] at e; exact s.sub a u e
  · rw [frz_out (fun q => nth b q hb)]
    exact e
end Zf
set_option maxHeartbeats 4000000
set_option maxHeartbeats 2000000
namespace Zf
open PySem PySem.Spec PyProof.Rows L2
theorem Rk.get {G : Gd} {F : Hp} : ∀ {kvs : List (Key × D)} {vs : List (Key × V)} {i : Nat} {k : Key} {x : D}, Rk G F kvs vs → kvs[i]? = some (k, x) → ∃ v, vs[i]? = some (k, v) ∧ R G F x v
  | [], _, _, _, _, _, e => by simp at e
  | (k0, x0) :: r, _, 0, k, x, ⟨v, r', h1, h2, h3⟩, e => by
    cases (show (k0, x0) = (k, x) by simpa using e)
    exact ⟨v, by rw [h1]; rfl, h2⟩
  | (k0, x0) :: r, _, i + 1, k, x, ⟨v, r', h1, h2, h3⟩, e => by
    obtain ⟨u, q1, q2⟩ := Rk.get (i := i) h3 (by simpa using e)
    exact ⟨u, by rw [h1]; simpa using q1, q2⟩
end Zf
namespace L2
open PySem PySem.Spec PyProof.Rows
end L2
namespace Zf
open PySem PySem.Spec PyProof.Rows L2
theorem Rt.get {G : Gd} {F : Hp} : ∀ {kvs : List (List Key × D)} {vs : List (List Key × V)} {i : Nat} {k : List Key} {x : D}, Rt G F kvs vs → kvs[i]? = some (k, x) → ∃ v, vs[i]? = some (k, v) ∧ R G F x v
  | [], _, _, _, _, _, e => by simp at e
  | (k0, x0) :: r, _, 0, k, x, ⟨v, r', h1, h2, h3⟩, e => by
    cases (show (k0, x0) = (k, x) by simpa using e)
    exact ⟨v, by rw [h1]; rfl, h2⟩
  | (k0, x0) :: r, _, i + 1, k, x, ⟨v, r', h1, h2, h3⟩, e => by
    obtain ⟨u, q1, q2⟩ := Rt.get (i := i) h3 (by simpa using e)
    exact ⟨u, by rw [h1]; simpa using q1, q2⟩
end Zf
namespace Zf
open PySem L2
end Zf
namespace Zf
open PySem PySem.Spec PyProof.Rows L2
end Zf
namespace PySem.SeqAt
open PySem
end PySem.SeqAt
namespace Zf
open PySem PySem.Spec PyProof.Rows L2
end Zf
set_option maxHeartbeats 4000000
namespace Zf
open PySem PySem.Spec PyProof.Rows L2
end Zf
namespace Zf
open PySem PySem.Spec PyProof.Rows L2
structure KnXD (G : Gd) (mg : Str → Option Value) (base : Heap) (x : Str) (k : Nat) (ps : List Str) (m : MFX) (dw : List D) : Prop where
  ex : ∃ f fd ds dvs, FnX G mg base k f fd ps m ∧ mg x = some (.ref f) ∧ PySem.W.keepIn G.K (.ref f) = true ∧ Vals dvs ds ∧ (∀ F, Rs G F dw dvs) ∧ Binds G.K fd ps ds
end Zf
namespace Zf
open PySem PySem.Spec PyProof.Rows L2
end Zf
namespace Zf
open PySem PySem.Spec PyProof.Rows L2
theorem SqP.to {K : PySem.W.Frag} {F H : Hp} {a : Addr} {xs : List V} (h : SqP K F a xs) (sub : ∀ a u, F a = some u → H a = some u) : SqT K H a xs := by
  rcases h with h | h
  · exact .inl (.inl (sub _ _ h))
  · exact .inr h
end Zf
namespace Zf
open PySem PySem.Spec PyProof.Rows L2
end Zf
set_option maxHeartbeats 2000000
namespace Zf
open PySem PySem.Spec PyProof.Rows L2
end Zf
namespace Zf
open PySem PySem.Spec PyProof.Rows L2
end Zf
namespace Zf
open PySem PySem.Spec PyProof.Rows L2
end Zf
namespace Zf
open PySem PySem.Spec PyProof.Rows L2 L2H
end Zf
namespace Zf
open PySem PySem.Spec PyProof.Rows L2
end Zf
namespace Zf
open PySem PySem.Spec PyProof.Rows L2
section
variable {G : Gd} {F : Hp} {θ : Th} {H : Hp}
theorem RW.str {w : W} {x : Str} {f : List Addr} (h : RW G F θ H w (.str x) f) : w = .d (.str x) ∧ f = [] := by
  cases w with
  | d d =>
    obtain ⟨h1, h2⟩ := h
    cases d with
    | str y =>
      have h1' : V.str x = V.str y := h1
      cases h1'
      exact ⟨rfl, h2⟩
    | non => cases (show V.str x = .non from h1)
    | bl b => cases (show V.str x = .bl b from h1)
    | int b => cases (show V.str x = .int b from h1)
    | lst xs => obtain ⟨a, vs, e, _⟩ := h1; cases e
    | ro xs => obtain ⟨a, vs, e, _⟩ := h1; cases e
    | tup xs => obtain ⟨a, vs, e, _⟩ := h1; cases e
    | dct xs => obtain ⟨a, vs, e, _⟩ := h1; cases e
    | dtp xs => obtain ⟨a, vs, e, _⟩ := h1; cases e
    | st ks => obtain ⟨a, e, _⟩ := h1; cases e
    | ins c fs => obtain ⟨a, dx, us, e, _⟩ := h1; cases e
  | r n => obtain ⟨⟨a, e, _⟩, _⟩ := h; cases e
  | c k n => obtain ⟨⟨a, e, _⟩, _⟩ := h; cases e
  | ev c g x => obtain ⟨_, _, e, _⟩ := h; cases e
  | own xs => obtain ⟨a, _, _, e, _⟩ := h; cases e
  | bor xs => obtain ⟨a, _, _, e, _⟩ := h; cases e
  | od xs => obtain ⟨a, _, _, e, _⟩ := h; cases e
  | bd xs => obtain ⟨a, _, _, e, _⟩ := h; cases e
  | slf c xs => obtain ⟨_, _, e, _⟩ := h; cases e
  | slb c xs => obtain ⟨_, _, e, _⟩ := h; cases e
  | exn c x => obtain ⟨_, e, _⟩ := h; cases e
end
end Zf
namespace Zf
open PySem PySem.Spec PyProof.Rows L2
end Zf
namespace Zf
open PySem PySem.Spec PyProof.Rows L2
end Zf
namespace Zf
open PySem PySem.Spec PyProof.Rows L2
end Zf
namespace Zf
open PySem PySem.Spec PyProof.Rows L2
end Zf
namespace Zf
open PySem PySem.Spec PyProof.Rows L2
end Zf
namespace Zf
open PySem PySem.Spec PyProof.Rows L2
end Zf
set_option maxHeartbeats 4000000
namespace Zf
open PySem PySem.Spec PyProof.Rows L2
def BindsK (K : PySem.W.Frag) (fd : FuncData) (ps : List Str) (n : Nat) (ks : List Str) : Prop := ∀ (s : Shared) (us ws : List Value), us.length = n → ws.length = ks.length → BindsTo s fd ⟨us, ks.zip ws⟩ (ps.zip (us ++ ws))
structure KnXK (G : Gd) (mg : Str → Option Value) (base : Heap) (x : Str) (k : Nat) (ps : List Str) (n : Nat) (ks : List Str) (m : MFX) (dw : List D) : Prop where
  ex : ∃ f fd ds dvs, (FnX G mg base k f fd ps m ∧ mg x = some (.ref f) ∧ PySem.W.keepIn G.K (.ref f) = true ∧ Vals dvs ds ∧ (∀ F, Rs G F dw dvs) ∧ Binds G.K fd ps ds) ∧ BindsK G.K fd ps n ks
theorem KnXK.d {G : Gd} {mg : Str → Option Value} {base : Heap} {x : Str} {k n : Nat} {ps ks : List Str} {m : MFX} {dw : List D} (h : KnXK G mg base x k ps n ks m dw) : KnXD G mg base x k ps m dw := by
  obtain ⟨f, fd, ds, dvs, z, _⟩ := h.ex
  exact ⟨f, fd, ds, dvs, z⟩
end Zf
namespace Zf
open PySem PySem.Spec PyProof.Rows L2
end Zf
set_option maxHeartbeats 2000000
namespace L2
open PySem PySem.Spec PyProof.Rows
end L2
namespace Zf
open PySem PySem.Spec PyProof.Rows L2
end Zf
namespace Zf
open PySem PySem.Spec PyProof.Rows L2
section
variable {X : Cx} {G : Gd} {e : Expr} {m : ME} {c j k : Nat} {x : Str} {p p1 pos : Pos}
def ex0B (x : Str) (K : PySem.W.Frag) : Bool := PySem.W.excIn K (He.ga K x) PySem.HandSPX.veTail "ValueError.__new__" && (PySem.W.keepIn K (.ref (He.ga K x)) && (decide (PySem.W.typeIn K (.ref (He.ga K x)) = some (.type "type")) && decide (PySem.W.subIn K (.ref (He.ga K x)) (.type "BaseException") = some true)))
def kitTB (x : Str) (T : String) (b : Bool) (K : PySem.W.Frag) : Bool := decide (PySem.W.kitOne K (.ref (He.ga K x)) (.type T) = some b)
end
end Zf
namespace L2
open PySem PySem.Spec PyProof.Rows
end L2
namespace Zf
open PySem PySem.Spec PyProof.Rows L2
def kitAB (x y z : Str) (b : Bool) (K : PySem.W.Frag) : Bool := decide (PySem.W.kitAny K (.ref (He.ga K x)) [.ref (He.ga K y), .ref (He.ga K z)] = some b)
def maskE (q : Nat × List Addr) (a : Addr) : Nat × List Addr := bif q.1.testBit a then q else (Nat.lor q.1 (Nat.shiftLeft 1 a), a :: q.2)
def growE (g : Addr → Option Obj) (q : Nat × List Addr × List Addr) : Nat × List Addr × List Addr :=
  let r := (q.2.2.flatMap fun a => match g a with
    | some o => He.refsD o
    | none => []).foldl maskE (q.1, [])
  (r.1, q.2.1 ++ r.2, r.2)
def asE (g : Addr → Option Obj) : Nat → Nat × List Addr × List Addr
  | 0 => (Nat.shiftLeft 1 mainGlobals, [mainGlobals], [mainGlobals])
  | n + 1 => growE g (asE g n)
def frE (g : Addr → Option Obj) (n : Nat) : PySem.W.Frag := He.frG g (sysModules :: cStatics :: (((asE g n).2.1.flatMap fun a => match g a with
    | some ⟨_, _, .func fd, _⟩ => fd.closure.map (·.2)
    | some ⟨_, _, .fields vs, _⟩ => vs.toList.flatMap fun v => (match v with
      | .ref b => (match g b with
        | some ⟨_, _, .func fd, _⟩ => He.refV fd.code
        | _ => [])
      | _ => [])
    | _ => []) ++ (asE g n).2.1))
def obsEG (n : Nat) (fa : List He.Fa) (fn : List He.DefD) (ts : List He.Tab) (eb : Eb) (g : Addr → Option Obj) : AlZ := obsZ fa fn ts eb (frE g n)
def hookE (n : Nat) (fa : List He.Fa) (fn : List He.DefD) (ts : List He.Tab) (eb : Eb) : PySem.W.Hook where
  α := AlZ
  obs := fun s => obsEG n fa fn ts eb s.heap.get?
  val := fun w => valZ fn ts eb w
  says := fun w h => ∃ K : PySem.W.Frag, K.In h ∧ SaysZ fa fn ts eb w K
  of := fun _ _ e => ⟨_, He.frG_in, e⟩
  keeps := fun _ _ _ ⟨K, hK, c⟩ k => ⟨K, PySem.W.Frag.In.keeps hK k, c⟩
theorem obsEG_eq {n : Nat} {fa : List He.Fa} {fn : List He.DefD} {ts : List He.Tab} {eb : Eb} {g : Addr → Option Obj} {s : Shared} (h : ∀ a, g a = s.heap.get? a) : obsEG n fa fn ts eb g = (hookE n fa fn ts eb).obs s := by
  have e : g = s.heap.get? := funext h
  rw [e]
  rfl
end Zf
set_option maxHeartbeats 4000000
namespace L10
open PySem PySem.Spec PyProof.Rows L2 Zf
def top (i : Nat) : Stmt := PySem.Challenge.pw_cutoutpieces_k10_errors.main.body.getD i (.Pass ⟨0, 0, 0, 0⟩)
def inCls (s : Stmt) (i : Nat) : Stmt := match s with
  | .ClassDef _ _ _ b _ _ _ _ _ _ _ => b.getD i (.Pass ⟨0, 0, 0, 0⟩)
  | _ => .Pass ⟨0, 0, 0, 0⟩
def clsOf (K : PySem.W.Frag) : Nat → Addr
  | 0 => He.ga K "Wrong"
  | 1 => He.ga K "Full"
  | 2 => He.ga K "Deep"
  | 3 => He.ga K "Many"
  | 4 => He.ga K "Twice"
  | 5 => He.ga K "NotLast"
  | 6 => He.ga K "NoLoop"
  | 7 => He.ga K "NoRow"
  | 8 => He.ga K "NoGap"
  | 9 => He.ga K "NoMark"
  | 10 => He.ga K "NoSpot"
  | 11 => He.ga K "BadWord"
  | 12 => He.ga K "NoStretch"
  | 13 => He.ga K "NoName"
  | 14 => He.ga K "Untold"
  | 15 => He.ga K "BadMark"
  | 16 => He.ga K "Overlap"
  | 17 => He.ga K "TooMany"
  | 18 => He.ga K "Refused"
  | 19 => He.ga K "NoEntry"
  | 20 => He.ga K "PieceError"
  | 21 => He.ga K "BadDeed"
  | 22 => He.ga K "Nothing"
  | 23 => He.ga K "NoText"
  | 24 => He.ga K "NoCommand"
  | _ => 0
def sltOf : Nat → List Str
  | _ => []
def exnOf : Nat → Str
  | 0 => "place"
  | 1 => "limit"
  | 2 => "limit"
  | 3 => "limit"
  | 4 => "mark"
  | 5 => "address"
  | 6 => "address"
  | 7 => "address"
  | 8 => "gap"
  | 9 => "mark"
  | 10 => "at"
  | 11 => "index"
  | 12 => "stretch"
  | 13 => "name"
  | 14 => "way"
  | 15 => "mark"
  | 16 => "mark"
  | 17 => "most"
  | 18 => "deed"
  | 19 => "many"
  | _ => ""
structure Has (G : Gd) : Prop where
  P : G.P = PySem.Challenge.rw_cutoutpieces_k10_errors.prog
  cls : G.cls = clsOf G.K
  slt : G.slt = sltOf
  exn : G.exn = exnOf
theorem Has.to {G G' : Gd} (h : Has G) (e : Alike G G') : Has G' := ⟨e.P.trans h.P, by rw [e.cls, e.K]; exact h.cls, e.slt.trans h.slt, e.exn.trans h.exn⟩
def fn : List He.DefD := [⟨("_law_bag", none), "_law_bag", "_law_bag", defArgs (top 27), defBody (top 27), defScope (top 27), [], []⟩,
  ⟨("_law_take", none), "_law_take", "_law_take", defArgs (top 28), defBody (top 28), defScope (top 28), [], []⟩,
  ⟨("_law_flags", none), "_law_flags", "_law_flags", defArgs (top 29), defBody (top 29), defScope (top 29), [], []⟩,
  ⟨("_law_made", none), "_law_made", "_law_made", defArgs (top 30), defBody (top 30), defScope (top 30), [], []⟩,
  ⟨("_law_kept", none), "_law_kept", "_law_kept", defArgs (top 31), defBody (top 31), defScope (top 31), [], []⟩,
  ⟨("_law_caught", none), "_law_caught", "_law_caught", defArgs (top 32), defBody (top 32), defScope (top 32), [], []⟩,
  ⟨("law", none), "law", "law", defArgs (top 33), defBody (top 33), defScope (top 33), [], []⟩]
def fa : List He.Fa := [.free "abs", .free "int", .free "isinstance", .free "len", .free "list", .free "range", .glo "_law_bag", .glo "_law_take", .glo "_law_flags", .glo "_law_made", .glo "_law_kept", .glo "_law_caught", .glo "law", .glo "Twice", .glo "Many", .glo "Deep", .glo "Full", .glo "Wrong", .glo "NoGap", .glo "NoRow", .glo "NoLoop", .glo "NotLast", .glo "NoStretch", .glo "BadWord", .glo "NoSpot", .glo "NoMark", .glo "Overlap", .glo "BadMark", .glo "Untold", .glo "NoName", .glo "BadDeed", .glo "NoEntry", .glo "Refused", .glo "TooMany", .glo "NoCommand", .glo "NoText", .glo "Nothing", .free "super", .glo "PieceError", .free "ValueError"]
def ts : List He.Tab := []
def d_NoLoop : He.DefD := ⟨("NoLoop", some "__init__"), "__init__", "NoLoop.__init__", defArgs (inCls (top 8) 0), defBody (inCls (top 8) 0), defScope (inCls (top 8) 0), [], []⟩
def d_NotLast : He.DefD := ⟨("NotLast", some "__init__"), "__init__", "NotLast.__init__", defArgs (inCls (top 7) 0), defBody (inCls (top 7) 0), defScope (inCls (top 7) 0), [], []⟩
def d_Twice : He.DefD := ⟨("Twice", some "__init__"), "__init__", "Twice.__init__", defArgs (inCls (top 6) 0), defBody (inCls (top 6) 0), defScope (inCls (top 6) 0), [], []⟩
def d_Many : He.DefD := ⟨("Many", some "__init__"), "__init__", "Many.__init__", defArgs (inCls (top 5) 0), defBody (inCls (top 5) 0), defScope (inCls (top 5) 0), [], []⟩
def d_Deep : He.DefD := ⟨("Deep", some "__init__"), "__init__", "Deep.__init__", defArgs (inCls (top 4) 0), defBody (inCls (top 4) 0), defScope (inCls (top 4) 0), [], []⟩
def d_Full : He.DefD := ⟨("Full", some "__init__"), "__init__", "Full.__init__", defArgs (inCls (top 3) 0), defBody (inCls (top 3) 0), defScope (inCls (top 3) 0), [], []⟩
def d_Wrong : He.DefD := ⟨("Wrong", some "__init__"), "__init__", "Wrong.__init__", defArgs (inCls (top 2) 0), defBody (inCls (top 2) 0), defScope (inCls (top 2) 0), [], []⟩
def d_NoStretch : He.DefD := ⟨("NoStretch", some "__init__"), "__init__", "NoStretch.__init__", defArgs (inCls (top 14) 0), defBody (inCls (top 14) 0), defScope (inCls (top 14) 0), [], []⟩
def d_BadWord : He.DefD := ⟨("BadWord", some "__init__"), "__init__", "BadWord.__init__", defArgs (inCls (top 13) 0), defBody (inCls (top 13) 0), defScope (inCls (top 13) 0), [], []⟩
def d_NoSpot : He.DefD := ⟨("NoSpot", some "__init__"), "__init__", "NoSpot.__init__", defArgs (inCls (top 12) 0), defBody (inCls (top 12) 0), defScope (inCls (top 12) 0), [], []⟩
def d_NoMark : He.DefD := ⟨("NoMark", some "__init__"), "__init__", "NoMark.__init__", defArgs (inCls (top 11) 0), defBody (inCls (top 11) 0), defScope (inCls (top 11) 0), [], []⟩
def d_NoGap : He.DefD := ⟨("NoGap", some "__init__"), "__init__", "NoGap.__init__", defArgs (inCls (top 10) 0), defBody (inCls (top 10) 0), defScope (inCls (top 10) 0), [], []⟩
def d_NoRow : He.DefD := ⟨("NoRow", some "__init__"), "__init__", "NoRow.__init__", defArgs (inCls (top 9) 0), defBody (inCls (top 9) 0), defScope (inCls (top 9) 0), [], []⟩
def d_Refused : He.DefD := ⟨("Refused", some "__init__"), "__init__", "Refused.__init__", defArgs (inCls (top 21) 0), defBody (inCls (top 21) 0), defScope (inCls (top 21) 0), [], []⟩
def d_TooMany : He.DefD := ⟨("TooMany", some "__init__"), "__init__", "TooMany.__init__", defArgs (inCls (top 19) 0), defBody (inCls (top 19) 0), defScope (inCls (top 19) 0), [], []⟩
def d_Overlap : He.DefD := ⟨("Overlap", some "__init__"), "__init__", "Overlap.__init__", defArgs (inCls (top 18) 0), defBody (inCls (top 18) 0), defScope (inCls (top 18) 0), [], []⟩
def d_BadMark : He.DefD := ⟨("BadMark", some "__init__"), "__init__", "BadMark.__init__", defArgs (inCls (top 17) 0), defBody (inCls (top 17) 0), defScope (inCls (top 17) 0), [], []⟩
def d_Untold : He.DefD := ⟨("Untold", some "__init__"), "__init__", "Untold.__init__", defArgs (inCls (top 16) 0), defBody (inCls (top 16) 0), defScope (inCls (top 16) 0), [], []⟩
def d_NoName : He.DefD := ⟨("NoName", some "__init__"), "__init__", "NoName.__init__", defArgs (inCls (top 15) 0), defBody (inCls (top 15) 0), defScope (inCls (top 15) 0), [], []⟩
def d_NoEntry : He.DefD := ⟨("NoEntry", some "__init__"), "__init__", "NoEntry.__init__", defArgs (inCls (top 23) 0), defBody (inCls (top 23) 0), defScope (inCls (top 23) 0), [], []⟩
def eb : Eb := ⟨[sysB,
  exdB "Wrong",
  kitB "Wrong" "Twice" false,
  exdB "Full",
  kitB "Full" "Twice" false,
  exdB "Deep",
  kitB "Deep" "Twice" false,
  exdB "Many",
  kitB "Many" "Twice" false,
  exdB "Twice",
  kitB "Twice" "Twice" true,
  exdB "NotLast",
  kitB "NotLast" "Twice" false,
  exdB "NoLoop",
  kitB "NoLoop" "Twice" false,
  exdB "NoRow",
  kitB "NoRow" "Twice" false,
  exdB "NoGap",
  kitB "NoGap" "Twice" false,
  exdB "NoMark",
  kitB "NoMark" "Twice" false,
  exdB "NoSpot",
  kitB "NoSpot" "Twice" false,
  exdB "BadWord",
  kitB "BadWord" "Twice" false,
  exdB "NoStretch",
  kitB "NoStretch" "Twice" false,
  exdB "NoName",
  kitB "NoName" "Twice" false,
  exdB "Untold",
  kitB "Untold" "Twice" false,
  exdB "BadMark",
  kitB "BadMark" "Twice" false,
  exdB "Overlap",
  kitB "Overlap" "Twice" false,
  exdB "TooMany",
  kitB "TooMany" "Twice" false,
  exdB "Refused",
  kitB "Refused" "Twice" false,
  exdB "NoEntry",
  kitB "NoEntry" "Twice" false,
  exdB "PieceError",
  kitB "PieceError" "Twice" false,
  exdB "BadDeed",
  kitB "BadDeed" "Twice" false,
  exdB "Nothing",
  kitB "Nothing" "Twice" false,
  exdB "NoText",
  kitB "NoText" "Twice" false,
  exdB "NoCommand",
  kitB "NoCommand" "Twice" false,
  kitB "Wrong" "Many" false,
  kitB "Full" "Many" false,
  kitB "Deep" "Many" false,
  kitB "Many" "Many" true,
  kitB "Twice" "Many" false,
  kitB "NotLast" "Many" false,
  kitB "NoLoop" "Many" false,
  kitB "NoRow" "Many" false,
  kitB "NoGap" "Many" false,
  kitB "NoMark" "Many" false,
  kitB "NoSpot" "Many" false,
  kitB "BadWord" "Many" false,
  kitB "NoStretch" "Many" false,
  kitB "NoName" "Many" false,
  kitB "Untold" "Many" false,
  kitB "BadMark" "Many" false,
  kitB "Overlap" "Many" false,
  kitB "TooMany" "Many" false,
  kitB "Refused" "Many" false,
  kitB "NoEntry" "Many" false,
  kitB "PieceError" "Many" false,
  kitB "BadDeed" "Many" false,
  kitB "Nothing" "Many" false,
  kitB "NoText" "Many" false,
  kitB "NoCommand" "Many" false,
  kitB "Wrong" "Deep" false,
  kitB "Full" "Deep" false,
  kitB "Deep" "Deep" true,
  kitB "Many" "Deep" false,
  kitB "Twice" "Deep" false,
  kitB "NotLast" "Deep" false,
  kitB "NoLoop" "Deep" false,
  kitB "NoRow" "Deep" false,
  kitB "NoGap" "Deep" false,
  kitB "NoMark" "Deep" false,
  kitB "NoSpot" "Deep" false,
  kitB "BadWord" "Deep" false,
  kitB "NoStretch" "Deep" false,
  kitB "NoName" "Deep" false,
  kitB "Untold" "Deep" false,
  kitB "BadMark" "Deep" false,
  kitB "Overlap" "Deep" false,
  kitB "TooMany" "Deep" false,
  kitB "Refused" "Deep" false,
  kitB "NoEntry" "Deep" false,
  kitB "PieceError" "Deep" false,
  kitB "BadDeed" "Deep" false,
  kitB "Nothing" "Deep" false,
  kitB "NoText" "Deep" false,
  kitB "NoCommand" "Deep" false,
  kitB "Wrong" "Full" false,
  kitB "Full" "Full" true,
  kitB "Deep" "Full" false,
  kitB "Many" "Full" false,
  kitB "Twice" "Full" false,
  kitB "NotLast" "Full" false,
  kitB "NoLoop" "Full" false,
  kitB "NoRow" "Full" false,
  kitB "NoGap" "Full" false,
  kitB "NoMark" "Full" false,
  kitB "NoSpot" "Full" false,
  kitB "BadWord" "Full" false,
  kitB "NoStretch" "Full" false,
  kitB "NoName" "Full" false,
  kitB "Untold" "Full" false,
  kitB "BadMark" "Full" false,
  kitB "Overlap" "Full" false,
  kitB "TooMany" "Full" false,
  kitB "Refused" "Full" false,
  kitB "NoEntry" "Full" false,
  kitB "PieceError" "Full" false,
  kitB "BadDeed" "Full" false,
  kitB "Nothing" "Full" false,
  kitB "NoText" "Full" false,
  kitB "NoCommand" "Full" false,
  kitB "Wrong" "Wrong" true,
  kitB "Full" "Wrong" false,
  kitB "Deep" "Wrong" false,
  kitB "Many" "Wrong" false,
  kitB "Twice" "Wrong" false,
  kitB "NotLast" "Wrong" false,
  kitB "NoLoop" "Wrong" false,
  kitB "NoRow" "Wrong" false,
  kitB "NoGap" "Wrong" false,
  kitB "NoMark" "Wrong" false,
  kitB "NoSpot" "Wrong" false,
  kitB "BadWord" "Wrong" false,
  kitB "NoStretch" "Wrong" false,
  kitB "NoName" "Wrong" false,
  kitB "Untold" "Wrong" false,
  kitB "BadMark" "Wrong" false,
  kitB "Overlap" "Wrong" false,
  kitB "TooMany" "Wrong" false,
  kitB "Refused" "Wrong" false,
  kitB "NoEntry" "Wrong" false,
  kitB "PieceError" "Wrong" false,
  kitB "BadDeed" "Wrong" false,
  kitB "Nothing" "Wrong" false,
  kitB "NoText" "Wrong" false,
  kitB "NoCommand" "Wrong" false,
  kitB "Wrong" "NoGap" false,
  kitB "Full" "NoGap" false,
  kitB "Deep" "NoGap" false,
  kitB "Many" "NoGap" false,
  kitB "Twice" "NoGap" false,
  kitB "NotLast" "NoGap" false,
  kitB "NoLoop" "NoGap" false,
  kitB "NoRow" "NoGap" false,
  kitB "NoGap" "NoGap" true,
  kitB "NoMark" "NoGap" false,
  kitB "NoSpot" "NoGap" false,
  kitB "BadWord" "NoGap" false,
  kitB "NoStretch" "NoGap" false,
  kitB "NoName" "NoGap" false,
  kitB "Untold" "NoGap" false,
  kitB "BadMark" "NoGap" false,
  kitB "Overlap" "NoGap" false,
  kitB "TooMany" "NoGap" false,
  kitB "Refused" "NoGap" false,
  kitB "NoEntry" "NoGap" false,
  kitB "PieceError" "NoGap" false,
  kitB "BadDeed" "NoGap" false,
  kitB "Nothing" "NoGap" false,
  kitB "NoText" "NoGap" false,
  kitB "NoCommand" "NoGap" false,
  kitB "Wrong" "NoRow" false,
  kitB "Full" "NoRow" false,
  kitB "Deep" "NoRow" false,
  kitB "Many" "NoRow" false,
  kitB "Twice" "NoRow" false,
  kitB "NotLast" "NoRow" false,
  kitB "NoLoop" "NoRow" false,
  kitB "NoRow" "NoRow" true,
  kitB "NoGap" "NoRow" false,
  kitB "NoMark" "NoRow" false,
  kitB "NoSpot" "NoRow" false,
  kitB "BadWord" "NoRow" false,
  kitB "NoStretch" "NoRow" false,
  kitB "NoName" "NoRow" false,
  kitB "Untold" "NoRow" false,
  kitB "BadMark" "NoRow" false,
  kitB "Overlap" "NoRow" false,
  kitB "TooMany" "NoRow" false,
  kitB "Refused" "NoRow" false,
  kitB "NoEntry" "NoRow" false,
  kitB "PieceError" "NoRow" false,
  kitB "BadDeed" "NoRow" false,
  kitB "Nothing" "NoRow" false,
  kitB "NoText" "NoRow" false,
  kitB "NoCommand" "NoRow" false,
  kitB "Wrong" "NoLoop" false,
  kitB "Full" "NoLoop" false,
  kitB "Deep" "NoLoop" false,
  kitB "Many" "NoLoop" false,
  kitB "Twice" "NoLoop" false,
  kitB "NotLast" "NoLoop" false,
  kitB "NoLoop" "NoLoop" true,
  kitB "NoRow" "NoLoop" false,
  kitB "NoGap" "NoLoop" false,
  kitB "NoMark" "NoLoop" false,
  kitB "NoSpot" "NoLoop" false,
  kitB "BadWord" "NoLoop" false,
  kitB "NoStretch" "NoLoop" false,
  kitB "NoName" "NoLoop" false,
  kitB "Untold" "NoLoop" false,
  kitB "BadMark" "NoLoop" false,
  kitB "Overlap" "NoLoop" false,
  kitB "TooMany" "NoLoop" false,
  kitB "Refused" "NoLoop" false,
  kitB "NoEntry" "NoLoop" false,
  kitB "PieceError" "NoLoop" false,
  kitB "BadDeed" "NoLoop" false,
  kitB "Nothing" "NoLoop" false,
  kitB "NoText" "NoLoop" false,
  kitB "NoCommand" "NoLoop" false,
  kitB "Wrong" "NotLast" false,
  kitB "Full" "NotLast" false,
  kitB "Deep" "NotLast" false,
  kitB "Many" "NotLast" false,
  kitB "Twice" "NotLast" false,
  kitB "NotLast" "NotLast" true,
  kitB "NoLoop" "NotLast" false,
  kitB "NoRow" "NotLast" false,
  kitB "NoGap" "NotLast" false,
  kitB "NoMark" "NotLast" false,
  kitB "NoSpot" "NotLast" false,
  kitB "BadWord" "NotLast" false,
  kitB "NoStretch" "NotLast" false,
  kitB "NoName" "NotLast" false,
  kitB "Untold" "NotLast" false,
  kitB "BadMark" "NotLast" false,
  kitB "Overlap" "NotLast" false,
  kitB "TooMany" "NotLast" false,
  kitB "Refused" "NotLast" false,
  kitB "NoEntry" "NotLast" false,
  kitB "PieceError" "NotLast" false,
  kitB "BadDeed" "NotLast" false,
  kitB "Nothing" "NotLast" false,
  kitB "NoText" "NotLast" false,
  kitB "NoCommand" "NotLast" false,
  kitB "Wrong" "NoStretch" false,
  kitB "Full" "NoStretch" false,
  kitB "Deep" "NoStretch" false,
  kitB "Many" "NoStretch" false,
  kitB "Twice" "NoStretch" false,
  kitB "NotLast" "NoStretch" false,
  kitB "NoLoop" "NoStretch" false,
  kitB "NoRow" "NoStretch" false,
  kitB "NoGap" "NoStretch" false,
  kitB "NoMark" "NoStretch" false,
  kitB "NoSpot" "NoStretch" false,
  kitB "BadWord" "NoStretch" false,
  kitB "NoStretch" "NoStretch" true,
  kitB "NoName" "NoStretch" false,
  kitB "Untold" "NoStretch" false,
  kitB "BadMark" "NoStretch" false,
  kitB "Overlap" "NoStretch" false,
  kitB "TooMany" "NoStretch" false,
  kitB "Refused" "NoStretch" false,
  kitB "NoEntry" "NoStretch" false,
  kitB "PieceError" "NoStretch" false,
  kitB "BadDeed" "NoStretch" false,
  kitB "Nothing" "NoStretch" false,
  kitB "NoText" "NoStretch" false,
  kitB "NoCommand" "NoStretch" false,
  kitB "Wrong" "BadWord" false,
  kitB "Full" "BadWord" false,
  kitB "Deep" "BadWord" false,
  kitB "Many" "BadWord" false,
  kitB "Twice" "BadWord" false,
  kitB "NotLast" "BadWord" false,
  kitB "NoLoop" "BadWord" false,
  kitB "NoRow" "BadWord" false,
  kitB "NoGap" "BadWord" false,
  kitB "NoMark" "BadWord" false,
  kitB "NoSpot" "BadWord" false,
  kitB "BadWord" "BadWord" true,
  kitB "NoStretch" "BadWord" false,
  kitB "NoName" "BadWord" false,
  kitB "Untold" "BadWord" false,
  kitB "BadMark" "BadWord" false,
  kitB "Overlap" "BadWord" false,
  kitB "TooMany" "BadWord" false,
  kitB "Refused" "BadWord" false,
  kitB "NoEntry" "BadWord" false,
  kitB "PieceError" "BadWord" false,
  kitB "BadDeed" "BadWord" false,
  kitB "Nothing" "BadWord" false,
  kitB "NoText" "BadWord" false,
  kitB "NoCommand" "BadWord" false,
  kitB "Wrong" "NoSpot" false,
  kitB "Full" "NoSpot" false,
  kitB "Deep" "NoSpot" false,
  kitB "Many" "NoSpot" false,
  kitB "Twice" "NoSpot" false,
  kitB "NotLast" "NoSpot" false,
  kitB "NoLoop" "NoSpot" false,
  kitB "NoRow" "NoSpot" false,
  kitB "NoGap" "NoSpot" false,
  kitB "NoMark" "NoSpot" false,
  kitB "NoSpot" "NoSpot" true,
  kitB "BadWord" "NoSpot" false,
  kitB "NoStretch" "NoSpot" false,
  kitB "NoName" "NoSpot" false,
  kitB "Untold" "NoSpot" false,
  kitB "BadMark" "NoSpot" false,
  kitB "Overlap" "NoSpot" false,
  kitB "TooMany" "NoSpot" false,
  kitB "Refused" "NoSpot" false,
  kitB "NoEntry" "NoSpot" false,
  kitB "PieceError" "NoSpot" false,
  kitB "BadDeed" "NoSpot" false,
  kitB "Nothing" "NoSpot" false,
  kitB "NoText" "NoSpot" false,
  kitB "NoCommand" "NoSpot" false,
  kitB "Wrong" "NoMark" false,
  kitB "Full" "NoMark" false,
  kitB "Deep" "NoMark" false,
  kitB "Many" "NoMark" false,
  kitB "Twice" "NoMark" false,
  kitB "NotLast" "NoMark" false,
  kitB "NoLoop" "NoMark" false,
  kitB "NoRow" "NoMark" false,
  kitB "NoGap" "NoMark" false,
  kitB "NoMark" "NoMark" true,
  kitB "NoSpot" "NoMark" false,
  kitB "BadWord" "NoMark" false,
  kitB "NoStretch" "NoMark" false,
  kitB "NoName" "NoMark" false,
  kitB "Untold" "NoMark" false,
  kitB "BadMark" "NoMark" false,
  kitB "Overlap" "NoMark" false,
  kitB "TooMany" "NoMark" false,
  kitB "Refused" "NoMark" false,
  kitB "NoEntry" "NoMark" false,
  kitB "PieceError" "NoMark" false,
  kitB "BadDeed" "NoMark" false,
  kitB "Nothing" "NoMark" false,
  kitB "NoText" "NoMark" false,
  kitB "NoCommand" "NoMark" false,
  kitB "Wrong" "Overlap" false,
  kitB "Full" "Overlap" false,
  kitB "Deep" "Overlap" false,
  kitB "Many" "Overlap" false,
  kitB "Twice" "Overlap" false,
  kitB "NotLast" "Overlap" false,
  kitB "NoLoop" "Overlap" false,
  kitB "NoRow" "Overlap" false,
  kitB "NoGap" "Overlap" false,
  kitB "NoMark" "Overlap" false,
  kitB "NoSpot" "Overlap" false,
  kitB "BadWord" "Overlap" false,
  kitB "NoStretch" "Overlap" false,
  kitB "NoName" "Overlap" false,
  kitB "Untold" "Overlap" false,
  kitB "BadMark" "Overlap" false,
  kitB "Overlap" "Overlap" true,
  kitB "TooMany" "Overlap" false,
  kitB "Refused" "Overlap" false,
  kitB "NoEntry" "Overlap" false,
  kitB "PieceError" "Overlap" false,
  kitB "BadDeed" "Overlap" false,
  kitB "Nothing" "Overlap" false,
  kitB "NoText" "Overlap" false,
  kitB "NoCommand" "Overlap" false,
  kitB "Wrong" "BadMark" false,
  kitB "Full" "BadMark" false,
  kitB "Deep" "BadMark" false,
  kitB "Many" "BadMark" false,
  kitB "Twice" "BadMark" false,
  kitB "NotLast" "BadMark" false,
  kitB "NoLoop" "BadMark" false,
  kitB "NoRow" "BadMark" false,
  kitB "NoGap" "BadMark" false,
  kitB "NoMark" "BadMark" false,
  kitB "NoSpot" "BadMark" false,
  kitB "BadWord" "BadMark" false,
  kitB "NoStretch" "BadMark" false,
  kitB "NoName" "BadMark" false,
  kitB "Untold" "BadMark" false,
  kitB "BadMark" "BadMark" true,
  kitB "Overlap" "BadMark" false,
  kitB "TooMany" "BadMark" false,
  kitB "Refused" "BadMark" false,
  kitB "NoEntry" "BadMark" false,
  kitB "PieceError" "BadMark" false,
  kitB "BadDeed" "BadMark" false,
  kitB "Nothing" "BadMark" false,
  kitB "NoText" "BadMark" false,
  kitB "NoCommand" "BadMark" false,
  kitB "Wrong" "Untold" false,
  kitB "Full" "Untold" false,
  kitB "Deep" "Untold" false,
  kitB "Many" "Untold" false,
  kitB "Twice" "Untold" false,
  kitB "NotLast" "Untold" false,
  kitB "NoLoop" "Untold" false,
  kitB "NoRow" "Untold" false,
  kitB "NoGap" "Untold" false,
  kitB "NoMark" "Untold" false,
  kitB "NoSpot" "Untold" false,
  kitB "BadWord" "Untold" false,
  kitB "NoStretch" "Untold" false,
  kitB "NoName" "Untold" false,
  kitB "Untold" "Untold" true,
  kitB "BadMark" "Untold" false,
  kitB "Overlap" "Untold" false,
  kitB "TooMany" "Untold" false,
  kitB "Refused" "Untold" false,
  kitB "NoEntry" "Untold" false,
  kitB "PieceError" "Untold" false,
  kitB "BadDeed" "Untold" false,
  kitB "Nothing" "Untold" false,
  kitB "NoText" "Untold" false,
  kitB "NoCommand" "Untold" false,
  kitB "Wrong" "NoName" false,
  kitB "Full" "NoName" false,
  kitB "Deep" "NoName" false,
  kitB "Many" "NoName" false,
  kitB "Twice" "NoName" false,
  kitB "NotLast" "NoName" false,
  kitB "NoLoop" "NoName" false,
  kitB "NoRow" "NoName" false,
  kitB "NoGap" "NoName" false,
  kitB "NoMark" "NoName" false,
  kitB "NoSpot" "NoName" false,
  kitB "BadWord" "NoName" false,
  kitB "NoStretch" "NoName" false,
  kitB "NoName" "NoName" true,
  kitB "Untold" "NoName" false,
  kitB "BadMark" "NoName" false,
  kitB "Overlap" "NoName" false,
  kitB "TooMany" "NoName" false,
  kitB "Refused" "NoName" false,
  kitB "NoEntry" "NoName" false,
  kitB "PieceError" "NoName" false,
  kitB "BadDeed" "NoName" false,
  kitB "Nothing" "NoName" false,
  kitB "NoText" "NoName" false,
  kitB "NoCommand" "NoName" false,
  kitB "Wrong" "BadDeed" false,
  kitB "Full" "BadDeed" false,
  kitB "Deep" "BadDeed" false,
  kitB "Many" "BadDeed" false,
  kitB "Twice" "BadDeed" false,
  kitB "NotLast" "BadDeed" false,
  kitB "NoLoop" "BadDeed" false,
  kitB "NoRow" "BadDeed" false,
  kitB "NoGap" "BadDeed" false,
  kitB "NoMark" "BadDeed" false,
  kitB "NoSpot" "BadDeed" false,
  kitB "BadWord" "BadDeed" false,
  kitB "NoStretch" "BadDeed" false,
  kitB "NoName" "BadDeed" false,
  kitB "Untold" "BadDeed" false,
  kitB "BadMark" "BadDeed" false,
  kitB "Overlap" "BadDeed" false,
  kitB "TooMany" "BadDeed" false,
  kitB "Refused" "BadDeed" false,
  kitB "NoEntry" "BadDeed" false,
  kitB "PieceError" "BadDeed" false,
  kitB "BadDeed" "BadDeed" true,
  kitB "Nothing" "BadDeed" false,
  kitB "NoText" "BadDeed" false,
  kitB "NoCommand" "BadDeed" false,
  kitB "Wrong" "NoEntry" false,
  kitB "Full" "NoEntry" false,
  kitB "Deep" "NoEntry" false,
  kitB "Many" "NoEntry" false,
  kitB "Twice" "NoEntry" false,
  kitB "NotLast" "NoEntry" false,
  kitB "NoLoop" "NoEntry" false,
  kitB "NoRow" "NoEntry" false,
  kitB "NoGap" "NoEntry" false,
  kitB "NoMark" "NoEntry" false,
  kitB "NoSpot" "NoEntry" false,
  kitB "BadWord" "NoEntry" false,
  kitB "NoStretch" "NoEntry" false,
  kitB "NoName" "NoEntry" false,
  kitB "Untold" "NoEntry" false,
  kitB "BadMark" "NoEntry" false,
  kitB "Overlap" "NoEntry" false,
  kitB "TooMany" "NoEntry" false,
  kitB "Refused" "NoEntry" false,
  kitB "NoEntry" "NoEntry" true,
  kitB "PieceError" "NoEntry" false,
  kitB "BadDeed" "NoEntry" false,
  kitB "Nothing" "NoEntry" false,
  kitB "NoText" "NoEntry" false,
  kitB "NoCommand" "NoEntry" false,
  kitB "Wrong" "Refused" false,
  kitB "Full" "Refused" false,
  kitB "Deep" "Refused" false,
  kitB "Many" "Refused" false,
  kitB "Twice" "Refused" false,
  kitB "NotLast" "Refused" false,
  kitB "NoLoop" "Refused" false,
  kitB "NoRow" "Refused" false,
  kitB "NoGap" "Refused" false,
  kitB "NoMark" "Refused" false,
  kitB "NoSpot" "Refused" false,
  kitB "BadWord" "Refused" false,
  kitB "NoStretch" "Refused" false,
  kitB "NoName" "Refused" false,
  kitB "Untold" "Refused" false,
  kitB "BadMark" "Refused" false,
  kitB "Overlap" "Refused" false,
  kitB "TooMany" "Refused" false,
  kitB "Refused" "Refused" true,
  kitB "NoEntry" "Refused" false,
  kitB "PieceError" "Refused" false,
  kitB "BadDeed" "Refused" false,
  kitB "Nothing" "Refused" false,
  kitB "NoText" "Refused" false,
  kitB "NoCommand" "Refused" false,
  kitB "Wrong" "TooMany" false,
  kitB "Full" "TooMany" false,
  kitB "Deep" "TooMany" false,
  kitB "Many" "TooMany" false,
  kitB "Twice" "TooMany" false,
  kitB "NotLast" "TooMany" false,
  kitB "NoLoop" "TooMany" false,
  kitB "NoRow" "TooMany" false,
  kitB "NoGap" "TooMany" false,
  kitB "NoMark" "TooMany" false,
  kitB "NoSpot" "TooMany" false,
  kitB "BadWord" "TooMany" false,
  kitB "NoStretch" "TooMany" false,
  kitB "NoName" "TooMany" false,
  kitB "Untold" "TooMany" false,
  kitB "BadMark" "TooMany" false,
  kitB "Overlap" "TooMany" false,
  kitB "TooMany" "TooMany" true,
  kitB "Refused" "TooMany" false,
  kitB "NoEntry" "TooMany" false,
  kitB "PieceError" "TooMany" false,
  kitB "BadDeed" "TooMany" false,
  kitB "Nothing" "TooMany" false,
  kitB "NoText" "TooMany" false,
  kitB "NoCommand" "TooMany" false,
  kitB "Wrong" "NoCommand" false,
  kitB "Full" "NoCommand" false,
  kitB "Deep" "NoCommand" false,
  kitB "Many" "NoCommand" false,
  kitB "Twice" "NoCommand" false,
  kitB "NotLast" "NoCommand" false,
  kitB "NoLoop" "NoCommand" false,
  kitB "NoRow" "NoCommand" false,
  kitB "NoGap" "NoCommand" false,
  kitB "NoMark" "NoCommand" false,
  kitB "NoSpot" "NoCommand" false,
  kitB "BadWord" "NoCommand" false,
  kitB "NoStretch" "NoCommand" false,
  kitB "NoName" "NoCommand" false,
  kitB "Untold" "NoCommand" false,
  kitB "BadMark" "NoCommand" false,
  kitB "Overlap" "NoCommand" false,
  kitB "TooMany" "NoCommand" false,
  kitB "Refused" "NoCommand" false,
  kitB "NoEntry" "NoCommand" false,
  kitB "PieceError" "NoCommand" false,
  kitB "BadDeed" "NoCommand" false,
  kitB "Nothing" "NoCommand" false,
  kitB "NoText" "NoCommand" false,
  kitB "NoCommand" "NoCommand" true,
  kitB "Wrong" "NoText" false,
  kitB "Full" "NoText" false,
  kitB "Deep" "NoText" false,
  kitB "Many" "NoText" false,
  kitB "Twice" "NoText" false,
  kitB "NotLast" "NoText" false,
  kitB "NoLoop" "NoText" false,
  kitB "NoRow" "NoText" false,
  kitB "NoGap" "NoText" false,
  kitB "NoMark" "NoText" false,
  kitB "NoSpot" "NoText" false,
  kitB "BadWord" "NoText" false,
  kitB "NoStretch" "NoText" false,
  kitB "NoName" "NoText" false,
  kitB "Untold" "NoText" false,
  kitB "BadMark" "NoText" false,
  kitB "Overlap" "NoText" false,
  kitB "TooMany" "NoText" false,
  kitB "Refused" "NoText" false,
  kitB "NoEntry" "NoText" false,
  kitB "PieceError" "NoText" false,
  kitB "BadDeed" "NoText" false,
  kitB "Nothing" "NoText" false,
  kitB "NoText" "NoText" true,
  kitB "NoCommand" "NoText" false,
  kitB "Wrong" "Nothing" false,
  kitB "Full" "Nothing" false,
  kitB "Deep" "Nothing" false,
  kitB "Many" "Nothing" false,
  kitB "Twice" "Nothing" false,
  kitB "NotLast" "Nothing" false,
  kitB "NoLoop" "Nothing" false,
  kitB "NoRow" "Nothing" false,
  kitB "NoGap" "Nothing" false,
  kitB "NoMark" "Nothing" false,
  kitB "NoSpot" "Nothing" false,
  kitB "BadWord" "Nothing" false,
  kitB "NoStretch" "Nothing" false,
  kitB "NoName" "Nothing" false,
  kitB "Untold" "Nothing" false,
  kitB "BadMark" "Nothing" false,
  kitB "Overlap" "Nothing" false,
  kitB "TooMany" "Nothing" false,
  kitB "Refused" "Nothing" false,
  kitB "NoEntry" "Nothing" false,
  kitB "PieceError" "Nothing" false,
  kitB "BadDeed" "Nothing" false,
  kitB "Nothing" "Nothing" true,
  kitB "NoText" "Nothing" false,
  kitB "NoCommand" "Nothing" false,
  oexAll "NoLoop",
  exfB "NoLoop" PySem.Challenge.rw_cutoutpieces_k10_errors.prog.main.file "NoLoop.__init__",
  exiB "NoLoop" "address",
  oexAll "NotLast",
  exfB "NotLast" PySem.Challenge.rw_cutoutpieces_k10_errors.prog.main.file "NotLast.__init__",
  exiB "NotLast" "address",
  oexAll "Twice",
  exfB "Twice" PySem.Challenge.rw_cutoutpieces_k10_errors.prog.main.file "Twice.__init__",
  exiB "Twice" "mark",
  oexAll "Many",
  exfB "Many" PySem.Challenge.rw_cutoutpieces_k10_errors.prog.main.file "Many.__init__",
  exiB "Many" "limit",
  oexAll "Deep",
  exfB "Deep" PySem.Challenge.rw_cutoutpieces_k10_errors.prog.main.file "Deep.__init__",
  exiB "Deep" "limit",
  oexAll "Full",
  exfB "Full" PySem.Challenge.rw_cutoutpieces_k10_errors.prog.main.file "Full.__init__",
  exiB "Full" "limit",
  oexAll "Wrong",
  exfB "Wrong" PySem.Challenge.rw_cutoutpieces_k10_errors.prog.main.file "Wrong.__init__",
  exiB "Wrong" "place",
  oexAll "NoStretch",
  exfB "NoStretch" PySem.Challenge.rw_cutoutpieces_k10_errors.prog.main.file "NoStretch.__init__",
  exiB "NoStretch" "stretch",
  oexAll "BadWord",
  exfB "BadWord" PySem.Challenge.rw_cutoutpieces_k10_errors.prog.main.file "BadWord.__init__",
  exiB "BadWord" "index",
  oexAll "NoSpot",
  exfB "NoSpot" PySem.Challenge.rw_cutoutpieces_k10_errors.prog.main.file "NoSpot.__init__",
  exiB "NoSpot" "at",
  oexAll "NoMark",
  exfB "NoMark" PySem.Challenge.rw_cutoutpieces_k10_errors.prog.main.file "NoMark.__init__",
  exiB "NoMark" "mark",
  oexAll "NoGap",
  exfB "NoGap" PySem.Challenge.rw_cutoutpieces_k10_errors.prog.main.file "NoGap.__init__",
  exiB "NoGap" "gap",
  oexAll "NoRow",
  exfB "NoRow" PySem.Challenge.rw_cutoutpieces_k10_errors.prog.main.file "NoRow.__init__",
  exiB "NoRow" "address",
  oexAll "Refused",
  exfB "Refused" PySem.Challenge.rw_cutoutpieces_k10_errors.prog.main.file "Refused.__init__",
  exiB "Refused" "deed",
  oexAll "TooMany",
  exfB "TooMany" PySem.Challenge.rw_cutoutpieces_k10_errors.prog.main.file "TooMany.__init__",
  exiB "TooMany" "most",
  oexAll "Overlap",
  exfB "Overlap" PySem.Challenge.rw_cutoutpieces_k10_errors.prog.main.file "Overlap.__init__",
  exiB "Overlap" "mark",
  oexAll "BadMark",
  exfB "BadMark" PySem.Challenge.rw_cutoutpieces_k10_errors.prog.main.file "BadMark.__init__",
  exiB "BadMark" "mark",
  oexAll "Untold",
  exfB "Untold" PySem.Challenge.rw_cutoutpieces_k10_errors.prog.main.file "Untold.__init__",
  exiB "Untold" "way",
  oexAll "NoName",
  exfB "NoName" PySem.Challenge.rw_cutoutpieces_k10_errors.prog.main.file "NoName.__init__",
  exiB "NoName" "name",
  ex0B "NoCommand",
  ex0B "NoText",
  ex0B "Nothing",
  ex0B "BadDeed",
  oexAll "NoEntry",
  exfB "NoEntry" PySem.Challenge.rw_cutoutpieces_k10_errors.prog.main.file "NoEntry.__init__",
  exiB "NoEntry" "many",
  xffB "NotLast" "address",
  xffB "NoLoop" "address",
  xffB "NoRow" "address",
  xffB "Twice" "mark",
  xffB "NoMark" "mark",
  xffB "BadMark" "mark",
  xffB "Overlap" "mark",
  xffB "Full" "limit",
  xffB "Deep" "limit",
  xffB "Many" "limit",
  xffB "Wrong" "place",
  xffB "BadWord" "index",
  xffB "NoSpot" "at",
  xffB "NoGap" "gap",
  xffB "TooMany" "most",
  xffB "Untold" "way",
  xffB "NoName" "name",
  xffB "NoStretch" "stretch",
  xffB "NoEntry" "many",
  xffB "Refused" "deed",
  ex0B "PieceError",
  kitTB "NoStretch" "ValueError" true,
  exmB "NoStretch" "PieceError" true,
  kitTB "Nothing" "ValueError" true,
  exmB "Nothing" "PieceError" true,
  kitTB "PieceError" "ValueError" true,
  exmB "PieceError" "PieceError" true,
  kitAB "PieceError" "NoStretch" "Nothing" false,
  kitB "Wrong" "PieceError" true,
  kitB "Full" "PieceError" true,
  kitB "Deep" "PieceError" true,
  kitB "Many" "PieceError" true,
  kitB "Twice" "PieceError" true,
  kitB "NotLast" "PieceError" true,
  kitB "NoLoop" "PieceError" true,
  kitB "NoRow" "PieceError" true,
  kitB "NoGap" "PieceError" true,
  kitB "NoMark" "PieceError" true,
  kitB "NoSpot" "PieceError" true,
  kitB "BadWord" "PieceError" true,
  kitB "NoStretch" "PieceError" true,
  kitB "NoName" "PieceError" true,
  kitB "Untold" "PieceError" true,
  kitB "BadMark" "PieceError" true,
  kitB "Overlap" "PieceError" true,
  kitB "TooMany" "PieceError" true,
  kitB "Refused" "PieceError" true,
  kitB "NoEntry" "PieceError" true,
  kitB "PieceError" "PieceError" true,
  kitB "BadDeed" "PieceError" true,
  kitB "Nothing" "PieceError" true,
  kitB "NoText" "PieceError" true,
  kitB "NoCommand" "PieceError" true,
  kitTB "Wrong" "ValueError" true,
  kitTB "Full" "ValueError" true,
  kitTB "Deep" "ValueError" true,
  kitTB "Many" "ValueError" true,
  kitTB "Twice" "ValueError" true,
  kitTB "NotLast" "ValueError" true,
  kitTB "NoLoop" "ValueError" true,
  kitTB "NoRow" "ValueError" true,
  kitTB "NoGap" "ValueError" true,
  kitTB "NoMark" "ValueError" true,
  kitTB "NoSpot" "ValueError" true,
  kitTB "BadWord" "ValueError" true,
  kitTB "NoName" "ValueError" true,
  kitTB "Untold" "ValueError" true,
  kitTB "BadMark" "ValueError" true,
  kitTB "Overlap" "ValueError" true,
  kitTB "TooMany" "ValueError" true,
  kitTB "Refused" "ValueError" true,
  kitTB "NoEntry" "ValueError" true,
  kitTB "BadDeed" "ValueError" true,
  kitTB "NoText" "ValueError" true,
  kitTB "NoCommand" "ValueError" true], [d_NoLoop, d_NotLast, d_Twice, d_Many, d_Deep, d_Full, d_Wrong, d_NoStretch, d_BadWord, d_NoSpot, d_NoMark, d_NoGap, d_NoRow, d_Refused, d_TooMany, d_Overlap, d_BadMark, d_Untold, d_NoName, d_NoEntry], []⟩
abbrev theRow : PySem.W.OpenRow := PySem.W.OpenLaw.row PySem.Challenge.rw_cutoutpieces_k10_errors
abbrev hk : PySem.W.Hook := hookE 4 fa fn ts eb
def ob (s : PySem.W.SharedT) : AlZ := obsEG 4 fa fn ts eb (HandSHeadRun.getT s)
theorem ob_eq (s : PySem.W.SharedT) : ob s = hk.obs s.abs := obsEG_eq (HandSHeadRun.getT_eq s)
def loose : List PySem.Str := (["_law_bag", "_law_take", "_law_flags", "_law_made", "_law_kept", "_law_caught", "PieceError", "Wrong", "Full", "Deep", "Many", "Twice", "NotLast", "NoLoop", "NoRow"] : List PySem.Str) ++ (["NoGap", "NoMark", "NoSpot", "BadWord", "NoStretch", "NoName", "Untold", "BadMark", "Overlap", "TooMany", "BadDeed", "Refused", "Nothing", "NoEntry", "NoText"] : List PySem.Str) ++ (["NoCommand"] : List PySem.Str)
abbrev RunAt (w : World) : Prop := HandSHeadRun.RunEq theRow (PySem.W.view theRow.prog [33]) hk ob 12000 loose w
theorem runF (w : World) : RunAt (w.withFollow "special-get-raises" false) := by
  intro os
  kernel_rfl
theorem runT (w : World) : RunAt (w.withFollow "special-get-raises" true) := by
  intro os
  kernel_rfl
theorem run (w : World) : RunAt w := PySem.W.byRow2 "special-get-raises" (P := RunAt) runF runT w
end L10
namespace Ts
open PySem PySem.Spec PyProof.Rows L2
end Ts
namespace Zf
open PySem L2
theorem SqP.sq {K : PySem.W.Frag} {F : Hp} {a : Addr} {xs : List V} (h : SqP K F a xs) : SqT K F a xs := h.imp .inl id
theorem kd_tup {u : HO} (h : kdO u = some .tup) : ∃ vs, u = .tup vs := by
  cases u <;> first | exact ⟨_, rfl⟩ | cases h
theorem LstV.of {H : Hp} {a : Addr} {vs : List V} (h : H a = some (.lst vs)) : LstV H (.ref a) := ⟨a, _, rfl, h, rfl⟩
theorem RS.kind {G : Gd} {F : Hp} {θ : Th} {H : Hp} {S : Store} (r : RS G F θ H S) {n : Nat} {xs : List W} (e : S[n]? = some xs) {b : Addr} {k : Ck} (hb : θ[n]? = some b) (hl : CkV G H (.ref b) k) : ∃ vs u kd, F b = none ∧ H b = some u ∧ kdO u = some kd ∧ CkOf G k kd ∧ CellAt F H b vs ∧ RWs G F θ H xs vs [] := by
  obtain ⟨a, vs, h1, h2, h3, h4⟩ := r.cellR n xs e
  rw [hb] at h1
  cases h1
  obtain ⟨c, u, kd, e1, e2, e3, e4⟩ := hl
  cases e1
  exact ⟨vs, u, kd, h2, e2, e3, e4, h3, h4⟩
theorem RS.tcell {G : Gd} {F : Hp} {θ : Th} {H : Hp} {S : Store} (r : RS G F θ H S) {n : Nat} {xs : List W} (e : S[n]? = some xs) {b : Addr} (hb : θ[n]? = some b) (hl : CkV G H (.ref b) .tup) : ∃ vs, F b = none ∧ H b = some (.tup vs) ∧ RWs G F θ H xs vs [] := by
  obtain ⟨vs, u, kd, h1, h2, h3, h4, h5, h6⟩ := r.kind e hb hl
  cases show kd = .tup from h4
  obtain ⟨us, rfl⟩ := kd_tup h3
  rcases h5 with h5 | ⟨h5, _⟩ | ⟨_, _, h5 | ⟨_, _, h5, _⟩⟩ <;> rw [h2] at h5 <;> cases h5
  exact ⟨vs, h1, h2, h6⟩
theorem Le.refl (F : Hp) : Le F F := fun _ _ h => h
section
variable {G : Gd} {F F' : Hp} (e : Le F F')
include e
end
theorem Tr.alive {F F' H H' : Hp} {θ θ' : Th} (t : Tr F θ H F' θ' H') : ∀ a u, H a = some u → ∃ u', H' a = some u' := fun a u h => let ⟨u', h', _⟩ := t.live a u h; ⟨u', h'⟩
theorem Tr.refl (F : Hp) (θ : Th) (H : Hp) : Tr F θ H F θ H where
  le := .refl F
  th := ⟨[], (List.append_nil θ).symm⟩
  newF := fun a h1 h2 => absurd h1 h2
  newT := fun a h1 h2 => absurd h1 h2
  keep := fun _ _ _ h => h
  live := fun _ u h => ⟨u, h, fun _ => rfl⟩
section
variable {G : Gd} {F F' H H' : Hp} {θ θ' : Th} (t : Tr F θ H F' θ' H')
include t
end
theorem Res.earlier {G : Gd} {H0 H H' : Hp} {fp f : List Addr} {F0 F F' : Hp} {θ0 θ θ' : Th} {w : W} {v : V} (r : Res G H fp F' θ' H' w v f) (t : Tr F0 θ0 H0 F θ H) : Res G H0 fp F' θ' H' w v f where
  rw := r.rw
  nd := r.nd
  ap := r.ap
  src := fun a ha => (r.src a ha).imp id t.back
  own := fun h a ha => t.back (r.own h a ha)
def tOf (G : Gd) (m : ME) : TE := fun σ H Q => ∃ F θ S env fp w S', St G F θ H S env σ fp ∧ m env S = some (w, S') ∧
  ∀ F' θ' H' v f, Tr F θ H F' θ' H' → St G F' θ' H' S' env σ fp → Res G H fp F' θ' H' w v f → Q v H'
def tOfT (G : Gd) (m : MT) : TT := fun σ H Q => ∃ F θ S env fp b S', St G F θ H S env σ fp ∧ m env S = some (b, S') ∧
  ∀ F' θ' H', Tr F θ H F' θ' H' → St G F' θ' H' S' env σ fp → Q b H'
def tOfA (G : Gd) (m : MA) : TA := fun σ H Q => ∃ F θ S env fp ws S', St G F θ H S env σ fp ∧ m env S = some (ws, S') ∧
  ∀ F' θ' H' vs, Tr F θ H F' θ' H' → St G F' θ' H' S' env σ fp → RsA G H fp F' θ' H' ws vs → Q vs H'
theorem RsA.earlier {G : Gd} {H0 H H' : Hp} {fp : List Addr} {F0 F F' : Hp} {θ0 θ θ' : Th} (t : Tr F0 θ0 H0 F θ H) : ∀ {ws : List W} {vs : List V}, RsA G H fp F' θ' H' ws vs → RsA G H0 fp F' θ' H' ws vs
  | [], _, h => h
  | _ :: _, _, ⟨v, r, f, h1, h2, h3⟩ => ⟨v, r, f, h1, h2.earlier t, RsA.earlier t h3⟩
theorem pe_imp {X : Cx} {e : Expr} {t t' : TE} (h : PE X e t) (i : ∀ σ H Q, t' σ H Q → t σ H Q) : PE X e t' := ⟨fun pins s σ H Q I q => h.run pins s σ H Q I (i σ H Q q)⟩
theorem pt_imp {X : Cx} {e : Expr} {t t' : TT} (h : PT X e t) (i : ∀ σ H Q, t' σ H Q → t σ H Q) : PT X e t' := ⟨fun pins s σ H Q I q => h.run pins s σ H Q I (i σ H Q q)⟩
theorem pw_imp {X : Cx} {e : Expr} {t t' : TT} (h : PW X e t) (i : ∀ σ H Q, t' σ H Q → t σ H Q) : PW X e t' := ⟨fun wh pins s σ H Q I q => h.run wh pins s σ H Q I (i σ H Q q)⟩
theorem pa_imp {X : Cx} {es : List Expr} {t t' : TA} (h : PA X es t) (i : ∀ σ H Q, t' σ H Q → t σ H Q) : PA X es t' := ⟨fun pos pins s σ H Q I q => h.run pos pins s σ H Q I (i σ H Q q)⟩
theorem pe_or {X : Cx} {e : Expr} {t t' : TE} (h : PE X e t) (h' : PE X e t') : PE X e (fun σ H Q => t σ H Q ∨ t' σ H Q) := ⟨fun pins s σ H Q I q => q.elim (h.run pins s σ H Q I) (h'.run pins s σ H Q I)⟩
section
variable {X : Cx} {G : Gd}
theorem z_var (i : Nat) {x : Str} {pos : Pos} (hN : X.N[i]? = some x := by rfl) (hv : Vis X.env.scope x := by first | exact Or.inl rfl | exact Or.inr (Or.inl rfl) | exact Or.inr (Or.inr rfl)) (hd : (x == ("__debug__" : Str)) = false := by decide)
    (hcd : (x == ("__classdict__" : Str)) = false := by decide) : PE X (.Name x pos) (tOf G (mVar i)) := by
  refine pe_imp (pe_var hN hv hd hcd) fun σ H Q h => ?_
  obtain ⟨F, θ, S, env, fp, w, S', st, e, k⟩ := h
  unfold mVar at e
  split at e
  · rename_i w0 hw
    cases e
    obtain ⟨v, f, h1, h2⟩ := st.at hw
    exact ⟨v, h1, k F θ H v f (Tr.refl ..) st h2⟩
  · cases e
theorem z_d {e : Expr} {v : V} {d : D} (h : PE X e (tC v)) (hd : ∀ F, R G F d v) : PE X e (tOf G (mD d)) := by
  refine pe_imp h fun σ H Q h => ?_
  obtain ⟨F, θ, S, env, fp, w, S', st, e, k⟩ := h
  cases e
  exact k F θ H v [] (Tr.refl ..) st (.d (hd F))
theorem z_int {i : Int} {j pos} : PE X (.Constant (.int i) j pos) (tOf G (mD (.int i))) := z_d pe_int fun _ => rfl
theorem z_bl {b : Bool} {j pos} : PE X (.Constant (.bool b) j pos) (tOf G (mD (.bl b))) := z_d pe_bl fun _ => rfl
theorem z_non {j pos} : PE X (.Constant .none j pos) (tOf G (mD .non)) := z_d pe_non fun _ => rfl
theorem z_str {x : Str} {j pos} : PE X (.Constant (.str x) j pos) (tOf G (mD (.str x))) := z_d pe_str fun _ => rfl
end
theorem tOf_bin {G : Gd} {r : R2} {g : Op2} {ma mb : ME} (s : Sim2 G r g) {σ : L2.St} {H : Hp} {Q : VK} (h : tOf G (mBin g ma mb) σ H Q) : tOp r (tOf G ma) (tOf G mb) σ H Q := by
  obtain ⟨F, θ, S, env, fp, w, S', st, e, k⟩ := h
  unfold mBin at e
  cases ea : ma env S with
  | none =>
    rw [ea] at e
    cases e
  | some p =>
    obtain ⟨x, S1⟩ := p
    rw [ea] at e
    simp only [Option.bind_some] at e
    cases eb : mb env S1 with
    | none =>
      rw [eb] at e
      cases e
    | some q =>
      obtain ⟨y, S2⟩ := q
      rw [eb] at e
      simp only [Option.bind_some, Option.map_eq_some_iff] at e
      obtain ⟨z, ez, e⟩ := e
      cases e
      refine ⟨F, θ, S, env, fp, x, S1, st, ea, fun F1 θ1 H1 vx fx t1 st1 rx => ?_⟩
      refine ⟨F1, θ1, S1, env, fp, y, _, st1, eb, fun F2 θ2 H2 vy fy t2 st2 ry => ?_⟩
      have t := t1.trans t2
      exact s.run st2 (rx.mono t2) (ry.earlier t1) ez t.alive fun F3 θ3 H3 v f t3 st3 rv => k F3 θ3 H3 v f (t.trans t3) st3 rv
section
variable {X : Cx} {G : Gd} {a b : Expr} {ma mb : ME} {g : Op2} {r : R2} {pos : Pos}
theorem z_bin {op : Operator} (ho : OpR X (binaryOp op) r) (s : Sim2 G r g) (ha : PE X a (tOf G ma)) (hb : PE X b (tOf G mb)) : PE X (.BinOp a op b pos) (tOf G (mBin g ma mb)) :=
  pe_imp (pe_op ho ha hb) fun _ _ _ h => tOf_bin s h
theorem z_cmp {op : CmpOp} (ho : OpR X (compareOp op) r) (s : Sim2 G r g) (ha : PE X a (tOf G ma)) (hb : PE X b (tOf G mb)) (hm : behindInMarks op b = false) : PE X (.Compare a [op] [b] pos) (tOf G (mBin g ma mb)) :=
  pe_imp (pe_cmpR ho ha hb hm) fun _ _ _ h => tOf_bin s h
theorem tOfT_tst {m : ME} {σ : L2.St} {H : Hp} {Q : Bool → Hp → Prop} (h : tOfT G (mTst m) σ H Q) : tOf G m σ H fun x H' => ∃ k, x = .bl k ∧ Q k H' := by
  obtain ⟨F, θ, S, env, fp, b, S', st, e, k⟩ := h
  unfold mTst at e
  obtain ⟨⟨w, S1⟩, ea, e⟩ := Option.bind_eq_some_iff.mp e
  dsimp only at e
  split at e
  · cases e
    exact ⟨F, θ, S, env, fp, _, _, st, ea, fun F1 θ1 H1 v f t1 st1 rv => ⟨b, rv.rw.dAt, k F1 θ1 H1 t1 st1⟩⟩
  · cases e
theorem z_cmpT {op : CmpOp} (ho : OpR X (compareOp op) r) (s : Sim2 G r g) (ha : PE X a (tOf G ma)) (hb : PE X b (tOf G mb)) (hm : behindInMarks op b = false) : PT X (.Compare a [op] [b] pos) (tOfT G (mTst (mBin g ma mb))) :=
  pt_imp (pt_cmpR ho ha hb hm) fun σ H Q h => tOf_bin s (tOfT_tst h)
theorem z_val {e : Expr} {m : ME} (h : PE X e (tOf G m)) (he : ∀ whole, isTrue e X.env whole = (do let v ← whole; standAt e.pos; holding [v] (truthy v)) := by intro _; rfl) : PT X e (tOfT G (mTst m)) :=
  pt_imp (pt_val h he) fun σ H Q h => tOfT_tst h
end
theorem tOfT_bind {G : Gd} {m : MT} {k : Bool → MT} {σ : L2.St} {H : Hp} {Q : Bool → Hp → Prop} (h : tOfT G (fun env S => (m env S).bind fun p => k p.1 env p.2) σ H Q) :
    tOfT G m σ H fun b H1 => tOfT G (k b) σ H1 Q := by
  obtain ⟨F, θ, S, env, fp, b, S', st, e, kk⟩ := h
  obtain ⟨⟨c, S1⟩, ea, e⟩ := Option.bind_eq_some_iff.mp e
  refine ⟨F, θ, S, env, fp, c, S1, st, ea, fun F1 θ1 H1 t1 st1 => ?_⟩
  exact ⟨F1, θ1, S1, env, fp, b, S', st1, e, fun F2 θ2 H2 t2 st2 => kk F2 θ2 H2 (t1.trans t2) st2⟩
theorem tOfT_pure {G : Gd} {b : Bool} {σ : L2.St} {H : Hp} {Q : Bool → Hp → Prop} (h : tOfT G (fun _ S => some (b, S)) σ H Q) : Q b H := by
  obtain ⟨F, θ, S, env, fp, b', S', st, e, kk⟩ := h
  cases e
  exact kk F θ H (Tr.refl ..) st
section
variable {X : Cx} {G : Gd} {a b : Expr} {ma mb : MT} {rest : List Expr} {pos : Pos}
theorem z_or1 (ha : PT X a (tOfT G ma)) : PW X (.BoolOp .Or [a] pos) (tOfT G ma) := pw_or1 ha
theorem z_or (ha : PT X a (tOfT G ma)) (hb : PW X (.BoolOp .Or (b :: rest) pos) (tOfT G mb)) : PW X (.BoolOp .Or (a :: b :: rest) pos) (tOfT G (mOrT ma mb)) := by
  refine pw_imp (pw_or ha hb) fun σ H Q h => ?_
  have h' := tOfT_bind (m := ma) (k := fun c => if c = true then fun _ S => some (true, S) else mb) (σ := σ) (H := H) (Q := Q) (by
    obtain ⟨F, θ, S, env, fp, b, S', st, e, kk⟩ := h
    refine ⟨F, θ, S, env, fp, b, S', st, ?_, kk⟩
    rw [← e]
    show (ma env S).bind _ = (ma env S).bind _
    congr 1
    funext p
    cases p.1 <;> rfl)
  obtain ⟨F, θ, S, env, fp, b, S', st, e, kk⟩ := h'
  refine ⟨F, θ, S, env, fp, b, S', st, e, fun F' θ' H' t s => ?_⟩
  have q := kk F' θ' H' t s
  cases b with
  | true => exact tOfT_pure q
  | false => exact q
theorem z_not (ha : PT X a (tOfT G ma)) : PT X (.UnaryOp .Not a pos) (tOfT G (mNotT ma)) := by
  refine pt_imp (pt_not ha) fun σ H Q h => ?_
  obtain ⟨F, θ, S, env, fp, b, S', st, e, kk⟩ := h
  unfold mNotT at e
  simp only [Option.map_eq_some_iff] at e
  obtain ⟨p, ep, e⟩ := e
  cases e
  exact ⟨F, θ, S, env, fp, p.1, p.2, st, ep, fun F' θ' H' t s => kk F' θ' H' t s⟩
end
def mOfT (m : MT) : ME := fun env S => (m env S).map fun p => (.d (.bl p.1), p.2)
section
variable {X : Cx} {G : Gd} {a b c : Expr} {mc : MT} {ma mb : ME} {rest : List Expr} {pos : Pos}
def mOrV (a b : ME) : ME := fun env S => (a env S).bind fun p => match p.1 with
  | .d (.bl false) => (b env p.2).bind fun q => match q.1 with
    | .d (.bl c) => some (.d (.bl c), q.2)
    | _ => none
  | .d (.bl true) => some (.d (.bl true), p.2)
  | _ => none
def mNotV (a : ME) : ME := fun env S => (a env S).bind fun p => match p.1 with
  | .d (.bl c) => some (.d (.bl (!c)), p.2)
  | _ => none
end
section
variable {X : Cx} {G : Gd} {e : Expr} {es : List Expr} {m : ME} {ms : MA}
theorem z_nil : PA X [] (tOfA G mNil) := by
  refine pa_imp pa_nil fun σ H Q h => ?_
  obtain ⟨F, θ, S, env, fp, ws, S', st, e, kk⟩ := h
  cases e
  exact kk F θ H [] (Tr.refl ..) st rfl
theorem z_cons (ha : PE X e (tOf G m)) (hr : PA X es (tOfA G ms)) (hs : starEach (e :: es) X.env = (false, eval e X.env) :: starEach es X.env := by rfl) : PA X (e :: es) (tOfA G (mCons m ms)) := by
  refine pa_imp (pa_cons ha hr hs) fun σ H Q h => ?_
  obtain ⟨F, θ, S, env, fp, ws, S', st, e, kk⟩ := h
  unfold mCons at e
  cases ea : m env S with
  | none =>
    rw [ea] at e
    cases e
  | some p =>
    obtain ⟨x, S1⟩ := p
    rw [ea] at e
    simp only [Option.bind_some, Option.map_eq_some_iff] at e
    obtain ⟨⟨ys, S2⟩, er, e⟩ := e
    cases e
    refine ⟨F, θ, S, env, fp, x, S1, st, ea, fun F1 θ1 H1 v f t1 st1 rv => ?_⟩
    refine ⟨F1, θ1, S1, env, fp, ys, S2, st1, er, fun F2 θ2 H2 vs t2 st2 rvs => ?_⟩
    exact kk F2 θ2 H2 _ (t1.trans t2) st2 ⟨v, vs, f, rfl, rv.mono t2, rvs.earlier t1⟩
end
theorem cap_ok {n : Nat} (h : n ≤ cap) : n ≤ sizeLine := Nat.le_trans h (by decide)
theorem cap_lt {n : Nat} (h : n < cap) : n < sizeLine := Nat.lt_of_lt_of_le h (by decide)
section
variable {G : Gd} {F : Hp} {θ : Th} {H : Hp}
theorem RWs.ofD : ∀ {xs : List D} {vs : List V}, Rs G F xs vs → RWs G F θ H (xs.map .d) vs []
  | [], _, h => ⟨h, rfl⟩
  | _ :: _, _, ⟨v, r, h1, h2, h3⟩ => ⟨v, r, [], [], h1, ⟨h2, rfl⟩, RWs.ofD h3, rfl⟩
theorem RWs.toD : ∀ {ws : List W} {xs : List D} {vs : List V} {f : List Addr}, RWs G F θ H ws vs f → asDs ws = some xs → Rs G F xs vs
  | [], _, _, _, h, e => by
    cases e
    exact h.1
  | .d x :: r, _, _, _, ⟨v, r', f1, f2, h1, h2, h3, _⟩, e => by
    obtain ⟨ys, e1, e2⟩ := Option.map_eq_some_iff.mp e
    cases e2
    exact ⟨v, r', h1, h2.1, RWs.toD h3 e1⟩
  | .r _ :: _, _, _, _, _, e => by cases e
  | .own _ :: _, _, _, _, _, e => by cases e
  | .bor _ :: _, _, _, _, _, e => by cases e
  | .od _ :: _, _, _, _, _, e => by cases e
  | .bd _ :: _, _, _, _, _, e => by cases e
  | .slf _ _ :: _, _, _, _, _, e => by cases e
  | .slb _ _ :: _, _, _, _, _, e => by cases e
  | .exn _ _ :: _, _, _, _, _, e => by cases e
  | .ev _ _ _ :: _, _, _, _, _, e => by cases e
theorem Rs.app : ∀ {xs ys : List D} {vs ws : List V}, Rs G F xs vs → Rs G F ys ws → Rs G F (xs ++ ys) (vs ++ ws)
  | [], _, _, _, h, h' => by
    rw [h]
    exact h'
  | _ :: _, _, _, _, ⟨v, r, h1, h2, h3⟩, h' => ⟨v, r ++ _, by rw [h1]; rfl, h2, Rs.app h3 h'⟩
theorem Rs.rep {xs : List D} {vs : List V} (h : Rs G F xs vs) : ∀ k : Nat, Rs G F (List.replicate k xs).flatten (List.replicate k vs).flatten
  | 0 => rfl
  | k + 1 => by
    rw [List.replicate_succ, List.replicate_succ, List.flatten_cons, List.flatten_cons]
    exact h.app (Rs.rep h k)
theorem St.new {S : Store} {env : En} {σ : L2.St} {fp : List Addr} (s : St G F θ H S env σ fp) {p : Addr} (hp : H p = none) (o : HO) : Tr F θ H (upd F p o) θ (upd H p o) ∧ St G (upd F p o) θ (upd H p o) S env σ fp := by
  have fF : F p = none := by
    cases e : F p with
    | none => rfl
    | some u =>
      rw [s.sub p u e] at hp
      cases hp
  have t : Tr F θ H (upd F p o) θ (upd H p o) := by
    refine ⟨Le.of fun a u e => ?_, ⟨[], (List.append_nil θ).symm⟩, fun a h1 h2 => ?_, fun a h1 h2 => absurd h1 h2, fun a u _ e => ?_, fun a u e => ?_⟩
    · rw [upd_ne (ne_of_none e fF)]
      exact e
    · by_cases q : a = p
      · rw [q]
        exact .inl hp
      · rw [upd_ne q] at h2
        exact absurd h1 h2
    · rw [upd_ne (ne_of_none e hp)]
      exact e
    · exact ⟨u, by rw [upd_ne (ne_of_none e hp)]; exact e, fun _ => rfl⟩
  refine ⟨t, s.step t (fun a u e => ?_) ⟨s.store.len, s.store.nd, fun n xs e => ?_⟩⟩
  · by_cases q : a = p
    · rw [q, upd_same] at e ⊢
      exact e
    · rw [upd_ne q] at e ⊢
      exact s.sub a u e
  · obtain ⟨a, vs, h1, h2, h3, h4⟩ := s.store.cellR n xs e
    have q : a ≠ p := ne_of_none h3.some.choose_spec.1 hp
    exact ⟨a, vs, h1, by rw [upd_ne q]; exact h2, h3.to t.le (fun u hu => by rw [upd_ne q]; exact hu), RWs.mono t xs vs [] (fun _ h => absurd h (by simp)) h4⟩
theorem Res.newL {H0 : Hp} {fp : List Addr} {p : Addr} {xs : List D} {vs : List V} (r : Rs G (upd F p (.lst vs)) xs vs) : Res G H0 fp (upd F p (.lst vs)) θ (upd H p (.lst vs)) (.d (.lst xs)) (.ref p) [] := .d ⟨p, vs, rfl, upd_same, r⟩
theorem vL_ok {S : Store} {env : En} {σ : L2.St} {fp : List Addr} {H0 : Hp} {w : W} {v : V} {f : List Addr} {ws : List W} (s : St G F θ H S env σ fp) (r : Res G H0 fp F θ H w v f) (e : vL S w = some ws) :
    ∃ a vs fs, v = .ref a ∧ H a = some (.lst vs) ∧ RWs G F θ H ws vs fs ∧ fs.Sublist f := by
  cases w with
  | d x =>
    cases x with
    | lst xs =>
      cases e
      obtain ⟨a, vs, h1, h2, h3⟩ := r.rw.dAt
      exact ⟨a, vs, [], h1, s.sub _ _ h2, .ofD h3, List.nil_sublist _⟩
    | _ => cases e
  | r n =>
    obtain ⟨⟨b, h5, h6⟩, _, hl⟩ := r.rw
    obtain ⟨a, vs, h1, h2, h3, h4⟩ := s.store.cell n ws e h6 (h5 ▸ hl)
    rw [h1] at h6
    cases h6
    exact ⟨b, vs, [], h5, h3, h4, List.nil_sublist _⟩
  | own xs =>
    cases e
    obtain ⟨a, vs, fs, h1, h2, h3, h4⟩ := r.rw
    exact ⟨a, vs, fs, h1, h2, h3, by rw [h4]; exact List.sublist_cons_self ..⟩
  | bor xs =>
    cases e
    obtain ⟨a, vs, fs, h1, h2, h3, h4⟩ := r.rw
    exact ⟨a, vs, fs, h1, h2, h3, by rw [h4]; exact List.sublist_cons_self ..⟩
  | od xs => cases e
  | bd xs => cases e
  | slf _ _ => cases e
  | slb _ _ => cases e
  | exn _ _ => cases e
  | c _ _ => cases e
  | ev _ _ _ => cases e
theorem vT_ok {S : Store} {env : En} {σ : L2.St} {fp : List Addr} {H0 : Hp} {w : W} {v : V} {f : List Addr} {xs : List D} (s : St G F θ H S env σ fp) (r : Res G H0 fp F θ H w v f) (e : vT w = some xs) :
    ∃ a vs, v = .ref a ∧ SqT G.K H a vs ∧ Rs G F xs vs := by
  cases w with
  | d x =>
    cases x with
    | tup ys =>
      cases e
      obtain ⟨a, vs, h1, h2, h3⟩ := r.rw.dAt
      refine ⟨a, vs, h1, ?_, h3⟩
      rcases h2 with h2 | h2
      · exact .inl (.inl (s.sub _ _ h2))
      · exact .inr h2
    | _ => cases e
  | _ => cases e
end
def vOf : D → V
  | .int i => .int i
  | .bl b => .bl b
  | .str x => .str x
  | _ => .non
def Flt : D → Prop
  | .int _ => True
  | .bl _ => True
  | .str _ => True
  | .non => True
  | _ => False
theorem R.flat {G : Gd} {F : Hp} {d : D} (h : Flt d) : R G F d (vOf d) := by
  cases d <;> first | exact h.elim | rfl
theorem sim_int {G : Gd} {C : Int → Int → Prop} {c : Int → Int → Bool} {g : Int → Int → D} (hc : ∀ i j, c i j = true → C i j) (hf : ∀ i j, Flt (g i j)) : Sim2 G (rI C fun i j => vOf (g i j)) (gInt c g) := by
  refine ⟨fun {F θ H0 H S env σ fp x y vx vy fx fy z Q} st rx ry e l k => ?_⟩
  unfold gInt at e
  split at e
  · rename_i i j
    split at e
    · rename_i h
      cases e
      exact ⟨i, j, rx.rw.dAt, ry.rw.dAt, hc i j h, k F θ H _ _ (Tr.refl ..) st (.d (.flat (hf i j)))⟩
    · cases e
  · cases e
theorem sim_int0 {G : Gd} {g : Int → Int → D} (hf : ∀ i j, Flt (g i j)) : Sim2 G (rI0 fun i j => vOf (g i j)) (gInt (fun _ _ => true) g) := by
  refine ⟨fun {F θ H0 H S env σ fp x y vx vy fx fy z Q} st rx ry e l k => ?_⟩
  obtain ⟨i, j, h1, h2, _, h4⟩ := (sim_int (G := G) (C := fun _ _ => True) (c := fun _ _ => true) (g := g) (fun _ _ _ => trivial) hf).run st rx ry e l k
  exact ⟨i, j, h1, h2, h4⟩
theorem sim_str2 {G : Gd} {g : Str → Str → D} (hf : ∀ i j, Flt (g i j)) : Sim2 G (fun x y H Q => ∃ i j, x = .str i ∧ y = .str j ∧ Q (vOf (g i j)) H) (gStr2 g) := by
  refine ⟨fun {F θ H0 H S env σ fp x y vx vy fx fy z Q} st rx ry e l k => ?_⟩
  unfold gStr2 at e
  split at e
  · rename_i i j
    cases e
    exact ⟨i, j, rx.rw.dAt, ry.rw.dAt, k F θ H _ _ (Tr.refl ..) st (.d (.flat (hf i j)))⟩
  · cases e
theorem sim_addS {G : Gd} : Sim2 G (fun x y H Q => ∃ i j, x = .str i ∧ y = .str j ∧ i.length + j.length ≤ sizeLine ∧ Q (.str (i ++ j)) H) gAddS := by
  refine ⟨fun {F θ H0 H S env σ fp x y vx vy fx fy z Q} st rx ry e l k => ?_⟩
  unfold gAddS at e
  split at e
  · rename_i i j
    split at e
    · rename_i h
      cases e
      exact ⟨i, j, rx.rw.dAt, ry.rw.dAt, cap_ok h, k F θ H _ _ (Tr.refl ..) st (.d rfl)⟩
    · cases e
  · cases e
theorem sim_addL {G : Gd} : Sim2 G rCat gAddL := by
  refine ⟨fun {F θ H0 H S env σ fp x y vx vy fx fy z Q} st rx ry e l k => ?_⟩
  unfold gAddL at e
  obtain ⟨xs, e1, e⟩ := Option.bind_eq_some_iff.mp e
  obtain ⟨ys, e2, e⟩ := Option.bind_eq_some_iff.mp e
  obtain ⟨xd, e3, e⟩ := Option.bind_eq_some_iff.mp e
  obtain ⟨yd, e4, e⟩ := Option.bind_eq_some_iff.mp e
  split at e
  · rename_i h
    cases e
    obtain ⟨a, vs, f1, h1, h2, h3, _⟩ := vL_ok st rx e1
    obtain ⟨b, us, f2, h4, h5, h6, _⟩ := vL_ok st ry e2
    have q1 := h3.toD e3
    have q2 := h6.toD e4
    refine ⟨a, b, vs, us, h1, h4, h2, h5, by rw [q1.len, q2.len]; exact cap_ok h, fun p hp => ?_⟩
    obtain ⟨t, s⟩ := st.new hp (.lst (vs ++ us))
    exact k _ _ _ _ _ t s (.newL (Rs.mono t.le _ _ (q1.app q2)))
  · cases e
theorem sim_addT {G : Gd} : Sim2 G (rCatA G.K) gAddT := by
  refine ⟨fun {F θ H0 H S env σ fp x y vx vy fx fy z Q} st rx ry e l k => ?_⟩
  unfold gAddT at e
  obtain ⟨xs, e1, e⟩ := Option.bind_eq_some_iff.mp e
  obtain ⟨ys, e2, e⟩ := Option.bind_eq_some_iff.mp e
  split at e
  · rename_i h
    cases e
    obtain ⟨a, vs, h1, h2, h3⟩ := vT_ok st rx e1
    obtain ⟨b, us, h4, h5, h6⟩ := vT_ok st ry e2
    refine ⟨a, b, vs, us, h1, h4, h2, h5, by rw [h3.len, h6.len]; exact cap_ok h, fun hv => ?_, fun _ hu => ?_, fun _ _ p hp => ?_⟩
    · have z : xs = [] := List.length_eq_zero_iff.mp (by rw [← h3.len, hv]; rfl)
      subst z
      rw [← h4]
      exact k F θ H vy fy (Tr.refl ..) st ⟨by
        have q : y = .d (.tup ys) := by
          cases y with
          | d x =>
            cases x with
            | tup xs =>
              cases e2
              rfl
            | _ => cases e2
          | _ => cases e2
        rw [q] at ry
        exact ry.rw, ry.nd, ry.ap, ry.src, fun h => h.elim⟩
    · have z : ys = [] := List.length_eq_zero_iff.mp (by rw [← h6.len, hu]; rfl)
      subst z
      rw [List.append_nil, ← h1] at *
      exact k F θ H vx fx (Tr.refl ..) st ⟨by
        have q : x = .d (.tup xs) := by
          cases x with
          | d x =>
            cases x with
            | tup xs =>
              cases e1
              rfl
            | _ => cases e1
          | _ => cases e1
        rw [q] at rx
        exact rx.rw, rx.nd, rx.ap, rx.src, fun h => h.elim⟩
    · obtain ⟨t, s⟩ := st.new hp (.tup (vs ++ us))
      exact k _ _ _ _ _ t s (.newT (Rs.mono t.le _ _ (h3.app h6)))
  · cases e
def cMul (i j : Int) : Bool := (decide (-(2 ^ 64) < i) && decide (i < 2 ^ 64)) || (decide (-(2 ^ 64) < j) && decide (j < 2 ^ 64))
def gRepL : Op2 := fun S x y => match y with
  | .d (.int k) => (vL S x).bind fun xs => (asDs xs).bind fun xs => if 0 ≤ k ∧ k < 100000 ∧ xs.length * k.toNat ≤ cap then some (.d (.lst (List.replicate k.toNat xs).flatten)) else none
  | _ => none
def gMul : Op2 := fun S x y => (gInt cMul (fun i j => .int (i * j)) S x y).or (gRepL S x y)
theorem sim_repL {G : Gd} : Sim2 G rRep gRepL := by
  refine ⟨fun {F θ H0 H S env σ fp x y vx vy fx fy z Q} st rx ry e l k => ?_⟩
  unfold gRepL at e
  split at e
  · rename_i n
    obtain ⟨xs, e1, e⟩ := Option.bind_eq_some_iff.mp e
    obtain ⟨xd, e3, e⟩ := Option.bind_eq_some_iff.mp e
    split at e
    · rename_i h
      cases e
      obtain ⟨a, vs, f1, h1, h2, h3, _⟩ := vL_ok st rx e1
      have q1 := h3.toD e3
      refine ⟨a, n, vs, h1, ry.rw.dAt, h2, by omega, by omega, by rw [q1.len]; exact cap_ok h.2.2, fun p hp => ?_⟩
      obtain ⟨t, s⟩ := st.new hp (.lst (List.replicate n.toNat vs).flatten)
      exact k _ _ _ _ _ t s (.newL (Rs.mono t.le _ _ (q1.rep _)))
    · cases e
  · cases e
theorem cMul_ok {i j : Int} (h : cMul i j = true) : CMul i j := by
  unfold cMul at h
  rw [Bool.or_eq_true, Bool.and_eq_true, Bool.and_eq_true, decide_eq_true_iff, decide_eq_true_iff, decide_eq_true_iff, decide_eq_true_iff] at h
  exact h
section
variable {X : Cx} {G : Gd} {a b : Expr} {ma mb : ME} {pos : Pos}
theorem z_add (ha : PE X a (tOf G ma)) (hb : PE X b (tOf G mb)) (hK : X.K = G.K := by rfl) : PE X (.BinOp a .Add b pos) (tOf G (mBin gAdd ma mb)) :=
  z_bin (op_add.or (op_add_str.or (op_cat.or op_catA))) ((sim_int0 (g := fun i j => .int (i + j)) fun _ _ => trivial).or (sim_addS.or (sim_addL.or (by rw [hK]; exact sim_addT)))) ha hb
theorem z_mod (ha : PE X a (tOf G ma)) (hb : PE X b (tOf G mb)) : PE X (.BinOp a .Mod b pos) (tOf G (mBin (gInt (fun _ j => decide (0 < j)) fun i j => .int (i % j)) ma mb)) :=
  z_bin op_mod (sim_int (g := fun i j => .int (i % j)) (fun _ _ h => of_decide_eq_true h) fun _ _ => trivial) ha hb
def cDiv (i j : Int) : Bool := decide (0 < j) && decide (j < 1073741824)
theorem z_fdiv (ha : PE X a (tOf G ma)) (hb : PE X b (tOf G mb)) : PE X (.BinOp a .FloorDiv b pos) (tOf G (mBin (gInt cDiv fun i j => .int (i / j)) ma mb)) :=
  z_bin op_fdiv (sim_int (g := fun i j => .int (i / j)) (fun i j h => by
    unfold cDiv at h
    rw [Bool.and_eq_true, decide_eq_true_iff, decide_eq_true_iff] at h
    exact h) fun _ _ => trivial) ha hb
def cPow (i j : Int) : Bool := decide (0 ≤ j) && (decide (j ≤ 1000000) && decide (i.natAbs < 2 ^ 64))
theorem z_pow (ha : PE X a (tOf G ma)) (hb : PE X b (tOf G mb)) : PE X (.BinOp a .Pow b pos) (tOf G (mBin (gInt cPow fun i j => .int (i ^ j.toNat)) ma mb)) :=
  z_bin op_pow (sim_int (g := fun i j => .int (i ^ j.toNat)) (fun i j h => by
    unfold cPow at h
    rw [Bool.and_eq_true, Bool.and_eq_true, decide_eq_true_iff, decide_eq_true_iff, decide_eq_true_iff] at h
    exact h) fun _ _ => trivial) ha hb
end
theorem sim_lt {G : Gd} : Sim2 G (fun x y H Q => (rI0 fun i j => .bl (decide (i < j))) x y H Q ∨ ∃ i j, x = .str i ∧ y = .str j ∧ Q (.bl (decide (i.cps.toList < j.cps.toList))) H) gLt := (sim_int0 (g := fun i j => .bl (decide (i < j))) fun _ _ => trivial).or (sim_str2 (g := fun i j => .bl (decide (i.cps.toList < j.cps.toList))) fun _ _ => trivial)
theorem sim_gt {G : Gd} : Sim2 G (fun x y H Q => (rI0 fun i j => .bl (decide (j < i))) x y H Q ∨ ∃ i j, x = .str i ∧ y = .str j ∧ Q (.bl (decide (j.cps.toList < i.cps.toList))) H) gGt := (sim_int0 (g := fun i j => .bl (decide (j < i))) fun _ _ => trivial).or (sim_str2 (g := fun i j => .bl (decide (j.cps.toList < i.cps.toList))) fun _ _ => trivial)
theorem sim_ge {G : Gd} : Sim2 G (fun x y H Q => (rI0 fun i j => .bl (decide (j ≤ i))) x y H Q ∨ ∃ i j, x = .str i ∧ y = .str j ∧ Q (.bl (!decide (i.cps.toList < j.cps.toList))) H) gGe := (sim_int0 (g := fun i j => .bl (decide (j ≤ i))) fun _ _ => trivial).or (sim_str2 (g := fun i j => .bl (!decide (i.cps.toList < j.cps.toList))) fun _ _ => trivial)
section
variable {G : Gd} {F : Hp} {H : Hp} (sub : ∀ a u, F a = some u → H a = some u)
include sub
theorem sub_sqL {K : PySem.W.Frag} {a : Addr} {vs : List V} (h : SqL K F a vs) : SqL K H a vs := by
  rcases h with (h | ⟨o, h⟩) | h
  · exact .inl (.inl (sub _ _ h))
  · exact .inl (.inr ⟨o, sub _ _ h⟩)
  · exact .inr h
theorem sub_sqT {K : PySem.W.Frag} {a : Addr} {vs : List V} (h : SqT K F a vs) : SqT K H a vs := by
  rcases h with (h | ⟨o, h⟩) | h
  · exact .inl (.inl (sub _ _ h))
  · exact .inl (.inr ⟨o, sub _ _ h⟩)
  · exact .inr h
mutual
theorem dpD : ∀ {d : D} {v : V} {p : PyData}, R G F d v → dpy d = some p → Dp G.K H v p
  | .non, _, _, h, e => by
    cases e
    rw [show _ = V.non from h]
    exact .non
  | .bl b, _, _, h, e => by
    cases e
    rw [show _ = V.bl b from h]
    exact .bl b
  | .int b, _, _, h, e => by
    cases e
    rw [show _ = V.int b from h]
    exact .int b
  | .str b, _, _, h, e => by
    cases e
    rw [show _ = V.str b from h]
    exact .str b
  | .lst xs, _, _, ⟨a, vs, h1, h2, h3⟩, e => by
    obtain ⟨ps, e1, e2⟩ := Option.map_eq_some_iff.mp e
    cases e2
    rw [h1]
    exact .lst (SqL.of (sub _ _ h2)) (dpsD h3 e1)
  | .ro xs, _, _, ⟨a, vs, h1, h2, h3⟩, e => by
    obtain ⟨ps, e1, e2⟩ := Option.map_eq_some_iff.mp e
    cases e2
    rw [h1]
    exact .lst (sub_sqL sub h2) (dpsD h3 e1)
  | .tup xs, _, _, ⟨a, vs, h1, h2, h3⟩, e => by
    obtain ⟨ps, e1, e2⟩ := Option.map_eq_some_iff.mp e
    cases e2
    rw [h1]
    exact .tup (sub_sqT sub h2.sq) (dpsD h3 e1)
  | .dct _, _, _, _, e => by cases e
  | .dtp _, _, _, _, e => by cases e
  | .st _, _, _, _, e => by cases e
  | .ins _ _, _, _, _, e => by cases e
theorem dpsD : ∀ {ds : List D} {vs : List V} {ps : List PyData}, Rs G F ds vs → dpys ds = some ps → DpAll G.K H vs ps
  | [], _, _, h, e => by
    cases e
    rw [show _ = [] from h]
    exact .nil
  | x :: r, _, _, ⟨v, r', h1, h2, h3⟩, e => by
    obtain ⟨a, e1, e⟩ := Option.bind_eq_some_iff.mp e
    obtain ⟨ps, e2, e3⟩ := Option.map_eq_some_iff.mp e
    cases e3
    rw [h1]
    exact .cons (dpD h2 e1) (dpsD h3 e2)
end
end
section
variable {G : Gd} {F : Hp} {θ : Th} {H : Hp} {S : Store} (sub : ∀ a u, F a = some u → H a = some u)
include sub
section
variable {c : Nat → Option PyData} (hc : ∀ n p a, c n = some p → θ[n]? = some a → LstV H (.ref a) → Dp G.K H (.ref a) p) (hct : ∀ n p q a, c n = some p → tupPy p = some q → θ[n]? = some a → CkV G H (.ref a) .tup → Dp G.K H (.ref a) q)
include hc hct
mutual
theorem dpWG : ∀ {w : W} {v : V} {f : List Addr} {p : PyData}, RW G F θ H w v f → wpyG c w = some p → Dp G.K H v p
  | .d x, _, _, _, h, e => dpD sub h.1 e
  | .r n, _, _, _, ⟨⟨a, h1, h2⟩, _, hl⟩, e => by
    rw [h1]
    exact hc n _ a e h2 (h1 ▸ hl)
  | .own xs, _, _, _, ⟨a, vs, fs, h1, h2, h3, _⟩, e => by
    obtain ⟨ps, e1, e2⟩ := Option.map_eq_some_iff.mp e
    cases e2
    rw [h1]
    exact .lst (SqL.of h2) (dpsWG h3 e1)
  | .bor xs, _, _, _, ⟨a, vs, fs, h1, h2, h3, _⟩, e => by
    obtain ⟨ps, e1, e2⟩ := Option.map_eq_some_iff.mp e
    cases e2
    rw [h1]
    exact .lst (SqL.of h2) (dpsWG h3 e1)
  | .od _, _, _, _, _, e => by cases e
  | .bd _, _, _, _, _, e => by cases e
  | .slf _ _, _, _, _, _, e => by cases e
  | .slb _ _, _, _, _, _, e => by cases e
  | .exn _ _, _, _, _, _, e => by cases e
  | .ev _ _ _, _, _, _, _, e => by cases e
  | .c .tup n, _, _, p, ⟨⟨a, h1, h2⟩, _, hl⟩, e => by
    have e' : (c n).bind tupPy = some p := e
    obtain ⟨q, e1, e2⟩ := Option.bind_eq_some_iff.mp e'
    rw [h1]
    exact hct n q _ a e1 e2 h2 (h1 ▸ hl)
  | .c .dct _, _, _, _, _, e => by cases e
  | .c (.obj _) _, _, _, _, _, e => by cases e
theorem dpsWG : ∀ {ws : List W} {vs : List V} {f : List Addr} {ps : List PyData}, RWs G F θ H ws vs f → wpysG c ws = some ps → DpAll G.K H vs ps
  | [], _, _, _, h, e => by
    cases e
    rw [h.1]
    exact .nil
  | x :: r, _, _, _, ⟨v, r', f1, f2, h1, h2, h3, _⟩, e => by
    obtain ⟨a, e1, e⟩ := Option.bind_eq_some_iff.mp e
    obtain ⟨ps, e2, e3⟩ := Option.map_eq_some_iff.mp e
    cases e3
    rw [h1]
    exact .cons (dpWG h2 e1) (dpsWG h3 e2)
end
end
theorem dpCell2 (rs : RS G F θ H S) : ∀ (k n : Nat) (p : PyData) (a : Addr), cellPy S k n = some p → θ[n]? = some a → (LstV H (.ref a) → Dp G.K H (.ref a) p) ∧ ∀ q, tupPy p = some q → CkV G H (.ref a) .tup → Dp G.K H (.ref a) q
  | 0, _, _, _, e, _ => by cases e
  | k + 1, n, p, a, e, h => by
    obtain ⟨xs, e1, e⟩ := Option.bind_eq_some_iff.mp e
    obtain ⟨ps, e2, e3⟩ := Option.map_eq_some_iff.mp e
    cases e3
    have key : ∀ vs, RWs G F θ H xs vs [] → DpAll G.K H vs ps := fun vs r => dpsWG sub (fun n p a h1 h2 => (dpCell2 rs k n p a h1 h2).1) (fun n p q a h1 h2 h3 => (dpCell2 rs k n p a h1 h3).2 q h2) r e2
    refine ⟨fun hl => ?_, fun q hq hl => ?_⟩
    · obtain ⟨b, vs, h3, _, h5, h6⟩ := rs.cell n xs e1 h hl
      rw [h] at h3
      cases h3
      exact .lst (SqL.of h5) (key vs h6)
    · cases hq
      obtain ⟨vs, _, h5, h6⟩ := rs.tcell e1 h hl
      exact .tup (.inl (.inl h5)) (key vs h6)
theorem dpCell (rs : RS G F θ H S) (k n : Nat) (p : PyData) (a : Addr) (e : cellPy S k n = some p) (h : θ[n]? = some a) : LstV H (.ref a) → Dp G.K H (.ref a) p := (dpCell2 sub rs k n p a e h).1
theorem dpW (rs : RS G F θ H S) {w : W} {v : V} {f : List Addr} {p : PyData} (h : RW G F θ H w v f) (e : wpy S w = some p) : Dp G.K H v p := dpWG sub (dpCell sub rs 5) (fun n p q a h1 h2 h3 => (dpCell2 sub rs 5 n p a h1 h3).2 q h2) h e
end
theorem sim_eqS {G : Gd} : Sim2 G rEq (gEqS false) := by
  refine ⟨fun {F θ H0 H S env σ fp x y vx vy fx fy z Q} st rx ry e l k => ?_⟩
  unfold gEqS at e
  split at e
  · rename_i i j
    cases e
    rw [show vx = .int i from rx.rw.dAt, show vy = .int j from ry.rw.dAt]
    refine ⟨rfl, k F θ H _ _ (Tr.refl ..) st (.d (show _ = _ from ?_))⟩
    congr 1
    by_cases h : i = j
    · simp [h]
    · simp [h]
  · rename_i i j
    cases e
    rw [show vx = .str i from rx.rw.dAt, show vy = .str j from ry.rw.dAt]
    refine ⟨rfl, k F θ H _ _ (Tr.refl ..) st (.d (show _ = _ from ?_))⟩
    congr 1
    by_cases h : i = j
    · simp [h]
    · simp [h]
  · rename_i i j
    cases e
    rw [show vx = .bl i from rx.rw.dAt, show vy = .bl j from ry.rw.dAt]
    refine ⟨rfl, k F θ H _ _ (Tr.refl ..) st (.d (show _ = _ from ?_))⟩
    congr 1
    by_cases h : i = j
    · simp [h]
    · simp [h]
  · cases e
theorem sim_neS {G : Gd} : Sim2 G rNe (gEqS true) := by
  refine ⟨fun {F θ H0 H S env σ fp x y vx vy fx fy z Q} st rx ry e l k => ?_⟩
  unfold gEqS at e
  split at e
  · rename_i i j
    cases e
    rw [show vx = .int i from rx.rw.dAt, show vy = .int j from ry.rw.dAt]
    refine ⟨rfl, k F θ H _ _ (Tr.refl ..) st (.d (show _ = _ from ?_))⟩
    congr 1
    by_cases h : i = j
    · simp [h]
    · simp [h]
  · rename_i i j
    cases e
    rw [show vx = .str i from rx.rw.dAt, show vy = .str j from ry.rw.dAt]
    refine ⟨rfl, k F θ H _ _ (Tr.refl ..) st (.d (show _ = _ from ?_))⟩
    congr 1
    by_cases h : i = j
    · simp [h]
    · simp [h]
  · rename_i i j
    cases e
    rw [show vx = .bl i from rx.rw.dAt, show vy = .bl j from ry.rw.dAt]
    refine ⟨rfl, k F θ H _ _ (Tr.refl ..) st (.d (show _ = _ from ?_))⟩
    congr 1
    by_cases h : i = j
    · simp [h]
    · simp [h]
  · cases e
theorem sim_eqP {G : Gd} : Sim2 G (rEqD G.K) (gEqP false) := by
  refine ⟨fun {F θ H0 H S env σ fp x y vx vy fx fy z Q} st rx ry e l k => ?_⟩
  unfold gEqP at e
  obtain ⟨a, e1, e⟩ := Option.bind_eq_some_iff.mp e
  obtain ⟨b, e2, e⟩ := Option.bind_eq_some_iff.mp e
  split at e
  · rename_i h
    cases e
    exact ⟨a, b, dpW st.sub st.store rx.rw e1, dpW st.sub st.store ry.rw e2, h.1, h.2, k F θ H _ _ (Tr.refl ..) st (.d (show _ = _ by simp))⟩
  · cases e
theorem sim_neP {G : Gd} : Sim2 G (rNeD G.K) (gEqP true) := by
  refine ⟨fun {F θ H0 H S env σ fp x y vx vy fx fy z Q} st rx ry e l k => ?_⟩
  unfold gEqP at e
  obtain ⟨a, e1, e⟩ := Option.bind_eq_some_iff.mp e
  obtain ⟨b, e2, e⟩ := Option.bind_eq_some_iff.mp e
  split at e
  · rename_i h
    cases e
    exact ⟨a, b, dpW st.sub st.store rx.rw e1, dpW st.sub st.store ry.rw e2, h.1, h.2, k F θ H _ _ (Tr.refl ..) st (.d (show _ = _ by simp))⟩
  · cases e
def flatD : D → Bool
  | .non => true
  | .bl _ => true
  | .int _ => true
  | .str _ => true
  | _ => false
theorem flat_v {G : Gd} {F : Hp} {d : D} {v : V} (h : R G F d v) (f : flatD d = true) : v = vOf d ∧ flatV v = true := by
  cases d with
  | non =>
    rw [show v = V.non from h]
    exact ⟨rfl, rfl⟩
  | bl b =>
    rw [show v = V.bl b from h]
    exact ⟨rfl, rfl⟩
  | int b =>
    rw [show v = V.int b from h]
    exact ⟨rfl, rfl⟩
  | str b =>
    rw [show v = V.str b from h]
    exact ⟨rfl, rfl⟩
  | _ => exact absurd f Bool.false_ne_true
end Zf
set_option maxHeartbeats 1000000
namespace Zf
open PySem L2
def isNon : W → Bool
  | .d .non => true
  | _ => false
def gIs (neg : Bool) : Op2 := fun _ x y => match y with
  | .d .non => some (.d (.bl (neg != isNon x)))
  | _ => none
def gIx : Op2 := fun S x y => match y with
  | .d (.int i) => match x with
    | .d (.str z) => if z.length ≤ cap then (atI z.cps.toList i).map fun c => .d (.str ⟨#[c]⟩) else none
    | x => match vT x with
      | some xs => (atI xs i).map .d
      | none => (vLT S x).bind fun xs => (atI xs i).map toBor
  | _ => none
theorem atI_len {α β : Type} {xs : List α} {ys : List β} (h : xs.length = ys.length) {i : Int} {x : α} (e : atI xs i = some x) : ∃ j : Nat, xs[j]? = some x ∧ ∀ y, ys[j]? = some y → atI ys i = some y := by
  unfold atI at e ⊢
  obtain ⟨j, e1, e2⟩ := Option.bind_eq_some_iff.mp e
  refine ⟨j, e2, fun y hy => ?_⟩
  rw [← h, e1]
  exact hy
theorem sim_ix {G : Gd} : Sim2 G (rIx G.K) gIx := by
  refine ⟨fun {F θ H0 H S env σ fp x y vx vy fx fy z Q} st rx ry e l k => ?_⟩
  unfold gIx at e
  split at e
  · rename_i i
    split at e
    · rename_i zz
      split at e
      · rename_i hz
        obtain ⟨c, e1, e2⟩ := Option.map_eq_some_iff.mp e
        cases e2
        exact .inr (.inr ⟨zz, i, c, rx.rw.dAt, ry.rw.dAt, cap_ok hz, e1, k F θ H _ _ (Tr.refl ..) st (.d rfl)⟩)
      · cases e
    · split at e
      · rename_i xs hT
        obtain ⟨d, e1, e2⟩ := Option.map_eq_some_iff.mp e
        cases e2
        obtain ⟨a, vs, h1, h2, h3⟩ := vT_ok st rx hT
        obtain ⟨j, h4, h5⟩ := atI_len h3.len.symm e1
        obtain ⟨v, h6, h7⟩ := h3.get h4
        exact .inr (.inl ⟨a, vs, i, v, h1, ry.rw.dAt, h2, h5 v h6, k F θ H _ _ (Tr.refl ..) st (.d h7)⟩)
      · obtain ⟨xs, e1, e2⟩ := Option.bind_eq_some_iff.mp e
        obtain ⟨w, e3, e4⟩ := Option.map_eq_some_iff.mp e2
        cases e4
        by_cases hc : ∃ n, x = .c .tup n
        · obtain ⟨n, rfl⟩ := hc
          obtain ⟨⟨a, h1, h2⟩, hf, hl⟩ := rx.rw
          obtain ⟨vs, _, g2, g3⟩ := st.store.tcell e1 h2 (h1 ▸ hl)
          obtain ⟨j, h4, h5⟩ := atI_len g3.len.symm e3
          obtain ⟨v, f, h6, h7, h8⟩ := g3.get h4
          have hf0 : f = [] := List.eq_nil_of_sublist_nil h8
          subst hf0
          exact .inr (.inl ⟨a, vs, i, v, h1, ry.rw.dAt, .inl (.inl g2), h5 v h6, k F θ H _ _ (Tr.refl ..) st ⟨h7.bor, .nil, fun _ h => absurd h List.not_mem_nil, fun _ h => absurd h List.not_mem_nil, fun h => (not_own_bor w h).elim⟩⟩)
        have e1 : vL S x = some xs := by
          unfold vLT at e1
          split at e1
          · exact absurd ⟨_, rfl⟩ hc
          · exact e1
        obtain ⟨a, vs, fs, h1, h2, h3, h3'⟩ := vL_ok st rx e1
        obtain ⟨j, h4, h5⟩ := atI_len h3.len.symm e3
        obtain ⟨v, f, h6, h7, h8⟩ := h3.get h4
        have sb := h8.trans h3'
        exact .inl ⟨a, vs, i, v, h1, ry.rw.dAt, SqL.of h2, h5 v h6, k F θ H _ _ (Tr.refl ..) st ⟨h7.bor, rx.nd.sublist sb, fun b hb => rx.ap b (sb.subset hb), fun b hb => rx.src b (sb.subset hb), fun h => (not_own_bor w h).elim⟩⟩
  · cases e
section
variable {X : Cx} {G : Gd} {a b : Expr} {ma mb : ME} {pos : Pos}
theorem z_ix (ha : PE X a (tOf G ma)) (hb : PE X b (tOf G mb)) (hs : PlainIx b := by exact fun _ _ => rfl) (hK : X.K = G.K := by rfl) : PE X (.Subscript a b pos) (tOf G (mBin gIx ma mb)) :=
  pe_imp (pe_ix ix_seq ha hb hs) fun _ _ _ h => by
    rw [hK]
    exact tOf_bin sim_ix h
end
def tOfO (G : Gd) (m : MO) : TO := fun σ H Q => ∃ F θ S env fp o S', St G F θ H S env σ fp ∧ m env S = some (o, S') ∧
  ∀ F' θ' H', Tr F θ H F' θ' H' → St G F' θ' H' S' env σ fp → Q o H'
theorem Rs.cut {G : Gd} {F : Hp} {xs : List D} {vs : List V} (h : Rs G F xs vs) (lo hi : Option Int) : Rs G F (cutA xs lo hi) (cutV vs lo hi) := by
  unfold cutA cutV
  rw [h.len]
  exact (h.drop _).take _
section
variable {X : Cx} {G : Gd} {e : Expr} {me : ME} {lo hi : Option Expr} {ml mh : MO} {pos p2 : Pos}
theorem z_noPart : PO X none (tOfO G mNoPart) := ⟨fun pins s σ H Q I h => by
  refine po_none.run pins s σ H Q I ?_
  obtain ⟨F, θ, S, env, fp, o, S', st, e, k⟩ := h
  cases e
  exact k F θ H (Tr.refl ..) st⟩
theorem z_part {x : Expr} {m : ME} (h : PE X x (tOf G m)) : PO X (some x) (tOfO G (mPart m)) := ⟨fun pins s σ H Q I h0 => by
  refine (po_some h).run pins s σ H Q I ?_
  obtain ⟨F, θ, S, env, fp, o, S', st, e, k⟩ := h0
  unfold mPart at e
  obtain ⟨⟨w, S1⟩, ea, e⟩ := Option.bind_eq_some_iff.mp e
  dsimp only at e
  split at e
  · cases e
    exact ⟨F, θ, S, env, fp, _, _, st, ea, fun F1 θ1 H1 v f t1 st1 rv => ⟨_, rv.rw.dAt, k F1 θ1 H1 t1 st1⟩⟩
  · cases e⟩
theorem z_sl (he : PE X e (tOf G me)) (hl : PO X lo (tOfO G ml)) (hh : PO X hi (tOfO G mh)) (hK : X.K = G.K := by rfl) : PE X (.Subscript e (.Slice lo hi none p2) pos) (tOf G (mSl me ml mh)) := by
  refine pe_imp (pe_slice (sl_str.or (sl_tupA.or sl_list)) he hl hh) fun σ H Q h => ?_
  rw [hK]
  obtain ⟨F, θ, S, env, fp, w, S', st, e, k⟩ := h
  unfold mSl at e
  obtain ⟨⟨x, S1⟩, e1, e⟩ := Option.bind_eq_some_iff.mp e
  obtain ⟨⟨l, S2⟩, e2, e⟩ := Option.bind_eq_some_iff.mp e
  obtain ⟨⟨u, S3⟩, e3, e⟩ := Option.bind_eq_some_iff.mp e
  obtain ⟨z, e4, e⟩ := Option.map_eq_some_iff.mp e
  cases e
  refine ⟨F, θ, S, env, fp, x, S1, st, e1, fun F1 θ1 H1 v f t1 st1 rv => ?_⟩
  refine ⟨F1, θ1, S1, env, fp, l, S2, st1, e2, fun F2 θ2 H2 t2 st2 => ?_⟩
  refine ⟨F2, θ2, S2, env, fp, u, _, st2, e3, fun F3 θ3 H3 t3 st3 => ?_⟩
  have t := t1.trans (t2.trans t3)
  have r3 := rv.mono (t2.trans t3)
  dsimp only at e4
  unfold gSl at e4
  split at e4
  · split at e4
    · rename_i hz
      cases e4
      exact .inl ⟨_, r3.rw.dAt, cap_ok hz, k F3 θ3 H3 _ _ t st3 (.d rfl)⟩
    · cases e4
  · cases e4
    obtain ⟨a, vs, h1, h2, h3⟩ := r3.rw.dAt
    refine .inr (.inr ⟨a, vs, h1, sub_sqL st3.sub h2, fun p hp => ?_⟩)
    obtain ⟨t4, s4⟩ := st3.new hp (.lst (cutV vs l u))
    exact k _ _ _ _ _ (t.trans t4) s4 (.newL (Rs.mono t4.le _ _ (h3.cut l u)))
  · split at e4
    · rename_i xs hT
      cases e4
      obtain ⟨a, vs, h1, h2, h3⟩ := vT_ok st3 r3 hT
      refine .inr (.inl ⟨a, vs, h1, h2, fun hw => ?_, fun _ p hp => ?_⟩)
      · have hc := h3.cut l u
        have ev : cutV vs l u = vs := by
          unfold cutV
          rw [hw.1, hw.2, List.drop_zero, Nat.sub_zero, List.take_length]
        rw [ev] at hc
        rw [← h1]
        exact k F3 θ3 H3 _ _ t st3 (.d (by
          obtain ⟨a', vs', q1, q2, q3⟩ := (show R G F3 (.tup xs) v from by
            cases x with
            | d x =>
              cases x with
              | tup ys =>
                cases hT
                exact r3.rw.dAt
              | _ => cases hT
            | _ => cases hT)
          rw [h1] at q1
          cases q1
          refine ⟨a, vs', h1, q2, ?_⟩
          have hc2 := q3.cut l u
          have ev2 : cutV vs' l u = vs' := by
            unfold cutV
            rw [show vs'.length = vs.length by rw [q3.len, h3.len], hw.1, hw.2, List.drop_zero, Nat.sub_zero, ← q3.len.trans h3.len.symm, List.take_length]
          rw [ev2] at hc2
          exact hc2))
      · obtain ⟨t4, s4⟩ := st3.new hp (.tup (cutV vs l u))
        exact k _ _ _ _ _ (t.trans t4) s4 (.newT (Rs.mono t4.le _ _ (h3.cut l u)))
    · obtain ⟨xs, e5, e6⟩ := Option.map_eq_some_iff.mp e4
      cases e6
      obtain ⟨ws, e7, e8⟩ := Option.bind_eq_some_iff.mp e5
      obtain ⟨a, vs, fs, h1, h2, h3, _⟩ := vL_ok st3 r3 e7
      have q := h3.toD e8
      refine .inr (.inr ⟨a, vs, h1, SqL.of h2, fun p hp => ?_⟩)
      obtain ⟨t4, s4⟩ := st3.new hp (.lst (cutV vs l u))
      exact k _ _ _ _ _ (t.trans t4) s4 (.newL (Rs.mono t4.le _ _ (q.cut l u)))
end
section
variable {X : Cx} {G : Gd} {es : List Expr} {ms : MA} {pos : Pos}
theorem z_tup {x1} (h : PA X es (tOfA G ms)) : PE X (.Tuple es x1 pos) (tOf G (mTup ms)) := by
  refine pe_imp (pe_tup h) fun σ H Q h => ?_
  obtain ⟨F, θ, S, env, fp, w, S', st, e, k⟩ := h
  unfold mTup at e
  obtain ⟨⟨ws, S1⟩, e1, e⟩ := Option.bind_eq_some_iff.mp e
  obtain ⟨xs, e2, e⟩ := Option.bind_eq_some_iff.mp e
  split at e
  · rename_i hl
    cases e
    refine ⟨F, θ, S, env, fp, ws, _, st, e1, fun F1 θ1 H1 vs t1 st1 rs => ?_⟩
    have q := rs.d e2
    refine ⟨by rw [q.len]; exact cap_ok hl, fun p hp => ?_⟩
    obtain ⟨t4, s4⟩ := st1.new hp (.tup vs)
    exact k _ _ _ _ _ (t1.trans t4) s4 (.newT (Rs.mono t4.le _ _ q))
  · cases e
theorem z_lst (h : PA X es (tOfA G ms)) : PE X (.List es pos) (tOf G (mLst ms)) := by
  refine pe_imp (pe_lst h) fun σ H Q h => ?_
  obtain ⟨F, θ, S, env, fp, w, S', st, e, k⟩ := h
  unfold mLst at e
  obtain ⟨⟨ws, S1⟩, e1, e⟩ := Option.bind_eq_some_iff.mp e
  obtain ⟨xs, e2, e⟩ := Option.bind_eq_some_iff.mp e
  split at e
  · rename_i hl
    cases e
    refine ⟨F, θ, S, env, fp, ws, _, st, e1, fun F1 θ1 H1 vs t1 st1 rs => ?_⟩
    have q := rs.d e2
    refine ⟨by rw [q.len]; exact cap_ok hl, fun p hp => ?_⟩
    obtain ⟨t4, s4⟩ := st1.new hp (.lst vs)
    exact k _ _ _ _ _ (t1.trans t4) s4 (.newL (Rs.mono t4.le _ _ q))
  · cases e
end
theorem ln_upd {H : Hp} {θ : Th} {a : Addr} {x : HO} (ha : a ∉ θ) : ∀ b ∈ θ, ∀ u, H b = some u → ∃ u', upd H a x b = some u' ∧ kdO u' = kdO u := fun b hb u h => ⟨u, by rw [upd_ne (show b ≠ a from fun z => ha (z ▸ hb))]; exact h, rfl⟩
theorem ln_id {H : Hp} {θ : Th} : ∀ b ∈ θ, ∀ u, H b = some u → ∃ u', H b = some u' ∧ kdO u' = kdO u := fun _ _ u h => ⟨u, h, rfl⟩
section
variable {G : Gd} {F F' H H' : Hp} {θ θ' : Th} (le : Le F F') (th : ∀ (n : Nat) a, θ[n]? = some a → θ'[n]? = some a) (ln : ∀ a ∈ θ, ∀ u, H a = some u → ∃ u', H' a = some u' ∧ kdO u' = kdO u)
include le th ln
end
theorem TrS.refl (F : Hp) (θ : Th) (H : Hp) (fp : List Addr) : TrS F θ H fp F θ H fp where
  le := .refl F
  th := ⟨[], (List.append_nil θ).symm⟩
  newF := fun a h1 h2 => absurd h1 h2
  newT := fun a h1 h2 => absurd h1 h2
  newP := fun _ h => .inl h
  keep := fun _ _ _ _ h => h
  live := fun _ u h => ⟨u, h, fun _ => rfl⟩
theorem Tr.newS {F F' H H' : Hp} {θ θ' : Th} {fp fp' : List Addr} (t : Tr F θ H F' θ' H') (hp : ∀ a ∈ fp', a ∈ fp ∨ H a = none) (a : Addr) (h1 : F a = none) (h2 : F' a ≠ none) : H a = none ∨ a ∈ fp ∨ (a ∉ θ' ∧ a ∉ fp' ∧ ∃ vs, H a = some (.tup vs)) := by
  rcases t.newF a h1 h2 with z | ⟨z1, vs, z2⟩
  · exact .inl z
  · by_cases hf : a ∈ fp'
    · rcases hp a hf with q | q
      · exact .inr (.inl q)
      · exact .inl q
    · exact .inr (.inr ⟨z1, hf, vs, z2⟩)
theorem Tr.toS {F F' H H' : Hp} {θ θ' : Th} (t : Tr F θ H F' θ' H') (fp : List Addr) : TrS F θ H fp F' θ' H' fp where
  le := t.le
  th := t.th
  newF := t.newS fun _ h => .inl h
  newT := fun a h1 h2 => .inl (t.newT a h1 h2)
  newP := fun _ h => .inl h
  keep := fun a u h _ => t.keep a u h
  live := t.live
def Ke (G : Gd) (H : Hp) (fp fp' : List Addr) (D : Ends) (F' : Hp) (θ' : Th) (H' : Hp) (σ' : L2.St) : Fl → Prop
  | .nx => D.nx σ' H'
  | .brk => D.bk σ' H'
  | .cont => D.ct σ' H'
  | .ret w => ∀ v f, Rr G H fp F' θ' H' w v f → D.rt v H'
  | .exc c x => ∀ d y, H' d = some (.xd [(G.exn c, y)]) → R G F' x y → F' d = none → d ∉ θ' → d ∉ fp' → (d ∈ fp ∨ H d = none) → G.exw (.ref (G.cls c)) (some d) σ' H'
def tOfS (G : Gd) (m : MS) : TS := fun D σ H => ∃ F θ S env fp fl env' S', St G F θ H S env σ fp ∧ m env S = some (fl, env', S') ∧
  ∀ F' θ' H' σ' fp', TrS F θ H fp F' θ' H' fp' → St G F' θ' H' S' env' σ' fp' → Ke G H fp fp' D F' θ' H' σ' fl
theorem Ke.earlier {G : Gd} {F0 F H0 H : Hp} {θ0 θ : Th} {fp0 fp fp' : List Addr} {D : Ends} {F' : Hp} {θ' : Th} {H' : Hp} {σ' : L2.St} {fl : Fl} (t : TrS F0 θ0 H0 fp0 F θ H fp) (k : Ke G H0 fp0 fp' D F' θ' H' σ' fl) : Ke G H fp fp' D F' θ' H' σ' fl := by
  cases fl with
  | nx => exact k
  | brk => exact k
  | cont => exact k
  | ret w => exact fun v f r => k v f ⟨r.rw, r.nd, r.ap, fun a ha => by
      rcases r.src a ha with z | z
      · exact t.newP a z
      · exact .inr (t.back z)⟩
  | exc c x => exact fun d y h1 h2 h3 h4 h5 h6 => k d y h1 h2 h3 h4 h5 (h6.elim (fun z => t.newP d z) fun z => .inr (t.back z))
theorem ps_imp {X : Cx} {st : Stmt} {t t' : TS} (h : PS X st t) (i : ∀ D σ H, t' D σ H → t D σ H) : PS X st t' := ⟨fun pins s σ H D I q => h.run pins s σ H D I (i D σ H q)⟩
theorem pss_imp {X : Cx} {st : List Stmt} {t t' : TS} (h : PSs X st t) (i : ∀ D σ H, t' D σ H → t D σ H) : PSs X st t' := ⟨fun pins s σ H D I q => h.run pins s σ H D I (i D σ H q)⟩
section
variable {X : Cx} {G : Gd} {st : Stmt} {rest : List Stmt} {ma mb : MS}
theorem zs_nil : PSs X [] (tOfS G mNext) := pss_imp pss_nil fun D σ H h => by
  obtain ⟨F, θ, S, env, fp, fl, env', S', s, e, k⟩ := h
  cases e
  exact k F θ H σ fp (.refl ..) s
theorem zs_one (h : PS X st (tOfS G ma)) : PSs X [st] (tOfS G ma) := pss_one h
theorem zs_cons (h1 : PS X st (tOfS G ma)) (h2 : PSs X rest (tOfS G mb)) : PSs X (st :: rest) (tOfS G (mSeq ma mb)) := by
  refine pss_imp (pss_cons h1 h2) fun D σ H h => ?_
  obtain ⟨F, θ, S, env, fp, fl, env', S', s, e, k⟩ := h
  unfold mSeq at e
  obtain ⟨⟨f1, en1, S1⟩, e1, e⟩ := Option.bind_eq_some_iff.mp e
  refine ⟨F, θ, S, env, fp, f1, en1, S1, s, e1, fun F1 θ1 H1 σ1 fp1 t1 s1 => ?_⟩
  cases f1 with
  | nx => exact ⟨F1, θ1, S1, en1, fp1, fl, env', S', s1, e, fun F2 θ2 H2 σ2 fp2 t2 s2 => (k F2 θ2 H2 σ2 fp2 (t1.trans t2) s2).earlier t1⟩
  | brk =>
    cases e
    exact k F1 θ1 H1 σ1 fp1 t1 s1
  | cont =>
    cases e
    exact k F1 θ1 H1 σ1 fp1 t1 s1
  | ret w =>
    cases e
    exact k F1 θ1 H1 σ1 fp1 t1 s1
  | exc c x =>
    cases e
    exact k F1 θ1 H1 σ1 fp1 t1 s1
end
def mDrop (m : ME) : MS := fun env S => (m env S).map fun p => (.nx, env, p.2)
section
variable {X : Cx} {G : Gd} {e c : Expr} {m : ME} {mc : MT} {a b : List Stmt} {ma mb : MS} {pos : Pos}
theorem z_ret (he : PE X e (tOf G m)) : PS X (.Return (some e) pos) (tOfS G (mRet m)) := by
  refine ps_imp (ps_ret he) fun D σ H h => ?_
  obtain ⟨F, θ, S, env, fp, fl, env', S', s, e, k⟩ := h
  unfold mRet at e
  obtain ⟨⟨w, S1⟩, e1, e⟩ := Option.map_eq_some_iff.mp e
  cases e
  exact ⟨F, θ, S, env, fp, w, _, s, e1, fun F1 θ1 H1 v f t1 s1 r => k F1 θ1 H1 σ fp (t1.toS fp) s1 v f ⟨r.rw, r.nd, r.ap, r.src⟩⟩
theorem z_if (hc : PT X c (tOfT G mc)) (ha : PSs X a (tOfS G ma)) (hb : PSs X b (tOfS G mb)) : PS X (.If c a b pos) (tOfS G (mIfS mc ma mb)) := by
  refine ps_imp (ps_if hc ha hb) fun D σ H h => ?_
  obtain ⟨F, θ, S, env, fp, fl, env', S', s, e, k⟩ := h
  unfold mIfS at e
  obtain ⟨⟨c, S1⟩, e1, e⟩ := Option.bind_eq_some_iff.mp e
  refine ⟨F, θ, S, env, fp, c, S1, s, e1, fun F1 θ1 H1 t1 s1 => ?_⟩
  cases c with
  | true => exact ⟨F1, θ1, S1, env, fp, fl, env', S', s1, e, fun F2 θ2 H2 σ2 fp2 t2 s2 => (k F2 θ2 H2 σ2 fp2 ((t1.toS fp).trans t2) s2).earlier (t1.toS fp)⟩
  | false => exact ⟨F1, θ1, S1, env, fp, fl, env', S', s1, e, fun F2 θ2 H2 σ2 fp2 t2 s2 => (k F2 θ2 H2 σ2 fp2 ((t1.toS fp).trans t2) s2).earlier (t1.toS fp)⟩
end
theorem St.fpH {G : Gd} {F H : Hp} {θ : Th} {S : Store} {env : En} {σ : L2.St} {fp : List Addr} (s : St G F θ H S env σ fp) : ∀ a ∈ fp, H a ≠ none := fun a ha e => by
  obtain ⟨u, hu⟩ := RE.there env σ fp s.env a ha
  rw [hu] at e
  cases e
theorem tOf_set {G : Gd} {i : Nat} {m : ME} {D : Ends} {σ : L2.St} {H : Hp} (h : tOfS G (mSet i m) D σ H) : tOf G m σ H fun v H1 => D.nx (σ.set i (some v)) H1 := by
  obtain ⟨F, θ, S, env, fp, fl, env', S', s, e, k⟩ := h
  unfold mSet at e
  obtain ⟨⟨w, S1⟩, e1, e⟩ := Option.bind_eq_some_iff.mp e
  dsimp only at e
  split at e
  · rename_i hc
    cases e
    refine ⟨F, θ, S, env, fp, w, _, s, e1, fun F1 θ1 H1 v f t1 s1 r => ?_⟩
    obtain ⟨fp', s2, h2⟩ := s1.set r s.fpH hc.1 hc.2
    exact k F1 θ1 H1 _ fp' ⟨t1.le, t1.th, t1.newS h2, fun a h1 h2 => .inl (t1.newT a h1 h2), h2, fun a u h _ => t1.keep a u h, t1.live⟩ s2
  · cases e
section
variable {X : Cx} {G : Gd} {e : Expr} {m : ME} {pos : Pos}
theorem z_set {i : Nat} {x : Str} {pos' : Pos} (hN : X.N.Nodup) (hi : X.N[i]? = some x) (hx : Loc X.env.scope x) (he : PE X e (tOf G m)) (hs : swapsWith e (some (.Name x pos')) pos.line X.env = pure false := by rfl)
    (hf : X.fn x = true ∨ X.env.scope.names.lookup x = some .local := by first | exact .inl rfl | exact .inr rfl | assumption) : PS X (.Assign [.Name x pos'] e pos) (tOfS G (mSet i m)) :=
  ps_imp (ps_set hN hi hx he hs hf) fun D σ H h => tOf_set h
end
theorem Grow.refl {F H : Hp} (s : ∀ a u, F a = some u → H a = some u) : Grow F H F H := ⟨fun _ _ h => h, fun _ _ h => h, fun a h1 h2 => absurd h1 h2, s⟩
theorem Grow.tr {F H F' H' : Hp} (g : Grow F H F' H') (θ : Th) : Tr F θ H F' θ H' where
  le := Le.of g.f
  th := ⟨[], (List.append_nil θ).symm⟩
  newF := fun a h1 h2 => .inl (g.new a h1 h2)
  newT := fun a h1 h2 => absurd h1 h2
  keep := fun a u _ h => g.h a u h
  live := fun a u h => ⟨u, g.h a u h, fun _ => rfl⟩
theorem St.grow {G : Gd} {F F' H H' : Hp} {θ : Th} {S : Store} {env : En} {σ : L2.St} {fp : List Addr} (s : St G F θ H S env σ fp) (g : Grow F H F' H') : St G F' θ H' S env σ fp :=
  s.step (g.tr θ) g.sub (s.store.move (Le.of g.f) (fun a ha h => by
    obtain ⟨_, u, hu⟩ := s.store.there ha
    cases e : F' a with
    | none => rfl
    | some x =>
      have z := g.new a h (by rw [e]; exact fun z => by cases z)
      rw [hu] at z
      cases z) fun a _ u h => g.h a u h)
def tOfI (G : Gd) (m : MI) : TI := fun σ H R => ∃ F θ S env fp ds S', St G F θ H S env σ fp ∧ m env S = some (ds, S') ∧
  ∀ F' θ' H' J, Tr F θ H F' θ' H' → St G F' θ' H' S' env σ fp → Runs G F' J ds → R J H'
theorem pi_imp {X : Cx} {tg e : Expr} {t t' : TI} (h : PI X tg e t) (i : ∀ σ H R, t' σ H R → t σ H R) : PI X tg e t' := ⟨fun pins s σ H R I q => h.run pins s σ H R I (i σ H R q)⟩
theorem pi_or {X : Cx} {tg e : Expr} {t t' : TI} (h : PI X tg e t) (h' : PI X tg e t') : PI X tg e (fun σ H R => t σ H R ∨ t' σ H R) := ⟨fun pins s σ H R I q => q.elim (h.run pins s σ H R I) (h'.run pins s σ H R I)⟩
section
variable {X : Cx} {G : Gd} {tg l : Expr} {m : ME}
theorem zi_seq (h : PE X l (tOf G m)) (hK : X.K = G.K := by rfl) : PI X tg l (tOfI G (mISeq m)) := by
  refine pi_imp (pi_or (pi_list h) (pi_tup h)) fun σ H Rr q => ?_
  rw [hK]
  obtain ⟨F, θ, S, env, fp, ds, S', s, e, k⟩ := q
  unfold mISeq at e
  obtain ⟨⟨w, S1⟩, e1, e⟩ := Option.bind_eq_some_iff.mp e
  dsimp only at e
  split at e
  · cases e
    refine .inl ⟨F, θ, S, env, fp, _, _, s, e1, fun F1 θ1 H1 v f t1 s1 r => ?_⟩
    obtain ⟨a, vs, h1, h2, h3⟩ := r.rw.dAt
    refine ⟨a, h1, ⟨vs, SqL.of (s1.sub _ _ h2)⟩, k F1 θ1 H1 _ t1 s1 fun i F2 H2 le sub => ⟨fun d hd => ?_, fun hi => ?_⟩⟩
    · obtain ⟨v, e2, e3⟩ := (Rs.mono le _ _ h3).get hd
      have hl : H2 a = some (.lst vs) := sub _ _ (le.at not_dk_lst h2)
      refine ⟨⟨vs, v, SqL.of hl, e2⟩, fun x H3 y => ?_⟩
      obtain ⟨rfl, y⟩ := y
      have y1 := y vs (SqL.of hl)
      rw [e2] at y1
      cases y1
      exact ⟨F2, .refl sub, e3⟩
    · have hl : H2 a = some (.lst vs) := sub _ _ (le.at not_dk_lst h2)
      exact ⟨vs, SqL.of hl, by rw [h3.len]; omega⟩
  · cases e
    refine .inr ⟨F, θ, S, env, fp, _, _, s, e1, fun F1 θ1 H1 v f t1 s1 r => ?_⟩
    obtain ⟨a, vs, h1, h2, h3⟩ := r.rw.dAt
    refine ⟨a, h1, ⟨vs, sub_sqT s1.sub h2.sq⟩, k F1 θ1 H1 _ t1 s1 fun i F2 H2 le sub => ⟨fun d hd => ?_, fun hi => ?_⟩⟩
    · obtain ⟨v, e2, e3⟩ := (Rs.mono le _ _ h3).get hd
      have hl : SqT G.K H2 a vs := sub_sqT sub (le.sqP h2).sq
      refine ⟨⟨vs, v, hl, e2⟩, fun x H3 y => ?_⟩
      obtain ⟨rfl, y⟩ := y
      have y1 := y vs hl
      rw [e2] at y1
      cases y1
      exact ⟨F2, .refl sub, e3⟩
    · exact ⟨vs, sub_sqT sub (le.sqP h2).sq, by rw [h3.len]; omega⟩
  · cases e
end
section
variable {X : Cx} {G : Gd} {tg a b : Expr} {m : MA} {p pos : Pos}
theorem runs_rng {F : Hp} (lo : Int) (n : Nat) : Runs G F (Itr lo n) (dRange lo n) := fun i F2 H2 le sub => by
  unfold dRange
  refine ⟨fun d hd => ?_, fun hi => ?_⟩
  · rw [List.getElem?_map] at hd
    obtain ⟨j, e1, e2⟩ := Option.map_eq_some_iff.mp hd
    have hl : i < n := by
      have z := (List.getElem?_eq_some_iff.mp e1).1
      rw [List.length_range] at z
      exact z
    rw [List.getElem?_range hl] at e1
    cases e1
    refine ⟨hl, fun x H3 y => ?_⟩
    obtain ⟨rfl, rfl⟩ := y
    exact ⟨F2, .refl sub, by rw [← e2]; rfl⟩
  · rw [List.length_map, List.length_range] at hi
    exact Nat.le_of_eq hi
theorem zi_rng1 (hg : Gl X "range") (hm : X.mg "range" = none) (h : PA X [a] (tOfA G m)) (hs : starEach [a] X.env = [(false, eval a X.env)] := by rfl) : PI X tg (.Call (.Name "range" p) [a] [] pos) (tOfI G (mIRng1 m)) := by
  refine pi_imp (pi_range1 hg hm h hs) fun σ H Rr q => ?_
  obtain ⟨F, θ, S, env, fp, ds, S', s, e, k⟩ := q
  unfold mIRng1 at e
  obtain ⟨⟨ws, S1⟩, e1, e⟩ := Option.bind_eq_some_iff.mp e
  dsimp only at e
  split at e
  · rename_i n
    split at e
    · rename_i hn
      cases e
      refine ⟨F, θ, S, env, fp, _, _, s, e1, fun F1 θ1 H1 vs t1 s1 r => ?_⟩
      obtain ⟨v, r', f, h1, h2, h3⟩ := r
      have h3' : r' = [] := h3
      exact ⟨n, by rw [h1, h3', show v = V.int n from h2.rw.dAt], by omega, by omega, k F1 θ1 H1 _ t1 s1 (runs_rng 0 n.toNat)⟩
    · cases e
  · cases e
end
def gAll : List Nat → TGs
  | [] => gNil
  | i :: is => gCons (gName i) (gAll is)
def gOf (K : PySem.W.Frag) : Tg → TG
  | .nm i => gName i
  | .tup is => gTup K is.length (gAll is)
  | .pr i is => gTup K 2 (gCons (gName i) (gCons (gTup K is.length (gAll is)) gNil))
section
variable {G : Gd} {F H : Hp} {θ : Th} {S : Store}
theorem St.setD {env : En} {σ : L2.St} {fp : List Addr} (s : St G F θ H S env σ fp) {i : Nat} {x : D} {v : V} (hi : i < env.length) (r : R G F x v) : ∃ fp', St G F θ H S (env.set i (some (.d x))) (σ.set i (some v)) fp' ∧ ∀ a ∈ fp', a ∈ fp := by
  obtain ⟨fp', h1, h2⟩ := s.set (H0 := H) (Res.d (θ' := θ) (H' := H) r) s.fpH hi rfl
  refine ⟨fp', h1, fun a ha => ?_⟩
  rcases h2 a ha with z | z
  · exact z
  · exact absurd z (h1.fpH a ha)
theorem bindAll_ok : ∀ {is : List Nat} {xs : List D} {vs : List V} {env env' : En} {σ : L2.St} {fp : List Addr} {Q : L2.St → Hp → Prop}, St G F θ H S env σ fp → Rs G F xs vs → bindAll is xs env = some env' →
    (∀ σ' fp', St G F θ H S env' σ' fp' → (∀ a ∈ fp', a ∈ fp) → Q σ' H) → gAll is vs σ H Q
  | [], [], vs, env, env', σ, fp, Q, s, r, e, k => by
    cases e
    exact ⟨r, k σ fp s fun _ h => h⟩
  | i :: is, x :: xs, vs, env, env', σ, fp, Q, s, ⟨v, r', h1, h2, h3⟩, e, k => by
    unfold bindAll at e
    split at e
    · rename_i hi
      obtain ⟨fp1, s1, h4⟩ := s.setD hi h2
      exact ⟨v, r', h1, bindAll_ok s1 h3 e fun σ' fp' s' h => k σ' fp' s' fun a ha => h4 a (h a ha)⟩
    · cases e
  | [], _ :: _, _, _, _, _, _, _, _, _, e, _ => by cases e
  | _ :: _, [], _, _, _, _, _, _, _, _, e, _ => by cases e
theorem bindT_pr {i : Nat} {is : List Nat} {env env' : En} {x : D} (e : bindT (.pr i is) env x = some env') : ∃ y xs, x = .tup [y, .tup xs] := by
  unfold bindT at e
  split at e <;> first | contradiction | exact ⟨_, _, rfl⟩ | cases e
theorem bindAll_len : ∀ {is : List Nat} {xs : List D} {env env' : En}, bindAll is xs env = some env' → xs.length = is.length := by
  intro is
  induction is with
  | nil =>
    intro xs env env' e
    cases xs with
    | nil => rfl
    | cons _ _ => cases e
  | cons i is ih =>
    intro xs env env' e
    cases xs with
    | nil => cases e
    | cons x xs =>
      unfold bindAll at e
      split at e
      · rw [List.length_cons, List.length_cons, ih e]
      · cases e
theorem bindT_ok {t : Tg} {x : D} {v : V} {env env' : En} {σ : L2.St} {fp : List Addr} {Q : L2.St → Hp → Prop} (s : St G F θ H S env σ fp) (r : R G F x v) (e : bindT t env x = some env')
    (k : ∀ σ' fp', St G F θ H S env' σ' fp' → (∀ a ∈ fp', a ∈ fp) → Q σ' H) : gOf G.K t v σ H Q := by
  cases t with
  | nm i =>
    have e : (if i < env.length then some (env.set i (some (W.d x))) else none) = some env' := e
    split at e
    · rename_i hi
      cases e
      obtain ⟨fp1, s1, h4⟩ := s.setD hi r
      exact k _ fp1 s1 h4
    · cases e
  | tup is =>
    cases x with
    | tup xs =>
      obtain ⟨a, vs, h1, h2, h3⟩ := r
      exact ⟨a, vs, h1, sub_sqT s.sub h2.sq, by rw [h3.len, bindAll_len e], bindAll_ok s h3 e k⟩
    | _ => cases e
  | pr i is =>
    obtain ⟨y, xs, hx⟩ := bindT_pr e
    subst hx
    have e : (if i < env.length then bindAll is xs (env.set i (some (.d y))) else none) = some env' := e
    split at e
    · rename_i hi
      obtain ⟨a, vs, h1, h2, v1, r1, h3, h4, v2, r2, h5, h6, h7⟩ := r
      have h7' : r2 = [] := h7
      subst h7' h5
      obtain ⟨b, us, q1, q2, q3⟩ := h6
      obtain ⟨fp1, s1, h8⟩ := s.setD hi h4
      refine ⟨a, vs, h1, sub_sqT s.sub h2.sq, by rw [h3]; rfl, v1, [v2], h3, ?_⟩
      refine ⟨v2, [], rfl, b, us, q1, sub_sqT s1.sub q2.sq, by rw [q3.len, bindAll_len e], ?_⟩
      exact bindAll_ok s1 q3 e fun σ' fp' s' h => ⟨rfl, k σ' fp' s' fun a ha => h8 a (h a ha)⟩
    · cases e
end
theorem Grow.toS {F F' H H' : Hp} (g : Grow F H F' H') (θ : Th) (fp : List Addr) : TrS F θ H fp F' θ H' fp := (g.tr θ).toS fp
theorem TrS.fpSub {F H : Hp} {θ : Th} {fp fp' : List Addr} (h : ∀ a ∈ fp', a ∈ fp) : TrS F θ H fp F θ H fp' where
  le := .refl F
  th := ⟨[], (List.append_nil θ).symm⟩
  newF := fun a h1 h2 => absurd h1 h2
  newT := fun a h1 h2 => absurd h1 h2
  newP := fun a ha => .inl (h a ha)
  keep := fun _ _ _ _ h => h
  live := fun _ u h => ⟨u, h, fun _ => rfl⟩
section
variable {X : Cx} {G : Gd} {tg iter : Expr} {body : List Stmt} {mi : MI} {t : Tg} {mb : MS} {pos : Pos}
theorem z_for (hp : PassesOwn (model X.prog X.w) X.A X.env X.xe) (hi : PI X tg iter (tOfI G mi)) (hg : PG X tg (gOf G.K t)) (hb : PSs X body (tOfS G mb)) (hc : X.calm = true := by rfl)
    (hs : ∀ x, foldedSetIterable iter X.env x = pure x := by intro _; rfl) : PS X (.For tg iter body [] pos) (tOfS G (mFor mi t mb)) := by
  refine ps_imp (ps_for hp hc hi hg hb hs) fun D σ H h => ?_
  obtain ⟨F, θ, S, env, fp, fl, envE, SE, s, e, k⟩ := h
  unfold mFor at e
  obtain ⟨⟨ds, S1⟩, e1, e⟩ := Option.bind_eq_some_iff.mp e
  refine ⟨F, θ, S, env, fp, ds, S1, s, e1, fun F1 θ1 H1 J t1 s1 run => ?_⟩
  refine ⟨fun i m σ' H' => m = ds.length - i ∧ i ≤ ds.length ∧ ∃ F' θ' fp' env' S', TrS F θ H fp F' θ' H' fp' ∧ Le F1 F' ∧ St G F' θ' H' S' env' σ' fp' ∧ goFor t mb (ds.drop i) env' S' = some (fl, envE, SE),
    ⟨ds.length, by rw [Nat.sub_zero], Nat.zero_le _, F1, θ1, fp, env, S1, t1.toS fp, .refl _, s1, e⟩, ?_⟩
  rintro i m σ' H' ⟨rfl, hi, F', θ', fp', env', S', ts, le, s', e'⟩
  have rr := run i F' H' le s'.sub
  by_cases hl : i < ds.length
  · right
    rw [List.drop_eq_getElem_cons hl] at e'
    unfold goFor at e'
    obtain ⟨env1, e2, e'⟩ := Option.bind_eq_some_iff.mp e'
    obtain ⟨⟨f1, en2, S2⟩, e3, e'⟩ := Option.bind_eq_some_iff.mp e'
    obtain ⟨go, yl⟩ := rr.1 ds[i] (List.getElem?_eq_getElem hl)
    refine ⟨go, fun σ'' H'' => ∃ m', m' < ds.length - i ∧ (m' = ds.length - (i + 1) ∧ i + 1 ≤ ds.length ∧ ∃ F' θ' fp' env' S', TrS F θ H fp F' θ' H'' fp' ∧ Le F1 F' ∧ St G F' θ' H'' S' env' σ'' fp' ∧ goFor t mb (ds.drop (i + 1)) env' S' = some (fl, envE, SE)), fun σ'' H'' q => q, fun x H3 y => ?_⟩
    obtain ⟨F3, g, rx⟩ := yl x H3 y
    have s3 := s'.grow g
    refine bindT_ok s3 rx e2 fun σ4 fp4 s4 h4 => ?_
    refine ⟨F3, θ', S', env1, fp4, f1, en2, S2, s4, e3, fun F5 θ5 H5 σ5 fp5 t5 s5 => ?_⟩
    have tt : TrS F θ H fp F5 θ5 H5 fp5 := ts.trans ((g.toS θ' fp').trans ((TrS.fpSub h4).trans t5))
    have lee : Le F1 F5 := le.trans ((Le.of g.f).trans t5.le)
    cases f1 with
    | nx => exact ⟨ds.length - (i + 1), by omega, rfl, hl, F5, θ5, fp5, en2, S2, tt, lee, s5, e'⟩
    | cont => exact ⟨ds.length - (i + 1), by omega, rfl, hl, F5, θ5, fp5, en2, S2, tt, lee, s5, e'⟩
    | brk =>
      cases e'
      exact k F5 θ5 H5 σ5 fp5 tt s5
    | exc c x =>
      cases e'
      intro d y q1 q2 q3 q4 q5 q6
      refine k F5 θ5 H5 σ5 fp5 tt s5 d y q1 q2 q3 q4 q5 (q6.elim (fun z => ts.newP d (h4 d z)) fun z => .inr (ts.back ?_))
      cases q : H' d with
      | none => rfl
      | some u =>
        rw [g.h d u q] at z
        cases z
    | ret w =>
      cases e'
      intro v f r
      exact k F5 θ5 H5 σ5 fp5 tt s5 v f ⟨r.rw, r.nd, r.ap, fun a ha => by
        rcases r.src a ha with z | z
        · exact ts.newP a (h4 a z)
        · refine .inr (ts.back ?_)
          cases q : H' a with
          | none => rfl
          | some u =>
            rw [g.h a u q] at z
            cases z⟩
  · left
    have hi' : ds.length = i := by omega
    rw [← hi', List.drop_length] at e'
    cases e'
    exact ⟨rr.2 hi', k F' θ' H' σ' fp' ts s'⟩
end
theorem St.unset {G : Gd} {F H : Hp} {θ : Th} {S : Store} {env : En} {σ : L2.St} {fp : List Addr} (s : St G F θ H S env σ fp) (i : Nat) : ∃ fp', St G F θ H S (env.set i none) (σ.set i none) fp' ∧ ∀ a ∈ fp', a ∈ fp := by
  by_cases hi : i < env.length
  · obtain ⟨ea, eb, o, sa, sb, v0, pre, old, post, q1, q2, q3, q4, q5, q6, q7, q8, q9⟩ := RE.cut s.env hi
    have nd := s.nd
    rw [q5] at nd
    refine ⟨pre ++ post, ⟨s.sub, s.store, ?_, nd.sublist ((List.Sublist.refl pre).append (List.sublist_append_right ..)), fun a ha => ?_⟩, fun a ha => ?_⟩
    · rw [q1, q2, set_mid q3, set_mid q4]
      exact RE.join q6 ⟨none, sb, rfl, q7⟩
    · rcases List.mem_append.mp ha with ha | ha
      · exact s.apart a (by rw [q5]; simp [ha])
      · exact s.apart a (by rw [q5]; simp [ha])
    · rcases List.mem_append.mp ha with ha | ha
      · rw [q5]
        simp [ha]
      · rw [q5]
        simp [ha]
  · have e1 : env.set i none = env := List.set_eq_of_length_le (by omega)
    have e2 : σ.set i none = σ := List.set_eq_of_length_le (by rw [RE.len s.env]; omega)
    rw [e1, e2]
    exact ⟨fp, s, fun _ h => h⟩
theorem St.wipe {G : Gd} {F H : Hp} {θ : Th} {S : Store} {env : En} {σ : L2.St} {fp : List Addr} (s : St G F θ H S env σ fp) : ∀ vs : List Nat, ∃ fp', St G F θ H S (wipeE env vs) (L2.wipe σ vs) fp' ∧ ∀ a ∈ fp', a ∈ fp
  | [] => ⟨fp, s, fun _ h => h⟩
  | v :: vs => by
    obtain ⟨f1, s1, h1⟩ := St.wipe s vs
    obtain ⟨f2, s2, h2⟩ := s1.unset v
    exact ⟨f2, s2, fun a ha => h1 a (h2 a ha)⟩
section
variable {X : Cx} {G : Gd}
theorem z_tests0 : PTs X [] (tOfT G mYes) := ⟨fun pins s σ H Q I h => by
  refine pts_nil.run pins s σ H Q I ?_
  obtain ⟨F, θ, S, env, fp, b, S', st, e, k⟩ := h
  cases e
  exact k F θ H (Tr.refl ..) st⟩
end
theorem wipe_idem {σ : L2.St} {vs : List Nat} : ∀ {i : Nat}, i ∈ vs → ∀ o, L2.wipe (σ.set i o) vs = L2.wipe σ vs := by
  induction vs with
  | nil =>
    intro i h
    cases h
  | cons v vs ih =>
    intro i h o
    unfold L2.wipe
    by_cases hv : i ∈ vs
    · rw [ih hv]
    · rcases List.mem_cons.mp h with e | h
      · subst e
        have key : ∀ {ws : List Nat} {σ : L2.St}, i ∉ ws → L2.wipe (σ.set i o) ws = (L2.wipe σ ws).set i o := by
          intro ws
          induction ws with
          | nil =>
            intro σ _
            rfl
          | cons w ws ih2 =>
            intro σ hn
            unfold L2.wipe
            rw [ih2 (fun z => hn (List.mem_cons_of_mem _ z)), List.set_comm _ _ (fun z => hn (by rw [z]; exact List.mem_cons_self ..))]
        rw [key hv, List.set_set]
      · exact absurd h hv
theorem wipe_wipe (σ : L2.St) (vs : List Nat) : L2.wipe (L2.wipe σ vs) vs = L2.wipe σ vs := by
  have key : ∀ ws : List Nat, (∀ w ∈ ws, w ∈ vs) → L2.wipe (L2.wipe σ ws) vs = L2.wipe σ vs := by
    intro ws
    induction ws with
    | nil =>
      intro _
      rfl
    | cons w ws ih =>
      intro h
      show L2.wipe ((L2.wipe σ ws).set w none) vs = _
      rw [wipe_idem (h w (List.mem_cons_self ..))]
      exact ih fun x hx => h x (List.mem_cons_of_mem _ hx)
  exact key vs fun _ h => h
def Tg.slots : Tg → List Nat
  | .nm i => [i]
  | .tup is => is
  | .pr i is => i :: is
theorem St.hid {G : Gd} {F H : Hp} {θ : Th} {S : Store} {env : En} {σ : L2.St} {fp : List Addr} (s : St G F θ H S env σ fp) {p : Addr} (o : HO) (h1 : F p = none) (h2 : p ∉ θ) (h3 : p ∉ fp) : St G F θ (upd H p o) S env σ fp where
  sub := fun a u e => by
    rw [upd_ne (ne_of_none e h1)]
    exact s.sub a u e
  store := s.store.move (.refl F) (fun _ _ h => h) fun a ha u e => by
    rw [upd_ne (show a ≠ p from fun z => h2 (z ▸ ha))]
    exact e
  env := RE.move (.refl F) (fun _ _ h => h) (ln_upd h2) env σ fp (fun a ha u e => by
    rw [upd_ne (show a ≠ p from fun z => h3 (z ▸ ha))]
    exact e) s.env
  nd := s.nd
  apart := s.apart
theorem bindAll_slots {G : Gd} {F H : Hp} {θ : Th} {S : Store} {ks : List Nat} : ∀ {is : List Nat} {xs : List D} {vs : List V} {env env' : En} {σ : L2.St} {fp : List Addr} {Q : L2.St → Hp → Prop}, (∀ i ∈ is, i ∈ ks) → St G F θ H S env σ fp → Rs G F xs vs → bindAll is xs env = some env' →
    (∀ σ' fp', St G F θ H S env' σ' fp' → (∀ a ∈ fp', a ∈ fp) → L2.wipe σ' ks = L2.wipe σ ks → Q σ' H) → gAll is vs σ H Q
  | [], [], vs, env, env', σ, fp, Q, hk, s, r, e, k => by
    cases e
    exact ⟨r, k σ fp s (fun _ h => h) rfl⟩
  | i :: is, x :: xs, vs, env, env', σ, fp, Q, hk, s, ⟨v, r', h1, h2, h3⟩, e, k => by
    unfold bindAll at e
    split at e
    · rename_i hi
      obtain ⟨fp1, s1, h4⟩ := s.setD hi h2
      exact ⟨v, r', h1, bindAll_slots (fun j hj => hk j (List.mem_cons_of_mem _ hj)) s1 h3 e fun σ' fp' s' h hw => k σ' fp' s' (fun a ha => h4 a (h a ha)) (hw.trans (wipe_idem (hk i (List.mem_cons_self ..)) _))⟩
    · cases e
  | [], _ :: _, _, _, _, _, _, _, _, _, _, e, _ => by cases e
  | _ :: _, [], _, _, _, _, _, _, _, _, _, e, _ => by cases e
theorem bindT_slots {G : Gd} {F H : Hp} {θ : Th} {S : Store} {t : Tg} {ks : List Nat} {x : D} {v : V} {env env' : En} {σ : L2.St} {fp : List Addr} {Q : L2.St → Hp → Prop} (hk : ∀ i ∈ t.slots, i ∈ ks) (s : St G F θ H S env σ fp) (r : R G F x v) (e : bindT t env x = some env')
    (k : ∀ σ' fp', St G F θ H S env' σ' fp' → (∀ a ∈ fp', a ∈ fp) → L2.wipe σ' ks = L2.wipe σ ks → Q σ' H) : gOf G.K t v σ H Q := by
  cases t with
  | nm i =>
    have e : (if i < env.length then some (env.set i (some (W.d x))) else none) = some env' := e
    split at e
    · rename_i hi
      cases e
      obtain ⟨fp1, s1, h4⟩ := s.setD hi r
      exact k _ fp1 s1 h4 (wipe_idem (hk i (List.mem_cons_self ..)) _)
    · cases e
  | tup is =>
    cases x with
    | tup xs =>
      obtain ⟨a, vs, h1, h2, h3⟩ := r
      have hl : ∀ {is : List Nat} {xs : List D} {env : En}, bindAll is xs env = some env' → xs.length = is.length := by
        intro is
        induction is with
        | nil =>
          intro xs env e
          cases xs with
          | nil => rfl
          | cons _ _ => cases e
        | cons i is ih =>
          intro xs env e
          cases xs with
          | nil => cases e
          | cons x xs =>
            unfold bindAll at e
            split at e
            · rw [List.length_cons, List.length_cons, ih e]
            · cases e
      exact ⟨a, vs, h1, sub_sqT s.sub h2.sq, by rw [h3.len, hl e], bindAll_slots hk s h3 e k⟩
    | _ => cases e
  | pr i is =>
    obtain ⟨y, xs, hx⟩ := bindT_pr e
    subst hx
    have e : (if i < env.length then bindAll is xs (env.set i (some (.d y))) else none) = some env' := e
    split at e
    · rename_i hi
      obtain ⟨a, vs, h1, h2, v1, r1, h3, h4, v2, r2, h5, h6, h7⟩ := r
      have h7' : r2 = [] := h7
      subst h7' h5
      obtain ⟨b, us, q1, q2, q3⟩ := h6
      obtain ⟨fp1, s1, h8⟩ := s.setD hi h4
      refine ⟨a, vs, h1, sub_sqT s.sub h2.sq, by rw [h3]; rfl, v1, [v2], h3, ?_⟩
      refine ⟨v2, [], rfl, b, us, q1, sub_sqT s1.sub q2.sq, by rw [q3.len, bindAll_len e], ?_⟩
      exact bindAll_slots (fun j hj => hk j (List.mem_cons_of_mem _ hj)) s1 q3 e fun σ' fp' s' h hw => ⟨rfl, k σ' fp' s' (fun a ha => h8 a (h a ha)) (hw.trans (wipe_idem (hk i (List.mem_cons_self ..)) _))⟩
    · cases e
theorem lc_reads {G : Gd} {mi : MI} {t : Tg} {mt : MT} {me : ME} {vs : List Nat} (hk : ∀ i ∈ t.slots, i ∈ vs) {σ : L2.St} {H : Hp} {Q : VK} (h : tOf G (mLc mi t mt me vs) σ H Q) : tLc (tOfI G mi) (gOf G.K t) (tOfT G mt) (tOf G me) vs σ H Q := by
  obtain ⟨F, θ, S, env, fp, w, SE, s, e, k⟩ := h
  unfold mLc at e
  obtain ⟨⟨ds, S1⟩, e1, e⟩ := Option.bind_eq_some_iff.mp e
  obtain ⟨⟨res, SE'⟩, e2, e3⟩ := Option.map_eq_some_iff.mp e
  cases e3
  refine ⟨F, θ, S, env, fp, ds, S1, s, e1, fun F1 θ1 H1 J t1 s1 run Da hD => ?_⟩
  obtain ⟨fpw, sw, hw⟩ := s1.wipe vs
  have fD : F1 Da = none := by
    cases q : F1 Da with
    | none => rfl
    | some u =>
      rw [s1.sub Da u q] at hD
      cases hD
  have tD : Da ∉ θ1 := fun z => by
    obtain ⟨_, u, hu⟩ := s1.store.there z
    rw [hD] at hu
    cases hu
  have pD : Da ∉ fpw := fun z => sw.fpH Da z hD
  refine ⟨fun i m H' => m = ds.length - i ∧ i ≤ ds.length ∧ ∃ acc S' F' θ' fpw us, Tr F1 θ1 H1 F' θ' H' ∧ St G F' θ' H' S' (wipeE env vs) (L2.wipe σ vs) fpw ∧ F' Da = none ∧ Da ∉ θ' ∧ Da ∉ fpw ∧ H' Da = some (.lst us) ∧ Rs G F' acc us ∧
      goLc t mt me (wipeE env vs) (ds.drop i) S' acc = some (res, SE'), ?_, ?_⟩
  · have tn : Tr F1 θ1 H1 F1 θ1 (upd H1 Da (.lst [])) := ⟨.refl F1, ⟨[], (List.append_nil θ1).symm⟩, fun a h1 h2 => absurd h1 h2, fun a h1 h2 => absurd h1 h2, fun a u _ e => by
      rw [upd_ne (ne_of_none e hD)]
      exact e, fun a u e => ⟨u, by rw [upd_ne (ne_of_none e hD)]; exact e, fun _ => rfl⟩⟩
    exact ⟨ds.length, by rw [Nat.sub_zero], Nat.zero_le _, [], S1, F1, θ1, fpw, [], tn, sw.hid _ fD tD pD, fD, tD, pD, upd_same, rfl, e2⟩
  · rintro i m H' ⟨rfl, hi, acc, S', F', θ', fpw', us, tr, sw', fD', tD', pD', hD', rs, e4⟩
    have rr := run i F' H' tr.le sw'.sub
    by_cases hl : i < ds.length
    · right
      rw [List.drop_eq_getElem_cons hl] at e4
      unfold goLc at e4
      obtain ⟨env1, e5, e4⟩ := Option.bind_eq_some_iff.mp e4
      obtain ⟨⟨b, S2⟩, e6, e4⟩ := Option.bind_eq_some_iff.mp e4
      obtain ⟨go, yl⟩ := rr.1 ds[i] (List.getElem?_eq_getElem hl)
      refine ⟨go, fun H'' => ∃ m', m' < ds.length - i ∧ (m' = ds.length - (i + 1) ∧ i + 1 ≤ ds.length ∧ ∃ acc S' F' θ' fpw us, Tr F1 θ1 H1 F' θ' H'' ∧ St G F' θ' H'' S' (wipeE env vs) (L2.wipe σ vs) fpw ∧ F' Da = none ∧ Da ∉ θ' ∧ Da ∉ fpw ∧ H'' Da = some (.lst us) ∧ Rs G F' acc us ∧
        goLc t mt me (wipeE env vs) (ds.drop (i + 1)) S' acc = some (res, SE')), fun _ q => q, fun x H3 y => ?_⟩
      obtain ⟨F3, g, rx⟩ := yl x H3 y
      have t3 := g.tr θ'
      have s3 := sw'.grow g
      have keepD : ∀ {Fa Ha : Hp} {θa : Th}, Tr F' θ' H' Fa θa Ha → Fa Da = none ∧ Da ∉ θa ∧ Ha Da = some (.lst us) := fun {Fa Ha θa} tt => by
        refine ⟨?_, fun z => ?_, tt.keep Da _ tD' hD'⟩
        · cases q : Fa Da with
          | none => rfl
          | some u =>
            rcases tt.newF Da fD' (by rw [q]; exact fun z => by cases z) with z | ⟨_, ws, z⟩ <;> (rw [hD'] at z; cases z)
        · have z2 := tt.newT Da z tD'
          rw [hD'] at z2
          cases z2
      refine bindT_slots hk s3 rx e5 fun σ4 fp4 s4 h4 hw4 => ?_
      refine ⟨by rw [hw4, wipe_wipe], F3, θ', S', env1, fp4, b, S2, s4, e6, fun F5 θ5 H5 t5 s5 => ?_⟩
      have tt5 := t3.trans t5
      have back : ∀ {F5 H5 : Hp} {θ5 : Th} {S5 : Store}, Tr F' θ' H' F5 θ5 H5 → (∀ a u, F5 a = some u → H5 a = some u) → RS G F5 θ5 H5 S5 → St G F5 θ5 H5 S5 (wipeE env vs) (L2.wipe σ vs) fpw' := fun tt sub st => sw'.step tt sub st
      cases b with
      | false =>
        obtain ⟨k1, k2, k3⟩ := keepD tt5
        exact ⟨ds.length - (i + 1), by omega, rfl, hl, acc, S2, F5, θ5, fpw', us, tr.trans tt5, back tt5 s5.sub s5.store, k1, k2, pD', k3, Rs.mono tt5.le _ _ rs, e4⟩
      | true =>
        simp only [if_true] at e4
        obtain ⟨⟨y, S6⟩, e7, e4⟩ := Option.bind_eq_some_iff.mp e4
        dsimp only at e4
        split at e4
        · split at e4
          · rename_i yd hc
            refine ⟨F5, θ5, S2, env1, fp4, _, S6, s5, e7, fun F6 θ6 H6 v f t6 s6 r6 => ?_⟩
            have tt6 := tt5.trans t6
            obtain ⟨k1, k2, k3⟩ := keepD tt6
            refine ⟨us, k3, by rw [rs.len]; exact cap_lt hc, ds.length - (i + 1), by omega, rfl, hl, _, S6, F6, θ6, fpw', _, ?_, (back tt6 s6.sub s6.store).hid _ k1 k2 pD', k1, k2, pD', upd_same, (Rs.mono tt6.le _ _ rs).app (show Rs G F6 [yd] [v] from ⟨v, [], rfl, r6.rw.dAt, rfl⟩), e4⟩
            have t16 := tr.trans tt6
            refine ⟨t16.le, t16.th, t16.newF, t16.newT, fun a u h1 h2 => ?_, fun a u h1 => ?_⟩
            · rw [upd_ne (ne_of_none h2 hD)]
              exact t16.keep a u h1 h2
            · obtain ⟨u', h', k'⟩ := t16.live a u h1
              exact ⟨u', by rw [upd_ne (ne_of_none h1 hD)]; exact h', k'⟩
          · cases e4
        · cases e4
    · left
      have hi' : ds.length = i := by omega
      rw [← hi', List.drop_length] at e4
      cases e4
      refine ⟨rr.2 hi', ?_⟩
      have tf : Tr F1 θ1 H1 (upd F' Da (.lst us)) θ' H' := by
        refine ⟨tr.le.trans (Le.of fun a u e => ?_), tr.th, fun a h1 h2 => ?_, tr.newT, tr.keep, tr.live⟩
        · rw [upd_ne (ne_of_none e fD')]
          exact e
        · by_cases q : a = Da
          · rw [q]
            exact .inl hD
          · rw [upd_ne q] at h2
            exact tr.newF a h1 h2
      have subf : ∀ a u, upd F' Da (.lst us) a = some u → H' a = some u := fun a u e => by
        by_cases q : a = Da
        · rw [q, upd_same] at e
          rw [q, hD', ← e]
        · rw [upd_ne q] at e
          exact sw'.sub a u e
      have lef : Le F' (upd F' Da (.lst us)) := Le.of fun a u e => by
        rw [upd_ne (ne_of_none e fD')]
        exact e
      refine k _ θ' H' _ [] (t1.trans tf) (s1.step tf subf (sw'.store.move lef (fun a ha h => ?_) fun _ _ _ h => h)) (.d ⟨Da, us, rfl, upd_same, Rs.mono lef _ _ rs⟩)
      rw [upd_ne (show a ≠ Da from fun z => tD' (z ▸ ha))]
      exact h
section
variable {X : Cx} {G : Gd} {elt tg iter : Expr} {ifs : List Expr} {scope : Scope} {own : List (Str × Nat)} {pos : Pos} {mi : MI} {t : Tg} {mt : MT} {me : ME}
theorem z_lc (hN : X.N.Nodup) (hi : PI X tg iter (tOfI G mi)) (ok : BlkOk X.N X.env.scope scope own)
    (hg : ∀ (s : Shared) (H : Hp) (C : Addr) (cl : List (Str × Addr)) (fp : List Addr), PG (X.blk s H scope (PySem.compEnvC scope cl C X.env) fp) tg (gOf G.K t))
    (ht : ∀ (s : Shared) (H : Hp) (C : Addr) (cl : List (Str × Addr)) (fp : List Addr), PTs (X.blk s H scope (PySem.compEnvC scope cl C X.env) fp) ifs (tOfT G mt))
    (he : ∀ (s : Shared) (H : Hp) (C : Addr) (cl : List (Str × Addr)) (fp : List Addr), PE (X.blk s H scope (PySem.compEnvC scope cl C X.env) fp) elt (tOf G me))
    (hk : ∀ i ∈ t.slots, i ∈ own.map (·.2) := by decide) (hc : X.calm = true := by rfl) (hs : ∀ x, foldedSetIterable iter X.env x = pure x := by intro _; rfl) : PE X (.ListComp elt [⟨tg, iter, ifs, 0⟩] scope pos) (tOf G (mLc mi t mt me (own.map (·.2)))) :=
  pe_imp (pe_lc hc hN hi ok hg ht he hs) fun _ _ _ h => lc_reads hk h
end
end Zf
namespace Zf
open PySem PySem.Spec PyProof.Rows L2
theorem RW.unBor {G : Gd} {F : Hp} {θ : Th} {H : Hp} : ∀ {w : W} {v : V} {f : List Addr}, RW G F θ H w v f → RW G F θ H (unBor w) v f
  | .d _, _, _, h => h
  | .r _, _, _, h => h
  | .own _, _, _, h => h
  | .bor _, _, _, h => h
  | .od _, _, _, h => h
  | .bd _, _, _, h => h
  | .slf _ _, _, _, h => h
  | .slb _ _, _, _, h => h
  | .exn _ _, _, _, h => h
  | .c _ _, _, _, h => h
  | .ev _ _ _, _, _, h => h
theorem RE.ofArgs {G : Gd} {F : Hp} {θ : Th} {H : Hp} : ∀ {as : List W} {vs : List V} {f : List Addr} (n : Nat), RWs G F θ H as vs f → RE G F θ H (as.map some ++ List.replicate n none) (vs.map some ++ List.replicate n none) f
  | [], vs, f, n, h => by
    rw [h.1, h.2]
    show RE G F θ H (List.replicate n none) (List.replicate n none) []
    induction n with
    | zero => exact ⟨rfl, rfl⟩
    | succ n ih => exact ⟨none, _, rfl, ih⟩
  | x :: as, vs, f, n, ⟨v, r, f1, f2, h1, h2, h3, h4⟩ => by
    rw [h1]
    exact ⟨v, _, f1, f2, rfl, h2, RE.ofArgs n h3, h4⟩
theorem fn_rule {G : Gd} {mg : Str → Option Value} {base : Heap} {k : Nat} {f : Addr} {name qual : Str} {params : Arguments} {body : List Stmt} {scope : Scope} {dvs : List V} {kws : List (Str × V)} {fd : FuncData} {N ps : List Str} {mb : MS} {m : MF}
    (D : FunD G.K name qual params body scope dvs kws f fd) (sc : FnScope N ps scope) (hm : m = mFn ps.length N.length mb)
    (hb : ∀ (cdv : Value) (A : Around) (outer : List Env) (s : Shared) (H : Hp), Room k (A.deeper (envOfC qual scope s.heap.objs.size f cdv)) → A.guards = some [] →
      PSs (cxOf CX0 G.P G.w G.K mg base N qual scope f cdv A outer s H E0).nox body (tOfS G mb)) : FnG G mg base (k + 1) f fd ps m := by
  obtain ⟨oc, od, dV, kV, doc, pm, an, cdv, ct, osl, hfd, lk, hcd, _, _⟩ := D.ex
  subst hfd
  have hlen : ∀ as S r, m as S = some r → as.length = ps.length := fun as S r e => by
    rw [hm] at e
    unfold mFn at e
    split at e
    · rename_i h
      exact h.1
    · cases e
  refine ⟨hlen, fun A outer s H args us vs F θ S as w S' hr hgd e0 hbd rv sub rs ra e => ?_⟩
  have hl0 := hlen _ _ _ e
  have hl : vs.length = ps.length := by rw [ra.len, hl0]
  have kin : G.K.In s.heap := e0.mod.kin.keeps fun b o z => (e0.bs b o z).1
  have nolim : s.heap.NoLimit := e0.mod.nolimit.keeps fun b o z => (e0.bs b o z).1
  have kinds : ∀ y ∈ ps.zip us, scope.names.lookup y.1 = some .local ∨ (scope.names.lookup y.1 = some .cell ∧ ((cellsFrom (s.heap.objs.size + 1) scope.names []).lookup y.1).isSome = true) := fun ⟨n, v⟩ hy => by
    rcases sc.par n (List.of_mem_zip hy).1 with q | q
    · exact .inl q
    · exact .inr ⟨q, PySem.W.cellsFrom_some _ _ _ (.inl q)⟩
  refine codeAny_call_function hr.depth (kin _ _ lk) rfl sc.co sc.gen rfl (PySem.W.codeRec_of kin hcd) (hbd _ _ _ _ ?_)
  refine wpAny_newFunctionEnv_cells sc.kind kinds fun env he s1 x => ?_
  subst he
  refine ⟨nolim.keeps x.toInCall.keep, codeAny_func ?_⟩
  have inv : Inv (cxOf CX0 G.P G.w G.K mg base N qual scope f cdv A outer s H E0) [] (L2.start N vs) H s1 := inv_start sc hr.hd e0 hl rv x
  rw [hm] at e
  unfold mFn at e
  split at e
  · rename_i hc
    obtain ⟨⟨fl, en, S1⟩, e1, e2⟩ := Option.bind_eq_some_iff.mp e
    have st0 : St G F θ H S (as.map some ++ List.replicate (N.length - ps.length) none) (L2.start N vs) [] := by
      refine ⟨sub, rs, ?_, .nil, fun a h => absurd h (by simp)⟩
      unfold L2.start
      rw [hl]
      exact RE.ofArgs _ ra
    let rt0 : VK := fun v H' => ∃ F' θ' f, Tr F θ H F' θ' H' ∧ (∀ a u, F' a = some u → H' a = some u) ∧ RS G F' θ' H' S' ∧ Rr G H [] F' θ' H' w v f
    refine wpAny_mono ((hb cdv A outer s H (hr.deeper _) hgd).nox.run [] s1 (L2.start N vs) H { nx := fun _ H' => rt0 .non H', rt := rt0 } inv ⟨F, θ, S, _, [], fl, en, S1, st0, e1, fun F1 θ1 H1 σ1 fp1 t1 s2 => ?_⟩) (fun fl' s' hs => ?_) fun e s' hs => hs
    · have tr : Tr F θ H F1 θ1 H1 := ⟨t1.le, t1.th, fun a h1 h2 => (t1.newF a h1 h2).imp_right fun z => z.elim (fun z => absurd z (by simp)) fun z => ⟨z.1, z.2.2⟩, fun a h1 h2 => (t1.newT a h1 h2).elim id fun z => absurd z (by simp), fun a u h => t1.keep a u h (by simp), t1.live⟩
      cases fl with
      | nx =>
        cases e2
        exact ⟨F1, θ1, [], tr, s2.sub, s2.store, ⟨⟨rfl, rfl⟩, .nil, fun _ h => absurd h (by simp), fun _ h => absurd h (by simp)⟩⟩
      | ret w0 =>
        cases e2
        exact fun v f r => ⟨F1, θ1, f, tr, s2.sub, s2.store, ⟨r.rw.unBor, r.nd, r.ap, r.src⟩⟩
      | brk => cases e2
      | cont => cases e2
      | exc _ _ => cases e2
    · cases fl' with
      | ret u =>
        obtain ⟨v, σ', H', J, rv', F', θ', f, t, sb, r1, r2⟩ := hs
        exact ⟨v, H', F', θ', f, J.os, J.bare, J.base, J.hok, rv', t, sb, r1, r2⟩
      | next =>
        obtain ⟨σ', H', J, F', θ', f, t, sb, r1, r2⟩ := hs
        exact ⟨.non, H', F', θ', f, J.os, J.bare, J.base, J.hok, rfl, t, sb, r1, r2⟩
      | brk =>
        obtain ⟨_, _, _, q⟩ := hs
        exact q.elim
      | cont =>
        obtain ⟨_, _, _, q⟩ := hs
        exact q.elim
  · cases e
theorem RsA.args {G : Gd} {H0 : Hp} {fp : List Addr} {F : Hp} {θ : Th} {H : Hp} : ∀ {ws : List W} {vs : List V}, RsA G H0 fp F θ H ws vs → ws.all isArg = true → RWs G F θ H ws vs []
  | [], _, h, _ => ⟨h, rfl⟩
  | w :: ws, _, ⟨v, r, f, h1, h2, h3⟩, ha => by
    rw [List.all_cons, Bool.and_eq_true] at ha
    refine ⟨v, r, [], [], h1, ?_, RsA.args h3 ha.2, rfl⟩
    cases w with
    | d x => exact ⟨h2.rw.1, rfl⟩
    | r n => exact ⟨h2.rw.1, rfl, h2.rw.2.2⟩
    | c k n => exact ⟨h2.rw.1, rfl, h2.rw.2.2⟩
    | ev c g x =>
      obtain ⟨a, y, q1, q2, q3, _⟩ := h2.rw
      exact ⟨a, y, q1, q2, q3, rfl⟩
    | own _ => cases ha.1
    | bor _ => cases ha.1
    | od _ => cases ha.1
    | bd _ => cases ha.1
    | slf _ _ => cases ha.1
    | slb _ _ => cases ha.1
    | exn _ _ => cases ha.1
section
variable {X : Cx} {G : Gd} {k : Nat} {f : Addr} {fd : FuncData} {ps : List Str} {m : MF} {ms : MA} {x : Str} {p pos : Pos} {e : Expr} {es : List Expr}
theorem run_g {pins : List (Addr × Obj)} {σ : L2.St} {H : Hp} {s : Shared} {Q : VK} {us : List Value} {vs : List V} {F : Hp} {θ : Th} {S S' : Store} {as : List W} {w : W} {env : En} {fp : List Addr} (C : FnG G X.mg X.base k f fd ps m) (hr : Room k X.A) (hgd : X.A.guards = some []) (hb : Binds G.K fd ps [])
    (hG : X.prog = G.P ∧ X.w = G.w ∧ X.K = G.K) (I : Inv X pins σ H s) (r : Vals vs us) (st : St G F θ H S env σ fp) (ra : RWs G F θ H as vs []) (e : m as S = some (w, S'))
    (h : ∀ F' θ' H' v f, Tr F θ H F' θ' H' → St G F' θ' H' S' env σ fp → Res G H fp F' θ' H' w v f → Q v H') : wpAny (model X.prog X.w) X.A (call (.ref f) us) (EP X pins σ Q) X.xe s := by
  obtain ⟨h1, h2, h3⟩ := hG
  have hl : (us ++ []).length = ps.length := by
    rw [List.append_nil, ← r.length, ra.len]
    exact C.len _ _ _ e
  have kin : G.K.In s.heap := h3 ▸ I.kIn
  have e0 : Env0 G.P G.w G.K X.mg X.base X.A X.stack s H := by
    have z := I.env0
    rw [h1, h2, h3] at z
    exact z
  have bd := hb s us kin hl
  rw [List.append_nil] at bd
  rw [h1, h2]
  refine wpAny_call (codeAny_mono (C.run X.A X.stack s H ⟨us, []⟩ us vs F θ S as w S' hr hgd e0 bd r st.sub st.store ra e) fun rr s' hq => ?_)
  cases rr with
  | error e => exact hq.elim
  | ok fl =>
    cases fl with
    | ret u =>
      obtain ⟨v, H', F', θ', f', os, bare, un, hok, rv, t, sb, rs, rw⟩ := hq
      refine I.after ⟨v, H', os, bare, un, by rw [h1, h2]; exact hok, rv, ?_⟩
      exact h F' θ' H' v f' t (st.step t sb rs) ⟨rw.rw, rw.nd, rw.ap, fun a ha => .inr ((rw.src a ha).elim (fun z => absurd z (by simp)) id), fun _ a ha => (rw.src a ha).elim (fun z => absurd z (by simp)) id⟩
    | next => exact hq.elim
    | brk => exact hq.elim
    | cont => exact hq.elim
theorem z_call (C : FnG G X.mg X.base k f fd ps m) (hr : Room k X.A) (hgd : X.A.guards = some []) (hg : Gl X x) (hm : X.mg x = some (.ref f)) (hk : PySem.W.keepIn G.K (.ref f) = true) (hb : Binds G.K fd ps []) (ha : PA X (e :: es) (tOfA G ms))
    (hdb : (x == ("__debug__" : Str)) = false := by decide) (he : starEach (e :: es) X.env = (false, eval e X.env) :: starEach es X.env := by rfl) (hpl : (backTo pos (starEach es X.env)).any (·.1) = false := by rfl) (hG : X.prog = G.P ∧ X.w = G.w ∧ X.K = G.K := by exact ⟨rfl, rfl, rfl⟩) :
    PE X (.Call (.Name x p) (e :: es) [] pos) (tOf G (mCall m ms)) := by
  refine ⟨fun pins s σ H Q I h => ?_⟩
  obtain ⟨F, θ, S, env, fp, w, S', st, e1, q⟩ := h
  unfold mCall at e1
  obtain ⟨⟨as, S1⟩, e2, e1⟩ := Option.bind_eq_some_iff.mp e1
  dsimp only at e1
  split at e1
  · rename_i hA
    refine wpAny_Call_Name_kw (ld_glob I hg hm ?_ hdb)
    refine PySem.W.callWith_K (h₀ := X.base) I.ok.mod.kin (by rw [hG.2.2]; exact hk) (thn (ha.run pos pins s σ H (fun vs H1 => ∃ F1 θ1, Tr F θ H F1 θ1 H1 ∧ St G F1 θ1 H1 S1 env σ fp ∧ RsA G H fp F1 θ1 H1 as vs) I ⟨F, θ, S, env, fp, as, S1, st, e2, fun F1 θ1 H1 vs t1 s1 r1 => ⟨F1, θ1, t1, s1, r1⟩⟩) fun us s1 ⟨vs, H1, I1, r, F1, θ1, t1, st1, r1⟩ => ⟨I1.kIn, ?_⟩) he hpl
    exact run_g C hr hgd hb hG I1 r st1 (r1.args hA) e1 fun F2 θ2 H2 v f t2 s2 rv => q F2 θ2 H2 v f (t1.trans t2) s2 (rv.earlier t1)
  · cases e1
end
theorem ro_ints {G : Gd} {F : Hp} : ∀ ns : List Int, Rs G F (ns.map .int) (ns.map V.int)
  | [] => rfl
  | n :: ns => ⟨.int n, ns.map V.int, rfl, rfl, ro_ints ns⟩
theorem law_g {G : Gd} {mg mb : Str → Option Value} {k : Nat} {fa sa : Addr} {fd : FuncData} {px : Str} {m : MF} {z : Shared} {us : List Value} {ns : List Int}
    (kin : G.K.In z.heap) (hns : z.heap.Ns mainGlobals mg) (hbl : z.heap.Ns builtinsNs mb) (hbb : ∀ y : Str, y ≠ "__name__" → mb y = bootBuiltins y) (nol : z.heap.NoLimit) (hgn : z.gens = #[])
    (hs : z.heap.get? sa = some { cls := .type "list", data := .seq us.toArray }) (hi : IntsAre us ns) (hz : ns.length ≤ sizeLine) (hr : Room k callerA)
    (C : ∀ base : Heap, G.K.In base → base.Ns mainGlobals mg → FnG G mg base k fa fd [px] m) (hbind : ∀ (s : Shared) (u : Value), BindsTo s fd ⟨[u], []⟩ [(px, u)])
    (hm : ∃ S', m [.d (.ro (ns.map .int))] [] = some (.d (.bl true), S')) :
    codeAny (model G.P G.w) callerA (.call (.ref fa) ⟨[.ref sa], []⟩) (fun r t => r = .ok (.ret (.bool true)) ∧ OldK z.heap t.heap ∧ t.os = z.os ∧ AllBare t.gens) z := by
  obtain ⟨S', hm⟩ := hm
  have rv := vals_ints hi
  have hlen := hi.length
  have key : ∀ H : Hp, (∀ b, H b = none ∨ ∃ o xs, H b = some (.frz o (.lst xs))) → SqL G.K H sa (ns.map V.int) → HOk G.P G.w H z.heap → (∀ b, H b ≠ none → b = sa) → (H sa ≠ none → G.K.lookup sa = none) →
      codeAny (model G.P G.w) callerA (.call (.ref fa) ⟨[.ref sa], []⟩) (fun r t => r = .ok (.ret (.bool true)) ∧ OldK z.heap t.heap ∧ t.os = z.os ∧ AllBare t.gens) z := by
    intro H only sq hok one free
    have nd : ∀ {b : Addr} {o : Obj} {es : Array DictEntry} {n : Nat}, z.heap.get? b = some o → o.data = .dict es n → H b = none := fun {b o es n} g d => by
      cases q : H b with
      | none => rfl
      | some u =>
        have e := one b (by rw [q]; simp)
        rw [e, hs] at g
        cases g
        have d' : Data.seq us.toArray _ = Data.dict es n := d
        cases d'
    have nsT : ∀ {b : Addr} {mm : Str → Option Value}, z.heap.Ns b mm → (hidT z.heap H).Ns b mm := fun {b mm} ⟨o, es, n, g, d, r⟩ => ⟨o, es, n, hidT_get g (nd g d), d, r⟩
    have kT : G.K.In (hidT z.heap H) := fun b o lk => hidT_get (kin b o lk) (by
      cases q : H b with
      | none => rfl
      | some u =>
        have e := one b (by rw [q]; simp)
        rw [e] at lk q
        rw [free (by rw [q]; simp)] at lk
        cases lk)
    have md : Mod G.K mg (hidT z.heap H) := ⟨kT, nsT hns, ⟨mb, nsT hbl, hbb⟩, let ⟨mc, q1, q2⟩ := nol; ⟨mc, nsT q1, q2⟩⟩
    have e0 : Env0 G.P G.w G.K mg (hidT z.heap H) callerA [] z H := ⟨rfl, md, fun b o g => of_hidT g, Nat.le_of_eq (hidT_size _ _), trivial, fun b hb => absurd (show b ∈ ([] : List Addr) from hb) (by simp), hok, .of_eq hgn⟩
    refine codeAny_mono ((C _ kT (nsT hns)).run callerA [] z H ⟨[.ref sa], []⟩ [.ref sa] [.ref sa] H [] [] [.d (.ro (ns.map .int))] _ S' hr rfl e0 (hbind z (.ref sa)) (.cons rfl .nil) (fun _ _ q => q) ⟨rfl, .nil, fun n xs e => by simp at e⟩
      ⟨.ref sa, [], [], [], rfl, ⟨⟨sa, _, rfl, sq, ro_ints ns⟩, rfl⟩, ⟨rfl, rfl⟩, rfl⟩ hm) fun r t hq => ?_
    cases r with
    | error e => exact hq.elim
    | ok fl =>
      cases fl with
      | next => exact hq.elim
      | brk => exact hq.elim
      | cont => exact hq.elim
      | ret u =>
        obtain ⟨v, H', F', θ', f, os, bare, un, hok', rv', tr, sb, rs, rr⟩ := hq
        have ev : v = .bl true := rr.rw.1
        subst ev
        obtain rfl : u = Value.bool true := rv'
        refine ⟨rfl, OldK.of_keep fun b o g => ?_, os, bare⟩
        cases q : H b with
        | none => exact un.keep b o g q (fun hb => absurd (show b ∈ ([] : List Addr) from hb) (by simp)) (by simp)
        | some w =>
          rcases only b with n | ⟨ob, xs, e⟩
          · rw [q] at n
            cases n
          · obtain ⟨g1, _⟩ := hok b _ e
            obtain ⟨g2, _⟩ := hok' b _ (un.frzs b ob _ e)
            rw [g] at g1
            cases g1
            exact g2
  cases lk : G.K.lookup sa with
  | some o =>
    have g := kin sa o lk
    rw [hs] at g
    cases g
    refine key (fun _ => none) (fun _ => .inl rfl) (.inr ⟨_, us.toArray, _, lk, rfl, rfl, rfl, ?_, by simpa using rv⟩) (fun b u q => ?_) (fun b q => absurd rfl q) fun q => absurd rfl q
    · rw [List.size_toArray, hlen]
      exact hz
    · cases (show (none : Option HO) = some u from q)
  | none =>
    let fo : HO := .frz { cls := .type "list", data := .seq us.toArray } (.lst (ns.map V.int))
    have at_ : ∀ b, upd (fun _ => none) sa fo b ≠ none → b = sa := fun b q => by
      by_cases e : b = sa
      · exact e
      · rw [upd_ne e] at q
        exact absurd rfl q
    refine key (upd (fun _ => none) sa fo) (fun b => ?_) (.inl (.inr ⟨_, upd_same⟩)) (fun b u q => ?_) at_ fun _ => lk
    · by_cases e : b = sa
      · exact .inr ⟨_, _, by rw [e, upd_same]⟩
      · exact .inl (upd_ne e)
    · have e := at_ b (by rw [q]; simp)
      rw [e, upd_same] at q
      cases q
      rw [e]
      exact ⟨hs, by rw [List.length_map]; exact hz, us, _, rv, hs⟩
theorem walk_g {l : PySem.W.OpenLaw} {n k : Nat} {q : Program} {loose : List Str} {XP : (Str → Option Value) → Heap → Prop} {YP : World → Heap → Prop} {d : DefRec} {px : Str}
    (hn : l.most = some n) (hn2 : n ≤ sizeLine) (hdf : d.params.defaults = []) (hr : Room k callerA)
    (C : ∀ (w : World) (mg : Str → Option Value) (fa : Addr) (h : Heap), YP w h → h.Ns mainGlobals mg → mg d.name = some (.ref fa) →
      ∃ (G : Gd) (fd : FuncData) (m : MF), G.P = l.prog ∧ G.w = w ∧ G.K.In h ∧ (∀ (s : Shared) (u : Value), BindsTo s fd ⟨[u], []⟩ [(px, u)]) ∧
        (∀ ns : List Int, ns.length ≤ n → ∃ S', m [.d (.ro (ns.map .int))] [] = some (.d (.bl true), S')) ∧
        ∀ base : Heap, G.K.In base → base.Ns mainGlobals mg → FnG G mg base k fa fd [px] m) :
    PySem.W.WalkO q loose XP YP l.row.toRowW d [] (fun f vs => PySem.call f vs) := by
  refine Att.attach_call hn hdf fun w s₀ s₁ mg mb fa o pm cd doc a vs ns Gr Y ho hd hcd hmg hobj hints hlen hg => ?_
  obtain ⟨G, fd, m, e1, e2, kin, hb, hm, hC⟩ := C w mg fa _ Y Gr.T.g hmg
  rw [← e1, ← e2]
  exact law_g kin Gr.T.g Gr.T.b Gr.T.builtins Gr.T.nolimit hg hobj hints (Nat.le_trans hlen hn2) hr hC hb (hm ns hlen)
theorem tOf_cb {G : Gd} {r : List V → Hp → VK → Prop} {g : OpN} {ms : MA} (s : SimC G r g) {σ : L2.St} {H : Hp} {Q : VK} (h : tOf G (mCB g ms) σ H Q) : tCB r (tOfA G ms) σ H Q := by
  obtain ⟨F, θ, S, env, fp, w, S', st, e, k⟩ := h
  unfold mCB at e
  obtain ⟨⟨ws, S1⟩, e1, e⟩ := Option.bind_eq_some_iff.mp e
  obtain ⟨z, e2, e3⟩ := Option.map_eq_some_iff.mp e
  cases e3
  exact ⟨F, θ, S, env, fp, ws, _, st, e1, fun F1 θ1 H1 vs t1 st1 rs => s.run st1 rs e2 t1.alive fun F3 θ3 H3 v f t3 st3 rv => k F3 θ3 H3 v f (t1.trans t3) st3 rv⟩
theorem sim1 {G : Gd} {r : V → Hp → VK → Prop} {g : Store → W → Option W}
    (h : ∀ {F θ H0 H S env σ fp w v f z Q}, St G F θ H S env σ fp → Res G H0 fp F θ H w v f → g S w = some z → (∀ a u, H0 a = some u → ∃ u', H a = some u') → Kt G F θ H0 H S env σ fp z Q → r v H Q) :
    SimC G (fun xs H Q => ∃ x, xs = [x] ∧ r x H Q) (g1 g) := by
  refine ⟨fun {F θ H0 H S env σ fp ws vs z Q} st rx e l k => ?_⟩
  unfold g1 at e
  split at e
  · obtain ⟨v, r', f, h1, h2, h3⟩ := rx
    have h3' : r' = [] := h3
    exact ⟨v, by rw [h1, h3'], h st h2 e l k⟩
  · cases e
theorem callR_imp {X : Cx} {f : Value} {r r' : List V → Hp → VK → Prop} (h : CallR X f r) (i : ∀ xs H Q, r' xs H Q → r xs H Q) : CallR X f r' := fun pins s σ H xs us Q I rv q => h pins s σ H xs us Q I rv (i _ _ _ q)
section
variable {X : Cx} {G : Gd} {e : Expr} {es : List Expr} {ms : MA} {x : Str} {p pos : Pos} {id T : String} {r : List V → Hp → VK → Prop} {g : OpN}
theorem z_cb (hc : CallR X (.builtin id) r) (s : SimC G r g) (hg : Gl X x) (hm : X.mg x = none) (hv : bootBuiltins x = some (.builtin id)) (ha : PA X (e :: es) (tOfA G ms)) (hn : x ≠ "__name__" := by decide) (hdb : (x == ("__debug__" : Str)) = false := by decide)
    (he : starEach (e :: es) X.env = (false, eval e X.env) :: starEach es X.env := by rfl) (hpl : (backTo pos (starEach es X.env)).any (·.1) = false := by rfl) : PE X (.Call (.Name x p) (e :: es) [] pos) (tOf G (mCB g ms)) :=
  pe_imp (pe_callB hc hg hm hv ha hn hdb he hpl) fun _ _ _ h => tOf_cb s h
theorem z_ct (hc : CallR X (.type T) r) (s : SimC G r g) (hg : Gl X x) (hm : X.mg x = none) (hv : bootBuiltins x = some (.type T)) (ha : PA X (e :: es) (tOfA G ms)) (hn : x ≠ "__name__" := by decide) (hdb : (x == ("__debug__" : Str)) = false := by decide)
    (he : starEach (e :: es) X.env = (false, eval e X.env) :: starEach es X.env := by rfl) (hpl : (backTo pos (starEach es X.env)).any (·.1) = false := by rfl) : PE X (.Call (.Name x p) (e :: es) [] pos) (tOf G (mCB g ms)) :=
  pe_imp (pe_callTy hc hg hm hv ha hn hdb he hpl) fun _ _ _ h => tOf_cb s h
end
theorem sim_len {G : Gd} : SimC G (fun xs H Q => ∃ x, xs = [x] ∧ ∃ n, LenV G.K x H n ∧ Q (.int n) H) (g1 gLen) := sim1 fun {F θ H0 H S env σ fp w v f z Q} st r e l k => by
  unfold gLen at e
  split at e
  · rename_i zz
    split at e
    · rename_i hz
      cases e
      rw [show v = V.str zz from r.rw.dAt]
      exact ⟨_, ⟨cap_ok hz, rfl⟩, k F θ H _ _ (Tr.refl ..) st (.d rfl)⟩
    · cases e
  · split at e
    · rename_i xs hT
      cases e
      obtain ⟨a, vs, h1, h2, h3⟩ := vT_ok st r hT
      rw [h1]
      exact ⟨_, .inr ⟨vs, h2, rfl⟩, k F θ H _ _ (Tr.refl ..) st (.d (by rw [h3.len]; rfl))⟩
    · obtain ⟨xs, e1, e2⟩ := Option.map_eq_some_iff.mp e
      cases e2
      obtain ⟨a, vs, fs, h1, h2, h3, _⟩ := vL_ok st r e1
      rw [h1]
      exact ⟨_, .inl ⟨vs, SqL.of h2, rfl⟩, k F θ H _ _ (Tr.refl ..) st (.d (by rw [h3.len]; rfl))⟩
theorem sim_abs {G : Gd} : SimC G (fun xs H Q => ∃ x, xs = [x] ∧ ∃ i, x = .int i ∧ Q (.int (if i < 0 then -i else i)) H) (g1 gAbs) := sim1 fun {F θ H0 H S env σ fp w v f z Q} st r e l k => by
  unfold gAbs at e
  split at e
  · cases e
    exact ⟨_, r.rw.dAt, k F θ H _ _ (Tr.refl ..) st (.d rfl)⟩
  · cases e
theorem sim_int1 {G : Gd} : SimC G (fun xs H Q => ∃ x, xs = [x] ∧ ((∃ i, x = .int i ∧ Q (.int i) H) ∨ ∃ k, x = .bl k ∧ Q (.int (if k then 1 else 0)) H)) (g1 gInt1) := sim1 fun {F θ H0 H S env σ fp w v f z Q} st r e l k => by
  unfold gInt1 at e
  split at e
  · cases e
    exact .inl ⟨_, r.rw.dAt, k F θ H _ _ (Tr.refl ..) st (.d rfl)⟩
  · cases e
    exact .inr ⟨_, r.rw.dAt, k F θ H _ _ (Tr.refl ..) st (.d rfl)⟩
  · cases e
def gTuple (S : Store) (w : W) : Option W := match vT w with
  | some xs => some (.d (.tup xs))
  | none => ((vL S w).bind asDs).map fun xs => .d (.tup xs)
def asBls : List W → Option (List Bool)
  | [] => some []
  | .d (.bl b) :: r => (asBls r).map (b :: ·)
  | _ :: _ => none
def gAllB (S : Store) (w : W) : Option W := ((vL S w).bind asBls).map fun bs => .d (.bl (bs.all id))
theorem tyD_ok {G : Gd} {F : Hp} {θ : Th} {H : Hp} {S : Store} {env : En} {σ : L2.St} {fp : List Addr} {H0 : Hp} {w : W} {v : V} {f : List Addr} {t : String} (s : St G F θ H S env σ fp) (r : Res G H0 fp F θ H w v f) (e : tyD S w = some t) : TyX G.K H v (.type t) := by
  unfold tyD at e
  split at e
  · cases e
    rw [show v = V.non from r.rw.dAt]
    exact .base .non
  · cases e
    rw [show v = V.bl _ from r.rw.dAt]
    exact .base (.bl _)
  · cases e
    rw [show v = V.int _ from r.rw.dAt]
    exact .base (.int _)
  · cases e
    rw [show v = V.str _ from r.rw.dAt]
    exact .base (.str _)
  · cases e
    obtain ⟨a, vs, h1, h2, _⟩ := r.rw.dAt
    rw [h1]
    exact .base (.lst (s.sub _ _ h2))
  · cases e
    obtain ⟨a, vs, h1, h2, _⟩ := r.rw.dAt
    rw [h1]
    rcases h2 with h2 | ⟨o, its, n, h2, h3, _⟩
    · exact .base (.tup (s.sub _ _ h2))
    · exact .kTuple h2 h3
  · cases e
    obtain ⟨a, vs, h1, h2, _⟩ := r.rw.dAt
    rw [h1]
    obtain ⟨o, h2⟩ := h2
    exact .fDict (s.sub _ _ h2)
  · cases e
    obtain ⟨a, vs, fs, h1, h2, _⟩ := r.rw
    rw [h1]
    exact .base (.lst h2)
  · cases e
    obtain ⟨a, vs, fs, h1, h2, _⟩ := r.rw
    rw [h1]
    exact .base (.lst h2)
  · cases e
    obtain ⟨a, vs, fs, h1, h2, _⟩ := r.rw
    rw [h1]
    exact .base (.dK h2)
  · cases e
    obtain ⟨a, vs, fs, h1, h2, _⟩ := r.rw
    rw [h1]
    exact .base (.dK h2)
  · obtain ⟨xs, e1, e2⟩ := Option.map_eq_some_iff.mp e
    cases e2
    obtain ⟨⟨b, h5, h6⟩, _, hl⟩ := r.rw
    obtain ⟨a, vs, h1, h2, h3, _⟩ := s.store.cell _ _ e1 h6 (h5 ▸ hl)
    rw [h1] at h6
    cases h6
    rw [h5]
    exact .base (.lst h3)
  · cases e
def kinds : List String := ["NoneType", "bool", "int", "str", "list", "tuple", "dict"]
theorem kit_all : ∀ t ∈ kinds, ∀ T ∈ asked, L2.kitB t T = some (isTy t T) := by decide +kernel
theorem tyD_mem {S : Store} {w : W} {t : String} (e : tyD S w = some t) : t ∈ kinds := by
  unfold tyD at e
  split at e
  all_goals first | (cases e; done) | (cases e; decide) | skip
  obtain ⟨xs, e1, e2⟩ := Option.map_eq_some_iff.mp e
  cases e2
  decide
theorem St.cellPut {G : Gd} {F H : Hp} {θ : Th} {S : Store} {env : En} {σ : L2.St} {fp : List Addr} (s : St G F θ H S env σ fp) {n : Nat} {a : Addr} {ws : List W} {vs : List V} {u0 uN : HO} (ha : θ[n]? = some a) (h0 : H a = some u0) (hk : kdO uN = kdO u0) (cN : CellAt F (upd H a uN) a vs) (r : RWs G F θ H ws vs []) :
    Tr F θ H F θ (upd H a uN) ∧ St G F θ (upd H a uN) (S.set n ws) env σ fp := by
  have mem : a ∈ θ := List.mem_of_getElem? ha
  obtain ⟨hF, _⟩ := s.store.there mem
  have t : Tr F θ H F θ (upd H a uN) := by
    refine ⟨.refl F, ⟨[], (List.append_nil θ).symm⟩, fun b h1 h2 => absurd h1 h2, fun b h1 h2 => absurd h1 h2, fun b u h e => ?_, fun b u e => ?_⟩
    · rw [upd_ne (show b ≠ a from fun z => h (z ▸ mem))]
      exact e
    · by_cases q : b = a
      · refine ⟨_, by rw [q, upd_same], fun _ => ?_⟩
        rw [q, h0] at e
        cases e
        exact hk
      · exact ⟨u, by rw [upd_ne q]; exact e, fun _ => rfl⟩
  refine ⟨t, s.step t (fun b u e => ?_) ⟨?_, s.store.nd, fun m xs e => ?_⟩⟩
  · rw [upd_ne (ne_of_none e hF)]
    exact s.sub b u e
  · rw [List.length_set]
    exact s.store.len
  · by_cases q : n = m
    · subst q
      have hn : n < S.length := by
        rw [← s.store.len]
        exact (List.getElem?_eq_some_iff.mp ha).1
      rw [List.getElem?_set_self hn] at e
      cases e
      exact ⟨a, vs, ha, hF, cN, RWs.mono t ws vs [] (fun _ h => absurd h (by simp)) r⟩
    · rw [List.getElem?_set_ne q] at e
      obtain ⟨b, us, h1, h2, h3, h4⟩ := s.store.cellR m xs e
      have hb : b ≠ a := fun z => by
        subst z
        obtain ⟨i1, e1⟩ := List.getElem?_eq_some_iff.mp ha
        obtain ⟨i2, e2⟩ := List.getElem?_eq_some_iff.mp h1
        exact q ((List.getElem_inj s.store.nd).mp (e1.trans e2.symm))
      exact ⟨b, us, h1, h2, h3.to (fun _ _ e => e) (fun u hu => by rw [upd_ne hb]; exact hu), RWs.mono t xs us [] (fun _ h => absurd h (by simp)) h4⟩
theorem St.cellSet {G : Gd} {F H : Hp} {θ : Th} {S : Store} {env : En} {σ : L2.St} {fp : List Addr} (s : St G F θ H S env σ fp) {n : Nat} {a : Addr} {ws : List W} {vs us : List V} (ha : θ[n]? = some a) (h0 : H a = some (.lst us)) (r : RWs G F θ H ws vs []) :
    Tr F θ H F θ (upd H a (.lst vs)) ∧ St G F θ (upd H a (.lst vs)) (S.set n ws) env σ fp := s.cellPut ha h0 rfl (.inl upd_same) r
theorem RWs.setAt {G : Gd} {F : Hp} {θ : Th} {H : Hp} {w : W} {v : V} (r : RW G F θ H w v []) : ∀ {ws : List W} {vs : List V} (j : Nat), RWs G F θ H ws vs [] → RWs G F θ H (ws.set j w) (vs.set j v) []
  | [], _, _, h => by
    rw [h.1]
    exact ⟨rfl, rfl⟩
  | x :: ws, _, 0, ⟨u, r', f1, f2, h1, h2, h3, h4⟩ => by
    obtain ⟨e1, e2⟩ := List.append_eq_nil_iff.mp h4.symm
    subst e1 e2
    rw [h1]
    exact ⟨v, r', [], [], rfl, r, h3, rfl⟩
  | x :: ws, _, j + 1, ⟨u, r', f1, f2, h1, h2, h3, h4⟩ => by
    obtain ⟨e1, e2⟩ := List.append_eq_nil_iff.mp h4.symm
    subst e1 e2
    rw [h1]
    exact ⟨u, _, [], [], rfl, h2, RWs.setAt r j h3, rfl⟩
theorem arg_nil {G : Gd} {F : Hp} {θ : Th} {H : Hp} {w : W} {v : V} {f : List Addr} (h : RW G F θ H w v f) (ha : isArg w = true) : f = [] := by
  cases w with
  | d x => exact h.2
  | r n => exact h.2.1
  | c k n => exact h.2.1
  | ev c g x =>
    obtain ⟨_, _, _, _, _, e⟩ := h
    exact e
  | _ => cases ha
theorem setIx_ok {G : Gd} {F H H0 : Hp} {θ : Th} {S S' : Store} {env : En} {σ : L2.St} {fp : List Addr} {o i w : W} {vo vi vw : V} {fo fi fw : List Addr} {Q : Hp → Prop} (s : St G F θ H S env σ fp) (ro : Res G H0 fp F θ H o vo fo) (ri : Res G H0 fp F θ H i vi fi) (rw_ : Res G H0 fp F θ H w vw fw)
    (e : setIx S o i w = some S') (k : ∀ H', Tr F θ H F θ H' → St G F θ H' S' env σ fp → Q H') : rSetL vo vi vw H Q := by
  unfold setIx at e
  split at e
  · rename_i n kk
    obtain ⟨xs, e1, e⟩ := Option.bind_eq_some_iff.mp e
    obtain ⟨j, e2, e⟩ := Option.bind_eq_some_iff.mp e
    split at e
    · rename_i hA
      cases e
      obtain ⟨⟨a, h5, h6⟩, _, hl⟩ := ro.rw
      obtain ⟨b, vs, h1, h2, h3, h4⟩ := s.store.cell n xs e1 h6 (h5 ▸ hl)
      rw [h1] at h6
      cases h6
      have ef := arg_nil rw_.rw hA
      have r1 := rw_.rw
      rw [ef] at r1
      obtain ⟨t, s2⟩ := s.cellSet h1 h3 (RWs.setAt r1 j h4)
      exact ⟨a, vs, kk, j, h5, ri.rw.dAt, h3, by rw [h4.len]; exact e2, k _ t s2⟩
    · cases e
  · cases e
section
variable {X : Cx} {G : Gd} {o i e : Expr} {mo mi me : ME} {pos tpos : Pos}
theorem z_setIx (he : PE X e (tOf G me)) (ho : PE X o (tOf G mo)) (hi : PE X i (tOf G mi)) (hg : PG X (.Subscript o i tpos) (gSub (tOf G mo) (tOf G mi) rSetL)) (hs : swapsWithSole [.Subscript o i tpos] e pos.line X.env = pure false := by rfl) (hw : swappedStores [.Subscript o i tpos] e X.env = pure none := by rfl) :
    PS X (.Assign [.Subscript o i tpos] e pos) (tOfS G (mSetIx mo mi me)) := by
  refine ps_imp (ps_asg he hg hs hw) fun D σ H h => ?_
  obtain ⟨F, θ, S, env, fp, fl, env', S', s, e, k⟩ := h
  unfold mSetIx at e
  obtain ⟨⟨w, S1⟩, e1, e⟩ := Option.bind_eq_some_iff.mp e
  obtain ⟨⟨x, S2⟩, e2, e⟩ := Option.bind_eq_some_iff.mp e
  obtain ⟨⟨y, S3⟩, e3, e⟩ := Option.bind_eq_some_iff.mp e
  obtain ⟨S4, e4, e5⟩ := Option.map_eq_some_iff.mp e
  cases e5
  refine ⟨F, θ, S, env, fp, w, S1, s, e1, fun F1 θ1 H1 v1 f1 t1 s1 r1 => ?_⟩
  refine ⟨F1, θ1, S1, env, fp, x, S2, s1, e2, fun F2 θ2 H2 v2 f2 t2 s2 r2 => ?_⟩
  refine ⟨F2, θ2, S2, env, fp, y, S3, s2, e3, fun F3 θ3 H3 v3 f3 t3 s3 r3 => ?_⟩
  have t := t1.trans (t2.trans t3)
  exact setIx_ok s3 ((r2.mono t3).earlier t1) (r3.earlier (t1.trans t2)) (r1.mono (t2.trans t3)) e4 fun H4 t4 s4 => k F3 θ3 H4 σ fp ((t.trans t4).toS fp) s4
end
def rGetN (K : PySem.W.Frag) : V → V → Hp → VK → Prop := fun x y H Q => ∃ (p : Addr) (xs : List V) (i : Nat) (v : V), x = .ref p ∧ y = .int (i : Int) ∧ SqL K H p xs ∧ xs[i]? = some v ∧ Q v H
theorem pget_list {X : Cx} : PGet X (rGetN X.K) := by
  intro pins s σ H o i ov iv Q I ro ri h
  obtain ⟨p, xs, n, v, rfl, rfl, hq, he, q⟩ := h
  cases ro
  obtain ⟨t, rfl⟩ := ri
  obtain ⟨its, r, pl, hz⟩ := I.list hq
  obtain ⟨w, ew, rw'⟩ := r.get he
  have hn : n < its.length := (List.getElem?_eq_some_iff.mp ew).1
  have hl := r.length
  have hs := line63
  refine wpAny_getItem_list pl.isList (by omega) (by omega) (by simpa using ew) ⟨v, H, I, rw', q⟩
def mAugIx (f : Int → Int → Int) (mo mi me : ME) : MS := fun env S => (mo env S).bind fun p => (mi env p.2).bind fun q => match p.1, q.1 with
  | .r n, .d (.int k) => (q.2[n]?).bind fun xs => if 0 ≤ k then (xs[k.toNat]?).bind fun x => match x with
    | .d (.int a) => (me env q.2).bind fun r => match r.1 with
      | .d (.int b) => (setIx r.2 (.r n) (.d (.int k)) (.d (.int (f a b)))).map fun S' => (.nx, env, S')
      | _ => none
    | _ => none else none
  | _, _ => none
section
variable {X : Cx} {G : Gd} {o i e : Expr} {mo mi me : ME} {pos tpos : Pos} {op : Operator} {f : Int → Int → Int}
theorem z_augIx (hop : PIp X op (ipI f)) (ho : PE X o (tOf G mo)) (hi : PE X i (tOf G mi)) (he : PE X e (tOf G me)) (hK : X.K = G.K := by rfl)
    (ha : ∀ ov iv new, augStore i ov iv new = (do holding [new, ov, iv] (setItem ov iv new); release [new, ov, iv] []; pure .next) := by intros; rfl) : PS X (.AugAssign (.Subscript o i tpos) op e pos) (tOfS G (mAugIx f mo mi me)) := by
  refine ps_imp (ps_augS ho hi pget_list he hop set_list ha) fun D σ H h => ?_
  rw [hK]
  obtain ⟨F, θ, S, env, fp, fl, env', S', s, e, k⟩ := h
  unfold mAugIx at e
  obtain ⟨⟨x, S1⟩, e1, e⟩ := Option.bind_eq_some_iff.mp e
  obtain ⟨⟨y, S2⟩, e2, e⟩ := Option.bind_eq_some_iff.mp e
  dsimp only at e
  split at e
  · rename_i n kk _
    obtain ⟨xs, e3, e⟩ := Option.bind_eq_some_iff.mp e
    split at e
    · rename_i h0
      obtain ⟨x, e4, e⟩ := Option.bind_eq_some_iff.mp e
      split at e
      · rename_i a
        obtain ⟨⟨z, S3⟩, e5, e⟩ := Option.bind_eq_some_iff.mp e
        dsimp only at e
        split at e
        · rename_i b
          obtain ⟨S4, e6, e7⟩ := Option.map_eq_some_iff.mp e
          cases e7
          refine ⟨F, θ, S, env, fp, _, S1, s, e1, fun F1 θ1 H1 v1 f1 t1 s1 r1 => ?_⟩
          refine ⟨F1, θ1, S1, env, fp, _, S2, s1, e2, fun F2 θ2 H2 v2 f2 t2 s2 r2 => ?_⟩
          obtain ⟨⟨p, q5, q6⟩, _, hl⟩ := (r1.mono t2).rw
          obtain ⟨p', vs, q1, q2, q3, q4⟩ := s2.store.cell n xs e3 q6 (q5 ▸ hl)
          rw [q1] at q6
          cases q6
          obtain ⟨u, f', q7, q8, _⟩ := q4.get e4
          refine ⟨p, vs, kk.toNat, u, q5, by rw [show v2 = V.int kk from r2.rw.dAt, Int.toNat_of_nonneg h0], SqL.of q3, q7, ?_⟩
          refine ⟨F2, θ2, S2, env, fp, _, S3, s2, e5, fun F3 θ3 H3 v3 f3 t3 s3 r3 => ?_⟩
          refine ⟨a, b, q8.1, r3.rw.dAt, ?_⟩
          have t := t1.trans (t2.trans t3)
          exact setIx_ok (H0 := H) s3 (r1.mono (t2.trans t3)) ((r2.mono t3).earlier t1) (.d (x := .int (f a b)) (show R G F3 (.int (f a b)) _ from rfl)) e6 fun H4 t4 s4 => k F3 θ3 H4 σ fp ((t.trans t4).toS fp) s4
        · cases e
      · cases e
    · cases e
  · cases e
end
theorem RWs.argNil {G : Gd} {F : Hp} {θ : Th} {H : Hp} : ∀ {ws : List W} {vs : List V} {f : List Addr}, RWs G F θ H ws vs f → ws.all isArg = true → f = []
  | [], _, _, h, _ => h.2
  | w :: ws, _, _, ⟨v, r, f1, f2, _, h2, h3, h4⟩, e => by
    rw [List.all_cons, Bool.and_eq_true] at e
    rw [h4, arg_nil h2 e.1, RWs.argNil h3 e.2]
    rfl
theorem RsA.argW {G : Gd} {H0 : Hp} {fp : List Addr} {F : Hp} {θ : Th} {H : Hp} {ws : List W} {vs : List V} (h : RsA G H0 fp F θ H ws vs) (e : ws.all isArg = true) : RWs G F θ H ws vs [] := h.args e
theorem RWs.app {G : Gd} {F : Hp} {θ : Th} {H : Hp} : ∀ {xs ys : List W} {vs us : List V}, RWs G F θ H xs vs [] → RWs G F θ H ys us [] → RWs G F θ H (xs ++ ys) (vs ++ us) []
  | [], _, _, _, h, h' => by
    rw [h.1]
    exact h'
  | x :: xs, _, _, _, ⟨v, r, f1, f2, h1, h2, h3, h4⟩, h' => by
    obtain ⟨e1, e2⟩ := List.append_eq_nil_iff.mp h4.symm
    subst e1 e2
    rw [h1]
    exact ⟨v, _, [], [], rfl, h2, RWs.app h3 h', rfl⟩
theorem St.new0 {G : Gd} {F H : Hp} {θ : Th} {S : Store} {env : En} {σ : L2.St} {fp : List Addr} (s : St G F θ H S env σ fp) {p : Addr} (hp : H p = none) (o : HO) : Tr F θ H F θ (upd H p o) ∧ St G F θ (upd H p o) S env σ fp ∧ F p = none ∧ p ∉ θ ∧ p ∉ fp := by
  have fF : F p = none := by
    cases e : F p with
    | none => rfl
    | some u =>
      rw [s.sub p u e] at hp
      cases hp
  have tT : p ∉ θ := fun z => by
    obtain ⟨_, u, hu⟩ := s.store.there z
    rw [hp] at hu
    cases hu
  have tP : p ∉ fp := fun z => s.fpH p z hp
  refine ⟨⟨.refl F, ⟨[], (List.append_nil θ).symm⟩, fun b h1 h2 => absurd h1 h2, fun b h1 h2 => absurd h1 h2, fun b u _ e => ?_, fun b u e => ⟨u, by rw [upd_ne (ne_of_none e hp)]; exact e, fun _ => rfl⟩⟩, s.hid o fF tT tP, fF, tT, tP⟩
  rw [upd_ne (ne_of_none e hp)]
  exact e
theorem Res.newO {G : Gd} {H0 F H : Hp} {θ : Th} {S : Store} {env : En} {σ : L2.St} {fp : List Addr} {p : Addr} {ws : List W} {vs : List V} (s : St G F θ H S env σ fp) (hp : H p = none) (h0 : H0 p = none) (r : RWs G F θ H ws vs []) : Res G H0 fp F θ (upd H p (.lst vs)) (.own ws) (.ref p) [p] := by
  obtain ⟨t, _, g1, g2, g3⟩ := s.new0 hp (.lst vs)
  have one : ∀ a ∈ [p], a = p := fun a ha => by simpa using ha
  exact ⟨⟨p, vs, [], rfl, upd_same, RWs.mono t ws vs [] (fun _ h => absurd h (by simp)) r, rfl⟩, by simp, fun a ha => one a ha ▸ ⟨g1, g2⟩, fun a ha => .inr (one a ha ▸ h0), fun _ a ha => one a ha ▸ h0⟩
section
variable {X : Cx} {G : Gd} {es : List Expr} {ms : MA} {pos : Pos}
theorem z_lstO (h : PA X es (tOfA G ms)) : PE X (.List es pos) (tOf G (mLstO ms)) := by
  refine pe_imp (pe_lst h) fun σ H Q h => ?_
  obtain ⟨F, θ, S, env, fp, w, S', st, e, k⟩ := h
  unfold mLstO at e
  obtain ⟨⟨ws, S1⟩, e1, e⟩ := Option.bind_eq_some_iff.mp e
  dsimp only at e
  split at e
  · rename_i hl
    cases e
    refine ⟨F, θ, S, env, fp, ws, _, st, e1, fun F1 θ1 H1 vs t1 st1 rs => ?_⟩
    have q := rs.argW hl.1
    refine ⟨by rw [q.len]; exact cap_ok hl.2, fun p hp => ?_⟩
    obtain ⟨t4, s4, _⟩ := st1.new0 hp (.lst vs)
    exact k F1 θ1 _ (.ref p) [p] (t1.trans t4) s4 (Res.newO st1 hp (t1.back hp) q)
  · cases e
end
theorem St.ownSet {G : Gd} {F H : Hp} {θ : Th} {S : Store} {env : En} {σ : L2.St} {fp : List Addr} {i : Nat} {xs : List W} (s : St G F θ H S env σ fp) (hi : env[i]? = some (some (.own xs))) {ds : List W} {us : List V} (r : RWs G F θ H ds us []) :
    ∃ a vs fs, σ[i]? = some (some (.ref a)) ∧ H a = some (.lst vs) ∧ RWs G F θ H xs vs fs ∧ ∃ fp', St G F θ (upd H a (.lst us)) S (env.set i (some (.own ds))) σ fp' ∧ (∀ b ∈ fp', b ∈ fp) ∧ a ∈ fp := by
  have hl : i < env.length := (List.getElem?_eq_some_iff.mp hi).1
  obtain ⟨ea, eb, o, sa, sb, v0, pre, old, post, q1, q2, q3, q4, q5, q6, q7, q8, q9⟩ := RE.cut s.env hl
  have ho : o = some (.own xs) := by
    rw [q1, List.getElem?_append_right (by omega), q3, Nat.sub_self] at hi
    simpa using hi
  obtain ⟨u, hu, hw⟩ := q9 _ ho
  obtain ⟨a, vs, fs, h1, h2, h3, h4⟩ := hw
  have nd := s.nd
  rw [q5, h4] at nd
  obtain ⟨n1, n2, n3⟩ := List.nodup_append.mp nd
  have n2' : (a :: (fs ++ post)).Nodup := n2
  have ma : a ∈ fp := by
    rw [q5, h4]
    simp
  have apre : ∀ b ∈ pre, b ≠ a := fun b hb z => n3 b hb a (List.mem_append_left _ (List.mem_cons_self ..)) z
  have apost : ∀ b ∈ post, b ≠ a := fun b hb z => (List.nodup_cons.mp n2').1 (z ▸ List.mem_append_right _ hb)
  obtain ⟨fa, ta⟩ := s.apart a ma
  refine ⟨a, vs, fs, ?_, h2, h3, pre ++ ([a] ++ post), ⟨fun b x e => ?_, s.store.move (.refl F) (fun _ _ h => h) fun b hb x e => ?_, ?_, ?_, fun b hb => ?_⟩, fun b hb => ?_, ma⟩
  · rw [q2, List.getElem?_append_right (by omega), q4, Nat.sub_self, hu, h1]
    rfl
  · rw [upd_ne (ne_of_none e fa)]
    exact s.sub b x e
  · rw [upd_ne (show b ≠ a from fun z => ta (z ▸ hb))]
    exact e
  · rw [q1, set_mid q3, q2]
    refine RE.join (RE.move (.refl F) (fun _ _ h => h) (ln_upd ta) ea sa pre (fun b hb x e => ?_) q6) ⟨.ref a, sb, [a], post, by rw [hu, h1], ⟨a, us, [], rfl, upd_same, RWs.move (.refl F) (fun _ _ h => h) (ln_upd ta) ds us [] (fun _ h => absurd h (by simp)) r, rfl⟩, RE.move (.refl F) (fun _ _ h => h) (ln_upd ta) eb sb post (fun b hb x e => ?_) q7, rfl⟩
    · rw [upd_ne (apre b hb)]
      exact e
    · rw [upd_ne (apost b hb)]
      exact e
  · refine List.nodup_append.mpr ⟨n1, List.nodup_append.mpr ⟨by simp, (List.nodup_append.mp (List.nodup_cons.mp n2').2).2.1, fun b hb c hc z => ?_⟩, fun b hb c hc z => ?_⟩
    · have eb : b = a := by simpa using hb
      exact apost c hc (z ▸ eb)
    · rcases List.mem_append.mp hc with hc | hc
      · have ec : c = a := by simpa using hc
        exact apre b hb (z.trans ec)
      · exact n3 b hb c (List.mem_append_right _ hc) z
  · refine s.apart b ?_
    rw [q5, h4]
    rcases List.mem_append.mp hb with hb | hb
    · simp [hb]
    · rcases List.mem_append.mp hb with hb | hb
      · have eb : b = a := by simpa using hb
        simp [eb]
      · simp [hb]
  · rw [q5, h4]
    rcases List.mem_append.mp hb with hb | hb
    · simp [hb]
    · rcases List.mem_append.mp hb with hb | hb
      · have eb : b = a := by simpa using hb
        simp [eb]
      · simp [hb]
structure SimM (G : Gd) (r : V → List V → Hp → VK → Prop) (g : Store → List W → List W → Option (List W)) : Prop where
  run : ∀ {F θ H0 H S env σ fp a xs vs ws us zs Q}, St G F θ H S env σ fp → H a = some (.lst vs) → RWs G F θ H xs vs [] → RsA G H0 fp F θ H ws us → ws.all isArg = true → g S xs ws = some zs →
    (∀ vs', RWs G F θ H zs vs' [] → Q .non (upd H a (.lst vs'))) → r (.ref a) us H Q
def mMut (i : Nat) (ms : MA) (g : Store → List W → List W → Option (List W)) : MS := fun env S => (ms env S).bind fun p => if p.1.all isArg = true then match env[i]? with
  | some (some (.own xs)) => if xs.all isArg = true then (g p.2 xs p.1).bind fun zs => some (.nx, env.set i (some (.own zs)), p.2) else none
  | some (some (.r n)) => (p.2[n]?).bind fun xs => (g p.2 xs p.1).bind fun zs => some (.nx, env, p.2.set n zs)
  | _ => none else none
theorem mut_reads {G : Gd} {r : V → List V → Hp → VK → Prop} {g : Store → List W → List W → Option (List W)} (sm : SimM G r g) {i : Nat} {ms : MA} {D : Ends} {σ : L2.St} {H : Hp} (h : tOfS G (mMut i ms g) D σ H) : tDrop (tBM G.K "list" r (tVar i) (tOfA G ms)) D σ H := by
  obtain ⟨F, θ, S, env, fp, fl, env', S', s, e, k⟩ := h
  unfold mMut at e
  obtain ⟨⟨ws, S1⟩, e1, e⟩ := Option.bind_eq_some_iff.mp e
  dsimp only at e
  split at e
  · rename_i hA
    split at e
    · rename_i xs hi
      split at e
      · rename_i hx
        obtain ⟨zs, e2, e⟩ := Option.bind_eq_some_iff.mp e
        cases e
        obtain ⟨v, f, h1, h2⟩ := s.at hi
        obtain ⟨a, vs, fs, h3, h4, h5, h6⟩ := h2.rw
        rw [h3] at h1
        refine ⟨.ref a, h1, .inl ⟨rfl, vs, SqL.of h4⟩, F, θ, S, env, fp, ws, _, s, e1, fun F1 θ1 H1 us t1 s1 r1 => ?_⟩
        obtain ⟨a0, us0, fs0, g1, g2, g3, _⟩ := s1.ownSet (ds := []) (us := []) hi ⟨rfl, rfl⟩
        rw [h1] at g1
        cases g1
        rw [g3.argNil hx] at g3
        refine sm.run s1 g2 g3 r1 hA e2 fun vs' q1 => ?_
        obtain ⟨a2, us2, fs2, g4, g5, g6, fp', s2, hp, hm⟩ := s1.ownSet hi q1
        rw [h1] at g4
        cases g4
        refine k F1 θ1 _ σ fp' ⟨t1.le, t1.th, t1.newS (fun b hb => .inl (hp b hb)), fun b h1 h2 => .inl (t1.newT b h1 h2), fun b hb => .inl (hp b hb), fun b u h1 h2 h3 => ?_, fun b u h1 => ?_⟩ s2
        · rw [upd_ne (show b ≠ a from fun z => h2 (z ▸ hm))]
          exact t1.keep b u h1 h3
        · by_cases z : b = a
          · exact ⟨_, by rw [z, upd_same], fun hq => absurd (z ▸ hq) (s.apart a hm).2⟩
          · rw [upd_ne z]
            exact t1.live b u h1
      · cases e
    · rename_i n hi
      obtain ⟨xs, e2, e⟩ := Option.bind_eq_some_iff.mp e
      obtain ⟨zs, e3, e⟩ := Option.bind_eq_some_iff.mp e
      cases e
      obtain ⟨v, f, h1, h2⟩ := s.at hi
      obtain ⟨⟨a, h3, h4⟩, _, hl⟩ := h2.rw
      rw [h3] at h1
      have hn : n < S.length := by
        rw [← s.store.len]
        exact (List.getElem?_eq_some_iff.mp h4).1
      obtain ⟨b, vs, h5, h6, h7, h8⟩ := s.store.cell n S[n] (List.getElem?_eq_getElem hn) h4 (h3 ▸ hl)
      rw [h4] at h5
      cases h5
      refine ⟨.ref a, h1, .inl ⟨rfl, vs, SqL.of h7⟩, F, θ, S, env, fp, ws, S1, s, e1, fun F1 θ1 H1 us t1 s1 r1 => ?_⟩
      obtain ⟨b, us, g1, g2, g3, g4⟩ := s1.store.cell n xs e2 (t1.get h4) (by
        obtain ⟨u', q1, q2⟩ := t1.live a _ h7
        exact ⟨a, u', rfl, q1, q2 (List.mem_of_getElem? h4)⟩)
      rw [t1.get h4] at g1
      cases g1
      refine sm.run s1 g3 g4 r1 hA e3 fun vs' q1 => ?_
      obtain ⟨t2, s2⟩ := s1.cellSet (t1.get h4) g3 q1
      exact k F1 θ1 _ σ fp ((t1.trans t2).toS fp) s2
    · cases e
  · cases e
section
variable {X : Cx} {G : Gd} {r : V → List V → Hp → VK → Prop} {g : Store → List W → List W → Option (List W)} {st : Stmt} {ms : MA} {mo : ME} {i : Nat}
theorem z_mut (sm : SimM G r g) (hp : PS X st (tDrop (tBM X.K "list" r (tVar i) (tOfA G ms)))) (hK : X.K = G.K := by rfl) : PS X st (tOfS G (mMut i ms g)) := ps_imp hp fun D σ H h => by
  rw [hK]
  exact mut_reads sm h
end
def gApp : Store → List W → List W → Option (List W) := fun _ xs ws => match ws with
  | [w] => if xs.length < cap then some (xs ++ [w]) else none
  | _ => none
theorem sim_app {G : Gd} : SimM G rAppend gApp := by
  refine ⟨fun {F θ H0 H S env σ fp a xs vs ws us zs Q} st ha rx rs hA e k => ?_⟩
  unfold gApp at e
  split at e
  · split at e
    · rename_i w hc
      cases e
      have q := rs.argW hA
      obtain ⟨v, r, f, h1, h2, h3⟩ := rs
      have h3' : r = [] := h3
      rw [h1, h3'] at q ⊢
      exact ⟨a, vs, v, rfl, rfl, ha, by rw [rx.len]; exact cap_lt hc, k _ (rx.app q)⟩
    · cases e
  · cases e
theorem tOf_pub {G : Gd} {m : ME} {σ : L2.St} {H : Hp} {Q : VK} (h : tOf G (mPubE m) σ H Q) : tOf G m σ H Q := by
  obtain ⟨F, θ, S, env, fp, w, S', st, e, k⟩ := h
  unfold mPubE at e
  obtain ⟨⟨x, S1⟩, e1, e⟩ := Option.bind_eq_some_iff.mp e
  dsimp only at e
  split at e
  · split at e
    · rename_i xs hA
      cases e
      refine ⟨F, θ, S, env, fp, _, S1, st, e1, fun F1 θ1 H1 v f t1 s1 r => ?_⟩
      obtain ⟨a, vs, fs, h1, h2, h3, h4⟩ := r.rw
      have e0 := h3.argNil hA
      subst e0
      have ma : a ∈ f := by
        rw [h4]
        exact List.mem_cons_self
      obtain ⟨fa, ta⟩ := r.ap a ma
      have h0 := r.own trivial a ma
      have tt : Tr F θ H F1 (θ1 ++ [a]) H1 := ⟨t1.le, let ⟨m, hm⟩ := t1.th; ⟨m ++ [a], by rw [hm, List.append_assoc]⟩, fun b h1 h2 => (t1.newF b h1 h2).imp_right fun ⟨z1, vs, z2⟩ => ⟨fun z => (List.mem_append.mp z).elim z1 fun z => (by rw [List.mem_singleton.mp z, h0] at z2; cases z2), vs, z2⟩, fun b h1 h2 => by
        rcases List.mem_append.mp h1 with z | z
        · exact t1.newT b z h2
        · rw [List.mem_singleton.mp z]
          exact h0, t1.keep, t1.live⟩
      have th : ∀ (n : Nat) b, θ1[n]? = some b → (θ1 ++ [a])[n]? = some b := fun n b e => by
        rw [List.getElem?_append_left (List.getElem?_eq_some_iff.mp e).1]
        exact e
      have s2 : St G F1 (θ1 ++ [a]) H1 (S1 ++ [xs]) env σ fp := by
        refine ⟨s1.sub, ⟨by rw [List.length_append, List.length_append, s1.store.len]; rfl, ?_, fun n ys e => ?_⟩, RE.move (.refl F1) th ln_id env σ fp (fun _ _ _ h => h) s1.env, s1.nd, fun b hb => ⟨(s1.apart b hb).1, fun z => ?_⟩⟩
        · exact List.nodup_append.mpr ⟨s1.store.nd, by simp, fun b hb c hc z => ta (by rw [← List.mem_singleton.mp hc, ← z]; exact hb)⟩
        · by_cases hn : n < S1.length
          · rw [List.getElem?_append_left hn] at e
            obtain ⟨b, us, q1, q2, q3, q4⟩ := s1.store.cellR n ys e
            exact ⟨b, us, th n b q1, q2, q3, RWs.move (.refl F1) th ln_id ys us [] (fun _ _ _ h => h) q4⟩
          · have hl := (List.getElem?_eq_some_iff.mp e).1
            rw [List.length_append, List.length_singleton] at hl
            have en : n = S1.length := by omega
            subst en
            rw [List.getElem?_append_right (Nat.le_refl _), Nat.sub_self] at e
            have e' : xs = ys := by simpa using e
            subst e'
            exact ⟨a, vs, by rw [← s1.store.len, List.getElem?_append_right (Nat.le_refl _), Nat.sub_self]; rfl, fa, .inl h2, RWs.move (.refl F1) th ln_id xs vs [] (fun _ _ _ h => h) h3⟩
        · rcases List.mem_append.mp z with z | z
          · exact (s1.apart b hb).2 z
          · rw [List.mem_singleton.mp z] at hb
            exact st.fpH a hb h0
      refine k F1 _ H1 v [] tt s2 ⟨⟨⟨a, h1, ?_⟩, rfl, h1 ▸ .of h2⟩, .nil, fun _ h => absurd h (by simp), fun _ h => absurd h (by simp), fun h => h.elim⟩
      rw [← s1.store.len, List.getElem?_append_right (Nat.le_refl _), Nat.sub_self]
      rfl
    · cases e
  · cases e
theorem z_pub {X : Cx} {G : Gd} {e : Expr} {m : ME} (h : PE X e (tOf G m)) : PE X e (tOf G (mPubE m)) := pe_imp h fun _ _ _ q => tOf_pub q
def mFrz (i : Nat) : MS := fun env S => match env[i]? with
  | some (some (.own xs)) => (asDs xs).map fun ds => (.nx, env.set i (some (.d (.lst ds))), S)
  | _ => some (.nx, env, S)
section
variable {X : Cx} {G : Gd} {a b : Expr} {ma mb : ME} {pos : Pos} {k : Nat}
theorem z_neT (hr : Room k X.A) (ha : PE X a (tOf G ma)) (hb : PE X b (tOf G mb)) (hK : X.K = G.K := by rfl) : PT X (.Compare a [.NotEq] [b] pos) (tOfT G (mTst (mBin gNe ma mb))) :=
  z_cmpT (op_ne.or (op_neD hr.units)) (sim_neS.or (by rw [hK]; exact sim_neP)) ha hb (nomark _)
theorem z_ltT (ha : PE X a (tOf G ma)) (hb : PE X b (tOf G mb)) : PT X (.Compare a [.Lt] [b] pos) (tOfT G (mTst (mBin gLt ma mb))) := z_cmpT (op_lt.or op_lt_str) sim_lt ha hb (nomark _)
theorem z_gtT (ha : PE X a (tOf G ma)) (hb : PE X b (tOf G mb)) : PT X (.Compare a [.Gt] [b] pos) (tOfT G (mTst (mBin gGt ma mb))) := z_cmpT (op_gt.or op_gt_str) sim_gt ha hb (nomark _)
theorem z_geT (ha : PE X a (tOf G ma)) (hb : PE X b (tOf G mb)) : PT X (.Compare a [.GtE] [b] pos) (tOfT G (mTst (mBin gGe ma mb))) := z_cmpT (op_ge.or op_ge_str) sim_ge ha hb (nomark _)
end
section
variable {X : Cx} {G : Gd} {e : Expr} {ms : MA} {p pos : Pos}
theorem z_len (hg : Gl X "len") (hm : X.mg "len" = none) (ha : PA X [e] (tOfA G ms)) (he : starEach [e] X.env = (false, eval e X.env) :: starEach [] X.env := by rfl) (hpl : (backTo pos (starEach [] X.env)).any (·.1) = false := by rfl) (hK : X.K = G.K := by rfl) :
    PE X (.Call (.Name "len" p) [e] [] pos) (tOf G (mCB (g1 gLen) ms)) :=
  z_cb (r := fun xs H Q => ∃ x, xs = [x] ∧ ∃ n, LenV G.K x H n ∧ Q (.int n) H) (callR_imp call_len fun xs H Q ⟨x, h1, n, h2, h3⟩ => ⟨x, n, h1, hK ▸ h2, h3⟩) sim_len hg hm PySem.boot_len ha (by decide) (by decide) he hpl
theorem z_abs (hg : Gl X "abs") (hm : X.mg "abs" = none) (ha : PA X [e] (tOfA G ms)) (he : starEach [e] X.env = (false, eval e X.env) :: starEach [] X.env := by rfl) (hpl : (backTo pos (starEach [] X.env)).any (·.1) = false := by rfl) :
    PE X (.Call (.Name "abs" p) [e] [] pos) (tOf G (mCB (g1 gAbs) ms)) :=
  z_cb (callR_imp call_abs fun xs H Q ⟨x, h1, i, h2, h3⟩ => ⟨i, by rw [h1, h2], h3⟩) sim_abs hg hm (by decide +kernel) ha (by decide) (by decide) he hpl
theorem z_int1 (hg : Gl X "int") (hm : X.mg "int" = none) (ha : PA X [e] (tOfA G ms)) (he : starEach [e] X.env = (false, eval e X.env) :: starEach [] X.env := by rfl) (hpl : (backTo pos (starEach [] X.env)).any (·.1) = false := by rfl) :
    PE X (.Call (.Name "int" p) [e] [] pos) (tOf G (mCB (g1 gInt1) ms)) :=
  z_ct (callR_imp call_int1 fun xs H Q ⟨x, h1, h2⟩ => h2.imp (fun ⟨i, h3, h4⟩ => ⟨i, by rw [h1, h3], h4⟩) fun ⟨i, h3, h4⟩ => ⟨i, by rw [h1, h3], h4⟩) sim_int1 hg hm PyProof.Rows.boot_int ha (by decide) (by decide) he hpl
end
section
variable {X : Cx} {G : Gd} {k j : Nat} {ps : List Str} {m : MF} {ms : MA} {x : Str} {p pos : Pos} {e : Expr} {es : List Expr}
theorem z_fn (C : Kn G X.mg X.base x j ps m) (hr : Room k X.A) (hj : j ≤ k) (hgd : X.A.guards = some []) (hg : Gl X x) (ha : PA X (e :: es) (tOfA G ms))
    (hdb : (x == ("__debug__" : Str)) = false := by decide) (he : starEach (e :: es) X.env = (false, eval e X.env) :: starEach es X.env := by rfl) (hpl : (backTo pos (starEach es X.env)).any (·.1) = false := by rfl) (hG : X.prog = G.P ∧ X.w = G.w ∧ X.K = G.K := by exact ⟨rfl, rfl, rfl⟩) :
    PE X (.Call (.Name x p) (e :: es) [] pos) (tOf G (mCall m ms)) := by
  obtain ⟨f, fd, a, b, c, d⟩ := C.ex
  exact z_call a (hr.mono hj) hgd hg b c d ha hdb he hpl hG
end
theorem Kn.mk' {G : Gd} {mg : Str → Option Value} {base : Heap} {x : Str} {k : Nat} {ps N : List Str} {name qual : Str} {params : Arguments} {body : List Stmt} {scope : Scope} {f : Addr} {mb : MS} {m : MF}
    (D : ∃ fd, FunD G.K name qual params body scope [] [] f fd) (hx : mg x = some (.ref f)) (sc : FnScope N ps scope) (hm : m = mFn ps.length N.length mb)
    (hbd : ∀ (kV doc pm : Value) (an : Option Addr) (cdv ct : Value) (us : List Value), us.length = ps.length → bindArgs (PySem.W.fnOf name qual params body scope .none kV doc pm an cdv ct) ⟨us, []⟩ = pure (ps.zip us))
    (hb : ∀ (cdv : Value) (A : Around) (outer : List Env) (s : Shared) (H : Hp), Room k (A.deeper (envOfC qual scope s.heap.objs.size f cdv)) → A.guards = some [] →
      PSs (cxOf CX0 G.P G.w G.K mg base N qual scope f cdv A outer s H E0).nox body (tOfS G mb)) : Kn G mg base x (k + 1) ps m := by
  obtain ⟨fd, D⟩ := D
  have b : Binds G.K fd ps [] := by
    obtain ⟨oc, od, dV, kV, doc, pm, an, cdv, ct, osl, hfd, _, _, hD, _⟩ := D.ex
    subst hfd
    rcases hD with ⟨_, rfl⟩ | ⟨e, _⟩
    · exact .all (hbd kV doc pm an cdv ct)
    · exact absurd rfl e
  exact ⟨f, fd, fn_rule D sc hm hb, hx, D.kp, b⟩
end Zf
namespace Zf
open PySem L2
end Zf
set_option maxHeartbeats 2000000
namespace Zf
open PySem PySem.Spec PyProof.Rows L2
def kpy : Key → PyData
  | .inl i => .int i
  | .inr x => .str x
mutual
def spy : D → Option PyData
  | .non => some .none
  | .bl b => some (.bool b)
  | .int i => some (.int i)
  | .str x => some (.str x)
  | .lst xs => (spys xs).map .list
  | .tup xs => (spys xs).map .tuple
  | .ro xs => (spys xs).map .list
  | .dct kvs => (spyk kvs).map .dict
  | _ => none
def spys : List D → Option (List PyData)
  | [] => some []
  | x :: r => (spy x).bind fun a => (spys r).map (a :: ·)
def spyk : List (Key × D) → Option (List (PyData × PyData))
  | [] => some []
  | (k, x) :: r => (spy x).bind fun a => (spyk r).map ((kpy k, a) :: ·)
end
theorem _root_.L2.Room.v {k : Nat} {A : Around} (hr : Room k A) : A.units + 200 < cLine := by have := hr.un; omega
theorem Tr.ln {F F' H H' : Hp} {θ θ' : Th} (t : Tr F θ H F' θ' H') : Ln θ H H' := fun a ha u h => let ⟨u', h1, h2⟩ := t.live a u h; ⟨u', h1, h2 ha⟩
theorem TrS.ln {F F' H H' : Hp} {θ θ' : Th} {fp fp' : List Addr} (t : TrS F θ H fp F' θ' H' fp') : Ln θ H H' := fun a ha u h => let ⟨u', h1, h2⟩ := t.live a u h; ⟨u', h1, h2 ha⟩
abbrev MIW := En → Store → Option (Src × Store)
def tOfIW (G : Gd) (m : MIW) : TI := fun σ H R => ∃ F θ S env fp src S', St G F θ H S env σ fp ∧ m env S = some (src, S') ∧
  ∀ F' θ' H' J, Tr F θ H F' θ' H' → St G F' θ' H' S' env σ fp → RunsW G F' θ' H' J src → R J H'
def mICel (m : ME) : MIW := fun env S => (m env S).bind fun p => match p.1 with
  | .r n => some (.cel n, p.2)
  | _ => none
section
variable {X : Cx} {G : Gd} {tg l : Expr} {m : ME} {mi : MI}
theorem zi_cel (h : PE X l (tOf G m)) (hK : X.K = G.K := by rfl) : PI X tg l (tOfIW G (mICel m)) := by
  refine pi_imp (pi_list h) fun σ H Rr q => ?_
  rw [hK]
  obtain ⟨F, θ, S, env, fp, src, S', s, e, k⟩ := q
  unfold mICel at e
  obtain ⟨⟨w, S1⟩, e1, e⟩ := Option.bind_eq_some_iff.mp e
  dsimp only at e
  split at e
  · rename_i n
    cases e
    refine ⟨F, θ, S, env, fp, _, _, s, e1, fun F1 θ1 H1 v f t1 s1 r => ?_⟩
    obtain ⟨⟨a, h1, h2⟩, _, hl⟩ := r.rw
    have hn : n < S'.length := by
      rw [← s1.store.len]
      exact (List.getElem?_eq_some_iff.mp h2).1
    obtain ⟨b, vs, h3, _, h5, _⟩ := s1.store.cell n S'[n] (List.getElem?_eq_getElem hn) h2 (h1 ▸ hl)
    rw [h2] at h3
    cases h3
    refine ⟨a, h1, ⟨vs, SqL.of h5⟩, k F1 θ1 H1 _ t1 s1 fun i F2 θ2 H2 S2 le th ln sub rs => ?_⟩
    have key : ∀ ys, S2[n]? = some ys → ∃ us, H2 a = some (.lst us) ∧ RWs G F2 θ2 H2 ys us [] := fun ys e => by
      obtain ⟨mm, rfl⟩ := th
      obtain ⟨c, us, g1, _, g3, g4⟩ := rs.cell n ys e (show (θ1 ++ mm)[n]? = some a by rw [List.getElem?_append_left (List.getElem?_eq_some_iff.mp h2).1]; exact h2) (by
        obtain ⟨u', q1, q2⟩ := ln a (List.mem_of_getElem? h2) _ h5
        exact ⟨a, u', rfl, q1, q2⟩)
      rw [List.getElem?_append_left (List.getElem?_eq_some_iff.mp h2).1, h2] at g1
      cases g1
      exact ⟨us, g3, g4⟩
    refine ⟨fun w e => ?_, fun e => ?_⟩
    · simp only [nxt] at e
      obtain ⟨ys, e1, e⟩ := Option.bind_eq_some_iff.mp e
      obtain ⟨us, g1, g2⟩ := key ys e1
      split at e
      · cases e
      · split at e
        · rename_i w' hw hA
          cases e
          obtain ⟨v, f', q1, q2, q3⟩ := g2.get hw
          have ef : f' = [] := List.sublist_nil.mp q3
          subst ef
          refine ⟨hA, ⟨us, v, SqL.of g1, q1⟩, fun x H3 y => ?_⟩
          obtain ⟨rfl, y⟩ := y
          have y1 := y us (SqL.of g1)
          rw [q1] at y1
          cases y1
          exact ⟨F2, .refl sub, q2⟩
        · cases e
    · simp only [nxt] at e
      obtain ⟨ys, e1, e⟩ := Option.bind_eq_some_iff.mp e
      obtain ⟨us, g1, g2⟩ := key ys e1
      split at e
      · rename_i hw
        exact ⟨us, SqL.of g1, by rw [g2.len]; exact List.getElem?_eq_none_iff.mp hw⟩
      · split at e
        · cases e
        · cases e
  · cases e
end
def bindW : Tg → En → W → Option En
  | .nm i, env, w => if i < env.length ∧ isArg w = true then some (env.set i (some w)) else none
  | .tup is, env, .d (.tup xs) => bindAll is xs env
  | .pr i is, env, .d x => bindT (.pr i is) env x
  | _, _, _ => none
theorem Res.arg {G : Gd} {H0 F H : Hp} {θ : Th} {fp f : List Addr} {w : W} {v : V} (h : RW G F θ H w v f) (ha : isArg w = true) : Res G H0 fp F θ H w v [] := by
  have e := arg_nil h ha
  subst e
  refine ⟨h, .nil, fun _ h => absurd h (by simp), fun _ h => absurd h (by simp), fun h => ?_⟩
  cases w with
  | d _ => exact h.elim
  | r _ => exact h.elim
  | c _ _ => exact h.elim
  | ev _ _ _ => exact h.elim
  | _ => cases ha
theorem canSet_arg {w : W} (ha : isArg w = true) : canSet w = true := by
  cases w <;> first | rfl | cases ha
theorem St.setA {G : Gd} {F H : Hp} {θ : Th} {S : Store} {env : En} {σ : L2.St} {fp f : List Addr} {w : W} {v : V} {i : Nat} (s : St G F θ H S env σ fp) (h : RW G F θ H w v f) (ha : isArg w = true) (hi : i < env.length) : ∃ fp', St G F θ H S (env.set i (some w)) (σ.set i (some v)) fp' ∧ ∀ a ∈ fp', a ∈ fp := by
  obtain ⟨fp', s2, h2⟩ := s.set (H0 := H) (Res.arg h ha) s.fpH hi (canSet_arg ha)
  exact ⟨fp', s2, fun a h3 => (h2 a h3).resolve_right (s2.fpH a h3)⟩
theorem bindW_slots {G : Gd} {F H : Hp} {θ : Th} {S : Store} {t : Tg} {ks : List Nat} {w : W} {v : V} {f : List Addr} {env env' : En} {σ : L2.St} {fp : List Addr} {Q : L2.St → Hp → Prop} (hk : ∀ i ∈ t.slots, i ∈ ks) (s : St G F θ H S env σ fp) (r : RW G F θ H w v f) (e : bindW t env w = some env')
    (k : ∀ σ' fp', St G F θ H S env' σ' fp' → (∀ a ∈ fp', a ∈ fp) → L2.wipe σ' ks = L2.wipe σ ks → Q σ' H) : gOf G.K t v σ H Q := by
  cases t with
  | nm i =>
    have e : (if i < env.length ∧ isArg w = true then some (env.set i (some w)) else none) = some env' := e
    split at e
    · rename_i hc
      cases e
      obtain ⟨fp', s2, h2⟩ := s.setA r hc.2 hc.1
      exact k _ fp' s2 h2 (wipe_idem (hk i (List.mem_cons_self ..)) _)
    · cases e
  | tup is =>
    cases w with
    | d x =>
      cases x with
      | tup xs => exact bindT_slots (t := .tup is) (x := .tup xs) hk s r.1 e k
      | _ => cases e
    | _ => cases e
  | pr i is =>
    cases w with
    | d x => exact bindT_slots (t := .pr i is) hk s r.1 e k
    | _ => cases e
def goForW (t : Tg) (body : MS) (src : Src) : Nat → Nat → MS
  | 0, _, _, _ => none
  | n + 1, i, env, S => (nxt S i src).bind fun o => match o with
    | none => some (.nx, env, S)
    | some w => (bindW t env w).bind fun env1 => (body env1 S).bind fun p => match p.1 with
      | .nx => goForW t body src n (i + 1) p.2.1 p.2.2
      | .cont => goForW t body src n (i + 1) p.2.1 p.2.2
      | .brk => some (.nx, p.2.1, p.2.2)
      | .ret w => some (.ret w, p.2.1, p.2.2)
      | .exc c x => some (.exc c x, p.2.1, p.2.2)
def mForW (mi : MIW) (t : Tg) (body : MS) : MS := fun env S => (mi env S).bind fun p => goForW t body p.1 (p.1.size p.2 + 1) 0 env p.2
section
variable {X : Cx} {G : Gd} {tg iter : Expr} {body : List Stmt} {mi : MIW} {t : Tg} {mb : MS} {pos : Pos}
theorem z_forW (hp : PassesOwn (model X.prog X.w) X.A X.env X.xe) (hi : PI X tg iter (tOfIW G mi)) (hg : PG X tg (gOf G.K t)) (hb : PSs X body (tOfS G mb)) (hc : X.calm = true := by rfl)
    (hs : ∀ x, foldedSetIterable iter X.env x = pure x := by intro _; rfl) : PS X (.For tg iter body [] pos) (tOfS G (mForW mi t mb)) := by
  refine ps_imp (ps_for hp hc hi hg hb hs) fun D σ H h => ?_
  obtain ⟨F, θ, S, env, fp, fl, envE, SE, s, e, k⟩ := h
  unfold mForW at e
  obtain ⟨⟨src, S1⟩, e1, e⟩ := Option.bind_eq_some_iff.mp e
  refine ⟨F, θ, S, env, fp, src, S1, s, e1, fun F1 θ1 H1 J t1 s1 run => ?_⟩
  refine ⟨fun i m σ' H' => ∃ F' θ' fp' env' S', TrS F θ H fp F' θ' H' fp' ∧ Le F1 F' ∧ ((∃ mm, θ' = θ1 ++ mm) ∧ Ln θ1 H1 H') ∧ St G F' θ' H' S' env' σ' fp' ∧ goForW t mb src m i env' S' = some (fl, envE, SE),
    ⟨_, F1, θ1, fp, env, S1, t1.toS fp, .refl _, ⟨⟨[], (List.append_nil _).symm⟩, ln_id⟩, s1, e⟩, ?_⟩
  rintro i m σ' H' ⟨F', θ', fp', env', S', ts, le, th, s', e'⟩
  cases m with
  | zero => cases e'
  | succ m =>
    unfold goForW at e'
    obtain ⟨o, e2, e'⟩ := Option.bind_eq_some_iff.mp e'
    obtain ⟨r1, r2⟩ := run i F' θ' H' S' le th.1 th.2 s'.sub s'.store
    cases o with
    | none =>
      left
      cases e'
      exact ⟨r2 e2, k F' θ' H' σ' fp' ts s'⟩
    | some w =>
      right
      dsimp only at e'
      obtain ⟨env1, e3, e'⟩ := Option.bind_eq_some_iff.mp e'
      obtain ⟨⟨f1, en2, S2⟩, e4, e'⟩ := Option.bind_eq_some_iff.mp e'
      obtain ⟨hA, go, yl⟩ := r1 w e2
      refine ⟨go, fun σ'' H'' => ∃ m', m' < m + 1 ∧ ∃ F' θ' fp' env' S', TrS F θ H fp F' θ' H'' fp' ∧ Le F1 F' ∧ ((∃ mm, θ' = θ1 ++ mm) ∧ Ln θ1 H1 H'') ∧ St G F' θ' H'' S' env' σ'' fp' ∧ goForW t mb src m' (i + 1) env' S' = some (fl, envE, SE), fun σ'' H'' q => q, fun x H3 y => ?_⟩
      obtain ⟨F3, g, rx⟩ := yl x H3 y
      have s3 := s'.grow g
      refine bindW_slots (ks := t.slots) (fun _ h => h) s3 rx e3 fun σ4 fp4 s4 h4 _ => ?_
      refine ⟨F3, θ', S', env1, fp4, f1, en2, S2, s4, e4, fun F5 θ5 H5 σ5 fp5 t5 s5 => ?_⟩
      have tt : TrS F θ H fp F5 θ5 H5 fp5 := ts.trans ((g.toS θ' fp').trans ((TrS.fpSub h4).trans t5))
      have lee : Le F1 F5 := le.trans ((Le.of g.f).trans t5.le)
      have thh : (∃ mm, θ5 = θ1 ++ mm) ∧ Ln θ1 H1 H5 := by
        have l2 := (th.2.trans (g.toS θ' fp').ln th.1).trans t5.ln th.1
        obtain ⟨m1, rfl⟩ := th.1
        obtain ⟨m2, rfl⟩ := t5.th
        exact ⟨⟨m1 ++ m2, List.append_assoc ..⟩, l2⟩
      cases f1 with
      | nx => exact ⟨m, Nat.lt_succ_self m, F5, θ5, fp5, en2, S2, tt, lee, thh, s5, e'⟩
      | cont => exact ⟨m, Nat.lt_succ_self m, F5, θ5, fp5, en2, S2, tt, lee, thh, s5, e'⟩
      | brk =>
        cases e'
        exact k F5 θ5 H5 σ5 fp5 tt s5
      | exc c x =>
        cases e'
        intro d y q1 q2 q3 q4 q5 q6
        refine k F5 θ5 H5 σ5 fp5 tt s5 d y q1 q2 q3 q4 q5 (q6.elim (fun z => ts.newP d (h4 d z)) fun z => .inr (ts.back ?_))
        cases q : H' d with
        | none => rfl
        | some u =>
          rw [g.h d u q] at z
          cases z
      | ret w =>
        cases e'
        intro v f r
        exact k F5 θ5 H5 σ5 fp5 tt s5 v f ⟨r.rw, r.nd, r.ap, fun a ha => by
          rcases r.src a ha with z | z
          · exact ts.newP a (h4 a z)
          · refine .inr (ts.back ?_)
            cases q : H' a with
            | none => rfl
            | some u =>
              rw [g.h a u q] at z
              cases z⟩
end
def goLcW (t : Tg) (mt : MT) (me : ME) (ew : En) (src : Src) : Nat → Nat → Store → List W → Option (List W × Store)
  | 0, _, _, _ => none
  | n + 1, i, S, acc => (nxt S i src).bind fun o => match o with
    | none => some (acc, S)
    | some w => (bindW t ew w).bind fun env1 => (mt env1 S).bind fun p => if p.1 = true then
        (me env1 p.2).bind fun q => if isArg q.1 = true ∧ acc.length < cap then goLcW t mt me ew src n (i + 1) q.2 (acc ++ [q.1]) else none
      else goLcW t mt me ew src n (i + 1) p.2 acc
def mLcW (mi : MIW) (t : Tg) (mt : MT) (me : ME) (vs : List Nat) : ME := fun env S => (mi env S).bind fun p => (goLcW t mt me (wipeE env vs) p.1 (p.1.size p.2 + 1) 0 p.2 []).map fun q => (.own q.1, q.2)
theorem lcW_reads {G : Gd} {mi : MIW} {t : Tg} {mt : MT} {me : ME} {vs : List Nat} (hk : ∀ i ∈ t.slots, i ∈ vs) {σ : L2.St} {H : Hp} {Q : VK} (h : tOf G (mLcW mi t mt me vs) σ H Q) : tLc (tOfIW G mi) (gOf G.K t) (tOfT G mt) (tOf G me) vs σ H Q := by
  obtain ⟨F, θ, S, env, fp, w, SE, s, e, k⟩ := h
  unfold mLcW at e
  obtain ⟨⟨src, S1⟩, e1, e⟩ := Option.bind_eq_some_iff.mp e
  obtain ⟨⟨res, SE'⟩, e2, e3⟩ := Option.map_eq_some_iff.mp e
  cases e3
  refine ⟨F, θ, S, env, fp, src, S1, s, e1, fun F1 θ1 H1 J t1 s1 run Da hD => ?_⟩
  obtain ⟨fpw, sw, hw⟩ := s1.wipe vs
  obtain ⟨_, _, fD, tD, _⟩ := s1.new0 hD (.lst [])
  have pD : Da ∉ fpw := fun z => sw.fpH Da z hD
  refine ⟨fun i m H' => ∃ acc S' F' θ' fpw us, Tr F1 θ1 H1 F' θ' H' ∧ St G F' θ' H' S' (wipeE env vs) (L2.wipe σ vs) fpw ∧ F' Da = none ∧ Da ∉ θ' ∧ Da ∉ fpw ∧ H' Da = some (.lst us) ∧ RWs G F' θ' H' acc us [] ∧
      goLcW t mt me (wipeE env vs) src m i S' acc = some (res, SE'), ⟨_, [], S1, F1, θ1, fpw, [], ?_, sw.hid _ fD tD pD, fD, tD, pD, upd_same, ⟨rfl, rfl⟩, e2⟩, ?_⟩
  · exact (s1.new0 hD _).1
  · rintro i m H' ⟨acc, S', F', θ', fpw', us, tr, sw', fD', tD', pD', hD', rs, e4⟩
    cases m with
    | zero => cases e4
    | succ m =>
      unfold goLcW at e4
      obtain ⟨o, e5, e4⟩ := Option.bind_eq_some_iff.mp e4
      obtain ⟨r1, r2⟩ := run i F' θ' H' S' tr.le tr.th tr.ln sw'.sub sw'.store
      cases o with
      | none =>
        left
        cases e4
        refine ⟨r2 e5, k F' θ' H' (.ref Da) [Da] (t1.trans tr) (s1.step tr sw'.sub sw'.store) ⟨⟨Da, us, [], rfl, hD', rs, rfl⟩, by simp, fun a ha => ?_, fun a ha => .inr ?_, fun _ a ha => ?_⟩⟩
        · rw [List.mem_singleton.mp ha]
          exact ⟨fD', tD'⟩
        · rw [List.mem_singleton.mp ha]
          exact t1.back hD
        · rw [List.mem_singleton.mp ha]
          exact t1.back hD
      | some w =>
        right
        dsimp only at e4
        obtain ⟨env1, e6, e4⟩ := Option.bind_eq_some_iff.mp e4
        obtain ⟨⟨b, S2⟩, e7, e4⟩ := Option.bind_eq_some_iff.mp e4
        obtain ⟨_, go, yl⟩ := r1 w e5
        refine ⟨go, fun H'' => ∃ m', m' < m + 1 ∧ ∃ acc S' F' θ' fpw us, Tr F1 θ1 H1 F' θ' H'' ∧ St G F' θ' H'' S' (wipeE env vs) (L2.wipe σ vs) fpw ∧ F' Da = none ∧ Da ∉ θ' ∧ Da ∉ fpw ∧ H'' Da = some (.lst us) ∧ RWs G F' θ' H'' acc us [] ∧
          goLcW t mt me (wipeE env vs) src m' (i + 1) S' acc = some (res, SE'), fun _ q => q, fun x H3 y => ?_⟩
        obtain ⟨F3, g, rx⟩ := yl x H3 y
        have t3 := g.tr θ'
        have s3 := sw'.grow g
        have keepD : ∀ {Fa Ha : Hp} {θa : Th}, Tr F' θ' H' Fa θa Ha → Fa Da = none ∧ Da ∉ θa ∧ Ha Da = some (.lst us) := fun {Fa Ha θa} tt => by
          refine ⟨?_, fun z => ?_, tt.keep Da _ tD' hD'⟩
          · cases q : Fa Da with
            | none => rfl
            | some u =>
              rcases tt.newF Da fD' (by rw [q]; exact fun z => by cases z) with z | ⟨_, ws, z⟩ <;> (rw [hD'] at z; cases z)
          · have z2 := tt.newT Da z tD'
            rw [hD'] at z2
            cases z2
        refine bindW_slots hk s3 rx e6 fun σ4 fp4 s4 h4 hw4 => ?_
        refine ⟨by rw [hw4, wipe_wipe], F3, θ', S', env1, fp4, b, S2, s4, e7, fun F5 θ5 H5 t5 s5 => ?_⟩
        have tt5 := t3.trans t5
        cases b with
        | false =>
          obtain ⟨k1, k2, k3⟩ := keepD tt5
          exact ⟨m, Nat.lt_succ_self m, acc, S2, F5, θ5, fpw', us, tr.trans tt5, sw'.step tt5 s5.sub s5.store, k1, k2, pD', k3, RWs.mono tt5 _ _ _ (fun _ h => absurd h (by simp)) rs, e4⟩
        | true =>
          simp only [if_true] at e4
          obtain ⟨⟨y, S6⟩, e8, e4⟩ := Option.bind_eq_some_iff.mp e4
          dsimp only at e4
          split at e4
          · rename_i hc
            refine ⟨F5, θ5, S2, env1, fp4, _, S6, s5, e8, fun F6 θ6 H6 v f t6 s6 r6 => ?_⟩
            have tt6 := tt5.trans t6
            obtain ⟨k1, k2, k3⟩ := keepD tt6
            have rs6 := RWs.mono tt6 _ _ _ (fun _ h => absurd h (by simp)) rs
            have st6 := sw'.step tt6 s6.sub s6.store
            have ry := (Res.arg (H0 := H6) (fp := []) r6.rw hc.1).rw
            have th : ∀ (n : Nat) b, θ6[n]? = some b → θ6[n]? = some b := fun _ _ h => h
            refine ⟨us, k3, by rw [rs.len]; exact cap_lt hc.2, m, Nat.lt_succ_self m, acc ++ [y], S6, F6, θ6, fpw', us ++ [v], ?_, st6.hid _ k1 k2 pD', k1, k2, pD', upd_same, RWs.move (.refl F6) th (ln_upd k2) _ _ _ (fun _ h => absurd h (by simp)) (RWs.app rs6 ⟨v, [], [], [], rfl, ry, ⟨rfl, rfl⟩, rfl⟩), e4⟩
            have t16 := tr.trans tt6
            refine ⟨t16.le, t16.th, t16.newF, t16.newT, fun a u h1 h2 => ?_, fun a u h1 => ?_⟩
            · rw [upd_ne (ne_of_none h2 hD)]
              exact t16.keep a u h1 h2
            · obtain ⟨u', h', k'⟩ := t16.live a u h1
              exact ⟨u', by rw [upd_ne (ne_of_none h1 hD)]; exact h', k'⟩
          · cases e4
section
variable {X : Cx} {G : Gd} {elt tg iter : Expr} {ifs : List Expr} {scope : Scope} {own : List (Str × Nat)} {pos : Pos} {mi : MIW} {t : Tg} {mt : MT} {me : ME}
theorem z_lcW (hN : X.N.Nodup) (hi : PI X tg iter (tOfIW G mi)) (ok : BlkOk X.N X.env.scope scope own)
    (hg : ∀ (s : Shared) (H : Hp) (C : Addr) (cl : List (Str × Addr)) (fp : List Addr), PG (X.blk s H scope (PySem.compEnvC scope cl C X.env) fp) tg (gOf G.K t))
    (ht : ∀ (s : Shared) (H : Hp) (C : Addr) (cl : List (Str × Addr)) (fp : List Addr), PTs (X.blk s H scope (PySem.compEnvC scope cl C X.env) fp) ifs (tOfT G mt))
    (he : ∀ (s : Shared) (H : Hp) (C : Addr) (cl : List (Str × Addr)) (fp : List Addr), PE (X.blk s H scope (PySem.compEnvC scope cl C X.env) fp) elt (tOf G me))
    (hk : ∀ i ∈ t.slots, i ∈ own.map (·.2) := by decide) (hc : X.calm = true := by rfl) (hs : ∀ x, foldedSetIterable iter X.env x = pure x := by intro _; rfl) : PE X (.ListComp elt [⟨tg, iter, ifs, 0⟩] scope pos) (tOf G (mLcW mi t mt me (own.map (·.2)))) :=
  pe_imp (pe_lc hc hN hi ok hg ht he hs) fun _ _ _ h => lcW_reads hk h
end
section
variable {fa : List He.Fa} {fn : List He.DefD} {ts : List He.Tab} {eb : Eb} {w : World} {K : PySem.W.Frag}
end
theorem sysB_ok {K : PySem.W.Frag} (h : sysB K = true) : SysK K := by
  unfold sysB at h
  split at h
  · rename_i o e
    exact ⟨o, e, of_decide_eq_true h⟩
  · cases h
section
variable {fa : List He.Fa} {fn : List He.DefD} {ts : List He.Tab} {eb : Eb} {G : Gd} {mg : Str → Option Value} {base : Heap}
end
theorem tOf_frz {G : Gd} {m : ME} {σ : L2.St} {H : Hp} {Q : VK} (h : tOf G (mFrzE m) σ H Q) : tOf G m σ H Q := by
  obtain ⟨F, θ, S, env, fp, w, S', st, e, k⟩ := h
  unfold mFrzE at e
  obtain ⟨⟨x, S1⟩, e1, e⟩ := Option.bind_eq_some_iff.mp e
  dsimp only at e
  split at e
  · rename_i xs
    obtain ⟨ds, e2, e3⟩ := Option.map_eq_some_iff.mp e
    cases e3
    refine ⟨F, θ, S, env, fp, _, _, st, e1, fun F1 θ1 H1 v f t1 s1 r => ?_⟩
    obtain ⟨a, vs, fs, h1, h2, h3, h4⟩ := r.rw
    have ma : a ∈ f := by
      rw [h4]
      exact List.mem_cons_self
    obtain ⟨fa, ta⟩ := r.ap a ma
    have h0 := r.own trivial a ma
    have le : Le F1 (upd F1 a (.lst vs)) := Le.of fun b u e => by
      rw [upd_ne (ne_of_none e fa)]
      exact e
    have sub : ∀ b u, upd F1 a (.lst vs) b = some u → H1 b = some u := fun b u e => by
      by_cases z : b = a
      · rw [z, upd_same] at e
        rw [z, h2, ← e]
      · rw [upd_ne z] at e
        exact s1.sub b u e
    have nf : ∀ b, b ≠ a → F1 b = none → upd F1 a (.lst vs) b = none := fun b hb e => by
      rw [upd_ne hb]
      exact e
    refine k (upd F1 a (.lst vs)) θ1 H1 v [] ⟨t1.le.trans le, t1.th, fun b g1 g2 => ?_, t1.newT, t1.keep, t1.live⟩ ⟨sub, s1.store.move le (fun b hb e => nf b (fun z => ta (z ▸ hb)) e) fun _ _ _ h => h, RE.move le (fun _ _ h => h) ln_id env σ fp (fun _ _ _ h => h) s1.env, s1.nd, fun b hb => ⟨nf b (fun z => st.fpH b hb (z ▸ h0)) (s1.apart b hb).1, (s1.apart b hb).2⟩⟩
      (.d ⟨a, vs, h1, upd_same, Rs.mono le _ _ (h3.toD e2)⟩)
    by_cases z : b = a
    · rw [z]
      exact .inl h0
    · rw [upd_ne z] at g2
      exact t1.newF b g1 g2
  · cases e
theorem z_frzE {X : Cx} {G : Gd} {e : Expr} {m : ME} (h : PE X e (tOf G m)) : PE X e (tOf G (mFrzE m)) := pe_imp h fun _ _ _ q => tOf_frz q
section
variable {X : Cx} {G : Gd} {a b e : Expr} {ma mb mc : ME} {pos apos cpos : Pos} {k : Nat}
end
section
variable {G : Gd}
def tKeep (t : TE) : TE := fun σ H Q => t σ H fun v H1 => ∃ d u, H1 d = some u ∧ Mut (some u) ∧ ∀ od, Q v (upd H1 d (.frz od u))
theorem pe_keep {X : Cx} {e : Expr} {t : TE} (h : PE X e t) : PE X e (tKeep t) := ⟨fun pins s σ H Q I hw => by
  refine thn (h.run pins s σ H _ I hw) fun v s1 ⟨x, H1, I2, r, d, u, e, mu, q⟩ => ?_
  obtain ⟨od, I3⟩ := I2.lock e mu
  exact ⟨x, _, I3, r, q od⟩⟩
end
theorem fresh_back {H0 H : Hp} (l : ∀ a u, H0 a = some u → ∃ u', H a = some u') {p : Addr} (hp : H p = none) : H0 p = none := by
  cases q : H0 p with
  | none => rfl
  | some u =>
    obtain ⟨u', hu⟩ := l p u q
    rw [hp] at hu
    cases hu
end Zf
set_option maxHeartbeats 4000000
set_option maxHeartbeats 2000000
namespace Zf
open PySem PySem.Spec PyProof.Rows L2
def gAddO : Op2 := fun S x y => (vL S x).bind fun xs => (vL S y).bind fun ys => if xs.all isArg = true ∧ ys.all isArg = true ∧ xs.length + ys.length ≤ cap then some (.own (xs ++ ys)) else none
theorem sim_addO {G : Gd} : Sim2 G rCat gAddO := by
  refine ⟨fun {F θ H0 H S env σ fp x y vx vy fx fy z Q} st rx ry e l k => ?_⟩
  unfold gAddO at e
  obtain ⟨xs, e1, e⟩ := Option.bind_eq_some_iff.mp e
  obtain ⟨ys, e2, e⟩ := Option.bind_eq_some_iff.mp e
  split at e
  · rename_i h
    cases e
    obtain ⟨a, vs, f1, h1, h2, h3, _⟩ := vL_ok st rx e1
    obtain ⟨b, us, f2, h4, h5, h6, _⟩ := vL_ok st ry e2
    rw [h3.argNil h.1] at h3
    rw [h6.argNil h.2.1] at h6
    refine ⟨a, b, vs, us, h1, h4, h2, h5, by rw [h3.len, h6.len]; exact cap_ok h.2.2, fun p hp => ?_⟩
    obtain ⟨t, s, _⟩ := st.new0 hp (.lst (vs ++ us))
    exact k _ _ _ _ [p] t s (Res.newO st hp (fresh_back l hp) (h3.app h6))
  · cases e
theorem z_addO {X : Cx} {G : Gd} {a b : Expr} {ma mb : ME} {pos : Pos} (ha : PE X a (tOf G ma)) (hb : PE X b (tOf G mb)) : PE X (.BinOp a .Add b pos) (tOf G (mBin gAddO ma mb)) := z_bin op_cat sim_addO ha hb
end Zf
set_option maxHeartbeats 4000000
namespace Zf
open PySem PySem.Spec PyProof.Rows L2
section
variable {env : En} {S : Store} {P : W → Store → Prop} {PT : Bool → Store → Prop} {PA : List W → Store → Prop} {PI : List D → Store → Prop} {PS : Fl → En → Store → Prop} {ma mb mc : ME} {t u : MT} {ms : MA} {a b : MS} {g : Op2} {i : Nat} {d : D}
end
section
variable {env : En} {S : Store} {P : W → Store → Prop} {PT : Bool → Store → Prop} {PA : List W → Store → Prop} {PI : List D → Store → Prop} {PO : Option Int → Store → Prop} {PS : Fl → En → Store → Prop} {ma mb mc : ME} {t u : MT} {ms : MA} {a b : MS} {g : Op2} {i : Nat} {d : D} {l h : MO} {mi : MI}
theorem wp_forNil {t : Tg} : OkS (goFor t a [] env S) PS ↔ PS .nx env S := ⟨fun ⟨r, e, h⟩ => by cases e; exact h, fun h => ⟨_, rfl, h⟩⟩
theorem wp_forCons {t : Tg} {x : D} {xs : List D} : OkS (goFor t a (x :: xs) env S) PS ↔ ∃ env1, bindT t env x = some env1 ∧ OkS (a env1 S) fun f e S' => match f with
    | .nx => OkS (goFor t a xs e S') PS
    | .cont => OkS (goFor t a xs e S') PS
    | .brk => PS .nx e S'
    | .ret w => PS (.ret w) e S'
    | .exc c x => PS (.exc c x) e S' := by
  unfold OkS
  constructor
  · rintro ⟨r, e, hh⟩
    unfold goFor at e
    obtain ⟨env1, e1, e⟩ := Option.bind_eq_some_iff.mp e
    obtain ⟨⟨f, en, S1⟩, e2, e⟩ := Option.bind_eq_some_iff.mp e
    refine ⟨env1, e1, _, e2, ?_⟩
    cases f with
    | nx => exact ⟨r, e, hh⟩
    | cont => exact ⟨r, e, hh⟩
    | brk =>
      cases e
      exact hh
    | ret w =>
      cases e
      exact hh
    | exc _ _ =>
      cases e
      exact hh
  · rintro ⟨env1, e1, ⟨f, en, S1⟩, e2, hh⟩
    unfold goFor
    rw [e1]
    simp only [Option.bind_some]
    rw [e2]
    cases f with
    | nx => exact hh
    | cont => exact hh
    | brk => exact ⟨_, rfl, hh⟩
    | ret w => exact ⟨_, rfl, hh⟩
    | exc _ _ => exact ⟨_, rfl, hh⟩
theorem wp_lcCons {tg : Tg} {ew : En} {x : D} {xs acc : List D} : OkI (goLc tg t ma ew (x :: xs) S acc) PI ↔ ∃ env1, bindT tg ew x = some env1 ∧ OkT (t env1 S) fun k S1 => if k = true then OkE (ma env1 S1) (fun w S2 => ∃ y, w = .d y ∧ acc.length < cap ∧ OkI (goLc tg t ma ew xs S2 (acc ++ [y])) PI) else OkI (goLc tg t ma ew xs S1 acc) PI := by
  unfold OkI OkT OkE
  constructor
  · rintro ⟨r, e, hh⟩
    unfold goLc at e
    obtain ⟨env1, e1, e⟩ := Option.bind_eq_some_iff.mp e
    obtain ⟨p, e2, e⟩ := Option.bind_eq_some_iff.mp e
    refine ⟨env1, e1, p, e2, ?_⟩
    split at e
    · rename_i hk
      rw [if_pos hk]
      obtain ⟨q, e3, e⟩ := Option.bind_eq_some_iff.mp e
      split at e
      · rename_i y hy
        split at e
        · rename_i hc
          exact ⟨q, e3, y, hy, hc, r, e, hh⟩
        · cases e
      · cases e
    · rename_i hk
      rw [if_neg hk]
      exact ⟨r, e, hh⟩
  · rintro ⟨env1, e1, p, e2, hh⟩
    unfold goLc
    rw [e1]
    simp only [Option.bind_some]
    rw [e2]
    simp only [Option.bind_some]
    split at hh
    · rename_i hk
      obtain ⟨q, e3, y, hy, hc, r, e, hh⟩ := hh
      rw [if_pos hk, e3]
      simp only [Option.bind_some]
      rw [hy]
      simp only []
      rw [if_pos hc]
      exact ⟨r, e, hh⟩
    · rename_i hk
      rw [if_neg hk]
      exact hh
end
section
variable {S : Store} {i j : Int} {x y : Str} {d : D} {ds : List D} {n : Nat}
theorem v_mul (h : cMul i j = true) : gMul S (.d (.int i)) (.d (.int j)) = some (.d (.int (i * j))) := by simp [gMul, gInt, h]
theorem vL_lst : vL S (.d (.lst ds)) = some (ds.map .d) := rfl
theorem ixN_nat {k : Nat} {m : Nat} (h : k < m) : ixN m (k : Int) = some k := by
  unfold ixN
  rw [if_pos (by omega), if_pos (by omega)]
  simp
theorem v_ixR {l : List W} {k : Nat} {w : W} (h : S[n]? = some l) (hw : l[k]? = some w) : gIx S (.r n) (.d (.int k)) = some (toBor w) := by
  simp [gIx, vT, vL, h, atI, ixN_nat (List.getElem?_eq_some_iff.mp hw).1, hw]
theorem v_ixL {k : Nat} (h : ds[k]? = some d) : gIx S (.d (.lst ds)) (.d (.int k)) = some (.d d) := by
  simp [gIx, vT, vL, atI, ixN_nat (List.getElem?_eq_some_iff.mp h).1, h, toBor]
theorem v_ixT {k : Nat} (h : ds[k]? = some d) : gIx S (.d (.tup ds)) (.d (.int k)) = some (.d d) := by
  simp [gIx, vT, atI, ixN_nat (List.getElem?_eq_some_iff.mp h).1, h]
end
section
variable {env : En} {S : Store} {P : W → Store → Prop} {PT : Bool → Store → Prop} {PA : List W → Store → Prop} {PI : List D → Store → Prop} {PS : Fl → En → Store → Prop} {ma mb mc : ME} {t u : MT} {ms : MA} {a b : MS} {i : Nat} {g : Store → List W → List W → Option (List W)}
end
end Zf
local macro_rules | `(tactic| decreasing_with trivial) => `(tactic| (simp only [Zf.wp_d, Zf.wp_var, Zf.wp_bin, Zf.wp_tst, Zf.wp_andT, Zf.wp_orT, Zf.wp_notT, Zf.wp_if, Zf.wp_nil, Zf.wp_cons, Zf.wp_call, Zf.wp_cb, Zf.wp_seq, Zf.wp_next, Zf.wp_ifS, Zf.wp_set, Zf.wp_ret, Zf.wp_setIx, Zf.wp_fn, Zf.wp_frzE, Zf.wp_pubE, Zf.wp_lst, Zf.wp_tup, Zf.wp_lstO, Zf.wp_andV, Zf.wp_noPart, Zf.wp_part, Zf.wp_sl, Zf.wp_par, Zf.wp_unp, Zf.wp_seqI, Zf.wp_rng1, Zf.wp_for, Zf.wp_lc, Zf.wp_yes, Zf.wp_mutE, Zf.wp_neg, Zf.wp_inK, Zf.wp_isi, Zf.wp_isi2, Zf.wp_star, Zf.wp_dix, Zf.wp_dget2, Zf.wp_maxD, Zf.wp_enum, Zf.wp_zip, Zf.wp_dictZip]))
local macro_rules | `(tactic| decreasing_with rfl) => `(tactic| (try simp only [Zf.v_int, Zf.v_addI, Zf.v_ltI, Zf.v_leI, Zf.v_gtI, Zf.v_geI, Zf.v_eqI, Zf.v_neI, Zf.v_eqS, Zf.v_neS, Zf.v_int1, Zf.v_int1b, Zf.v_abs, Zf.v_lenL, Zf.v_lenT, Zf.v_lenB, Zf.v_listL, Zf.v_listT, Zf.toBor_d, Zf.toBor_r, Zf.toBor_own, Zf.unBor_d, Zf.unBor_r, Zf.unBor_bor, Zf.unBor_own, Zf.isArg_d, Zf.isArg_r, Zf.canSet_d, Zf.canSet_r, Zf.canSet_own, Option.some.injEq, exists_eq_left', exists_eq_left, List.getElem?_cons_zero, List.getElem?_cons_succ, List.length_cons, List.length_nil, List.map_cons, List.map_nil, List.all_cons, List.all_nil, Bool.and_true, and_self, true_and, List.cons_append, List.nil_append, List.replicate, Nat.reduceSub, Nat.reduceLT, Nat.reduceAdd, List.set_cons_zero, List.set_cons_succ, Zf.W.d.injEq, Zf.D.bl.injEq, Zf.D.int.injEq, Zf.D.str.injEq]))
local macro_rules | `(tactic| decreasing_with trivial) => `(tactic| (simp only [Zf.wp_d, Zf.wp_var, Zf.wp_bin, Zf.wp_tst, Zf.wp_andT, Zf.wp_orT, Zf.wp_notT, Zf.wp_if, Zf.wp_nil, Zf.wp_cons, Zf.wp_call, Zf.wp_cb, Zf.wp_seq, Zf.wp_next, Zf.wp_ifS, Zf.wp_set, Zf.wp_ret, Zf.wp_setIx, Zf.wp_fn, Zf.wp_frzE, Zf.wp_pubE, Zf.wp_lst, Zf.wp_tup, Zf.wp_lstO, Zf.wp_andV, Zf.wp_noPart, Zf.wp_part, Zf.wp_sl, Zf.wp_par, Zf.wp_unp, Zf.wp_seqI, Zf.wp_rng1, Zf.wp_for, Zf.wp_lc, Zf.wp_yes, Zf.wp_mutE, Zf.wp_neg, Zf.wp_inK, Zf.wp_isi, Zf.wp_isi2, Zf.wp_star, Zf.wp_dix, Zf.wp_dget2, Zf.wp_maxD, Zf.wp_enum, Zf.wp_zip, Zf.wp_dictZip]))
local macro_rules | `(tactic| decreasing_with rfl) => `(tactic| (try simp only [Zf.v_int, Zf.v_addI, Zf.v_ltI, Zf.v_leI, Zf.v_gtI, Zf.v_geI, Zf.v_eqI, Zf.v_neI, Zf.v_eqS, Zf.v_neS, Zf.v_int1, Zf.v_int1b, Zf.v_abs, Zf.v_lenL, Zf.v_lenT, Zf.v_lenB, Zf.v_listL, Zf.v_listT, Zf.toBor_d, Zf.toBor_r, Zf.toBor_own, Zf.unBor_d, Zf.unBor_r, Zf.unBor_bor, Zf.unBor_own, Zf.isArg_d, Zf.isArg_r, Zf.canSet_d, Zf.canSet_r, Zf.canSet_own, Option.some.injEq, exists_eq_left', exists_eq_left, List.getElem?_cons_zero, List.getElem?_cons_succ, List.length_cons, List.length_nil, List.map_cons, List.map_nil, List.all_cons, List.all_nil, Bool.and_true, and_self, true_and, List.cons_append, List.nil_append, List.replicate, Nat.reduceSub, Nat.reduceLT, Nat.reduceAdd, List.set_cons_zero, List.set_cons_succ, Zf.W.d.injEq, Zf.D.bl.injEq, Zf.D.int.injEq, Zf.D.str.injEq]))
set_option maxHeartbeats 2000000
namespace Zf
open PySem PySem.Spec PyProof.Rows L2
def mChain (g g' : Op2) (a b c : ME) : ME := fun env S => (a env S).bind fun p => (b env p.2).bind fun q => (g q.2 p.1 q.1).bind fun z => match z with
  | .d (.bl true) => (c env q.2).bind fun r => (g' r.2 q.1 r.1).map fun w => (w, r.2)
  | .d (.bl false) => some (.d (.bl false), q.2)
  | _ => none
end Zf
set_option maxHeartbeats 4000000
set_option maxHeartbeats 2000000
namespace Zf
open PySem PySem.Spec PyProof.Rows L2
structure InsOk (G : Gd) (n : Nat) : Prop where
  kd : ∀ c, c < n → (G.slt c = [] ∧ Cls G.K (G.cls c)) ∨ (G.slt c ≠ [] ∧ SlX.SCls G.K (G.cls c))
  ok : ∀ c < n, PySem.W.findIn G.K (.ref (G.cls c)) "__class__" = some (some (.builtin "object.__class__")) ∧ PySem.W.specialIn G.K (.builtin "object.__class__") "__get__" = some (some (.builtin "getset_descriptor.__get__")) ∧ PySem.W.takesIn G.K (.builtin "object.__class__") = some true ∧
    PySem.W.mroIn G.K (G.cls c) (.type "object") = some true ∧ ∀ T ∈ asked, PySem.W.kitOne G.K (.ref (G.cls c)) (.type T) = some false
def mIsiC (n : Nat) (T : String) (m : ME) : ME := fun env S => (m env S).bind fun p => if asked.contains T = true then match p.1 with
  | .d (.ins c _) => if c < n then some (.d (.bl false), p.2) else none
  | w => (tyD p.2 w).map fun t => (.d (.bl (isTy t T)), p.2) else none
def mIsi2C (n : Nat) (T T' : String) (m : ME) : ME := fun env S => (m env S).bind fun p => if asked.contains T = true ∧ asked.contains T' = true then match p.1 with
  | .d (.ins c _) => if c < n then some (.d (.bl false), p.2) else none
  | w => (tyD p.2 w).map fun t => (.d (.bl (isTy t T || isTy t T')), p.2) else none
section
open PySem.W
variable {prog : Program} {w : World} {A : Around} {E : Value → Shared → Prop} {s : Shared} {K : PySem.W.Frag} {x D : Addr} {ox od : Obj}
theorem kin_classS {Q : Option Value → Shared → Prop} (hg : plainGet K D "__class__" = true) (hcl : isClsIn K D = true) (ha : findIn K (.ref D) "__class__" = some (some (.builtin "object.__class__")))
    (hn : specialIn K (.builtin "object.__class__") "__get__" = some (some (.builtin "getset_descriptor.__get__"))) (htk : takesIn K (.builtin "object.__class__") = some true) (hm : mroIn K D (.type "object") = some true)
    (X : K.In s.heap) (I : InstAt s.heap x ox D (some od)) (h : Q (some (.ref D)) { s with toks := s.toks + 1 }) : wpAny (model prog w) A (getAttr? (.ref x) "__class__") Q E s := by
  have hf : findObj K D (some od) "__class__" = some (.bind (.builtin "getset_descriptor.__get__") (.builtin "object.__class__")) := findObj_data hcl ha hn htk
  exact kin_open X I (plainGet_of hg).1 (kin_hooked (s := { s with toks := s.toks + 1 }) X I hf (plainGet_of hg).2
    (wpAny_call (class_get (s := { s with toks := s.toks + 1 }) (ox := ox) (od := some od) X I hm (handed_on rfl h))))
theorem kitx_ownS (hg : plainGet K D "__class__" = true) (hcl : isClsIn K D = true) (ha : findIn K (.ref D) "__class__" = some (some (.builtin "object.__class__")))
    (hn : specialIn K (.builtin "object.__class__") "__get__" = some (some (.builtin "getset_descriptor.__get__"))) (htk : takesIn K (.builtin "object.__class__") = some true) (hm : mroIn K D (.type "object") = some true) :
    KitX K (.ref x) (.ref D) (fun h => InstAt h x ox D (some od)) where
  ty := fun _ _ _ I => I.type
  it := fun _ _ X _ => by
    unfold isClsIn clsIn at hcl
    split at hcl
    · rename_i c' d' cd' sl' ho
      intro A' Q' E' s' k q
      unfold isType loadHead
      exact wpAny_bind (wpAny_loadPart (k _ _ (X _ _ ho)) (wpAny_pure q))
    · cases hcl
  ne := fun h tp dd its n sl X htp => by
    refine Bool.eq_false_iff.mpr fun q => ?_
    have e : D = tp := Value.ref.inj (beq_iff_eq.mp q)
    subst e
    unfold isClsIn clsIn at hcl
    split at hcl
    · rename_i c' d' cd' sl' ho
      have z := (X _ _ ho).symm.trans htp
      cases z
    · cases hcl
  ca := fun X I k => kin_classS hg hcl ha hn htk hm X I k
end
def TyS (K : PySem.W.Frag) (H : Hp) (v : V) (t : Value) : Prop := ∃ (a C dx : Addr) (vs : List (Option V)), v = .ref a ∧ t = .ref C ∧ SlX.Slt H a C dx vs ∧ SlX.SCls K C ∧ PySem.W.findIn K (.ref C) "__class__" = some (some (.builtin "object.__class__")) ∧ PySem.W.specialIn K (.builtin "object.__class__") "__get__" = some (some (.builtin "getset_descriptor.__get__")) ∧ PySem.W.takesIn K (.builtin "object.__class__") = some true ∧ PySem.W.mroIn K C (.type "object") = some true
def TyZ (K : PySem.W.Frag) (H : Hp) (v : V) (t : Value) : Prop := TyX K H v t ∨ TyS K H v t
theorem kit_ofZ {X : Cx} {pins : List (Addr × Obj)} {σ : L2.St} {H : Hp} {s : Shared} {x : V} {u t : Value} (I : Inv X pins σ H s) (rx : RelV x u) (ty : TyZ X.K H x t) : ∃ P : Heap → Prop, PySem.W.KitX X.K u t P ∧ P s.heap ∧ u ≠ .builtin "__main__.__loader__#opaque" := by
  rcases ty with ty | ⟨a, C, dx, vs, rfl, rfl, hs, cl, q2, q3, q4, q5⟩
  · exact kit_of I rx ty
  · obtain rfl : u = Value.ref a := rx
    obtain ⟨sl, od, r, J, _⟩ := SlX.slt_inst I hs
    exact ⟨_, kitx_ownS (cl.get _) cl.ic q2 q3 q4 q5, J, fun z => nomatch z⟩
def rIsiZ (K : PySem.W.Frag) : List V → Hp → VK → Prop := fun xs H Q => ∃ (x c : V) (t u : Value) (b : Bool), xs = [x, c] ∧ ClsV c u ∧ TyZ K H x t ∧ PySem.W.kitOne K t u = some b ∧ Q (.bl b) H
theorem call_isiZ {X : Cx} : CallR X (.builtin "isinstance") (rIsiZ X.K) := by
  intro pins s σ H xs us Q I r h
  obtain ⟨x, c, t, u, b, rfl, k, ty, e, q⟩ := h
  obtain ⟨u1, u2, rfl, r1, r2⟩ := vals2 r
  have e2 := k.eq r2
  subst e2
  obtain ⟨P, Z, p, hx⟩ := kit_ofZ I r1 ty
  exact PySem.W.kia_one Z I.kIn p e hx fun tk => ⟨.bl b, H, I.tok tk, rfl, q⟩
theorem InsOk.ty {G : Gd} {n c : Nat} {fs : List (Str × D)} {F H : Hp} {v : V} (o : InsOk G n) (h : c < n) (r : R G F (.ins c fs) v) (nf : fs ≠ [] ∨ True) (sub : ∀ a u, F a = some u → H a = some u) : TyZ G.K H v (.ref (G.cls c)) := by
  obtain ⟨a, dx, vs, h1, hA, _⟩ := r
  obtain ⟨q2, q3, q4, q5, _⟩ := o.ok c h
  rw [h1]
  rcases hA with (⟨q, g1, g2⟩ | ⟨q, vs', g1, g2, g3⟩) | ⟨q, g1, g2, g3⟩
  · rcases o.kd c h with ⟨_, q1⟩ | ⟨z, _⟩
    · exact .inl (.base (.ins (sub _ _ g1) q1 q2 q3 q4 q5))
    · exact absurd q z
  · rcases o.kd c h with ⟨z, _⟩ | ⟨_, q1⟩
    · exact absurd z q
    · exact .inr ⟨a, _, dx, vs', rfl, rfl, .inr ⟨sub _ _ g1, sub _ _ g2⟩, q1, q2, q3, q4, q5⟩
  · rcases o.kd c h with ⟨z, _⟩ | ⟨_, q1⟩
    · exact absurd z q
    · exact .inr ⟨a, _, dx, [], rfl, rfl, .inl ⟨sub _ _ g1, rfl⟩, q1, q2, q3, q4, q5⟩
section
variable {X : Cx} {G : Gd} {e : Expr} {m : ME} {p p1 p2 p3 pos : Pos} {T T' : String} {x x' : Str} {kx : ExprCtx} {nc : Nat}
theorem z_isiC (o : InsOk G nc) (hg : Gl X "isinstance") (hm : X.mg "isinstance" = none) (he : PE X e (tOf G m)) (hgT : Gl X x) (hmT : X.mg x = none) (hvT : bootBuiltins x = some (.type T)) (hn : x ≠ "__name__" := by decide) (hd : (x == ("__debug__" : Str)) = false := by decide) (hK : X.K = G.K := by rfl)
    (h1 : starEach (e :: [.Name x p1]) X.env = (false, eval e X.env) :: starEach [.Name x p1] X.env := by rfl) (h2 : (backTo pos (starEach [.Name x p1] X.env)).any (·.1) = false := by rfl) : PE X (.Call (.Name "isinstance" p) [e, .Name x p1] [] pos) (tOf G (mIsiC nc T m)) := by
  refine pe_imp (pe_callB call_isiZ hg hm boot_isinstance (pa_cons he (pa_cons (pe_bltn hgT hmT hvT (v := .ty T) rfl hn hd) pa_nil) h1) (by decide) (by decide) h1 h2) fun σ H Q h => ?_
  rw [hK]
  obtain ⟨F, θ, S, env, fp, w, S', st, e, k⟩ := h
  unfold mIsiC at e
  obtain ⟨⟨y, S1⟩, e1, e⟩ := Option.bind_eq_some_iff.mp e
  dsimp only at e
  split at e
  · rename_i hT
    split at e
    · rename_i c fs
      split at e
      · rename_i hc
        cases e
        refine ⟨F, θ, S, env, fp, _, _, st, e1, fun F1 θ1 H1 v f t1 s1 r => ?_⟩
        exact ⟨v, .ty T, .ref (G.cls c), .type T, false, rfl, .ty T, o.ty hc r.rw.dAt (.inr trivial) s1.sub, (o.ok c hc).2.2.2.2 T (List.contains_iff_mem.mp hT), k F1 θ1 H1 _ _ t1 s1 (.d rfl)⟩
      · cases e
    · obtain ⟨t, e2, e3⟩ := Option.map_eq_some_iff.mp e
      cases e3
      refine ⟨F, θ, S, env, fp, y, _, st, e1, fun F1 θ1 H1 v f t1 s1 r => ?_⟩
      exact ⟨v, .ty T, .type t, .type T, _, rfl, .ty T, .inl (tyD_ok s1 r e2), kit_ty (kit_all t (tyD_mem e2) T (List.contains_iff_mem.mp hT)), k F1 θ1 H1 _ _ t1 s1 (.d rfl)⟩
  · cases e
end
def signs (x : Str) : List D := x.cps.toList.map fun c => .str ⟨#[c]⟩
def mIStr (m : ME) : MI := fun env S => (m env S).bind fun p => match p.1 with
  | .d (.str x) => some (signs x, p.2)
  | _ => none
def mISeqS (m : ME) : MI := fun env S => (mISeq m env S).or (mIStr m env S)
end Zf
set_option maxHeartbeats 4000000
namespace Zf
open PySem PySem.Spec PyProof.Rows L2
def rRepM (K : PySem.W.Frag) : R2 := fun x y H Q => ∃ l k xs, x = .ref l ∧ y = .int k ∧ SqT K H l xs ∧ (0 < xs.length ∧ xs.length ≤ 10 ∧ 1 < k ∧ k ≤ 100000) ∧ ∀ p, H p = none → Q (.ref p) (upd H p (.tup (List.replicate k.toNat xs).flatten))
theorem op_repM {X : Cx} : OpR X (binaryOp .Mult) (rRepM X.K) := fun pins s σ H x y v u Q I rx ry h => by
  obtain ⟨l, k, xs, rfl, rfl, hT, ⟨z1, z2, z3, z4⟩, q⟩ := h
  obtain rfl : v = Value.ref l := rx
  obtain ⟨t, rfl⟩ := ry
  obtain ⟨its, r, ⟨o, ho, hc, n, hd⟩, _⟩ := I.tuple hT
  obtain ⟨oc, dd, od, sl⟩ := o
  obtain rfl : oc = .type "tuple" := hc
  obtain rfl : od = .seq its.toArray n := hd
  have len : its.length = xs.length := r.length.symm
  have ty : s.TypeIs (.ref l) "tuple" := ⟨_, ho, rfl⟩
  have isz : its.toArray.size = its.length := List.size_toArray ..
  have emp : its.toArray.isEmpty = false := by
    cases its with
    | nil => rw [← len] at z1; cases z1
    | cons _ _ => rfl
  have total : ∀ m : List Value, m.length ≤ 10 → (List.replicate k.toNat m).flatten.length ≤ sizeLine := fun m hm => by
    rw [PyProof.Rows.lm_len_rep_flat, sizeLine_eq]
    have : k.toNat * m.length ≤ 100000 * 10 := Nat.mul_le_mul (by omega) hm
    omega
  have prod : ((its.toArray.size : Nat) : Int) * k ≤ 1000000 := by
    have : ((its.length : Nat) : Int) * k ≤ 10 * k := Int.mul_le_mul_of_nonneg_right (by omega) (by omega)
    rw [isz]
    omega
  have m1 : (decide (k < -(2 ^ 63)) || decide (k ≥ 2 ^ 63)) = false := by simp; omega
  have m2 : (its.toArray.isEmpty || k == 1) = false := by simp [emp]; omega
  have m3 : (decide (k ≤ 0) || its.toArray.isEmpty) = false := by simp [emp]; omega
  have m4 : Builtin.Tuple.tupleTooMany (((its.toArray.size : Nat) : Int) * k) = false := by
    unfold Builtin.Tuple.tupleTooMany
    rw [sizeLine_eq]
    exact decide_eq_false (by omega)
  have m5 := L2.size_rep its k.toNat
  have meets := (L2.tuple_mulW l its.toArray n dd sl k t m1 m2 m3 (by omega) m4 (by rw [m5, List.size_toArray]; exact total its (by omega)))
  refine wpAny_binaryOp_repeat_ref (T := "tuple") (U := "int") (by decide) ty (fun s' => typeIs_int s' k t) L2.noFill_tuple_mul F.fills_int_mul F.slot_int_rmul L2.repeat_tuple F.slot_int_index.lookup
    (call_meets F.slot_int_rmul (typeIs_int s k t) F.entry_int_rmul (F.args_int_rmul_2 _ _) (L2.int_rmul_tuple k t l its.toArray n dd sl) ⟨ho, rfl, ty, call_meets PySem.F.slot_tuple_mul ty PySem.F.entry_tuple_mul (PySem.F.args_tuple_mul_2 _ _) meets ⟨ho, ?_⟩⟩)
  rw [m5]
  have big : (List.replicate k.toNat xs).flatten.length ≤ sizeLine := by
    rw [PyProof.Rows.lm_len_rep_flat, ← len, ← PyProof.Rows.lm_len_rep_flat]
    exact total its (by omega)
  refine ⟨.ref s.heap.objs.size, _, I.laid (t' := s.toks) (o := .tup (List.replicate k.toNat xs).flatten) (fun b ob e => Heap.get?_push_of_some _ e) (Nat.le_refl _) ?_, rfl, q _ (I.hok.fresh (Nat.le_refl _))⟩
  exact ⟨big, _, r.rep k.toNat, IsTup.new _ _⟩
def gRepT : Op2 := fun _ x y => match x, y with
  | .d (.tup xs), .d (.int k) => if 0 < xs.length ∧ xs.length ≤ 10 ∧ 1 < k ∧ k ≤ 100000 then some (.d (.tup (List.replicate k.toNat xs).flatten)) else none
  | _, _ => none
theorem sim_repT {G : Gd} : Sim2 G (rRepM G.K) gRepT := by
  refine ⟨fun {F θ H0 H S env σ fp x y vx vy fx fy z Q} st rx ry e l k => ?_⟩
  unfold gRepT at e
  split at e
  · rename_i xs n
    split at e
    · rename_i h
      cases e
      obtain ⟨a, vs, h1, h2, h3⟩ := rx.rw.dAt
      refine ⟨a, n, vs, h1, ry.rw.dAt, sub_sqT st.sub h2.sq, by rw [h3.len]; exact h, fun p hp => ?_⟩
      obtain ⟨t, s⟩ := st.new hp (.tup (List.replicate n.toNat vs).flatten)
      exact k _ _ _ _ _ t s (.newT (Rs.mono t.le _ _ (h3.rep _)))
    · cases e
  · cases e
def gMulT : Op2 := fun S x y => (gMul S x y).or (gRepT S x y)
theorem z_mulT {X : Cx} {G : Gd} {a b : Expr} {ma mb : ME} {pos : Pos} (ha : PE X a (tOf G ma)) (hb : PE X b (tOf G mb)) (hK : X.K = G.K := by rfl) : PE X (.BinOp a .Mult b pos) (tOf G (mBin gMulT ma mb)) :=
  z_bin ((op_mul.or op_rep).or op_repM) (((sim_int (g := fun i j => .int (i * j)) (fun _ _ h => cMul_ok h) fun _ _ => trivial).or sim_repL).or (by rw [hK]; exact sim_repT)) ha hb
end Zf
set_option maxHeartbeats 2000000
namespace Zf
open PySem PySem.Spec PyProof.Rows L2
def rEqLen (K : PySem.W.Frag) : R2 := fun x y H Q => ∃ a b xs ys, x = .ref a ∧ y = .ref b ∧ SqL K H a xs ∧ SqL K H b ys ∧ xs.length ≠ ys.length ∧ Q (.bl false) H
theorem op_eqLen {X : Cx} (hu : X.A.units + 200 < cLine) : OpR X (compareOp .Eq) (rEqLen X.K) := by
  intro pins s σ H x y v u Q I rx ry h
  obtain ⟨a, b, xs, ys, rfl, rfl, ha, hb, ne, q⟩ := h
  obtain rfl : v = Value.ref a := rx
  obtain rfl : u = Value.ref b := ry
  obtain ⟨i1, r1, l1, _⟩ := I.list ha
  obtain ⟨i2, r2, l2, _⟩ := I.list hb
  have n1 := r1.length
  have n2 := r2.length
  exact (SeqAt.RcAt.lists_lengths l1.isList l2.isList (by simpa using (show i1.length ≠ i2.length by omega)) (by omega)) X.prog X.w X.xe _ ⟨.bl false, H, I, rfl, q⟩
def gEqLen : Op2 := fun S x y => (vL S x).bind fun xs => (vL S y).bind fun ys => if xs.length = ys.length then none else some (.d (.bl false))
theorem sim_eqLen {G : Gd} : Sim2 G (rEqLen G.K) gEqLen := by
  refine ⟨fun {F θ H0 H S env σ fp x y vx vy fx fy z Q} st rx ry e l k => ?_⟩
  unfold gEqLen at e
  obtain ⟨xs, e1, e⟩ := Option.bind_eq_some_iff.mp e
  obtain ⟨ys, e2, e⟩ := Option.bind_eq_some_iff.mp e
  split at e
  · cases e
  · rename_i hn
    cases e
    obtain ⟨a, vs, f1, h1, h2, h3, _⟩ := vL_ok st rx e1
    obtain ⟨b, us, f2, h4, h5, h6, _⟩ := vL_ok st ry e2
    exact ⟨a, b, vs, us, h1, h4, SqL.of h2, SqL.of h5, by rw [h3.len, h6.len]; exact hn, k F θ H _ _ (.refl ..) st (.d rfl)⟩
def gEqA : Op2 := fun S x y => (gEq S x y).or (gEqLen S x y)
section
variable {X : Cx} {G : Gd} {a b : Expr} {ma mb : ME} {pos : Pos} {k : Nat}
theorem z_eqAT (hr : Room k X.A) (ha : PE X a (tOf G ma)) (hb : PE X b (tOf G mb)) (hK : X.K = G.K := by rfl) : PT X (.Compare a [.Eq] [b] pos) (tOfT G (mTst (mBin gEqA ma mb))) :=
  z_cmpT ((op_eq.or (op_eqD hr.units)).or (op_eqLen hr.v)) ((sim_eqS.or (by rw [hK]; exact sim_eqP)).or (by rw [hK]; exact sim_eqLen)) ha hb (nomark _)
end
theorem z_dnew {X : Cx} {G : Gd} {pos : Pos} : PE X (.Dict [] [] pos) (tOf G (mD (.dct []))) := by
  refine pe_imp (pe_keep pe_dnewK) fun σ H Q h => ?_
  obtain ⟨F, θ, S, env, fp, w, S', st, e, k⟩ := h
  cases e
  intro p hp
  refine ⟨p, _, upd_same, trivial, fun od => ?_⟩
  rw [upd_upd]
  obtain ⟨t, s⟩ := st.new hp (.frz od (.dK []))
  exact k _ _ _ _ _ t s (.d ⟨p, [], rfl, ⟨od, upd_same⟩, rfl⟩)
end Zf
namespace Zf
open PySem PySem.Spec L2 PySem.W PySem.Calls NdefX
def spX (C : Addr) (x : Str) : Sp := fun vs H Q _ => ∃ a v, vs = [V.ref a, v] ∧ H a = some (exo a C none) ∧ ∀ dx, H dx = none → dx ≠ a → Q .non (upd (upd H dx (exd dx [(x, v)])) a (exo a C (some dx)))
def bodyX (x : Str) (p0 p1 p2 p3 p4 p5 p6 p7 p8 p9 : Pos) : List Stmt :=
  [.Expr (.Call (.Attribute (.Call (.Name "super" p0) [] [] p1) "__init__" p2) [.Name x p3] [] p4) p5, .Assign [.Attribute (.Name "self" p6) x p7] (.Name x p8) p9]
section
variable {P : Program} {w : World} {K : PySem.W.Frag} {mg : Str → Option Value} {base : Heap} {k : Nat} {f C cc : Addr} {F : NF} {x : Str} {doc pm ctv : Value} {od : Option Addr} {sl : Array (Option Value)} {p0 p1 p2 p3 p4 p5 p6 p7 p8 p9 : Pos} {ar : Arg}
  {vs0 : Array Value} {file : Str} {tf : Tok} {ccl cl : Value} {cdd cld : Option Addr} {ccs csl : Array (Option Value)} {cdC : ClassData}
theorem xinit_ok (ho : K.lookup f = some ⟨.type "function", od, .func (F.fd doc pm ctv), sl⟩) (hcd : codeIn K (.ref F.c) F.qual = true) (hcl : F.cl = [(("__class__" : Str), cc)]) (hbd' : F.body = bodyX x p0 p1 p2 p3 p4 p5 p6 p7 p8 p9)
    (S : NScope ["self", x, "__class__"] ["self", x] ["__class__"] F.scope) (hks : F.scope.names.lookup ("super" : Str) = some .globalImplicit) (har : (F.params.posonlyargs ++ F.params.args).head? = some ar) (hself : ar.arg = "self")
    (hb : ∀ (us : List Value), us.length = 2 → bindArgs (F.fd doc pm ctv) ⟨us, []⟩ = pure ((["self", x] : List Str).zip us))
    (hcode : K.lookup F.c = some ⟨ccl, cdd, .fields vs0, ccs⟩) (hvs : vs0[2]? = some (.str file tf)) (hfile : ((P.main.file : Str) == file) = true) (htop : (P.main.scope.names.lookup ("super" : Str)).isSome = false)
    (hcell : K.lookup cc = some ⟨cl, cld, .cell (some (.ref C)), csl⟩) (hC : clsIn K C = some cdC) (hsub : mroIn K C (.ref C) = some true) (hsm : mg "super" = none) (hany : nsIn K cStatics "thirdparty.any" = some none)
    (hm : ks_superIn K C C "__init__" = some (some (.builtin "ValueError.__init__"))) (hB : subIn K (.ref C) (.type "ValueError") = some true)
    {pl : Sem Bool} (hev : ∀ env : Env, eval (.Call (.Attribute (.Call (.Name "super" p0) [] [] p1) "__init__" p2) [.Name x p3] [] p4) env = (do
      let ov ← attributeBase (.Call (.Name "super" p0) [] [] p1) "__init__" env (eval (.Call (.Name "super" p0) [] [] p1) env)
      standAt p2.atName
      let (f, first) ← holding [ov] (getMethod ov "__init__" pl)
      callWith p4 f first (backTo p4 (starEach [.Name x p3] env)) []))
    (hsw : ∀ env : Env, swapsWith (.Name x p8) (some (.Attribute (.Name "self" p6) x p7)) p9.line env = pure false) (hd : (x == ("__debug__" : Str)) = false) (hcd' : (x == ("__classdict__" : Str)) = false) (T : OexC K C) (hno : findIn K (.ref C) x = some none) {CX : CXT} : FnOk P w K mg base CX (k + 1) f (F.fd doc pm ctv) ["self", x] (spX C x) := by
  refine ⟨fun vs H Q E q => ?_, fun A outer s H args us vs Q E hr e0 hbd rv hsp => ?_⟩
  · obtain ⟨a, v, rfl, _⟩ := q
    rfl
  obtain ⟨a, v, rfl, ha, hQ⟩ := hsp
  have kin : K.In s.heap := e0.mod.kin.keeps fun b o z => (e0.bs b o z).1
  have lim : s.heap.NoLimit := e0.mod.nolimit.keeps fun b o e => (e0.bs b o e).1
  refine codeAny_call_function hr.depth (kin _ _ ho) rfl S.co S.gen rfl (codeRec_of kin hcd) (hbd _ _ _ _ ?_)
  refine wpAny_newFunctionEnv S.nocell (fun ⟨n, _⟩ hy => S.par n (List.of_mem_zip hy).1) (fun h₁ hns hsb => ⟨lim.fresh _ hsb, ?_⟩) S.kind
  show codeAny _ _ (.func F.body (envF F f s.heap.objs.size)) _ _
  refine ks_codeAny_funcAt ?_
  have kp : ∀ b o, s.heap.get? b = some o → h₁.get? b = some o := fun b o e => hsb.extBut b o (Nat.ne_of_lt (Heap.lt_size e)) (Heap.get?_push_of_some _ e)
  have CA : CellsAt F.cl ["__class__"] [some (.ref C)] s.heap H := by
    rw [hcl]
    have hcc : s.heap.IsCell cc (some (.ref C)) := ⟨_, kin _ _ hcell, rfl⟩
    refine ⟨rfl, fun y c e => ?_, fun y z c e1 e2 => ?_, fun i y e => ?_⟩
    · have e' : (if y == ("__class__" : Str) then some cc else none) = some c := by
        rw [← e]
        cases h : (y == ("__class__" : Str)) <;> simp [List.lookup, h]
      split at e'
      · cases e'
        exact ⟨(e0.bs _ _ (e0.mod.kin _ _ hcell)).2, _, hcc⟩
      · cases e'
    · have key : ∀ y, (([(("__class__" : Str), cc)] : List (Str × Addr)).lookup y) = some c → y = "__class__" := fun y e => by
        cases h : (y == ("__class__" : Str)) with
        | true => exact beq_iff_eq.mp h
        | false => simp [List.lookup, h] at e
      rw [key y e1, key z e2]
    · match i, e with
      | 0, e =>
        have e' : ("__class__" : Str) = y := Option.some.inj e
        subst e'
        exact ⟨cc, rfl, fun v ev => by
          have ev' : V.ref C = v := Option.some.inj (Option.some.inj ev)
          subst ev'
          exact ⟨.ref C, rfl, hcc⟩⟩
      | i + 1, e => simp at e
  have I : Inv (ncx CX P w K mg base ["self", x, "__class__"] F f A outer s H E) [] (startF ["self", x, "__class__"] [.ref a, v] [some (.ref C)]) H { s with heap := h₁, toks := s.toks + ((["self", x] : List Str).zip us).length } :=
    inv_startN S hr.hd e0 rfl rv CA hns kp
  rw [hbd']
  have hL : s.heap.objs.size ≤ s.heap.objs.size := Nat.le_refl _
  have kf : (envF F f s.heap.objs.size).kindOf "self" = some .local := S.par _ (by simp)
  have kx : (envF F f s.heap.objs.size).kindOf x = some .local := S.par _ (by simp)
  have kc : (envF F f s.heap.objs.size).kindOf "__class__" = some .free := S.frk _ (by simp)
  have ks : (envF F f s.heap.objs.size).kindOf "super" = some .globalImplicit := hks
  have kin1 : K.In h₁ := kin.keeps kp
  have hint : interactive (envF F f s.heap.objs.size) = false := by
    unfold interactive
    rw [show (envF F f s.heap.objs.size).scope.kind = .function from S.kind]
    rfl
  refine ks_wpAt_execs_cons (ks_wpAt_Expr_any (ks_wpAt_MethodCall (ks_wpAt_super_base (env := envF F f s.heap.objs.size) ks kc (by decide) rfl (kin1 _ _ ho) rfl har rfl (kin1 _ _ hcode) rfl hvs hfile htop ?_) (hev _)) hint (by rfl))
  obtain ⟨mb, b1, b2⟩ := e0.mod.blt
  have keepB : ∀ b o, base.get? b = some o → h₁.get? b = some o := fun b o e => kp b o (e0.bs b o e).1
  refine ks_loadName_global S.kind ks (loadGlobal_builtin (env := envF F f s.heap.objs.size) (e0.mod.glob.keeps keepB) hsm (b1.keeps keepB) ((b2 _ (by decide)).trans (PyProof.Rows.Boot.«super»)) ⟨rfl, ?_⟩)
  refine wpAny_loadName_free S.kind kc (by rw [show (envF F f s.heap.objs.size).cells = F.cl from rfl, hcl]; rfl) ⟨_, kin1 _ _ hcell, rfl⟩ ?_
  obtain ⟨u1, u2, rfl, r1, r2⟩ := rv.two
  obtain rfl : u1 = Value.ref a := r1
  obtain ⟨t1, hx⟩ := exo_at e0.hok ha
  have nd2 : (["self", x] : List Str).Nodup := by
    have q := S.nd
    simp at q ⊢
    exact q.1.1
  rw [hself]
  refine wpAny_loadName_local S.kind kf hns (zip_look (i := 0) nd2 rfl rfl) ?_
  obtain ⟨oD, hD1, hD2⟩ : ∃ oD, h₁.get? C = some oD ∧ oD.data = .cls cdC := by
    unfold clsIn at hC
    split at hC
    · rename_i c d cd' sl ho
      cases hC
      exact ⟨_, kin1 _ _ ho, rfl⟩
    · cases hC
  refine ks_wpAny_isType_cls hD1 hD2 ⟨rfl, ?_⟩
  refine ks_wpAny_call_super hD1 hD2 (kp _ _ hx) rfl (fun c e => by cases e) (looks_mroIn kin1 hsub) (fun h2 e2 k2 => ?_)
  have kin2 : K.In h2 := kin1.keeps k2
  have IA2 : InstAt h2 a { cls := .ref C, dict := none, data := .fields #[.ref t1, .none, .none, .none, .bool false, .none] } C none := ⟨k2 _ _ (kp _ _ hx), rfl, rfl, trivial⟩
  have hI2 : Looks (model P w) h2 (isInstance (.ref a) (.type "ValueError")) true := IA2.type.andThen (looks_subIn kin2 hB)
  have hm' := hm
  unfold ks_superIn at hm'
  rw [hC] at hm'
  refine kxs_getMethod kxs_ValueError e2 (looks_opaque kin2 hany) (l₀ := cdC.mro) (fun A Q E s k q => wpAny_bind ((looks_clsIn kin2 hC) A _ E s k (wpAny_pure q))) rfl kin2 hm' hI2 (ks_ne kin2 IA2 hC) (by decide) ?_
  have k3 : ∀ b o, h2.get? b = some o → (h2.push (kxs_mw "ValueError.__init__" a)).get? b = some o := fun b o e => Heap.get?_push_of_some _ e
  have kq : (h2.push (kxs_mw "ValueError.__init__" a)).get? h2.objs.size = some (kxs_mw "ValueError.__init__" a) := Heap.get?_push_at rfl rfl
  have I3 : Inv (ncx CX P w K mg base ["self", x, "__class__"] F f A outer s H E) [] (startF ["self", x, "__class__"] [.ref a, v] [some (.ref C)]) H { s with heap := h2.push (kxs_mw "ValueError.__init__" a), toks := s.toks + ((["self", x] : List Str).zip [Value.ref a, u2]).length + 1 } :=
    I.kept fun b o e => k3 b o (k2 b o e)
  have I2 := I.kept (h' := h2) (t' := 0) k2
  have I3p := I3.pins_of (pins' := [(h2.objs.size, kxs_mw "ValueError.__init__" a)]) fun p hp => by
    rw [List.mem_singleton.mp hp]
    exact ⟨kq, I2.hok.fresh (Nat.le_refl _), Nat.ne_of_gt I2.lt, I2.nofs (Nat.le_refl _), fun v z => by cases z⟩
  refine kxs_callWith (i := "ValueError.__init__") (x := a) rfl (evalArgs_plain ?_)
  have pa := pa_cons (X := ncx CX P w K mg base ["self", x, "__class__"] F f A outer s H E) (pe_var (X := ncx CX P w K mg base ["self", x, "__class__"] F f A outer s H E) (i := 1) (x := x) (pos := p3) rfl (Or.inl kx) hd hcd') pa_nil (by rfl)
  refine wpAny_mono (pa.run p4 _ _ _ H (fun vs H1 => vs = [v] ∧ H1 = H) I3p ⟨v, rfl, rfl, rfl⟩) (fun us s4 hs4 => ?_) fun _ _ z => z
  obtain ⟨vs, H4, I4, r4, rfl, rfl⟩ := hs4
  have hq4 := (I4.pin (h2.objs.size, kxs_mw "ValueError.__init__" a) (by simp)).1
  refine ⟨hq4, ?_⟩
  obtain ⟨t4, hx4⟩ := exo_at I4.hok ha
  obtain ⟨u0, rfl, ru⟩ := r4.one
  obtain ⟨nm, q, N0, bs, bm, sn, sub, ab, col, dd, k0, k1, k2', k3', k5, hCk, hbm⟩ := T.cls
  have hC4 := I4.kIn _ _ hCk
  obtain ⟨hp4, g4, d4, tk4, os4⟩ := s4
  refine wpAny_call (codeAny_of_tree ?_)
  show wpAny _ _ (callAny (.ref h2.objs.size) ⟨[u0], []⟩) _ _ _
  simp only [callAny]
  refine wpAny_bind (wpAny_load hq4 ?_)
  simp only [kxs_mw, show (Value.type "method-wrapper" == Value.type "method" || Value.type "method-wrapper" == Value.type "builtin_function_or_method" || Value.type "method-wrapper" == Value.type "method-wrapper") = true by decide, if_true]
  refine KFB.if_so (by decide) ?_
  refine wpAny_bind (check_bound_init PySem.F.excBase_ValueError.toExcCallFacts hC4 hx4 rfl ?_)
  refine wpAny_bind (wpAny_pure (wpAny_pure ?_))
  refine ⟨plainId_quiet PySem.F.excBase_ValueError.init.plain _, codeAny_builtin PySem.F.excBase_ValueError.initEntry ?_⟩
  refine exc_init_tree (cls := .ref C) (t0 := t4) (dv := none) (c2 := .none) (c3 := .none) (b4 := .bool false) hx4 (by simp [sizeLine_eq]) fun h5 kk5 e5 _ => ?_
  have J := I4.write (t' := tk4) (x := a) (e := a) (o := exo a C none) (by rw [ha]; exact True.intro) (.inl rfl) kk5 ⟨_, e5⟩ (exo_ok e5)
  have eu : upd H4 a (exo a C none) = H4 := by
    funext b
    by_cases hb : b = a
    · rw [hb, upd_same, ha]
    · rw [upd_ne hb]
  rw [eu] at J
  refine wpAt_of_wpAny (wpAny_mono ((pss_one (ps_ost (pe_var (X := ncx CX P w K mg base ["self", x, "__class__"] F f A outer s H4 E) (i := 0) (x := "self") (pos := p6) rfl (Or.inl kf)) (pe_var (X := ncx CX P w K mg base ["self", x, "__class__"] F f A outer s H4 E) (i := 1) (x := x) (pos := p8) rfl (Or.inl kx) hd hcd') (hsw _))).run
    [(h2.objs.size, kxs_mw "ValueError.__init__" a)] _ _ H4 { nx := fun _ H' => Q .non H', rt := fun _ _ => False } J ⟨v, rfl, .ref a, rfl, a, C, rfl, T, hno, .inl ⟨ha, fun dx n ne => hQ dx n ne⟩⟩) (fun fl s' hs => ?_) fun e s' hs => hs)
  cases fl with
  | next =>
    obtain ⟨σ', H', J', q'⟩ := hs
    exact ⟨.non, H', J'.os, J'.bare, J'.base, J'.hok, rfl, q'⟩
  | ret u =>
    obtain ⟨_, _, _, _, _, q'⟩ := hs
    exact False.elim q'
  | brk =>
    obtain ⟨_, _, _, q'⟩ := hs
    exact False.elim q'
  | cont =>
    obtain ⟨_, _, _, q'⟩ := hs
    exact False.elim q'
end
end Zf
namespace Zf
open PySem PySem.Spec PyProof.Rows L2
structure ExD (K : PySem.W.Frag) (D : Addr) : Prop where
  hcl : (PySem.W.clsIn K D).isSome = true
  hga : PySem.W.findIn K (.ref D) "__getattribute__" = some (some (.builtin "BaseException.__getattribute__"))
  hgt : PySem.W.findIn K (.ref D) "__getattr__" = some none
  hs : PySem.W.subIn K (.ref D) (.type "BaseException") = some true
  ha : PySem.W.findIn K (.ref D) "__class__" = some (some (.builtin "object.__class__"))
  hn : PySem.W.specialIn K (.builtin "object.__class__") "__get__" = some (some (.builtin "getset_descriptor.__get__"))
  ht : PySem.W.takesIn K (.builtin "object.__class__") = some true
  hm : PySem.W.mroIn K D (.type "object") = some true
end Zf
namespace Zf
open PySem PySem.Spec PyProof.Rows L2 PySem.W NdefX
theorem oexB_ok {K : PySem.W.Frag} {C : Addr} (q : oexB K C = true) : ∃ nm q N bs bm sn sub ab col dd k0 k1 k2 k3 k5, K.lookup C = some (excClassObj nm q C N bs bm true sn sub ab col dd k0 k1 k2 k3 k5 "ValueError.__new__") ∧ PySem.HandSPX.refsVE bm = true := by
  unfold oexB at q
  split at q
  · rename_i dd cd sl ho
    split at q
    · rename_i C' bm k0 k1 k2 k3 n k5 hm hs
      simp only [Bool.and_eq_true, decide_eq_true_eq, Bool.not_eq_true'] at q
      obtain ⟨rfl, rfl, hdel, hd, ht⟩ := q
      obtain ⟨nm, bs, mro, ns, qn, hd', sn, sub, ab, col, del⟩ := cd
      dsimp only at hm hdel hd
      subst hm hdel hd
      have hsl : sl = #[k0, k1, k2, k3, some (.builtin "ValueError.__new__"), k5] := by
        obtain ⟨l⟩ := sl
        simp only at hs
        rw [hs]
      subst hsl
      exact ⟨nm, qn, ns, bs, bm, sn, sub, ab, col, dd, k0, k1, k2, k3, k5, ho, ht⟩
    · cases q
  · cases q
theorem oexAll_ok {K : PySem.W.Frag} {x : Str} (h : oexAll x K = true) : OexC K (He.ga K x) := by
  obtain ⟨h1, h⟩ := He.ba h
  obtain ⟨h2, h⟩ := He.ba h
  obtain ⟨h3, h⟩ := He.ba h
  obtain ⟨h4, h5⟩ := He.ba h
  exact ⟨oexB_ok h1, He.eqO_ok h2, of_decide_eq_true h3, of_decide_eq_true h4, h5⟩
structure ExFn (K : PySem.W.Frag) (x file qual : Str) (d : He.DefD) : Prop where
  ex : ∃ (od : Option Addr) (sl : Array (Option Value)) (doc pm ctv : Value) (c cc : Addr), K.lookup (He.fAd K (x, some ("__init__" : Str))) = some ⟨.type "function", od, .func ((⟨d.name, d.qual, d.params, d.body, d.scope, [("__class__", cc)], c⟩ : NF).fd doc pm ctv), sl⟩ ∧
    PySem.W.codeIn K (.ref c) qual = true ∧ (∃ ccl cdd vs0 ccs f tf, K.lookup c = some ⟨ccl, cdd, .fields vs0, ccs⟩ ∧ vs0[2]? = some (.str f tf) ∧ file = f) ∧ ∃ cl cld csl, K.lookup cc = some ⟨cl, cld, .cell (some (.ref (He.ga K x))), csl⟩
theorem exfB_ok {K : PySem.W.Frag} {x file qual : Str} {d : He.DefD} (hat : d.at_ = (x, some ("__init__" : Str))) (h : exfB x file qual K = true) (hd : fnC K d = fnCv d) : ExFn K x file qual d := by
  unfold exfB at h
  unfold fnC fnCv cutFn He.fnW at hd
  rw [hat] at hd
  split at h
  · rename_i od fd sl e
    rw [e] at hd
    obtain ⟨n1, n2, n3, n4, n5, n6, n7, n8, n9, n10, n11, n12, n13, n14, n15⟩ := fd
    simp only [Option.some.injEq, Prod.mk.injEq] at hd
    obtain ⟨h1, h2, h3, h4, h5, h6, h7, h8⟩ := hd
    obtain ⟨b1, hA⟩ := He.ba h
    clear h
    obtain ⟨b2, hB⟩ := He.ba hA
    clear hA
    obtain ⟨b3, hC⟩ := He.ba hB
    clear hB
    obtain ⟨g4, g5⟩ := He.ba hC
    clear hC
    have g1 := of_decide_eq_true b1
    clear b1
    have g2 := of_decide_eq_true b2
    clear b2
    have g3 := of_decide_eq_true b3
    clear b3
    dsimp only at g1 g2 g3 g4 g5
    split at g4
    · rename_i c
      obtain ⟨k1, k2⟩ := He.ba g4
      split at k2
      · rename_i ccl cdd vs0 ccs ec
        split at k2
        · rename_i f tf ev
          split at g5
          · rename_i ny cc
            split at g5
            · rename_i cl cld C csl ecc
              have eC := of_decide_eq_true g5
              subst eC
              have hn : ny = ("__class__" : Str) := by simpa using h7
              subst h1 h2 h3 h4 h5 h6 h8 g1 g2 g3 hn
              exact ⟨od, sl, n10, n11, n14, c, cc, e, k1, ⟨ccl, cdd, vs0, ccs, f, tf, ec, ev, of_decide_eq_true k2⟩, cl, cld, csl, ecc⟩
            · cases g5
          · cases g5
        · cases k2
      · cases k2
    · cases g4
  · cases h
structure ExC (G : Gd) (mg : Str → Option Value) (base : Heap) (x : Str) (c k : Nat) : Prop where
  T : OexC G.K (G.cls c)
  hm : mg x = some (.ref (G.cls c))
  ex : ∃ fI fd ps, PySem.W.findIn G.K (.ref (G.cls c)) "__init__" = some (some (.ref fI)) ∧ PySem.W.typeIn G.K (.ref fI) = some (.type "function") ∧ FnOk G.P G.w G.K mg base CX0 k fI fd ps (spX (G.cls c) (G.exn c)) ∧ Binds G.K fd ps []
theorem ExC.mk' {G : Gd} {mg : Str → Option Value} {base : Heap} {x fld file qual : Str} {c k : Nat} {d : He.DefD} {p0 p1 p2 p3 p4 p5 p6 p7 p8 p9 : Pos} {ar : Arg} (hcls : G.cls c = He.ga G.K x) (hexn : G.exn c = fld) (hm : mg x = some (.ref (He.ga G.K x))) (h1 : oexAll x G.K = true) (F : ExFn G.K x file qual d) (h2 : exiB x fld G.K = true) (hq : qual = d.qual)
    (hbody : d.body = bodyX fld p0 p1 p2 p3 p4 p5 p6 p7 p8 p9) (S : NScope ["self", fld, "__class__"] ["self", fld] ["__class__"] d.scope) (hks : d.scope.names.lookup ("super" : Str) = some .globalImplicit) (har : (d.params.posonlyargs ++ d.params.args).head? = some ar) (hself : ar.arg = "self")
    (hb : ∀ (cl : List (Str × Addr)) (doc pm cdv ctv : Value) (us : List Value), us.length = 2 → bindArgs (PySem.W.fnX d.name d.qual d.params d.body d.scope cl .none .none doc pm none cdv ctv) ⟨us, []⟩ = pure ((["self", fld] : List Str).zip us))
    (hfile : ((G.P.main.file : Str) == file) = true) (htop : (G.P.main.scope.names.lookup ("super" : Str)).isSome = false) (hsm : mg "super" = none) {pl : Sem Bool}
    (hev : ∀ env : Env, eval (.Call (.Attribute (.Call (.Name "super" p0) [] [] p1) "__init__" p2) [.Name fld p3] [] p4) env = (do
      let ov ← attributeBase (.Call (.Name "super" p0) [] [] p1) "__init__" env (eval (.Call (.Name "super" p0) [] [] p1) env)
      standAt p2.atName
      let (f, first) ← holding [ov] (getMethod ov "__init__" pl)
      callWith p4 f first (backTo p4 (starEach [.Name fld p3] env)) []))
    (hsw : ∀ env : Env, swapsWith (.Name fld p8) (some (.Attribute (.Name "self" p6) fld p7)) p9.line env = pure false) (hdb : (fld == ("__debug__" : Str)) = false) (hcd' : (fld == ("__classdict__" : Str)) = false) : ExC G mg base x c (k + 1) := by
  obtain ⟨od, sl, doc, pm, ctv, cA, cc, lk, hcd, ⟨ccl, cdd, vs0, ccs, f, tf, ec, ev, ef⟩, cl, cld, csl, ecc⟩ := F.ex
  obtain ⟨i1, h2⟩ := He.ba h2
  obtain ⟨i2, h2⟩ := He.ba h2
  obtain ⟨i3, h2⟩ := He.ba h2
  obtain ⟨i4, h2⟩ := He.ba h2
  obtain ⟨i5, h2⟩ := He.ba h2
  obtain ⟨i6, h2⟩ := He.ba h2
  obtain ⟨i7, i8⟩ := He.ba h2
  obtain ⟨cdC, hC⟩ := Option.isSome_iff_exists.mp i3
  have T := oexAll_ok h1
  subst ef hq
  refine ⟨by rw [hcls]; exact T, by rw [hcls]; exact hm, He.ma G.K (He.ga G.K x) "__init__", _, ["self", fld], by rw [hcls]; exact He.eqO_ok i1, of_decide_eq_true i2, ?_, Binds.all fun us hl => hb [("__class__", cc)] doc pm (.ref cA) ctv us hl⟩
  rw [hcls, hexn]
  exact xinit_ok (F := ⟨d.name, d.qual, d.params, d.body, d.scope, [("__class__", cc)], cA⟩) lk hcd rfl hbody S hks har hself (fun us hl => hb [("__class__", cc)] doc pm (.ref cA) ctv us hl) ec ev hfile htop ecc hC (of_decide_eq_true i4) hsm (He.eqO_ok i5) (He.eqO_ok i6) (of_decide_eq_true i7) hev hsw hdb hcd' T (He.eqO_ok i8)
theorem exdB_ok {K : PySem.W.Frag} {x : Str} (h : exdB x K = true) : ExD K (He.ga K x) := by
  obtain ⟨h1, h⟩ := He.ba h
  obtain ⟨h2, h⟩ := He.ba h
  obtain ⟨h3, h⟩ := He.ba h
  obtain ⟨h4, h⟩ := He.ba h
  obtain ⟨h5, h⟩ := He.ba h
  obtain ⟨h6, h⟩ := He.ba h
  obtain ⟨h7, h8⟩ := He.ba h
  exact ⟨h1, He.eqO_ok h2, He.eqO_ok h3, of_decide_eq_true h4, He.eqO_ok h5, He.eqO_ok h6, of_decide_eq_true h7, of_decide_eq_true h8⟩
theorem xffB_ok {K : PySem.W.Frag} {x fld : Str} (h : xffB x fld K = true) : XfC K (He.ga K x) ∧ PySem.W.findIn K (.ref (He.ga K x)) fld = some none := by
  obtain ⟨h1, h2⟩ := He.ba h
  exact ⟨xfB_ok h1, He.eqO_ok h2⟩
end Zf
namespace Zf
open PySem PySem.Spec PyProof.Rows L2 PySem.W
end Zf
namespace Zf
open PySem PySem.Spec PyProof.Rows L2
end Zf
set_option maxHeartbeats 4000000
namespace Zf
open PySem PySem.Spec PyProof.Rows L2
end Zf
set_option maxHeartbeats 2000000
namespace Zf
open PySem PySem.Spec PyProof.Rows L2
def kP : Key → PyData
  | .inl i => .int i
  | .inr s => .str s
end Zf
set_option maxHeartbeats 4000000
set_option maxHeartbeats 2000000
namespace Zf
open PySem PySem.Spec PyProof.Rows L2
end Zf
namespace L2
open PySem PySem.Spec PyProof.Rows
end L2
namespace Zf
open PySem PySem.Spec PyProof.Rows L2
end Zf
namespace Zf
open PySem L2
end Zf
namespace Zf
open PySem PySem.Spec PyProof.Rows L2
end Zf
namespace PySem.SeqAt
open PySem
theorem zf_tup_eq {prog : Program} {w : World} (l b : Addr) (xs ys : Array Value) (n m : Nat) (d1 d2 : Option Addr) (s1 s2 : Array (Option Value)) (hsz : xs.size = ys.size) :
    MeetsIn prog w (Builtin.«tuple.__eq__» ⟨[.ref l, .ref b], []⟩) (fun A R s => s.heap.get? l = some { cls := .type "tuple", dict := d1, data := .seq xs n, slots := s1 } ∧
      s.heap.get? b = some { cls := .type "tuple", dict := d2, data := .seq ys m, slots := s2 } ∧ (∀ j (h1 : j < xs.size) (h2 : j < ys.size), EqP prog w A.in1 s xs[j] ys[j] true) ∧ R (.ok (.ret (.bool true))) s) :=
  .of_wp fun A R s h => by
    obtain ⟨hp, g, dd, tk, os⟩ := s
    obtain ⟨hl, hb, he, h⟩ := h
    have f2 := AutoSeq1.sub_tuple_tuple
    have hz : (xs.toList.zip ys.toList).length = xs.size := by simp [hsz]
    wp_walk using AutoSeq1.wpAny_loadPart' hl, AutoSeq1.wpAny_loadPart' hb, wpAny_forIn_list _ (fun rest acc t => acc.1 = none ∧ t = ⟨hp, g, dd, tk, os⟩ ∧ ∃ i, rest = (xs.toList.zip ys.toList).drop i) _
    case turn =>
      rintro ⟨y, x⟩ rest acc t ⟨ha, rfl, i, hr⟩
      have hlt : i < (xs.toList.zip ys.toList).length := by
        rcases Nat.lt_or_ge i (xs.toList.zip ys.toList).length with k | k
        · exact k
        · rw [List.drop_of_length_le k] at hr
          cases hr
      have g1 : i < xs.size := hz ▸ hlt
      have g2 : i < ys.size := hsz ▸ g1
      rw [List.drop_eq_getElem_cons hlt] at hr
      injection hr with hyx hrest
      have hy : y = xs[i] := by
        have q := congrArg Prod.fst hyx
        simpa using q
      have hx : x = ys[i] := by
        have q := congrArg Prod.snd hyx
        simpa using q
      subst hy hx
      refine wpAny_bind (he i g1 g2 _ _ ?_)
      wp_walk
      exact ⟨rfl, rfl, i + 1, hrest⟩
    case fin =>
      rintro ⟨b1, b2⟩ t ⟨ha, rfl, i, hr⟩
      simp only at ha
      subst ha
      wp_walk
      exact ⟨_, rfl, by simpa [Builtin.Tuple.tupleCompareSizes, hsz] using h⟩
    case h =>
      exact ⟨rfl, rfl, 0, rfl⟩
theorem zf_tuplesP {prog : Program} {w : World} {A : Around} {s : Shared} {l b : Addr} {xs ys : Array Value} (hl : s.heap.IsTuple l xs) (hb : s.heap.IsTuple b ys) (hsz : xs.size = ys.size) (hu : A.units < cLine)
    (he : ∀ j (h1 : j < xs.size) (h2 : j < ys.size), EqP prog w A.in1 s xs[j] ys[j] true) (E Q : Value → Shared → Prop) (h : Q (.bool true) s) : wpAny (model prog w) A (richCompare .Eq (.ref l) (.ref b)) Q E s := by
  obtain ⟨⟨c1, e1, t1, o1⟩, hol, k1, n, k2⟩ := id hl
  obtain ⟨⟨c2, e2, t2, o2⟩, hob, k3, m, k4⟩ := id hb
  simp only at k1 k2 k3 k4
  subst k1 k2 k3 k4
  have tl : s.TypeIs (.ref l) "tuple" := ⟨_, hol, rfl⟩
  have tb : s.TypeIs (.ref b) "tuple" := ⟨_, hob, rfl⟩
  exact wpAny_richCompare_same_room (op := .Eq) tl tb PySem.F.slot_tuple_eq (call_meetsIn PySem.F.slot_tuple_eq tl PySem.F.entry_tuple_eq (PySem.F.args_tuple_eq_2 _ _) (zf_tup_eq l b xs ys n m e1 e2 o1 o2 hsz) ⟨hol, hob, he, show Value.bool true ≠ Value.notImplemented ∧ Q (.bool true) s from ⟨nofun, h⟩⟩) hu
end PySem.SeqAt
namespace Zf
open PySem PySem.Spec PyProof.Rows L2
mutual
def okE : D → Bool
  | .non => true
  | .bl _ => true
  | .int _ => true
  | .str _ => true
  | .lst xs => okEs xs
  | .tup xs => okEs xs
  | .dct kvs => decide ((kvs.map (·.1)).Nodup) && okEk kvs
  | _ => false
def okEs : List D → Bool
  | [] => true
  | x :: r => okE x && okEs r
def okEk : List (Key × D) → Bool
  | [] => true
  | (_, x) :: r => okE x && okEk r
end
mutual
def deE : D → Nat
  | .lst xs => deEs xs + 1
  | .tup xs => deEs xs + 1
  | .dct kvs => deEk kvs + 1
  | _ => 0
def deEs : List D → Nat
  | [] => 0
  | x :: r => max (deE x) (deEs r)
def deEk : List (Key × D) → Nat
  | [] => 0
  | (_, x) :: r => max (deE x) (deEk r)
end
def FrE (G : Gd) (F : Hp) (n : Nat) (x y : V) : Prop := ∃ d, okE d = true ∧ deE d ≤ n ∧ R G F d x ∧ R G F d y
theorem frE_rs {G : Gd} {F : Hp} {n : Nat} : ∀ {xs : List D} {vs us : List V}, okEs xs = true → deEs xs ≤ n → Rs G F xs vs → Rs G F xs us → PySem.Paired (FrE G F n) vs us
  | [], _, _, _, _, h1, h2 => by
    rw [show _ = [] from h1, show _ = [] from h2]
    exact .nil
  | x :: r, _, _, ho, hd, ⟨v, r1, e1, h1, g1⟩, ⟨u, r2, e2, h2, g2⟩ => by
    rw [okEs, Bool.and_eq_true] at ho
    rw [deEs] at hd
    rw [e1, e2]
    exact .cons ⟨x, ho.1, by omega, h1, h2⟩ (frE_rs ho.2 (by omega) g1 g2)
theorem dval_mem : ∀ {kvs : List (Key × D)} {k : Key} {d : D}, (kvs.map (·.1)).Nodup → (k, d) ∈ kvs → dval kvs k = some d
  | [], _, _, _, h => nomatch h
  | (k0, d0) :: r, k, d, hn, h => by
    rw [List.map_cons, List.nodup_cons] at hn
    unfold dval
    rw [List.find?_cons]
    rcases List.mem_cons.mp h with e | h
    · cases e
      simp
    · have hne : k0 ≠ k := fun e => hn.1 (e ▸ List.mem_map_of_mem (f := (·.1)) h)
      simp only [decide_eq_false hne]
      exact dval_mem hn.2 h
theorem frE_rk {G : Gd} {F : Hp} {n : Nat} {all : List (Key × D)} {ls : List (Key × V)} (hn : (all.map (·.1)).Nodup) (hl : Rk G F all ls) : ∀ {kvs : List (Key × D)} {ks : List (Key × V)}, (∀ q ∈ kvs, q ∈ all) → okEk kvs = true → deEk kvs ≤ n → Rk G F kvs ks → ∀ p ∈ ks, ∃ u, valV ls p.1 = some u ∧ FrE G F n p.2 u
  | [], ks, _, _, _, h, p, hp => by
    rw [show ks = [] from h] at hp
    cases hp
  | (k, d) :: r, ks, hs, ho, hd, ⟨v, r1, e1, h1, g1⟩, p, hp => by
    rw [okEk, Bool.and_eq_true] at ho
    rw [deEk] at hd
    rw [e1] at hp
    rcases List.mem_cons.mp hp with rfl | hp
    · have hv := Rk.val k hl
      rw [dval_mem hn (hs _ List.mem_cons_self)] at hv
      obtain ⟨u, e2, h2⟩ := hv
      exact ⟨u, e2, d, ho.1, by omega, h1, h2⟩
    · exact frE_rk hn hl (fun q hq => hs q (List.mem_cons_of_mem _ hq)) ho.2 (by omega) g1 p hp
section
variable {X : Cx} {G : Gd} {F : Hp} {pins : List (Addr × Obj)} {σ : L2.St} {H : Hp} {s : Shared}
theorem eqSame_rc (hK : X.K = G.K) (I : Inv X pins σ H s) (sub : ∀ a u, F a = some u → H a = some u) {A : Around} (hu : A.units < cLine) {n : Nat} (ih : ∀ x y v u, FrE G F n x y → RelV x v → RelV y u → SeqAt.EqP X.prog X.w A.in1 s v u true)
    {d : D} (hc : match d with | .lst _ => True | .tup _ => True | .dct _ => True | _ => False) (ho : okE d = true) (hd : deE d ≤ n + 1) {x y : V} {v u : Value} (r1 : R G F d x) (r2 : R G F d y) (rx : RelV x v) (ry : RelV y u)
    (E Q : Value → Shared → Prop) (q : Q (.bool true) s) : wpAny (model X.prog X.w) A (richCompare .Eq v u) Q E s := by
  cases d with
  | lst xs =>
    obtain ⟨a, vs, rfl, h1, h2⟩ := r1
    obtain ⟨b, us, rfl, h3, h4⟩ := r2
    cases (show v = Value.ref a from rx)
    cases (show u = Value.ref b from ry)
    obtain ⟨i1, q1, p1, _⟩ := I.list (SqL.of (K := X.K) (sub _ _ h1))
    obtain ⟨i2, q2, p2, _⟩ := I.list (SqL.of (K := X.K) (sub _ _ h3))
    have hp := frE_rs (show okEs xs = true from ho) (show deEs xs ≤ n by have : deEs xs + 1 ≤ n + 1 := hd; omega) h2 h4
    have hsz : i1.toArray.size = i2.toArray.size := by
      rw [List.size_toArray, List.size_toArray, ← q1.length, ← q2.length]
      exact Paired.length hp
    refine SeqAt.rcP_lists (e := fun _ => true) p1.isList p2.isList hsz hu (fun j h1 h2 => ?_) E Q ?_
    · have k := items_run ih hp q1 q2 j (by simpa using h1) (by simpa using h2)
      simpa using k
    · rw [show ((List.range i1.toArray.size).all fun _ => true) = true from List.all_eq_true.mpr fun _ _ => rfl]
      exact q
  | tup xs =>
    obtain ⟨a, vs, rfl, h1, h2⟩ := r1
    obtain ⟨b, us, rfl, h3, h4⟩ := r2
    cases (show v = Value.ref a from rx)
    cases (show u = Value.ref b from ry)
    have g1 : SqT X.K H a vs := by rw [hK]; exact sub_sqT sub h1.sq
    have g2 : SqT X.K H b us := by rw [hK]; exact sub_sqT sub h3.sq
    obtain ⟨i1, q1, p1, _⟩ := I.tuple g1
    obtain ⟨i2, q2, p2, _⟩ := I.tuple g2
    have hp := frE_rs (show okEs xs = true from ho) (show deEs xs ≤ n by have : deEs xs + 1 ≤ n + 1 := hd; omega) h2 h4
    have hsz : i1.toArray.size = i2.toArray.size := by
      rw [List.size_toArray, List.size_toArray, ← q1.length, ← q2.length]
      exact Paired.length hp
    refine SeqAt.zf_tuplesP p1 p2 hsz hu (fun j h1 h2 => ?_) E Q q
    have k := items_run ih hp q1 q2 j (by simpa using h1) (by simpa using h2)
    simpa using k
  | dct kvs =>
    obtain ⟨a, ks, rfl, ⟨o1, h1⟩, h2⟩ := r1
    obtain ⟨b, ls, rfl, ⟨o2, h3⟩, h4⟩ := r2
    cases (show v = Value.ref a from rx)
    cases (show u = Value.ref b from ry)
    obtain ⟨ya, _, _, _, _, va, _, _, ra, da⟩ := I.frzK (sub _ _ h1)
    obtain ⟨yb, _, _, _, _, vb, _, _, rb, db⟩ := I.frzK (sub _ _ h3)
    have ho' : (decide ((kvs.map (·.1)).Nodup) && okEk kvs) = true := ho
    rw [Bool.and_eq_true, decide_eq_true_eq] at ho'
    have hp := frE_rk (n := n) ho'.1 h4 (fun q h => h) ho'.2 (by have : deEk kvs + 1 ≤ n + 1 := hd; omega) h2
    refine PySem.W.rcP_dicts (knd := mixKind X.prog X.w) (r := true) ya yb da.dictOf db.dictOf hu (fun _ => hits_run ih rb ra hp) E Q ?_
    have e : va.length = vb.length := by rw [← ra.length, ← rb.length, Rk.len h2, Rk.len h4]
    rw [show (va.length == vb.length && true) = true from by rw [e]; simp]
    exact q
  | _ => exact hc.elim
theorem eqSame_run (hK : X.K = G.K) (I : Inv X pins σ H s) (sub : ∀ a u, F a = some u → H a = some u) : ∀ (n : Nat) (A : Around), A.units + n < cLine → ∀ (x y : V) (v u : Value), FrE G F n x y → RelV x v → RelV y u → SeqAt.EqP X.prog X.w A s v u true := by
  have flat : ∀ {A : Around} {d : D} {x y : V} {v u : Value}, flatD d = true → R G F d x → R G F d y → RelV x v → RelV y u → SeqAt.EqP X.prog X.w A s v u true := fun {A d x y v u} f r1 r2 rx ry => by
    obtain ⟨e1, f1⟩ := flat_v r1 f
    obtain ⟨e2, _⟩ := flat_v r2 f
    rw [e1] at rx
    rw [e2] at ry
    refine (eqAt_same rx ry ?_).eqP
    cases d <;> first | rfl | cases f
  have refs : ∀ {A : Around} {a b : Addr}, (∀ (E Q : Value → Shared → Prop), Q (.bool true) s → wpAny (model X.prog X.w) A (richCompare .Eq (.ref a) (.ref b)) Q E s) → SeqAt.EqP X.prog X.w A s (.ref a) (.ref b) true := fun {A a b} h => by
    by_cases e : a = b
    · subst e
      exact (SeqAt.EqAt.same _).eqP
    · exact SeqAt.eqP_refs e h
  intro n
  induction n with
  | zero =>
    intro A hu x y v u ⟨d, ho, hd, r1, r2⟩ rx ry
    cases d with
    | non => exact flat rfl r1 r2 rx ry
    | bl b => exact flat rfl r1 r2 rx ry
    | int b => exact flat rfl r1 r2 rx ry
    | str b => exact flat rfl r1 r2 rx ry
    | lst xs => exact absurd hd (by show ¬ deEs xs + 1 ≤ 0; omega)
    | tup xs => exact absurd hd (by show ¬ deEs xs + 1 ≤ 0; omega)
    | dct xs => exact absurd hd (by show ¬ deEk xs + 1 ≤ 0; omega)
    | _ => cases ho
  | succ n ih =>
    intro A hu x y v u ⟨d, ho, hd, r1, r2⟩ rx ry
    have ih' := ih A.in1 (by show A.units + 1 + n < cLine; omega)
    cases d with
    | non => exact flat rfl r1 r2 rx ry
    | bl b => exact flat rfl r1 r2 rx ry
    | int b => exact flat rfl r1 r2 rx ry
    | str b => exact flat rfl r1 r2 rx ry
    | lst xs =>
      have k := eqSame_rc hK I sub (A := A) (by omega) ih' (d := .lst xs) trivial ho hd r1 r2 rx ry
      obtain ⟨a, vs, rfl, h1, h2⟩ := r1
      obtain ⟨b, us, rfl, h3, h4⟩ := r2
      cases (show v = Value.ref a from rx)
      cases (show u = Value.ref b from ry)
      exact refs k
    | tup xs =>
      have k := eqSame_rc hK I sub (A := A) (by omega) ih' (d := .tup xs) trivial ho hd r1 r2 rx ry
      obtain ⟨a, vs, rfl, h1, h2⟩ := r1
      obtain ⟨b, us, rfl, h3, h4⟩ := r2
      cases (show v = Value.ref a from rx)
      cases (show u = Value.ref b from ry)
      exact refs k
    | dct xs =>
      have k := eqSame_rc hK I sub (A := A) (by omega) ih' (d := .dct xs) trivial ho hd r1 r2 rx ry
      obtain ⟨a, vs, rfl, h1, h2⟩ := r1
      obtain ⟨b, us, rfl, h3, h4⟩ := r2
      cases (show v = Value.ref a from rx)
      cases (show u = Value.ref b from ry)
      exact refs k
    | _ => cases ho
end
theorem dict_eq_declines_tuple {prog : Program} {w : World} {A : Around} {E : Value → Shared → Prop} {s : Shared} (l b : Addr) (ht : s.TypeIs (.ref l) "dict") (hb : s.TypeIs (.ref b) "tuple") (Q : Value → Shared → Prop) (h : Q .notImplemented s) : wpAny (model prog w) A (call (.builtin "dict.__eq__") [.ref l, .ref b]) Q E s := by
  refine wpAny_call_entry PySem.F.slot_dict_eq ht PySem.F.entry_dict_eq ?_ (PySem.F.args_dict_eq_2 _ _)
  show wpAny _ _ (Builtin.Dict.dictSlotArgs "__eq__" ⟨[.ref l, .ref b], []⟩ >>= _) _ _ s
  refine wpAny_bind ?_
  unfold Builtin.Dict.dictSlotArgs
  refine wpAny_bind (wpAny_notOrdered_dict ht ?_)
  show wpAny _ _ (pure (Value.ref l, Value.ref b)) _ _ s
  refine wpAny_pure ?_
  refine wpAny_bind (wpAny_isInstance (T := "tuple") hb PySem.F.sub_tuple_dict ?_)
  simp only [Bool.not_false, if_true]
  refine wpAny_bind (wpAny_rule ?_)
  exact wpAny_pure ⟨_, rfl, h⟩
theorem tuple_eq_declines_dict (l b : Addr) (xs : Array Value) (n : Nat) (dd : Option Addr) (sl : Array (Option Value)) (o : Obj) (es : Array DictEntry) (ep : Nat) (hc : o.cls = .type "dict") (hd : o.data = .dict es ep) :
    Meets (Builtin.«tuple.__eq__» ⟨[.ref l, .ref b], []⟩) (fun _ R s => s.heap.get? l = some { cls := .type "tuple", dict := dd, data := .seq xs n, slots := sl } ∧ s.heap.get? b = some o ∧ R (.ok (.ret .notImplemented)) s) :=
  .of_wp fun prog w A R s h => by
    obtain ⟨hp, g, d, tk, os⟩ := s
    obtain ⟨hl, hb, h⟩ := h
    obtain ⟨c, dd2, da, sl2⟩ := o
    simp only at hc hd
    subst hc hd
    have f1 := PySem.F.sub_dict_tuple
    wp_walk using PySem.AutoSeq1.wpAny_loadPart' hl, PySem.AutoSeq1.wpAny_loadPart' hb
    exact ⟨_, rfl, h⟩
theorem rc_tuple_dict {A : Around} {s : Shared} {l b : Addr} {xs : Array Value} {o : Obj} {es : Array DictEntry} {ep : Nat} (hl : s.heap.IsTuple l xs) (ho : s.heap.get? b = some o) (hc : o.cls = .type "dict") (hd : o.data = .dict es ep) (hu : A.units < cLine) : SeqAt.RcAt A s (.ref l) (.ref b) false := fun prog w E Q h => by
  obtain ⟨⟨c1, e1, t1, o1⟩, hol, k1, n, k2⟩ := id hl
  simp only at k1 k2
  subst k1 k2
  have hne : l ≠ b := fun e => by
    subst e
    rw [hol] at ho
    cases ho
    exact absurd hc (by simp)
  refine SeqAt.rc_eq_decline_or (k := false) ⟨_, hol, rfl⟩ ⟨_, ho, hc⟩ (by decide) PySem.F.sub_dict_tuple PySem.F.slot_tuple_eq PySem.F.slot_dict_eq_refl
    (fun _ hq => call_meets PySem.F.slot_tuple_eq ⟨_, hol, rfl⟩ PySem.F.entry_tuple_eq (PySem.F.args_tuple_eq_2 _ _) (tuple_eq_declines_dict l b xs n e1 o1 o es ep hc hd) ⟨hol, ho, hq⟩)
    (fun Q' hq => dict_eq_declines_tuple b l ⟨_, ho, hc⟩ ⟨_, hol, rfl⟩ Q' hq)
    (fun _ hq => SeqAt.wpAny_isSame_ref_other' hne hol ho (by rw [hc]; simp) hq) (.inr hu) h
def rEqTd (K : PySem.W.Frag) : R2 := fun x y H Q => ∃ a b xs kv, x = .ref a ∧ y = .ref b ∧ SqT K H a xs ∧ Rd H b (.dK kv) ∧ Q (.bl false) H
theorem op_eqTd {X : Cx} (hu0 : X.A.units + 200 < cLine) : OpR X (compareOp .Eq) (rEqTd X.K) := by
  intro pins s σ H x y v u Q I rx ry h
  obtain ⟨a, b, xs, kv, rfl, rfl, ha, hb, q⟩ := h
  obtain rfl : v = Value.ref a := rx
  obtain rfl : u = Value.ref b := ry
  have hu : X.A.units < cLine := by omega
  obtain ⟨i1, r1, l1, _⟩ := I.tuple ha
  obtain ⟨_, _, vs, _, o, es, ep, ho, hx, hd, _⟩ := hb.ok I.hok
  exact (rc_tuple_dict l1 ho hx.1 hd hu) X.prog X.w X.xe _ ⟨.bl false, H, I, rfl, q⟩
def gEqTd : Op2 := fun _ x y => match y with
  | .d (.dct _) => (vT x).map fun _ => .d (.bl false)
  | _ => none
theorem sim_eqTd {G : Gd} : Sim2 G (rEqTd G.K) gEqTd := by
  refine ⟨fun {F θ H0 H S env σ fp x y vx vy fx fy z Q} st rx ry e l k => ?_⟩
  unfold gEqTd at e
  split at e
  · rename_i kvs
    obtain ⟨xs, e1, e2⟩ := Option.map_eq_some_iff.mp e
    cases e2
    obtain ⟨a, vs, h1, h2, _⟩ := vT_ok st rx e1
    obtain ⟨b, kv, h3, ⟨o, h4⟩, _⟩ := (show R G F (.dct kvs) vy from ry.rw.dAt)
    exact ⟨a, b, vs, kv, h1, h3, h2, .inr ⟨o, st.sub _ _ h4⟩, k F θ H _ _ (.refl ..) st (.d rfl)⟩
  · cases e
mutual
def sameB : D → D → Bool
  | .non, .non => true
  | .bl a, .bl b => a == b
  | .int a, .int b => decide (a = b)
  | .str a, .str b => decide (a = b)
  | .lst xs, .lst ys => sameBs xs ys
  | .tup xs, .tup ys => sameBs xs ys
  | .dct xs, .dct ys => sameBk xs ys
  | _, _ => false
def sameBs : List D → List D → Bool
  | [], [] => true
  | x :: xs, y :: ys => sameB x y && sameBs xs ys
  | _, _ => false
def sameBk : List (Key × D) → List (Key × D) → Bool
  | [], [] => true
  | (k, x) :: xs, (l, y) :: ys => decide (k = l) && (sameB x y && sameBk xs ys)
  | _, _ => false
end
mutual
theorem sameB_ok : ∀ (x y : D), sameB x y = true → x = y
  | .non, y, h => by cases y <;> first | rfl | cases h
  | .bl a, y, h => by
    cases y with
    | bl b => rw [show a = b from by simpa [sameB] using h]
    | _ => cases h
  | .int a, y, h => by
    cases y with
    | int b => rw [show a = b from by simpa [sameB] using h]
    | _ => cases h
  | .str a, y, h => by
    cases y with
    | str b => rw [show a = b from by simpa [sameB] using h]
    | _ => cases h
  | .lst xs, y, h => by
    cases y with
    | lst ys => rw [sameBs_ok xs ys h]
    | _ => cases h
  | .tup xs, y, h => by
    cases y with
    | tup ys => rw [sameBs_ok xs ys h]
    | _ => cases h
  | .dct xs, y, h => by
    cases y with
    | dct ys => rw [sameBk_ok xs ys h]
    | _ => cases h
  | .ro _, y, h => by cases y <;> cases h
  | .dtp _, y, h => by cases y <;> cases h
  | .st _, y, h => by cases y <;> cases h
  | .ins _ _, y, h => by cases y <;> cases h
theorem sameBs_ok : ∀ (xs ys : List D), sameBs xs ys = true → xs = ys
  | [], ys, h => by
    cases ys with
    | nil => rfl
    | cons _ _ => cases h
  | x :: xs, ys, h => by
    cases ys with
    | nil => cases h
    | cons y ys =>
      rw [sameBs, Bool.and_eq_true] at h
      rw [sameB_ok x y h.1, sameBs_ok xs ys h.2]
theorem sameBk_ok : ∀ (xs ys : List (Key × D)), sameBk xs ys = true → xs = ys
  | [], ys, h => by
    cases ys with
    | nil => rfl
    | cons _ _ => cases h
  | (k, x) :: xs, ys, h => by
    cases ys with
    | nil => cases h
    | cons q ys =>
      obtain ⟨l, y⟩ := q
      rw [sameBk, Bool.and_eq_true, Bool.and_eq_true, decide_eq_true_eq] at h
      rw [h.1, sameB_ok x y h.2.1, sameBk_ok xs ys h.2.2]
end
def contB : D → Bool
  | .lst _ => true
  | .tup _ => true
  | .dct _ => true
  | _ => false
def rEqSame (K : PySem.W.Frag) : R2 := fun x y H Q => ∃ (G : Gd) (F : Hp) (d : D), K = G.K ∧ (∀ a u, F a = some u → H a = some u) ∧ contB d = true ∧ okE d = true ∧ deE d ≤ 60 ∧ R G F d x ∧ R G F d y ∧ Q (.bl true) H
theorem op_eqSame {X : Cx} (hu : X.A.units + 200 < cLine) : OpR X (compareOp .Eq) (rEqSame X.K) := by
  intro pins s σ H x y v u Q I rx ry h
  obtain ⟨G, F, d, hK, sub, hc, ho, hd, r1, r2, q⟩ := h
  refine eqSame_rc hK I sub (A := X.A) (by omega) (eqSame_run hK I sub 60 X.A.in1 (by show X.A.units + 1 + 60 < cLine; omega)) ?_ ho (by omega) r1 r2 rx ry _ _ ⟨.bl true, H, I, rfl, q⟩
  cases d <;> first | trivial | cases hc
def gEqSame : Op2 := fun _ x y => match x, y with
  | .d a, .d b => if contB a = true ∧ okE a = true ∧ deE a ≤ 60 ∧ sameB a b = true then some (.d (.bl true)) else none
  | _, _ => none
theorem sim_eqSame {G : Gd} : Sim2 G (rEqSame G.K) gEqSame := by
  refine ⟨fun {F θ H0 H S env σ fp x y vx vy fx fy z Q} st rx ry e l k => ?_⟩
  unfold gEqSame at e
  split at e
  · rename_i a b
    split at e
    · rename_i h
      cases e
      obtain ⟨h1, h2, h3, h4⟩ := h
      have e := sameB_ok a b h4
      exact ⟨G, F, a, rfl, st.sub, h1, h2, h3, rx.rw.dAt, e ▸ ry.rw.dAt, k F θ H _ _ (.refl ..) st (.d rfl)⟩
    · cases e
  · cases e
def gEqZ : Op2 := fun S x y => ((gEqA S x y).or (gEqSame S x y)).or (gEqTd S x y)
section
variable {X : Cx} {G : Gd} {a b : Expr} {ma mb : ME} {pos : Pos} {k : Nat}
theorem z_eqZU (hu : X.A.units + 200 < cLine) (ha : PE X a (tOf G ma)) (hb : PE X b (tOf G mb)) (hK : X.K = G.K := by rfl) : PE X (.Compare a [.Eq] [b] pos) (tOf G (mBin gEqZ ma mb)) :=
  z_cmp ((((op_eq.or (op_eqD (by omega))).or (op_eqLen hu)).or (op_eqSame hu)).or (op_eqTd hu)) ((((sim_eqS.or (by rw [hK]; exact sim_eqP)).or (by rw [hK]; exact sim_eqLen)).or (by rw [hK]; exact sim_eqSame)).or (by rw [hK]; exact sim_eqTd)) ha hb (nomark _)
end
end Zf
set_option maxHeartbeats 4000000
namespace Zf
open PySem PySem.Spec PyProof.Rows L2
end Zf
set_option maxHeartbeats 2000000
namespace Zf
open PySem PySem.Spec PyProof.Rows L2
end Zf
namespace Zf
open PySem PySem.Spec PyProof.Rows L2 L2H
end Zf
namespace Zf
open PySem PySem.Spec PyProof.Rows L2
section
variable {G : Gd} {F : Hp} {θ : Th} {H : Hp}
end
theorem St.pub {G : Gd} {F H : Hp} {θ : Th} {S : Store} {env : En} {σ : L2.St} {fp : List Addr} {a : Addr} {ws : List W} {vs : List V} (s : St G F θ H S env σ fp) (fa : F a = none) (ta : a ∉ θ) (pa : a ∉ fp) (cA : CellAt F H a vs) (r : RWs G F θ H ws vs []) : St G F (θ ++ [a]) H (S ++ [ws]) env σ fp := by
  have th : ∀ (n : Nat) b, θ[n]? = some b → (θ ++ [a])[n]? = some b := fun n b e => by
    rw [List.getElem?_append_left (List.getElem?_eq_some_iff.mp e).1]
    exact e
  refine ⟨s.sub, ⟨by rw [List.length_append, List.length_append, s.store.len]; rfl, ?_, fun n ys e => ?_⟩, RE.move (.refl F) th ln_id env σ fp (fun _ _ _ h => h) s.env, s.nd, fun b hb => ⟨(s.apart b hb).1, fun z => ?_⟩⟩
  · exact List.nodup_append.mpr ⟨s.store.nd, by simp, fun b hb c hc z => ta (by rw [← List.mem_singleton.mp hc, ← z]; exact hb)⟩
  · by_cases hn : n < S.length
    · rw [List.getElem?_append_left hn] at e
      obtain ⟨b, us, q1, q2, q3, q4⟩ := s.store.cellR n ys e
      exact ⟨b, us, th n b q1, q2, q3, RWs.move (.refl F) th ln_id ys us [] (fun _ _ _ h => h) q4⟩
    · have hl := (List.getElem?_eq_some_iff.mp e).1
      rw [List.length_append, List.length_singleton] at hl
      have en : n = S.length := by omega
      subst en
      rw [List.getElem?_append_right (Nat.le_refl _), Nat.sub_self] at e
      have e' : ws = ys := by simpa using e
      subst e'
      exact ⟨a, vs, by rw [← s.store.len, List.getElem?_append_right (Nat.le_refl _), Nat.sub_self]; rfl, fa, cA, RWs.move (.refl F) th ln_id _ _ [] (fun _ _ _ h => h) r⟩
  · rcases List.mem_append.mp z with z | z
    · exact (s.apart b hb).2 z
    · rw [List.mem_singleton.mp z] at hb
      exact pa hb
structure ObjOk (G : Gd) (c : Nat) (f : Str) : Prop where
  cls : Cls G.K (G.cls c)
  na : NoAttr G.K (G.cls c) f
theorem Tr.pub {F F1 H H1 : Hp} {θ θ1 : Th} {a : Addr} (t1 : Tr F θ H F1 θ1 H1) (h0 : H a = none) : Tr F θ H F1 (θ1 ++ [a]) H1 :=
  ⟨t1.le, let ⟨m, hm⟩ := t1.th; ⟨m ++ [a], by rw [hm, List.append_assoc]⟩, fun b h1 h2 => (t1.newF b h1 h2).imp_right fun ⟨z1, vs, z2⟩ => ⟨fun z => (List.mem_append.mp z).elim z1 fun z => (by rw [List.mem_singleton.mp z, h0] at z2; cases z2), vs, z2⟩, fun b h1 h2 => by
    rcases List.mem_append.mp h1 with z | z
    · exact t1.newT b z h2
    · rw [List.mem_singleton.mp z]
      exact h0, t1.keep, t1.live⟩
def notD : W → Bool
  | .d _ => false
  | _ => true
def mTupW (ms : MA) : ME := fun env S => (ms env S).bind fun p => if p.1.length ≤ cap ∧ p.1.all isArg = true ∧ p.1.any notD = true then some (.c .tup p.2.length, p.2 ++ [p.1]) else none
theorem any_ref {G : Gd} {F : Hp} {θ : Th} {H : Hp} : ∀ {ws : List W} {vs : List V} {f : List Addr}, RWs G F θ H ws vs f → ws.all isArg = true → ws.any notD = true → ∃ b, V.ref b ∈ vs
  | [], _, _, _, _, h => by cases h
  | w :: ws, _, _, ⟨v, r, f1, f2, h1, h2, h3, _⟩, ha, h => by
    rw [List.all_cons, Bool.and_eq_true] at ha
    rw [h1]
    cases w with
    | d x =>
      obtain ⟨b, hb⟩ := any_ref h3 ha.2 h
      exact ⟨b, List.mem_cons_of_mem _ hb⟩
    | r n =>
      obtain ⟨⟨a, e, _⟩, _⟩ := h2
      exact ⟨a, by rw [e]; exact List.mem_cons_self⟩
    | c k n =>
      obtain ⟨⟨a, e, _⟩, _⟩ := h2
      exact ⟨a, by rw [e]; exact List.mem_cons_self⟩
    | ev c g x =>
      obtain ⟨a, _, e, _⟩ := h2
      exact ⟨a, by rw [e]; exact List.mem_cons_self⟩
    | _ => cases ha.1
theorem z_tupW {X : Cx} {G : Gd} {es : List Expr} {ms : MA} {pos : Pos} {x1} (h : PA X es (tOfA G ms)) : PE X (.Tuple es x1 pos) (tOf G (mTupW ms)) := by
  refine pe_imp (pe_tup h) fun σ H Q h => ?_
  obtain ⟨F, θ, S, env, fp, w, S', st, e, k⟩ := h
  unfold mTupW at e
  obtain ⟨⟨ws, S1⟩, e1, e⟩ := Option.bind_eq_some_iff.mp e
  dsimp only at e
  split at e
  · rename_i hl
    obtain ⟨hl, hA, hW⟩ := hl
    cases e
    refine ⟨F, θ, S, env, fp, ws, _, st, e1, fun F1 θ1 H1 vs t1 st1 rs => ?_⟩
    have ra := rs.args hA
    refine ⟨by rw [ra.len]; exact cap_ok hl, fun p hp => ?_⟩
    obtain ⟨t2, st2, f2, n2, p2⟩ := st1.new0 hp (.tup vs)
    have ra2 := RWs.mono t2 ws vs [] (fun _ h => absurd h List.not_mem_nil) ra
    have h0 : H p = none := t1.back hp
    have st3 := st2.pub f2 n2 p2 (.inr (.inl ⟨upd_same, any_ref ra hA hW⟩)) ra2
    refine k _ _ _ _ [] ((t1.trans t2).pub h0) st3 (Res.arg ⟨⟨p, rfl, ?_⟩, rfl, p, _, _, rfl, upd_same, rfl, rfl⟩ rfl)
    rw [← st1.store.len, List.getElem?_append_right (Nat.le_refl _), Nat.sub_self]
    rfl
  · cases e
end Zf
set_option maxHeartbeats 4000000
namespace Zf
open PySem PySem.Spec PyProof.Rows L2
end Zf
set_option maxHeartbeats 2000000
namespace L2
open PySem PySem.Spec PyProof.Rows
section
variable {X : Cx} {e : Expr} {es : List Expr} {ta : TA} {p pos : Pos}
def tMkV (C : Addr) (sp : Sp) (ta : TA) : TE := fun σ H Q => ta σ H fun vs H1 => vs.length ≤ 1000 ∧ ∀ a, H1 a = none → sp (.ref a :: vs) (upd H1 a (exo a C none)) (fun v H2 => v = .non ∧ Q (.ref a) H2) (fun _ _ _ => False)
theorem pe_oexV {CX : CXT} {x : Str} {C fI : Addr} {k : Nat} {fd : FuncData} {ps : List Str} {sp : Sp} (T : OexC X.K C) (iC : PySem.W.findIn X.K (.ref C) "__init__" = some (some (.ref fI))) (tI : PySem.W.typeIn X.K (.ref fI) = some (.type "function"))
    (F1 : FnOk X.prog X.w X.K X.mg X.base CX k fI fd ps sp) (hr : Room (k + 1) X.A) (hb : Binds X.K fd ps []) (hx : Passes CX X (fun _ _ _ => False)) (hg : Gl X x) (hm : X.mg x = some (.ref C)) (ha : PA X (e :: es) ta)
    (hdb : (x == ("__debug__" : Str)) = false := by decide) (he : starEach (e :: es) X.env = (false, eval e X.env) :: starEach es X.env := by rfl) (hpl : (backTo pos (starEach es X.env)).any (·.1) = false := by rfl) :
    PE X (.Call (.Name x p) (e :: es) [] pos) (tMkV C sp ta) := by
  refine ⟨fun pins s σ H Q I h => ?_⟩
  obtain ⟨nm, q, N, bs, bm, sn, sub, ab, col, dd, k0, k1, k2, k3, k5, hC, hbm⟩ := T.cls
  refine wpAny_Call_Name_kw (ld_glob I hg hm ?_ hdb)
  refine PySem.W.callWith_K (h₀ := X.base) I.ok.mod.kin T.kC (thn (ha.run pos pins s σ H _ I h) fun us s1 ⟨vs, H1, I1, r1, hz, q1⟩ => ⟨I1.kIn, ?_⟩) he hpl
  show wpAny _ _ (call (.ref C) us) _ _ _
  obtain ⟨hp, g, dr, tk, os⟩ := s1
  have hsz : hp.objs.size ≤ hp.objs.size + 1 := Nat.le_succ _
  have hn : H1 (hp.objs.size + 1) = none := I1.hok.fresh hsz
  have hq := q1 (hp.objs.size + 1) hn
  have kk : ∀ b o, hp.get? b = some o → ((hp.push (PySem.W.kdv_tup us)).push (PySem.HandSPX.excO C hp.objs.size)).get? b = some o := fun b o e => Heap.get?_push_of_some _ (Heap.get?_push_of_some _ e)
  have hget : ((hp.push (PySem.W.kdv_tup us)).push (PySem.HandSPX.excO C hp.objs.size)).get? (hp.objs.size + 1) = some (PySem.HandSPX.excO C hp.objs.size) := by heap_get
  have I2 : Inv X pins σ (upd H1 (hp.objs.size + 1) (exo (hp.objs.size + 1) C none)) ⟨(hp.push (PySem.W.kdv_tup us)).push (PySem.HandSPX.excO C hp.objs.size), g, dr, tk, os⟩ :=
    I1.laid (t' := tk) (a := hp.objs.size + 1) (o := exo (hp.objs.size + 1) C none) (h' := (hp.push (PySem.W.kdv_tup us)).push (PySem.HandSPX.excO C hp.objs.size)) kk hsz (exo_ok hget)
  have r2 : Vals (V.ref (hp.objs.size + 1) :: vs) (Value.ref (hp.objs.size + 1) :: us) := .cons rfl r1
  have hl : (Value.ref (hp.objs.size + 1) :: us ++ []).length = ps.length := by
    have e := r2.length
    rw [F1.len _ _ _ _ hq] at e
    rw [List.append_nil]
    exact e.symm
  have hus : us.length ≤ sizeLine := by
    rw [← Paired.length r1, sizeLine_eq]
    omega
  have b := hb ⟨(hp.push (PySem.W.kdv_tup us)).push (PySem.HandSPX.excO C hp.objs.size), g, dr, tk, os⟩ (Value.ref (hp.objs.size + 1) :: us) I2.kIn hl
  rw [List.append_nil] at b
  refine wpAny_call (PySem.HandSPX.call_own F.excBase_ValueError (fun Y => PySem.HandSPX.refsVE_contains Y bm hbm) (I1.kIn _ _ hC) (PySem.W.looks_findIn I1.kIn iC) (fun self => PySem.W.bind_fn I1.kIn self tI) hus
    (codeAny_mono (F1.run _ X.stack _ _ ⟨Value.ref (hp.objs.size + 1) :: us, []⟩ (Value.ref (hp.objs.size + 1) :: us) _ _ (fun _ _ _ => False) (hr.make C us []) (I2.env0.make C us []) b r2 hq) fun r s' hq' => ?_))
  cases r with
  | error er => exact hx pins σ _ _ er s' I2 hq'
  | ok fl =>
    cases fl with
    | ret u =>
      obtain ⟨v, H2, I3, rv, ev, q2⟩ := I2.after hq'
      subst ev
      exact ⟨rv, .ref (hp.objs.size + 1), H2, I3, rfl, q2⟩
    | next => exact False.elim hq'
    | brk => exact False.elim hq'
    | cont => exact False.elim hq'
theorem pe_exc0 {C : Addr} {bmB : List Value} {B newId initId : String} {x : Str} {p pos : Pos} (F : ExcBaseFacts B newId initId bmB) (q : PySem.W.excIn X.K C bmB newId = true) (gC : X.mg x = some (.ref C)) (kC : PySem.W.keepIn X.K (.ref C) = true) (hg : Gl X x)
    (hdb : (x == ("__debug__" : Str)) = false := by decide) :
    PE X (.Call (.Name x p) [] [] pos) (fun σ H Q => ∀ a, H a = none → Q (.ref a) (upd H a (ExO (.ref C) a))) := by
  refine ⟨fun pins s σ H Q I h => ?_⟩
  refine wpAny_Call_Name_kw (ld_glob I hg gC ?_ hdb)
  refine PySem.W.callWith_K0 I.kIn kC ?_
  show wpAny _ _ (call (.ref C) []) _ _ _
  obtain ⟨bm, N, nm, qn, bs, hdct, sn, sub, ab, col, dd, k0, k1, k2, k3, k5, mN, hC, hN, hni, T⟩ := exc_obj I.kIn q
  refine wpAny_call_exc_subT F T hC hN hni (fun h' a hm => ?_) (by show 0 ≤ sizeLine; rw [sizeLine_eq]; omega)
  have hn : H a = none := I.hok.gone hm.new
  obtain ⟨t, ht, _, _⟩ := hm.there
  exact ⟨.ref a, upd H a (ExO (.ref C) a), I.laidN hm.keeps hm.new hn (exO_ok ht ⟨rfl, rfl⟩ rfl rfl rfl (show 4 < 6 by decide)), rfl, h a hn⟩
end
def EvH (H : Hp) (a D : Addr) : Prop := (∃ d fs, H a = some (exo a D (some d)) ∧ H d = some (exd d fs)) ∨ H a = some (ExO (.ref D) a)
theorem EvH.inst {X : Cx} {pins : List (Addr × Obj)} {σ : St} {H : Hp} {s : Shared} {a D : Addr} (I : Inv X pins σ H s) (h : EvH H a D) : ∃ oe od, PySem.W.InstAt s.heap a oe D od := by
  rcases h with ⟨d, fs, h1, h2⟩ | h1
  · obtain ⟨t1, ho⟩ := exo_at I.hok h1
    obtain ⟨mA, hns, _⟩ := exd_at I.hok h2
    obtain ⟨od, hd, _⟩ := lookIn_ns hns
    exact ⟨_, some od, ho, rfl, rfl, hd⟩
  · obtain ⟨⟨oe, vs, ho, hz, hd, _⟩, _, _⟩ := I.hok a _ h1
    obtain ⟨oc, odi, oda, osl⟩ := oe
    obtain ⟨e1, e2⟩ := hz
    dsimp only at e1 e2 hd
    subst e1 e2 hd
    exact ⟨_, none, ho, rfl, rfl, trivial⟩
end L2
namespace Zf
open PySem PySem.Spec PyProof.Rows L2
def rIsV (K : PySem.W.Frag) : List V → Hp → VK → Prop := fun xs H Q => ∃ (a D : Addr) (c : V) (cv : Value) (b : Bool), EvH H a D ∧ ExD K D ∧ xs = [.ref a, c] ∧ (∀ u, RelV c u → u = cv) ∧ PySem.W.kitOne K (.ref D) cv = some b ∧ Q (.bl b) H
theorem call_isV {X : Cx} : CallR X (.builtin "isinstance") (rIsV X.K) := by
  intro pins s σ H xs us Q I r h
  obtain ⟨a, D, c, cv, b, hE, E, rfl, hcv, e, q⟩ := h
  obtain ⟨u1, u2, rfl, rx, rt⟩ := r.two
  obtain rfl : u1 = Value.ref a := rx
  obtain rfl := hcv _ rt
  obtain ⟨oe, od, J⟩ := hE.inst I
  exact PySem.W.kia_one (PySem.W.kitx_exc E.hcl E.hga E.hgt E.hs E.ha E.hn E.ht E.hm) I.kIn J e (fun z => nomatch z) fun tk => ⟨.bl b, H, I.kept (t' := tk) fun _ _ z => z, rfl, q⟩
def tXv (K : PySem.W.Frag) (f : Str) (te : TE) : TE := fun σ H Q => te σ H fun x H1 => ∃ (a C dd : Addr) (fs : List (Str × V)) (v : V), x = .ref a ∧ XfC K C ∧ PySem.W.findIn K (.ref C) f = some none ∧ H1 a = some (exo a C (some dd)) ∧ H1 dd = some (exd dd fs) ∧ fs.lookup f = some v ∧ Q v H1
theorem pe_xv {X : Cx} {e : Expr} {te : TE} {pos : Pos} {n : Str} (he : PE X e te) (hb : attributeBase e n X.env (eval e X.env) = eval e X.env := by rfl) : PE X (.Attribute e n pos) (tXv X.K n te) := by
  refine ⟨fun pins s σ H Q I h => ?_⟩
  refine attr_of hb (thn (he.run pins s σ H _ I h) fun u s1 hh => ?_)
  obtain ⟨x, H1, I1, rx, a, C, dd, fs, v, ex, T, hno, e1, e2, l, q⟩ := hh
  subst ex
  obtain rfl : u = Value.ref a := rx
  obtain ⟨t1, ho⟩ := exo_at I1.hok e1
  obtain ⟨mA, hns, hr⟩ := exd_at I1.hok e2
  obtain ⟨od, hd, hl⟩ := lookIn_ns hns
  obtain ⟨u, hu, ru⟩ := RelO.some_of (v := v) (o := mA n) (by rw [← l]; exact hr n)
  have J : PySem.W.InstAt s1.heap a _ C (some od) := ⟨ho, rfl, rfl, hd⟩
  exact HandSPX.exc_get I1.kIn J T.ga T.gg T.exC (PySem.W.findObj_own T.hdC hno rfl (by rw [hl, hu])) (handed_of ru) ⟨v, H1, I1.tok _, ru, q⟩
def mMkEv (c : Nat) (f : Str) (m : ME) : ME := fun env S => (m env S).bind fun p => if isArg p.1 = true then some (.ev c f p.1, p.2) else none
def mMkE0 (c : Nat) : ME := fun _ S => some (.ev c "" (.d .non), S)
def mMkE1 (c : Nat) (m : ME) : ME := fun env S => (m env S).bind fun p => some (.ev c "" (.d .non), p.2)
def mIsV (tb : Nat → Option Bool) (m : ME) : ME := fun env S => (m env S).bind fun p => match p.1 with
  | .ev c _ _ => (tb c).map fun b => (.d (.bl b), p.2)
  | _ => none
def mEvF (fn : Nat → Option Unit) (f : Str) (m : ME) : ME := fun env S => (m env S).bind fun p => match p.1 with
  | .ev c g w => if g = f then (fn c).map fun _ => (w, p.2) else none
  | _ => none
section
variable {X : Cx} {G : Gd} {e : Expr} {m : ME} {c j k : Nat} {x : Str} {p p1 pos : Pos}
theorem spX_id {H : Hp} {a dx : Addr} {u1 u2 u3 : HO} (na : H a = none) (ne : dx ≠ a) : upd (upd (upd H a u1) dx u2) a u3 = upd (upd H dx u2) a u3 := by
  funext b
  by_cases h : b = a
  · rw [h, upd_same, upd_same]
  · rw [upd_ne h, upd_ne h]
    by_cases h2 : b = dx
    · rw [h2, upd_same, upd_same]
    · rw [upd_ne h2, upd_ne h2, upd_ne h]
theorem z_mkEv {f : Str} (E : ExC G X.mg X.base x c j) (hf : G.exn c = f) (hr : Room k X.A) (hj : j + 1 ≤ k) (hg : Gl X x) (he : PE X e (tOf G m))
    (hdb : (x == ("__debug__" : Str)) = false := by decide) (hst : starEach [e] X.env = (false, eval e X.env) :: starEach [] X.env := by rfl) (hpl : (backTo pos (starEach [] X.env)).any (·.1) = false := by rfl) (hG : X.prog = G.P ∧ X.w = G.w ∧ X.K = G.K := by exact ⟨rfl, rfl, rfl⟩) :
    PE X (.Call (.Name x p) [e] [] pos) (tOf G (mMkEv c f m)) := by
  obtain ⟨h1, h2, h3⟩ := hG
  obtain ⟨fI, fd, ps, iC, tI, F1, hb⟩ := E.ex
  refine pe_imp (pe_oexV (CX := CX0) (T := by rw [h3]; exact E.T) (iC := by rw [h3]; exact iC) (tI := by rw [h3]; exact tI) (F1 := by rw [h1, h2, h3]; exact F1) (hr := hr.mono hj) (hb := by rw [h3]; exact hb) (hx := (fun _ _ _ _ _ _ _ h => (show False from h).elim : Passes CX0 X fun _ _ _ => False)) hg E.hm (pa_cons he pa_nil hst) hdb hst hpl) fun σ H Q h => ?_
  obtain ⟨F, θ, S, env, fp, w, S', st, e, kk⟩ := h
  unfold mMkEv at e
  obtain ⟨⟨w0, S1⟩, e1, e⟩ := Option.bind_eq_some_iff.mp e
  dsimp only at e
  split at e
  · rename_i ha
    cases e
    refine ⟨F, θ, S, env, fp, _, _, st, e1, fun F1 θ1 H1 v g t1 s1 r => ?_⟩
    refine ⟨by simp, fun a na => ⟨a, v, rfl, upd_same, fun dx nd ne => ⟨rfl, ?_⟩⟩⟩
    rw [upd_ne ne] at nd
    rw [spX_id na ne, hf]
    have hg0 : g = [] := arg_nil r.rw ha
    obtain ⟨t2, s2⟩ := s1.new nd (exd dx [(f, v)])
    have na2 : upd H1 dx (exd dx [(f, v)]) a = none := by rw [upd_ne (Ne.symm ne)]; exact na
    obtain ⟨t3, s3⟩ := s2.new na2 (exo a (G.cls c) (some dx))
    refine kk _ θ1 _ _ [] ((t1.trans t2).trans t3) s3 ⟨⟨a, v, rfl, .inl ⟨dx, upd_same, ?_⟩, ?_, rfl⟩, .nil, fun _ h => absurd h (by simp), fun _ h => absurd h (by simp), fun h => h.elim⟩
    · rw [upd_ne ne, upd_same]
    · have q := r.rw
      rw [hg0] at q
      exact RW.mono t3 w0 v [] (fun _ h => absurd h (by simp)) (RW.mono t2 w0 v [] (fun _ h => absurd h (by simp)) q)
  · cases e
structure Ex0 (G : Gd) (mg : Str → Option Value) (x : Str) (c : Nat) : Prop where
  q : PySem.W.excIn G.K (G.cls c) PySem.HandSPX.veTail "ValueError.__new__" = true
  hm : mg x = some (.ref (G.cls c))
  kC : PySem.W.keepIn G.K (.ref (G.cls c)) = true
  ty : PySem.W.typeIn G.K (.ref (G.cls c)) = some (.type "type")
  sb : PySem.W.subIn G.K (.ref (G.cls c)) (.type "BaseException") = some true
theorem Ex0.mk' {G : Gd} {mg : Str → Option Value} {x : Str} {c : Nat} (hc : G.cls c = He.ga G.K x) (hm : mg x = some (.ref (He.ga G.K x))) (h : ex0B x G.K = true) : Ex0 G mg x c := by
  obtain ⟨h1, h⟩ := He.ba h
  obtain ⟨h2, h⟩ := He.ba h
  obtain ⟨h3, h4⟩ := He.ba h
  exact ⟨by rw [hc]; exact h1, by rw [hc]; exact hm, by rw [hc]; exact h2, by rw [hc]; exact of_decide_eq_true h3, by rw [hc]; exact of_decide_eq_true h4⟩
theorem St.newE0 {F H : Hp} {θ : Th} {S : Store} {env : En} {σ : L2.St} {fp : List Addr} (s : St G F θ H S env σ fp) {a : Addr} (na : H a = none) (c : Nat) (H0 : Hp) (fp0 : List Addr) :
    Tr F θ H (upd F a (ExO (.ref (G.cls c)) a)) θ (upd H a (ExO (.ref (G.cls c)) a)) ∧ St G (upd F a (ExO (.ref (G.cls c)) a)) θ (upd H a (ExO (.ref (G.cls c)) a)) S env σ fp ∧ Res G H0 fp0 (upd F a (ExO (.ref (G.cls c)) a)) θ (upd H a (ExO (.ref (G.cls c)) a)) (.ev c "" (.d .non)) (.ref a) [] := by
  obtain ⟨t, s2⟩ := s.new na (ExO (.ref (G.cls c)) a)
  exact ⟨t, s2, ⟨a, .non, rfl, .inr ⟨rfl, upd_same⟩, ⟨rfl, rfl⟩, rfl⟩, .nil, fun _ h => absurd h (by simp), fun _ h => absurd h (by simp), fun h => h.elim⟩
theorem z_mkE0 (E : Ex0 G X.mg x c) (hg : Gl X x) (hdb : (x == ("__debug__" : Str)) = false := by decide) (hK : X.K = G.K := by rfl) : PE X (.Call (.Name x p) [] [] pos) (tOf G (mMkE0 c)) := by
  refine pe_imp (pe_exc0 PySem.F.excBase_ValueError (by rw [hK]; exact E.q) E.hm (by rw [hK]; exact E.kC) hg hdb) fun σ H Q h => ?_
  obtain ⟨F, θ, S, env, fp, w, S', st, e, kk⟩ := h
  cases e
  intro a na
  obtain ⟨t, s2, r⟩ := st.newE0 na c H fp
  exact kk _ θ _ _ [] t s2 r
theorem z_mkE1 (E : Ex0 G X.mg x c) (hg : Gl X x) (he : PE X e (tOf G m)) (hs : starEach [e] X.env = (false, eval e X.env) :: starEach [] X.env := by rfl) (hdb : (x == ("__debug__" : Str)) = false := by decide) (hK : X.K = G.K := by rfl) : PE X (.Call (.Name x p) [e] [] pos) (tOf G (mMkE1 c m)) := by
  refine pe_imp (pe_exc1 PySem.F.excBase_ValueError (by rw [hK]; exact E.q) E.hm (by rw [hK]; exact E.kC) hg he hs hdb) fun σ H Q h => ?_
  obtain ⟨F, θ, S, env, fp, w, S', st, e, kk⟩ := h
  unfold mMkE1 at e
  obtain ⟨⟨w0, S1⟩, e1, e⟩ := Option.bind_eq_some_iff.mp e
  cases e
  refine ⟨F, θ, S, env, fp, _, _, st, e1, fun F1 θ1 H1 v g t1 s1 r a na => ?_⟩
  obtain ⟨t, s2, r⟩ := s1.newE0 na c H fp
  exact kk _ θ1 _ _ [] (t1.trans t) s2 r
theorem EvAt.evH {F H : Hp} {a : Addr} {c : Nat} {f : Str} {y : V} (h : EvAt G F a c f y) (sub : ∀ a u, F a = some u → H a = some u) : EvH H a (G.cls c) :=
  h.imp (fun ⟨dx, h1, h2⟩ => ⟨dx, _, sub _ _ h1, sub _ _ h2⟩) fun ⟨_, h2⟩ => sub _ _ h2
theorem z_isV {u : Value} {tb : Nat → Option Bool} (hE : ∀ c b, tb c = some b → ExD X.K (G.cls c) ∧ PySem.W.kitOne X.K (.ref (G.cls c)) u = some b) (hg : Gl X "isinstance") (hm : X.mg "isinstance" = none) (he : PE X e (tOf G m)) (hgx : Gl X x) (hmx : X.mg x = some u) {cv : V} (rc : RelV cv u) (one : ∀ w, RelV cv w → w = u)
    (hdx : (x == ("__debug__" : Str)) = false := by decide) (h1 : starEach (e :: [.Name x p1]) X.env = (false, eval e X.env) :: starEach [.Name x p1] X.env := by rfl) (h2 : (backTo pos (starEach [.Name x p1] X.env)).any (·.1) = false := by rfl) :
    PE X (.Call (.Name "isinstance" p) [e, .Name x p1] [] pos) (tOf G (mIsV tb m)) := by
  refine pe_imp (pe_callB call_isV hg hm boot_isinstance (pa_cons he (pa_cons (pe_glob hgx hmx rc hdx) pa_nil) h1) (by decide) (by decide) h1 h2) fun σ H Q h => ?_
  obtain ⟨F, θ, S, env, fp, w, S', st, e, k⟩ := h
  unfold mIsV at e
  obtain ⟨⟨y, S1⟩, e1, e⟩ := Option.bind_eq_some_iff.mp e
  dsimp only at e
  split at e
  · rename_i c g w0
    obtain ⟨b, e2, e3⟩ := Option.map_eq_some_iff.mp e
    cases e3
    obtain ⟨E, hk⟩ := hE c b e2
    refine ⟨F, θ, S, env, fp, _, _, st, e1, fun F1 θ1 H1 v f t1 s1 r => ?_⟩
    obtain ⟨a, y, ev, hA, _, _⟩ := r.rw
    subst ev
    exact ⟨a, G.cls c, cv, u, b, hA.evH s1.sub, E, rfl, one, hk, k F1 θ1 H1 _ _ t1 s1 (.d rfl)⟩
  · cases e
theorem z_isVB {tb : Nat → Option Bool} {T : String} (hE : ∀ c b, tb c = some b → ExD X.K (G.cls c) ∧ PySem.W.kitOne X.K (.ref (G.cls c)) (.type T) = some b) (hg : Gl X "isinstance") (hm : X.mg "isinstance" = none) (he : PE X e (tOf G m)) (hgT : Gl X x) (hmT : X.mg x = none) (hvT : bootBuiltins x = some (.type T)) (hn : x ≠ "__name__" := by decide) (hd : (x == ("__debug__" : Str)) = false := by decide)
    (h1 : starEach (e :: [.Name x p1]) X.env = (false, eval e X.env) :: starEach [.Name x p1] X.env := by rfl) (h2 : (backTo pos (starEach [.Name x p1] X.env)).any (·.1) = false := by rfl) :
    PE X (.Call (.Name "isinstance" p) [e, .Name x p1] [] pos) (tOf G (mIsV tb m)) := by
  refine pe_imp (pe_callB call_isV hg hm boot_isinstance (pa_cons he (pa_cons (pe_bltn hgT hmT hvT (v := .ty T) rfl hn hd) pa_nil) h1) (by decide) (by decide) h1 h2) fun σ H Q h => ?_
  obtain ⟨F, θ, S, env, fp, w, S', st, e, k⟩ := h
  unfold mIsV at e
  obtain ⟨⟨y, S1⟩, e1, e⟩ := Option.bind_eq_some_iff.mp e
  dsimp only at e
  split at e
  · rename_i c g w0
    obtain ⟨b, e2, e3⟩ := Option.map_eq_some_iff.mp e
    cases e3
    obtain ⟨E, hk⟩ := hE c b e2
    refine ⟨F, θ, S, env, fp, _, _, st, e1, fun F1 θ1 H1 v f t1 s1 r => ?_⟩
    obtain ⟨a, y, ev, hA, _, _⟩ := r.rw
    subst ev
    exact ⟨a, G.cls c, .ty T, .type T, b, hA.evH s1.sub, E, rfl, fun w hw => hw, hk, k F1 θ1 H1 _ _ t1 s1 (.d rfl)⟩
  · cases e
theorem z_evF {f : Str} {fn : Nat → Option Unit} (hE : ∀ c, fn c = some () → XfC X.K (G.cls c) ∧ PySem.W.findIn X.K (.ref (G.cls c)) f = some none ∧ G.exn c = f) (hne : f ≠ "") (he : PE X e (tOf G m)) (hb : attributeBase e f X.env (eval e X.env) = eval e X.env := by rfl) :
    PE X (.Attribute e f pos) (tOf G (mEvF fn f m)) := by
  refine pe_imp (pe_xv he hb) fun σ H Q h => ?_
  obtain ⟨F, θ, S, env, fp, w, S', st, e, k⟩ := h
  unfold mEvF at e
  obtain ⟨⟨y, S1⟩, e1, e⟩ := Option.bind_eq_some_iff.mp e
  dsimp only at e
  split at e
  · rename_i c g w0
    split at e
    · rename_i hgf
      obtain ⟨b, e2, e3⟩ := Option.map_eq_some_iff.mp e
      cases e3
      obtain ⟨T, hno, _⟩ := hE c e2
      subst hgf
      refine ⟨F, θ, S, env, fp, _, _, st, e1, fun F1 θ1 H1 v f t1 s1 r => ?_⟩
      obtain ⟨a, y, ev, hA, hw, _⟩ := r.rw
      rcases hA with ⟨dx, h1, h2⟩ | ⟨h1, _⟩
      · refine ⟨a, G.cls c, dx, _, y, ev, T, hno, s1.sub _ _ h1, s1.sub _ _ h2, by simp [List.lookup], k F1 θ1 H1 _ _ t1 s1 ⟨hw, .nil, fun _ h => absurd h (by simp), fun _ h => absurd h (by simp), fun h => ?_⟩⟩
        exact fun _ h => absurd h (by simp)
      · exact absurd h1 hne
    · cases e
  · cases e
end
end Zf
namespace L2
open PySem PySem.Spec PyProof.Rows
theorem pmk_own0 {X : Cx} {C : Addr} {bmB : List Value} {B newId initId : String} {x : Str} {p pos : Pos} (F : ExcBaseFacts B newId initId bmB) (q : PySem.W.excIn X.K C bmB newId = true) (gC : X.mg x = some (.ref C)) (kC : PySem.W.keepIn X.K (.ref C) = true) (r : Raises X (.ref C)) (hg : Gl X x)
    (hdb : (x == ("__debug__" : Str)) = false := by decide) : PMk X (.Call (.Name x p) [] [] pos) (fun _ H Q => Q (.ref C) none H) := by
  intro pins s σ H Q I h
  refine wpAny_Call_Name_kw (ld_glob I hg gC ?_ hdb)
  refine PySem.W.callWith_K0 I.kIn kC ?_
  show wpAny _ _ (call (.ref C) []) _ _ _
  obtain ⟨bm, N, nm, qn, bs, hdct, sn, sub, ab, col, dd, k0, k1, k2, k3, k5, mN, hC, hN, hni, T⟩ := exc_obj I.kIn q
  refine wpAny_call_exc_subT F T hC hN hni (fun h' e hm => ?_) (by show 0 ≤ sizeLine; rw [sizeLine_eq]; omega)
  exact mk_of I hm r h (I.hok.gone hm.new)
end L2
namespace Zf
open PySem PySem.Spec PyProof.Rows L2
def DOk (H : Hp) (d : Option Addr) : Prop := ∀ dd, d = some dd → ∃ fs, H dd = some (.xd fs)
section
variable {X : Cx} {a D : Addr} {d : Option Addr} {oe : Obj} {pn : List (Addr × Obj)}
theorem hand_inst {pins : List (Addr × Obj)} {σ : L2.St} {H : Hp} {s : Shared} (hz : Zc (.ref D) d oe) (hf : ∃ vs, oe.data = .fields vs) (I : Inv (X.suite a ((a, oe) :: pn)) pins σ H s) (hd : DOk H d) : ∃ od, PySem.W.InstAt s.heap a oe D od := by
  obtain ⟨hget, _⟩ := I.pin (a, oe) (List.mem_append.mpr (.inl List.mem_cons_self))
  obtain ⟨vs, hv⟩ := hf
  cases d with
  | none => exact ⟨none, hget, hz.1, by unfold PySem.W.notCls; rw [hv] <;> rfl, by rw [hz.2]; exact True.intro⟩
  | some dd =>
    obtain ⟨fs, hdd⟩ := hd dd rfl
    have hx : L2.ObjOk X.prog X.w H s.heap dd (.xd fs) := I.hok dd _ hdd
    obtain ⟨mA, hns, _⟩ := hx
    obtain ⟨od, ho, _⟩ := lookIn_ns hns
    exact ⟨some od, hget, hz.1, by unfold PySem.W.notCls; rw [hv] <;> rfl, by rw [hz.2]; exact ho⟩
def rIsX (K : PySem.W.Frag) (D a : Addr) (d : Option Addr) : List V → Hp → VK → Prop := fun xs H Q => ∃ (c : V) (cv : Value) (b : Bool), ExD K D ∧ xs = [.ref a, c] ∧ (∀ u, RelV c u → u = cv) ∧ PySem.W.kitOne K (.ref D) cv = some b ∧ DOk H d ∧ Q (.bl b) H
theorem call_isX (hz : Zc (.ref D) d oe) (hf : ∃ vs, oe.data = .fields vs) : CallR (X.suite a ((a, oe) :: pn)) (.builtin "isinstance") (rIsX X.K D a d) := by
  intro pins s σ H xs us Q I r h
  obtain ⟨c, cv, b, E, rfl, hcv, e, hd, q⟩ := h
  obtain ⟨u1, u2, rfl, rx, rt⟩ := r.two
  obtain rfl : u1 = Value.ref a := rx
  obtain rfl := hcv _ rt
  obtain ⟨od, J⟩ := hand_inst hz hf I hd
  exact PySem.W.kia_one (PySem.W.kitx_exc E.hcl E.hga E.hgt E.hs E.ha E.hn E.ht E.hm) I.kIn J e (fun z => nomatch z) fun tk => ⟨.bl b, H, I.kept (t' := tk) fun _ _ z => z, rfl, q⟩
def rIsXt (K : PySem.W.Frag) (D a : Addr) (d : Option Addr) : List V → Hp → VK → Prop := fun xs H Q => ∃ (tp : Addr) (cs : List V) (us : List Value) (b : Bool), ExD K D ∧ xs = [.ref a, .ref tp] ∧ H tp = some (.tup cs) ∧ (∀ vs, Vals cs vs → vs = us) ∧ PySem.W.kitAny K (.ref D) us = some b ∧ DOk H d ∧ Q (.bl b) H
theorem call_isXt (hz : Zc (.ref D) d oe) (hf : ∃ vs, oe.data = .fields vs) : CallR (X.suite a ((a, oe) :: pn)) (.builtin "isinstance") (rIsXt X.K D a d) := by
  intro pins s σ H xs us Q I r h
  obtain ⟨tp, cs, us0, b, E, rfl, htp, hus, e, hd, q⟩ := h
  obtain ⟨u1, u2, rfl, rx, rt⟩ := r.two
  obtain rfl : u1 = Value.ref a := rx
  obtain rfl : u2 = Value.ref tp := rt
  obtain ⟨od, J⟩ := hand_inst hz hf I hd
  obtain ⟨its, rv, pl, hsz⟩ := I.tuple (a := tp) (xs := cs) (.inl (.inl htp))
  obtain rfl := hus _ rv
  obtain ⟨⟨tc, dd, data, sl⟩, ht, hc, n, hdat⟩ := pl
  simp only at hc hdat
  subst hc hdat
  exact PySem.W.kia_tup (PySem.W.kitx_exc E.hcl E.hga E.hgt E.hs E.ha E.hn E.ht E.hm) I.kIn J ht e (fun z => nomatch z) fun tk => ⟨.bl b, H, I.kept (t' := tk) fun _ _ z => z, rfl, q⟩
end
structure Cgt (K : PySem.W.Frag) (S N P : Addr) : Prop where
  e : ∀ D ∈ [S, N, P], ExD K D ∧ PySem.W.kitOne K (.ref D) (.type "ValueError") = some true ∧ PySem.W.exmOne K (.ref D) (.ref P) = some true
  a : PySem.W.kitAny K (.ref P) [.ref S, .ref N] = some false
def mCaught : MS := fun env S => match env with
  | [some (.d (.int k)), some w, none] => if 0 ≤ k ∧ isArg w = true then some (.ret (.d (.bl true)), env, S) else none
  | _ => none
section
variable {X : Cx} {G : Gd} {xS xN xP fS kn tn en : Str} {cS cN cP j k : Nat}
theorem pe_told {a D : Addr} {d : Option Addr} {oe : Obj} {pn : List (Addr × Obj)} (T : Cgt X.K (G.cls cS) (G.cls cN) (G.cls cP)) (hD : D ∈ [G.cls cS, G.cls cN, G.cls cP]) (hK : X.K = G.K)
    (hz : Zc (.ref D) d oe) (hf : ∃ vs, oe.data = .fields vs) (hN : X.N = [kn, tn, en]) (hvk : Vis X.env.scope kn) (hve : Vis X.env.scope en) (hg : Gl X "isinstance") (hm : X.mg "isinstance" = none) (hgv : Gl X "ValueError") (hmv : X.mg "ValueError" = none) (hgS : Gl X xS) (hmS : X.mg xS = some (.ref (G.cls cS))) (hgN : Gl X xN) (hmN : X.mg xN = some (.ref (G.cls cN)))
    {p1 p2 p3 p4 p5 p6 p7 p8 p9 q1 q2 q3 q4 q5 q6 q7 : Pos} {cx j0 : Nat} (hdk : (kn == ("__debug__" : Str)) = false := by decide) (hck : (kn == ("__classdict__" : Str)) = false := by decide) (hde : (en == ("__debug__" : Str)) = false := by decide) (hce : (en == ("__classdict__" : Str)) = false := by decide) (hdS : (xS == ("__debug__" : Str)) = false := by decide) (hdN : (xN == ("__debug__" : Str)) = false := by decide) :
    PE (X.suite a ((a, oe) :: pn)) (.BoolOp .And [.Call (.Name "isinstance" p1) [.Name en p2, .Name "ValueError" p3] [] p4, .BoolOp .Or [.Compare (.Name kn p5) [.Lt] [.Constant (.int 2) j0 p6] p7, .UnaryOp .Not (.Call (.Name "isinstance" p8) [.Name en p9, .Tuple [.Name xS q1, .Name xN q2] cx q3] [] q4) q5] q6] q7)
      (fun σ H Q => ∃ (i : Int), σ[0]? = some (some (.int i)) ∧ σ[2]? = some (some (.ref a)) ∧ DOk H d ∧ (2 ≤ i → D = G.cls cP) ∧ ∀ H', (H' = H ∨ ∃ tp, H tp = none ∧ H' = upd H tp (.tup [.ref (G.cls cS), .ref (G.cls cN)])) → Q (.bl true) H') := by
  have hN0 : X.N[0]? = some kn := by rw [hN]; rfl
  have hN2 : X.N[2]? = some en := by rw [hN]; rfl
  obtain ⟨E, hV, _⟩ := T.e D hD
  have A1 := pe_callB (X := X.suite a ((a, oe) :: pn)) (p := p1) (pos := p4) (call_isX hz hf) hg hm boot_isinstance (pa_cons (X := X.suite a ((a, oe) :: pn)) (pe_var (X := X.suite a ((a, oe) :: pn)) (i := 2) (x := en) (pos := p2) hN2 hve hde hce) (pa_cons (X := X.suite a ((a, oe) :: pn)) (pe_bltn (X := X.suite a ((a, oe) :: pn)) (x := "ValueError") (pos := p3) hgv hmv (u := .type "ValueError") (v := .ty "ValueError") (by decide +kernel) rfl (by decide) (by decide)) pa_nil rfl) rfl) (by decide) (by decide) rfl rfl
  have A3 := pe_callB (X := X.suite a ((a, oe) :: pn)) (p := p8) (pos := q4) (call_isXt hz hf) hg hm boot_isinstance (pa_cons (X := X.suite a ((a, oe) :: pn)) (pe_var (X := X.suite a ((a, oe) :: pn)) (i := 2) (x := en) (pos := p9) hN2 hve hde hce) (pa_cons (X := X.suite a ((a, oe) :: pn)) (pe_tup (X := X.suite a ((a, oe) :: pn)) (x1 := cx) (pos := q3) (pa_cons (X := X.suite a ((a, oe) :: pn)) (pe_glob (X := X.suite a ((a, oe) :: pn)) (pos := q1) hgS hmS (show RelV (V.ref (G.cls cS)) _ from rfl) hdS) (pa_cons (X := X.suite a ((a, oe) :: pn)) (pe_glob (X := X.suite a ((a, oe) :: pn)) (pos := q2) hgN hmN (show RelV (V.ref (G.cls cN)) _ from rfl) hdN) pa_nil rfl) rfl)) pa_nil rfl) rfl) (by decide) (by decide) rfl rfl
  have A2 := pe_cmp (X := X.suite a ((a, oe) :: pn)) (pos := p7) (L2.pc_lt (X := X.suite a ((a, oe) :: pn)) (pe_var (X := X.suite a ((a, oe) :: pn)) (i := 0) (x := kn) (pos := p5) hN0 hvk hdk hck) (pe_int (X := X.suite a ((a, oe) :: pn)) (i := 2) (j := j0) (pos := p6)))
  have B2 := L2.pe_or (X := X.suite a ((a, oe) :: pn)) (pos := q6) A2 (L2.pe_one (X := X.suite a ((a, oe) :: pn)) (op := .Or) (pos := q6) (L2.pe_not (X := X.suite a ((a, oe) :: pn)) (pos := q5) A3))
  refine pe_imp (L2.pe_and (X := X.suite a ((a, oe) :: pn)) (pos := q7) A1 (L2.pe_one (X := X.suite a ((a, oe) :: pn)) (op := .And) (pos := q7) B2)) fun σ H Q h => ?_
  obtain ⟨i, h0, h2, hd, hi, hq⟩ := h
  refine ⟨.ref a, h2, .ty "ValueError", .type "ValueError", true, E, rfl, fun u hu => hu, hV, hd, true, rfl, ?_⟩
  rw [if_pos rfl]
  refine ⟨.int i, h0, ?_⟩
  refine ⟨i, 2, rfl, rfl, decide (i < 2), rfl, ?_⟩
  by_cases hlt : i < 2
  · rw [if_pos (by simpa using hlt)]
    exact hq H (.inl rfl)
  · rw [if_neg (by simpa using hlt)]
    have hP := hi (by omega)
    subst hP
    refine ⟨.ref a, h2, (show 2 ≤ sizeLine by decide), fun tp hp => ?_⟩
    refine ⟨tp, [.ref (G.cls cS), .ref (G.cls cN)], [.ref (G.cls cS), .ref (G.cls cN)], false, E, rfl, upd_same, fun vs hvs => ?_, T.a, fun dd hdd => ?_, false, rfl, ?_⟩
    · cases hvs with
      | cons a1 t1 =>
        cases t1 with
        | cons a2 t2 =>
          cases t2
          rw [show _ = _ from a1, show _ = _ from a2]
    · obtain ⟨fs, q⟩ := hd dd hdd
      exact ⟨fs, by rw [upd_ne (ne_of_none q hp)]; exact q⟩
    · exact hq _ (.inr ⟨tp, hp, rfl⟩)
def tThrow (CS CN CP : Addr) (fS : Str) (W : WX) : TS := fun _ σ H => ∃ (i : Int) (v : V), σ[0]? = some (some (.int i)) ∧ σ[1]? = some (some v) ∧
  (i = 0 → ∀ dd, H dd = none → W (.ref CS) (some dd) σ (upd H dd (.xd [(fS, v)]))) ∧ (i = 1 → W (.ref CN) none σ H) ∧ (i ≠ 0 → i ≠ 1 → W (.ref CP) none σ H)
theorem pss_throw {W : WX} {CX : CXT} {fI : Addr} {fd : FuncData} {ps : List Str} {CS CN CP : Addr} (hc : X.calm = true) (tk : Takes X W) (T : OexC X.K CS) (iC : PySem.W.findIn X.K (.ref CS) "__init__" = some (some (.ref fI))) (tI : PySem.W.typeIn X.K (.ref fI) = some (.type "function"))
    (F1 : FnOk X.prog X.w X.K X.mg X.base CX j fI fd ps (spX CS fS)) (hr : Room (j + 1) X.A) (hb : Binds X.K fd ps []) (hx : Passes CX X (fun _ _ _ => False)) (hgS : Gl X xS) (hmS : X.mg xS = some (.ref CS)) (hgN : Gl X xN) (hmN : X.mg xN = some (.ref CN)) (hgP : Gl X xP) (hmP : X.mg xP = some (.ref CP))
    (qN : PySem.W.excIn X.K CN PySem.HandSPX.veTail "ValueError.__new__" = true) (kN : PySem.W.keepIn X.K (.ref CN) = true) (rN : Raises X (.ref CN)) (qP : PySem.W.excIn X.K CP PySem.HandSPX.veTail "ValueError.__new__" = true) (kP : PySem.W.keepIn X.K (.ref CP) = true) (rP : Raises X (.ref CP))
    (hN : X.N = [kn, tn, en]) (hvk : Vis X.env.scope kn) (hvt : Vis X.env.scope tn) {m : Str} {a1 a2 a3 b1 b2 b3 b4 c1 d1 d2 d3 e1 e2 e3 f1 g1 g2 g3 g4 : Pos} {j0 j1 j2 : Nat}
    (hdk : (kn == ("__debug__" : Str)) = false := by decide) (hck : (kn == ("__classdict__" : Str)) = false := by decide) (hdt : (tn == ("__debug__" : Str)) = false := by decide) (hct : (tn == ("__classdict__" : Str)) = false := by decide) (hdS : (xS == ("__debug__" : Str)) = false := by decide) (hdN : (xN == ("__debug__" : Str)) = false := by decide) (hdP : (xP == ("__debug__" : Str)) = false := by decide)
    (hst : starEach [.Name tn b2] X.env = (false, eval (.Name tn b2) X.env) :: starEach [] X.env := by rfl) (hpl : (backTo b3 (starEach [] X.env)).any (·.1) = false := by rfl) :
    PSs X [.If (.Compare (.Name kn a1) [.Eq] [.Constant (.int 0) j0 a2] a3) [.Raise (some (.Call (.Name xS b1) [.Name tn b2] [] b3)) none b4] [] c1,
      .If (.Compare (.Name kn d1) [.Eq] [.Constant (.int 1) j1 d2] d3) [.Raise (some (.Call (.Name xN e1) [] [] e2)) none e3] [] f1,
      .Raise (some (.Call (.Name xP g1) [.Constant (.str m) j2 g2] [] g3)) none g4] (tThrow CS CN CP fS W) := by
  have hN0 : X.N[0]? = some kn := by rw [hN]; rfl
  have hN1 : X.N[1]? = some tn := by rw [hN]; rfl
  have P0 := ps_if (pos := c1) (pt_cmp (pos := a3) (pc_eqI (pe_var (pos := a1) hN0 hvk hdk hck) (pe_int (i := 0) (j := j0) (pos := a2)))) (pss_one (ps_raise (pos := b4) hc tk (pmk_oex (p := b1) (dvs := []) T iC tI F1 hr hb .nil hx hgS hmS (pa_cons (pe_var (pos := b2) hN1 hvt hdt hct) pa_nil hst) hdS hst hpl))) pss_nil
  have P1 := ps_if (pos := f1) (pt_cmp (pos := d3) (pc_eqI (pe_var (pos := d1) hN0 hvk hdk hck) (pe_int (i := 1) (j := j1) (pos := d2)))) (pss_one (ps_raise (pos := e3) hc tk (pmk_own0 (p := e1) (pos := e2) PySem.F.excBase_ValueError qN hmN kN rN hgN hdN))) pss_nil
  have P2 := ps_raise (pos := g4) hc tk (pmk_own (m := m) (j := j2) (p := g1) (p2 := g2) (pos := g3) PySem.F.excBase_ValueError qP hmP kP rP hgP hdP)
  refine pss_imp (pss_cons P0 (pss_cons P1 (pss_one P2))) fun D σ H h => ?_
  obtain ⟨i, v, h0, h1, q0, q1, q2⟩ := h
  refine ⟨.int i, h0, i, 0, rfl, rfl, decide (i = 0), rfl, ?_⟩
  by_cases z0 : i = 0
  · dsimp only
    rw [if_pos (by simpa using z0)]
    refine ⟨v, h1, by simp, fun a na => ⟨a, v, rfl, upd_same, fun dx nd ne => ⟨rfl, dx, _, upd_same, by rw [upd_ne ne, upd_same], ?_, ?_⟩⟩⟩
    · rw [upd_ne ne] at nd
      exact nd
    · rw [upd_ne ne] at nd
      have eq : upd (del (upd (upd (upd H a (exo a CS none)) dx (exd dx [(fS, v)])) a (exo a CS (some dx))) a) dx (.xd [(fS, v)]) = upd H dx (.xd [(fS, v)]) := by
        funext b
        by_cases hb : b = dx
        · rw [hb, upd_same, upd_same]
        · rw [upd_ne hb, upd_ne hb]
          by_cases ha : b = a
          · rw [ha, del_same, na]
          · rw [del_ne ha, upd_ne ha, upd_ne hb, upd_ne ha]
      rw [eq]
      exact q0 z0 dx nd
  · dsimp only
    rw [if_neg (by simpa using z0)]
    refine ⟨.int i, h0, i, 1, rfl, rfl, decide (i = 1), rfl, ?_⟩
    by_cases z1 : i = 1
    · dsimp only
      rw [if_pos (by simpa using z1)]
      exact q1 z1
    · dsimp only
      rw [if_neg (by simpa using z1)]
      exact q2 z0 z1
theorem z_caught (E : ExC G X.mg X.base xS cS j) (hfS : G.exn cS = fS) (EN : Ex0 G X.mg xN cN) (EP : Ex0 G X.mg xP cP) (T : Cgt G.K (G.cls cS) (G.cls cN) (G.cls cP)) (hk : G.exk = .none)
    (hs : X.stack = X.env :: X.outer) (hf : X.env.frame = some X.env.locals) (hNd : X.N.Nodup) (hN : X.N = [kn, tn, en]) (hle : X.env.kindOf en = some .local) (hvk : Vis X.env.scope kn) (hvt : Vis X.env.scope tn) (hve : Vis X.env.scope en)
    (hc : X.calm = true) (hr : Room k X.A) (hj : j + 1 ≤ k) (hgS : Gl X xS) (hgN : Gl X xN) (hgP : Gl X xP) (hg : Gl X "isinstance") (hm : X.mg "isinstance" = none) (hgv : Gl X "ValueError") (hmv : X.mg "ValueError" = none)
    {m : Str} {a1 a2 a3 b1 b2 b3 b4 c1 d1 d2 d3 e1 e2 e3 f1 g1 g2 g3 g4 : Pos} {j0 j1 j2 : Nat} {p1 p2 p3 p4 p5 p6 p7 p8 p9 q1 q2 q3 q4 q5 q6 q7 r1 r2 r3 r4 : Pos} {cx j3 : Nat}
    (hdk : (kn == ("__debug__" : Str)) = false := by decide) (hck : (kn == ("__classdict__" : Str)) = false := by decide) (hdt : (tn == ("__debug__" : Str)) = false := by decide) (hct : (tn == ("__classdict__" : Str)) = false := by decide) (hde : (en == ("__debug__" : Str)) = false := by decide) (hce : (en == ("__classdict__" : Str)) = false := by decide) (hdS : (xS == ("__debug__" : Str)) = false := by decide) (hdN : (xN == ("__debug__" : Str)) = false := by decide) (hdP : (xP == ("__debug__" : Str)) = false := by decide)
    (hst : starEach [.Name tn b2] X.env = (false, eval (.Name tn b2) X.env) :: starEach [] X.env := by rfl) (hpl : (backTo b3 (starEach [] X.env)).any (·.1) = false := by rfl) (hG : X.prog = G.P ∧ X.w = G.w ∧ X.K = G.K := by exact ⟨rfl, rfl, rfl⟩) :
    PSs X [.Try [.If (.Compare (.Name kn a1) [.Eq] [.Constant (.int 0) j0 a2] a3) [.Raise (some (.Call (.Name xS b1) [.Name tn b2] [] b3)) none b4] [] c1,
      .If (.Compare (.Name kn d1) [.Eq] [.Constant (.int 1) j1 d2] d3) [.Raise (some (.Call (.Name xN e1) [] [] e2)) none e3] [] f1,
      .Raise (some (.Call (.Name xP g1) [.Constant (.str m) j2 g2] [] g3)) none g4]
      [.ExceptHandler (some (.Name xP r1)) (some en) [.Return (some (.BoolOp .And [.Call (.Name "isinstance" p1) [.Name en p2, .Name "ValueError" p3] [] p4, .BoolOp .Or [.Compare (.Name kn p5) [.Lt] [.Constant (.int 2) j3 p6] p7, .UnaryOp .Not (.Call (.Name "isinstance" p8) [.Name en p9, .Tuple [.Name xS q1, .Name xN q2] cx q3] [] q4) q5] q6] q7)) r2] r3] [] [] r4] (tOfS G mCaught) := by
  obtain ⟨h1, h2, h3⟩ := hG
  obtain ⟨fI, fd, ps, iC, tI, F1, hb⟩ := E.ex
  have T' : Cgt X.K (G.cls cS) (G.cls cN) (G.cls cP) := by rw [h3]; exact T
  have hN2 : X.N[2]? = some en := by rw [hN]; rfl
  have rN : Raises X (.ref (G.cls cN)) := raises_own (by rw [h3]; exact EN.sb) (by rw [h3]; exact EN.ty)
  have rP : Raises X (.ref (G.cls cP)) := raises_own (by rw [h3]; exact EP.sb) (by rw [h3]; exact EP.ty)
  refine pss_one (ps_imp (ps_try_as (x := xP) (c := .ref (G.cls cP)) (i := 2) (ts := fun a cls d Dn σ H => ∃ D, cls = .ref D ∧ D ∈ [G.cls cS, G.cls cN, G.cls cP] ∧ ∃ (i : Int), σ[0]? = some (some (.int i)) ∧ σ[2]? = some (some (.ref a)) ∧ DOk H d ∧ (2 ≤ i → D = G.cls cP) ∧ ∀ H', (H' = H ∨ ∃ tp, H tp = none ∧ H' = upd H tp (.tup [.ref (G.cls cS), .ref (G.cls cN)])) → Dn.rt (.bl true) H')
    (tb := fun W => tThrow (G.cls cS) (G.cls cN) (G.cls cP) fS W) (Wout := fun _ _ _ _ => False) hs hf hNd hN2 hle ⟨hgP, hdP, .inl EP.hm⟩ (fun u s' ⟨a, B, sI, pins, σ, H, cls, d, _, _, _, _, _, _, _, _, w⟩ => w.elim) (fun W pn xe tk pa => ?_) (fun a oe cls d pn hz hv => ?_)) fun D σ H h => ?_)
  · exact pss_throw (X := X.tr pn xe) (CX := CX0) hc tk (T := by show OexC X.K _; rw [h3]; exact E.T) (iC := by rw [← h3] at iC; exact iC) (tI := by rw [← h3] at tI; exact tI) (F1 := by rw [h1, h2, h3, ← hfS]; exact F1) (hr := hr.mono hj) (hb := by rw [h3]; exact hb) (hx := (fun _ _ _ _ _ _ _ h => (show False from h).elim : Passes CX0 (X.tr pn xe) fun _ _ _ => False)) hgS E.hm hgN EN.hm hgP EP.hm
      (by rw [h3]; exact EN.q) (by rw [h3]; exact EN.kC) rN (by rw [h3]; exact EP.q) (by rw [h3]; exact EP.kC) rP hN hvk hvt hdk hck hdt hct hdS hdN hdP hst hpl
  · refine ⟨fun pins s σ H Dn I h => ?_⟩
    obtain ⟨D, rfl, hD, h⟩ := h
    exact (pss_one (ps_ret (pos := r2) (pe_told (G := G) (kn := kn) (tn := tn) (en := en) (xS := xS) (xN := xN) T' hD h3 hz hv hN hvk hve hg hm hgv hmv hgS E.hm hgN EN.hm hdk hck hde hce hdS hdN))).run pins s σ H Dn I h
  · obtain ⟨F, θ, S, env, fp, fl, env', S', st, e, kk⟩ := h
    unfold mCaught at e
    split at e
    · rename_i i w
      split at e
      · rename_i hi
        cases e
        obtain ⟨v0, s1, f1, f2, es1, ⟨r0, _⟩, ⟨v1, s2, g1, g2, es2, _, ⟨o, s3, es3, ⟨es4, _⟩⟩, _⟩, _⟩ := st.env
        obtain rfl : v0 = .int i := r0
        subst es4 es3 es2 es1
        have W1 : ∀ (C : Addr) (d : Option Addr) (H1 : Hp), C ∈ [G.cls cS, G.cls cN, G.cls cP] → DOk H1 d → (2 ≤ i → C = G.cls cP) → Tr F θ H F θ H1 → St G F θ H1 S [some (.d (.int i)), some w, none] [some (.int i), some v1, o] fp →
            wAs X.K (.ref (G.cls cP)) 2 (fun a cls d Dn σ H => ∃ D, cls = .ref D ∧ D ∈ [G.cls cS, G.cls cN, G.cls cP] ∧ ∃ (i : Int), σ[0]? = some (some (.int i)) ∧ σ[2]? = some (some (.ref a)) ∧ DOk H d ∧ (2 ≤ i → D = G.cls cP) ∧ ∀ H', (H' = H ∨ ∃ tp, H tp = none ∧ H' = upd H tp (.tup [.ref (G.cls cS), .ref (G.cls cN)])) → Dn.rt (.bl true) H') (fun _ _ _ _ => False) D (.ref C) d [some (.int i), some v1, o] H1 := fun C d H1 hC hd hi2 t1 st1 => by
          refine ⟨true, (T'.e C hC).2.2, fun _ a na => ⟨C, rfl, hC, i, rfl, rfl, hd, hi2, fun H' hH => ?_⟩, fun z => by cases z⟩
          rcases hH with rfl | ⟨tp, hp, rfl⟩
          · exact kk F θ H' _ fp (t1.toS fp) st1 _ [] ⟨⟨rfl, rfl⟩, .nil, fun _ h => absurd h (by simp), fun _ h => absurd h (by simp)⟩
          · obtain ⟨t, s2, _⟩ := st1.new0 hp (.tup [.ref (G.cls cS), .ref (G.cls cN)])
            exact kk F θ _ _ fp ((t1.trans t).toS fp) s2 _ [] ⟨⟨rfl, rfl⟩, .nil, fun _ h => absurd h (by simp), fun _ h => absurd h (by simp)⟩
        refine ⟨i, v1, rfl, rfl, fun z dd hdd => ?_, fun z => ?_, fun z0 z1 => ?_⟩
        · obtain ⟨t, s2, _⟩ := st.new0 hdd (.xd [(fS, v1)])
          exact W1 _ _ _ (by simp) (fun d' e => by cases e; exact ⟨_, upd_same⟩) (fun h => by omega) t s2
        · exact W1 _ _ _ (by simp) (fun d' e => by cases e) (fun h => by omega) (.refl ..) st
        · exact W1 _ _ _ (by simp) (fun d' e => by cases e) (fun _ => rfl) (.refl ..) st
      · cases e
    · cases e
end
def mICelT (m : ME) : MIW := fun env S => (m env S).bind fun p => match p.1 with
  | .c .tup n => some (.cel n, p.2)
  | _ => none
theorem zi_celT {X : Cx} {G : Gd} {tg l : Expr} {m : ME} (h : PE X l (tOf G m)) (hK : X.K = G.K := by rfl) : PI X tg l (tOfIW G (mICelT m)) := by
  refine pi_imp (pi_tup h) fun σ H Rr q => ?_
  rw [hK]
  obtain ⟨F, θ, S, env, fp, src, S', s, e, k⟩ := q
  unfold mICelT at e
  obtain ⟨⟨w, S1⟩, e1, e⟩ := Option.bind_eq_some_iff.mp e
  dsimp only at e
  split at e
  · rename_i n
    cases e
    refine ⟨F, θ, S, env, fp, _, _, s, e1, fun F1 θ1 H1 v f t1 s1 r => ?_⟩
    obtain ⟨⟨a, h1, h2⟩, _, hl⟩ := r.rw
    have hn : n < S'.length := by
      rw [← s1.store.len]
      exact (List.getElem?_eq_some_iff.mp h2).1
    obtain ⟨vs, _, h5, _⟩ := s1.store.tcell (n := n) (List.getElem?_eq_getElem hn) h2 (h1 ▸ hl)
    refine ⟨a, h1, ⟨vs, .inl (.inl h5)⟩, k F1 θ1 H1 _ t1 s1 fun i F2 θ2 H2 S2 le th ln sub rs => ?_⟩
    have key : ∀ ys, S2[n]? = some ys → ∃ us, H2 a = some (.tup us) ∧ RWs G F2 θ2 H2 ys us [] := fun ys e => by
      obtain ⟨mm, rfl⟩ := th
      obtain ⟨u', q1, q2⟩ := ln a (List.mem_of_getElem? h2) _ h5
      obtain ⟨us, _, g3, g4⟩ := rs.tcell (n := n) e (show (θ1 ++ mm)[n]? = some a by rw [List.getElem?_append_left (List.getElem?_eq_some_iff.mp h2).1]; exact h2) ⟨a, u', _, rfl, q1, q2, rfl⟩
      exact ⟨us, g3, g4⟩
    refine ⟨fun w e => ?_, fun e => ?_⟩
    · simp only [nxt] at e
      obtain ⟨ys, e1, e⟩ := Option.bind_eq_some_iff.mp e
      obtain ⟨us, g1, g2⟩ := key ys e1
      split at e
      · cases e
      · split at e
        · rename_i w' hw hA
          cases e
          obtain ⟨v, f', q1, q2, q3⟩ := g2.get hw
          have ef : f' = [] := List.sublist_nil.mp q3
          subst ef
          refine ⟨hA, ⟨us, v, .inl (.inl g1), q1⟩, fun x H3 y => ?_⟩
          obtain ⟨rfl, y⟩ := y
          have y1 := y us (.inl (.inl g1))
          rw [q1] at y1
          cases y1
          exact ⟨F2, .refl sub, q2⟩
        · cases e
    · simp only [nxt] at e
      obtain ⟨ys, e1, e⟩ := Option.bind_eq_some_iff.mp e
      obtain ⟨us, g1, g2⟩ := key ys e1
      split at e
      · rename_i hw
        exact ⟨us, .inl (.inl g1), by rw [g2.len]; exact List.getElem?_eq_none_iff.mp hw⟩
      · split at e
        · cases e
        · cases e
  · cases e
end Zf
set_option maxHeartbeats 4000000
namespace L10
open PySem PySem.Spec PyProof.Rows L2 Zf
theorem clse0 {G : Gd} (hx : Has G) : G.cls 0 = He.ga G.K "Wrong" := by rw [hx.cls]; rfl
theorem clse1 {G : Gd} (hx : Has G) : G.cls 1 = He.ga G.K "Full" := by rw [hx.cls]; rfl
theorem clse2 {G : Gd} (hx : Has G) : G.cls 2 = He.ga G.K "Deep" := by rw [hx.cls]; rfl
theorem clse3 {G : Gd} (hx : Has G) : G.cls 3 = He.ga G.K "Many" := by rw [hx.cls]; rfl
theorem clse4 {G : Gd} (hx : Has G) : G.cls 4 = He.ga G.K "Twice" := by rw [hx.cls]; rfl
theorem clse5 {G : Gd} (hx : Has G) : G.cls 5 = He.ga G.K "NotLast" := by rw [hx.cls]; rfl
theorem clse6 {G : Gd} (hx : Has G) : G.cls 6 = He.ga G.K "NoLoop" := by rw [hx.cls]; rfl
theorem clse7 {G : Gd} (hx : Has G) : G.cls 7 = He.ga G.K "NoRow" := by rw [hx.cls]; rfl
theorem clse8 {G : Gd} (hx : Has G) : G.cls 8 = He.ga G.K "NoGap" := by rw [hx.cls]; rfl
theorem clse9 {G : Gd} (hx : Has G) : G.cls 9 = He.ga G.K "NoMark" := by rw [hx.cls]; rfl
theorem clse10 {G : Gd} (hx : Has G) : G.cls 10 = He.ga G.K "NoSpot" := by rw [hx.cls]; rfl
theorem clse11 {G : Gd} (hx : Has G) : G.cls 11 = He.ga G.K "BadWord" := by rw [hx.cls]; rfl
theorem clse12 {G : Gd} (hx : Has G) : G.cls 12 = He.ga G.K "NoStretch" := by rw [hx.cls]; rfl
theorem clse13 {G : Gd} (hx : Has G) : G.cls 13 = He.ga G.K "NoName" := by rw [hx.cls]; rfl
theorem clse14 {G : Gd} (hx : Has G) : G.cls 14 = He.ga G.K "Untold" := by rw [hx.cls]; rfl
theorem clse15 {G : Gd} (hx : Has G) : G.cls 15 = He.ga G.K "BadMark" := by rw [hx.cls]; rfl
theorem clse16 {G : Gd} (hx : Has G) : G.cls 16 = He.ga G.K "Overlap" := by rw [hx.cls]; rfl
theorem clse17 {G : Gd} (hx : Has G) : G.cls 17 = He.ga G.K "TooMany" := by rw [hx.cls]; rfl
theorem clse18 {G : Gd} (hx : Has G) : G.cls 18 = He.ga G.K "Refused" := by rw [hx.cls]; rfl
theorem clse19 {G : Gd} (hx : Has G) : G.cls 19 = He.ga G.K "NoEntry" := by rw [hx.cls]; rfl
theorem clse20 {G : Gd} (hx : Has G) : G.cls 20 = He.ga G.K "PieceError" := by rw [hx.cls]; rfl
theorem clse21 {G : Gd} (hx : Has G) : G.cls 21 = He.ga G.K "BadDeed" := by rw [hx.cls]; rfl
theorem clse22 {G : Gd} (hx : Has G) : G.cls 22 = He.ga G.K "Nothing" := by rw [hx.cls]; rfl
theorem clse23 {G : Gd} (hx : Has G) : G.cls 23 = He.ga G.K "NoText" := by rw [hx.cls]; rfl
theorem clse24 {G : Gd} (hx : Has G) : G.cls 24 = He.ga G.K "NoCommand" := by rw [hx.cls]; rfl
theorem insO {G : Gd} {mg : Str → Option Value} {base : Heap} (h : Hd fa fn ts eb G mg base) (hx : Has G) : InsOk G 0 := ⟨fun c hc => absurd hc (Nat.not_lt_zero _), fun c hc => absurd hc (Nat.not_lt_zero _)⟩
abbrev s_law_bag : Stmt := top 27
def m_law_bag : MF := mFn 1 2
    (mRet (mLstO (mCons (mD (.int 0)) (mCons (mD (.int 1234567891)) (mCons (mD (.int 0)) (mCons (mLc (mISeq (mSl (mVar 0) mNoPart (mPart (mD (.int 63))))) (.nm 1) mYes (mCB (g1 gAbs) (mCons (mVar 1) mNil)) (([("_law_cell", 1)] : List (Str × Nat)).map (·.2))) mNil))))))
theorem sc_law_bag : FnScope ["_law_script", "_law_cell"] ["_law_script"] (defScope s_law_bag) := ⟨rfl, rfl, rfl, by decide +kernel, rfl, by decide +kernel, by decide +kernel⟩
theorem kn_law_bag {G : Gd} {mg : Str → Option Value} {base : Heap} (h : Hd fa fn ts eb G mg base) (hx : Has G) (hk : G.exk = .none)  : Kn G mg base "_law_bag" 1 ["_law_script"] m_law_bag :=
  Kn.mk' (k := 0) (h.says.def_ 0 rfl) (h.glo 6) sc_law_bag rfl (fun _ _ _ _ _ _ us hl => match us, hl with | [_], _ => rfl) fun cdv A outer s H hr hgd =>
    (zs_one (z_ret (z_lstO (z_cons z_int (z_cons z_int (z_cons z_int (z_cons (z_lc (t := (.nm 1)) sc_law_bag.nd (zi_seq (z_sl (z_var 0) z_noPart (z_part z_int))) (blkOk_by (own := [("_law_cell", 1)]) (show blkC ["_law_script", "_law_cell"] (defScope s_law_bag) _ _ = true by decide +kernel)) (fun _ _ _ _ _ => (pg_name (i := 1) sc_law_bag.nd rfl (by first | exact Or.inl rfl | exact Or.inr rfl))) (fun _ _ _ _ _ => z_tests0) (fun _ _ _ _ _ => (z_abs rfl (h.free 0) (z_cons (z_var 1) z_nil)))) z_nil)))))))
abbrev s_law_take : Stmt := top 28
def m_law_take : MF := mFn 2 7
    (mSeq (mIfS (mTst (mBin gEqA (mBin gIx (mVar 0) (mD (.int 0))) (mD (.int 0)))) (mSeq (mSet 2 (mD (.int 0)))
    (mSeq (mIfS (mTst (mBin gLt (mBin gIx (mVar 0) (mD (.int 2))) (mCB (g1 gLen) (mCons (mBin gIx (mVar 0) (mD (.int 3))) mNil)))) (mSet 2 (mBin gIx (mBin gIx (mVar 0) (mD (.int 3))) (mBin gIx (mVar 0) (mD (.int 2))))) mNext)
    (mSeq (mAugIx (fun i j => i + j) (mVar 0) (mD (.int 2)) (mD (.int 1)))
    (mSeq (mIfS (mTst (mBin gGe (mVar 2) (mBin (gInt cPow fun i j => .int (i ^ j.toNat)) (mD (.int 10)) (mD (.int 18))))) (mSetIx (mVar 0) (mD (.int 0)) (mVar 2)) mNext)
    (mSeq (mSet 3 (mBin gAdd (mBin gAdd (mBin gMulT (mBin gIx (mVar 0) (mD (.int 1))) (mD (.int 48271))) (mBin (gInt (fun _ j => decide (0 < j)) fun i j => .int (i % j)) (mCB (g1 gInt1) (mCons (mVar 2) mNil)) (mD (.int 2147483647)))) (mBin gMulT (mD (.int 7919)) (mBin gIx (mVar 0) (mD (.int 2))))))
    (mSetIx (mVar 0) (mD (.int 1)) (mBin (gInt (fun _ j => decide (0 < j)) fun i j => .int (i % j)) (mCB (g1 gInt1) (mCons (mVar 3) mNil)) (mD (.int 2147483647))))))))) mNext)
    (mSeq (mIfS (mTst (mBin gGt (mBin gIx (mVar 0) (mD (.int 0))) (mD (.int 0)))) (mSeq (mSet 4 (mBin (gInt (fun _ j => decide (0 < j)) fun i j => .int (i % j)) (mCB (g1 gInt1) (mCons (mBin gIx (mVar 0) (mD (.int 0))) mNil)) (mVar 1)))
    (mSeq (mSetIx (mVar 0) (mD (.int 0)) (mBin (gInt cDiv fun i j => .int (i / j)) (mBin gIx (mVar 0) (mD (.int 0))) (mVar 1)))
    (mRet (mVar 4)))) mNext)
    (mSeq (mSet 5 (mBin (gInt (fun _ j => decide (0 < j)) fun i j => .int (i % j)) (mCB (g1 gInt1) (mCons (mBin gMulT (mBin gAdd (mBin gIx (mVar 0) (mD (.int 1))) (mD (.int 1))) (mD (.int 39373))) mNil)) (mD (.int 1000000007))))
    (mSeq (mSet 6 (mBin (gInt (fun _ j => decide (0 < j)) fun i j => .int (i % j)) (mCB (g1 gInt1) (mCons (mBin gMulT (mBin (gInt (fun _ j => decide (0 < j)) fun i j => .int (i % j)) (mCB (g1 gInt1) (mCons (mBin gMulT (mVar 5) (mVar 5)) mNil)) (mD (.int 998244353))) (mD (.int 30011))) mNil)) (mD (.int 998244353))))
    (mRet (mBin (gInt (fun _ j => decide (0 < j)) fun i j => .int (i % j)) (mCB (g1 gInt1) (mCons (mBin (gInt cDiv fun i j => .int (i / j)) (mVar 6) (mD (.int 7))) mNil)) (mVar 1)))))))
theorem sc_law_take : FnScope ["_law_bag_here", "_law_many", "_law_cell", "_law_mixed", "_law_value", "_law_begin", "_law_second"] ["_law_bag_here", "_law_many"] (defScope s_law_take) := ⟨rfl, rfl, rfl, by decide +kernel, rfl, by decide +kernel, by decide +kernel⟩
theorem kn_law_take {G : Gd} {mg : Str → Option Value} {base : Heap} (h : Hd fa fn ts eb G mg base) (hx : Has G) (hk : G.exk = .none)  : Kn G mg base "_law_take" 1 ["_law_bag_here", "_law_many"] m_law_take :=
  Kn.mk' (k := 0) (h.says.def_ 1 rfl) (h.glo 7) sc_law_take rfl (fun _ _ _ _ _ _ us hl => match us, hl with | [_, _], _ => rfl) fun cdv A outer s H hr hgd =>
    (zs_cons (z_if (z_eqAT hr (z_ix (z_var 0) z_int) z_int) (zs_cons (z_set (i := 2) sc_law_take.nd rfl (by first | exact Or.inl rfl | exact Or.inr rfl) z_int)
      (zs_cons (z_if (z_ltT (z_ix (z_var 0) z_int) (z_len rfl (h.free 3) (z_cons (z_ix (z_var 0) z_int) z_nil))) (zs_one (z_set (i := 2) sc_law_take.nd rfl (by first | exact Or.inl rfl | exact Or.inr rfl) (z_ix (z_ix (z_var 0) z_int) (z_ix (z_var 0) z_int)))) zs_nil)
      (zs_cons (z_augIx ip_add (z_var 0) z_int z_int)
      (zs_cons (z_if (z_geT (z_var 2) (z_pow z_int z_int)) (zs_one (z_setIx (z_var 2) (z_var 0) z_int (pg_sub (z_var 0) z_int set_list))) zs_nil)
      (zs_cons (z_set (i := 3) sc_law_take.nd rfl (by first | exact Or.inl rfl | exact Or.inr rfl) (z_add (z_add (z_mulT (z_ix (z_var 0) z_int) z_int) (z_mod (z_int1 rfl (h.free 1) (z_cons (z_var 2) z_nil)) z_int)) (z_mulT z_int (z_ix (z_var 0) z_int))))
      (zs_one (z_setIx (z_mod (z_int1 rfl (h.free 1) (z_cons (z_var 3) z_nil)) z_int) (z_var 0) z_int (pg_sub (z_var 0) z_int set_list)))))))) zs_nil)
      (zs_cons (z_if (z_gtT (z_ix (z_var 0) z_int) z_int) (zs_cons (z_set (i := 4) sc_law_take.nd rfl (by first | exact Or.inl rfl | exact Or.inr rfl) (z_mod (z_int1 rfl (h.free 1) (z_cons (z_ix (z_var 0) z_int) z_nil)) (z_var 1)))
      (zs_cons (z_setIx (z_fdiv (z_ix (z_var 0) z_int) (z_var 1)) (z_var 0) z_int (pg_sub (z_var 0) z_int set_list))
      (zs_one (z_ret (z_var 4))))) zs_nil)
      (zs_cons (z_set (i := 5) sc_law_take.nd rfl (by first | exact Or.inl rfl | exact Or.inr rfl) (z_mod (z_int1 rfl (h.free 1) (z_cons (z_mulT (z_add (z_ix (z_var 0) z_int) z_int) z_int) z_nil)) z_int))
      (zs_cons (z_set (i := 6) sc_law_take.nd rfl (by first | exact Or.inl rfl | exact Or.inr rfl) (z_mod (z_int1 rfl (h.free 1) (z_cons (z_mulT (z_mod (z_int1 rfl (h.free 1) (z_cons (z_mulT (z_var 5) (z_var 5)) z_nil)) z_int) z_int) z_nil)) z_int))
      (zs_one (z_ret (z_mod (z_int1 rfl (h.free 1) (z_cons (z_fdiv (z_var 6) z_int) z_nil)) (z_var 1))))))))
def tbv_Twice : Nat → Option Bool
  | 0 => some false
  | 1 => some false
  | 2 => some false
  | 3 => some false
  | 4 => some true
  | 5 => some false
  | 6 => some false
  | 7 => some false
  | 8 => some false
  | 9 => some false
  | 10 => some false
  | 11 => some false
  | 12 => some false
  | 13 => some false
  | 14 => some false
  | 15 => some false
  | 16 => some false
  | 17 => some false
  | 18 => some false
  | 19 => some false
  | 20 => some false
  | 21 => some false
  | 22 => some false
  | 23 => some false
  | 24 => some false
  | _ => none
theorem tbvo_Twice {G : Gd} {mg : Str → Option Value} {base : Heap} (h : Hd fa fn ts eb G mg base) (hx : Has G) : ∀ c b, tbv_Twice c = some b → ExD G.K (G.cls c) ∧ PySem.W.kitOne G.K (.ref (G.cls c)) (.ref (He.ga G.K "Twice")) = some b := by
  intro c b e
  rw [hx.cls]
  unfold tbv_Twice at e
  split at e
  · cases e
    exact ⟨exdB_ok (h.z.ex 1), of_decide_eq_true (h.z.ex 2 (b := kitB "Wrong" "Twice" false))⟩
  · cases e
    exact ⟨exdB_ok (h.z.ex 3), of_decide_eq_true (h.z.ex 4 (b := kitB "Full" "Twice" false))⟩
  · cases e
    exact ⟨exdB_ok (h.z.ex 5), of_decide_eq_true (h.z.ex 6 (b := kitB "Deep" "Twice" false))⟩
  · cases e
    exact ⟨exdB_ok (h.z.ex 7), of_decide_eq_true (h.z.ex 8 (b := kitB "Many" "Twice" false))⟩
  · cases e
    exact ⟨exdB_ok (h.z.ex 9), of_decide_eq_true (h.z.ex 10 (b := kitB "Twice" "Twice" true))⟩
  · cases e
    exact ⟨exdB_ok (h.z.ex 11), of_decide_eq_true (h.z.ex 12 (b := kitB "NotLast" "Twice" false))⟩
  · cases e
    exact ⟨exdB_ok (h.z.ex 13), of_decide_eq_true (h.z.ex 14 (b := kitB "NoLoop" "Twice" false))⟩
  · cases e
    exact ⟨exdB_ok (h.z.ex 15), of_decide_eq_true (h.z.ex 16 (b := kitB "NoRow" "Twice" false))⟩
  · cases e
    exact ⟨exdB_ok (h.z.ex 17), of_decide_eq_true (h.z.ex 18 (b := kitB "NoGap" "Twice" false))⟩
  · cases e
    exact ⟨exdB_ok (h.z.ex 19), of_decide_eq_true (h.z.ex 20 (b := kitB "NoMark" "Twice" false))⟩
  · cases e
    exact ⟨exdB_ok (h.z.ex 21), of_decide_eq_true (h.z.ex 22 (b := kitB "NoSpot" "Twice" false))⟩
  · cases e
    exact ⟨exdB_ok (h.z.ex 23), of_decide_eq_true (h.z.ex 24 (b := kitB "BadWord" "Twice" false))⟩
  · cases e
    exact ⟨exdB_ok (h.z.ex 25), of_decide_eq_true (h.z.ex 26 (b := kitB "NoStretch" "Twice" false))⟩
  · cases e
    exact ⟨exdB_ok (h.z.ex 27), of_decide_eq_true (h.z.ex 28 (b := kitB "NoName" "Twice" false))⟩
  · cases e
    exact ⟨exdB_ok (h.z.ex 29), of_decide_eq_true (h.z.ex 30 (b := kitB "Untold" "Twice" false))⟩
  · cases e
    exact ⟨exdB_ok (h.z.ex 31), of_decide_eq_true (h.z.ex 32 (b := kitB "BadMark" "Twice" false))⟩
  · cases e
    exact ⟨exdB_ok (h.z.ex 33), of_decide_eq_true (h.z.ex 34 (b := kitB "Overlap" "Twice" false))⟩
  · cases e
    exact ⟨exdB_ok (h.z.ex 35), of_decide_eq_true (h.z.ex 36 (b := kitB "TooMany" "Twice" false))⟩
  · cases e
    exact ⟨exdB_ok (h.z.ex 37), of_decide_eq_true (h.z.ex 38 (b := kitB "Refused" "Twice" false))⟩
  · cases e
    exact ⟨exdB_ok (h.z.ex 39), of_decide_eq_true (h.z.ex 40 (b := kitB "NoEntry" "Twice" false))⟩
  · cases e
    exact ⟨exdB_ok (h.z.ex 41), of_decide_eq_true (h.z.ex 42 (b := kitB "PieceError" "Twice" false))⟩
  · cases e
    exact ⟨exdB_ok (h.z.ex 43), of_decide_eq_true (h.z.ex 44 (b := kitB "BadDeed" "Twice" false))⟩
  · cases e
    exact ⟨exdB_ok (h.z.ex 45), of_decide_eq_true (h.z.ex 46 (b := kitB "Nothing" "Twice" false))⟩
  · cases e
    exact ⟨exdB_ok (h.z.ex 47), of_decide_eq_true (h.z.ex 48 (b := kitB "NoText" "Twice" false))⟩
  · cases e
    exact ⟨exdB_ok (h.z.ex 49), of_decide_eq_true (h.z.ex 50 (b := kitB "NoCommand" "Twice" false))⟩
  · cases e
def tbv_Many : Nat → Option Bool
  | 0 => some false
  | 1 => some false
  | 2 => some false
  | 3 => some true
  | 4 => some false
  | 5 => some false
  | 6 => some false
  | 7 => some false
  | 8 => some false
  | 9 => some false
  | 10 => some false
  | 11 => some false
  | 12 => some false
  | 13 => some false
  | 14 => some false
  | 15 => some false
  | 16 => some false
  | 17 => some false
  | 18 => some false
  | 19 => some false
  | 20 => some false
  | 21 => some false
  | 22 => some false
  | 23 => some false
  | 24 => some false
  | _ => none
theorem tbvo_Many {G : Gd} {mg : Str → Option Value} {base : Heap} (h : Hd fa fn ts eb G mg base) (hx : Has G) : ∀ c b, tbv_Many c = some b → ExD G.K (G.cls c) ∧ PySem.W.kitOne G.K (.ref (G.cls c)) (.ref (He.ga G.K "Many")) = some b := by
  intro c b e
  rw [hx.cls]
  unfold tbv_Many at e
  split at e
  · cases e
    exact ⟨exdB_ok (h.z.ex 1), of_decide_eq_true (h.z.ex 51 (b := kitB "Wrong" "Many" false))⟩
  · cases e
    exact ⟨exdB_ok (h.z.ex 3), of_decide_eq_true (h.z.ex 52 (b := kitB "Full" "Many" false))⟩
  · cases e
    exact ⟨exdB_ok (h.z.ex 5), of_decide_eq_true (h.z.ex 53 (b := kitB "Deep" "Many" false))⟩
  · cases e
    exact ⟨exdB_ok (h.z.ex 7), of_decide_eq_true (h.z.ex 54 (b := kitB "Many" "Many" true))⟩
  · cases e
    exact ⟨exdB_ok (h.z.ex 9), of_decide_eq_true (h.z.ex 55 (b := kitB "Twice" "Many" false))⟩
  · cases e
    exact ⟨exdB_ok (h.z.ex 11), of_decide_eq_true (h.z.ex 56 (b := kitB "NotLast" "Many" false))⟩
  · cases e
    exact ⟨exdB_ok (h.z.ex 13), of_decide_eq_true (h.z.ex 57 (b := kitB "NoLoop" "Many" false))⟩
  · cases e
    exact ⟨exdB_ok (h.z.ex 15), of_decide_eq_true (h.z.ex 58 (b := kitB "NoRow" "Many" false))⟩
  · cases e
    exact ⟨exdB_ok (h.z.ex 17), of_decide_eq_true (h.z.ex 59 (b := kitB "NoGap" "Many" false))⟩
  · cases e
    exact ⟨exdB_ok (h.z.ex 19), of_decide_eq_true (h.z.ex 60 (b := kitB "NoMark" "Many" false))⟩
  · cases e
    exact ⟨exdB_ok (h.z.ex 21), of_decide_eq_true (h.z.ex 61 (b := kitB "NoSpot" "Many" false))⟩
  · cases e
    exact ⟨exdB_ok (h.z.ex 23), of_decide_eq_true (h.z.ex 62 (b := kitB "BadWord" "Many" false))⟩
  · cases e
    exact ⟨exdB_ok (h.z.ex 25), of_decide_eq_true (h.z.ex 63 (b := kitB "NoStretch" "Many" false))⟩
  · cases e
    exact ⟨exdB_ok (h.z.ex 27), of_decide_eq_true (h.z.ex 64 (b := kitB "NoName" "Many" false))⟩
  · cases e
    exact ⟨exdB_ok (h.z.ex 29), of_decide_eq_true (h.z.ex 65 (b := kitB "Untold" "Many" false))⟩
  · cases e
    exact ⟨exdB_ok (h.z.ex 31), of_decide_eq_true (h.z.ex 66 (b := kitB "BadMark" "Many" false))⟩
  · cases e
    exact ⟨exdB_ok (h.z.ex 33), of_decide_eq_true (h.z.ex 67 (b := kitB "Overlap" "Many" false))⟩
  · cases e
    exact ⟨exdB_ok (h.z.ex 35), of_decide_eq_true (h.z.ex 68 (b := kitB "TooMany" "Many" false))⟩
  · cases e
    exact ⟨exdB_ok (h.z.ex 37), of_decide_eq_true (h.z.ex 69 (b := kitB "Refused" "Many" false))⟩
  · cases e
    exact ⟨exdB_ok (h.z.ex 39), of_decide_eq_true (h.z.ex 70 (b := kitB "NoEntry" "Many" false))⟩
  · cases e
    exact ⟨exdB_ok (h.z.ex 41), of_decide_eq_true (h.z.ex 71 (b := kitB "PieceError" "Many" false))⟩
  · cases e
    exact ⟨exdB_ok (h.z.ex 43), of_decide_eq_true (h.z.ex 72 (b := kitB "BadDeed" "Many" false))⟩
  · cases e
    exact ⟨exdB_ok (h.z.ex 45), of_decide_eq_true (h.z.ex 73 (b := kitB "Nothing" "Many" false))⟩
  · cases e
    exact ⟨exdB_ok (h.z.ex 47), of_decide_eq_true (h.z.ex 74 (b := kitB "NoText" "Many" false))⟩
  · cases e
    exact ⟨exdB_ok (h.z.ex 49), of_decide_eq_true (h.z.ex 75 (b := kitB "NoCommand" "Many" false))⟩
  · cases e
def tbv_Deep : Nat → Option Bool
  | 0 => some false
  | 1 => some false
  | 2 => some true
  | 3 => some false
  | 4 => some false
  | 5 => some false
  | 6 => some false
  | 7 => some false
  | 8 => some false
  | 9 => some false
  | 10 => some false
  | 11 => some false
  | 12 => some false
  | 13 => some false
  | 14 => some false
  | 15 => some false
  | 16 => some false
  | 17 => some false
  | 18 => some false
  | 19 => some false
  | 20 => some false
  | 21 => some false
  | 22 => some false
  | 23 => some false
  | 24 => some false
  | _ => none
theorem tbvo_Deep {G : Gd} {mg : Str → Option Value} {base : Heap} (h : Hd fa fn ts eb G mg base) (hx : Has G) : ∀ c b, tbv_Deep c = some b → ExD G.K (G.cls c) ∧ PySem.W.kitOne G.K (.ref (G.cls c)) (.ref (He.ga G.K "Deep")) = some b := by
  intro c b e
  rw [hx.cls]
  unfold tbv_Deep at e
  split at e
  · cases e
    exact ⟨exdB_ok (h.z.ex 1), of_decide_eq_true (h.z.ex 76 (b := kitB "Wrong" "Deep" false))⟩
  · cases e
    exact ⟨exdB_ok (h.z.ex 3), of_decide_eq_true (h.z.ex 77 (b := kitB "Full" "Deep" false))⟩
  · cases e
    exact ⟨exdB_ok (h.z.ex 5), of_decide_eq_true (h.z.ex 78 (b := kitB "Deep" "Deep" true))⟩
  · cases e
    exact ⟨exdB_ok (h.z.ex 7), of_decide_eq_true (h.z.ex 79 (b := kitB "Many" "Deep" false))⟩
  · cases e
    exact ⟨exdB_ok (h.z.ex 9), of_decide_eq_true (h.z.ex 80 (b := kitB "Twice" "Deep" false))⟩
  · cases e
    exact ⟨exdB_ok (h.z.ex 11), of_decide_eq_true (h.z.ex 81 (b := kitB "NotLast" "Deep" false))⟩
  · cases e
    exact ⟨exdB_ok (h.z.ex 13), of_decide_eq_true (h.z.ex 82 (b := kitB "NoLoop" "Deep" false))⟩
  · cases e
    exact ⟨exdB_ok (h.z.ex 15), of_decide_eq_true (h.z.ex 83 (b := kitB "NoRow" "Deep" false))⟩
  · cases e
    exact ⟨exdB_ok (h.z.ex 17), of_decide_eq_true (h.z.ex 84 (b := kitB "NoGap" "Deep" false))⟩
  · cases e
    exact ⟨exdB_ok (h.z.ex 19), of_decide_eq_true (h.z.ex 85 (b := kitB "NoMark" "Deep" false))⟩
  · cases e
    exact ⟨exdB_ok (h.z.ex 21), of_decide_eq_true (h.z.ex 86 (b := kitB "NoSpot" "Deep" false))⟩
  · cases e
    exact ⟨exdB_ok (h.z.ex 23), of_decide_eq_true (h.z.ex 87 (b := kitB "BadWord" "Deep" false))⟩
  · cases e
    exact ⟨exdB_ok (h.z.ex 25), of_decide_eq_true (h.z.ex 88 (b := kitB "NoStretch" "Deep" false))⟩
  · cases e
    exact ⟨exdB_ok (h.z.ex 27), of_decide_eq_true (h.z.ex 89 (b := kitB "NoName" "Deep" false))⟩
  · cases e
    exact ⟨exdB_ok (h.z.ex 29), of_decide_eq_true (h.z.ex 90 (b := kitB "Untold" "Deep" false))⟩
  · cases e
    exact ⟨exdB_ok (h.z.ex 31), of_decide_eq_true (h.z.ex 91 (b := kitB "BadMark" "Deep" false))⟩
  · cases e
    exact ⟨exdB_ok (h.z.ex 33), of_decide_eq_true (h.z.ex 92 (b := kitB "Overlap" "Deep" false))⟩
  · cases e
    exact ⟨exdB_ok (h.z.ex 35), of_decide_eq_true (h.z.ex 93 (b := kitB "TooMany" "Deep" false))⟩
  · cases e
    exact ⟨exdB_ok (h.z.ex 37), of_decide_eq_true (h.z.ex 94 (b := kitB "Refused" "Deep" false))⟩
  · cases e
    exact ⟨exdB_ok (h.z.ex 39), of_decide_eq_true (h.z.ex 95 (b := kitB "NoEntry" "Deep" false))⟩
  · cases e
    exact ⟨exdB_ok (h.z.ex 41), of_decide_eq_true (h.z.ex 96 (b := kitB "PieceError" "Deep" false))⟩
  · cases e
    exact ⟨exdB_ok (h.z.ex 43), of_decide_eq_true (h.z.ex 97 (b := kitB "BadDeed" "Deep" false))⟩
  · cases e
    exact ⟨exdB_ok (h.z.ex 45), of_decide_eq_true (h.z.ex 98 (b := kitB "Nothing" "Deep" false))⟩
  · cases e
    exact ⟨exdB_ok (h.z.ex 47), of_decide_eq_true (h.z.ex 99 (b := kitB "NoText" "Deep" false))⟩
  · cases e
    exact ⟨exdB_ok (h.z.ex 49), of_decide_eq_true (h.z.ex 100 (b := kitB "NoCommand" "Deep" false))⟩
  · cases e
def tbv_Full : Nat → Option Bool
  | 0 => some false
  | 1 => some true
  | 2 => some false
  | 3 => some false
  | 4 => some false
  | 5 => some false
  | 6 => some false
  | 7 => some false
  | 8 => some false
  | 9 => some false
  | 10 => some false
  | 11 => some false
  | 12 => some false
  | 13 => some false
  | 14 => some false
  | 15 => some false
  | 16 => some false
  | 17 => some false
  | 18 => some false
  | 19 => some false
  | 20 => some false
  | 21 => some false
  | 22 => some false
  | 23 => some false
  | 24 => some false
  | _ => none
theorem tbvo_Full {G : Gd} {mg : Str → Option Value} {base : Heap} (h : Hd fa fn ts eb G mg base) (hx : Has G) : ∀ c b, tbv_Full c = some b → ExD G.K (G.cls c) ∧ PySem.W.kitOne G.K (.ref (G.cls c)) (.ref (He.ga G.K "Full")) = some b := by
  intro c b e
  rw [hx.cls]
  unfold tbv_Full at e
  split at e
  · cases e
    exact ⟨exdB_ok (h.z.ex 1), of_decide_eq_true (h.z.ex 101 (b := kitB "Wrong" "Full" false))⟩
  · cases e
    exact ⟨exdB_ok (h.z.ex 3), of_decide_eq_true (h.z.ex 102 (b := kitB "Full" "Full" true))⟩
  · cases e
    exact ⟨exdB_ok (h.z.ex 5), of_decide_eq_true (h.z.ex 103 (b := kitB "Deep" "Full" false))⟩
  · cases e
    exact ⟨exdB_ok (h.z.ex 7), of_decide_eq_true (h.z.ex 104 (b := kitB "Many" "Full" false))⟩
  · cases e
    exact ⟨exdB_ok (h.z.ex 9), of_decide_eq_true (h.z.ex 105 (b := kitB "Twice" "Full" false))⟩
  · cases e
    exact ⟨exdB_ok (h.z.ex 11), of_decide_eq_true (h.z.ex 106 (b := kitB "NotLast" "Full" false))⟩
  · cases e
    exact ⟨exdB_ok (h.z.ex 13), of_decide_eq_true (h.z.ex 107 (b := kitB "NoLoop" "Full" false))⟩
  · cases e
    exact ⟨exdB_ok (h.z.ex 15), of_decide_eq_true (h.z.ex 108 (b := kitB "NoRow" "Full" false))⟩
  · cases e
    exact ⟨exdB_ok (h.z.ex 17), of_decide_eq_true (h.z.ex 109 (b := kitB "NoGap" "Full" false))⟩
  · cases e
    exact ⟨exdB_ok (h.z.ex 19), of_decide_eq_true (h.z.ex 110 (b := kitB "NoMark" "Full" false))⟩
  · cases e
    exact ⟨exdB_ok (h.z.ex 21), of_decide_eq_true (h.z.ex 111 (b := kitB "NoSpot" "Full" false))⟩
  · cases e
    exact ⟨exdB_ok (h.z.ex 23), of_decide_eq_true (h.z.ex 112 (b := kitB "BadWord" "Full" false))⟩
  · cases e
    exact ⟨exdB_ok (h.z.ex 25), of_decide_eq_true (h.z.ex 113 (b := kitB "NoStretch" "Full" false))⟩
  · cases e
    exact ⟨exdB_ok (h.z.ex 27), of_decide_eq_true (h.z.ex 114 (b := kitB "NoName" "Full" false))⟩
  · cases e
    exact ⟨exdB_ok (h.z.ex 29), of_decide_eq_true (h.z.ex 115 (b := kitB "Untold" "Full" false))⟩
  · cases e
    exact ⟨exdB_ok (h.z.ex 31), of_decide_eq_true (h.z.ex 116 (b := kitB "BadMark" "Full" false))⟩
  · cases e
    exact ⟨exdB_ok (h.z.ex 33), of_decide_eq_true (h.z.ex 117 (b := kitB "Overlap" "Full" false))⟩
  · cases e
    exact ⟨exdB_ok (h.z.ex 35), of_decide_eq_true (h.z.ex 118 (b := kitB "TooMany" "Full" false))⟩
  · cases e
    exact ⟨exdB_ok (h.z.ex 37), of_decide_eq_true (h.z.ex 119 (b := kitB "Refused" "Full" false))⟩
  · cases e
    exact ⟨exdB_ok (h.z.ex 39), of_decide_eq_true (h.z.ex 120 (b := kitB "NoEntry" "Full" false))⟩
  · cases e
    exact ⟨exdB_ok (h.z.ex 41), of_decide_eq_true (h.z.ex 121 (b := kitB "PieceError" "Full" false))⟩
  · cases e
    exact ⟨exdB_ok (h.z.ex 43), of_decide_eq_true (h.z.ex 122 (b := kitB "BadDeed" "Full" false))⟩
  · cases e
    exact ⟨exdB_ok (h.z.ex 45), of_decide_eq_true (h.z.ex 123 (b := kitB "Nothing" "Full" false))⟩
  · cases e
    exact ⟨exdB_ok (h.z.ex 47), of_decide_eq_true (h.z.ex 124 (b := kitB "NoText" "Full" false))⟩
  · cases e
    exact ⟨exdB_ok (h.z.ex 49), of_decide_eq_true (h.z.ex 125 (b := kitB "NoCommand" "Full" false))⟩
  · cases e
def tbv_Wrong : Nat → Option Bool
  | 0 => some true
  | 1 => some false
  | 2 => some false
  | 3 => some false
  | 4 => some false
  | 5 => some false
  | 6 => some false
  | 7 => some false
  | 8 => some false
  | 9 => some false
  | 10 => some false
  | 11 => some false
  | 12 => some false
  | 13 => some false
  | 14 => some false
  | 15 => some false
  | 16 => some false
  | 17 => some false
  | 18 => some false
  | 19 => some false
  | 20 => some false
  | 21 => some false
  | 22 => some false
  | 23 => some false
  | 24 => some false
  | _ => none
theorem tbvo_Wrong {G : Gd} {mg : Str → Option Value} {base : Heap} (h : Hd fa fn ts eb G mg base) (hx : Has G) : ∀ c b, tbv_Wrong c = some b → ExD G.K (G.cls c) ∧ PySem.W.kitOne G.K (.ref (G.cls c)) (.ref (He.ga G.K "Wrong")) = some b := by
  intro c b e
  rw [hx.cls]
  unfold tbv_Wrong at e
  split at e
  · cases e
    exact ⟨exdB_ok (h.z.ex 1), of_decide_eq_true (h.z.ex 126 (b := kitB "Wrong" "Wrong" true))⟩
  · cases e
    exact ⟨exdB_ok (h.z.ex 3), of_decide_eq_true (h.z.ex 127 (b := kitB "Full" "Wrong" false))⟩
  · cases e
    exact ⟨exdB_ok (h.z.ex 5), of_decide_eq_true (h.z.ex 128 (b := kitB "Deep" "Wrong" false))⟩
  · cases e
    exact ⟨exdB_ok (h.z.ex 7), of_decide_eq_true (h.z.ex 129 (b := kitB "Many" "Wrong" false))⟩
  · cases e
    exact ⟨exdB_ok (h.z.ex 9), of_decide_eq_true (h.z.ex 130 (b := kitB "Twice" "Wrong" false))⟩
  · cases e
    exact ⟨exdB_ok (h.z.ex 11), of_decide_eq_true (h.z.ex 131 (b := kitB "NotLast" "Wrong" false))⟩
  · cases e
    exact ⟨exdB_ok (h.z.ex 13), of_decide_eq_true (h.z.ex 132 (b := kitB "NoLoop" "Wrong" false))⟩
  · cases e
    exact ⟨exdB_ok (h.z.ex 15), of_decide_eq_true (h.z.ex 133 (b := kitB "NoRow" "Wrong" false))⟩
  · cases e
    exact ⟨exdB_ok (h.z.ex 17), of_decide_eq_true (h.z.ex 134 (b := kitB "NoGap" "Wrong" false))⟩
  · cases e
    exact ⟨exdB_ok (h.z.ex 19), of_decide_eq_true (h.z.ex 135 (b := kitB "NoMark" "Wrong" false))⟩
  · cases e
    exact ⟨exdB_ok (h.z.ex 21), of_decide_eq_true (h.z.ex 136 (b := kitB "NoSpot" "Wrong" false))⟩
  · cases e
    exact ⟨exdB_ok (h.z.ex 23), of_decide_eq_true (h.z.ex 137 (b := kitB "BadWord" "Wrong" false))⟩
  · cases e
    exact ⟨exdB_ok (h.z.ex 25), of_decide_eq_true (h.z.ex 138 (b := kitB "NoStretch" "Wrong" false))⟩
  · cases e
    exact ⟨exdB_ok (h.z.ex 27), of_decide_eq_true (h.z.ex 139 (b := kitB "NoName" "Wrong" false))⟩
  · cases e
    exact ⟨exdB_ok (h.z.ex 29), of_decide_eq_true (h.z.ex 140 (b := kitB "Untold" "Wrong" false))⟩
  · cases e
    exact ⟨exdB_ok (h.z.ex 31), of_decide_eq_true (h.z.ex 141 (b := kitB "BadMark" "Wrong" false))⟩
  · cases e
    exact ⟨exdB_ok (h.z.ex 33), of_decide_eq_true (h.z.ex 142 (b := kitB "Overlap" "Wrong" false))⟩
  · cases e
    exact ⟨exdB_ok (h.z.ex 35), of_decide_eq_true (h.z.ex 143 (b := kitB "TooMany" "Wrong" false))⟩
  · cases e
    exact ⟨exdB_ok (h.z.ex 37), of_decide_eq_true (h.z.ex 144 (b := kitB "Refused" "Wrong" false))⟩
  · cases e
    exact ⟨exdB_ok (h.z.ex 39), of_decide_eq_true (h.z.ex 145 (b := kitB "NoEntry" "Wrong" false))⟩
  · cases e
    exact ⟨exdB_ok (h.z.ex 41), of_decide_eq_true (h.z.ex 146 (b := kitB "PieceError" "Wrong" false))⟩
  · cases e
    exact ⟨exdB_ok (h.z.ex 43), of_decide_eq_true (h.z.ex 147 (b := kitB "BadDeed" "Wrong" false))⟩
  · cases e
    exact ⟨exdB_ok (h.z.ex 45), of_decide_eq_true (h.z.ex 148 (b := kitB "Nothing" "Wrong" false))⟩
  · cases e
    exact ⟨exdB_ok (h.z.ex 47), of_decide_eq_true (h.z.ex 149 (b := kitB "NoText" "Wrong" false))⟩
  · cases e
    exact ⟨exdB_ok (h.z.ex 49), of_decide_eq_true (h.z.ex 150 (b := kitB "NoCommand" "Wrong" false))⟩
  · cases e
def tbv_NoGap : Nat → Option Bool
  | 0 => some false
  | 1 => some false
  | 2 => some false
  | 3 => some false
  | 4 => some false
  | 5 => some false
  | 6 => some false
  | 7 => some false
  | 8 => some true
  | 9 => some false
  | 10 => some false
  | 11 => some false
  | 12 => some false
  | 13 => some false
  | 14 => some false
  | 15 => some false
  | 16 => some false
  | 17 => some false
  | 18 => some false
  | 19 => some false
  | 20 => some false
  | 21 => some false
  | 22 => some false
  | 23 => some false
  | 24 => some false
  | _ => none
theorem tbvo_NoGap {G : Gd} {mg : Str → Option Value} {base : Heap} (h : Hd fa fn ts eb G mg base) (hx : Has G) : ∀ c b, tbv_NoGap c = some b → ExD G.K (G.cls c) ∧ PySem.W.kitOne G.K (.ref (G.cls c)) (.ref (He.ga G.K "NoGap")) = some b := by
  intro c b e
  rw [hx.cls]
  unfold tbv_NoGap at e
  split at e
  · cases e
    exact ⟨exdB_ok (h.z.ex 1), of_decide_eq_true (h.z.ex 151 (b := kitB "Wrong" "NoGap" false))⟩
  · cases e
    exact ⟨exdB_ok (h.z.ex 3), of_decide_eq_true (h.z.ex 152 (b := kitB "Full" "NoGap" false))⟩
  · cases e
    exact ⟨exdB_ok (h.z.ex 5), of_decide_eq_true (h.z.ex 153 (b := kitB "Deep" "NoGap" false))⟩
  · cases e
    exact ⟨exdB_ok (h.z.ex 7), of_decide_eq_true (h.z.ex 154 (b := kitB "Many" "NoGap" false))⟩
  · cases e
    exact ⟨exdB_ok (h.z.ex 9), of_decide_eq_true (h.z.ex 155 (b := kitB "Twice" "NoGap" false))⟩
  · cases e
    exact ⟨exdB_ok (h.z.ex 11), of_decide_eq_true (h.z.ex 156 (b := kitB "NotLast" "NoGap" false))⟩
  · cases e
    exact ⟨exdB_ok (h.z.ex 13), of_decide_eq_true (h.z.ex 157 (b := kitB "NoLoop" "NoGap" false))⟩
  · cases e
    exact ⟨exdB_ok (h.z.ex 15), of_decide_eq_true (h.z.ex 158 (b := kitB "NoRow" "NoGap" false))⟩
  · cases e
    exact ⟨exdB_ok (h.z.ex 17), of_decide_eq_true (h.z.ex 159 (b := kitB "NoGap" "NoGap" true))⟩
  · cases e
    exact ⟨exdB_ok (h.z.ex 19), of_decide_eq_true (h.z.ex 160 (b := kitB "NoMark" "NoGap" false))⟩
  · cases e
    exact ⟨exdB_ok (h.z.ex 21), of_decide_eq_true (h.z.ex 161 (b := kitB "NoSpot" "NoGap" false))⟩
  · cases e
    exact ⟨exdB_ok (h.z.ex 23), of_decide_eq_true (h.z.ex 162 (b := kitB "BadWord" "NoGap" false))⟩
  · cases e
    exact ⟨exdB_ok (h.z.ex 25), of_decide_eq_true (h.z.ex 163 (b := kitB "NoStretch" "NoGap" false))⟩
  · cases e
    exact ⟨exdB_ok (h.z.ex 27), of_decide_eq_true (h.z.ex 164 (b := kitB "NoName" "NoGap" false))⟩
  · cases e
    exact ⟨exdB_ok (h.z.ex 29), of_decide_eq_true (h.z.ex 165 (b := kitB "Untold" "NoGap" false))⟩
  · cases e
    exact ⟨exdB_ok (h.z.ex 31), of_decide_eq_true (h.z.ex 166 (b := kitB "BadMark" "NoGap" false))⟩
  · cases e
    exact ⟨exdB_ok (h.z.ex 33), of_decide_eq_true (h.z.ex 167 (b := kitB "Overlap" "NoGap" false))⟩
  · cases e
    exact ⟨exdB_ok (h.z.ex 35), of_decide_eq_true (h.z.ex 168 (b := kitB "TooMany" "NoGap" false))⟩
  · cases e
    exact ⟨exdB_ok (h.z.ex 37), of_decide_eq_true (h.z.ex 169 (b := kitB "Refused" "NoGap" false))⟩
  · cases e
    exact ⟨exdB_ok (h.z.ex 39), of_decide_eq_true (h.z.ex 170 (b := kitB "NoEntry" "NoGap" false))⟩
  · cases e
    exact ⟨exdB_ok (h.z.ex 41), of_decide_eq_true (h.z.ex 171 (b := kitB "PieceError" "NoGap" false))⟩
  · cases e
    exact ⟨exdB_ok (h.z.ex 43), of_decide_eq_true (h.z.ex 172 (b := kitB "BadDeed" "NoGap" false))⟩
  · cases e
    exact ⟨exdB_ok (h.z.ex 45), of_decide_eq_true (h.z.ex 173 (b := kitB "Nothing" "NoGap" false))⟩
  · cases e
    exact ⟨exdB_ok (h.z.ex 47), of_decide_eq_true (h.z.ex 174 (b := kitB "NoText" "NoGap" false))⟩
  · cases e
    exact ⟨exdB_ok (h.z.ex 49), of_decide_eq_true (h.z.ex 175 (b := kitB "NoCommand" "NoGap" false))⟩
  · cases e
def tbv_NoRow : Nat → Option Bool
  | 0 => some false
  | 1 => some false
  | 2 => some false
  | 3 => some false
  | 4 => some false
  | 5 => some false
  | 6 => some false
  | 7 => some true
  | 8 => some false
  | 9 => some false
  | 10 => some false
  | 11 => some false
  | 12 => some false
  | 13 => some false
  | 14 => some false
  | 15 => some false
  | 16 => some false
  | 17 => some false
  | 18 => some false
  | 19 => some false
  | 20 => some false
  | 21 => some false
  | 22 => some false
  | 23 => some false
  | 24 => some false
  | _ => none
theorem tbvo_NoRow {G : Gd} {mg : Str → Option Value} {base : Heap} (h : Hd fa fn ts eb G mg base) (hx : Has G) : ∀ c b, tbv_NoRow c = some b → ExD G.K (G.cls c) ∧ PySem.W.kitOne G.K (.ref (G.cls c)) (.ref (He.ga G.K "NoRow")) = some b := by
  intro c b e
  rw [hx.cls]
  unfold tbv_NoRow at e
  split at e
  · cases e
    exact ⟨exdB_ok (h.z.ex 1), of_decide_eq_true (h.z.ex 176 (b := kitB "Wrong" "NoRow" false))⟩
  · cases e
    exact ⟨exdB_ok (h.z.ex 3), of_decide_eq_true (h.z.ex 177 (b := kitB "Full" "NoRow" false))⟩
  · cases e
    exact ⟨exdB_ok (h.z.ex 5), of_decide_eq_true (h.z.ex 178 (b := kitB "Deep" "NoRow" false))⟩
  · cases e
    exact ⟨exdB_ok (h.z.ex 7), of_decide_eq_true (h.z.ex 179 (b := kitB "Many" "NoRow" false))⟩
  · cases e
    exact ⟨exdB_ok (h.z.ex 9), of_decide_eq_true (h.z.ex 180 (b := kitB "Twice" "NoRow" false))⟩
  · cases e
    exact ⟨exdB_ok (h.z.ex 11), of_decide_eq_true (h.z.ex 181 (b := kitB "NotLast" "NoRow" false))⟩
  · cases e
    exact ⟨exdB_ok (h.z.ex 13), of_decide_eq_true (h.z.ex 182 (b := kitB "NoLoop" "NoRow" false))⟩
  · cases e
    exact ⟨exdB_ok (h.z.ex 15), of_decide_eq_true (h.z.ex 183 (b := kitB "NoRow" "NoRow" true))⟩
  · cases e
    exact ⟨exdB_ok (h.z.ex 17), of_decide_eq_true (h.z.ex 184 (b := kitB "NoGap" "NoRow" false))⟩
  · cases e
    exact ⟨exdB_ok (h.z.ex 19), of_decide_eq_true (h.z.ex 185 (b := kitB "NoMark" "NoRow" false))⟩
  · cases e
    exact ⟨exdB_ok (h.z.ex 21), of_decide_eq_true (h.z.ex 186 (b := kitB "NoSpot" "NoRow" false))⟩
  · cases e
    exact ⟨exdB_ok (h.z.ex 23), of_decide_eq_true (h.z.ex 187 (b := kitB "BadWord" "NoRow" false))⟩
  · cases e
    exact ⟨exdB_ok (h.z.ex 25), of_decide_eq_true (h.z.ex 188 (b := kitB "NoStretch" "NoRow" false))⟩
  · cases e
    exact ⟨exdB_ok (h.z.ex 27), of_decide_eq_true (h.z.ex 189 (b := kitB "NoName" "NoRow" false))⟩
  · cases e
    exact ⟨exdB_ok (h.z.ex 29), of_decide_eq_true (h.z.ex 190 (b := kitB "Untold" "NoRow" false))⟩
  · cases e
    exact ⟨exdB_ok (h.z.ex 31), of_decide_eq_true (h.z.ex 191 (b := kitB "BadMark" "NoRow" false))⟩
  · cases e
    exact ⟨exdB_ok (h.z.ex 33), of_decide_eq_true (h.z.ex 192 (b := kitB "Overlap" "NoRow" false))⟩
  · cases e
    exact ⟨exdB_ok (h.z.ex 35), of_decide_eq_true (h.z.ex 193 (b := kitB "TooMany" "NoRow" false))⟩
  · cases e
    exact ⟨exdB_ok (h.z.ex 37), of_decide_eq_true (h.z.ex 194 (b := kitB "Refused" "NoRow" false))⟩
  · cases e
    exact ⟨exdB_ok (h.z.ex 39), of_decide_eq_true (h.z.ex 195 (b := kitB "NoEntry" "NoRow" false))⟩
  · cases e
    exact ⟨exdB_ok (h.z.ex 41), of_decide_eq_true (h.z.ex 196 (b := kitB "PieceError" "NoRow" false))⟩
  · cases e
    exact ⟨exdB_ok (h.z.ex 43), of_decide_eq_true (h.z.ex 197 (b := kitB "BadDeed" "NoRow" false))⟩
  · cases e
    exact ⟨exdB_ok (h.z.ex 45), of_decide_eq_true (h.z.ex 198 (b := kitB "Nothing" "NoRow" false))⟩
  · cases e
    exact ⟨exdB_ok (h.z.ex 47), of_decide_eq_true (h.z.ex 199 (b := kitB "NoText" "NoRow" false))⟩
  · cases e
    exact ⟨exdB_ok (h.z.ex 49), of_decide_eq_true (h.z.ex 200 (b := kitB "NoCommand" "NoRow" false))⟩
  · cases e
def tbv_NoLoop : Nat → Option Bool
  | 0 => some false
  | 1 => some false
  | 2 => some false
  | 3 => some false
  | 4 => some false
  | 5 => some false
  | 6 => some true
  | 7 => some false
  | 8 => some false
  | 9 => some false
  | 10 => some false
  | 11 => some false
  | 12 => some false
  | 13 => some false
  | 14 => some false
  | 15 => some false
  | 16 => some false
  | 17 => some false
  | 18 => some false
  | 19 => some false
  | 20 => some false
  | 21 => some false
  | 22 => some false
  | 23 => some false
  | 24 => some false
  | _ => none
theorem tbvo_NoLoop {G : Gd} {mg : Str → Option Value} {base : Heap} (h : Hd fa fn ts eb G mg base) (hx : Has G) : ∀ c b, tbv_NoLoop c = some b → ExD G.K (G.cls c) ∧ PySem.W.kitOne G.K (.ref (G.cls c)) (.ref (He.ga G.K "NoLoop")) = some b := by
  intro c b e
  rw [hx.cls]
  unfold tbv_NoLoop at e
  split at e
  · cases e
    exact ⟨exdB_ok (h.z.ex 1), of_decide_eq_true (h.z.ex 201 (b := kitB "Wrong" "NoLoop" false))⟩
  · cases e
    exact ⟨exdB_ok (h.z.ex 3), of_decide_eq_true (h.z.ex 202 (b := kitB "Full" "NoLoop" false))⟩
  · cases e
    exact ⟨exdB_ok (h.z.ex 5), of_decide_eq_true (h.z.ex 203 (b := kitB "Deep" "NoLoop" false))⟩
  · cases e
    exact ⟨exdB_ok (h.z.ex 7), of_decide_eq_true (h.z.ex 204 (b := kitB "Many" "NoLoop" false))⟩
  · cases e
    exact ⟨exdB_ok (h.z.ex 9), of_decide_eq_true (h.z.ex 205 (b := kitB "Twice" "NoLoop" false))⟩
  · cases e
    exact ⟨exdB_ok (h.z.ex 11), of_decide_eq_true (h.z.ex 206 (b := kitB "NotLast" "NoLoop" false))⟩
  · cases e
    exact ⟨exdB_ok (h.z.ex 13), of_decide_eq_true (h.z.ex 207 (b := kitB "NoLoop" "NoLoop" true))⟩
  · cases e
    exact ⟨exdB_ok (h.z.ex 15), of_decide_eq_true (h.z.ex 208 (b := kitB "NoRow" "NoLoop" false))⟩
  · cases e
    exact ⟨exdB_ok (h.z.ex 17), of_decide_eq_true (h.z.ex 209 (b := kitB "NoGap" "NoLoop" false))⟩
  · cases e
    exact ⟨exdB_ok (h.z.ex 19), of_decide_eq_true (h.z.ex 210 (b := kitB "NoMark" "NoLoop" false))⟩
  · cases e
    exact ⟨exdB_ok (h.z.ex 21), of_decide_eq_true (h.z.ex 211 (b := kitB "NoSpot" "NoLoop" false))⟩
  · cases e
    exact ⟨exdB_ok (h.z.ex 23), of_decide_eq_true (h.z.ex 212 (b := kitB "BadWord" "NoLoop" false))⟩
  · cases e
    exact ⟨exdB_ok (h.z.ex 25), of_decide_eq_true (h.z.ex 213 (b := kitB "NoStretch" "NoLoop" false))⟩
  · cases e
    exact ⟨exdB_ok (h.z.ex 27), of_decide_eq_true (h.z.ex 214 (b := kitB "NoName" "NoLoop" false))⟩
  · cases e
    exact ⟨exdB_ok (h.z.ex 29), of_decide_eq_true (h.z.ex 215 (b := kitB "Untold" "NoLoop" false))⟩
  · cases e
    exact ⟨exdB_ok (h.z.ex 31), of_decide_eq_true (h.z.ex 216 (b := kitB "BadMark" "NoLoop" false))⟩
  · cases e
    exact ⟨exdB_ok (h.z.ex 33), of_decide_eq_true (h.z.ex 217 (b := kitB "Overlap" "NoLoop" false))⟩
  · cases e
    exact ⟨exdB_ok (h.z.ex 35), of_decide_eq_true (h.z.ex 218 (b := kitB "TooMany" "NoLoop" false))⟩
  · cases e
    exact ⟨exdB_ok (h.z.ex 37), of_decide_eq_true (h.z.ex 219 (b := kitB "Refused" "NoLoop" false))⟩
  · cases e
    exact ⟨exdB_ok (h.z.ex 39), of_decide_eq_true (h.z.ex 220 (b := kitB "NoEntry" "NoLoop" false))⟩
  · cases e
    exact ⟨exdB_ok (h.z.ex 41), of_decide_eq_true (h.z.ex 221 (b := kitB "PieceError" "NoLoop" false))⟩
  · cases e
    exact ⟨exdB_ok (h.z.ex 43), of_decide_eq_true (h.z.ex 222 (b := kitB "BadDeed" "NoLoop" false))⟩
  · cases e
    exact ⟨exdB_ok (h.z.ex 45), of_decide_eq_true (h.z.ex 223 (b := kitB "Nothing" "NoLoop" false))⟩
  · cases e
    exact ⟨exdB_ok (h.z.ex 47), of_decide_eq_true (h.z.ex 224 (b := kitB "NoText" "NoLoop" false))⟩
  · cases e
    exact ⟨exdB_ok (h.z.ex 49), of_decide_eq_true (h.z.ex 225 (b := kitB "NoCommand" "NoLoop" false))⟩
  · cases e
def tbv_NotLast : Nat → Option Bool
  | 0 => some false
  | 1 => some false
  | 2 => some false
  | 3 => some false
  | 4 => some false
  | 5 => some true
  | 6 => some false
  | 7 => some false
  | 8 => some false
  | 9 => some false
  | 10 => some false
  | 11 => some false
  | 12 => some false
  | 13 => some false
  | 14 => some false
  | 15 => some false
  | 16 => some false
  | 17 => some false
  | 18 => some false
  | 19 => some false
  | 20 => some false
  | 21 => some false
  | 22 => some false
  | 23 => some false
  | 24 => some false
  | _ => none
theorem tbvo_NotLast {G : Gd} {mg : Str → Option Value} {base : Heap} (h : Hd fa fn ts eb G mg base) (hx : Has G) : ∀ c b, tbv_NotLast c = some b → ExD G.K (G.cls c) ∧ PySem.W.kitOne G.K (.ref (G.cls c)) (.ref (He.ga G.K "NotLast")) = some b := by
  intro c b e
  rw [hx.cls]
  unfold tbv_NotLast at e
  split at e
  · cases e
    exact ⟨exdB_ok (h.z.ex 1), of_decide_eq_true (h.z.ex 226 (b := kitB "Wrong" "NotLast" false))⟩
  · cases e
    exact ⟨exdB_ok (h.z.ex 3), of_decide_eq_true (h.z.ex 227 (b := kitB "Full" "NotLast" false))⟩
  · cases e
    exact ⟨exdB_ok (h.z.ex 5), of_decide_eq_true (h.z.ex 228 (b := kitB "Deep" "NotLast" false))⟩
  · cases e
    exact ⟨exdB_ok (h.z.ex 7), of_decide_eq_true (h.z.ex 229 (b := kitB "Many" "NotLast" false))⟩
  · cases e
    exact ⟨exdB_ok (h.z.ex 9), of_decide_eq_true (h.z.ex 230 (b := kitB "Twice" "NotLast" false))⟩
  · cases e
    exact ⟨exdB_ok (h.z.ex 11), of_decide_eq_true (h.z.ex 231 (b := kitB "NotLast" "NotLast" true))⟩
  · cases e
    exact ⟨exdB_ok (h.z.ex 13), of_decide_eq_true (h.z.ex 232 (b := kitB "NoLoop" "NotLast" false))⟩
  · cases e
    exact ⟨exdB_ok (h.z.ex 15), of_decide_eq_true (h.z.ex 233 (b := kitB "NoRow" "NotLast" false))⟩
  · cases e
    exact ⟨exdB_ok (h.z.ex 17), of_decide_eq_true (h.z.ex 234 (b := kitB "NoGap" "NotLast" false))⟩
  · cases e
    exact ⟨exdB_ok (h.z.ex 19), of_decide_eq_true (h.z.ex 235 (b := kitB "NoMark" "NotLast" false))⟩
  · cases e
    exact ⟨exdB_ok (h.z.ex 21), of_decide_eq_true (h.z.ex 236 (b := kitB "NoSpot" "NotLast" false))⟩
  · cases e
    exact ⟨exdB_ok (h.z.ex 23), of_decide_eq_true (h.z.ex 237 (b := kitB "BadWord" "NotLast" false))⟩
  · cases e
    exact ⟨exdB_ok (h.z.ex 25), of_decide_eq_true (h.z.ex 238 (b := kitB "NoStretch" "NotLast" false))⟩
  · cases e
    exact ⟨exdB_ok (h.z.ex 27), of_decide_eq_true (h.z.ex 239 (b := kitB "NoName" "NotLast" false))⟩
  · cases e
    exact ⟨exdB_ok (h.z.ex 29), of_decide_eq_true (h.z.ex 240 (b := kitB "Untold" "NotLast" false))⟩
  · cases e
    exact ⟨exdB_ok (h.z.ex 31), of_decide_eq_true (h.z.ex 241 (b := kitB "BadMark" "NotLast" false))⟩
  · cases e
    exact ⟨exdB_ok (h.z.ex 33), of_decide_eq_true (h.z.ex 242 (b := kitB "Overlap" "NotLast" false))⟩
  · cases e
    exact ⟨exdB_ok (h.z.ex 35), of_decide_eq_true (h.z.ex 243 (b := kitB "TooMany" "NotLast" false))⟩
  · cases e
    exact ⟨exdB_ok (h.z.ex 37), of_decide_eq_true (h.z.ex 244 (b := kitB "Refused" "NotLast" false))⟩
  · cases e
    exact ⟨exdB_ok (h.z.ex 39), of_decide_eq_true (h.z.ex 245 (b := kitB "NoEntry" "NotLast" false))⟩
  · cases e
    exact ⟨exdB_ok (h.z.ex 41), of_decide_eq_true (h.z.ex 246 (b := kitB "PieceError" "NotLast" false))⟩
  · cases e
    exact ⟨exdB_ok (h.z.ex 43), of_decide_eq_true (h.z.ex 247 (b := kitB "BadDeed" "NotLast" false))⟩
  · cases e
    exact ⟨exdB_ok (h.z.ex 45), of_decide_eq_true (h.z.ex 248 (b := kitB "Nothing" "NotLast" false))⟩
  · cases e
    exact ⟨exdB_ok (h.z.ex 47), of_decide_eq_true (h.z.ex 249 (b := kitB "NoText" "NotLast" false))⟩
  · cases e
    exact ⟨exdB_ok (h.z.ex 49), of_decide_eq_true (h.z.ex 250 (b := kitB "NoCommand" "NotLast" false))⟩
  · cases e
def tbv_NoStretch : Nat → Option Bool
  | 0 => some false
  | 1 => some false
  | 2 => some false
  | 3 => some false
  | 4 => some false
  | 5 => some false
  | 6 => some false
  | 7 => some false
  | 8 => some false
  | 9 => some false
  | 10 => some false
  | 11 => some false
  | 12 => some true
  | 13 => some false
  | 14 => some false
  | 15 => some false
  | 16 => some false
  | 17 => some false
  | 18 => some false
  | 19 => some false
  | 20 => some false
  | 21 => some false
  | 22 => some false
  | 23 => some false
  | 24 => some false
  | _ => none
theorem tbvo_NoStretch {G : Gd} {mg : Str → Option Value} {base : Heap} (h : Hd fa fn ts eb G mg base) (hx : Has G) : ∀ c b, tbv_NoStretch c = some b → ExD G.K (G.cls c) ∧ PySem.W.kitOne G.K (.ref (G.cls c)) (.ref (He.ga G.K "NoStretch")) = some b := by
  intro c b e
  rw [hx.cls]
  unfold tbv_NoStretch at e
  split at e
  · cases e
    exact ⟨exdB_ok (h.z.ex 1), of_decide_eq_true (h.z.ex 251 (b := kitB "Wrong" "NoStretch" false))⟩
  · cases e
    exact ⟨exdB_ok (h.z.ex 3), of_decide_eq_true (h.z.ex 252 (b := kitB "Full" "NoStretch" false))⟩
  · cases e
    exact ⟨exdB_ok (h.z.ex 5), of_decide_eq_true (h.z.ex 253 (b := kitB "Deep" "NoStretch" false))⟩
  · cases e
    exact ⟨exdB_ok (h.z.ex 7), of_decide_eq_true (h.z.ex 254 (b := kitB "Many" "NoStretch" false))⟩
  · cases e
    exact ⟨exdB_ok (h.z.ex 9), of_decide_eq_true (h.z.ex 255 (b := kitB "Twice" "NoStretch" false))⟩
  · cases e
    exact ⟨exdB_ok (h.z.ex 11), of_decide_eq_true (h.z.ex 256 (b := kitB "NotLast" "NoStretch" false))⟩
  · cases e
    exact ⟨exdB_ok (h.z.ex 13), of_decide_eq_true (h.z.ex 257 (b := kitB "NoLoop" "NoStretch" false))⟩
  · cases e
    exact ⟨exdB_ok (h.z.ex 15), of_decide_eq_true (h.z.ex 258 (b := kitB "NoRow" "NoStretch" false))⟩
  · cases e
    exact ⟨exdB_ok (h.z.ex 17), of_decide_eq_true (h.z.ex 259 (b := kitB "NoGap" "NoStretch" false))⟩
  · cases e
    exact ⟨exdB_ok (h.z.ex 19), of_decide_eq_true (h.z.ex 260 (b := kitB "NoMark" "NoStretch" false))⟩
  · cases e
    exact ⟨exdB_ok (h.z.ex 21), of_decide_eq_true (h.z.ex 261 (b := kitB "NoSpot" "NoStretch" false))⟩
  · cases e
    exact ⟨exdB_ok (h.z.ex 23), of_decide_eq_true (h.z.ex 262 (b := kitB "BadWord" "NoStretch" false))⟩
  · cases e
    exact ⟨exdB_ok (h.z.ex 25), of_decide_eq_true (h.z.ex 263 (b := kitB "NoStretch" "NoStretch" true))⟩
  · cases e
    exact ⟨exdB_ok (h.z.ex 27), of_decide_eq_true (h.z.ex 264 (b := kitB "NoName" "NoStretch" false))⟩
  · cases e
    exact ⟨exdB_ok (h.z.ex 29), of_decide_eq_true (h.z.ex 265 (b := kitB "Untold" "NoStretch" false))⟩
  · cases e
    exact ⟨exdB_ok (h.z.ex 31), of_decide_eq_true (h.z.ex 266 (b := kitB "BadMark" "NoStretch" false))⟩
  · cases e
    exact ⟨exdB_ok (h.z.ex 33), of_decide_eq_true (h.z.ex 267 (b := kitB "Overlap" "NoStretch" false))⟩
  · cases e
    exact ⟨exdB_ok (h.z.ex 35), of_decide_eq_true (h.z.ex 268 (b := kitB "TooMany" "NoStretch" false))⟩
  · cases e
    exact ⟨exdB_ok (h.z.ex 37), of_decide_eq_true (h.z.ex 269 (b := kitB "Refused" "NoStretch" false))⟩
  · cases e
    exact ⟨exdB_ok (h.z.ex 39), of_decide_eq_true (h.z.ex 270 (b := kitB "NoEntry" "NoStretch" false))⟩
  · cases e
    exact ⟨exdB_ok (h.z.ex 41), of_decide_eq_true (h.z.ex 271 (b := kitB "PieceError" "NoStretch" false))⟩
  · cases e
    exact ⟨exdB_ok (h.z.ex 43), of_decide_eq_true (h.z.ex 272 (b := kitB "BadDeed" "NoStretch" false))⟩
  · cases e
    exact ⟨exdB_ok (h.z.ex 45), of_decide_eq_true (h.z.ex 273 (b := kitB "Nothing" "NoStretch" false))⟩
  · cases e
    exact ⟨exdB_ok (h.z.ex 47), of_decide_eq_true (h.z.ex 274 (b := kitB "NoText" "NoStretch" false))⟩
  · cases e
    exact ⟨exdB_ok (h.z.ex 49), of_decide_eq_true (h.z.ex 275 (b := kitB "NoCommand" "NoStretch" false))⟩
  · cases e
def tbv_BadWord : Nat → Option Bool
  | 0 => some false
  | 1 => some false
  | 2 => some false
  | 3 => some false
  | 4 => some false
  | 5 => some false
  | 6 => some false
  | 7 => some false
  | 8 => some false
  | 9 => some false
  | 10 => some false
  | 11 => some true
  | 12 => some false
  | 13 => some false
  | 14 => some false
  | 15 => some false
  | 16 => some false
  | 17 => some false
  | 18 => some false
  | 19 => some false
  | 20 => some false
  | 21 => some false
  | 22 => some false
  | 23 => some false
  | 24 => some false
  | _ => none
theorem tbvo_BadWord {G : Gd} {mg : Str → Option Value} {base : Heap} (h : Hd fa fn ts eb G mg base) (hx : Has G) : ∀ c b, tbv_BadWord c = some b → ExD G.K (G.cls c) ∧ PySem.W.kitOne G.K (.ref (G.cls c)) (.ref (He.ga G.K "BadWord")) = some b := by
  intro c b e
  rw [hx.cls]
  unfold tbv_BadWord at e
  split at e
  · cases e
    exact ⟨exdB_ok (h.z.ex 1), of_decide_eq_true (h.z.ex 276 (b := kitB "Wrong" "BadWord" false))⟩
  · cases e
    exact ⟨exdB_ok (h.z.ex 3), of_decide_eq_true (h.z.ex 277 (b := kitB "Full" "BadWord" false))⟩
  · cases e
    exact ⟨exdB_ok (h.z.ex 5), of_decide_eq_true (h.z.ex 278 (b := kitB "Deep" "BadWord" false))⟩
  · cases e
    exact ⟨exdB_ok (h.z.ex 7), of_decide_eq_true (h.z.ex 279 (b := kitB "Many" "BadWord" false))⟩
  · cases e
    exact ⟨exdB_ok (h.z.ex 9), of_decide_eq_true (h.z.ex 280 (b := kitB "Twice" "BadWord" false))⟩
  · cases e
    exact ⟨exdB_ok (h.z.ex 11), of_decide_eq_true (h.z.ex 281 (b := kitB "NotLast" "BadWord" false))⟩
  · cases e
    exact ⟨exdB_ok (h.z.ex 13), of_decide_eq_true (h.z.ex 282 (b := kitB "NoLoop" "BadWord" false))⟩
  · cases e
    exact ⟨exdB_ok (h.z.ex 15), of_decide_eq_true (h.z.ex 283 (b := kitB "NoRow" "BadWord" false))⟩
  · cases e
    exact ⟨exdB_ok (h.z.ex 17), of_decide_eq_true (h.z.ex 284 (b := kitB "NoGap" "BadWord" false))⟩
  · cases e
    exact ⟨exdB_ok (h.z.ex 19), of_decide_eq_true (h.z.ex 285 (b := kitB "NoMark" "BadWord" false))⟩
  · cases e
    exact ⟨exdB_ok (h.z.ex 21), of_decide_eq_true (h.z.ex 286 (b := kitB "NoSpot" "BadWord" false))⟩
  · cases e
    exact ⟨exdB_ok (h.z.ex 23), of_decide_eq_true (h.z.ex 287 (b := kitB "BadWord" "BadWord" true))⟩
  · cases e
    exact ⟨exdB_ok (h.z.ex 25), of_decide_eq_true (h.z.ex 288 (b := kitB "NoStretch" "BadWord" false))⟩
  · cases e
    exact ⟨exdB_ok (h.z.ex 27), of_decide_eq_true (h.z.ex 289 (b := kitB "NoName" "BadWord" false))⟩
  · cases e
    exact ⟨exdB_ok (h.z.ex 29), of_decide_eq_true (h.z.ex 290 (b := kitB "Untold" "BadWord" false))⟩
  · cases e
    exact ⟨exdB_ok (h.z.ex 31), of_decide_eq_true (h.z.ex 291 (b := kitB "BadMark" "BadWord" false))⟩
  · cases e
    exact ⟨exdB_ok (h.z.ex 33), of_decide_eq_true (h.z.ex 292 (b := kitB "Overlap" "BadWord" false))⟩
  · cases e
    exact ⟨exdB_ok (h.z.ex 35), of_decide_eq_true (h.z.ex 293 (b := kitB "TooMany" "BadWord" false))⟩
  · cases e
    exact ⟨exdB_ok (h.z.ex 37), of_decide_eq_true (h.z.ex 294 (b := kitB "Refused" "BadWord" false))⟩
  · cases e
    exact ⟨exdB_ok (h.z.ex 39), of_decide_eq_true (h.z.ex 295 (b := kitB "NoEntry" "BadWord" false))⟩
  · cases e
    exact ⟨exdB_ok (h.z.ex 41), of_decide_eq_true (h.z.ex 296 (b := kitB "PieceError" "BadWord" false))⟩
  · cases e
    exact ⟨exdB_ok (h.z.ex 43), of_decide_eq_true (h.z.ex 297 (b := kitB "BadDeed" "BadWord" false))⟩
  · cases e
    exact ⟨exdB_ok (h.z.ex 45), of_decide_eq_true (h.z.ex 298 (b := kitB "Nothing" "BadWord" false))⟩
  · cases e
    exact ⟨exdB_ok (h.z.ex 47), of_decide_eq_true (h.z.ex 299 (b := kitB "NoText" "BadWord" false))⟩
  · cases e
    exact ⟨exdB_ok (h.z.ex 49), of_decide_eq_true (h.z.ex 300 (b := kitB "NoCommand" "BadWord" false))⟩
  · cases e
def tbv_NoSpot : Nat → Option Bool
  | 0 => some false
  | 1 => some false
  | 2 => some false
  | 3 => some false
  | 4 => some false
  | 5 => some false
  | 6 => some false
  | 7 => some false
  | 8 => some false
  | 9 => some false
  | 10 => some true
  | 11 => some false
  | 12 => some false
  | 13 => some false
  | 14 => some false
  | 15 => some false
  | 16 => some false
  | 17 => some false
  | 18 => some false
  | 19 => some false
  | 20 => some false
  | 21 => some false
  | 22 => some false
  | 23 => some false
  | 24 => some false
  | _ => none
theorem tbvo_NoSpot {G : Gd} {mg : Str → Option Value} {base : Heap} (h : Hd fa fn ts eb G mg base) (hx : Has G) : ∀ c b, tbv_NoSpot c = some b → ExD G.K (G.cls c) ∧ PySem.W.kitOne G.K (.ref (G.cls c)) (.ref (He.ga G.K "NoSpot")) = some b := by
  intro c b e
  rw [hx.cls]
  unfold tbv_NoSpot at e
  split at e
  · cases e
    exact ⟨exdB_ok (h.z.ex 1), of_decide_eq_true (h.z.ex 301 (b := kitB "Wrong" "NoSpot" false))⟩
  · cases e
    exact ⟨exdB_ok (h.z.ex 3), of_decide_eq_true (h.z.ex 302 (b := kitB "Full" "NoSpot" false))⟩
  · cases e
    exact ⟨exdB_ok (h.z.ex 5), of_decide_eq_true (h.z.ex 303 (b := kitB "Deep" "NoSpot" false))⟩
  · cases e
    exact ⟨exdB_ok (h.z.ex 7), of_decide_eq_true (h.z.ex 304 (b := kitB "Many" "NoSpot" false))⟩
  · cases e
    exact ⟨exdB_ok (h.z.ex 9), of_decide_eq_true (h.z.ex 305 (b := kitB "Twice" "NoSpot" false))⟩
  · cases e
    exact ⟨exdB_ok (h.z.ex 11), of_decide_eq_true (h.z.ex 306 (b := kitB "NotLast" "NoSpot" false))⟩
  · cases e
    exact ⟨exdB_ok (h.z.ex 13), of_decide_eq_true (h.z.ex 307 (b := kitB "NoLoop" "NoSpot" false))⟩
  · cases e
    exact ⟨exdB_ok (h.z.ex 15), of_decide_eq_true (h.z.ex 308 (b := kitB "NoRow" "NoSpot" false))⟩
  · cases e
    exact ⟨exdB_ok (h.z.ex 17), of_decide_eq_true (h.z.ex 309 (b := kitB "NoGap" "NoSpot" false))⟩
  · cases e
    exact ⟨exdB_ok (h.z.ex 19), of_decide_eq_true (h.z.ex 310 (b := kitB "NoMark" "NoSpot" false))⟩
  · cases e
    exact ⟨exdB_ok (h.z.ex 21), of_decide_eq_true (h.z.ex 311 (b := kitB "NoSpot" "NoSpot" true))⟩
  · cases e
    exact ⟨exdB_ok (h.z.ex 23), of_decide_eq_true (h.z.ex 312 (b := kitB "BadWord" "NoSpot" false))⟩
  · cases e
    exact ⟨exdB_ok (h.z.ex 25), of_decide_eq_true (h.z.ex 313 (b := kitB "NoStretch" "NoSpot" false))⟩
  · cases e
    exact ⟨exdB_ok (h.z.ex 27), of_decide_eq_true (h.z.ex 314 (b := kitB "NoName" "NoSpot" false))⟩
  · cases e
    exact ⟨exdB_ok (h.z.ex 29), of_decide_eq_true (h.z.ex 315 (b := kitB "Untold" "NoSpot" false))⟩
  · cases e
    exact ⟨exdB_ok (h.z.ex 31), of_decide_eq_true (h.z.ex 316 (b := kitB "BadMark" "NoSpot" false))⟩
  · cases e
    exact ⟨exdB_ok (h.z.ex 33), of_decide_eq_true (h.z.ex 317 (b := kitB "Overlap" "NoSpot" false))⟩
  · cases e
    exact ⟨exdB_ok (h.z.ex 35), of_decide_eq_true (h.z.ex 318 (b := kitB "TooMany" "NoSpot" false))⟩
  · cases e
    exact ⟨exdB_ok (h.z.ex 37), of_decide_eq_true (h.z.ex 319 (b := kitB "Refused" "NoSpot" false))⟩
  · cases e
    exact ⟨exdB_ok (h.z.ex 39), of_decide_eq_true (h.z.ex 320 (b := kitB "NoEntry" "NoSpot" false))⟩
  · cases e
    exact ⟨exdB_ok (h.z.ex 41), of_decide_eq_true (h.z.ex 321 (b := kitB "PieceError" "NoSpot" false))⟩
  · cases e
    exact ⟨exdB_ok (h.z.ex 43), of_decide_eq_true (h.z.ex 322 (b := kitB "BadDeed" "NoSpot" false))⟩
  · cases e
    exact ⟨exdB_ok (h.z.ex 45), of_decide_eq_true (h.z.ex 323 (b := kitB "Nothing" "NoSpot" false))⟩
  · cases e
    exact ⟨exdB_ok (h.z.ex 47), of_decide_eq_true (h.z.ex 324 (b := kitB "NoText" "NoSpot" false))⟩
  · cases e
    exact ⟨exdB_ok (h.z.ex 49), of_decide_eq_true (h.z.ex 325 (b := kitB "NoCommand" "NoSpot" false))⟩
  · cases e
def tbv_NoMark : Nat → Option Bool
  | 0 => some false
  | 1 => some false
  | 2 => some false
  | 3 => some false
  | 4 => some false
  | 5 => some false
  | 6 => some false
  | 7 => some false
  | 8 => some false
  | 9 => some true
  | 10 => some false
  | 11 => some false
  | 12 => some false
  | 13 => some false
  | 14 => some false
  | 15 => some false
  | 16 => some false
  | 17 => some false
  | 18 => some false
  | 19 => some false
  | 20 => some false
  | 21 => some false
  | 22 => some false
  | 23 => some false
  | 24 => some false
  | _ => none
theorem tbvo_NoMark {G : Gd} {mg : Str → Option Value} {base : Heap} (h : Hd fa fn ts eb G mg base) (hx : Has G) : ∀ c b, tbv_NoMark c = some b → ExD G.K (G.cls c) ∧ PySem.W.kitOne G.K (.ref (G.cls c)) (.ref (He.ga G.K "NoMark")) = some b := by
  intro c b e
  rw [hx.cls]
  unfold tbv_NoMark at e
  split at e
  · cases e
    exact ⟨exdB_ok (h.z.ex 1), of_decide_eq_true (h.z.ex 326 (b := kitB "Wrong" "NoMark" false))⟩
  · cases e
    exact ⟨exdB_ok (h.z.ex 3), of_decide_eq_true (h.z.ex 327 (b := kitB "Full" "NoMark" false))⟩
  · cases e
    exact ⟨exdB_ok (h.z.ex 5), of_decide_eq_true (h.z.ex 328 (b := kitB "Deep" "NoMark" false))⟩
  · cases e
    exact ⟨exdB_ok (h.z.ex 7), of_decide_eq_true (h.z.ex 329 (b := kitB "Many" "NoMark" false))⟩
  · cases e
    exact ⟨exdB_ok (h.z.ex 9), of_decide_eq_true (h.z.ex 330 (b := kitB "Twice" "NoMark" false))⟩
  · cases e
    exact ⟨exdB_ok (h.z.ex 11), of_decide_eq_true (h.z.ex 331 (b := kitB "NotLast" "NoMark" false))⟩
  · cases e
    exact ⟨exdB_ok (h.z.ex 13), of_decide_eq_true (h.z.ex 332 (b := kitB "NoLoop" "NoMark" false))⟩
  · cases e
    exact ⟨exdB_ok (h.z.ex 15), of_decide_eq_true (h.z.ex 333 (b := kitB "NoRow" "NoMark" false))⟩
  · cases e
    exact ⟨exdB_ok (h.z.ex 17), of_decide_eq_true (h.z.ex 334 (b := kitB "NoGap" "NoMark" false))⟩
  · cases e
    exact ⟨exdB_ok (h.z.ex 19), of_decide_eq_true (h.z.ex 335 (b := kitB "NoMark" "NoMark" true))⟩
  · cases e
    exact ⟨exdB_ok (h.z.ex 21), of_decide_eq_true (h.z.ex 336 (b := kitB "NoSpot" "NoMark" false))⟩
  · cases e
    exact ⟨exdB_ok (h.z.ex 23), of_decide_eq_true (h.z.ex 337 (b := kitB "BadWord" "NoMark" false))⟩
  · cases e
    exact ⟨exdB_ok (h.z.ex 25), of_decide_eq_true (h.z.ex 338 (b := kitB "NoStretch" "NoMark" false))⟩
  · cases e
    exact ⟨exdB_ok (h.z.ex 27), of_decide_eq_true (h.z.ex 339 (b := kitB "NoName" "NoMark" false))⟩
  · cases e
    exact ⟨exdB_ok (h.z.ex 29), of_decide_eq_true (h.z.ex 340 (b := kitB "Untold" "NoMark" false))⟩
  · cases e
    exact ⟨exdB_ok (h.z.ex 31), of_decide_eq_true (h.z.ex 341 (b := kitB "BadMark" "NoMark" false))⟩
  · cases e
    exact ⟨exdB_ok (h.z.ex 33), of_decide_eq_true (h.z.ex 342 (b := kitB "Overlap" "NoMark" false))⟩
  · cases e
    exact ⟨exdB_ok (h.z.ex 35), of_decide_eq_true (h.z.ex 343 (b := kitB "TooMany" "NoMark" false))⟩
  · cases e
    exact ⟨exdB_ok (h.z.ex 37), of_decide_eq_true (h.z.ex 344 (b := kitB "Refused" "NoMark" false))⟩
  · cases e
    exact ⟨exdB_ok (h.z.ex 39), of_decide_eq_true (h.z.ex 345 (b := kitB "NoEntry" "NoMark" false))⟩
  · cases e
    exact ⟨exdB_ok (h.z.ex 41), of_decide_eq_true (h.z.ex 346 (b := kitB "PieceError" "NoMark" false))⟩
  · cases e
    exact ⟨exdB_ok (h.z.ex 43), of_decide_eq_true (h.z.ex 347 (b := kitB "BadDeed" "NoMark" false))⟩
  · cases e
    exact ⟨exdB_ok (h.z.ex 45), of_decide_eq_true (h.z.ex 348 (b := kitB "Nothing" "NoMark" false))⟩
  · cases e
    exact ⟨exdB_ok (h.z.ex 47), of_decide_eq_true (h.z.ex 349 (b := kitB "NoText" "NoMark" false))⟩
  · cases e
    exact ⟨exdB_ok (h.z.ex 49), of_decide_eq_true (h.z.ex 350 (b := kitB "NoCommand" "NoMark" false))⟩
  · cases e
def tbv_Overlap : Nat → Option Bool
  | 0 => some false
  | 1 => some false
  | 2 => some false
  | 3 => some false
  | 4 => some false
  | 5 => some false
  | 6 => some false
  | 7 => some false
  | 8 => some false
  | 9 => some false
  | 10 => some false
  | 11 => some false
  | 12 => some false
  | 13 => some false
  | 14 => some false
  | 15 => some false
  | 16 => some true
  | 17 => some false
  | 18 => some false
  | 19 => some false
  | 20 => some false
  | 21 => some false
  | 22 => some false
  | 23 => some false
  | 24 => some false
  | _ => none
theorem tbvo_Overlap {G : Gd} {mg : Str → Option Value} {base : Heap} (h : Hd fa fn ts eb G mg base) (hx : Has G) : ∀ c b, tbv_Overlap c = some b → ExD G.K (G.cls c) ∧ PySem.W.kitOne G.K (.ref (G.cls c)) (.ref (He.ga G.K "Overlap")) = some b := by
  intro c b e
  rw [hx.cls]
  unfold tbv_Overlap at e
  split at e
  · cases e
    exact ⟨exdB_ok (h.z.ex 1), of_decide_eq_true (h.z.ex 351 (b := kitB "Wrong" "Overlap" false))⟩
  · cases e
    exact ⟨exdB_ok (h.z.ex 3), of_decide_eq_true (h.z.ex 352 (b := kitB "Full" "Overlap" false))⟩
  · cases e
    exact ⟨exdB_ok (h.z.ex 5), of_decide_eq_true (h.z.ex 353 (b := kitB "Deep" "Overlap" false))⟩
  · cases e
    exact ⟨exdB_ok (h.z.ex 7), of_decide_eq_true (h.z.ex 354 (b := kitB "Many" "Overlap" false))⟩
  · cases e
    exact ⟨exdB_ok (h.z.ex 9), of_decide_eq_true (h.z.ex 355 (b := kitB "Twice" "Overlap" false))⟩
  · cases e
    exact ⟨exdB_ok (h.z.ex 11), of_decide_eq_true (h.z.ex 356 (b := kitB "NotLast" "Overlap" false))⟩
  · cases e
    exact ⟨exdB_ok (h.z.ex 13), of_decide_eq_true (h.z.ex 357 (b := kitB "NoLoop" "Overlap" false))⟩
  · cases e
    exact ⟨exdB_ok (h.z.ex 15), of_decide_eq_true (h.z.ex 358 (b := kitB "NoRow" "Overlap" false))⟩
  · cases e
    exact ⟨exdB_ok (h.z.ex 17), of_decide_eq_true (h.z.ex 359 (b := kitB "NoGap" "Overlap" false))⟩
  · cases e
    exact ⟨exdB_ok (h.z.ex 19), of_decide_eq_true (h.z.ex 360 (b := kitB "NoMark" "Overlap" false))⟩
  · cases e
    exact ⟨exdB_ok (h.z.ex 21), of_decide_eq_true (h.z.ex 361 (b := kitB "NoSpot" "Overlap" false))⟩
  · cases e
    exact ⟨exdB_ok (h.z.ex 23), of_decide_eq_true (h.z.ex 362 (b := kitB "BadWord" "Overlap" false))⟩
  · cases e
    exact ⟨exdB_ok (h.z.ex 25), of_decide_eq_true (h.z.ex 363 (b := kitB "NoStretch" "Overlap" false))⟩
  · cases e
    exact ⟨exdB_ok (h.z.ex 27), of_decide_eq_true (h.z.ex 364 (b := kitB "NoName" "Overlap" false))⟩
  · cases e
    exact ⟨exdB_ok (h.z.ex 29), of_decide_eq_true (h.z.ex 365 (b := kitB "Untold" "Overlap" false))⟩
  · cases e
    exact ⟨exdB_ok (h.z.ex 31), of_decide_eq_true (h.z.ex 366 (b := kitB "BadMark" "Overlap" false))⟩
  · cases e
    exact ⟨exdB_ok (h.z.ex 33), of_decide_eq_true (h.z.ex 367 (b := kitB "Overlap" "Overlap" true))⟩
  · cases e
    exact ⟨exdB_ok (h.z.ex 35), of_decide_eq_true (h.z.ex 368 (b := kitB "TooMany" "Overlap" false))⟩
  · cases e
    exact ⟨exdB_ok (h.z.ex 37), of_decide_eq_true (h.z.ex 369 (b := kitB "Refused" "Overlap" false))⟩
  · cases e
    exact ⟨exdB_ok (h.z.ex 39), of_decide_eq_true (h.z.ex 370 (b := kitB "NoEntry" "Overlap" false))⟩
  · cases e
    exact ⟨exdB_ok (h.z.ex 41), of_decide_eq_true (h.z.ex 371 (b := kitB "PieceError" "Overlap" false))⟩
  · cases e
    exact ⟨exdB_ok (h.z.ex 43), of_decide_eq_true (h.z.ex 372 (b := kitB "BadDeed" "Overlap" false))⟩
  · cases e
    exact ⟨exdB_ok (h.z.ex 45), of_decide_eq_true (h.z.ex 373 (b := kitB "Nothing" "Overlap" false))⟩
  · cases e
    exact ⟨exdB_ok (h.z.ex 47), of_decide_eq_true (h.z.ex 374 (b := kitB "NoText" "Overlap" false))⟩
  · cases e
    exact ⟨exdB_ok (h.z.ex 49), of_decide_eq_true (h.z.ex 375 (b := kitB "NoCommand" "Overlap" false))⟩
  · cases e
def tbv_BadMark : Nat → Option Bool
  | 0 => some false
  | 1 => some false
  | 2 => some false
  | 3 => some false
  | 4 => some false
  | 5 => some false
  | 6 => some false
  | 7 => some false
  | 8 => some false
  | 9 => some false
  | 10 => some false
  | 11 => some false
  | 12 => some false
  | 13 => some false
  | 14 => some false
  | 15 => some true
  | 16 => some false
  | 17 => some false
  | 18 => some false
  | 19 => some false
  | 20 => some false
  | 21 => some false
  | 22 => some false
  | 23 => some false
  | 24 => some false
  | _ => none
theorem tbvo_BadMark {G : Gd} {mg : Str → Option Value} {base : Heap} (h : Hd fa fn ts eb G mg base) (hx : Has G) : ∀ c b, tbv_BadMark c = some b → ExD G.K (G.cls c) ∧ PySem.W.kitOne G.K (.ref (G.cls c)) (.ref (He.ga G.K "BadMark")) = some b := by
  intro c b e
  rw [hx.cls]
  unfold tbv_BadMark at e
  split at e
  · cases e
    exact ⟨exdB_ok (h.z.ex 1), of_decide_eq_true (h.z.ex 376 (b := kitB "Wrong" "BadMark" false))⟩
  · cases e
    exact ⟨exdB_ok (h.z.ex 3), of_decide_eq_true (h.z.ex 377 (b := kitB "Full" "BadMark" false))⟩
  · cases e
    exact ⟨exdB_ok (h.z.ex 5), of_decide_eq_true (h.z.ex 378 (b := kitB "Deep" "BadMark" false))⟩
  · cases e
    exact ⟨exdB_ok (h.z.ex 7), of_decide_eq_true (h.z.ex 379 (b := kitB "Many" "BadMark" false))⟩
  · cases e
    exact ⟨exdB_ok (h.z.ex 9), of_decide_eq_true (h.z.ex 380 (b := kitB "Twice" "BadMark" false))⟩
  · cases e
    exact ⟨exdB_ok (h.z.ex 11), of_decide_eq_true (h.z.ex 381 (b := kitB "NotLast" "BadMark" false))⟩
  · cases e
    exact ⟨exdB_ok (h.z.ex 13), of_decide_eq_true (h.z.ex 382 (b := kitB "NoLoop" "BadMark" false))⟩
  · cases e
    exact ⟨exdB_ok (h.z.ex 15), of_decide_eq_true (h.z.ex 383 (b := kitB "NoRow" "BadMark" false))⟩
  · cases e
    exact ⟨exdB_ok (h.z.ex 17), of_decide_eq_true (h.z.ex 384 (b := kitB "NoGap" "BadMark" false))⟩
  · cases e
    exact ⟨exdB_ok (h.z.ex 19), of_decide_eq_true (h.z.ex 385 (b := kitB "NoMark" "BadMark" false))⟩
  · cases e
    exact ⟨exdB_ok (h.z.ex 21), of_decide_eq_true (h.z.ex 386 (b := kitB "NoSpot" "BadMark" false))⟩
  · cases e
    exact ⟨exdB_ok (h.z.ex 23), of_decide_eq_true (h.z.ex 387 (b := kitB "BadWord" "BadMark" false))⟩
  · cases e
    exact ⟨exdB_ok (h.z.ex 25), of_decide_eq_true (h.z.ex 388 (b := kitB "NoStretch" "BadMark" false))⟩
  · cases e
    exact ⟨exdB_ok (h.z.ex 27), of_decide_eq_true (h.z.ex 389 (b := kitB "NoName" "BadMark" false))⟩
  · cases e
    exact ⟨exdB_ok (h.z.ex 29), of_decide_eq_true (h.z.ex 390 (b := kitB "Untold" "BadMark" false))⟩
  · cases e
    exact ⟨exdB_ok (h.z.ex 31), of_decide_eq_true (h.z.ex 391 (b := kitB "BadMark" "BadMark" true))⟩
  · cases e
    exact ⟨exdB_ok (h.z.ex 33), of_decide_eq_true (h.z.ex 392 (b := kitB "Overlap" "BadMark" false))⟩
  · cases e
    exact ⟨exdB_ok (h.z.ex 35), of_decide_eq_true (h.z.ex 393 (b := kitB "TooMany" "BadMark" false))⟩
  · cases e
    exact ⟨exdB_ok (h.z.ex 37), of_decide_eq_true (h.z.ex 394 (b := kitB "Refused" "BadMark" false))⟩
  · cases e
    exact ⟨exdB_ok (h.z.ex 39), of_decide_eq_true (h.z.ex 395 (b := kitB "NoEntry" "BadMark" false))⟩
  · cases e
    exact ⟨exdB_ok (h.z.ex 41), of_decide_eq_true (h.z.ex 396 (b := kitB "PieceError" "BadMark" false))⟩
  · cases e
    exact ⟨exdB_ok (h.z.ex 43), of_decide_eq_true (h.z.ex 397 (b := kitB "BadDeed" "BadMark" false))⟩
  · cases e
    exact ⟨exdB_ok (h.z.ex 45), of_decide_eq_true (h.z.ex 398 (b := kitB "Nothing" "BadMark" false))⟩
  · cases e
    exact ⟨exdB_ok (h.z.ex 47), of_decide_eq_true (h.z.ex 399 (b := kitB "NoText" "BadMark" false))⟩
  · cases e
    exact ⟨exdB_ok (h.z.ex 49), of_decide_eq_true (h.z.ex 400 (b := kitB "NoCommand" "BadMark" false))⟩
  · cases e
def tbv_Untold : Nat → Option Bool
  | 0 => some false
  | 1 => some false
  | 2 => some false
  | 3 => some false
  | 4 => some false
  | 5 => some false
  | 6 => some false
  | 7 => some false
  | 8 => some false
  | 9 => some false
  | 10 => some false
  | 11 => some false
  | 12 => some false
  | 13 => some false
  | 14 => some true
  | 15 => some false
  | 16 => some false
  | 17 => some false
  | 18 => some false
  | 19 => some false
  | 20 => some false
  | 21 => some false
  | 22 => some false
  | 23 => some false
  | 24 => some false
  | _ => none
theorem tbvo_Untold {G : Gd} {mg : Str → Option Value} {base : Heap} (h : Hd fa fn ts eb G mg base) (hx : Has G) : ∀ c b, tbv_Untold c = some b → ExD G.K (G.cls c) ∧ PySem.W.kitOne G.K (.ref (G.cls c)) (.ref (He.ga G.K "Untold")) = some b := by
  intro c b e
  rw [hx.cls]
  unfold tbv_Untold at e
  split at e
  · cases e
    exact ⟨exdB_ok (h.z.ex 1), of_decide_eq_true (h.z.ex 401 (b := kitB "Wrong" "Untold" false))⟩
  · cases e
    exact ⟨exdB_ok (h.z.ex 3), of_decide_eq_true (h.z.ex 402 (b := kitB "Full" "Untold" false))⟩
  · cases e
    exact ⟨exdB_ok (h.z.ex 5), of_decide_eq_true (h.z.ex 403 (b := kitB "Deep" "Untold" false))⟩
  · cases e
    exact ⟨exdB_ok (h.z.ex 7), of_decide_eq_true (h.z.ex 404 (b := kitB "Many" "Untold" false))⟩
  · cases e
    exact ⟨exdB_ok (h.z.ex 9), of_decide_eq_true (h.z.ex 405 (b := kitB "Twice" "Untold" false))⟩
  · cases e
    exact ⟨exdB_ok (h.z.ex 11), of_decide_eq_true (h.z.ex 406 (b := kitB "NotLast" "Untold" false))⟩
  · cases e
    exact ⟨exdB_ok (h.z.ex 13), of_decide_eq_true (h.z.ex 407 (b := kitB "NoLoop" "Untold" false))⟩
  · cases e
    exact ⟨exdB_ok (h.z.ex 15), of_decide_eq_true (h.z.ex 408 (b := kitB "NoRow" "Untold" false))⟩
  · cases e
    exact ⟨exdB_ok (h.z.ex 17), of_decide_eq_true (h.z.ex 409 (b := kitB "NoGap" "Untold" false))⟩
  · cases e
    exact ⟨exdB_ok (h.z.ex 19), of_decide_eq_true (h.z.ex 410 (b := kitB "NoMark" "Untold" false))⟩
  · cases e
    exact ⟨exdB_ok (h.z.ex 21), of_decide_eq_true (h.z.ex 411 (b := kitB "NoSpot" "Untold" false))⟩
  · cases e
    exact ⟨exdB_ok (h.z.ex 23), of_decide_eq_true (h.z.ex 412 (b := kitB "BadWord" "Untold" false))⟩
  · cases e
    exact ⟨exdB_ok (h.z.ex 25), of_decide_eq_true (h.z.ex 413 (b := kitB "NoStretch" "Untold" false))⟩
  · cases e
    exact ⟨exdB_ok (h.z.ex 27), of_decide_eq_true (h.z.ex 414 (b := kitB "NoName" "Untold" false))⟩
  · cases e
    exact ⟨exdB_ok (h.z.ex 29), of_decide_eq_true (h.z.ex 415 (b := kitB "Untold" "Untold" true))⟩
  · cases e
    exact ⟨exdB_ok (h.z.ex 31), of_decide_eq_true (h.z.ex 416 (b := kitB "BadMark" "Untold" false))⟩
  · cases e
    exact ⟨exdB_ok (h.z.ex 33), of_decide_eq_true (h.z.ex 417 (b := kitB "Overlap" "Untold" false))⟩
  · cases e
    exact ⟨exdB_ok (h.z.ex 35), of_decide_eq_true (h.z.ex 418 (b := kitB "TooMany" "Untold" false))⟩
  · cases e
    exact ⟨exdB_ok (h.z.ex 37), of_decide_eq_true (h.z.ex 419 (b := kitB "Refused" "Untold" false))⟩
  · cases e
    exact ⟨exdB_ok (h.z.ex 39), of_decide_eq_true (h.z.ex 420 (b := kitB "NoEntry" "Untold" false))⟩
  · cases e
    exact ⟨exdB_ok (h.z.ex 41), of_decide_eq_true (h.z.ex 421 (b := kitB "PieceError" "Untold" false))⟩
  · cases e
    exact ⟨exdB_ok (h.z.ex 43), of_decide_eq_true (h.z.ex 422 (b := kitB "BadDeed" "Untold" false))⟩
  · cases e
    exact ⟨exdB_ok (h.z.ex 45), of_decide_eq_true (h.z.ex 423 (b := kitB "Nothing" "Untold" false))⟩
  · cases e
    exact ⟨exdB_ok (h.z.ex 47), of_decide_eq_true (h.z.ex 424 (b := kitB "NoText" "Untold" false))⟩
  · cases e
    exact ⟨exdB_ok (h.z.ex 49), of_decide_eq_true (h.z.ex 425 (b := kitB "NoCommand" "Untold" false))⟩
  · cases e
def tbv_NoName : Nat → Option Bool
  | 0 => some false
  | 1 => some false
  | 2 => some false
  | 3 => some false
  | 4 => some false
  | 5 => some false
  | 6 => some false
  | 7 => some false
  | 8 => some false
  | 9 => some false
  | 10 => some false
  | 11 => some false
  | 12 => some false
  | 13 => some true
  | 14 => some false
  | 15 => some false
  | 16 => some false
  | 17 => some false
  | 18 => some false
  | 19 => some false
  | 20 => some false
  | 21 => some false
  | 22 => some false
  | 23 => some false
  | 24 => some false
  | _ => none
theorem tbvo_NoName {G : Gd} {mg : Str → Option Value} {base : Heap} (h : Hd fa fn ts eb G mg base) (hx : Has G) : ∀ c b, tbv_NoName c = some b → ExD G.K (G.cls c) ∧ PySem.W.kitOne G.K (.ref (G.cls c)) (.ref (He.ga G.K "NoName")) = some b := by
  intro c b e
  rw [hx.cls]
  unfold tbv_NoName at e
  split at e
  · cases e
    exact ⟨exdB_ok (h.z.ex 1), of_decide_eq_true (h.z.ex 426 (b := kitB "Wrong" "NoName" false))⟩
  · cases e
    exact ⟨exdB_ok (h.z.ex 3), of_decide_eq_true (h.z.ex 427 (b := kitB "Full" "NoName" false))⟩
  · cases e
    exact ⟨exdB_ok (h.z.ex 5), of_decide_eq_true (h.z.ex 428 (b := kitB "Deep" "NoName" false))⟩
  · cases e
    exact ⟨exdB_ok (h.z.ex 7), of_decide_eq_true (h.z.ex 429 (b := kitB "Many" "NoName" false))⟩
  · cases e
    exact ⟨exdB_ok (h.z.ex 9), of_decide_eq_true (h.z.ex 430 (b := kitB "Twice" "NoName" false))⟩
  · cases e
    exact ⟨exdB_ok (h.z.ex 11), of_decide_eq_true (h.z.ex 431 (b := kitB "NotLast" "NoName" false))⟩
  · cases e
    exact ⟨exdB_ok (h.z.ex 13), of_decide_eq_true (h.z.ex 432 (b := kitB "NoLoop" "NoName" false))⟩
  · cases e
    exact ⟨exdB_ok (h.z.ex 15), of_decide_eq_true (h.z.ex 433 (b := kitB "NoRow" "NoName" false))⟩
  · cases e
    exact ⟨exdB_ok (h.z.ex 17), of_decide_eq_true (h.z.ex 434 (b := kitB "NoGap" "NoName" false))⟩
  · cases e
    exact ⟨exdB_ok (h.z.ex 19), of_decide_eq_true (h.z.ex 435 (b := kitB "NoMark" "NoName" false))⟩
  · cases e
    exact ⟨exdB_ok (h.z.ex 21), of_decide_eq_true (h.z.ex 436 (b := kitB "NoSpot" "NoName" false))⟩
  · cases e
    exact ⟨exdB_ok (h.z.ex 23), of_decide_eq_true (h.z.ex 437 (b := kitB "BadWord" "NoName" false))⟩
  · cases e
    exact ⟨exdB_ok (h.z.ex 25), of_decide_eq_true (h.z.ex 438 (b := kitB "NoStretch" "NoName" false))⟩
  · cases e
    exact ⟨exdB_ok (h.z.ex 27), of_decide_eq_true (h.z.ex 439 (b := kitB "NoName" "NoName" true))⟩
  · cases e
    exact ⟨exdB_ok (h.z.ex 29), of_decide_eq_true (h.z.ex 440 (b := kitB "Untold" "NoName" false))⟩
  · cases e
    exact ⟨exdB_ok (h.z.ex 31), of_decide_eq_true (h.z.ex 441 (b := kitB "BadMark" "NoName" false))⟩
  · cases e
    exact ⟨exdB_ok (h.z.ex 33), of_decide_eq_true (h.z.ex 442 (b := kitB "Overlap" "NoName" false))⟩
  · cases e
    exact ⟨exdB_ok (h.z.ex 35), of_decide_eq_true (h.z.ex 443 (b := kitB "TooMany" "NoName" false))⟩
  · cases e
    exact ⟨exdB_ok (h.z.ex 37), of_decide_eq_true (h.z.ex 444 (b := kitB "Refused" "NoName" false))⟩
  · cases e
    exact ⟨exdB_ok (h.z.ex 39), of_decide_eq_true (h.z.ex 445 (b := kitB "NoEntry" "NoName" false))⟩
  · cases e
    exact ⟨exdB_ok (h.z.ex 41), of_decide_eq_true (h.z.ex 446 (b := kitB "PieceError" "NoName" false))⟩
  · cases e
    exact ⟨exdB_ok (h.z.ex 43), of_decide_eq_true (h.z.ex 447 (b := kitB "BadDeed" "NoName" false))⟩
  · cases e
    exact ⟨exdB_ok (h.z.ex 45), of_decide_eq_true (h.z.ex 448 (b := kitB "Nothing" "NoName" false))⟩
  · cases e
    exact ⟨exdB_ok (h.z.ex 47), of_decide_eq_true (h.z.ex 449 (b := kitB "NoText" "NoName" false))⟩
  · cases e
    exact ⟨exdB_ok (h.z.ex 49), of_decide_eq_true (h.z.ex 450 (b := kitB "NoCommand" "NoName" false))⟩
  · cases e
def tbv_BadDeed : Nat → Option Bool
  | 0 => some false
  | 1 => some false
  | 2 => some false
  | 3 => some false
  | 4 => some false
  | 5 => some false
  | 6 => some false
  | 7 => some false
  | 8 => some false
  | 9 => some false
  | 10 => some false
  | 11 => some false
  | 12 => some false
  | 13 => some false
  | 14 => some false
  | 15 => some false
  | 16 => some false
  | 17 => some false
  | 18 => some false
  | 19 => some false
  | 20 => some false
  | 21 => some true
  | 22 => some false
  | 23 => some false
  | 24 => some false
  | _ => none
theorem tbvo_BadDeed {G : Gd} {mg : Str → Option Value} {base : Heap} (h : Hd fa fn ts eb G mg base) (hx : Has G) : ∀ c b, tbv_BadDeed c = some b → ExD G.K (G.cls c) ∧ PySem.W.kitOne G.K (.ref (G.cls c)) (.ref (He.ga G.K "BadDeed")) = some b := by
  intro c b e
  rw [hx.cls]
  unfold tbv_BadDeed at e
  split at e
  · cases e
    exact ⟨exdB_ok (h.z.ex 1), of_decide_eq_true (h.z.ex 451 (b := kitB "Wrong" "BadDeed" false))⟩
  · cases e
    exact ⟨exdB_ok (h.z.ex 3), of_decide_eq_true (h.z.ex 452 (b := kitB "Full" "BadDeed" false))⟩
  · cases e
    exact ⟨exdB_ok (h.z.ex 5), of_decide_eq_true (h.z.ex 453 (b := kitB "Deep" "BadDeed" false))⟩
  · cases e
    exact ⟨exdB_ok (h.z.ex 7), of_decide_eq_true (h.z.ex 454 (b := kitB "Many" "BadDeed" false))⟩
  · cases e
    exact ⟨exdB_ok (h.z.ex 9), of_decide_eq_true (h.z.ex 455 (b := kitB "Twice" "BadDeed" false))⟩
  · cases e
    exact ⟨exdB_ok (h.z.ex 11), of_decide_eq_true (h.z.ex 456 (b := kitB "NotLast" "BadDeed" false))⟩
  · cases e
    exact ⟨exdB_ok (h.z.ex 13), of_decide_eq_true (h.z.ex 457 (b := kitB "NoLoop" "BadDeed" false))⟩
  · cases e
    exact ⟨exdB_ok (h.z.ex 15), of_decide_eq_true (h.z.ex 458 (b := kitB "NoRow" "BadDeed" false))⟩
  · cases e
    exact ⟨exdB_ok (h.z.ex 17), of_decide_eq_true (h.z.ex 459 (b := kitB "NoGap" "BadDeed" false))⟩
  · cases e
    exact ⟨exdB_ok (h.z.ex 19), of_decide_eq_true (h.z.ex 460 (b := kitB "NoMark" "BadDeed" false))⟩
  · cases e
    exact ⟨exdB_ok (h.z.ex 21), of_decide_eq_true (h.z.ex 461 (b := kitB "NoSpot" "BadDeed" false))⟩
  · cases e
    exact ⟨exdB_ok (h.z.ex 23), of_decide_eq_true (h.z.ex 462 (b := kitB "BadWord" "BadDeed" false))⟩
  · cases e
    exact ⟨exdB_ok (h.z.ex 25), of_decide_eq_true (h.z.ex 463 (b := kitB "NoStretch" "BadDeed" false))⟩
  · cases e
    exact ⟨exdB_ok (h.z.ex 27), of_decide_eq_true (h.z.ex 464 (b := kitB "NoName" "BadDeed" false))⟩
  · cases e
    exact ⟨exdB_ok (h.z.ex 29), of_decide_eq_true (h.z.ex 465 (b := kitB "Untold" "BadDeed" false))⟩
  · cases e
    exact ⟨exdB_ok (h.z.ex 31), of_decide_eq_true (h.z.ex 466 (b := kitB "BadMark" "BadDeed" false))⟩
  · cases e
    exact ⟨exdB_ok (h.z.ex 33), of_decide_eq_true (h.z.ex 467 (b := kitB "Overlap" "BadDeed" false))⟩
  · cases e
    exact ⟨exdB_ok (h.z.ex 35), of_decide_eq_true (h.z.ex 468 (b := kitB "TooMany" "BadDeed" false))⟩
  · cases e
    exact ⟨exdB_ok (h.z.ex 37), of_decide_eq_true (h.z.ex 469 (b := kitB "Refused" "BadDeed" false))⟩
  · cases e
    exact ⟨exdB_ok (h.z.ex 39), of_decide_eq_true (h.z.ex 470 (b := kitB "NoEntry" "BadDeed" false))⟩
  · cases e
    exact ⟨exdB_ok (h.z.ex 41), of_decide_eq_true (h.z.ex 471 (b := kitB "PieceError" "BadDeed" false))⟩
  · cases e
    exact ⟨exdB_ok (h.z.ex 43), of_decide_eq_true (h.z.ex 472 (b := kitB "BadDeed" "BadDeed" true))⟩
  · cases e
    exact ⟨exdB_ok (h.z.ex 45), of_decide_eq_true (h.z.ex 473 (b := kitB "Nothing" "BadDeed" false))⟩
  · cases e
    exact ⟨exdB_ok (h.z.ex 47), of_decide_eq_true (h.z.ex 474 (b := kitB "NoText" "BadDeed" false))⟩
  · cases e
    exact ⟨exdB_ok (h.z.ex 49), of_decide_eq_true (h.z.ex 475 (b := kitB "NoCommand" "BadDeed" false))⟩
  · cases e
def tbv_NoEntry : Nat → Option Bool
  | 0 => some false
  | 1 => some false
  | 2 => some false
  | 3 => some false
  | 4 => some false
  | 5 => some false
  | 6 => some false
  | 7 => some false
  | 8 => some false
  | 9 => some false
  | 10 => some false
  | 11 => some false
  | 12 => some false
  | 13 => some false
  | 14 => some false
  | 15 => some false
  | 16 => some false
  | 17 => some false
  | 18 => some false
  | 19 => some true
  | 20 => some false
  | 21 => some false
  | 22 => some false
  | 23 => some false
  | 24 => some false
  | _ => none
theorem tbvo_NoEntry {G : Gd} {mg : Str → Option Value} {base : Heap} (h : Hd fa fn ts eb G mg base) (hx : Has G) : ∀ c b, tbv_NoEntry c = some b → ExD G.K (G.cls c) ∧ PySem.W.kitOne G.K (.ref (G.cls c)) (.ref (He.ga G.K "NoEntry")) = some b := by
  intro c b e
  rw [hx.cls]
  unfold tbv_NoEntry at e
  split at e
  · cases e
    exact ⟨exdB_ok (h.z.ex 1), of_decide_eq_true (h.z.ex 476 (b := kitB "Wrong" "NoEntry" false))⟩
  · cases e
    exact ⟨exdB_ok (h.z.ex 3), of_decide_eq_true (h.z.ex 477 (b := kitB "Full" "NoEntry" false))⟩
  · cases e
    exact ⟨exdB_ok (h.z.ex 5), of_decide_eq_true (h.z.ex 478 (b := kitB "Deep" "NoEntry" false))⟩
  · cases e
    exact ⟨exdB_ok (h.z.ex 7), of_decide_eq_true (h.z.ex 479 (b := kitB "Many" "NoEntry" false))⟩
  · cases e
    exact ⟨exdB_ok (h.z.ex 9), of_decide_eq_true (h.z.ex 480 (b := kitB "Twice" "NoEntry" false))⟩
  · cases e
    exact ⟨exdB_ok (h.z.ex 11), of_decide_eq_true (h.z.ex 481 (b := kitB "NotLast" "NoEntry" false))⟩
  · cases e
    exact ⟨exdB_ok (h.z.ex 13), of_decide_eq_true (h.z.ex 482 (b := kitB "NoLoop" "NoEntry" false))⟩
  · cases e
    exact ⟨exdB_ok (h.z.ex 15), of_decide_eq_true (h.z.ex 483 (b := kitB "NoRow" "NoEntry" false))⟩
  · cases e
    exact ⟨exdB_ok (h.z.ex 17), of_decide_eq_true (h.z.ex 484 (b := kitB "NoGap" "NoEntry" false))⟩
  · cases e
    exact ⟨exdB_ok (h.z.ex 19), of_decide_eq_true (h.z.ex 485 (b := kitB "NoMark" "NoEntry" false))⟩
  · cases e
    exact ⟨exdB_ok (h.z.ex 21), of_decide_eq_true (h.z.ex 486 (b := kitB "NoSpot" "NoEntry" false))⟩
  · cases e
    exact ⟨exdB_ok (h.z.ex 23), of_decide_eq_true (h.z.ex 487 (b := kitB "BadWord" "NoEntry" false))⟩
  · cases e
    exact ⟨exdB_ok (h.z.ex 25), of_decide_eq_true (h.z.ex 488 (b := kitB "NoStretch" "NoEntry" false))⟩
  · cases e
    exact ⟨exdB_ok (h.z.ex 27), of_decide_eq_true (h.z.ex 489 (b := kitB "NoName" "NoEntry" false))⟩
  · cases e
    exact ⟨exdB_ok (h.z.ex 29), of_decide_eq_true (h.z.ex 490 (b := kitB "Untold" "NoEntry" false))⟩
  · cases e
    exact ⟨exdB_ok (h.z.ex 31), of_decide_eq_true (h.z.ex 491 (b := kitB "BadMark" "NoEntry" false))⟩
  · cases e
    exact ⟨exdB_ok (h.z.ex 33), of_decide_eq_true (h.z.ex 492 (b := kitB "Overlap" "NoEntry" false))⟩
  · cases e
    exact ⟨exdB_ok (h.z.ex 35), of_decide_eq_true (h.z.ex 493 (b := kitB "TooMany" "NoEntry" false))⟩
  · cases e
    exact ⟨exdB_ok (h.z.ex 37), of_decide_eq_true (h.z.ex 494 (b := kitB "Refused" "NoEntry" false))⟩
  · cases e
    exact ⟨exdB_ok (h.z.ex 39), of_decide_eq_true (h.z.ex 495 (b := kitB "NoEntry" "NoEntry" true))⟩
  · cases e
    exact ⟨exdB_ok (h.z.ex 41), of_decide_eq_true (h.z.ex 496 (b := kitB "PieceError" "NoEntry" false))⟩
  · cases e
    exact ⟨exdB_ok (h.z.ex 43), of_decide_eq_true (h.z.ex 497 (b := kitB "BadDeed" "NoEntry" false))⟩
  · cases e
    exact ⟨exdB_ok (h.z.ex 45), of_decide_eq_true (h.z.ex 498 (b := kitB "Nothing" "NoEntry" false))⟩
  · cases e
    exact ⟨exdB_ok (h.z.ex 47), of_decide_eq_true (h.z.ex 499 (b := kitB "NoText" "NoEntry" false))⟩
  · cases e
    exact ⟨exdB_ok (h.z.ex 49), of_decide_eq_true (h.z.ex 500 (b := kitB "NoCommand" "NoEntry" false))⟩
  · cases e
def tbv_Refused : Nat → Option Bool
  | 0 => some false
  | 1 => some false
  | 2 => some false
  | 3 => some false
  | 4 => some false
  | 5 => some false
  | 6 => some false
  | 7 => some false
  | 8 => some false
  | 9 => some false
  | 10 => some false
  | 11 => some false
  | 12 => some false
  | 13 => some false
  | 14 => some false
  | 15 => some false
  | 16 => some false
  | 17 => some false
  | 18 => some true
  | 19 => some false
  | 20 => some false
  | 21 => some false
  | 22 => some false
  | 23 => some false
  | 24 => some false
  | _ => none
theorem tbvo_Refused {G : Gd} {mg : Str → Option Value} {base : Heap} (h : Hd fa fn ts eb G mg base) (hx : Has G) : ∀ c b, tbv_Refused c = some b → ExD G.K (G.cls c) ∧ PySem.W.kitOne G.K (.ref (G.cls c)) (.ref (He.ga G.K "Refused")) = some b := by
  intro c b e
  rw [hx.cls]
  unfold tbv_Refused at e
  split at e
  · cases e
    exact ⟨exdB_ok (h.z.ex 1), of_decide_eq_true (h.z.ex 501 (b := kitB "Wrong" "Refused" false))⟩
  · cases e
    exact ⟨exdB_ok (h.z.ex 3), of_decide_eq_true (h.z.ex 502 (b := kitB "Full" "Refused" false))⟩
  · cases e
    exact ⟨exdB_ok (h.z.ex 5), of_decide_eq_true (h.z.ex 503 (b := kitB "Deep" "Refused" false))⟩
  · cases e
    exact ⟨exdB_ok (h.z.ex 7), of_decide_eq_true (h.z.ex 504 (b := kitB "Many" "Refused" false))⟩
  · cases e
    exact ⟨exdB_ok (h.z.ex 9), of_decide_eq_true (h.z.ex 505 (b := kitB "Twice" "Refused" false))⟩
  · cases e
    exact ⟨exdB_ok (h.z.ex 11), of_decide_eq_true (h.z.ex 506 (b := kitB "NotLast" "Refused" false))⟩
  · cases e
    exact ⟨exdB_ok (h.z.ex 13), of_decide_eq_true (h.z.ex 507 (b := kitB "NoLoop" "Refused" false))⟩
  · cases e
    exact ⟨exdB_ok (h.z.ex 15), of_decide_eq_true (h.z.ex 508 (b := kitB "NoRow" "Refused" false))⟩
  · cases e
    exact ⟨exdB_ok (h.z.ex 17), of_decide_eq_true (h.z.ex 509 (b := kitB "NoGap" "Refused" false))⟩
  · cases e
    exact ⟨exdB_ok (h.z.ex 19), of_decide_eq_true (h.z.ex 510 (b := kitB "NoMark" "Refused" false))⟩
  · cases e
    exact ⟨exdB_ok (h.z.ex 21), of_decide_eq_true (h.z.ex 511 (b := kitB "NoSpot" "Refused" false))⟩
  · cases e
    exact ⟨exdB_ok (h.z.ex 23), of_decide_eq_true (h.z.ex 512 (b := kitB "BadWord" "Refused" false))⟩
  · cases e
    exact ⟨exdB_ok (h.z.ex 25), of_decide_eq_true (h.z.ex 513 (b := kitB "NoStretch" "Refused" false))⟩
  · cases e
    exact ⟨exdB_ok (h.z.ex 27), of_decide_eq_true (h.z.ex 514 (b := kitB "NoName" "Refused" false))⟩
  · cases e
    exact ⟨exdB_ok (h.z.ex 29), of_decide_eq_true (h.z.ex 515 (b := kitB "Untold" "Refused" false))⟩
  · cases e
    exact ⟨exdB_ok (h.z.ex 31), of_decide_eq_true (h.z.ex 516 (b := kitB "BadMark" "Refused" false))⟩
  · cases e
    exact ⟨exdB_ok (h.z.ex 33), of_decide_eq_true (h.z.ex 517 (b := kitB "Overlap" "Refused" false))⟩
  · cases e
    exact ⟨exdB_ok (h.z.ex 35), of_decide_eq_true (h.z.ex 518 (b := kitB "TooMany" "Refused" false))⟩
  · cases e
    exact ⟨exdB_ok (h.z.ex 37), of_decide_eq_true (h.z.ex 519 (b := kitB "Refused" "Refused" true))⟩
  · cases e
    exact ⟨exdB_ok (h.z.ex 39), of_decide_eq_true (h.z.ex 520 (b := kitB "NoEntry" "Refused" false))⟩
  · cases e
    exact ⟨exdB_ok (h.z.ex 41), of_decide_eq_true (h.z.ex 521 (b := kitB "PieceError" "Refused" false))⟩
  · cases e
    exact ⟨exdB_ok (h.z.ex 43), of_decide_eq_true (h.z.ex 522 (b := kitB "BadDeed" "Refused" false))⟩
  · cases e
    exact ⟨exdB_ok (h.z.ex 45), of_decide_eq_true (h.z.ex 523 (b := kitB "Nothing" "Refused" false))⟩
  · cases e
    exact ⟨exdB_ok (h.z.ex 47), of_decide_eq_true (h.z.ex 524 (b := kitB "NoText" "Refused" false))⟩
  · cases e
    exact ⟨exdB_ok (h.z.ex 49), of_decide_eq_true (h.z.ex 525 (b := kitB "NoCommand" "Refused" false))⟩
  · cases e
def tbv_TooMany : Nat → Option Bool
  | 0 => some false
  | 1 => some false
  | 2 => some false
  | 3 => some false
  | 4 => some false
  | 5 => some false
  | 6 => some false
  | 7 => some false
  | 8 => some false
  | 9 => some false
  | 10 => some false
  | 11 => some false
  | 12 => some false
  | 13 => some false
  | 14 => some false
  | 15 => some false
  | 16 => some false
  | 17 => some true
  | 18 => some false
  | 19 => some false
  | 20 => some false
  | 21 => some false
  | 22 => some false
  | 23 => some false
  | 24 => some false
  | _ => none
theorem tbvo_TooMany {G : Gd} {mg : Str → Option Value} {base : Heap} (h : Hd fa fn ts eb G mg base) (hx : Has G) : ∀ c b, tbv_TooMany c = some b → ExD G.K (G.cls c) ∧ PySem.W.kitOne G.K (.ref (G.cls c)) (.ref (He.ga G.K "TooMany")) = some b := by
  intro c b e
  rw [hx.cls]
  unfold tbv_TooMany at e
  split at e
  · cases e
    exact ⟨exdB_ok (h.z.ex 1), of_decide_eq_true (h.z.ex 526 (b := kitB "Wrong" "TooMany" false))⟩
  · cases e
    exact ⟨exdB_ok (h.z.ex 3), of_decide_eq_true (h.z.ex 527 (b := kitB "Full" "TooMany" false))⟩
  · cases e
    exact ⟨exdB_ok (h.z.ex 5), of_decide_eq_true (h.z.ex 528 (b := kitB "Deep" "TooMany" false))⟩
  · cases e
    exact ⟨exdB_ok (h.z.ex 7), of_decide_eq_true (h.z.ex 529 (b := kitB "Many" "TooMany" false))⟩
  · cases e
    exact ⟨exdB_ok (h.z.ex 9), of_decide_eq_true (h.z.ex 530 (b := kitB "Twice" "TooMany" false))⟩
  · cases e
    exact ⟨exdB_ok (h.z.ex 11), of_decide_eq_true (h.z.ex 531 (b := kitB "NotLast" "TooMany" false))⟩
  · cases e
    exact ⟨exdB_ok (h.z.ex 13), of_decide_eq_true (h.z.ex 532 (b := kitB "NoLoop" "TooMany" false))⟩
  · cases e
    exact ⟨exdB_ok (h.z.ex 15), of_decide_eq_true (h.z.ex 533 (b := kitB "NoRow" "TooMany" false))⟩
  · cases e
    exact ⟨exdB_ok (h.z.ex 17), of_decide_eq_true (h.z.ex 534 (b := kitB "NoGap" "TooMany" false))⟩
  · cases e
    exact ⟨exdB_ok (h.z.ex 19), of_decide_eq_true (h.z.ex 535 (b := kitB "NoMark" "TooMany" false))⟩
  · cases e
    exact ⟨exdB_ok (h.z.ex 21), of_decide_eq_true (h.z.ex 536 (b := kitB "NoSpot" "TooMany" false))⟩
  · cases e
    exact ⟨exdB_ok (h.z.ex 23), of_decide_eq_true (h.z.ex 537 (b := kitB "BadWord" "TooMany" false))⟩
  · cases e
    exact ⟨exdB_ok (h.z.ex 25), of_decide_eq_true (h.z.ex 538 (b := kitB "NoStretch" "TooMany" false))⟩
  · cases e
    exact ⟨exdB_ok (h.z.ex 27), of_decide_eq_true (h.z.ex 539 (b := kitB "NoName" "TooMany" false))⟩
  · cases e
    exact ⟨exdB_ok (h.z.ex 29), of_decide_eq_true (h.z.ex 540 (b := kitB "Untold" "TooMany" false))⟩
  · cases e
    exact ⟨exdB_ok (h.z.ex 31), of_decide_eq_true (h.z.ex 541 (b := kitB "BadMark" "TooMany" false))⟩
  · cases e
    exact ⟨exdB_ok (h.z.ex 33), of_decide_eq_true (h.z.ex 542 (b := kitB "Overlap" "TooMany" false))⟩
  · cases e
    exact ⟨exdB_ok (h.z.ex 35), of_decide_eq_true (h.z.ex 543 (b := kitB "TooMany" "TooMany" true))⟩
  · cases e
    exact ⟨exdB_ok (h.z.ex 37), of_decide_eq_true (h.z.ex 544 (b := kitB "Refused" "TooMany" false))⟩
  · cases e
    exact ⟨exdB_ok (h.z.ex 39), of_decide_eq_true (h.z.ex 545 (b := kitB "NoEntry" "TooMany" false))⟩
  · cases e
    exact ⟨exdB_ok (h.z.ex 41), of_decide_eq_true (h.z.ex 546 (b := kitB "PieceError" "TooMany" false))⟩
  · cases e
    exact ⟨exdB_ok (h.z.ex 43), of_decide_eq_true (h.z.ex 547 (b := kitB "BadDeed" "TooMany" false))⟩
  · cases e
    exact ⟨exdB_ok (h.z.ex 45), of_decide_eq_true (h.z.ex 548 (b := kitB "Nothing" "TooMany" false))⟩
  · cases e
    exact ⟨exdB_ok (h.z.ex 47), of_decide_eq_true (h.z.ex 549 (b := kitB "NoText" "TooMany" false))⟩
  · cases e
    exact ⟨exdB_ok (h.z.ex 49), of_decide_eq_true (h.z.ex 550 (b := kitB "NoCommand" "TooMany" false))⟩
  · cases e
def tbv_NoCommand : Nat → Option Bool
  | 0 => some false
  | 1 => some false
  | 2 => some false
  | 3 => some false
  | 4 => some false
  | 5 => some false
  | 6 => some false
  | 7 => some false
  | 8 => some false
  | 9 => some false
  | 10 => some false
  | 11 => some false
  | 12 => some false
  | 13 => some false
  | 14 => some false
  | 15 => some false
  | 16 => some false
  | 17 => some false
  | 18 => some false
  | 19 => some false
  | 20 => some false
  | 21 => some false
  | 22 => some false
  | 23 => some false
  | 24 => some true
  | _ => none
theorem tbvo_NoCommand {G : Gd} {mg : Str → Option Value} {base : Heap} (h : Hd fa fn ts eb G mg base) (hx : Has G) : ∀ c b, tbv_NoCommand c = some b → ExD G.K (G.cls c) ∧ PySem.W.kitOne G.K (.ref (G.cls c)) (.ref (He.ga G.K "NoCommand")) = some b := by
  intro c b e
  rw [hx.cls]
  unfold tbv_NoCommand at e
  split at e
  · cases e
    exact ⟨exdB_ok (h.z.ex 1), of_decide_eq_true (h.z.ex 551 (b := kitB "Wrong" "NoCommand" false))⟩
  · cases e
    exact ⟨exdB_ok (h.z.ex 3), of_decide_eq_true (h.z.ex 552 (b := kitB "Full" "NoCommand" false))⟩
  · cases e
    exact ⟨exdB_ok (h.z.ex 5), of_decide_eq_true (h.z.ex 553 (b := kitB "Deep" "NoCommand" false))⟩
  · cases e
    exact ⟨exdB_ok (h.z.ex 7), of_decide_eq_true (h.z.ex 554 (b := kitB "Many" "NoCommand" false))⟩
  · cases e
    exact ⟨exdB_ok (h.z.ex 9), of_decide_eq_true (h.z.ex 555 (b := kitB "Twice" "NoCommand" false))⟩
  · cases e
    exact ⟨exdB_ok (h.z.ex 11), of_decide_eq_true (h.z.ex 556 (b := kitB "NotLast" "NoCommand" false))⟩
  · cases e
    exact ⟨exdB_ok (h.z.ex 13), of_decide_eq_true (h.z.ex 557 (b := kitB "NoLoop" "NoCommand" false))⟩
  · cases e
    exact ⟨exdB_ok (h.z.ex 15), of_decide_eq_true (h.z.ex 558 (b := kitB "NoRow" "NoCommand" false))⟩
  · cases e
    exact ⟨exdB_ok (h.z.ex 17), of_decide_eq_true (h.z.ex 559 (b := kitB "NoGap" "NoCommand" false))⟩
  · cases e
    exact ⟨exdB_ok (h.z.ex 19), of_decide_eq_true (h.z.ex 560 (b := kitB "NoMark" "NoCommand" false))⟩
  · cases e
    exact ⟨exdB_ok (h.z.ex 21), of_decide_eq_true (h.z.ex 561 (b := kitB "NoSpot" "NoCommand" false))⟩
  · cases e
    exact ⟨exdB_ok (h.z.ex 23), of_decide_eq_true (h.z.ex 562 (b := kitB "BadWord" "NoCommand" false))⟩
  · cases e
    exact ⟨exdB_ok (h.z.ex 25), of_decide_eq_true (h.z.ex 563 (b := kitB "NoStretch" "NoCommand" false))⟩
  · cases e
    exact ⟨exdB_ok (h.z.ex 27), of_decide_eq_true (h.z.ex 564 (b := kitB "NoName" "NoCommand" false))⟩
  · cases e
    exact ⟨exdB_ok (h.z.ex 29), of_decide_eq_true (h.z.ex 565 (b := kitB "Untold" "NoCommand" false))⟩
  · cases e
    exact ⟨exdB_ok (h.z.ex 31), of_decide_eq_true (h.z.ex 566 (b := kitB "BadMark" "NoCommand" false))⟩
  · cases e
    exact ⟨exdB_ok (h.z.ex 33), of_decide_eq_true (h.z.ex 567 (b := kitB "Overlap" "NoCommand" false))⟩
  · cases e
    exact ⟨exdB_ok (h.z.ex 35), of_decide_eq_true (h.z.ex 568 (b := kitB "TooMany" "NoCommand" false))⟩
  · cases e
    exact ⟨exdB_ok (h.z.ex 37), of_decide_eq_true (h.z.ex 569 (b := kitB "Refused" "NoCommand" false))⟩
  · cases e
    exact ⟨exdB_ok (h.z.ex 39), of_decide_eq_true (h.z.ex 570 (b := kitB "NoEntry" "NoCommand" false))⟩
  · cases e
    exact ⟨exdB_ok (h.z.ex 41), of_decide_eq_true (h.z.ex 571 (b := kitB "PieceError" "NoCommand" false))⟩
  · cases e
    exact ⟨exdB_ok (h.z.ex 43), of_decide_eq_true (h.z.ex 572 (b := kitB "BadDeed" "NoCommand" false))⟩
  · cases e
    exact ⟨exdB_ok (h.z.ex 45), of_decide_eq_true (h.z.ex 573 (b := kitB "Nothing" "NoCommand" false))⟩
  · cases e
    exact ⟨exdB_ok (h.z.ex 47), of_decide_eq_true (h.z.ex 574 (b := kitB "NoText" "NoCommand" false))⟩
  · cases e
    exact ⟨exdB_ok (h.z.ex 49), of_decide_eq_true (h.z.ex 575 (b := kitB "NoCommand" "NoCommand" true))⟩
  · cases e
def tbv_NoText : Nat → Option Bool
  | 0 => some false
  | 1 => some false
  | 2 => some false
  | 3 => some false
  | 4 => some false
  | 5 => some false
  | 6 => some false
  | 7 => some false
  | 8 => some false
  | 9 => some false
  | 10 => some false
  | 11 => some false
  | 12 => some false
  | 13 => some false
  | 14 => some false
  | 15 => some false
  | 16 => some false
  | 17 => some false
  | 18 => some false
  | 19 => some false
  | 20 => some false
  | 21 => some false
  | 22 => some false
  | 23 => some true
  | 24 => some false
  | _ => none
theorem tbvo_NoText {G : Gd} {mg : Str → Option Value} {base : Heap} (h : Hd fa fn ts eb G mg base) (hx : Has G) : ∀ c b, tbv_NoText c = some b → ExD G.K (G.cls c) ∧ PySem.W.kitOne G.K (.ref (G.cls c)) (.ref (He.ga G.K "NoText")) = some b := by
  intro c b e
  rw [hx.cls]
  unfold tbv_NoText at e
  split at e
  · cases e
    exact ⟨exdB_ok (h.z.ex 1), of_decide_eq_true (h.z.ex 576 (b := kitB "Wrong" "NoText" false))⟩
  · cases e
    exact ⟨exdB_ok (h.z.ex 3), of_decide_eq_true (h.z.ex 577 (b := kitB "Full" "NoText" false))⟩
  · cases e
    exact ⟨exdB_ok (h.z.ex 5), of_decide_eq_true (h.z.ex 578 (b := kitB "Deep" "NoText" false))⟩
  · cases e
    exact ⟨exdB_ok (h.z.ex 7), of_decide_eq_true (h.z.ex 579 (b := kitB "Many" "NoText" false))⟩
  · cases e
    exact ⟨exdB_ok (h.z.ex 9), of_decide_eq_true (h.z.ex 580 (b := kitB "Twice" "NoText" false))⟩
  · cases e
    exact ⟨exdB_ok (h.z.ex 11), of_decide_eq_true (h.z.ex 581 (b := kitB "NotLast" "NoText" false))⟩
  · cases e
    exact ⟨exdB_ok (h.z.ex 13), of_decide_eq_true (h.z.ex 582 (b := kitB "NoLoop" "NoText" false))⟩
  · cases e
    exact ⟨exdB_ok (h.z.ex 15), of_decide_eq_true (h.z.ex 583 (b := kitB "NoRow" "NoText" false))⟩
  · cases e
    exact ⟨exdB_ok (h.z.ex 17), of_decide_eq_true (h.z.ex 584 (b := kitB "NoGap" "NoText" false))⟩
  · cases e
    exact ⟨exdB_ok (h.z.ex 19), of_decide_eq_true (h.z.ex 585 (b := kitB "NoMark" "NoText" false))⟩
  · cases e
    exact ⟨exdB_ok (h.z.ex 21), of_decide_eq_true (h.z.ex 586 (b := kitB "NoSpot" "NoText" false))⟩
  · cases e
    exact ⟨exdB_ok (h.z.ex 23), of_decide_eq_true (h.z.ex 587 (b := kitB "BadWord" "NoText" false))⟩
  · cases e
    exact ⟨exdB_ok (h.z.ex 25), of_decide_eq_true (h.z.ex 588 (b := kitB "NoStretch" "NoText" false))⟩
  · cases e
    exact ⟨exdB_ok (h.z.ex 27), of_decide_eq_true (h.z.ex 589 (b := kitB "NoName" "NoText" false))⟩
  · cases e
    exact ⟨exdB_ok (h.z.ex 29), of_decide_eq_true (h.z.ex 590 (b := kitB "Untold" "NoText" false))⟩
  · cases e
    exact ⟨exdB_ok (h.z.ex 31), of_decide_eq_true (h.z.ex 591 (b := kitB "BadMark" "NoText" false))⟩
  · cases e
    exact ⟨exdB_ok (h.z.ex 33), of_decide_eq_true (h.z.ex 592 (b := kitB "Overlap" "NoText" false))⟩
  · cases e
    exact ⟨exdB_ok (h.z.ex 35), of_decide_eq_true (h.z.ex 593 (b := kitB "TooMany" "NoText" false))⟩
  · cases e
    exact ⟨exdB_ok (h.z.ex 37), of_decide_eq_true (h.z.ex 594 (b := kitB "Refused" "NoText" false))⟩
  · cases e
    exact ⟨exdB_ok (h.z.ex 39), of_decide_eq_true (h.z.ex 595 (b := kitB "NoEntry" "NoText" false))⟩
  · cases e
    exact ⟨exdB_ok (h.z.ex 41), of_decide_eq_true (h.z.ex 596 (b := kitB "PieceError" "NoText" false))⟩
  · cases e
    exact ⟨exdB_ok (h.z.ex 43), of_decide_eq_true (h.z.ex 597 (b := kitB "BadDeed" "NoText" false))⟩
  · cases e
    exact ⟨exdB_ok (h.z.ex 45), of_decide_eq_true (h.z.ex 598 (b := kitB "Nothing" "NoText" false))⟩
  · cases e
    exact ⟨exdB_ok (h.z.ex 47), of_decide_eq_true (h.z.ex 599 (b := kitB "NoText" "NoText" true))⟩
  · cases e
    exact ⟨exdB_ok (h.z.ex 49), of_decide_eq_true (h.z.ex 600 (b := kitB "NoCommand" "NoText" false))⟩
  · cases e
def tbv_Nothing : Nat → Option Bool
  | 0 => some false
  | 1 => some false
  | 2 => some false
  | 3 => some false
  | 4 => some false
  | 5 => some false
  | 6 => some false
  | 7 => some false
  | 8 => some false
  | 9 => some false
  | 10 => some false
  | 11 => some false
  | 12 => some false
  | 13 => some false
  | 14 => some false
  | 15 => some false
  | 16 => some false
  | 17 => some false
  | 18 => some false
  | 19 => some false
  | 20 => some false
  | 21 => some false
  | 22 => some true
  | 23 => some false
  | 24 => some false
  | _ => none
theorem tbvo_Nothing {G : Gd} {mg : Str → Option Value} {base : Heap} (h : Hd fa fn ts eb G mg base) (hx : Has G) : ∀ c b, tbv_Nothing c = some b → ExD G.K (G.cls c) ∧ PySem.W.kitOne G.K (.ref (G.cls c)) (.ref (He.ga G.K "Nothing")) = some b := by
  intro c b e
  rw [hx.cls]
  unfold tbv_Nothing at e
  split at e
  · cases e
    exact ⟨exdB_ok (h.z.ex 1), of_decide_eq_true (h.z.ex 601 (b := kitB "Wrong" "Nothing" false))⟩
  · cases e
    exact ⟨exdB_ok (h.z.ex 3), of_decide_eq_true (h.z.ex 602 (b := kitB "Full" "Nothing" false))⟩
  · cases e
    exact ⟨exdB_ok (h.z.ex 5), of_decide_eq_true (h.z.ex 603 (b := kitB "Deep" "Nothing" false))⟩
  · cases e
    exact ⟨exdB_ok (h.z.ex 7), of_decide_eq_true (h.z.ex 604 (b := kitB "Many" "Nothing" false))⟩
  · cases e
    exact ⟨exdB_ok (h.z.ex 9), of_decide_eq_true (h.z.ex 605 (b := kitB "Twice" "Nothing" false))⟩
  · cases e
    exact ⟨exdB_ok (h.z.ex 11), of_decide_eq_true (h.z.ex 606 (b := kitB "NotLast" "Nothing" false))⟩
  · cases e
    exact ⟨exdB_ok (h.z.ex 13), of_decide_eq_true (h.z.ex 607 (b := kitB "NoLoop" "Nothing" false))⟩
  · cases e
    exact ⟨exdB_ok (h.z.ex 15), of_decide_eq_true (h.z.ex 608 (b := kitB "NoRow" "Nothing" false))⟩
  · cases e
    exact ⟨exdB_ok (h.z.ex 17), of_decide_eq_true (h.z.ex 609 (b := kitB "NoGap" "Nothing" false))⟩
  · cases e
    exact ⟨exdB_ok (h.z.ex 19), of_decide_eq_true (h.z.ex 610 (b := kitB "NoMark" "Nothing" false))⟩
  · cases e
    exact ⟨exdB_ok (h.z.ex 21), of_decide_eq_true (h.z.ex 611 (b := kitB "NoSpot" "Nothing" false))⟩
  · cases e
    exact ⟨exdB_ok (h.z.ex 23), of_decide_eq_true (h.z.ex 612 (b := kitB "BadWord" "Nothing" false))⟩
  · cases e
    exact ⟨exdB_ok (h.z.ex 25), of_decide_eq_true (h.z.ex 613 (b := kitB "NoStretch" "Nothing" false))⟩
  · cases e
    exact ⟨exdB_ok (h.z.ex 27), of_decide_eq_true (h.z.ex 614 (b := kitB "NoName" "Nothing" false))⟩
  · cases e
    exact ⟨exdB_ok (h.z.ex 29), of_decide_eq_true (h.z.ex 615 (b := kitB "Untold" "Nothing" false))⟩
  · cases e
    exact ⟨exdB_ok (h.z.ex 31), of_decide_eq_true (h.z.ex 616 (b := kitB "BadMark" "Nothing" false))⟩
  · cases e
    exact ⟨exdB_ok (h.z.ex 33), of_decide_eq_true (h.z.ex 617 (b := kitB "Overlap" "Nothing" false))⟩
  · cases e
    exact ⟨exdB_ok (h.z.ex 35), of_decide_eq_true (h.z.ex 618 (b := kitB "TooMany" "Nothing" false))⟩
  · cases e
    exact ⟨exdB_ok (h.z.ex 37), of_decide_eq_true (h.z.ex 619 (b := kitB "Refused" "Nothing" false))⟩
  · cases e
    exact ⟨exdB_ok (h.z.ex 39), of_decide_eq_true (h.z.ex 620 (b := kitB "NoEntry" "Nothing" false))⟩
  · cases e
    exact ⟨exdB_ok (h.z.ex 41), of_decide_eq_true (h.z.ex 621 (b := kitB "PieceError" "Nothing" false))⟩
  · cases e
    exact ⟨exdB_ok (h.z.ex 43), of_decide_eq_true (h.z.ex 622 (b := kitB "BadDeed" "Nothing" false))⟩
  · cases e
    exact ⟨exdB_ok (h.z.ex 45), of_decide_eq_true (h.z.ex 623 (b := kitB "Nothing" "Nothing" true))⟩
  · cases e
    exact ⟨exdB_ok (h.z.ex 47), of_decide_eq_true (h.z.ex 624 (b := kitB "NoText" "Nothing" false))⟩
  · cases e
    exact ⟨exdB_ok (h.z.ex 49), of_decide_eq_true (h.z.ex 625 (b := kitB "NoCommand" "Nothing" false))⟩
  · cases e
abbrev s_law_flags : Stmt := top 29
def m_law_flags : MF := mFn 1 2
    (mSeq (mSet 1 (mLst (mCons (mIsV tbv_Wrong (mVar 0)) (mCons (mIsV tbv_Full (mVar 0)) (mCons (mIsV tbv_Deep (mVar 0)) (mCons (mIsV tbv_Many (mVar 0)) (mCons (mIsV tbv_Twice (mVar 0)) mNil)))))))
    (mSeq (mSet 1 (mBin gAdd (mVar 1) (mLst (mCons (mIsV tbv_NotLast (mVar 0)) (mCons (mIsV tbv_NoLoop (mVar 0)) (mCons (mIsV tbv_NoRow (mVar 0)) (mCons (mIsV tbv_NoGap (mVar 0)) mNil)))))))
    (mSeq (mSet 1 (mBin gAdd (mVar 1) (mLst (mCons (mIsV tbv_NoMark (mVar 0)) (mCons (mIsV tbv_NoSpot (mVar 0)) (mCons (mIsV tbv_BadWord (mVar 0)) (mCons (mIsV tbv_NoStretch (mVar 0)) mNil)))))))
    (mSeq (mSet 1 (mBin gAdd (mVar 1) (mLst (mCons (mIsV tbv_NoName (mVar 0)) (mCons (mIsV tbv_Untold (mVar 0)) (mCons (mIsV tbv_BadMark (mVar 0)) (mCons (mIsV tbv_Overlap (mVar 0)) mNil)))))))
    (mSeq (mSet 1 (mBin gAdd (mVar 1) (mLst (mCons (mIsV tbv_TooMany (mVar 0)) (mCons (mIsV tbv_Refused (mVar 0)) (mCons (mIsV tbv_NoEntry (mVar 0)) (mCons (mIsV tbv_BadDeed (mVar 0)) mNil)))))))
    (mRet (mBin gAdd (mVar 1) (mLst (mCons (mIsV tbv_Nothing (mVar 0)) (mCons (mIsV tbv_NoText (mVar 0)) (mCons (mIsV tbv_NoCommand (mVar 0)) mNil)))))))))))
theorem sc_law_flags : FnScope ["_law_e", "_law_found"] ["_law_e"] (defScope s_law_flags) := ⟨rfl, rfl, rfl, by decide +kernel, rfl, by decide +kernel, by decide +kernel⟩
theorem kn_law_flags {G : Gd} {mg : Str → Option Value} {base : Heap} (h : Hd fa fn ts eb G mg base) (hx : Has G) (hk : G.exk = .none)  : Kn G mg base "_law_flags" 1 ["_law_e"] m_law_flags :=
  Kn.mk' (k := 0) (h.says.def_ 2 rfl) (h.glo 8) sc_law_flags rfl (fun _ _ _ _ _ _ us hl => match us, hl with | [_], _ => rfl) fun cdv A outer s H hr hgd =>
    (zs_cons (z_set (i := 1) sc_law_flags.nd rfl (by first | exact Or.inl rfl | exact Or.inr rfl) (z_lst (z_cons (z_isV (tb := tbv_Wrong) (tbvo_Wrong (h.to ⟨rfl, rfl, rfl, rfl, rfl, rfl, hk⟩) (hx.to ⟨rfl, rfl, rfl, rfl, rfl, rfl, hk⟩)) rfl (h.free 2) (z_var 0) rfl (h.glo 17) (show RelV (V.ref (He.ga G.K "Wrong")) _ from rfl) (fun _ z => z)) (z_cons (z_isV (tb := tbv_Full) (tbvo_Full (h.to ⟨rfl, rfl, rfl, rfl, rfl, rfl, hk⟩) (hx.to ⟨rfl, rfl, rfl, rfl, rfl, rfl, hk⟩)) rfl (h.free 2) (z_var 0) rfl (h.glo 16) (show RelV (V.ref (He.ga G.K "Full")) _ from rfl) (fun _ z => z)) (z_cons (z_isV (tb := tbv_Deep) (tbvo_Deep (h.to ⟨rfl, rfl, rfl, rfl, rfl, rfl, hk⟩) (hx.to ⟨rfl, rfl, rfl, rfl, rfl, rfl, hk⟩)) rfl (h.free 2) (z_var 0) rfl (h.glo 15) (show RelV (V.ref (He.ga G.K "Deep")) _ from rfl) (fun _ z => z)) (z_cons (z_isV (tb := tbv_Many) (tbvo_Many (h.to ⟨rfl, rfl, rfl, rfl, rfl, rfl, hk⟩) (hx.to ⟨rfl, rfl, rfl, rfl, rfl, rfl, hk⟩)) rfl (h.free 2) (z_var 0) rfl (h.glo 14) (show RelV (V.ref (He.ga G.K "Many")) _ from rfl) (fun _ z => z)) (z_cons (z_isV (tb := tbv_Twice) (tbvo_Twice (h.to ⟨rfl, rfl, rfl, rfl, rfl, rfl, hk⟩) (hx.to ⟨rfl, rfl, rfl, rfl, rfl, rfl, hk⟩)) rfl (h.free 2) (z_var 0) rfl (h.glo 13) (show RelV (V.ref (He.ga G.K "Twice")) _ from rfl) (fun _ z => z)) z_nil)))))))
      (zs_cons (z_set (i := 1) sc_law_flags.nd rfl (by first | exact Or.inl rfl | exact Or.inr rfl) (z_add (z_var 1) (z_lst (z_cons (z_isV (tb := tbv_NotLast) (tbvo_NotLast (h.to ⟨rfl, rfl, rfl, rfl, rfl, rfl, hk⟩) (hx.to ⟨rfl, rfl, rfl, rfl, rfl, rfl, hk⟩)) rfl (h.free 2) (z_var 0) rfl (h.glo 21) (show RelV (V.ref (He.ga G.K "NotLast")) _ from rfl) (fun _ z => z)) (z_cons (z_isV (tb := tbv_NoLoop) (tbvo_NoLoop (h.to ⟨rfl, rfl, rfl, rfl, rfl, rfl, hk⟩) (hx.to ⟨rfl, rfl, rfl, rfl, rfl, rfl, hk⟩)) rfl (h.free 2) (z_var 0) rfl (h.glo 20) (show RelV (V.ref (He.ga G.K "NoLoop")) _ from rfl) (fun _ z => z)) (z_cons (z_isV (tb := tbv_NoRow) (tbvo_NoRow (h.to ⟨rfl, rfl, rfl, rfl, rfl, rfl, hk⟩) (hx.to ⟨rfl, rfl, rfl, rfl, rfl, rfl, hk⟩)) rfl (h.free 2) (z_var 0) rfl (h.glo 19) (show RelV (V.ref (He.ga G.K "NoRow")) _ from rfl) (fun _ z => z)) (z_cons (z_isV (tb := tbv_NoGap) (tbvo_NoGap (h.to ⟨rfl, rfl, rfl, rfl, rfl, rfl, hk⟩) (hx.to ⟨rfl, rfl, rfl, rfl, rfl, rfl, hk⟩)) rfl (h.free 2) (z_var 0) rfl (h.glo 18) (show RelV (V.ref (He.ga G.K "NoGap")) _ from rfl) (fun _ z => z)) z_nil)))))))
      (zs_cons (z_set (i := 1) sc_law_flags.nd rfl (by first | exact Or.inl rfl | exact Or.inr rfl) (z_add (z_var 1) (z_lst (z_cons (z_isV (tb := tbv_NoMark) (tbvo_NoMark (h.to ⟨rfl, rfl, rfl, rfl, rfl, rfl, hk⟩) (hx.to ⟨rfl, rfl, rfl, rfl, rfl, rfl, hk⟩)) rfl (h.free 2) (z_var 0) rfl (h.glo 25) (show RelV (V.ref (He.ga G.K "NoMark")) _ from rfl) (fun _ z => z)) (z_cons (z_isV (tb := tbv_NoSpot) (tbvo_NoSpot (h.to ⟨rfl, rfl, rfl, rfl, rfl, rfl, hk⟩) (hx.to ⟨rfl, rfl, rfl, rfl, rfl, rfl, hk⟩)) rfl (h.free 2) (z_var 0) rfl (h.glo 24) (show RelV (V.ref (He.ga G.K "NoSpot")) _ from rfl) (fun _ z => z)) (z_cons (z_isV (tb := tbv_BadWord) (tbvo_BadWord (h.to ⟨rfl, rfl, rfl, rfl, rfl, rfl, hk⟩) (hx.to ⟨rfl, rfl, rfl, rfl, rfl, rfl, hk⟩)) rfl (h.free 2) (z_var 0) rfl (h.glo 23) (show RelV (V.ref (He.ga G.K "BadWord")) _ from rfl) (fun _ z => z)) (z_cons (z_isV (tb := tbv_NoStretch) (tbvo_NoStretch (h.to ⟨rfl, rfl, rfl, rfl, rfl, rfl, hk⟩) (hx.to ⟨rfl, rfl, rfl, rfl, rfl, rfl, hk⟩)) rfl (h.free 2) (z_var 0) rfl (h.glo 22) (show RelV (V.ref (He.ga G.K "NoStretch")) _ from rfl) (fun _ z => z)) z_nil)))))))
      (zs_cons (z_set (i := 1) sc_law_flags.nd rfl (by first | exact Or.inl rfl | exact Or.inr rfl) (z_add (z_var 1) (z_lst (z_cons (z_isV (tb := tbv_NoName) (tbvo_NoName (h.to ⟨rfl, rfl, rfl, rfl, rfl, rfl, hk⟩) (hx.to ⟨rfl, rfl, rfl, rfl, rfl, rfl, hk⟩)) rfl (h.free 2) (z_var 0) rfl (h.glo 29) (show RelV (V.ref (He.ga G.K "NoName")) _ from rfl) (fun _ z => z)) (z_cons (z_isV (tb := tbv_Untold) (tbvo_Untold (h.to ⟨rfl, rfl, rfl, rfl, rfl, rfl, hk⟩) (hx.to ⟨rfl, rfl, rfl, rfl, rfl, rfl, hk⟩)) rfl (h.free 2) (z_var 0) rfl (h.glo 28) (show RelV (V.ref (He.ga G.K "Untold")) _ from rfl) (fun _ z => z)) (z_cons (z_isV (tb := tbv_BadMark) (tbvo_BadMark (h.to ⟨rfl, rfl, rfl, rfl, rfl, rfl, hk⟩) (hx.to ⟨rfl, rfl, rfl, rfl, rfl, rfl, hk⟩)) rfl (h.free 2) (z_var 0) rfl (h.glo 27) (show RelV (V.ref (He.ga G.K "BadMark")) _ from rfl) (fun _ z => z)) (z_cons (z_isV (tb := tbv_Overlap) (tbvo_Overlap (h.to ⟨rfl, rfl, rfl, rfl, rfl, rfl, hk⟩) (hx.to ⟨rfl, rfl, rfl, rfl, rfl, rfl, hk⟩)) rfl (h.free 2) (z_var 0) rfl (h.glo 26) (show RelV (V.ref (He.ga G.K "Overlap")) _ from rfl) (fun _ z => z)) z_nil)))))))
      (zs_cons (z_set (i := 1) sc_law_flags.nd rfl (by first | exact Or.inl rfl | exact Or.inr rfl) (z_add (z_var 1) (z_lst (z_cons (z_isV (tb := tbv_TooMany) (tbvo_TooMany (h.to ⟨rfl, rfl, rfl, rfl, rfl, rfl, hk⟩) (hx.to ⟨rfl, rfl, rfl, rfl, rfl, rfl, hk⟩)) rfl (h.free 2) (z_var 0) rfl (h.glo 33) (show RelV (V.ref (He.ga G.K "TooMany")) _ from rfl) (fun _ z => z)) (z_cons (z_isV (tb := tbv_Refused) (tbvo_Refused (h.to ⟨rfl, rfl, rfl, rfl, rfl, rfl, hk⟩) (hx.to ⟨rfl, rfl, rfl, rfl, rfl, rfl, hk⟩)) rfl (h.free 2) (z_var 0) rfl (h.glo 32) (show RelV (V.ref (He.ga G.K "Refused")) _ from rfl) (fun _ z => z)) (z_cons (z_isV (tb := tbv_NoEntry) (tbvo_NoEntry (h.to ⟨rfl, rfl, rfl, rfl, rfl, rfl, hk⟩) (hx.to ⟨rfl, rfl, rfl, rfl, rfl, rfl, hk⟩)) rfl (h.free 2) (z_var 0) rfl (h.glo 31) (show RelV (V.ref (He.ga G.K "NoEntry")) _ from rfl) (fun _ z => z)) (z_cons (z_isV (tb := tbv_BadDeed) (tbvo_BadDeed (h.to ⟨rfl, rfl, rfl, rfl, rfl, rfl, hk⟩) (hx.to ⟨rfl, rfl, rfl, rfl, rfl, rfl, hk⟩)) rfl (h.free 2) (z_var 0) rfl (h.glo 30) (show RelV (V.ref (He.ga G.K "BadDeed")) _ from rfl) (fun _ z => z)) z_nil)))))))
      (zs_one (z_ret (z_add (z_var 1) (z_lst (z_cons (z_isV (tb := tbv_Nothing) (tbvo_Nothing (h.to ⟨rfl, rfl, rfl, rfl, rfl, rfl, hk⟩) (hx.to ⟨rfl, rfl, rfl, rfl, rfl, rfl, hk⟩)) rfl (h.free 2) (z_var 0) rfl (h.glo 36) (show RelV (V.ref (He.ga G.K "Nothing")) _ from rfl) (fun _ z => z)) (z_cons (z_isV (tb := tbv_NoText) (tbvo_NoText (h.to ⟨rfl, rfl, rfl, rfl, rfl, rfl, hk⟩) (hx.to ⟨rfl, rfl, rfl, rfl, rfl, rfl, hk⟩)) rfl (h.free 2) (z_var 0) rfl (h.glo 35) (show RelV (V.ref (He.ga G.K "NoText")) _ from rfl) (fun _ z => z)) (z_cons (z_isV (tb := tbv_NoCommand) (tbvo_NoCommand (h.to ⟨rfl, rfl, rfl, rfl, rfl, rfl, hk⟩) (hx.to ⟨rfl, rfl, rfl, rfl, rfl, rfl, hk⟩)) rfl (h.free 2) (z_var 0) rfl (h.glo 34) (show RelV (V.ref (He.ga G.K "NoCommand")) _ from rfl) (fun _ z => z)) z_nil))))))))))))
theorem ex_NoLoop {G : Gd} {mg : Str → Option Value} {base : Heap} (h : Hd fa fn ts eb G mg base) (hx : Has G) : ExC G mg base "NoLoop" 6 1 :=
  ExC.mk' (d := d_NoLoop) (file := PySem.Challenge.rw_cutoutpieces_k10_errors.prog.main.file) (qual := "NoLoop.__init__") (pl := _) (clse6 hx) (by rw [hx.exn]; rfl) (h.glo 20) (h.z.ex 626) (exfB_ok rfl (h.z.ex 627) (h.z.fc 0)) (h.z.ex 628) rfl rfl (NdefX.nscope_by (by decide +kernel)) rfl rfl rfl
    (fun _ _ _ _ _ us hl => match us, hl with | [_, _], _ => rfl) (by rw [hx.P]; exact beq_self_eq_true _) (by rw [hx.P]; decide +kernel) (h.free 37) (fun _ => rfl) (fun _ => rfl) (by decide) (by decide)
theorem ex_NotLast {G : Gd} {mg : Str → Option Value} {base : Heap} (h : Hd fa fn ts eb G mg base) (hx : Has G) : ExC G mg base "NotLast" 5 1 :=
  ExC.mk' (d := d_NotLast) (file := PySem.Challenge.rw_cutoutpieces_k10_errors.prog.main.file) (qual := "NotLast.__init__") (pl := _) (clse5 hx) (by rw [hx.exn]; rfl) (h.glo 21) (h.z.ex 629) (exfB_ok rfl (h.z.ex 630) (h.z.fc 1)) (h.z.ex 631) rfl rfl (NdefX.nscope_by (by decide +kernel)) rfl rfl rfl
    (fun _ _ _ _ _ us hl => match us, hl with | [_, _], _ => rfl) (by rw [hx.P]; exact beq_self_eq_true _) (by rw [hx.P]; decide +kernel) (h.free 37) (fun _ => rfl) (fun _ => rfl) (by decide) (by decide)
theorem ex_Twice {G : Gd} {mg : Str → Option Value} {base : Heap} (h : Hd fa fn ts eb G mg base) (hx : Has G) : ExC G mg base "Twice" 4 1 :=
  ExC.mk' (d := d_Twice) (file := PySem.Challenge.rw_cutoutpieces_k10_errors.prog.main.file) (qual := "Twice.__init__") (pl := _) (clse4 hx) (by rw [hx.exn]; rfl) (h.glo 13) (h.z.ex 632) (exfB_ok rfl (h.z.ex 633) (h.z.fc 2)) (h.z.ex 634) rfl rfl (NdefX.nscope_by (by decide +kernel)) rfl rfl rfl
    (fun _ _ _ _ _ us hl => match us, hl with | [_, _], _ => rfl) (by rw [hx.P]; exact beq_self_eq_true _) (by rw [hx.P]; decide +kernel) (h.free 37) (fun _ => rfl) (fun _ => rfl) (by decide) (by decide)
theorem ex_Many {G : Gd} {mg : Str → Option Value} {base : Heap} (h : Hd fa fn ts eb G mg base) (hx : Has G) : ExC G mg base "Many" 3 1 :=
  ExC.mk' (d := d_Many) (file := PySem.Challenge.rw_cutoutpieces_k10_errors.prog.main.file) (qual := "Many.__init__") (pl := _) (clse3 hx) (by rw [hx.exn]; rfl) (h.glo 14) (h.z.ex 635) (exfB_ok rfl (h.z.ex 636) (h.z.fc 3)) (h.z.ex 637) rfl rfl (NdefX.nscope_by (by decide +kernel)) rfl rfl rfl
    (fun _ _ _ _ _ us hl => match us, hl with | [_, _], _ => rfl) (by rw [hx.P]; exact beq_self_eq_true _) (by rw [hx.P]; decide +kernel) (h.free 37) (fun _ => rfl) (fun _ => rfl) (by decide) (by decide)
theorem ex_Deep {G : Gd} {mg : Str → Option Value} {base : Heap} (h : Hd fa fn ts eb G mg base) (hx : Has G) : ExC G mg base "Deep" 2 1 :=
  ExC.mk' (d := d_Deep) (file := PySem.Challenge.rw_cutoutpieces_k10_errors.prog.main.file) (qual := "Deep.__init__") (pl := _) (clse2 hx) (by rw [hx.exn]; rfl) (h.glo 15) (h.z.ex 638) (exfB_ok rfl (h.z.ex 639) (h.z.fc 4)) (h.z.ex 640) rfl rfl (NdefX.nscope_by (by decide +kernel)) rfl rfl rfl
    (fun _ _ _ _ _ us hl => match us, hl with | [_, _], _ => rfl) (by rw [hx.P]; exact beq_self_eq_true _) (by rw [hx.P]; decide +kernel) (h.free 37) (fun _ => rfl) (fun _ => rfl) (by decide) (by decide)
theorem ex_Full {G : Gd} {mg : Str → Option Value} {base : Heap} (h : Hd fa fn ts eb G mg base) (hx : Has G) : ExC G mg base "Full" 1 1 :=
  ExC.mk' (d := d_Full) (file := PySem.Challenge.rw_cutoutpieces_k10_errors.prog.main.file) (qual := "Full.__init__") (pl := _) (clse1 hx) (by rw [hx.exn]; rfl) (h.glo 16) (h.z.ex 641) (exfB_ok rfl (h.z.ex 642) (h.z.fc 5)) (h.z.ex 643) rfl rfl (NdefX.nscope_by (by decide +kernel)) rfl rfl rfl
    (fun _ _ _ _ _ us hl => match us, hl with | [_, _], _ => rfl) (by rw [hx.P]; exact beq_self_eq_true _) (by rw [hx.P]; decide +kernel) (h.free 37) (fun _ => rfl) (fun _ => rfl) (by decide) (by decide)
theorem ex_Wrong {G : Gd} {mg : Str → Option Value} {base : Heap} (h : Hd fa fn ts eb G mg base) (hx : Has G) : ExC G mg base "Wrong" 0 1 :=
  ExC.mk' (d := d_Wrong) (file := PySem.Challenge.rw_cutoutpieces_k10_errors.prog.main.file) (qual := "Wrong.__init__") (pl := _) (clse0 hx) (by rw [hx.exn]; rfl) (h.glo 17) (h.z.ex 644) (exfB_ok rfl (h.z.ex 645) (h.z.fc 6)) (h.z.ex 646) rfl rfl (NdefX.nscope_by (by decide +kernel)) rfl rfl rfl
    (fun _ _ _ _ _ us hl => match us, hl with | [_, _], _ => rfl) (by rw [hx.P]; exact beq_self_eq_true _) (by rw [hx.P]; decide +kernel) (h.free 37) (fun _ => rfl) (fun _ => rfl) (by decide) (by decide)
theorem ex_NoStretch {G : Gd} {mg : Str → Option Value} {base : Heap} (h : Hd fa fn ts eb G mg base) (hx : Has G) : ExC G mg base "NoStretch" 12 1 :=
  ExC.mk' (d := d_NoStretch) (file := PySem.Challenge.rw_cutoutpieces_k10_errors.prog.main.file) (qual := "NoStretch.__init__") (pl := _) (clse12 hx) (by rw [hx.exn]; rfl) (h.glo 22) (h.z.ex 647) (exfB_ok rfl (h.z.ex 648) (h.z.fc 7)) (h.z.ex 649) rfl rfl (NdefX.nscope_by (by decide +kernel)) rfl rfl rfl
    (fun _ _ _ _ _ us hl => match us, hl with | [_, _], _ => rfl) (by rw [hx.P]; exact beq_self_eq_true _) (by rw [hx.P]; decide +kernel) (h.free 37) (fun _ => rfl) (fun _ => rfl) (by decide) (by decide)
theorem ex_BadWord {G : Gd} {mg : Str → Option Value} {base : Heap} (h : Hd fa fn ts eb G mg base) (hx : Has G) : ExC G mg base "BadWord" 11 1 :=
  ExC.mk' (d := d_BadWord) (file := PySem.Challenge.rw_cutoutpieces_k10_errors.prog.main.file) (qual := "BadWord.__init__") (pl := _) (clse11 hx) (by rw [hx.exn]; rfl) (h.glo 23) (h.z.ex 650) (exfB_ok rfl (h.z.ex 651) (h.z.fc 8)) (h.z.ex 652) rfl rfl (NdefX.nscope_by (by decide +kernel)) rfl rfl rfl
    (fun _ _ _ _ _ us hl => match us, hl with | [_, _], _ => rfl) (by rw [hx.P]; exact beq_self_eq_true _) (by rw [hx.P]; decide +kernel) (h.free 37) (fun _ => rfl) (fun _ => rfl) (by decide) (by decide)
theorem ex_NoSpot {G : Gd} {mg : Str → Option Value} {base : Heap} (h : Hd fa fn ts eb G mg base) (hx : Has G) : ExC G mg base "NoSpot" 10 1 :=
  ExC.mk' (d := d_NoSpot) (file := PySem.Challenge.rw_cutoutpieces_k10_errors.prog.main.file) (qual := "NoSpot.__init__") (pl := _) (clse10 hx) (by rw [hx.exn]; rfl) (h.glo 24) (h.z.ex 653) (exfB_ok rfl (h.z.ex 654) (h.z.fc 9)) (h.z.ex 655) rfl rfl (NdefX.nscope_by (by decide +kernel)) rfl rfl rfl
    (fun _ _ _ _ _ us hl => match us, hl with | [_, _], _ => rfl) (by rw [hx.P]; exact beq_self_eq_true _) (by rw [hx.P]; decide +kernel) (h.free 37) (fun _ => rfl) (fun _ => rfl) (by decide) (by decide)
theorem ex_NoMark {G : Gd} {mg : Str → Option Value} {base : Heap} (h : Hd fa fn ts eb G mg base) (hx : Has G) : ExC G mg base "NoMark" 9 1 :=
  ExC.mk' (d := d_NoMark) (file := PySem.Challenge.rw_cutoutpieces_k10_errors.prog.main.file) (qual := "NoMark.__init__") (pl := _) (clse9 hx) (by rw [hx.exn]; rfl) (h.glo 25) (h.z.ex 656) (exfB_ok rfl (h.z.ex 657) (h.z.fc 10)) (h.z.ex 658) rfl rfl (NdefX.nscope_by (by decide +kernel)) rfl rfl rfl
    (fun _ _ _ _ _ us hl => match us, hl with | [_, _], _ => rfl) (by rw [hx.P]; exact beq_self_eq_true _) (by rw [hx.P]; decide +kernel) (h.free 37) (fun _ => rfl) (fun _ => rfl) (by decide) (by decide)
theorem ex_NoGap {G : Gd} {mg : Str → Option Value} {base : Heap} (h : Hd fa fn ts eb G mg base) (hx : Has G) : ExC G mg base "NoGap" 8 1 :=
  ExC.mk' (d := d_NoGap) (file := PySem.Challenge.rw_cutoutpieces_k10_errors.prog.main.file) (qual := "NoGap.__init__") (pl := _) (clse8 hx) (by rw [hx.exn]; rfl) (h.glo 18) (h.z.ex 659) (exfB_ok rfl (h.z.ex 660) (h.z.fc 11)) (h.z.ex 661) rfl rfl (NdefX.nscope_by (by decide +kernel)) rfl rfl rfl
    (fun _ _ _ _ _ us hl => match us, hl with | [_, _], _ => rfl) (by rw [hx.P]; exact beq_self_eq_true _) (by rw [hx.P]; decide +kernel) (h.free 37) (fun _ => rfl) (fun _ => rfl) (by decide) (by decide)
theorem ex_NoRow {G : Gd} {mg : Str → Option Value} {base : Heap} (h : Hd fa fn ts eb G mg base) (hx : Has G) : ExC G mg base "NoRow" 7 1 :=
  ExC.mk' (d := d_NoRow) (file := PySem.Challenge.rw_cutoutpieces_k10_errors.prog.main.file) (qual := "NoRow.__init__") (pl := _) (clse7 hx) (by rw [hx.exn]; rfl) (h.glo 19) (h.z.ex 662) (exfB_ok rfl (h.z.ex 663) (h.z.fc 12)) (h.z.ex 664) rfl rfl (NdefX.nscope_by (by decide +kernel)) rfl rfl rfl
    (fun _ _ _ _ _ us hl => match us, hl with | [_, _], _ => rfl) (by rw [hx.P]; exact beq_self_eq_true _) (by rw [hx.P]; decide +kernel) (h.free 37) (fun _ => rfl) (fun _ => rfl) (by decide) (by decide)
theorem ex_Refused {G : Gd} {mg : Str → Option Value} {base : Heap} (h : Hd fa fn ts eb G mg base) (hx : Has G) : ExC G mg base "Refused" 18 1 :=
  ExC.mk' (d := d_Refused) (file := PySem.Challenge.rw_cutoutpieces_k10_errors.prog.main.file) (qual := "Refused.__init__") (pl := _) (clse18 hx) (by rw [hx.exn]; rfl) (h.glo 32) (h.z.ex 665) (exfB_ok rfl (h.z.ex 666) (h.z.fc 13)) (h.z.ex 667) rfl rfl (NdefX.nscope_by (by decide +kernel)) rfl rfl rfl
    (fun _ _ _ _ _ us hl => match us, hl with | [_, _], _ => rfl) (by rw [hx.P]; exact beq_self_eq_true _) (by rw [hx.P]; decide +kernel) (h.free 37) (fun _ => rfl) (fun _ => rfl) (by decide) (by decide)
theorem ex_TooMany {G : Gd} {mg : Str → Option Value} {base : Heap} (h : Hd fa fn ts eb G mg base) (hx : Has G) : ExC G mg base "TooMany" 17 1 :=
  ExC.mk' (d := d_TooMany) (file := PySem.Challenge.rw_cutoutpieces_k10_errors.prog.main.file) (qual := "TooMany.__init__") (pl := _) (clse17 hx) (by rw [hx.exn]; rfl) (h.glo 33) (h.z.ex 668) (exfB_ok rfl (h.z.ex 669) (h.z.fc 14)) (h.z.ex 670) rfl rfl (NdefX.nscope_by (by decide +kernel)) rfl rfl rfl
    (fun _ _ _ _ _ us hl => match us, hl with | [_, _], _ => rfl) (by rw [hx.P]; exact beq_self_eq_true _) (by rw [hx.P]; decide +kernel) (h.free 37) (fun _ => rfl) (fun _ => rfl) (by decide) (by decide)
theorem ex_Overlap {G : Gd} {mg : Str → Option Value} {base : Heap} (h : Hd fa fn ts eb G mg base) (hx : Has G) : ExC G mg base "Overlap" 16 1 :=
  ExC.mk' (d := d_Overlap) (file := PySem.Challenge.rw_cutoutpieces_k10_errors.prog.main.file) (qual := "Overlap.__init__") (pl := _) (clse16 hx) (by rw [hx.exn]; rfl) (h.glo 26) (h.z.ex 671) (exfB_ok rfl (h.z.ex 672) (h.z.fc 15)) (h.z.ex 673) rfl rfl (NdefX.nscope_by (by decide +kernel)) rfl rfl rfl
    (fun _ _ _ _ _ us hl => match us, hl with | [_, _], _ => rfl) (by rw [hx.P]; exact beq_self_eq_true _) (by rw [hx.P]; decide +kernel) (h.free 37) (fun _ => rfl) (fun _ => rfl) (by decide) (by decide)
theorem ex_BadMark {G : Gd} {mg : Str → Option Value} {base : Heap} (h : Hd fa fn ts eb G mg base) (hx : Has G) : ExC G mg base "BadMark" 15 1 :=
  ExC.mk' (d := d_BadMark) (file := PySem.Challenge.rw_cutoutpieces_k10_errors.prog.main.file) (qual := "BadMark.__init__") (pl := _) (clse15 hx) (by rw [hx.exn]; rfl) (h.glo 27) (h.z.ex 674) (exfB_ok rfl (h.z.ex 675) (h.z.fc 16)) (h.z.ex 676) rfl rfl (NdefX.nscope_by (by decide +kernel)) rfl rfl rfl
    (fun _ _ _ _ _ us hl => match us, hl with | [_, _], _ => rfl) (by rw [hx.P]; exact beq_self_eq_true _) (by rw [hx.P]; decide +kernel) (h.free 37) (fun _ => rfl) (fun _ => rfl) (by decide) (by decide)
theorem ex_Untold {G : Gd} {mg : Str → Option Value} {base : Heap} (h : Hd fa fn ts eb G mg base) (hx : Has G) : ExC G mg base "Untold" 14 1 :=
  ExC.mk' (d := d_Untold) (file := PySem.Challenge.rw_cutoutpieces_k10_errors.prog.main.file) (qual := "Untold.__init__") (pl := _) (clse14 hx) (by rw [hx.exn]; rfl) (h.glo 28) (h.z.ex 677) (exfB_ok rfl (h.z.ex 678) (h.z.fc 17)) (h.z.ex 679) rfl rfl (NdefX.nscope_by (by decide +kernel)) rfl rfl rfl
    (fun _ _ _ _ _ us hl => match us, hl with | [_, _], _ => rfl) (by rw [hx.P]; exact beq_self_eq_true _) (by rw [hx.P]; decide +kernel) (h.free 37) (fun _ => rfl) (fun _ => rfl) (by decide) (by decide)
theorem ex_NoName {G : Gd} {mg : Str → Option Value} {base : Heap} (h : Hd fa fn ts eb G mg base) (hx : Has G) : ExC G mg base "NoName" 13 1 :=
  ExC.mk' (d := d_NoName) (file := PySem.Challenge.rw_cutoutpieces_k10_errors.prog.main.file) (qual := "NoName.__init__") (pl := _) (clse13 hx) (by rw [hx.exn]; rfl) (h.glo 29) (h.z.ex 680) (exfB_ok rfl (h.z.ex 681) (h.z.fc 18)) (h.z.ex 682) rfl rfl (NdefX.nscope_by (by decide +kernel)) rfl rfl rfl
    (fun _ _ _ _ _ us hl => match us, hl with | [_, _], _ => rfl) (by rw [hx.P]; exact beq_self_eq_true _) (by rw [hx.P]; decide +kernel) (h.free 37) (fun _ => rfl) (fun _ => rfl) (by decide) (by decide)
theorem e0_NoCommand {G : Gd} {mg : Str → Option Value} {base : Heap} (h : Hd fa fn ts eb G mg base) (hx : Has G) : Ex0 G mg "NoCommand" 24 := Ex0.mk' (clse24 hx) (h.glo 34) (h.z.ex 683)
theorem e0_NoText {G : Gd} {mg : Str → Option Value} {base : Heap} (h : Hd fa fn ts eb G mg base) (hx : Has G) : Ex0 G mg "NoText" 23 := Ex0.mk' (clse23 hx) (h.glo 35) (h.z.ex 684)
theorem e0_Nothing {G : Gd} {mg : Str → Option Value} {base : Heap} (h : Hd fa fn ts eb G mg base) (hx : Has G) : Ex0 G mg "Nothing" 22 := Ex0.mk' (clse22 hx) (h.glo 36) (h.z.ex 685)
theorem e0_BadDeed {G : Gd} {mg : Str → Option Value} {base : Heap} (h : Hd fa fn ts eb G mg base) (hx : Has G) : Ex0 G mg "BadDeed" 21 := Ex0.mk' (clse21 hx) (h.glo 30) (h.z.ex 686)
theorem ex_NoEntry {G : Gd} {mg : Str → Option Value} {base : Heap} (h : Hd fa fn ts eb G mg base) (hx : Has G) : ExC G mg base "NoEntry" 19 1 :=
  ExC.mk' (d := d_NoEntry) (file := PySem.Challenge.rw_cutoutpieces_k10_errors.prog.main.file) (qual := "NoEntry.__init__") (pl := _) (clse19 hx) (by rw [hx.exn]; rfl) (h.glo 31) (h.z.ex 687) (exfB_ok rfl (h.z.ex 688) (h.z.fc 19)) (h.z.ex 689) rfl rfl (NdefX.nscope_by (by decide +kernel)) rfl rfl rfl
    (fun _ _ _ _ _ us hl => match us, hl with | [_, _], _ => rfl) (by rw [hx.P]; exact beq_self_eq_true _) (by rw [hx.P]; decide +kernel) (h.free 37) (fun _ => rfl) (fun _ => rfl) (by decide) (by decide)
abbrev s_law_made : Stmt := top 30
def m_law_made : MF := mFn 1 2
    (mSeq (mSet 1 (mLstO (mCons (mMkEv 0 "place" (mVar 0)) (mCons (mMkEv 1 "limit" (mVar 0)) (mCons (mMkEv 2 "limit" (mVar 0)) (mCons (mMkEv 3 "limit" (mVar 0)) (mCons (mMkEv 4 "mark" (mVar 0)) (mCons (mMkEv 5 "address" (mVar 0)) (mCons (mMkEv 6 "address" (mVar 0)) mNil)))))))))
    (mSeq (mSet 1 (mBin gAddO (mVar 1) (mLstO (mCons (mMkEv 7 "address" (mVar 0)) (mCons (mMkEv 8 "gap" (mVar 0)) (mCons (mMkEv 9 "mark" (mVar 0)) (mCons (mMkEv 10 "at" (mVar 0)) (mCons (mMkEv 11 "index" (mVar 0)) (mCons (mMkEv 12 "stretch" (mVar 0)) mNil)))))))))
    (mSeq (mSet 1 (mBin gAddO (mVar 1) (mLstO (mCons (mMkEv 13 "name" (mVar 0)) (mCons (mMkEv 14 "way" (mVar 0)) (mCons (mMkEv 15 "mark" (mVar 0)) (mCons (mMkEv 16 "mark" (mVar 0)) (mCons (mMkEv 17 "most" (mVar 0)) (mCons (mMkEv 18 "deed" (mVar 0)) mNil)))))))))
    (mRet (mBin gAddO (mVar 1) (mLstO (mCons (mMkEv 19 "many" (mVar 0)) (mCons (mMkE0 21) (mCons (mMkE0 22) (mCons (mMkE0 23) (mCons (mMkE0 24) mNil)))))))))))
theorem sc_law_made : FnScope ["_law_thing", "_law_found"] ["_law_thing"] (defScope s_law_made) := ⟨rfl, rfl, rfl, by decide +kernel, rfl, by decide +kernel, by decide +kernel⟩
theorem kn_law_made {G : Gd} {mg : Str → Option Value} {base : Heap} (h : Hd fa fn ts eb G mg base) (hx : Has G) (hk : G.exk = .none)  : Kn G mg base "_law_made" 3 ["_law_thing"] m_law_made :=
  Kn.mk' (k := 2) (h.says.def_ 3 rfl) (h.glo 9) sc_law_made rfl (fun _ _ _ _ _ _ us hl => match us, hl with | [_], _ => rfl) fun cdv A outer s H hr hgd =>
    (zs_cons (z_set (i := 1) sc_law_made.nd rfl (by first | exact Or.inl rfl | exact Or.inr rfl) (z_lstO (z_cons (z_mkEv (f := "place") (ex_Wrong (h.to ⟨rfl, rfl, rfl, rfl, rfl, rfl, hk⟩) (hx.to ⟨rfl, rfl, rfl, rfl, rfl, rfl, hk⟩)) (by rw [(hx.to ⟨rfl, rfl, rfl, rfl, rfl, rfl, hk⟩).exn]; rfl) hr (by omega) rfl (z_var 0)) (z_cons (z_mkEv (f := "limit") (ex_Full (h.to ⟨rfl, rfl, rfl, rfl, rfl, rfl, hk⟩) (hx.to ⟨rfl, rfl, rfl, rfl, rfl, rfl, hk⟩)) (by rw [(hx.to ⟨rfl, rfl, rfl, rfl, rfl, rfl, hk⟩).exn]; rfl) hr (by omega) rfl (z_var 0)) (z_cons (z_mkEv (f := "limit") (ex_Deep (h.to ⟨rfl, rfl, rfl, rfl, rfl, rfl, hk⟩) (hx.to ⟨rfl, rfl, rfl, rfl, rfl, rfl, hk⟩)) (by rw [(hx.to ⟨rfl, rfl, rfl, rfl, rfl, rfl, hk⟩).exn]; rfl) hr (by omega) rfl (z_var 0)) (z_cons (z_mkEv (f := "limit") (ex_Many (h.to ⟨rfl, rfl, rfl, rfl, rfl, rfl, hk⟩) (hx.to ⟨rfl, rfl, rfl, rfl, rfl, rfl, hk⟩)) (by rw [(hx.to ⟨rfl, rfl, rfl, rfl, rfl, rfl, hk⟩).exn]; rfl) hr (by omega) rfl (z_var 0)) (z_cons (z_mkEv (f := "mark") (ex_Twice (h.to ⟨rfl, rfl, rfl, rfl, rfl, rfl, hk⟩) (hx.to ⟨rfl, rfl, rfl, rfl, rfl, rfl, hk⟩)) (by rw [(hx.to ⟨rfl, rfl, rfl, rfl, rfl, rfl, hk⟩).exn]; rfl) hr (by omega) rfl (z_var 0)) (z_cons (z_mkEv (f := "address") (ex_NotLast (h.to ⟨rfl, rfl, rfl, rfl, rfl, rfl, hk⟩) (hx.to ⟨rfl, rfl, rfl, rfl, rfl, rfl, hk⟩)) (by rw [(hx.to ⟨rfl, rfl, rfl, rfl, rfl, rfl, hk⟩).exn]; rfl) hr (by omega) rfl (z_var 0)) (z_cons (z_mkEv (f := "address") (ex_NoLoop (h.to ⟨rfl, rfl, rfl, rfl, rfl, rfl, hk⟩) (hx.to ⟨rfl, rfl, rfl, rfl, rfl, rfl, hk⟩)) (by rw [(hx.to ⟨rfl, rfl, rfl, rfl, rfl, rfl, hk⟩).exn]; rfl) hr (by omega) rfl (z_var 0)) z_nil)))))))))
      (zs_cons (z_set (i := 1) sc_law_made.nd rfl (by first | exact Or.inl rfl | exact Or.inr rfl) (z_addO (z_var 1) (z_lstO (z_cons (z_mkEv (f := "address") (ex_NoRow (h.to ⟨rfl, rfl, rfl, rfl, rfl, rfl, hk⟩) (hx.to ⟨rfl, rfl, rfl, rfl, rfl, rfl, hk⟩)) (by rw [(hx.to ⟨rfl, rfl, rfl, rfl, rfl, rfl, hk⟩).exn]; rfl) hr (by omega) rfl (z_var 0)) (z_cons (z_mkEv (f := "gap") (ex_NoGap (h.to ⟨rfl, rfl, rfl, rfl, rfl, rfl, hk⟩) (hx.to ⟨rfl, rfl, rfl, rfl, rfl, rfl, hk⟩)) (by rw [(hx.to ⟨rfl, rfl, rfl, rfl, rfl, rfl, hk⟩).exn]; rfl) hr (by omega) rfl (z_var 0)) (z_cons (z_mkEv (f := "mark") (ex_NoMark (h.to ⟨rfl, rfl, rfl, rfl, rfl, rfl, hk⟩) (hx.to ⟨rfl, rfl, rfl, rfl, rfl, rfl, hk⟩)) (by rw [(hx.to ⟨rfl, rfl, rfl, rfl, rfl, rfl, hk⟩).exn]; rfl) hr (by omega) rfl (z_var 0)) (z_cons (z_mkEv (f := "at") (ex_NoSpot (h.to ⟨rfl, rfl, rfl, rfl, rfl, rfl, hk⟩) (hx.to ⟨rfl, rfl, rfl, rfl, rfl, rfl, hk⟩)) (by rw [(hx.to ⟨rfl, rfl, rfl, rfl, rfl, rfl, hk⟩).exn]; rfl) hr (by omega) rfl (z_var 0)) (z_cons (z_mkEv (f := "index") (ex_BadWord (h.to ⟨rfl, rfl, rfl, rfl, rfl, rfl, hk⟩) (hx.to ⟨rfl, rfl, rfl, rfl, rfl, rfl, hk⟩)) (by rw [(hx.to ⟨rfl, rfl, rfl, rfl, rfl, rfl, hk⟩).exn]; rfl) hr (by omega) rfl (z_var 0)) (z_cons (z_mkEv (f := "stretch") (ex_NoStretch (h.to ⟨rfl, rfl, rfl, rfl, rfl, rfl, hk⟩) (hx.to ⟨rfl, rfl, rfl, rfl, rfl, rfl, hk⟩)) (by rw [(hx.to ⟨rfl, rfl, rfl, rfl, rfl, rfl, hk⟩).exn]; rfl) hr (by omega) rfl (z_var 0)) z_nil)))))))))
      (zs_cons (z_set (i := 1) sc_law_made.nd rfl (by first | exact Or.inl rfl | exact Or.inr rfl) (z_addO (z_var 1) (z_lstO (z_cons (z_mkEv (f := "name") (ex_NoName (h.to ⟨rfl, rfl, rfl, rfl, rfl, rfl, hk⟩) (hx.to ⟨rfl, rfl, rfl, rfl, rfl, rfl, hk⟩)) (by rw [(hx.to ⟨rfl, rfl, rfl, rfl, rfl, rfl, hk⟩).exn]; rfl) hr (by omega) rfl (z_var 0)) (z_cons (z_mkEv (f := "way") (ex_Untold (h.to ⟨rfl, rfl, rfl, rfl, rfl, rfl, hk⟩) (hx.to ⟨rfl, rfl, rfl, rfl, rfl, rfl, hk⟩)) (by rw [(hx.to ⟨rfl, rfl, rfl, rfl, rfl, rfl, hk⟩).exn]; rfl) hr (by omega) rfl (z_var 0)) (z_cons (z_mkEv (f := "mark") (ex_BadMark (h.to ⟨rfl, rfl, rfl, rfl, rfl, rfl, hk⟩) (hx.to ⟨rfl, rfl, rfl, rfl, rfl, rfl, hk⟩)) (by rw [(hx.to ⟨rfl, rfl, rfl, rfl, rfl, rfl, hk⟩).exn]; rfl) hr (by omega) rfl (z_var 0)) (z_cons (z_mkEv (f := "mark") (ex_Overlap (h.to ⟨rfl, rfl, rfl, rfl, rfl, rfl, hk⟩) (hx.to ⟨rfl, rfl, rfl, rfl, rfl, rfl, hk⟩)) (by rw [(hx.to ⟨rfl, rfl, rfl, rfl, rfl, rfl, hk⟩).exn]; rfl) hr (by omega) rfl (z_var 0)) (z_cons (z_mkEv (f := "most") (ex_TooMany (h.to ⟨rfl, rfl, rfl, rfl, rfl, rfl, hk⟩) (hx.to ⟨rfl, rfl, rfl, rfl, rfl, rfl, hk⟩)) (by rw [(hx.to ⟨rfl, rfl, rfl, rfl, rfl, rfl, hk⟩).exn]; rfl) hr (by omega) rfl (z_var 0)) (z_cons (z_mkEv (f := "deed") (ex_Refused (h.to ⟨rfl, rfl, rfl, rfl, rfl, rfl, hk⟩) (hx.to ⟨rfl, rfl, rfl, rfl, rfl, rfl, hk⟩)) (by rw [(hx.to ⟨rfl, rfl, rfl, rfl, rfl, rfl, hk⟩).exn]; rfl) hr (by omega) rfl (z_var 0)) z_nil)))))))))
      (zs_one (z_ret (z_addO (z_var 1) (z_lstO (z_cons (z_mkEv (f := "many") (ex_NoEntry (h.to ⟨rfl, rfl, rfl, rfl, rfl, rfl, hk⟩) (hx.to ⟨rfl, rfl, rfl, rfl, rfl, rfl, hk⟩)) (by rw [(hx.to ⟨rfl, rfl, rfl, rfl, rfl, rfl, hk⟩).exn]; rfl) hr (by omega) rfl (z_var 0)) (z_cons (z_mkE0 (e0_BadDeed (h.to ⟨rfl, rfl, rfl, rfl, rfl, rfl, hk⟩) (hx.to ⟨rfl, rfl, rfl, rfl, rfl, rfl, hk⟩)) rfl) (z_cons (z_mkE0 (e0_Nothing (h.to ⟨rfl, rfl, rfl, rfl, rfl, rfl, hk⟩) (hx.to ⟨rfl, rfl, rfl, rfl, rfl, rfl, hk⟩)) rfl) (z_cons (z_mkE0 (e0_NoText (h.to ⟨rfl, rfl, rfl, rfl, rfl, rfl, hk⟩) (hx.to ⟨rfl, rfl, rfl, rfl, rfl, rfl, hk⟩)) rfl) (z_cons (z_mkE0 (e0_NoCommand (h.to ⟨rfl, rfl, rfl, rfl, rfl, rfl, hk⟩) (hx.to ⟨rfl, rfl, rfl, rfl, rfl, rfl, hk⟩)) rfl) z_nil))))))))))))
def fn_address : Nat → Option Unit
  | 5 => some ()
  | 6 => some ()
  | 7 => some ()
  | _ => none
theorem fno_address {G : Gd} {mg : Str → Option Value} {base : Heap} (h : Hd fa fn ts eb G mg base) (hx : Has G) : ∀ c, fn_address c = some () → XfC G.K (G.cls c) ∧ PySem.W.findIn G.K (.ref (G.cls c)) "address" = some none ∧ G.exn c = "address" := by
  intro c e
  rw [hx.cls, hx.exn]
  unfold fn_address at e
  split at e
  · obtain ⟨q1, q2⟩ := xffB_ok (h.z.ex 690 (b := xffB "NotLast" "address"))
    exact ⟨q1, q2, rfl⟩
  · obtain ⟨q1, q2⟩ := xffB_ok (h.z.ex 691 (b := xffB "NoLoop" "address"))
    exact ⟨q1, q2, rfl⟩
  · obtain ⟨q1, q2⟩ := xffB_ok (h.z.ex 692 (b := xffB "NoRow" "address"))
    exact ⟨q1, q2, rfl⟩
  · cases e
def fn_mark : Nat → Option Unit
  | 4 => some ()
  | 9 => some ()
  | 15 => some ()
  | 16 => some ()
  | _ => none
theorem fno_mark {G : Gd} {mg : Str → Option Value} {base : Heap} (h : Hd fa fn ts eb G mg base) (hx : Has G) : ∀ c, fn_mark c = some () → XfC G.K (G.cls c) ∧ PySem.W.findIn G.K (.ref (G.cls c)) "mark" = some none ∧ G.exn c = "mark" := by
  intro c e
  rw [hx.cls, hx.exn]
  unfold fn_mark at e
  split at e
  · obtain ⟨q1, q2⟩ := xffB_ok (h.z.ex 693 (b := xffB "Twice" "mark"))
    exact ⟨q1, q2, rfl⟩
  · obtain ⟨q1, q2⟩ := xffB_ok (h.z.ex 694 (b := xffB "NoMark" "mark"))
    exact ⟨q1, q2, rfl⟩
  · obtain ⟨q1, q2⟩ := xffB_ok (h.z.ex 695 (b := xffB "BadMark" "mark"))
    exact ⟨q1, q2, rfl⟩
  · obtain ⟨q1, q2⟩ := xffB_ok (h.z.ex 696 (b := xffB "Overlap" "mark"))
    exact ⟨q1, q2, rfl⟩
  · cases e
def fn_limit : Nat → Option Unit
  | 1 => some ()
  | 2 => some ()
  | 3 => some ()
  | _ => none
theorem fno_limit {G : Gd} {mg : Str → Option Value} {base : Heap} (h : Hd fa fn ts eb G mg base) (hx : Has G) : ∀ c, fn_limit c = some () → XfC G.K (G.cls c) ∧ PySem.W.findIn G.K (.ref (G.cls c)) "limit" = some none ∧ G.exn c = "limit" := by
  intro c e
  rw [hx.cls, hx.exn]
  unfold fn_limit at e
  split at e
  · obtain ⟨q1, q2⟩ := xffB_ok (h.z.ex 697 (b := xffB "Full" "limit"))
    exact ⟨q1, q2, rfl⟩
  · obtain ⟨q1, q2⟩ := xffB_ok (h.z.ex 698 (b := xffB "Deep" "limit"))
    exact ⟨q1, q2, rfl⟩
  · obtain ⟨q1, q2⟩ := xffB_ok (h.z.ex 699 (b := xffB "Many" "limit"))
    exact ⟨q1, q2, rfl⟩
  · cases e
def fn_place : Nat → Option Unit
  | 0 => some ()
  | _ => none
theorem fno_place {G : Gd} {mg : Str → Option Value} {base : Heap} (h : Hd fa fn ts eb G mg base) (hx : Has G) : ∀ c, fn_place c = some () → XfC G.K (G.cls c) ∧ PySem.W.findIn G.K (.ref (G.cls c)) "place" = some none ∧ G.exn c = "place" := by
  intro c e
  rw [hx.cls, hx.exn]
  unfold fn_place at e
  split at e
  · obtain ⟨q1, q2⟩ := xffB_ok (h.z.ex 700 (b := xffB "Wrong" "place"))
    exact ⟨q1, q2, rfl⟩
  · cases e
def fn_index : Nat → Option Unit
  | 11 => some ()
  | _ => none
theorem fno_index {G : Gd} {mg : Str → Option Value} {base : Heap} (h : Hd fa fn ts eb G mg base) (hx : Has G) : ∀ c, fn_index c = some () → XfC G.K (G.cls c) ∧ PySem.W.findIn G.K (.ref (G.cls c)) "index" = some none ∧ G.exn c = "index" := by
  intro c e
  rw [hx.cls, hx.exn]
  unfold fn_index at e
  split at e
  · obtain ⟨q1, q2⟩ := xffB_ok (h.z.ex 701 (b := xffB "BadWord" "index"))
    exact ⟨q1, q2, rfl⟩
  · cases e
def fn_at : Nat → Option Unit
  | 10 => some ()
  | _ => none
theorem fno_at {G : Gd} {mg : Str → Option Value} {base : Heap} (h : Hd fa fn ts eb G mg base) (hx : Has G) : ∀ c, fn_at c = some () → XfC G.K (G.cls c) ∧ PySem.W.findIn G.K (.ref (G.cls c)) "at" = some none ∧ G.exn c = "at" := by
  intro c e
  rw [hx.cls, hx.exn]
  unfold fn_at at e
  split at e
  · obtain ⟨q1, q2⟩ := xffB_ok (h.z.ex 702 (b := xffB "NoSpot" "at"))
    exact ⟨q1, q2, rfl⟩
  · cases e
def fn_gap : Nat → Option Unit
  | 8 => some ()
  | _ => none
theorem fno_gap {G : Gd} {mg : Str → Option Value} {base : Heap} (h : Hd fa fn ts eb G mg base) (hx : Has G) : ∀ c, fn_gap c = some () → XfC G.K (G.cls c) ∧ PySem.W.findIn G.K (.ref (G.cls c)) "gap" = some none ∧ G.exn c = "gap" := by
  intro c e
  rw [hx.cls, hx.exn]
  unfold fn_gap at e
  split at e
  · obtain ⟨q1, q2⟩ := xffB_ok (h.z.ex 703 (b := xffB "NoGap" "gap"))
    exact ⟨q1, q2, rfl⟩
  · cases e
def fn_most : Nat → Option Unit
  | 17 => some ()
  | _ => none
theorem fno_most {G : Gd} {mg : Str → Option Value} {base : Heap} (h : Hd fa fn ts eb G mg base) (hx : Has G) : ∀ c, fn_most c = some () → XfC G.K (G.cls c) ∧ PySem.W.findIn G.K (.ref (G.cls c)) "most" = some none ∧ G.exn c = "most" := by
  intro c e
  rw [hx.cls, hx.exn]
  unfold fn_most at e
  split at e
  · obtain ⟨q1, q2⟩ := xffB_ok (h.z.ex 704 (b := xffB "TooMany" "most"))
    exact ⟨q1, q2, rfl⟩
  · cases e
def fn_way : Nat → Option Unit
  | 14 => some ()
  | _ => none
theorem fno_way {G : Gd} {mg : Str → Option Value} {base : Heap} (h : Hd fa fn ts eb G mg base) (hx : Has G) : ∀ c, fn_way c = some () → XfC G.K (G.cls c) ∧ PySem.W.findIn G.K (.ref (G.cls c)) "way" = some none ∧ G.exn c = "way" := by
  intro c e
  rw [hx.cls, hx.exn]
  unfold fn_way at e
  split at e
  · obtain ⟨q1, q2⟩ := xffB_ok (h.z.ex 705 (b := xffB "Untold" "way"))
    exact ⟨q1, q2, rfl⟩
  · cases e
def fn_name : Nat → Option Unit
  | 13 => some ()
  | _ => none
theorem fno_name {G : Gd} {mg : Str → Option Value} {base : Heap} (h : Hd fa fn ts eb G mg base) (hx : Has G) : ∀ c, fn_name c = some () → XfC G.K (G.cls c) ∧ PySem.W.findIn G.K (.ref (G.cls c)) "name" = some none ∧ G.exn c = "name" := by
  intro c e
  rw [hx.cls, hx.exn]
  unfold fn_name at e
  split at e
  · obtain ⟨q1, q2⟩ := xffB_ok (h.z.ex 706 (b := xffB "NoName" "name"))
    exact ⟨q1, q2, rfl⟩
  · cases e
def fn_stretch : Nat → Option Unit
  | 12 => some ()
  | _ => none
theorem fno_stretch {G : Gd} {mg : Str → Option Value} {base : Heap} (h : Hd fa fn ts eb G mg base) (hx : Has G) : ∀ c, fn_stretch c = some () → XfC G.K (G.cls c) ∧ PySem.W.findIn G.K (.ref (G.cls c)) "stretch" = some none ∧ G.exn c = "stretch" := by
  intro c e
  rw [hx.cls, hx.exn]
  unfold fn_stretch at e
  split at e
  · obtain ⟨q1, q2⟩ := xffB_ok (h.z.ex 707 (b := xffB "NoStretch" "stretch"))
    exact ⟨q1, q2, rfl⟩
  · cases e
def fn_many : Nat → Option Unit
  | 19 => some ()
  | _ => none
theorem fno_many {G : Gd} {mg : Str → Option Value} {base : Heap} (h : Hd fa fn ts eb G mg base) (hx : Has G) : ∀ c, fn_many c = some () → XfC G.K (G.cls c) ∧ PySem.W.findIn G.K (.ref (G.cls c)) "many" = some none ∧ G.exn c = "many" := by
  intro c e
  rw [hx.cls, hx.exn]
  unfold fn_many at e
  split at e
  · obtain ⟨q1, q2⟩ := xffB_ok (h.z.ex 708 (b := xffB "NoEntry" "many"))
    exact ⟨q1, q2, rfl⟩
  · cases e
def fn_deed : Nat → Option Unit
  | 18 => some ()
  | _ => none
theorem fno_deed {G : Gd} {mg : Str → Option Value} {base : Heap} (h : Hd fa fn ts eb G mg base) (hx : Has G) : ∀ c, fn_deed c = some () → XfC G.K (G.cls c) ∧ PySem.W.findIn G.K (.ref (G.cls c)) "deed" = some none ∧ G.exn c = "deed" := by
  intro c e
  rw [hx.cls, hx.exn]
  unfold fn_deed at e
  split at e
  · obtain ⟨q1, q2⟩ := xffB_ok (h.z.ex 709 (b := xffB "Refused" "deed"))
    exact ⟨q1, q2, rfl⟩
  · cases e
abbrev s_law_kept : Stmt := top 31
def m_law_kept : MF := mFn 1 2
    (mSeq (mSet 1 (mLstO (mCons (mEvF fn_place "place" (mBin gIx (mVar 0) (mD (.int 0)))) (mCons (mEvF fn_limit "limit" (mBin gIx (mVar 0) (mD (.int 1)))) (mCons (mEvF fn_limit "limit" (mBin gIx (mVar 0) (mD (.int 2)))) (mCons (mEvF fn_limit "limit" (mBin gIx (mVar 0) (mD (.int 3)))) (mCons (mEvF fn_mark "mark" (mBin gIx (mVar 0) (mD (.int 4)))) (mCons (mEvF fn_address "address" (mBin gIx (mVar 0) (mD (.int 5)))) mNil))))))))
    (mSeq (mSet 1 (mBin gAddO (mVar 1) (mLstO (mCons (mEvF fn_address "address" (mBin gIx (mVar 0) (mD (.int 6)))) (mCons (mEvF fn_address "address" (mBin gIx (mVar 0) (mD (.int 7)))) (mCons (mEvF fn_gap "gap" (mBin gIx (mVar 0) (mD (.int 8)))) (mCons (mEvF fn_mark "mark" (mBin gIx (mVar 0) (mD (.int 9)))) (mCons (mEvF fn_at "at" (mBin gIx (mVar 0) (mD (.int 10)))) (mCons (mEvF fn_index "index" (mBin gIx (mVar 0) (mD (.int 11)))) mNil)))))))))
    (mSeq (mSet 1 (mBin gAddO (mVar 1) (mLstO (mCons (mEvF fn_stretch "stretch" (mBin gIx (mVar 0) (mD (.int 12)))) (mCons (mEvF fn_name "name" (mBin gIx (mVar 0) (mD (.int 13)))) (mCons (mEvF fn_way "way" (mBin gIx (mVar 0) (mD (.int 14)))) (mCons (mEvF fn_mark "mark" (mBin gIx (mVar 0) (mD (.int 15)))) (mCons (mEvF fn_mark "mark" (mBin gIx (mVar 0) (mD (.int 16)))) (mCons (mEvF fn_most "most" (mBin gIx (mVar 0) (mD (.int 17)))) mNil)))))))))
    (mRet (mBin gAddO (mVar 1) (mLstO (mCons (mEvF fn_deed "deed" (mBin gIx (mVar 0) (mD (.int 18)))) (mCons (mEvF fn_many "many" (mBin gIx (mVar 0) (mD (.int 19)))) mNil))))))))
theorem sc_law_kept : FnScope ["_law_some", "_law_found"] ["_law_some"] (defScope s_law_kept) := ⟨rfl, rfl, rfl, by decide +kernel, rfl, by decide +kernel, by decide +kernel⟩
theorem kn_law_kept {G : Gd} {mg : Str → Option Value} {base : Heap} (h : Hd fa fn ts eb G mg base) (hx : Has G) (hk : G.exk = .none)  : Kn G mg base "_law_kept" 1 ["_law_some"] m_law_kept :=
  Kn.mk' (k := 0) (h.says.def_ 4 rfl) (h.glo 10) sc_law_kept rfl (fun _ _ _ _ _ _ us hl => match us, hl with | [_], _ => rfl) fun cdv A outer s H hr hgd =>
    (zs_cons (z_set (i := 1) sc_law_kept.nd rfl (by first | exact Or.inl rfl | exact Or.inr rfl) (z_lstO (z_cons (z_evF (fn := fn_place) (fno_place (h.to ⟨rfl, rfl, rfl, rfl, rfl, rfl, hk⟩) (hx.to ⟨rfl, rfl, rfl, rfl, rfl, rfl, hk⟩)) (by decide) (z_ix (z_var 0) z_int)) (z_cons (z_evF (fn := fn_limit) (fno_limit (h.to ⟨rfl, rfl, rfl, rfl, rfl, rfl, hk⟩) (hx.to ⟨rfl, rfl, rfl, rfl, rfl, rfl, hk⟩)) (by decide) (z_ix (z_var 0) z_int)) (z_cons (z_evF (fn := fn_limit) (fno_limit (h.to ⟨rfl, rfl, rfl, rfl, rfl, rfl, hk⟩) (hx.to ⟨rfl, rfl, rfl, rfl, rfl, rfl, hk⟩)) (by decide) (z_ix (z_var 0) z_int)) (z_cons (z_evF (fn := fn_limit) (fno_limit (h.to ⟨rfl, rfl, rfl, rfl, rfl, rfl, hk⟩) (hx.to ⟨rfl, rfl, rfl, rfl, rfl, rfl, hk⟩)) (by decide) (z_ix (z_var 0) z_int)) (z_cons (z_evF (fn := fn_mark) (fno_mark (h.to ⟨rfl, rfl, rfl, rfl, rfl, rfl, hk⟩) (hx.to ⟨rfl, rfl, rfl, rfl, rfl, rfl, hk⟩)) (by decide) (z_ix (z_var 0) z_int)) (z_cons (z_evF (fn := fn_address) (fno_address (h.to ⟨rfl, rfl, rfl, rfl, rfl, rfl, hk⟩) (hx.to ⟨rfl, rfl, rfl, rfl, rfl, rfl, hk⟩)) (by decide) (z_ix (z_var 0) z_int)) z_nil))))))))
      (zs_cons (z_set (i := 1) sc_law_kept.nd rfl (by first | exact Or.inl rfl | exact Or.inr rfl) (z_addO (z_var 1) (z_lstO (z_cons (z_evF (fn := fn_address) (fno_address (h.to ⟨rfl, rfl, rfl, rfl, rfl, rfl, hk⟩) (hx.to ⟨rfl, rfl, rfl, rfl, rfl, rfl, hk⟩)) (by decide) (z_ix (z_var 0) z_int)) (z_cons (z_evF (fn := fn_address) (fno_address (h.to ⟨rfl, rfl, rfl, rfl, rfl, rfl, hk⟩) (hx.to ⟨rfl, rfl, rfl, rfl, rfl, rfl, hk⟩)) (by decide) (z_ix (z_var 0) z_int)) (z_cons (z_evF (fn := fn_gap) (fno_gap (h.to ⟨rfl, rfl, rfl, rfl, rfl, rfl, hk⟩) (hx.to ⟨rfl, rfl, rfl, rfl, rfl, rfl, hk⟩)) (by decide) (z_ix (z_var 0) z_int)) (z_cons (z_evF (fn := fn_mark) (fno_mark (h.to ⟨rfl, rfl, rfl, rfl, rfl, rfl, hk⟩) (hx.to ⟨rfl, rfl, rfl, rfl, rfl, rfl, hk⟩)) (by decide) (z_ix (z_var 0) z_int)) (z_cons (z_evF (fn := fn_at) (fno_at (h.to ⟨rfl, rfl, rfl, rfl, rfl, rfl, hk⟩) (hx.to ⟨rfl, rfl, rfl, rfl, rfl, rfl, hk⟩)) (by decide) (z_ix (z_var 0) z_int)) (z_cons (z_evF (fn := fn_index) (fno_index (h.to ⟨rfl, rfl, rfl, rfl, rfl, rfl, hk⟩) (hx.to ⟨rfl, rfl, rfl, rfl, rfl, rfl, hk⟩)) (by decide) (z_ix (z_var 0) z_int)) z_nil)))))))))
      (zs_cons (z_set (i := 1) sc_law_kept.nd rfl (by first | exact Or.inl rfl | exact Or.inr rfl) (z_addO (z_var 1) (z_lstO (z_cons (z_evF (fn := fn_stretch) (fno_stretch (h.to ⟨rfl, rfl, rfl, rfl, rfl, rfl, hk⟩) (hx.to ⟨rfl, rfl, rfl, rfl, rfl, rfl, hk⟩)) (by decide) (z_ix (z_var 0) z_int)) (z_cons (z_evF (fn := fn_name) (fno_name (h.to ⟨rfl, rfl, rfl, rfl, rfl, rfl, hk⟩) (hx.to ⟨rfl, rfl, rfl, rfl, rfl, rfl, hk⟩)) (by decide) (z_ix (z_var 0) z_int)) (z_cons (z_evF (fn := fn_way) (fno_way (h.to ⟨rfl, rfl, rfl, rfl, rfl, rfl, hk⟩) (hx.to ⟨rfl, rfl, rfl, rfl, rfl, rfl, hk⟩)) (by decide) (z_ix (z_var 0) z_int)) (z_cons (z_evF (fn := fn_mark) (fno_mark (h.to ⟨rfl, rfl, rfl, rfl, rfl, rfl, hk⟩) (hx.to ⟨rfl, rfl, rfl, rfl, rfl, rfl, hk⟩)) (by decide) (z_ix (z_var 0) z_int)) (z_cons (z_evF (fn := fn_mark) (fno_mark (h.to ⟨rfl, rfl, rfl, rfl, rfl, rfl, hk⟩) (hx.to ⟨rfl, rfl, rfl, rfl, rfl, rfl, hk⟩)) (by decide) (z_ix (z_var 0) z_int)) (z_cons (z_evF (fn := fn_most) (fno_most (h.to ⟨rfl, rfl, rfl, rfl, rfl, rfl, hk⟩) (hx.to ⟨rfl, rfl, rfl, rfl, rfl, rfl, hk⟩)) (by decide) (z_ix (z_var 0) z_int)) z_nil)))))))))
      (zs_one (z_ret (z_addO (z_var 1) (z_lstO (z_cons (z_evF (fn := fn_deed) (fno_deed (h.to ⟨rfl, rfl, rfl, rfl, rfl, rfl, hk⟩) (hx.to ⟨rfl, rfl, rfl, rfl, rfl, rfl, hk⟩)) (by decide) (z_ix (z_var 0) z_int)) (z_cons (z_evF (fn := fn_many) (fno_many (h.to ⟨rfl, rfl, rfl, rfl, rfl, rfl, hk⟩) (hx.to ⟨rfl, rfl, rfl, rfl, rfl, rfl, hk⟩)) (by decide) (z_ix (z_var 0) z_int)) z_nil)))))))))
theorem e0_PieceError {G : Gd} {mg : Str → Option Value} {base : Heap} (h : Hd fa fn ts eb G mg base) (hx : Has G) : Ex0 G mg "PieceError" 20 := Ex0.mk' (clse20 hx) (h.glo 38) (h.z.ex 710)
theorem cgt {G : Gd} {mg : Str → Option Value} {base : Heap} (h : Hd fa fn ts eb G mg base) (hx : Has G) : Cgt G.K (G.cls 12) (G.cls 22) (G.cls 20) := ⟨List.forall_mem_cons.mpr ⟨⟨by rw [clse12 hx]; exact exdB_ok (h.z.ex 25), by rw [clse12 hx]; exact of_decide_eq_true (h.z.ex 711 (b := kitTB "NoStretch" "ValueError" true)), by rw [clse12 hx, clse20 hx]; exact of_decide_eq_true (h.z.ex 712 (b := exmB "NoStretch" "PieceError" true))⟩, List.forall_mem_cons.mpr ⟨⟨by rw [clse22 hx]; exact exdB_ok (h.z.ex 45), by rw [clse22 hx]; exact of_decide_eq_true (h.z.ex 713 (b := kitTB "Nothing" "ValueError" true)), by rw [clse22 hx, clse20 hx]; exact of_decide_eq_true (h.z.ex 714 (b := exmB "Nothing" "PieceError" true))⟩, List.forall_mem_cons.mpr ⟨⟨by rw [clse20 hx]; exact exdB_ok (h.z.ex 41), by rw [clse20 hx]; exact of_decide_eq_true (h.z.ex 715 (b := kitTB "PieceError" "ValueError" true)), by rw [clse20 hx]; exact of_decide_eq_true (h.z.ex 716 (b := exmB "PieceError" "PieceError" true))⟩, fun _ h => absurd h List.not_mem_nil⟩⟩⟩, by rw [clse12 hx, clse22 hx, clse20 hx]; exact of_decide_eq_true (h.z.ex 717 (b := kitAB "PieceError" "NoStretch" "Nothing" false))⟩
abbrev s_law_caught : Stmt := top 32
def m_law_caught : MF := mFn 2 3
    mCaught
theorem sc_law_caught : FnScope ["_law_k", "_law_thing", "_law_e"] ["_law_k", "_law_thing"] (defScope s_law_caught) := ⟨rfl, rfl, rfl, by decide +kernel, rfl, by decide +kernel, by decide +kernel⟩
theorem kn_law_caught {G : Gd} {mg : Str → Option Value} {base : Heap} (h : Hd fa fn ts eb G mg base) (hx : Has G) (hk : G.exk = .none)  : Kn G mg base "_law_caught" 3 ["_law_k", "_law_thing"] m_law_caught :=
  Kn.mk' (k := 2) (h.says.def_ 5 rfl) (h.glo 11) sc_law_caught rfl (fun _ _ _ _ _ _ us hl => match us, hl with | [_, _], _ => rfl) fun cdv A outer s H hr hgd =>
    (z_caught (fS := "stretch") (ex_NoStretch (h.to ⟨rfl, rfl, rfl, rfl, rfl, rfl, hk⟩) (hx.to ⟨rfl, rfl, rfl, rfl, rfl, rfl, hk⟩)) (by rw [(hx.to ⟨rfl, rfl, rfl, rfl, rfl, rfl, hk⟩).exn]; rfl) (e0_Nothing (h.to ⟨rfl, rfl, rfl, rfl, rfl, rfl, hk⟩) (hx.to ⟨rfl, rfl, rfl, rfl, rfl, rfl, hk⟩)) (e0_PieceError (h.to ⟨rfl, rfl, rfl, rfl, rfl, rfl, hk⟩) (hx.to ⟨rfl, rfl, rfl, rfl, rfl, rfl, hk⟩)) (cgt (h.to ⟨rfl, rfl, rfl, rfl, rfl, rfl, hk⟩) (hx.to ⟨rfl, rfl, rfl, rfl, rfl, rfl, hk⟩)) hk (by rfl) (by rfl) sc_law_caught.nd (by rfl) (by rfl) (by first | exact Or.inl rfl | exact Or.inr (Or.inl rfl) | exact Or.inr (Or.inr rfl)) (by first | exact Or.inl rfl | exact Or.inr (Or.inl rfl) | exact Or.inr (Or.inr rfl)) (by first | exact Or.inl rfl | exact Or.inr (Or.inl rfl) | exact Or.inr (Or.inr rfl)) (by rfl) hr (by omega) (by rfl) (by rfl) (by rfl) (by rfl) (h.free 2) (by rfl) (h.free 39))
def tbv_PieceError : Nat → Option Bool
  | 0 => some true
  | 1 => some true
  | 2 => some true
  | 3 => some true
  | 4 => some true
  | 5 => some true
  | 6 => some true
  | 7 => some true
  | 8 => some true
  | 9 => some true
  | 10 => some true
  | 11 => some true
  | 12 => some true
  | 13 => some true
  | 14 => some true
  | 15 => some true
  | 16 => some true
  | 17 => some true
  | 18 => some true
  | 19 => some true
  | 20 => some true
  | 21 => some true
  | 22 => some true
  | 23 => some true
  | 24 => some true
  | _ => none
theorem tbvo_PieceError {G : Gd} {mg : Str → Option Value} {base : Heap} (h : Hd fa fn ts eb G mg base) (hx : Has G) : ∀ c b, tbv_PieceError c = some b → ExD G.K (G.cls c) ∧ PySem.W.kitOne G.K (.ref (G.cls c)) (.ref (He.ga G.K "PieceError")) = some b := by
  intro c b e
  rw [hx.cls]
  unfold tbv_PieceError at e
  split at e
  · cases e
    exact ⟨exdB_ok (h.z.ex 1), of_decide_eq_true (h.z.ex 718 (b := kitB "Wrong" "PieceError" true))⟩
  · cases e
    exact ⟨exdB_ok (h.z.ex 3), of_decide_eq_true (h.z.ex 719 (b := kitB "Full" "PieceError" true))⟩
  · cases e
    exact ⟨exdB_ok (h.z.ex 5), of_decide_eq_true (h.z.ex 720 (b := kitB "Deep" "PieceError" true))⟩
  · cases e
    exact ⟨exdB_ok (h.z.ex 7), of_decide_eq_true (h.z.ex 721 (b := kitB "Many" "PieceError" true))⟩
  · cases e
    exact ⟨exdB_ok (h.z.ex 9), of_decide_eq_true (h.z.ex 722 (b := kitB "Twice" "PieceError" true))⟩
  · cases e
    exact ⟨exdB_ok (h.z.ex 11), of_decide_eq_true (h.z.ex 723 (b := kitB "NotLast" "PieceError" true))⟩
  · cases e
    exact ⟨exdB_ok (h.z.ex 13), of_decide_eq_true (h.z.ex 724 (b := kitB "NoLoop" "PieceError" true))⟩
  · cases e
    exact ⟨exdB_ok (h.z.ex 15), of_decide_eq_true (h.z.ex 725 (b := kitB "NoRow" "PieceError" true))⟩
  · cases e
    exact ⟨exdB_ok (h.z.ex 17), of_decide_eq_true (h.z.ex 726 (b := kitB "NoGap" "PieceError" true))⟩
  · cases e
    exact ⟨exdB_ok (h.z.ex 19), of_decide_eq_true (h.z.ex 727 (b := kitB "NoMark" "PieceError" true))⟩
  · cases e
    exact ⟨exdB_ok (h.z.ex 21), of_decide_eq_true (h.z.ex 728 (b := kitB "NoSpot" "PieceError" true))⟩
  · cases e
    exact ⟨exdB_ok (h.z.ex 23), of_decide_eq_true (h.z.ex 729 (b := kitB "BadWord" "PieceError" true))⟩
  · cases e
    exact ⟨exdB_ok (h.z.ex 25), of_decide_eq_true (h.z.ex 730 (b := kitB "NoStretch" "PieceError" true))⟩
  · cases e
    exact ⟨exdB_ok (h.z.ex 27), of_decide_eq_true (h.z.ex 731 (b := kitB "NoName" "PieceError" true))⟩
  · cases e
    exact ⟨exdB_ok (h.z.ex 29), of_decide_eq_true (h.z.ex 732 (b := kitB "Untold" "PieceError" true))⟩
  · cases e
    exact ⟨exdB_ok (h.z.ex 31), of_decide_eq_true (h.z.ex 733 (b := kitB "BadMark" "PieceError" true))⟩
  · cases e
    exact ⟨exdB_ok (h.z.ex 33), of_decide_eq_true (h.z.ex 734 (b := kitB "Overlap" "PieceError" true))⟩
  · cases e
    exact ⟨exdB_ok (h.z.ex 35), of_decide_eq_true (h.z.ex 735 (b := kitB "TooMany" "PieceError" true))⟩
  · cases e
    exact ⟨exdB_ok (h.z.ex 37), of_decide_eq_true (h.z.ex 736 (b := kitB "Refused" "PieceError" true))⟩
  · cases e
    exact ⟨exdB_ok (h.z.ex 39), of_decide_eq_true (h.z.ex 737 (b := kitB "NoEntry" "PieceError" true))⟩
  · cases e
    exact ⟨exdB_ok (h.z.ex 41), of_decide_eq_true (h.z.ex 738 (b := kitB "PieceError" "PieceError" true))⟩
  · cases e
    exact ⟨exdB_ok (h.z.ex 43), of_decide_eq_true (h.z.ex 739 (b := kitB "BadDeed" "PieceError" true))⟩
  · cases e
    exact ⟨exdB_ok (h.z.ex 45), of_decide_eq_true (h.z.ex 740 (b := kitB "Nothing" "PieceError" true))⟩
  · cases e
    exact ⟨exdB_ok (h.z.ex 47), of_decide_eq_true (h.z.ex 741 (b := kitB "NoText" "PieceError" true))⟩
  · cases e
    exact ⟨exdB_ok (h.z.ex 49), of_decide_eq_true (h.z.ex 742 (b := kitB "NoCommand" "PieceError" true))⟩
  · cases e
def tbv_ValueError : Nat → Option Bool
  | 0 => some true
  | 1 => some true
  | 2 => some true
  | 3 => some true
  | 4 => some true
  | 5 => some true
  | 6 => some true
  | 7 => some true
  | 8 => some true
  | 9 => some true
  | 10 => some true
  | 11 => some true
  | 12 => some true
  | 13 => some true
  | 14 => some true
  | 15 => some true
  | 16 => some true
  | 17 => some true
  | 18 => some true
  | 19 => some true
  | 20 => some true
  | 21 => some true
  | 22 => some true
  | 23 => some true
  | 24 => some true
  | _ => none
theorem tbvo_ValueError {G : Gd} {mg : Str → Option Value} {base : Heap} (h : Hd fa fn ts eb G mg base) (hx : Has G) : ∀ c b, tbv_ValueError c = some b → ExD G.K (G.cls c) ∧ PySem.W.kitOne G.K (.ref (G.cls c)) (.type "ValueError") = some b := by
  intro c b e
  rw [hx.cls]
  unfold tbv_ValueError at e
  split at e
  · cases e
    exact ⟨exdB_ok (h.z.ex 1), of_decide_eq_true (h.z.ex 743 (b := kitTB "Wrong" "ValueError" true))⟩
  · cases e
    exact ⟨exdB_ok (h.z.ex 3), of_decide_eq_true (h.z.ex 744 (b := kitTB "Full" "ValueError" true))⟩
  · cases e
    exact ⟨exdB_ok (h.z.ex 5), of_decide_eq_true (h.z.ex 745 (b := kitTB "Deep" "ValueError" true))⟩
  · cases e
    exact ⟨exdB_ok (h.z.ex 7), of_decide_eq_true (h.z.ex 746 (b := kitTB "Many" "ValueError" true))⟩
  · cases e
    exact ⟨exdB_ok (h.z.ex 9), of_decide_eq_true (h.z.ex 747 (b := kitTB "Twice" "ValueError" true))⟩
  · cases e
    exact ⟨exdB_ok (h.z.ex 11), of_decide_eq_true (h.z.ex 748 (b := kitTB "NotLast" "ValueError" true))⟩
  · cases e
    exact ⟨exdB_ok (h.z.ex 13), of_decide_eq_true (h.z.ex 749 (b := kitTB "NoLoop" "ValueError" true))⟩
  · cases e
    exact ⟨exdB_ok (h.z.ex 15), of_decide_eq_true (h.z.ex 750 (b := kitTB "NoRow" "ValueError" true))⟩
  · cases e
    exact ⟨exdB_ok (h.z.ex 17), of_decide_eq_true (h.z.ex 751 (b := kitTB "NoGap" "ValueError" true))⟩
  · cases e
    exact ⟨exdB_ok (h.z.ex 19), of_decide_eq_true (h.z.ex 752 (b := kitTB "NoMark" "ValueError" true))⟩
  · cases e
    exact ⟨exdB_ok (h.z.ex 21), of_decide_eq_true (h.z.ex 753 (b := kitTB "NoSpot" "ValueError" true))⟩
  · cases e
    exact ⟨exdB_ok (h.z.ex 23), of_decide_eq_true (h.z.ex 754 (b := kitTB "BadWord" "ValueError" true))⟩
  · cases e
    exact ⟨exdB_ok (h.z.ex 25), of_decide_eq_true (h.z.ex 711 (b := kitTB "NoStretch" "ValueError" true))⟩
  · cases e
    exact ⟨exdB_ok (h.z.ex 27), of_decide_eq_true (h.z.ex 755 (b := kitTB "NoName" "ValueError" true))⟩
  · cases e
    exact ⟨exdB_ok (h.z.ex 29), of_decide_eq_true (h.z.ex 756 (b := kitTB "Untold" "ValueError" true))⟩
  · cases e
    exact ⟨exdB_ok (h.z.ex 31), of_decide_eq_true (h.z.ex 757 (b := kitTB "BadMark" "ValueError" true))⟩
  · cases e
    exact ⟨exdB_ok (h.z.ex 33), of_decide_eq_true (h.z.ex 758 (b := kitTB "Overlap" "ValueError" true))⟩
  · cases e
    exact ⟨exdB_ok (h.z.ex 35), of_decide_eq_true (h.z.ex 759 (b := kitTB "TooMany" "ValueError" true))⟩
  · cases e
    exact ⟨exdB_ok (h.z.ex 37), of_decide_eq_true (h.z.ex 760 (b := kitTB "Refused" "ValueError" true))⟩
  · cases e
    exact ⟨exdB_ok (h.z.ex 39), of_decide_eq_true (h.z.ex 761 (b := kitTB "NoEntry" "ValueError" true))⟩
  · cases e
    exact ⟨exdB_ok (h.z.ex 41), of_decide_eq_true (h.z.ex 715 (b := kitTB "PieceError" "ValueError" true))⟩
  · cases e
    exact ⟨exdB_ok (h.z.ex 43), of_decide_eq_true (h.z.ex 762 (b := kitTB "BadDeed" "ValueError" true))⟩
  · cases e
    exact ⟨exdB_ok (h.z.ex 45), of_decide_eq_true (h.z.ex 713 (b := kitTB "Nothing" "ValueError" true))⟩
  · cases e
    exact ⟨exdB_ok (h.z.ex 47), of_decide_eq_true (h.z.ex 763 (b := kitTB "NoText" "ValueError" true))⟩
  · cases e
    exact ⟨exdB_ok (h.z.ex 49), of_decide_eq_true (h.z.ex 764 (b := kitTB "NoCommand" "ValueError" true))⟩
  · cases e
abbrev s_law : Stmt := top 33
def m_law : MF := mFn 1 11
    (mSeq (mSet 1 (mPubE (mCall m_law_bag (mCons (mVar 0) mNil))))
    (mSeq (mFor (mIRng1 (mCons (mD (.int 3)) mNil)) (.nm 2) (mSeq (mSet 3 (mCall m_law_take (mCons (mVar 1) (mCons (mBin (gInt cPow fun i j => .int (i ^ j.toNat)) (mD (.int 10)) (mD (.int 9))) mNil))))
    (mSeq (mSet 4 (mBin gIx (mLstO (mCons (mVar 3) (mCons (mD (.str "a")) (mCons (mD .non) (mCons (mPubE (mLstO (mCons (mVar 3) mNil))) (mCons (mTup (mCons (mD (.str "x")) (mCons (mVar 3) mNil))) (mCons (mD (.dct [])) mNil))))))) (mCall m_law_take (mCons (mVar 1) (mCons (mD (.int 6)) mNil)))))
    (mSeq (mForW (mICelT (mTupW (mCons (mVar 4) (mCons (mPubE (mLstO (mCons (mVar 3) mNil))) mNil)))) (.nm 5) (mSeq (mSet 6 (mPubE (mCall m_law_made (mCons (mVar 5) mNil))))
    (mSeq (mIfS (mTst (mBin gNe (mFrzE (mLcW (mICel (mPubE (mCall m_law_kept (mCons (mVar 6) mNil)))) (.nm 7) mYes (mBin gEqZ (mVar 7) (mVar 5)) (([("_law_found", 7)] : List (Str × Nat)).map (·.2)))) (mBin gMulT (mLst (mCons (mD (.bl true)) mNil)) (mD (.int 20))))) (mRet (mD (.bl false))) mNext)
    (mSeq (mIfS (mTst (mIsiC 0 "list" (mVar 5))) (mSeq (mMut 5 (mCons (mBin gAdd (mVar 3) (mD (.int 1))) mNil) gApp)
    (mIfS (mTst (mBin gNe (mFrzE (mLcW (mICel (mPubE (mCall m_law_kept (mCons (mVar 6) mNil)))) (.nm 7) mYes (mBin gEqZ (mVar 7) (mVar 5)) (([("_law_found", 7)] : List (Str × Nat)).map (·.2)))) (mBin gMulT (mLst (mCons (mD (.bl true)) mNil)) (mD (.int 20))))) (mRet (mD (.bl false))) mNext)) mNext)
    (mSeq (mFor (mIRng1 (mCons (mD (.int 24)) mNil)) (.nm 8) (mSeq (mSet 9 (mBin gIx (mVar 6) (mVar 8)))
    (mSeq (mIfS (mOrT (mNotT (mTst (mIsV tbv_PieceError (mVar 9)))) (mNotT (mTst (mIsV tbv_ValueError (mVar 9))))) (mRet (mD (.bl false))) mNext)
    (mIfS (mTst (mBin gNe (mCall m_law_flags (mCons (mVar 9) mNil)) (mLc (mIRng1 (mCons (mD (.int 24)) mNil)) (.nm 10) mYes (mBin gEqZ (mVar 10) (mVar 8)) (([("_law_j", 10)] : List (Str × Nat)).map (·.2))))) (mRet (mD (.bl false))) mNext))))
    (mIfS (mTst (mBin gNe (mLc (mIRng1 (mCons (mD (.int 3)) mNil)) (.nm 8) mYes (mCall m_law_caught (mCons (mVar 8) (mCons (mVar 5) mNil))) (([("_law_k", 8)] : List (Str × Nat)).map (·.2))) (mBin gMulT (mLst (mCons (mD (.bl true)) mNil)) (mD (.int 3))))) (mRet (mD (.bl false))) mNext))))))
    (mIfS (mOrT (mTst (mBin gNe (mCall m_law_flags (mCons (mMkE1 20 (mD (.str "a"))) mNil)) (mBin gMulT (mLst (mCons (mD (.bl false)) mNil)) (mD (.int 24))))) (mNotT (mTst (mIsV tbv_ValueError (mMkE0 20))))) (mRet (mD (.bl false))) mNext)))))
    (mRet (mD (.bl true)))))
theorem sc_law : FnScope ["_law_script", "_law_bag_here", "_law_turn", "_law_number", "_law_thing", "_law_one", "_law_some", "_law_found", "_law_k", "_law_e", "_law_j"] ["_law_script"] (defScope s_law) := ⟨rfl, rfl, rfl, by decide +kernel, rfl, by decide +kernel, by decide +kernel⟩
theorem fn_law {G : Gd} {mg : Str → Option Value} {base : Heap} (h : Hd fa fn ts eb G mg base) (hx : Has G) (hk : G.exk = .none) (k_law_bag : ∀ G', Alike G G' → Kn G' mg base "_law_bag" 1 ["_law_script"] m_law_bag) (k_law_take : ∀ G', Alike G G' → Kn G' mg base "_law_take" 1 ["_law_bag_here", "_law_many"] m_law_take) (k_law_flags : ∀ G', Alike G G' → Kn G' mg base "_law_flags" 1 ["_law_e"] m_law_flags) (k_law_made : ∀ G', Alike G G' → Kn G' mg base "_law_made" 3 ["_law_thing"] m_law_made) (k_law_kept : ∀ G', Alike G G' → Kn G' mg base "_law_kept" 1 ["_law_some"] m_law_kept) (k_law_caught : ∀ G', Alike G G' → Kn G' mg base "_law_caught" 3 ["_law_k", "_law_thing"] m_law_caught) {fd : FuncData} (D : FunD G.K "law" "law" (defArgs s_law) (defBody s_law) (defScope s_law) [] [] (He.fAd G.K ("law", none)) fd) : FnG G mg base 4 (He.fAd G.K ("law", none)) fd ["_law_script"] m_law :=
  fn_rule D sc_law rfl fun cdv A outer s H hr hgd =>
    (zs_cons (z_set (i := 1) sc_law.nd rfl (by first | exact Or.inl rfl | exact Or.inr rfl) (z_pub (z_fn (k_law_bag _ ⟨rfl, rfl, rfl, rfl, rfl, rfl, hk⟩) hr (by omega) hgd rfl (z_cons (z_var 0) z_nil))))
      (zs_cons (z_for (t := (.nm 2)) PassesOwn.never (zi_rng1 rfl (h.free 5) (z_cons z_int z_nil)) (pg_name (i := 2) sc_law.nd rfl (by first | exact Or.inl rfl | exact Or.inr rfl)) (zs_cons (z_set (i := 3) sc_law.nd rfl (by first | exact Or.inl rfl | exact Or.inr rfl) (z_fn (k_law_take _ ⟨rfl, rfl, rfl, rfl, rfl, rfl, hk⟩) hr (by omega) hgd rfl (z_cons (z_var 1) (z_cons (z_pow z_int z_int) z_nil))))
      (zs_cons (z_set (i := 4) sc_law.nd rfl (by first | exact Or.inl rfl | exact Or.inr rfl) (z_ix (z_lstO (z_cons (z_var 3) (z_cons z_str (z_cons z_non (z_cons (z_pub (z_lstO (z_cons (z_var 3) z_nil))) (z_cons (z_tup (z_cons z_str (z_cons (z_var 3) z_nil))) (z_cons z_dnew z_nil))))))) (z_fn (k_law_take _ ⟨rfl, rfl, rfl, rfl, rfl, rfl, hk⟩) hr (by omega) hgd rfl (z_cons (z_var 1) (z_cons z_int z_nil)))))
      (zs_cons (z_forW (t := (.nm 5)) PassesOwn.never (zi_celT (z_tupW (z_cons (z_var 4) (z_cons (z_pub (z_lstO (z_cons (z_var 3) z_nil))) z_nil)))) (pg_name (i := 5) sc_law.nd rfl (by first | exact Or.inl rfl | exact Or.inr rfl)) (zs_cons (z_set (i := 6) sc_law.nd rfl (by first | exact Or.inl rfl | exact Or.inr rfl) (z_pub (z_fn (k_law_made _ ⟨rfl, rfl, rfl, rfl, rfl, rfl, hk⟩) hr (by omega) hgd rfl (z_cons (z_var 5) z_nil))))
      (zs_cons (z_if (z_neT hr (z_frzE (z_lcW (t := (.nm 7)) sc_law.nd (zi_cel (z_pub (z_fn (k_law_kept _ ⟨rfl, rfl, rfl, rfl, rfl, rfl, hk⟩) hr (by omega) hgd rfl (z_cons (z_var 6) z_nil)))) (blkOk_by (own := [("_law_found", 7)]) (show blkC ["_law_script", "_law_bag_here", "_law_turn", "_law_number", "_law_thing", "_law_one", "_law_some", "_law_found", "_law_k", "_law_e", "_law_j"] (defScope s_law) _ _ = true by decide +kernel)) (fun _ _ _ _ _ => (pg_name (i := 7) sc_law.nd rfl (by first | exact Or.inl rfl | exact Or.inr rfl))) (fun _ _ _ _ _ => z_tests0) (fun _ _ _ _ _ => (z_eqZU hr.v (z_var 7) (z_var 5))))) (z_mulT (z_lst (z_cons z_bl z_nil)) z_int)) (zs_one (z_ret z_bl)) zs_nil)
      (zs_cons (z_if (z_val (z_isiC (T := "list") (insO (h.to ⟨rfl, rfl, rfl, rfl, rfl, rfl, hk⟩) (hx.to ⟨rfl, rfl, rfl, rfl, rfl, rfl, hk⟩)) rfl (h.free 2) (z_var 5) rfl (h.free 4) (by decide +kernel))) (zs_cons (z_mut (i := 5) sim_app (ps_expr (pe_bm PySem.F.plainAttrs_list PySem.F.slot_list_append PySem.F.type_list_append mt_append (pv 5) (z_cons (z_add (z_var 3) z_int) z_nil))))
      (zs_one (z_if (z_neT hr (z_frzE (z_lcW (t := (.nm 7)) sc_law.nd (zi_cel (z_pub (z_fn (k_law_kept _ ⟨rfl, rfl, rfl, rfl, rfl, rfl, hk⟩) hr (by omega) hgd rfl (z_cons (z_var 6) z_nil)))) (blkOk_by (own := [("_law_found", 7)]) (show blkC ["_law_script", "_law_bag_here", "_law_turn", "_law_number", "_law_thing", "_law_one", "_law_some", "_law_found", "_law_k", "_law_e", "_law_j"] (defScope s_law) _ _ = true by decide +kernel)) (fun _ _ _ _ _ => (pg_name (i := 7) sc_law.nd rfl (by first | exact Or.inl rfl | exact Or.inr rfl))) (fun _ _ _ _ _ => z_tests0) (fun _ _ _ _ _ => (z_eqZU hr.v (z_var 7) (z_var 5))))) (z_mulT (z_lst (z_cons z_bl z_nil)) z_int)) (zs_one (z_ret z_bl)) zs_nil))) zs_nil)
      (zs_cons (z_for (t := (.nm 8)) PassesOwn.never (zi_rng1 rfl (h.free 5) (z_cons z_int z_nil)) (pg_name (i := 8) sc_law.nd rfl (by first | exact Or.inl rfl | exact Or.inr rfl)) (zs_cons (z_set (i := 9) sc_law.nd rfl (by first | exact Or.inl rfl | exact Or.inr rfl) (z_ix (z_var 6) (z_var 8)))
      (zs_cons (z_if (PW.pt (z_or (z_not (z_val (z_isV (tb := tbv_PieceError) (tbvo_PieceError (h.to ⟨rfl, rfl, rfl, rfl, rfl, rfl, hk⟩) (hx.to ⟨rfl, rfl, rfl, rfl, rfl, rfl, hk⟩)) rfl (h.free 2) (z_var 9) rfl (h.glo 38) (show RelV (V.ref (He.ga G.K "PieceError")) _ from rfl) (fun _ z => z)))) (z_or1 (z_not (z_val (z_isVB (T := "ValueError") (tb := tbv_ValueError) (tbvo_ValueError (h.to ⟨rfl, rfl, rfl, rfl, rfl, rfl, hk⟩) (hx.to ⟨rfl, rfl, rfl, rfl, rfl, rfl, hk⟩)) rfl (h.free 2) (z_var 9) rfl (h.free 39) (by decide +kernel))))))) (zs_one (z_ret z_bl)) zs_nil)
      (zs_one (z_if (z_neT hr (z_fn (k_law_flags _ ⟨rfl, rfl, rfl, rfl, rfl, rfl, hk⟩) hr (by omega) hgd rfl (z_cons (z_var 9) z_nil)) (z_lc (t := (.nm 10)) sc_law.nd (zi_rng1 rfl (h.free 5) (z_cons z_int z_nil)) (blkOk_by (own := [("_law_j", 10)]) (show blkC ["_law_script", "_law_bag_here", "_law_turn", "_law_number", "_law_thing", "_law_one", "_law_some", "_law_found", "_law_k", "_law_e", "_law_j"] (defScope s_law) _ _ = true by decide +kernel)) (fun _ _ _ _ _ => (pg_name (i := 10) sc_law.nd rfl (by first | exact Or.inl rfl | exact Or.inr rfl))) (fun _ _ _ _ _ => z_tests0) (fun _ _ _ _ _ => (z_eqZU hr.v (z_var 10) (z_var 8))))) (zs_one (z_ret z_bl)) zs_nil)))))
      (zs_one (z_if (z_neT hr (z_lc (t := (.nm 8)) sc_law.nd (zi_rng1 rfl (h.free 5) (z_cons z_int z_nil)) (blkOk_by (own := [("_law_k", 8)]) (show blkC ["_law_script", "_law_bag_here", "_law_turn", "_law_number", "_law_thing", "_law_one", "_law_some", "_law_found", "_law_k", "_law_e", "_law_j"] (defScope s_law) _ _ = true by decide +kernel)) (fun _ _ _ _ _ => (pg_name (i := 8) sc_law.nd rfl (by first | exact Or.inl rfl | exact Or.inr rfl))) (fun _ _ _ _ _ => z_tests0) (fun _ _ _ _ _ => (z_fn (k_law_caught _ ⟨rfl, rfl, rfl, rfl, rfl, rfl, hk⟩) hr (by omega) hgd rfl (z_cons (z_var 8) (z_cons (z_var 5) z_nil))))) (z_mulT (z_lst (z_cons z_bl z_nil)) z_int)) (zs_one (z_ret z_bl)) zs_nil)))))))
      (zs_one (z_if (PW.pt (z_or (z_neT hr (z_fn (k_law_flags _ ⟨rfl, rfl, rfl, rfl, rfl, rfl, hk⟩) hr (by omega) hgd rfl (z_cons (z_mkE1 (e0_PieceError (h.to ⟨rfl, rfl, rfl, rfl, rfl, rfl, hk⟩) (hx.to ⟨rfl, rfl, rfl, rfl, rfl, rfl, hk⟩)) rfl z_str) z_nil)) (z_mulT (z_lst (z_cons z_bl z_nil)) z_int)) (z_or1 (z_not (z_val (z_isVB (T := "ValueError") (tb := tbv_ValueError) (tbvo_ValueError (h.to ⟨rfl, rfl, rfl, rfl, rfl, rfl, hk⟩) (hx.to ⟨rfl, rfl, rfl, rfl, rfl, rfl, hk⟩)) rfl (h.free 2) (z_mkE0 (e0_PieceError (h.to ⟨rfl, rfl, rfl, rfl, rfl, rfl, hk⟩) (hx.to ⟨rfl, rfl, rfl, rfl, rfl, rfl, hk⟩)) rfl) rfl (h.free 39) (by decide +kernel))))))) (zs_one (z_ret z_bl)) zs_nil))))))
      (zs_one (z_ret z_bl))))
theorem the_law {G : Gd} {mg : Str → Option Value} {base : Heap} (h : Hd fa fn ts eb G mg base) (hx : Has G) (hk : G.exk = .none) {fd : FuncData} (D : FunD G.K "law" "law" (defArgs s_law) (defBody s_law) (defScope s_law) [] [] (He.fAd G.K ("law", none)) fd) : FnG G mg base 4 (He.fAd G.K ("law", none)) fd ["_law_script"] m_law := by
  have k_law_bag := fun G' (e : Alike G G') => kn_law_bag (h.to e) (hx.to e) e.exk
  have k_law_take := fun G' (e : Alike G G') => kn_law_take (h.to e) (hx.to e) e.exk
  have k_law_flags := fun G' (e : Alike G G') => kn_law_flags (h.to e) (hx.to e) e.exk
  have k_law_made := fun G' (e : Alike G G') => kn_law_made (h.to e) (hx.to e) e.exk
  have k_law_kept := fun G' (e : Alike G G') => kn_law_kept (h.to e) (hx.to e) e.exk
  have k_law_caught := fun G' (e : Alike G G') => kn_law_caught (h.to e) (hx.to e) e.exk
  exact fn_law h hx hk k_law_bag k_law_take k_law_flags k_law_made k_law_kept k_law_caught D
def law_ix : Nat := 6
def law_lv : Nat := 4
def law_fact : Nat := 12
end L10
namespace Kb
open PySem PySem.Spec PyProof.Rows L2 Zf
theorem v_mulT {S : Store} {i j : Int} (h : cMul i j = true) : gMulT S (.d (.int i)) (.d (.int j)) = some (.d (.int (i * j))) := by
  show (gMul S _ _).or _ = _
  rw [v_mul h]
  rfl
theorem gEqA_of {S : Store} {x y w : W} (h : gEq S x y = some w) : gEqA S x y = some w := by
  show (gEq S x y).or _ = _
  rw [h]
  rfl
theorem v_eqAI {S : Store} {i j : Int} : gEqA S (.d (.int i)) (.d (.int j)) = some (.d (.bl (decide (i = j)))) := gEqA_of v_eqI
theorem v_eqAS {S : Store} {x y : Str} : gEqA S (.d (.str x)) (.d (.str y)) = some (.d (.bl (decide (x = y)))) := gEqA_of v_eqS
end Kb
local macro_rules | `(tactic| decreasing_with assumption) => `(tactic| (try simp only [Zf.v_int, Zf.v_addI, Zf.v_ltI, Zf.v_leI, Zf.v_gtI, Zf.v_geI, Kb.v_eqAI, Kb.v_eqAS, Zf.v_eqI, Zf.v_neI, Zf.v_eqS, Zf.v_neS, Zf.v_int1, Zf.v_int1b, Zf.v_abs, Zf.v_lenL, Zf.v_lenT, Zf.v_lenB, Zf.v_listL, Zf.v_listT, Zf.toBor_d, Zf.toBor_r, Zf.toBor_own, Zf.unBor_d, Zf.unBor_r, Zf.unBor_bor, Zf.unBor_own, Zf.isArg_d, Zf.isArg_r, Zf.canSet_d, Zf.canSet_r, Zf.canSet_own, Option.some.injEq, exists_eq_left', exists_eq_left, List.getElem?_cons_zero, List.getElem?_cons_succ, List.length_cons, List.length_nil, List.map_cons, List.map_nil, List.all_cons, List.all_nil, Bool.and_true, and_self, true_and, List.cons_append, List.nil_append, List.replicate, Nat.reduceSub, Nat.reduceLT, Nat.reduceAdd, List.set_cons_zero, List.set_cons_succ, Zf.W.d.injEq, Zf.D.bl.injEq, Zf.D.int.injEq, Zf.D.str.injEq]))
namespace Kb
open PySem PySem.Spec PyProof.Rows L2 Zf
def bagL (a c t : Int) (xs : List Int) : List W := [.d (.int a), .d (.int c), .d (.int t), .d (.lst (xs.map .int))]
structure BagAt (S : Store) (b : Nat) (a c t : Int) (xs : List Int) : Prop where
  at_ : S[b]? = some (bagL a c t xs)
  a0 : 0 ≤ a
  c0 : 0 ≤ c
  c1 : c < 2147483647
  t0 : 0 ≤ t
  x0 : ∀ x ∈ xs, 0 ≤ x
  xl : xs.length ≤ 63
def Bag (S : Store) (b : Nat) : Prop := ∃ a c t xs, BagAt S b a c t xs
theorem aug2 {S : Store} {b : Nat} {a c t : Int} {xs : List Int} (h : S[b]? = some (bagL a c t xs)) {env : En} (e : env[0]? = some (some (.r b))) : mAugIx (fun i j => i + j) (mVar 0) (mD (.int 2)) (mD (.int 1)) env S = some (.nx, env, S.set b (bagL a c (t + 1) xs)) := by
  simp [mAugIx, mVar, mD, e, setIx, h, bagL, ixN, toBor, isArg]
theorem at_set {S : Store} {b : Nat} {l l' : List W} (h : S[b]? = some l) : (S.set b l')[b]? = some l' := by
  have := (List.getElem?_eq_some_iff.mp h).1
  simp [this]
theorem wp_aug2 {S : Store} {b : Nat} {a c t : Int} {xs : List Int} {env : En} {P : Fl → En → Store → Prop} (h : S[b]? = some (bagL a c t xs)) (e : env[0]? = some (some (.r b))) (q : P .nx env (S.set b (bagL a c (t + 1) xs))) : OkS (mAugIx (fun i j => i + j) (mVar 0) (mD (.int 2)) (mD (.int 1)) env S) P := ⟨_, aug2 h e, q⟩
def m2 : MS := (mSeq (mIfS (mTst (mBin gGt (mBin gIx (mVar 0) (mD (.int 0))) (mD (.int 0)))) (mSeq (mSet 4 (mBin (gInt (fun _ j => decide (0 < j)) fun i j => .int (i % j)) (mCB (g1 gInt1) (mCons (mBin gIx (mVar 0) (mD (.int 0))) mNil)) (mVar 1)))
    (mSeq (mSetIx (mVar 0) (mD (.int 0)) (mBin (gInt cDiv fun i j => .int (i / j)) (mBin gIx (mVar 0) (mD (.int 0))) (mVar 1)))
    (mRet (mVar 4)))) mNext)
    (mSeq (mSet 5 (mBin (gInt (fun _ j => decide (0 < j)) fun i j => .int (i % j)) (mCB (g1 gInt1) (mCons (mBin gMulT (mBin gAdd (mBin gIx (mVar 0) (mD (.int 1))) (mD (.int 1))) (mD (.int 39373))) mNil)) (mD (.int 1000000007))))
    (mSeq (mSet 6 (mBin (gInt (fun _ j => decide (0 < j)) fun i j => .int (i % j)) (mCB (g1 gInt1) (mCons (mBin gMulT (mBin (gInt (fun _ j => decide (0 < j)) fun i j => .int (i % j)) (mCB (g1 gInt1) (mCons (mBin gMulT (mVar 5) (mVar 5)) mNil)) (mD (.int 998244353))) (mD (.int 30011))) mNil)) (mD (.int 998244353))))
    (mRet (mBin (gInt (fun _ j => decide (0 < j)) fun i j => .int (i % j)) (mCB (g1 gInt1) (mCons (mBin (gInt cDiv fun i j => .int (i / j)) (mVar 6) (mD (.int 7))) mNil)) (mVar 1))))))
def m3 : MS := (mSeq (mAugIx (fun i j => i + j) (mVar 0) (mD (.int 2)) (mD (.int 1)))
    (mSeq (mIfS (mTst (mBin gGe (mVar 2) (mBin (gInt cPow fun i j => .int (i ^ j.toNat)) (mD (.int 10)) (mD (.int 18))))) (mSetIx (mVar 0) (mD (.int 0)) (mVar 2)) mNext)
    (mSeq (mSet 3 (mBin gAdd (mBin gAdd (mBin gMulT (mBin gIx (mVar 0) (mD (.int 1))) (mD (.int 48271))) (mBin (gInt (fun _ j => decide (0 < j)) fun i j => .int (i % j)) (mCB (g1 gInt1) (mCons (mVar 2) mNil)) (mD (.int 2147483647)))) (mBin gMulT (mD (.int 7919)) (mBin gIx (mVar 0) (mD (.int 2))))))
    (mSetIx (mVar 0) (mD (.int 1)) (mBin (gInt (fun _ j => decide (0 < j)) fun i j => .int (i % j)) (mCB (g1 gInt1) (mCons (mVar 3) mNil)) (mD (.int 2147483647)))))))
def m1 : MS := (mIfS (mTst (mBin gEqA (mBin gIx (mVar 0) (mD (.int 0))) (mD (.int 0)))) (mSeq (mSet 2 (mD (.int 0)))
    (mSeq (mIfS (mTst (mBin gLt (mBin gIx (mVar 0) (mD (.int 2))) (mCB (g1 gLen) (mCons (mBin gIx (mVar 0) (mD (.int 3))) mNil)))) (mSet 2 (mBin gIx (mBin gIx (mVar 0) (mD (.int 3))) (mBin gIx (mVar 0) (mD (.int 2))))) mNext)
    m3)) mNext)
def takeM : MF := mFn 2 7 (mSeq m1 m2)
theorem third {S : Store} {b : Nat} {m c t x : Int} {xs : List Int} (h : S[b]? = some (bagL 0 c t xs)) (c0 : 0 ≤ c) (c1 : c < 2147483647) (t0 : 0 ≤ t) (hx : 0 ≤ x) : OkS (m3 [some (.r b), some (.d (.int m)), some (.d (.int x)), none, none, none, none] S) fun f e S' => f = .nx ∧ ∃ o2 o3 a' c' t',
    e = [some (.r b), some (.d (.int m)), o2, o3, none, none, none] ∧ S'[b]? = some (bagL a' c' t' xs) ∧ 0 ≤ a' ∧ 0 ≤ c' ∧ c' < 2147483647 ∧ 0 ≤ t' ∧ (∀ n, n ≠ b → S'[n]? = S[n]?) ∧ S'.length = S.length := by
  refine wp_seq.mpr (wp_aug2 h rfl ?_)
  have h1 := at_set (l' := bagL 0 c (t + 1) xs) h
  have off1 : ∀ n, n ≠ b → (S.set b (bagL 0 c (t + 1) xs))[n]? = S[n]? := fun n hn => List.getElem?_set_ne fun z => hn z.symm
  have len1 : (S.set b (bagL 0 c (t + 1) xs)).length = S.length := List.length_set ..
  revert h1 off1 len1
  generalize S.set b (bagL 0 c (t + 1) xs) = S1
  intro h1 off1 len1
  have fin : ∀ (S2 : Store) (a : Int), S2[b]? = some (bagL a c (t + 1) xs) → 0 ≤ a → (∀ n, n ≠ b → S2[n]? = S[n]?) → S2.length = S.length → OkS ((mSeq (mSet 3 (mBin gAdd (mBin gAdd (mBin gMulT (mBin gIx (mVar 0) (mD (.int 1))) (mD (.int 48271))) (mBin (gInt (fun _ j => decide (0 < j)) fun i j => .int (i % j)) (mCB (g1 gInt1) (mCons (mVar 2) mNil)) (mD (.int 2147483647)))) (mBin gMulT (mD (.int 7919)) (mBin gIx (mVar 0) (mD (.int 2))))))
    (mSetIx (mVar 0) (mD (.int 1)) (mBin (gInt (fun _ j => decide (0 < j)) fun i j => .int (i % j)) (mCB (g1 gInt1) (mCons (mVar 3) mNil)) (mD (.int 2147483647))))) [some (.r b), some (.d (.int m)), some (.d (.int x)), none, none, none, none] S2) fun f e S' => f = .nx ∧ ∃ o2 o3 a' c' t',
    e = [some (.r b), some (.d (.int m)), o2, o3, none, none, none] ∧ S'[b]? = some (bagL a' c' t' xs) ∧ 0 ≤ a' ∧ 0 ≤ c' ∧ c' < 2147483647 ∧ 0 ≤ t' ∧ (∀ n, n ≠ b → S'[n]? = S[n]?) ∧ S'.length = S.length := by
    intro S2 a h2 a0 off2 len2
    have i1 : gIx S2 (.r b) (.d (.int 1)) = some (.d (.int c)) := v_ixR (k := 1) h2 rfl
    have i2 : gIx S2 (.r b) (.d (.int 2)) = some (.d (.int (t + 1))) := v_ixR (k := 2) h2 rfl
    have k1 : ∀ z : Int, cMul z 48271 = true := fun z => by simp [cMul]
    have k2 : ∀ z : Int, cMul 7919 z = true := fun z => by simp [cMul]
    have st : ∀ v : Int, setIx S2 (.r b) (.d (.int 1)) (.d (.int v)) = some (S2.set b (bagL a v (t + 1) xs)) := fun v => by
      simp [setIx, h2, bagL, ixN, isArg]
    (decreasing_with trivial)
    (decreasing_with assumption)
    simp only [i1, i2, fun z : Int => v_mulT (S := S2) (k1 z), fun z : Int => v_mulT (S := S2) (k2 z), show (0 : Int) < 2147483647 from by decide, decide_true, if_true, Option.some.injEq, exists_eq_left', v_addI, canSet_d, true_and, toBor_d, v_int1, v_int]
    (decreasing_with assumption)
    simp only [show (0 : Int) < 2147483647 from by decide, decide_true, if_true, Option.some.injEq, exists_eq_left', st]
    refine ⟨some (.d (.int x)), _, a, _, t + 1, rfl, at_set h2, a0, Int.emod_nonneg _ (by decide), Int.emod_lt_of_pos _ (by decide), by omega, fun n hn => ?_, ?_⟩
    · rw [List.getElem?_set_ne (fun z => hn z.symm)]
      exact off2 n hn
    · rw [List.length_set]
      exact len2
  refine wp_seq.mpr (wp_ifS.mpr ?_)
  (decreasing_with trivial)
  (decreasing_with assumption)
  simp only [show cPow 10 18 = true from by decide, if_true, Option.some.injEq, exists_eq_left', v_geI, W.d.injEq, D.bl.injEq]
  by_cases hb : (10 : Int) ^ (18 : Int).toNat ≤ x
  · have st : setIx S1 (.r b) (.d (.int 0)) (.d (.int x)) = some (S1.set b (bagL x c (t + 1) xs)) := by
      simp [setIx, h1, bagL, ixN, isArg]
    simp only [hb, decide_true, if_true, st, Option.some.injEq, exists_eq_left']
    have := fin (S1.set b (bagL x c (t + 1) xs)) x (at_set h1) hx (fun n hn => by rw [List.getElem?_set_ne (fun z => hn z.symm)]; exact off1 n hn) (by rw [List.length_set]; exact len1)
    revert this
    (decreasing_with trivial)
    (decreasing_with assumption)
    exact id
  · simp only [hb, decide_false, Bool.false_eq_true, if_false]
    have := fin S1 0 h1 (Int.le_refl _) off1 len1
    revert this
    (decreasing_with trivial)
    (decreasing_with assumption)
    exact id
theorem take_okG {S : Store} {b : Nat} {m : Int} (B : Bag S b) (hm : 0 < m) (hm2 : m < 1000000001) {P : W → Store → Prop}
    (q : ∀ v S', 0 ≤ v → v < m → Bag S' b → (∀ n, n ≠ b → S'[n]? = S[n]?) → S'.length = S.length → P (.d (.int v)) S') : OkE (takeM [.r b, .d (.int m)] S) P := by
  obtain ⟨a, c, t, xs, h, a0, c0, c1, t0, x0, xl⟩ := B
  have i0 : ∀ {S : Store} {a c t : Int} {xs : List Int}, S[b]? = some (bagL a c t xs) → gIx S (.r b) (.d (.int 0)) = some (.d (.int a)) := fun h => v_ixR (k := 0) h rfl
  have i1 : ∀ {S : Store} {a c t : Int} {xs : List Int}, S[b]? = some (bagL a c t xs) → gIx S (.r b) (.d (.int 1)) = some (.d (.int c)) := fun h => v_ixR (k := 1) h rfl
  have i2 : ∀ {S : Store} {a c t : Int} {xs : List Int}, S[b]? = some (bagL a c t xs) → gIx S (.r b) (.d (.int 2)) = some (.d (.int t)) := fun h => v_ixR (k := 2) h rfl
  have i3 : ∀ {S : Store} {a c t : Int} {xs : List Int}, S[b]? = some (bagL a c t xs) → gIx S (.r b) (.d (.int 3)) = some (.d (.lst (xs.map .int))) := fun h => v_ixR (k := 3) h rfl
  have second : ∀ (o2 o3 : Option W) (S' : Store) (a c t : Int), S'[b]? = some (bagL a c t xs) → 0 ≤ a → 0 ≤ c → c < 2147483647 → 0 ≤ t → (∀ n, n ≠ b → S'[n]? = S[n]?) → S'.length = S.length →
      OkS (m2 [some (.r b), some (.d (.int m)), o2, o3, none, none, none] S') fun f _ S' => match f with
        | .nx => P (.d .non) S'
        | .ret w => P (unBor w) S'
        | _ => False := by
    intro o2 o3 S' a c t h a0 c0 c1 t0 off ll
    have bl : b < S'.length := (List.getElem?_eq_some_iff.mp h).1
    unfold m2
    (decreasing_with trivial)
    (decreasing_with assumption)
    simp only [i0 h]
    (decreasing_with assumption)
    by_cases ha : 0 < a
    · have hd : cDiv a m = true := by
        unfold cDiv
        simp [hm]
        omega
      have hs : setIx S' (.r b) (.d (.int 0)) (.d (.int (a / m))) = some (S'.set b (bagL (a / m) c t xs)) := by
        simp [setIx, h, bagL, ixN, isArg]
      simp only [decide_eq_true ha, decide_eq_true hm, if_true, hd]
      (decreasing_with assumption)
      simp only [hs]
      (decreasing_with assumption)
      refine q _ _ (Int.emod_nonneg _ (by omega)) (Int.emod_lt_of_pos _ hm) ⟨a / m, c, t, xs, at_set h, Int.ediv_nonneg a0 (by omega), c0, c1, t0, x0, xl⟩ (fun n hn => ?_) ?_
      · rw [List.getElem?_set_ne (fun z => hn z.symm)]
        exact off n hn
      · rw [List.length_set]
        exact ll
    · simp only [decide_eq_false ha, Bool.false_eq_true, if_false, i1 h]
      (decreasing_with assumption)
      have k1 : cMul (c + 1) 39373 = true := by
        simp [cMul]
      have g0 := Int.emod_nonneg ((c + 1) * 39373) (show (1000000007 : Int) ≠ 0 by decide)
      have g1' := Int.emod_lt_of_pos ((c + 1) * 39373) (show (0 : Int) < 1000000007 by decide)
      have k2 : cMul ((c + 1) * 39373 % 1000000007) ((c + 1) * 39373 % 1000000007) = true := by
        simp only [cMul, Bool.or_eq_true, Bool.and_eq_true, decide_eq_true_eq]
        left
        omega
      have k3 : ∀ z : Int, cMul z 30011 = true := fun z => by simp [cMul]
      simp only [v_mulT k1]
      (decreasing_with assumption)
      simp only [show (0 : Int) < 1000000007 from by decide, show (0 : Int) < 998244353 from by decide, decide_true, if_true]
      (decreasing_with assumption)
      simp only [v_mulT k2]
      (decreasing_with assumption)
      simp only [show (0 : Int) < 998244353 from by decide, decide_true, if_true, fun z : Int => v_mulT (S := S') (k3 z), Option.some.injEq, exists_eq_left', v_int1, v_int, canSet_d, true_and, toBor_d]
      (decreasing_with assumption)
      have k4 : ∀ z : Int, cDiv z 7 = true := fun z => by simp [cDiv]
      simp only [k4, hm, decide_true, if_true]
      (decreasing_with assumption)
      simp only [hm, decide_true, if_true]
      (decreasing_with assumption)
      exact q _ _ (Int.emod_nonneg _ (by omega)) (Int.emod_lt_of_pos _ hm) ⟨a, c, t, xs, h, a0, c0, c1, t0, x0, xl⟩ off ll
  have bl : b < S.length := (List.getElem?_eq_some_iff.mp h).1
  show OkE (mFn 2 7 (mSeq m1 m2) _ S) P
  refine wp_fn.mpr ⟨⟨rfl, rfl⟩, wp_seq.mpr ?_⟩
  unfold m1
  refine wp_ifS.mpr ?_
  (decreasing_with trivial)
  (decreasing_with assumption)
  simp only [i0 h]
  (decreasing_with assumption)
  by_cases ha : a = 0
  · subst ha
    simp only [decide_true, if_true, i2 h, i3 h, Option.some.injEq, exists_eq_left', v_lenL, v_ltI, W.d.injEq, D.bl.injEq, List.length_map]
    have go : ∀ x : Int, 0 ≤ x → OkS (m3 [some (.r b), some (.d (.int m)), some (.d (.int x)), none, none, none, none] S) (fun f e S' => match f with
        | .nx => OkS (m2 e S') (fun f _ S' => match f with
          | .nx => P (.d .non) S'
          | .ret w => P (unBor w) S'
          | _ => False)
        | f => match f with
          | .nx => P (.d .non) S'
          | .ret w => P (unBor w) S'
          | _ => False) := fun x hx => (third h c0 c1 t0 hx).mono fun f e S' ⟨q1, o2, o3, a', c', t', q2, q3, q4, q5, q6, q7, q8, q9⟩ => by
      subst q1 q2
      exact second o2 o3 S' a' c' t' q3 q4 q5 q6 q7 q8 q9
    by_cases ht : t < (xs.length : Int)
    · have e : xs[t.toNat]? = some xs[t.toNat] := List.getElem?_eq_getElem (by omega)
      have g : gIx S (.d (.lst (xs.map .int))) (.d (.int t)) = some (.d (.int xs[t.toNat])) := by
        have := v_ixL (S := S) (ds := xs.map .int) (d := .int xs[t.toNat]) (k := t.toNat) (by rw [List.getElem?_map, e]; rfl)
        rw [Int.toNat_of_nonneg t0] at this
        exact this
      simp only [ht, decide_true, if_true, g, Option.some.injEq, exists_eq_left', canSet_d, true_and]
      exact go _ (x0 _ (List.getElem_mem _))
    · simp only [ht, decide_false, Bool.false_eq_true, if_false]
      exact go 0 (Int.le_refl _)
  · simp only [decide_eq_false ha, Bool.false_eq_true, if_false]
    exact second none none S a c t h a0 c0 c1 t0 (fun _ _ => rfl) rfl
structure Fr (b : Nat) (S S' : Store) : Prop where
  bag : Bag S' b
  off : ∀ n, n ≠ b → S'[n]? = S[n]?
  len : S'.length = S.length
theorem Fr.refl {b : Nat} {S : Store} (h : Bag S b) : Fr b S S := ⟨h, fun _ _ => rfl, rfl⟩
end Kb
local macro_rules | `(tactic| decreasing_with assumption) => `(tactic| (try simp only [Zf.v_int, Zf.v_addI, Zf.v_ltI, Zf.v_leI, Zf.v_gtI, Zf.v_geI, Kb.v_eqAI, Kb.v_eqAS, Zf.v_eqI, Zf.v_neI, Zf.v_eqS, Zf.v_neS, Zf.v_int1, Zf.v_int1b, Zf.v_abs, Zf.v_lenL, Zf.v_lenT, Zf.v_lenB, Zf.v_listL, Zf.v_listT, Zf.toBor_d, Zf.toBor_r, Zf.toBor_own, Zf.unBor_d, Zf.unBor_r, Zf.unBor_bor, Zf.unBor_own, Zf.isArg_d, Zf.isArg_r, Zf.canSet_d, Zf.canSet_r, Zf.canSet_own, Option.some.injEq, exists_eq_left', exists_eq_left, List.getElem?_cons_zero, List.getElem?_cons_succ, List.length_cons, List.length_nil, List.map_cons, List.map_nil, List.all_cons, List.all_nil, Bool.and_true, and_self, true_and, List.cons_append, List.nil_append, List.replicate, Nat.reduceSub, Nat.reduceLT, Nat.reduceAdd, List.set_cons_zero, List.set_cons_succ, Zf.W.d.injEq, Zf.D.bl.injEq, Zf.D.int.injEq, Zf.D.str.injEq]))
set_option maxHeartbeats 1000000
namespace Kb
open PySem PySem.Spec PyProof.Rows L2 Zf
mutual
def pyD : D → PyData
  | .bl b => .bool b
  | .int i => .int i
  | .str x => .str x
  | .lst xs => .list (pyDs xs)
  | .tup xs => .tuple (pyDs xs)
  | _ => .none
def pyDs : List D → List PyData
  | [] => []
  | x :: r => pyD x :: pyDs r
end
mutual
def plD : D → Bool
  | .non => true
  | .bl _ => true
  | .int i => decide (-999999999999 ≤ i) && decide (i ≤ 999999999999)
  | .str x => PyData.strOk x
  | .lst xs => plDs xs
  | .tup xs => plDs xs
  | _ => false
def plDs : List D → Bool
  | [] => true
  | x :: r => plD x && plDs r
end
mutual
def szD : D → Nat
  | .int _ => 13
  | .str x => 10 * x.length + 2
  | .lst xs => szDs xs + 4
  | .tup xs => szDs xs + 4
  | _ => 5
def szDs : List D → Nat
  | [] => 0
  | x :: r => szD x + 2 + szDs r
end
mutual
def dpD : D → Nat
  | .lst xs => dpDs xs + 1
  | .tup xs => dpDs xs + 1
  | _ => 0
def dpDs : List D → Nat
  | [] => 0
  | x :: r => max (dpD x) (dpDs r)
end
mutual
theorem dpy_pl : ∀ d : D, plD d = true → dpy d = some (pyD d)
  | .non, _ => rfl
  | .bl _, _ => rfl
  | .int _, _ => rfl
  | .str _, _ => rfl
  | .lst xs, h => by
    unfold dpy
    rw [dpys_pl xs h]
    rfl
  | .tup xs, h => by
    unfold dpy
    rw [dpys_pl xs h]
    rfl
  | .ro _, h => by cases h
  | .dct _, h => by cases h
  | .st _, h => by cases h
  | .dtp _, h => by cases h
  | .ins _ _, h => by cases h
theorem dpys_pl : ∀ ds : List D, plDs ds = true → dpys ds = some (pyDs ds)
  | [], _ => rfl
  | x :: r, h => by
    have h' : plD x = true ∧ plDs r = true := by
      rw [← Bool.and_eq_true]
      exact h
    unfold dpys
    rw [dpy_pl x h'.1, dpys_pl r h'.2]
    rfl
end
mutual
theorem lay_pl : ∀ d : D, plD d = true → (pyD d).canLay0 = true
  | .non, _ => rfl
  | .bl _, _ => rfl
  | .int _, _ => rfl
  | .str _, h => h
  | .lst xs, h => lays_pl xs h
  | .tup xs, h => lays_pl xs h
  | .ro _, h => by cases h
  | .dct _, h => by cases h
  | .st _, h => by cases h
  | .dtp _, h => by cases h
  | .ins _ _, h => by cases h
theorem lays_pl : ∀ ds : List D, plDs ds = true → PyData.canLayAll0 (pyDs ds) = true
  | [], _ => rfl
  | x :: r, h => by
    have h' : plD x = true ∧ plDs r = true := by
      rw [← Bool.and_eq_true]
      exact h
    show ((pyD x).canLay0 && PyData.canLayAll0 (pyDs r)) = true
    rw [lay_pl x h'.1, lays_pl r h'.2]
    rfl
end
theorem log_small {i : Int} (h1 : -999999999999 ≤ i) (h2 : i ≤ 999999999999) : i.natAbs.log2 < 1920 := by
  by_cases h : i.natAbs = 0
  · rw [h]
    decide
  · have h3 : i.natAbs < 2 ^ 40 := by omega
    have h4 := (Nat.log2_lt h).mpr h3
    omega
mutual
theorem depth_pl : ∀ d : D, (pyD d).depth = dpD d
  | .non => rfl
  | .bl _ => rfl
  | .int _ => rfl
  | .str _ => rfl
  | .lst xs => by
    show PyData.depthAll (pyDs xs) + 1 = dpDs xs + 1
    rw [depths_pl xs]
  | .tup xs => by
    show PyData.depthAll (pyDs xs) + 1 = dpDs xs + 1
    rw [depths_pl xs]
  | .ro _ => rfl
  | .dct _ => rfl
  | .st _ => rfl
  | .dtp _ => rfl
  | .ins _ _ => rfl
theorem depths_pl : ∀ ds : List D, PyData.depthAll (pyDs ds) = dpDs ds
  | [] => rfl
  | x :: r => by
    show max (pyD x).depth (PyData.depthAll (pyDs r)) = max (dpD x) (dpDs r)
    rw [depth_pl x, depths_pl r]
end
mutual
theorem eqv_pl : ∀ d : D, plD d = true → PyData.eqv (pyD d) (pyD d) = true
  | .non, _ => by simp [pyD, PyData.eqv]
  | .bl _, _ => by simp [pyD, PyData.eqv]
  | .int _, _ => by simp [pyD, PyData.eqv]
  | .str _, _ => by simp [pyD, PyData.eqv]
  | .lst xs, h => by
    rw [pyD, PyData.eqv]
    exact eqvs_pl xs h
  | .tup xs, h => by
    rw [pyD, PyData.eqv]
    exact eqvs_pl xs h
  | .ro _, h => by cases h
  | .dct _, h => by cases h
  | .st _, h => by cases h
  | .dtp _, h => by cases h
  | .ins _ _, h => by cases h
theorem eqvs_pl : ∀ ds : List D, plDs ds = true → PyData.eqvAll (pyDs ds) (pyDs ds) = true
  | [], _ => by simp [pyDs, PyData.eqvAll]
  | x :: r, h => by
    have h' : plD x = true ∧ plDs r = true := by
      rw [← Bool.and_eq_true]
      exact h
    rw [pyDs, PyData.eqvAll, eqv_pl x h'.1, eqvs_pl r h'.2]
    rfl
end
theorem strOk_all {x : Str} (h : PyData.strOk x = true) : ∀ c ∈ x.cps.toList, c < 16 ^ 8 := fun c hc => by
  have h1 : x.cps.all (fun c => decide (c < 0x110000)) = true := h
  rw [← Array.all_toList, List.all_eq_true] at h1
  have := of_decide_eq_true (h1 c hc)
  omega
theorem shaped_pl {d : D} (h1 : plD d = true) (h2 : dpD d ≤ 64) : SeqAt.shaped (pyD d) = true := by
  unfold SeqAt.shaped
  rw [lay_pl d h1, depth_pl, decide_eq_true h2]
  rfl
theorem okI_eq {m : Option (List D × Store)} {w : List D} {S : Store} {P : List D → Store → Prop} (e : m = some (w, S)) (h : P w S) : OkI m P := ⟨_, e, h⟩
theorem eqE {m : Option (W × Store)} {w : W} {S : Store} (h : OkE m fun v T => v = w ∧ T = S) : m = some (w, S) := by
  obtain ⟨⟨a, b⟩, e, h1, h2⟩ := h
  cases h1
  cases h2
  exact e
theorem eqI {m : Option (List D × Store)} {w : List D} {S : Store} (h : OkI m fun v T => v = w ∧ T = S) : m = some (w, S) := by
  obtain ⟨⟨a, b⟩, e, h1, h2⟩ := h
  cases h1
  cases h2
  exact e
def notRo : D → Bool
  | .ro _ => false
  | _ => true
def Sh (sz dp : Nat) (d : D) : Prop := notRo d = true ∧ ∃ p, spy d = some p ∧ p.showable = true ∧ p.depth ≤ dp ∧ p.shown.length ≤ sz
theorem Sh.non : Sh 4 0 .non := ⟨rfl, .none, rfl, rfl, Nat.le_refl _, by rw [PyData.shown_none]; decide⟩
theorem Sh.bl (b : Bool) : Sh 5 0 (.bl b) := ⟨rfl, .bool b, rfl, rfl, Nat.le_refl _, by rw [PyData.shown_bool]; cases b <;> decide⟩
theorem Sh.int {i : Int} (h1 : -999999999999 ≤ i) (h2 : i ≤ 999999999999) : Sh 13 0 (.int i) := ⟨rfl, .int i, rfl, decide_eq_true (log_small h1 h2), Nat.le_refl _, PyData.shown_int_le2 h1 h2⟩
theorem Sh.str {x : Str} {k : Nat} (h : x.length ≤ k) (h2 : PyData.strOk x = true) : Sh (10 * k + 2) 0 (.str x) := ⟨rfl, .str x, rfl, rfl, Nat.le_refl _, by
  rw [PyData.shown_str]
  have := StrLaws.reprText_len x (strOk_all h2)
  omega⟩
theorem Sh.all {sz dp : Nat} : ∀ {xs : List D}, (∀ y ∈ xs, Sh sz dp y) → ∃ ps, spys xs = some ps ∧ PyData.showableAll ps = true ∧ PyData.depthAll ps ≤ dp ∧ ((PyData.shownAll ps).map (·.length)).sum + 2 * ps.length ≤ xs.length * (sz + 2)
  | [], _ => ⟨[], rfl, rfl, Nat.zero_le _, by rw [PyData.shownAll_nil]; simp⟩
  | x :: r, h => by
    obtain ⟨z, p, a, b, c, e⟩ := h x List.mem_cons_self
    obtain ⟨ps, a2, b2, c2, e2⟩ := Sh.all fun y hy => h y (List.mem_cons_of_mem _ hy)
    refine ⟨p :: ps, ?_, ?_, ?_, ?_⟩
    · unfold spys
      rw [a, a2]
      rfl
    · show (p.showable && PyData.showableAll ps) = true
      rw [b, b2]
      rfl
    · show max p.depth (PyData.depthAll ps) ≤ dp
      omega
    · rw [PyData.shownAll_cons, List.map_cons, List.sum_cons, List.length_cons, List.length_cons, Nat.add_mul]
      omega
theorem Sh.lst {sz dp : Nat} {xs : List D} (h : ∀ y ∈ xs, Sh sz dp y) : Sh (xs.length * (sz + 2) + 4) (dp + 1) (.lst xs) := by
  obtain ⟨ps, a, b, c, e⟩ := Sh.all h
  refine ⟨rfl, .list ps, ?_, b, ?_, ?_⟩
  · unfold spy
    rw [a]
    rfl
  · show PyData.depthAll ps + 1 ≤ dp + 1
    omega
  · have h1 := PySem.listText_len_le (PyData.shownAll ps)
    have e2 : (PyData.list ps).shown = listText (PyData.shownAll ps) := by simp only [PyData.shown]
    rw [e2]
    rw [PyData.shownAll_length] at h1
    omega
theorem Sh.tup {sz dp : Nat} {xs : List D} (h : ∀ y ∈ xs, Sh sz dp y) : Sh (xs.length * (sz + 2) + 4) (dp + 1) (.tup xs) := by
  obtain ⟨ps, a, b, c, e⟩ := Sh.all h
  refine ⟨rfl, .tuple ps, ?_, b, ?_, ?_⟩
  · unfold spy
    rw [a]
    rfl
  · show PyData.depthAll ps + 1 ≤ dp + 1
    omega
  · have h1 := PySem.tupleText_len_le (PyData.shownAll ps)
    have e2 : (PyData.tuple ps).shown = tupleText (PyData.shownAll ps) := by simp only [PyData.shown]
    rw [e2]
    rw [PyData.shownAll_length] at h1
    omega
theorem eqPl {S : Store} {d : D} (h1 : plD d = true) (h2 : dpD d ≤ 64) (hs : gEqS false S (.d d) (.d d) = none) : gEqA S (.d d) (.d d) = some (.d (.bl true)) := by
  have e1 : wpy S (.d d) = some (pyD d) := dpy_pl d h1
  refine gEqA_of ?_
  show (gEqS false S (.d d) (.d d)).or _ = _
  rw [hs]
  show gEqP false S (.d d) (.d d) = _
  unfold gEqP
  rw [e1]
  refine (if_pos ⟨shaped_pl h1 h2, shaped_pl h1 h2⟩).trans ?_
  rw [eqv_pl d h1]
  rfl
def isiV (n : Nat) (S : Store) (T : String) : W → Option Bool
  | .d (.ins c _) => if c < n then some false else none
  | w => (tyD S w).map fun t => isTy t T
theorem isi_bool_non {n : Nat} {S : Store}  : isiV n S "bool" (.d D.non) = some false := rfl
theorem isi_bool_bl {n : Nat} {S : Store} {b : Bool} : isiV n S "bool" (.d (D.bl b)) = some true := rfl
theorem isi_bool_int {n : Nat} {S : Store} {i : Int} : isiV n S "bool" (.d (D.int i)) = some false := rfl
theorem isi_bool_str {n : Nat} {S : Store} {x : Str} : isiV n S "bool" (.d (D.str x)) = some false := rfl
theorem isi_bool_lst {n : Nat} {S : Store} {xs : List D} : isiV n S "bool" (.d (D.lst xs)) = some false := rfl
theorem isi_bool_tup {n : Nat} {S : Store} {xs : List D} : isiV n S "bool" (.d (D.tup xs)) = some false := rfl
theorem isi_bool_dct {n : Nat} {S : Store} {kvs : List (Key × D)} : isiV n S "bool" (.d (D.dct kvs)) = some false := rfl
theorem ask_bool : asked.contains "bool" = true := by decide
theorem isi_int_non {n : Nat} {S : Store}  : isiV n S "int" (.d D.non) = some false := rfl
theorem isi_int_bl {n : Nat} {S : Store} {b : Bool} : isiV n S "int" (.d (D.bl b)) = some true := rfl
theorem isi_int_int {n : Nat} {S : Store} {i : Int} : isiV n S "int" (.d (D.int i)) = some true := rfl
theorem isi_int_str {n : Nat} {S : Store} {x : Str} : isiV n S "int" (.d (D.str x)) = some false := rfl
theorem isi_int_lst {n : Nat} {S : Store} {xs : List D} : isiV n S "int" (.d (D.lst xs)) = some false := rfl
theorem isi_int_tup {n : Nat} {S : Store} {xs : List D} : isiV n S "int" (.d (D.tup xs)) = some false := rfl
theorem isi_int_dct {n : Nat} {S : Store} {kvs : List (Key × D)} : isiV n S "int" (.d (D.dct kvs)) = some false := rfl
theorem ask_int : asked.contains "int" = true := by decide
theorem isi_str_non {n : Nat} {S : Store}  : isiV n S "str" (.d D.non) = some false := rfl
theorem isi_str_bl {n : Nat} {S : Store} {b : Bool} : isiV n S "str" (.d (D.bl b)) = some false := rfl
theorem isi_str_int {n : Nat} {S : Store} {i : Int} : isiV n S "str" (.d (D.int i)) = some false := rfl
theorem isi_str_str {n : Nat} {S : Store} {x : Str} : isiV n S "str" (.d (D.str x)) = some true := rfl
theorem isi_str_lst {n : Nat} {S : Store} {xs : List D} : isiV n S "str" (.d (D.lst xs)) = some false := rfl
theorem isi_str_tup {n : Nat} {S : Store} {xs : List D} : isiV n S "str" (.d (D.tup xs)) = some false := rfl
theorem isi_str_dct {n : Nat} {S : Store} {kvs : List (Key × D)} : isiV n S "str" (.d (D.dct kvs)) = some false := rfl
theorem ask_str : asked.contains "str" = true := by decide
theorem isi_list_non {n : Nat} {S : Store}  : isiV n S "list" (.d D.non) = some false := rfl
theorem isi_list_bl {n : Nat} {S : Store} {b : Bool} : isiV n S "list" (.d (D.bl b)) = some false := rfl
theorem isi_list_int {n : Nat} {S : Store} {i : Int} : isiV n S "list" (.d (D.int i)) = some false := rfl
theorem isi_list_str {n : Nat} {S : Store} {x : Str} : isiV n S "list" (.d (D.str x)) = some false := rfl
theorem isi_list_lst {n : Nat} {S : Store} {xs : List D} : isiV n S "list" (.d (D.lst xs)) = some true := rfl
theorem isi_list_tup {n : Nat} {S : Store} {xs : List D} : isiV n S "list" (.d (D.tup xs)) = some false := rfl
theorem isi_list_dct {n : Nat} {S : Store} {kvs : List (Key × D)} : isiV n S "list" (.d (D.dct kvs)) = some false := rfl
theorem ask_list : asked.contains "list" = true := by decide
theorem isi_tuple_non {n : Nat} {S : Store}  : isiV n S "tuple" (.d D.non) = some false := rfl
theorem isi_tuple_bl {n : Nat} {S : Store} {b : Bool} : isiV n S "tuple" (.d (D.bl b)) = some false := rfl
theorem isi_tuple_int {n : Nat} {S : Store} {i : Int} : isiV n S "tuple" (.d (D.int i)) = some false := rfl
theorem isi_tuple_str {n : Nat} {S : Store} {x : Str} : isiV n S "tuple" (.d (D.str x)) = some false := rfl
theorem isi_tuple_lst {n : Nat} {S : Store} {xs : List D} : isiV n S "tuple" (.d (D.lst xs)) = some false := rfl
theorem isi_tuple_tup {n : Nat} {S : Store} {xs : List D} : isiV n S "tuple" (.d (D.tup xs)) = some true := rfl
theorem isi_tuple_dct {n : Nat} {S : Store} {kvs : List (Key × D)} : isiV n S "tuple" (.d (D.dct kvs)) = some false := rfl
theorem ask_tuple : asked.contains "tuple" = true := by decide
theorem isi_dict_non {n : Nat} {S : Store}  : isiV n S "dict" (.d D.non) = some false := rfl
theorem isi_dict_bl {n : Nat} {S : Store} {b : Bool} : isiV n S "dict" (.d (D.bl b)) = some false := rfl
theorem isi_dict_int {n : Nat} {S : Store} {i : Int} : isiV n S "dict" (.d (D.int i)) = some false := rfl
theorem isi_dict_str {n : Nat} {S : Store} {x : Str} : isiV n S "dict" (.d (D.str x)) = some false := rfl
theorem isi_dict_lst {n : Nat} {S : Store} {xs : List D} : isiV n S "dict" (.d (D.lst xs)) = some false := rfl
theorem isi_dict_tup {n : Nat} {S : Store} {xs : List D} : isiV n S "dict" (.d (D.tup xs)) = some false := rfl
theorem isi_dict_dct {n : Nat} {S : Store} {kvs : List (Key × D)} : isiV n S "dict" (.d (D.dct kvs)) = some true := rfl
theorem ask_dict : asked.contains "dict" = true := by decide
section
variable {env : En} {S : Store} {P : W → Store → Prop} {PT : Bool → Store → Prop} {PA : List W → Store → Prop} {PI : List D → Store → Prop} {PS : Fl → En → Store → Prop} {ma mb mc : ME} {t u : MT} {ms : MA} {a b : MS} {g g' : Op2} {i n : Nat} {d : D}
theorem isiC_eq {T : String} : mIsiC n T ma env S = (ma env S).bind fun p => if asked.contains T = true then (isiV n p.2 T p.1).map fun k => (.d (.bl k), p.2) else none := by
  unfold mIsiC
  congr 1
  funext p
  obtain ⟨w, S'⟩ := p
  split
  · cases w with
    | d x => cases x with
      | ins c fs =>
        show (if c < n then some (W.d (.bl false), S') else none) = (if c < n then some false else none : Option Bool).map _
        split <;> rfl
      | _ => rfl
    | r k =>
      show (tyD S' (.r k)).map _ = ((tyD S' (.r k)).map _).map _
      rw [Option.map_map]
      rfl
    | _ => rfl
  · rfl
theorem isi2C_eq {T T' : String} : mIsi2C n T T' ma env S = (ma env S).bind fun p => if asked.contains T = true ∧ asked.contains T' = true then (isiV n p.2 T p.1).bind fun k => (isiV n p.2 T' p.1).map fun k' => (.d (.bl (k || k')), p.2) else none := by
  unfold mIsi2C
  congr 1
  funext p
  obtain ⟨w, S'⟩ := p
  split
  · cases w with
    | d x => cases x with
      | ins c fs =>
        show (if c < n then some (W.d (.bl false), S') else none) = (if c < n then some false else none : Option Bool).bind fun k => (if c < n then some false else none : Option Bool).map _
        by_cases h : c < n
        · rw [if_pos h, if_pos h]; rfl
        · rw [if_neg h, if_neg h]; rfl
      | _ => rfl
    | r k =>
      show (tyD S' (.r k)).map _ = ((tyD S' (.r k)).map _).bind fun k' => ((tyD S' (.r k)).map _).map _
      cases tyD S' (.r k) <;> rfl
    | _ => rfl
  · rfl
theorem wp_isiC {T : String} : OkE (mIsiC n T ma env S) P ↔ OkE (ma env S) fun w S' => asked.contains T = true ∧ ∃ k, isiV n S' T w = some k ∧ P (.d (.bl k)) S' := by
  rw [isiC_eq]
  unfold OkE
  constructor
  · rintro ⟨r, e, h⟩
    obtain ⟨p, e1, e⟩ := Option.bind_eq_some_iff.mp e
    split at e
    · rename_i hT
      obtain ⟨k, e2, e3⟩ := Option.map_eq_some_iff.mp e
      cases e3
      exact ⟨p, e1, hT, k, e2, h⟩
    · cases e
  · rintro ⟨p, e1, hT, k, e2, h⟩
    exact ⟨_, by rw [e1]; simp only [Option.bind_some]; rw [if_pos hT, e2]; rfl, h⟩
theorem wp_isi2C {T T' : String} : OkE (mIsi2C n T T' ma env S) P ↔ OkE (ma env S) fun w S' => (asked.contains T = true ∧ asked.contains T' = true) ∧ ∃ k, isiV n S' T w = some k ∧ ∃ k', isiV n S' T' w = some k' ∧ P (.d (.bl (k || k'))) S' := by
  rw [isi2C_eq]
  unfold OkE
  constructor
  · rintro ⟨r, e, h⟩
    obtain ⟨p, e1, e⟩ := Option.bind_eq_some_iff.mp e
    split at e
    · rename_i hT
      obtain ⟨k, e2, e⟩ := Option.bind_eq_some_iff.mp e
      obtain ⟨k', e3, e4⟩ := Option.map_eq_some_iff.mp e
      cases e4
      exact ⟨p, e1, hT, k, e2, k', e3, h⟩
    · cases e
  · rintro ⟨p, e1, hT, k, e2, k', e3, h⟩
    exact ⟨_, by rw [e1]; simp only [Option.bind_some]; rw [if_pos hT, e2]; simp only [Option.bind_some]; rw [e3]; rfl, h⟩
theorem wp_chain : OkE (mChain g g' ma mb mc env S) P ↔ OkE (ma env S) fun x S1 => OkE (mb env S1) fun y S2 => ∃ z, g S2 x y = some (.d (.bl z)) ∧ if z = true then OkE (mc env S2) fun u S3 => ∃ v, g' S3 y u = some v ∧ P v S3 else P (.d (.bl false)) S2 := by
  unfold mChain OkE
  constructor
  · rintro ⟨r, e, h⟩
    obtain ⟨p, e1, e⟩ := Option.bind_eq_some_iff.mp e
    obtain ⟨q, e2, e⟩ := Option.bind_eq_some_iff.mp e
    obtain ⟨z, e3, e⟩ := Option.bind_eq_some_iff.mp e
    refine ⟨p, e1, q, e2, ?_⟩
    split at e
    · obtain ⟨s, e4, e5⟩ := Option.bind_eq_some_iff.mp e
      obtain ⟨v, e6, e7⟩ := Option.map_eq_some_iff.mp e5
      cases e7
      exact ⟨true, e3, by rw [if_pos rfl]; exact ⟨s, e4, v, e6, h⟩⟩
    · cases e
      exact ⟨false, e3, by rw [if_neg Bool.false_ne_true]; exact h⟩
    · cases e
  · rintro ⟨p, e1, q, e2, z, e3, h⟩
    cases z with
    | true =>
      rw [if_pos rfl] at h
      obtain ⟨s, e4, v, e5, h⟩ := h
      exact ⟨(v, s.2), by rw [e1]; simp only [Option.bind_some]; rw [e2]; simp only [Option.bind_some]; rw [e3]; simp only [Option.bind_some]; rw [e4]; simp only [Option.bind_some]; rw [e5]; rfl, h⟩
    | false =>
      rw [if_neg Bool.false_ne_true] at h
      exact ⟨_, by rw [e1]; simp only [Option.bind_some]; rw [e2]; simp only [Option.bind_some]; rw [e3]; rfl, h⟩
def seqW : W → Option (List D)
  | .d (.lst xs) => some xs
  | .d (.tup xs) => some xs
  | _ => none
def seqWS : W → Option (List D)
  | .d (.lst xs) => some xs
  | .d (.tup xs) => some xs
  | .d (.str x) => some (Zf.signs x)
  | _ => none
theorem seqW_l {xs : List D} : seqW (.d (.lst xs)) = some xs := rfl
theorem seqW_t {xs : List D} : seqW (.d (.tup xs)) = some xs := rfl
theorem seqWS_l {xs : List D} : seqWS (.d (.lst xs)) = some xs := rfl
theorem seqWS_t {xs : List D} : seqWS (.d (.tup xs)) = some xs := rfl
theorem seqWS_s {x : Str} : seqWS (.d (.str x)) = some (Zf.signs x) := rfl
theorem iseq_eq : mISeq ma env S = (ma env S).bind fun p => (seqW p.1).map fun xs => (xs, p.2) := by
  unfold mISeq
  congr 1
  funext p
  obtain ⟨w, S'⟩ := p
  cases w with
  | d x => cases x <;> rfl
  | _ => rfl
theorem iseqS_eq : mISeqS ma env S = (ma env S).bind fun p => (seqWS p.1).map fun xs => (xs, p.2) := by
  unfold mISeqS mISeq mIStr
  cases h : ma env S with
  | none => rfl
  | some p =>
    obtain ⟨w, S'⟩ := p
    cases w with
    | d x => cases x <;> rfl
    | _ => rfl
theorem wp_iseq : OkI (mISeq ma env S) PI ↔ OkE (ma env S) fun w S' => ∃ xs, seqW w = some xs ∧ PI xs S' := by
  rw [iseq_eq]
  unfold OkI OkE
  constructor
  · rintro ⟨r, e, hh⟩
    obtain ⟨p, e1, e⟩ := Option.bind_eq_some_iff.mp e
    obtain ⟨xs, e2, e3⟩ := Option.map_eq_some_iff.mp e
    cases e3
    exact ⟨p, e1, xs, e2, hh⟩
  · rintro ⟨p, e1, xs, e2, hh⟩
    exact ⟨(xs, p.2), by rw [e1]; simp only [Option.bind_some]; rw [e2]; rfl, hh⟩
theorem wp_iseqS : OkI (mISeqS ma env S) PI ↔ OkE (ma env S) fun w S' => ∃ xs, seqWS w = some xs ∧ PI xs S' := by
  rw [iseqS_eq]
  unfold OkI OkE
  constructor
  · rintro ⟨r, e, hh⟩
    obtain ⟨p, e1, e⟩ := Option.bind_eq_some_iff.mp e
    obtain ⟨xs, e2, e3⟩ := Option.map_eq_some_iff.mp e
    cases e3
    exact ⟨p, e1, xs, e2, hh⟩
  · rintro ⟨p, e1, xs, e2, hh⟩
    exact ⟨(xs, p.2), by rw [e1]; simp only [Option.bind_some]; rw [e2]; rfl, hh⟩
def blW : W → Option Bool
  | .d (.bl k) => some k
  | _ => none
theorem blW_bl {k : Bool} : blW (.d (.bl k)) = some k := rfl
theorem andV_eq : mAndV ma mb env S = (ma env S).bind fun p => (blW p.1).bind fun k => if k = true then (mb env p.2).bind fun q => (blW q.1).map fun c => (.d (.bl c), q.2) else some (.d (.bl false), p.2) := by
  unfold mAndV
  cases h : ma env S with
  | none => rfl
  | some p =>
    obtain ⟨w, S'⟩ := p
    simp only [Option.bind_some]
    have k2 : ∀ q : Option (W × Store), (q.bind fun q => match q.1 with | .d (.bl c) => some (W.d (.bl c), q.2) | _ => none) = q.bind fun q => (blW q.1).map fun c => (W.d (.bl c), q.2) := by
      intro q
      cases q with
      | none => rfl
      | some q =>
        obtain ⟨w', S2⟩ := q
        cases w' with
        | d x => cases x <;> rfl
        | _ => rfl
    cases w with
    | d x =>
      cases x with
      | bl k =>
        cases k with
        | true => exact k2 _
        | false => rfl
      | _ => rfl
    | _ => rfl
theorem orV_eq : mOrV ma mb env S = (ma env S).bind fun p => (blW p.1).bind fun k => if k = true then some (.d (.bl true), p.2) else (mb env p.2).bind fun q => (blW q.1).map fun c => (.d (.bl c), q.2) := by
  unfold mOrV
  cases h : ma env S with
  | none => rfl
  | some p =>
    obtain ⟨w, S'⟩ := p
    simp only [Option.bind_some]
    have k2 : ∀ q : Option (W × Store), (q.bind fun q => match q.1 with | .d (.bl c) => some (W.d (.bl c), q.2) | _ => none) = q.bind fun q => (blW q.1).map fun c => (W.d (.bl c), q.2) := by
      intro q
      cases q with
      | none => rfl
      | some q =>
        obtain ⟨w', S2⟩ := q
        cases w' with
        | d x => cases x <;> rfl
        | _ => rfl
    cases w with
    | d x =>
      cases x with
      | bl k =>
        cases k with
        | true => rfl
        | false => exact k2 _
      | _ => rfl
    | _ => rfl
theorem notV_eq : mNotV ma env S = (ma env S).bind fun p => (blW p.1).map fun k => (.d (.bl (!k)), p.2) := by
  unfold mNotV
  cases h : ma env S with
  | none => rfl
  | some p =>
    obtain ⟨w, S'⟩ := p
    cases w with
    | d x => cases x <;> rfl
    | _ => rfl
theorem wp_andB : OkE (mAndV ma mb env S) P ↔ OkE (ma env S) fun w S1 => ∃ k, blW w = some k ∧ if k = true then OkE (mb env S1) (fun v S2 => ∃ c, blW v = some c ∧ P (.d (.bl c)) S2) else P (.d (.bl false)) S1 := by
  rw [andV_eq]
  unfold OkE
  constructor
  · rintro ⟨r, e, h⟩
    obtain ⟨p, e1, e⟩ := Option.bind_eq_some_iff.mp e
    obtain ⟨k, e2, e⟩ := Option.bind_eq_some_iff.mp e
    refine ⟨p, e1, k, e2, ?_⟩
    split at e
    · rename_i hk
      rw [if_pos hk]
      obtain ⟨q, e3, e⟩ := Option.bind_eq_some_iff.mp e
      obtain ⟨c, e4, e5⟩ := Option.map_eq_some_iff.mp e
      cases e5
      exact ⟨q, e3, c, e4, h⟩
    · rename_i hk
      rw [if_neg hk]
      cases e
      exact h
  · rintro ⟨p, e1, k, e2, h⟩
    split at h
    · rename_i hk
      obtain ⟨q, e3, c, e4, h⟩ := h
      exact ⟨_, by rw [e1]; simp only [Option.bind_some]; rw [e2]; simp only [Option.bind_some]; rw [if_pos hk, e3]; simp only [Option.bind_some]; rw [e4]; rfl, h⟩
    · rename_i hk
      exact ⟨_, by rw [e1]; simp only [Option.bind_some]; rw [e2]; simp only [Option.bind_some]; rw [if_neg hk], h⟩
theorem wp_orB : OkE (mOrV ma mb env S) P ↔ OkE (ma env S) fun w S1 => ∃ k, blW w = some k ∧ if k = true then P (.d (.bl true)) S1 else OkE (mb env S1) (fun v S2 => ∃ c, blW v = some c ∧ P (.d (.bl c)) S2) := by
  rw [orV_eq]
  unfold OkE
  constructor
  · rintro ⟨r, e, h⟩
    obtain ⟨p, e1, e⟩ := Option.bind_eq_some_iff.mp e
    obtain ⟨k, e2, e⟩ := Option.bind_eq_some_iff.mp e
    refine ⟨p, e1, k, e2, ?_⟩
    split at e
    · rename_i hk
      rw [if_pos hk]
      cases e
      exact h
    · rename_i hk
      rw [if_neg hk]
      obtain ⟨q, e3, e⟩ := Option.bind_eq_some_iff.mp e
      obtain ⟨c, e4, e5⟩ := Option.map_eq_some_iff.mp e
      cases e5
      exact ⟨q, e3, c, e4, h⟩
  · rintro ⟨p, e1, k, e2, h⟩
    split at h
    · rename_i hk
      exact ⟨_, by rw [e1]; simp only [Option.bind_some]; rw [e2]; simp only [Option.bind_some]; rw [if_pos hk], h⟩
    · rename_i hk
      obtain ⟨q, e3, c, e4, h⟩ := h
      exact ⟨_, by rw [e1]; simp only [Option.bind_some]; rw [e2]; simp only [Option.bind_some]; rw [if_neg hk, e3]; simp only [Option.bind_some]; rw [e4]; rfl, h⟩
theorem wp_notB : OkE (mNotV ma env S) P ↔ OkE (ma env S) fun w S1 => ∃ k, blW w = some k ∧ P (.d (.bl (!k))) S1 := by
  rw [notV_eq]
  unfold OkE
  constructor
  · rintro ⟨r, e, h⟩
    obtain ⟨p, e1, e⟩ := Option.bind_eq_some_iff.mp e
    obtain ⟨k, e2, e3⟩ := Option.map_eq_some_iff.mp e
    cases e3
    exact ⟨p, e1, k, e2, h⟩
  · rintro ⟨p, e1, k, e2, h⟩
    exact ⟨_, by rw [e1]; simp only [Option.bind_some]; rw [e2]; rfl, h⟩
theorem wp_tstB : OkT (mTst ma env S) PT ↔ OkE (ma env S) fun w S' => ∃ k, blW w = some k ∧ PT k S' := by
  rw [wp_tst]
  unfold OkE
  constructor
  · rintro ⟨p, e, k, hk, h⟩
    exact ⟨p, e, k, by rw [hk]; rfl, h⟩
  · rintro ⟨p, e, k, hk, h⟩
    refine ⟨p, e, k, ?_, h⟩
    cases hw : p.1 with
    | d x =>
      rw [hw] at hk
      cases x <;> first | (cases hk; done) | (cases hk; rfl)
    | _ => rw [hw] at hk; cases hk
theorem wp_ofT : OkE (mOfT t env S) P ↔ OkT (t env S) fun k S' => P (.d (.bl k)) S' := by
  unfold mOfT OkE OkT
  constructor
  · rintro ⟨r, e, h⟩
    obtain ⟨p, e1, e2⟩ := Option.map_eq_some_iff.mp e
    cases e2
    exact ⟨p, e1, h⟩
  · rintro ⟨p, e1, h⟩
    exact ⟨_, by rw [e1]; rfl, h⟩
theorem wp_mut {g : Store → List W → List W → Option (List W)} : OkS (mMut i ms g env S) PS ↔ OkA (ms env S) fun ws S' => ws.all isArg = true ∧ match env[i]? with
    | some (some (.own xs)) => xs.all isArg = true ∧ ∃ zs, g S' xs ws = some zs ∧ PS .nx (env.set i (some (.own zs))) S'
    | some (some (.r n)) => ∃ xs, S'[n]? = some xs ∧ ∃ zs, g S' xs ws = some zs ∧ PS .nx env (S'.set n zs)
    | _ => False := by
  unfold mMut OkS OkA
  generalize env[i]? = o
  constructor
  · rintro ⟨r, e, h⟩
    obtain ⟨p, e1, e⟩ := Option.bind_eq_some_iff.mp e
    split at e
    · rename_i hA
      refine ⟨p, e1, hA, ?_⟩
      rcases o with _ | _ | w
      · cases e
      · cases e
      · cases w with
        | own xs =>
          dsimp only at e ⊢
          split at e
          · rename_i hx
            obtain ⟨zs, e2, e3⟩ := Option.bind_eq_some_iff.mp e
            cases e3
            exact ⟨hx, zs, e2, h⟩
          · cases e
        | r n =>
          dsimp only at e ⊢
          obtain ⟨xs, e2, e⟩ := Option.bind_eq_some_iff.mp e
          obtain ⟨zs, e3, e4⟩ := Option.bind_eq_some_iff.mp e
          cases e4
          exact ⟨xs, e2, zs, e3, h⟩
        | _ => cases e
    · cases e
  · rintro ⟨p, e1, hA, h⟩
    rw [e1]
    simp only [Option.bind_some]
    rw [if_pos hA]
    rcases o with _ | _ | w
    · exact h.elim
    · exact h.elim
    · cases w with
      | own xs =>
        obtain ⟨hx, zs, e2, h⟩ := h
        exact ⟨_, by dsimp only; rw [if_pos hx, e2]; rfl, h⟩
      | r n =>
        obtain ⟨xs, e2, zs, e3, h⟩ := h
        exact ⟨_, by dsimp only; rw [e2]; simp only [Option.bind_some]; rw [e3]; rfl, h⟩
      | _ => exact h.elim
theorem wp_frzM : OkS (mFrz i env S) PS ↔ match env[i]? with
    | some (some (.own xs)) => ∃ ds, asDs xs = some ds ∧ PS .nx (env.set i (some (.d (.lst ds)))) S
    | _ => PS .nx env S := by
  unfold mFrz OkS
  generalize env[i]? = o
  constructor
  · rintro ⟨r, e, h⟩
    rcases o with _ | _ | w
    · cases e
      exact h
    · cases e
      exact h
    · cases w with
      | own xs =>
        obtain ⟨ds, e1, e2⟩ := Option.map_eq_some_iff.mp e
        cases e2
        exact ⟨ds, e1, h⟩
      | _ =>
        cases e
        exact h
  · intro h
    rcases o with _ | _ | w
    · exact ⟨_, rfl, h⟩
    · exact ⟨_, rfl, h⟩
    · cases w with
      | own xs =>
        obtain ⟨ds, e1, h⟩ := h
        exact ⟨_, by dsimp only; rw [e1]; rfl, h⟩
      | _ => exact ⟨_, rfl, h⟩
theorem wp_drop : OkS (mDrop ma env S) PS ↔ OkE (ma env S) fun _ S' => PS .nx env S' := by
  unfold mDrop OkS OkE
  constructor
  · rintro ⟨r, e, h⟩
    obtain ⟨p, e1, e2⟩ := Option.map_eq_some_iff.mp e
    cases e2
    exact ⟨p, e1, h⟩
  · rintro ⟨p, e1, h⟩
    exact ⟨_, by rw [e1]; rfl, h⟩
end
def SO (k : Nat) (s : Str) : Prop := s.length ≤ k ∧ PyData.strOk s = true
theorem SO.le {i j : Nat} {a : Str} (ha : SO i a) (h : i ≤ j) : SO j a := ⟨Nat.le_trans ha.1 h, ha.2⟩
section
variable {S : Store} {a b c d : D} {r : List D}
theorem ixt0 : gIx S (.d (.tup (a :: r))) (.d (.int 0)) = some (.d a) := v_ixT (k := 0) rfl
theorem ixt1 : gIx S (.d (.tup (a :: b :: r))) (.d (.int 1)) = some (.d b) := v_ixT (k := 1) rfl
theorem ixt2 : gIx S (.d (.tup (a :: b :: c :: r))) (.d (.int 2)) = some (.d c) := v_ixT (k := 2) rfl
theorem ixt3 : gIx S (.d (.tup (a :: b :: c :: d :: r))) (.d (.int 3)) = some (.d d) := v_ixT (k := 3) rfl
theorem v_tupL {xs : List D} : g1 gTuple S [.d (.lst xs)] = some (.d (.tup xs)) := by
  simp [g1, gTuple, vT, vL, asDs_map]
theorem v_tupT {xs : List D} : g1 gTuple S [.d (.tup xs)] = some (.d (.tup xs)) := rfl
end
theorem lcMap {α : Type} {e f : α → D} {ma : ME} {ew : En} {i : Nat} {S : Store} (hi : i < ew.length) : ∀ {todo : List α} {acc : List D}, acc.length + todo.length ≤ cap →
    (∀ x ∈ todo, ma (ew.set i (some (.d (e x)))) S = some (.d (f x), S)) → goLc (.nm i) mYes ma ew (todo.map e) S acc = some (acc ++ todo.map f, S)
  | [], acc, _, _ => by
    rw [List.map_nil, List.map_nil, List.append_nil]
    rfl
  | x :: todo, acc, hl, h => by
    rw [List.length_cons] at hl
    have hb : bindT (.nm i) ew (e x) = some (ew.set i (some (.d (e x)))) := if_pos hi
    refine eqI (wp_lcCons.mpr ⟨_, hb, ⟨(true, S), rfl, ?_⟩⟩)
    refine ⟨_, h x List.mem_cons_self, f x, rfl, by omega, ?_⟩
    have ih := lcMap (acc := acc ++ [f x]) hi (by rw [List.length_append, List.length_singleton]; omega) fun y hy => h y (List.mem_cons_of_mem _ hy)
    exact okI_eq ih ⟨by simp, rfl⟩
section
variable {S : Store} {d : D} {ds : List D}
theorem asBls_map : ∀ bs : List Bool, asBls (bs.map fun b => .d (.bl b)) = some bs
  | [] => rfl
  | b :: bs => by
    rw [List.map_cons]
    unfold asBls
    rw [asBls_map bs]
    rfl
theorem v_allB {bs : List Bool} : g1 gAllB S [.d (.lst (bs.map .bl))] = some (.d (.bl (bs.all id))) := by
  show (((vL S (.d (.lst (bs.map .bl)))).bind asBls).map _) = _
  rw [vL_lst, Option.bind_some, List.map_map, show (W.d ∘ D.bl) = fun b => .d (.bl b) from rfl, asBls_map]
  rfl
theorem v_isNon {w : W} : gIs false S w (.d .non) = some (.d (.bl (isNon w))) := by
  show some (W.d (.bl (false != isNon w))) = _
  cases isNon w <;> rfl
theorem v_notNon {w : W} : gIs true S w (.d .non) = some (.d (.bl (!isNon w))) := by
  show some (W.d (.bl (true != isNon w))) = _
  cases isNon w <;> rfl
theorem v_subI {i j : Int} : (gInt (fun _ _ => true) fun i j => .int (i - j)) S (.d (.int i)) (.d (.int j)) = some (.d (.int (i - j))) := rfl
theorem asDs_nil : asDs [] = some [] := rfl
theorem asDs_cons {r : List W} : asDs (.d d :: r) = (asDs r).map (d :: ·) := rfl
theorem wipe0 {e : En} : wipeE e [] = e := rfl
theorem wipe1 {e : En} {v : Nat} {vs : List Nat} : wipeE e (v :: vs) = (wipeE e vs).set v none := rfl
end
end Kb
local macro_rules | `(tactic| decreasing_with simp [$ts,*]) => `(tactic| simp only [Zf.wp_d, Zf.wp_var, Zf.wp_bin, Kb.wp_tstB, Zf.wp_andT, Zf.wp_orT, Zf.wp_notT, Zf.wp_if, Zf.wp_nil, Zf.wp_cons, Zf.wp_call, Zf.wp_cb, Zf.wp_seq, Zf.wp_next, Zf.wp_ifS, Zf.wp_set, Zf.wp_ret, Zf.wp_setIx, Zf.wp_fn, Zf.wp_frzE, Zf.wp_pubE, Zf.wp_lst, Zf.wp_tup, Zf.wp_lstO, Kb.wp_andB, Kb.wp_orB, Kb.wp_notB, Zf.wp_noPart, Zf.wp_part, Zf.wp_sl, Zf.wp_par, Zf.wp_unp, Kb.wp_iseq, Kb.wp_iseqS, Zf.wp_rng1, Zf.wp_for, Zf.wp_lc, Zf.wp_yes, Zf.wp_mutE, Zf.wp_neg, Zf.wp_inK, Kb.wp_isiC, Kb.wp_isi2C, Zf.wp_star, Zf.wp_dix, Zf.wp_dget2, Zf.wp_maxD, Zf.wp_enum, Zf.wp_zip, Zf.wp_dictZip, Kb.wp_chain, Kb.wp_ofT, Kb.wp_mut, Kb.wp_frzM, Kb.wp_drop,
  Kb.isi_bool_non, Kb.isi_bool_bl, Kb.isi_bool_int, Kb.isi_bool_str, Kb.isi_bool_lst, Kb.isi_bool_tup, Kb.isi_bool_dct, Kb.ask_bool, Kb.isi_int_non, Kb.isi_int_bl, Kb.isi_int_int, Kb.isi_int_str, Kb.isi_int_lst, Kb.isi_int_tup, Kb.isi_int_dct, Kb.ask_int, Kb.isi_str_non, Kb.isi_str_bl, Kb.isi_str_int, Kb.isi_str_str, Kb.isi_str_lst, Kb.isi_str_tup, Kb.isi_str_dct, Kb.ask_str, Kb.isi_list_non, Kb.isi_list_bl, Kb.isi_list_int, Kb.isi_list_str, Kb.isi_list_lst, Kb.isi_list_tup, Kb.isi_list_dct, Kb.ask_list, Kb.isi_tuple_non, Kb.isi_tuple_bl, Kb.isi_tuple_int, Kb.isi_tuple_str, Kb.isi_tuple_lst, Kb.isi_tuple_tup, Kb.isi_tuple_dct, Kb.ask_tuple, Kb.isi_dict_non, Kb.isi_dict_bl, Kb.isi_dict_int, Kb.isi_dict_str, Kb.isi_dict_lst, Kb.isi_dict_tup, Kb.isi_dict_dct, Kb.ask_dict, Zf.v_int, Zf.v_addI, Zf.v_ltI, Zf.v_leI, Zf.v_gtI, Zf.v_geI, Kb.v_eqAI, Kb.v_eqAS, Zf.v_eqI, Zf.v_neI, Zf.v_eqS, Zf.v_neS, Zf.v_int1, Zf.v_int1b, Zf.v_abs, Zf.v_lenL, Zf.v_lenT, Zf.v_lenB, Zf.v_listL, Zf.v_listT, Kb.v_tupL, Kb.v_tupT, Kb.v_allB, Kb.v_isNon, Kb.v_notNon, Zf.toBor_d, Zf.toBor_r, Zf.toBor_own, Zf.unBor_d, Zf.unBor_r, Zf.unBor_bor, Zf.unBor_own, Zf.isArg_d, Zf.isArg_r, Zf.canSet_d, Zf.canSet_r, Zf.canSet_own, Kb.blW_bl, Kb.seqW_l, Kb.seqW_t, Kb.seqWS_l, Kb.seqWS_t, Kb.seqWS_s, Kb.ixt0, Kb.ixt1, Kb.ixt2, Kb.ixt3, Kb.asDs_nil, Kb.asDs_cons, Zf.asDs_map,
  Option.some.injEq, exists_eq_left', exists_eq_left, List.getElem?_cons_zero, List.getElem?_cons_succ, List.length_cons, List.length_nil, List.length_map, List.map_cons, List.map_nil, List.all_cons, List.all_nil, Bool.and_true, Bool.true_and, and_self, true_and, and_true, List.cons_append, List.nil_append, List.replicate, Nat.reduceSub, Nat.reduceLT, Nat.reduceAdd, List.set_cons_zero, List.set_cons_succ, Zf.W.d.injEq, Zf.D.bl.injEq, Zf.D.int.injEq, Zf.D.str.injEq, if_true, if_false, Bool.not_true, Bool.not_false, Bool.false_eq_true, decide_true, decide_false, reduceCtorEq, Bool.or_true, Bool.or_false, Bool.true_or, Bool.false_or, Option.map_some, Option.bind_some, exists_false, exists_const, Kb.wipe0, Kb.wipe1, Int.reduceLT, Int.reduceLE, Int.reduceAdd, Int.reduceSub, Int.reduceNeg, decide_eq_true_eq, Bool.not_eq_true', decide_eq_false_iff_not, $ts,*])
namespace Kb
open PySem PySem.Spec PyProof.Rows L2 Zf
def OkV {α : Type} (o : Option α) (P : α → Prop) : Prop := ∃ z, o = some z ∧ P z
def OkL (o : Option (Option W)) (P : W → Prop) : Prop := ∃ w, o = some (some w) ∧ P w
section
variable {α : Type} {z : α} {o o' : Option α} {P : α → Prop}
theorem okV_some : OkV (some z) P ↔ P z := ⟨fun ⟨_, e, h⟩ => by cases e; exact h, fun h => ⟨_, rfl, h⟩⟩
theorem okV_none : OkV none P ↔ False := ⟨fun ⟨_, e, _⟩ => (nomatch e), False.elim⟩
theorem okL_some {w : W} {P : W → Prop} : OkL (some (some w)) P ↔ P w := ⟨fun ⟨_, e, h⟩ => by cases e; exact h, fun h => ⟨_, rfl, h⟩⟩
end
def intW : W → Option Int
  | .d (.int j) => some j
  | _ => none
def strW : W → Option Str
  | .d (.str j) => some j
  | _ => none
def ownW : W → Option (List W)
  | .own j => some j
  | _ => none
def int1W : List W → Option Int
  | [.d (.int j)] => some j
  | _ => none
def lst1W : List W → Option (List D)
  | [.d (.lst j)] => some j
  | _ => none
def lst2W : List W → Option (List D × List D)
  | [.d (.lst j), .d (.lst k)] => some (j, k)
  | _ => none
def dctW : W → Option (List (Key × D))
  | .d (.dct j) => some j
  | _ => none
def datW : W → Option D
  | .d j => some j
  | _ => none
def pairW : List W → Option (W × W)
  | [x, y] => some (x, y)
  | _ => none
section
variable {i : Int} {x : Str} {xs ys : List D} {ws : List W} {kvs : List (Key × D)} {d : D} {w v : W}
theorem intW_i : intW (.d (.int i)) = some i := rfl
theorem strW_s : strW (.d (.str x)) = some x := rfl
theorem ownW_o : ownW (.own ws) = some ws := rfl
theorem int1W_i : int1W [.d (.int i)] = some i := rfl
theorem lst1W_l : lst1W [.d (.lst xs)] = some xs := rfl
theorem lst2W_l : lst2W [.d (.lst xs), .d (.lst ys)] = some (xs, ys) := rfl
theorem dctW_d : dctW (.d (.dct kvs)) = some kvs := rfl
theorem datW_d : datW (.d d) = some d := rfl
theorem pairW_p : pairW [w, v] = some (w, v) := rfl
theorem intW_of : intW w = some i ↔ w = .d (.int i) := ⟨fun h => by
  cases w with
  | d x => cases x <;> first | (cases h; rfl) | cases h
  | _ => (cases h), fun h => by rw [h]; rfl⟩
theorem strW_of : strW w = some x ↔ w = .d (.str x) := ⟨fun h => by
  cases w with
  | d x => cases x <;> first | (cases h; rfl) | cases h
  | _ => (cases h), fun h => by rw [h]; rfl⟩
theorem ownW_of : ownW w = some ws ↔ w = .own ws := ⟨fun h => by
  cases w with
  | own x => cases h; rfl
  | _ => (cases h), fun h => by rw [h]; rfl⟩
theorem dctW_of : dctW w = some kvs ↔ w = .d (.dct kvs) := ⟨fun h => by
  cases w with
  | d x => cases x <;> first | (cases h; rfl) | cases h
  | _ => (cases h), fun h => by rw [h]; rfl⟩
theorem datW_of : datW w = some d ↔ w = .d d := ⟨fun h => by
  cases w with
  | d x => cases h; rfl
  | _ => (cases h), fun h => by rw [h]; rfl⟩
theorem int1W_of : int1W ws = some i ↔ ws = [.d (.int i)] := ⟨fun h => by
  unfold int1W at h
  split at h
  · cases h; rfl
  · (cases h), fun h => by rw [h]; rfl⟩
theorem lst1W_of : lst1W ws = some xs ↔ ws = [.d (.lst xs)] := ⟨fun h => by
  unfold lst1W at h
  split at h
  · cases h; rfl
  · (cases h), fun h => by rw [h]; rfl⟩
theorem lst2W_of : lst2W ws = some (xs, ys) ↔ ws = [.d (.lst xs), .d (.lst ys)] := ⟨fun h => by
  unfold lst2W at h
  split at h
  · cases h; rfl
  · (cases h), fun h => by rw [h]; rfl⟩
end
section
variable {env : En} {S : Store} {P : W → Store → Prop} {PT : Bool → Store → Prop} {PA : List W → Store → Prop} {PI : List D → Store → Prop} {PO : Option Int → Store → Prop} {PS : Fl → En → Store → Prop} {ma mb mc : ME} {t u : MT} {ms : MA} {a b : MS} {g g' : Op2} {i n : Nat} {d : D} {l h : MO} {mi : MI}
theorem y_var : OkE (mVar i env S) P ↔ OkL env[i]? fun w => P (toBor w) S := wp_var
theorem y_bin : OkE (mBin g ma mb env S) P ↔ OkE (ma env S) fun x S1 => OkE (mb env S1) fun y S2 => OkV (g S2 x y) fun z => P z S2 := wp_bin
theorem y_tst : OkT (mTst ma env S) PT ↔ OkE (ma env S) fun w S' => OkV (blW w) fun k => PT k S' := wp_tstB
theorem y_cb {f : OpN} : OkE (mCB f ms env S) P ↔ OkA (ms env S) fun ws S1 => OkV (f S1 ws) fun z => P z S1 := wp_cb
theorem y_setIx : OkS (mSetIx ma mb mc env S) PS ↔ OkE (mc env S) fun w S1 => OkE (ma env S1) fun o S2 => OkE (mb env S2) fun j S3 => OkV (setIx S3 o j w) fun S' => PS .nx env S' := wp_setIx
theorem y_frzE : OkE (mFrzE ma env S) P ↔ OkE (ma env S) fun w S' => OkV (ownW w) fun xs => OkV (asDs xs) fun ds => P (.d (.lst ds)) S' := by
  rw [wp_frzE]
  constructor
  · rintro ⟨r, e, xs, ds, h1, h2, h3⟩
    exact ⟨r, e, xs, ownW_of.mpr h1, ds, h2, h3⟩
  · rintro ⟨r, e, xs, h1, ds, h2, h3⟩
    exact ⟨r, e, xs, ds, ownW_of.mp h1, h2, h3⟩
theorem y_pubE : OkE (mPubE ma env S) P ↔ OkE (ma env S) fun w S' => OkV (ownW w) fun xs => xs.all isArg = true ∧ P (.r S'.length) (S' ++ [xs]) := by
  rw [wp_pubE]
  constructor
  · rintro ⟨r, e, xs, h1, h2, h3⟩
    exact ⟨r, e, xs, ownW_of.mpr h1, h2, h3⟩
  · rintro ⟨r, e, xs, h1, h2, h3⟩
    exact ⟨r, e, xs, ownW_of.mp h1, h2, h3⟩
theorem y_lst : OkE (mLst ms env S) P ↔ OkA (ms env S) fun ws S' => OkV (asDs ws) fun xs => xs.length ≤ cap ∧ P (.d (.lst xs)) S' := wp_lst
theorem y_tup : OkE (mTup ms env S) P ↔ OkA (ms env S) fun ws S' => OkV (asDs ws) fun xs => xs.length ≤ cap ∧ P (.d (.tup xs)) S' := wp_tup
theorem y_andV : OkE (mAndV ma mb env S) P ↔ OkE (ma env S) fun w S1 => OkV (blW w) fun k => if k = true then OkE (mb env S1) (fun v S2 => OkV (blW v) fun c => P (.d (.bl c)) S2) else P (.d (.bl false)) S1 := wp_andB
theorem y_orV : OkE (mOrV ma mb env S) P ↔ OkE (ma env S) fun w S1 => OkV (blW w) fun k => if k = true then P (.d (.bl true)) S1 else OkE (mb env S1) (fun v S2 => OkV (blW v) fun c => P (.d (.bl c)) S2) := wp_orB
theorem y_notV : OkE (mNotV ma env S) P ↔ OkE (ma env S) fun w S1 => OkV (blW w) fun k => P (.d (.bl (!k))) S1 := wp_notB
theorem y_part : OkO (mPart ma env S) PO ↔ OkE (ma env S) fun w S' => OkV (intW w) fun j => PO (some j) S' := by
  rw [wp_part]
  constructor
  · rintro ⟨r, e, j, h1, h2⟩
    exact ⟨r, e, j, intW_of.mpr h1, h2⟩
  · rintro ⟨r, e, j, h1, h2⟩
    exact ⟨r, e, j, intW_of.mp h1, h2⟩
theorem y_sl : OkE (mSl ma l h env S) P ↔ OkE (ma env S) fun w S1 => OkO (l env S1) fun lo S2 => OkO (h env S2) fun hi S3 => OkV (gSl S3 w lo hi) fun z => P z S3 := wp_sl
theorem y_par {j : Nat} : OkS (mPar i j ms env S) PS ↔ OkA (ms env S) fun ws S' => OkV (pairW ws) fun q => (isArg q.1 = true ∧ isArg q.2 = true ∧ i < env.length ∧ j < env.length) ∧ PS .nx ((env.set i (some q.1)).set j (some q.2)) S' := by
  rw [wp_par]
  constructor
  · rintro ⟨r, e, x, y, h1, h2, h3⟩
    exact ⟨r, e, (x, y), by rw [h1]; rfl, h2, h3⟩
  · rintro ⟨r, e, ⟨x, y⟩, h1, h2, h3⟩
    refine ⟨r, e, x, y, ?_, h2, h3⟩
    unfold pairW at h1
    split at h1
    · cases h1; assumption
    · cases h1
theorem y_unp {is : List Nat} : OkS (mUnp is ms env S) PS ↔ OkA (ms env S) fun ws S' => ws.length ≤ cap ∧ OkV (bindAllW is ws env) fun env' => PS .nx env' S' := wp_unp
theorem y_seqI : OkI (mISeq ma env S) PI ↔ OkE (ma env S) fun w S' => OkV (seqW w) fun xs => PI xs S' := wp_iseq
theorem y_seqS : OkI (mISeqS ma env S) PI ↔ OkE (ma env S) fun w S' => OkV (seqWS w) fun xs => PI xs S' := wp_iseqS
theorem y_rng1 : OkI (mIRng1 ms env S) PI ↔ OkA (ms env S) fun ws S' => OkV (int1W ws) fun n => (-1000000 < n ∧ n < 1000000) ∧ PI (dRange 0 n.toNat) S' := by
  rw [wp_rng1]
  constructor
  · rintro ⟨r, e, j, h1, h2⟩
    exact ⟨r, e, j, int1W_of.mpr h1, h2⟩
  · rintro ⟨r, e, j, h1, h2⟩
    exact ⟨r, e, j, int1W_of.mp h1, h2⟩
theorem y_mutE {mo : ME} {g : Store → List W → List W → Option (List W)} : OkS (mMutE mo ms g env S) PS ↔ OkE (mo env S) fun o S1 => ∃ n, o = .r n ∧ OkA (ms env S1) fun ws S' => ws.all isArg = true ∧ OkV S'[n]? fun xs => OkV (g S' xs ws) fun zs => PS .nx env (S'.set n zs) := by
  rw [wp_mutE]
  constructor
  · rintro ⟨r, e, n, h1, q, e2, h2, xs, zs, h3, h4, h5⟩
    exact ⟨r, e, n, h1, q, e2, h2, xs, h3, zs, h4, h5⟩
  · rintro ⟨r, e, n, h1, q, e2, h2, xs, h3, zs, h4, h5⟩
    exact ⟨r, e, n, h1, q, e2, h2, xs, zs, h3, h4, h5⟩
theorem y_neg : OkE (mNeg ma env S) P ↔ OkE (ma env S) fun w S' => OkV (intW w) fun j => P (.d (.int (-j))) S' := by
  rw [wp_neg]
  constructor
  · rintro ⟨r, e, j, h1, h2⟩
    exact ⟨r, e, j, intW_of.mpr h1, h2⟩
  · rintro ⟨r, e, j, h1, h2⟩
    exact ⟨r, e, j, intW_of.mp h1, h2⟩
theorem y_inK {neg : Bool} {ks : List Str} : OkE (mInK neg ks ma env S) P ↔ OkE (ma env S) fun w S' => OkV (strW w) fun z => P (.d (.bl (neg != ks.contains z))) S' := by
  rw [wp_inK]
  constructor
  · rintro ⟨r, e, j, h1, h2⟩
    exact ⟨r, e, j, strW_of.mpr h1, h2⟩
  · rintro ⟨r, e, j, h1, h2⟩
    exact ⟨r, e, j, strW_of.mp h1, h2⟩
theorem y_isiC {T : String} : OkE (mIsiC n T ma env S) P ↔ OkE (ma env S) fun w S' => asked.contains T = true ∧ OkV (isiV n S' T w) fun k => P (.d (.bl k)) S' := wp_isiC
theorem y_isi2C {T T' : String} : OkE (mIsi2C n T T' ma env S) P ↔ OkE (ma env S) fun w S' => (asked.contains T = true ∧ asked.contains T' = true) ∧ OkV (isiV n S' T w) fun k => OkV (isiV n S' T' w) fun k' => P (.d (.bl (k || k'))) S' := wp_isi2C
theorem y_star : OkA (mStar ma ms env S) PA ↔ OkE (ma env S) fun w S1 => OkV (vSeq S1 w) fun xs => OkA (ms env S1) fun ws S2 => PA (xs.map .d ++ ws) S2 := wp_star
theorem y_dix : OkE (mDix ma mb env S) P ↔ OkE (ma env S) fun w S1 => OkE (mb env S1) fun v S2 => OkV (dctW w) fun kvs => OkV (dkey v) fun k => OkV (dval kvs k) fun d => P (.d d) S2 := by
  rw [wp_dix]
  constructor
  · rintro ⟨r, e, q, e2, kvs, k, d, h1, h2, h3, h4⟩
    exact ⟨r, e, q, e2, kvs, dctW_of.mpr h1, k, h2, d, h3, h4⟩
  · rintro ⟨r, e, q, e2, kvs, h1, k, h2, d, h3, h4⟩
    exact ⟨r, e, q, e2, kvs, k, d, dctW_of.mp h1, h2, h3, h4⟩
theorem y_dget2 : OkE (mDget2 ma mb mc env S) P ↔ OkE (ma env S) fun w S1 => OkE (mb env S1) fun v S2 => OkE (mc env S2) fun u S3 => OkV (dctW w) fun kvs => OkV (datW u) fun x => OkV (dkey v) fun k => P (.d ((dval kvs k).getD x)) S3 := by
  rw [wp_dget2]
  constructor
  · rintro ⟨r, e, q, e2, s, e3, kvs, x, k, h1, h2, h3, h4⟩
    exact ⟨r, e, q, e2, s, e3, kvs, dctW_of.mpr h1, x, datW_of.mpr h2, k, h3, h4⟩
  · rintro ⟨r, e, q, e2, s, e3, kvs, h1, x, h2, k, h3, h4⟩
    exact ⟨r, e, q, e2, s, e3, kvs, x, k, dctW_of.mp h1, datW_of.mp h2, h3, h4⟩
theorem y_maxD {d : Int} : OkE (mMaxD d ma env S) P ↔ OkE (ma env S) fun w S' => OkV (vInts S' w) fun ns => P (.d (.int (maxOr d ns))) S' := wp_maxD
theorem y_enum : OkI (mIEnum ms env S) PI ↔ OkA (ms env S) fun ws S' => OkV (lst1W ws) fun xs => PI (dEnum 0 xs) S' := by
  rw [wp_enum]
  constructor
  · rintro ⟨r, e, j, h1, h2⟩
    exact ⟨r, e, j, lst1W_of.mpr h1, h2⟩
  · rintro ⟨r, e, j, h1, h2⟩
    exact ⟨r, e, j, lst1W_of.mp h1, h2⟩
theorem y_zip : OkI (mIZip ms env S) PI ↔ OkA (ms env S) fun ws S' => OkV (lst2W ws) fun q => PI (dZip q.1 q.2) S' := by
  rw [wp_zip]
  constructor
  · rintro ⟨r, e, j, k, h1, h2⟩
    exact ⟨r, e, (j, k), lst2W_of.mpr h1, h2⟩
  · rintro ⟨r, e, ⟨j, k⟩, h1, h2⟩
    exact ⟨r, e, j, k, lst2W_of.mp h1, h2⟩
theorem y_chain : OkE (mChain g g' ma mb mc env S) P ↔ OkE (ma env S) fun x S1 => OkE (mb env S1) fun y S2 => OkV (g S2 x y) fun v => OkV (blW v) fun z => if z = true then OkE (mc env S2) fun u S3 => OkV (g' S3 y u) fun v => P v S3 else P (.d (.bl false)) S2 := by
  rw [wp_chain]
  have bl_of : ∀ {w : W} {k : Bool}, blW w = some k → w = .d (.bl k) := fun {w k} h => by
    cases w with
    | d x => cases x <;> first | (cases h; rfl) | cases h
    | _ => cases h
  constructor
  · rintro ⟨r, e, q, e2, z, h1, h2⟩
    exact ⟨r, e, q, e2, _, h1, z, rfl, h2⟩
  · rintro ⟨r, e, q, e2, v, h1, z, h2, h3⟩
    exact ⟨r, e, q, e2, z, by rw [h1, bl_of h2], h3⟩
theorem y_mut {g : Store → List W → List W → Option (List W)} : OkS (mMut i ms g env S) PS ↔ OkA (ms env S) fun ws S' => ws.all isArg = true ∧ OkL env[i]? fun w => match w with
    | .own xs => xs.all isArg = true ∧ OkV (g S' xs ws) fun zs => PS .nx (env.set i (some (.own zs))) S'
    | .r n => OkV S'[n]? fun xs => OkV (g S' xs ws) fun zs => PS .nx env (S'.set n zs)
    | _ => False := by
  rw [wp_mut]
  generalize env[i]? = o
  constructor
  · rintro ⟨r, e, h1, h2⟩
    refine ⟨r, e, h1, ?_⟩
    rcases o with _ | _ | w
    · exact h2.elim
    · exact h2.elim
    · refine ⟨w, rfl, ?_⟩
      cases w <;> exact h2
  · rintro ⟨r, e, h1, w, h2, h3⟩
    refine ⟨r, e, h1, ?_⟩
    rw [h2]
    cases w <;> exact h3
theorem y_frz : OkS (mFrz i env S) PS ↔ match env[i]? with
    | some (some (.own xs)) => OkV (asDs xs) fun ds => PS .nx (env.set i (some (.d (.lst ds)))) S
    | _ => PS .nx env S := wp_frzM
theorem gApp_v {xs : List W} {w : W} (h : xs.length < 10000000) : gApp S xs [w] = some (xs ++ [w]) := if_pos h
theorem y_okE {m : Option (W × Store)} {w : W} {S : Store} (e : m = some (w, S)) : OkE m P ↔ P w S := ⟨fun ⟨r, h1, h2⟩ => by rw [e] at h1; cases h1; exact h2, fun h => ⟨_, e, h⟩⟩
end
inductive Tk {α : Type} (a : α) : Type
  | mk : Tk a
def KE (m : Option (W × Store)) (P : W → Store → Prop) (_ : Tk P) : Prop := OkE m P
def KT (m : Option (Bool × Store)) (P : Bool → Store → Prop) (_ : Tk P) : Prop := OkT m P
def KA (m : Option (List W × Store)) (P : List W → Store → Prop) (_ : Tk P) : Prop := OkA m P
def KI (m : Option (List D × Store)) (P : List D → Store → Prop) (_ : Tk P) : Prop := OkI m P
def KS (m : Option (Fl × En × Store)) (P : Fl → En → Store → Prop) (_ : Tk P) : Prop := OkS m P
def KO (m : Option (Option Int × Store)) (P : Option Int → Store → Prop) (_ : Tk P) : Prop := OkO m P
def KV {α : Type} (m : Option α) (P : α → Prop) (_ : Tk P) : Prop := OkV m P
def KL (m : Option (Option W)) (P : W → Prop) (_ : Tk P) : Prop := OkL m P
theorem k_E {m : Option (W × Store)} {P : W → Store → Prop} : OkE m P ↔ KE m P .mk := Iff.rfl
theorem k_T {m : Option (Bool × Store)} {P : Bool → Store → Prop} : OkT m P ↔ KT m P .mk := Iff.rfl
theorem k_A {m : Option (List W × Store)} {P : List W → Store → Prop} : OkA m P ↔ KA m P .mk := Iff.rfl
theorem k_I {m : Option (List D × Store)} {P : List D → Store → Prop} : OkI m P ↔ KI m P .mk := Iff.rfl
theorem k_S {m : Option (Fl × En × Store)} {P : Fl → En → Store → Prop} : OkS m P ↔ KS m P .mk := Iff.rfl
theorem k_O {m : Option (Option Int × Store)} {P : Option Int → Store → Prop} : OkO m P ↔ KO m P .mk := Iff.rfl
theorem k_V {α : Type} {m : Option α} {P : α → Prop} : OkV m P ↔ KV m P .mk := Iff.rfl
theorem k_L {m : Option (Option W)} {P : W → Prop} : OkL m P ↔ KL m P .mk := Iff.rfl
theorem z_okE {m : Option (W × Store)} {w : W} {S : Store} {P : W → Store → Prop} {u : Tk P} (e : m = some (w, S)) : KE m P u ↔ P w S := y_okE e
section
variable {env : En} {S : Store} {P : W → Store → Prop} {PT : Bool → Store → Prop} {PA : List W → Store → Prop} {PI : List D → Store → Prop} {PO : Option Int → Store → Prop} {PS : Fl → En → Store → Prop} {ma mb mc : ME} {t u : MT} {ms : MA} {a b : MS} {g g' : Op2} {i n : Nat} {d : D} {l h : MO} {mi : MI}
theorem z_d {tk : Tk P} : KE (mD d env S) P tk ↔ P (.d d) S := Zf.wp_d
theorem z_var {tk : Tk P} : KE (mVar i env S) P tk ↔ OkL env[i]? fun w => P (toBor w) S := Kb.y_var
theorem z_bin {tk : Tk P} : KE (mBin g ma mb env S) P tk ↔ OkE (ma env S) fun x S1 => OkE (mb env S1) fun y S2 => OkV (g S2 x y) fun z => P z S2 := Kb.y_bin
theorem z_tst {tk : Tk PT} : KT (mTst ma env S) PT tk ↔ OkE (ma env S) fun w S' => OkV (blW w) fun k => PT k S' := Kb.y_tst
theorem z_andT {tk : Tk PT} : KT (mAndT t u env S) PT tk ↔ OkT (t env S) fun k S' => if k = true then OkT (u env S') PT else PT false S' := Zf.wp_andT
theorem z_orT {tk : Tk PT} : KT (mOrT t u env S) PT tk ↔ OkT (t env S) fun k S' => if k = true then PT true S' else OkT (u env S') PT := Zf.wp_orT
theorem z_notT {tk : Tk PT} : KT (mNotT t env S) PT tk ↔ OkT (t env S) fun k S' => PT (!k) S' := Zf.wp_notT
theorem z_if {tk : Tk P} : KE (mIf t ma mb env S) P tk ↔ OkT (t env S) fun k S' => if k = true then OkE (ma env S') P else OkE (mb env S') P := Zf.wp_if
theorem z_nil {tk : Tk PA} : KA (mNil env S) PA tk ↔ PA [] S := Zf.wp_nil
theorem z_cons {tk : Tk PA} : KA (mCons ma ms env S) PA tk ↔ OkE (ma env S) fun w S1 => OkA (ms env S1) fun ws S2 => PA (w :: ws) S2 := Zf.wp_cons
theorem z_call {m : MF} {tk : Tk P} : KE (mCall m ms env S) P tk ↔ OkA (ms env S) fun ws S1 => ws.all isArg = true ∧ OkE (m ws S1) P := Zf.wp_call
theorem z_cb {f : OpN} {tk : Tk P} : KE (mCB f ms env S) P tk ↔ OkA (ms env S) fun ws S1 => OkV (f S1 ws) fun z => P z S1 := Kb.y_cb
theorem z_seq {tk : Tk PS} : KS (mSeq a b env S) PS tk ↔ OkS (a env S) fun f e S' => match f with
    | .nx => OkS (b e S') PS
    | f => PS f e S' := Zf.wp_seq
theorem z_next {tk : Tk PS} : KS (mNext env S) PS tk ↔ PS .nx env S := Zf.wp_next
theorem z_ifS {tk : Tk PS} : KS (mIfS t a b env S) PS tk ↔ OkT (t env S) fun k S' => if k = true then OkS (a env S') PS else OkS (b env S') PS := Zf.wp_ifS
theorem z_set {tk : Tk PS} : KS (mSet i ma env S) PS tk ↔ OkE (ma env S) fun w S' => (i < env.length ∧ canSet w = true) ∧ PS .nx (env.set i (some w)) S' := Zf.wp_set
theorem z_ret {tk : Tk PS} : KS (mRet ma env S) PS tk ↔ OkE (ma env S) fun w S' => PS (.ret w) env S' := Zf.wp_ret
theorem z_setIx {tk : Tk PS} : KS (mSetIx ma mb mc env S) PS tk ↔ OkE (mc env S) fun w S1 => OkE (ma env S1) fun o S2 => OkE (mb env S2) fun j S3 => OkV (setIx S3 o j w) fun S' => PS .nx env S' := Kb.y_setIx
theorem z_fn {k n : Nat} {as : List W} {tk : Tk P} : KE (mFn k n a as S) P tk ↔ (as.length = k ∧ as.all isArg = true) ∧ OkS (a (as.map some ++ List.replicate (n - k) none) S) fun f _ S' => match f with
    | .nx => P (.d .non) S'
    | .ret w => P (unBor w) S'
    | _ => False := Zf.wp_fn
theorem z_frzE {tk : Tk P} : KE (mFrzE ma env S) P tk ↔ OkE (ma env S) fun w S' => OkV (ownW w) fun xs => OkV (asDs xs) fun ds => P (.d (.lst ds)) S' := Kb.y_frzE
theorem z_pubE {tk : Tk P} : KE (mPubE ma env S) P tk ↔ OkE (ma env S) fun w S' => OkV (ownW w) fun xs => xs.all isArg = true ∧ P (.r S'.length) (S' ++ [xs]) := Kb.y_pubE
theorem z_lst {tk : Tk P} : KE (mLst ms env S) P tk ↔ OkA (ms env S) fun ws S' => OkV (asDs ws) fun xs => xs.length ≤ cap ∧ P (.d (.lst xs)) S' := Kb.y_lst
theorem z_tup {tk : Tk P} : KE (mTup ms env S) P tk ↔ OkA (ms env S) fun ws S' => OkV (asDs ws) fun xs => xs.length ≤ cap ∧ P (.d (.tup xs)) S' := Kb.y_tup
theorem z_lstO {tk : Tk P} : KE (mLstO ms env S) P tk ↔ OkA (ms env S) fun ws S' => (ws.all isArg = true ∧ ws.length ≤ cap) ∧ P (.own ws) S' := Zf.wp_lstO
theorem z_andV {tk : Tk P} : KE (mAndV ma mb env S) P tk ↔ OkE (ma env S) fun w S1 => OkV (blW w) fun k => if k = true then OkE (mb env S1) (fun v S2 => OkV (blW v) fun c => P (.d (.bl c)) S2) else P (.d (.bl false)) S1 := Kb.y_andV
theorem z_orV {tk : Tk P} : KE (mOrV ma mb env S) P tk ↔ OkE (ma env S) fun w S1 => OkV (blW w) fun k => if k = true then P (.d (.bl true)) S1 else OkE (mb env S1) (fun v S2 => OkV (blW v) fun c => P (.d (.bl c)) S2) := Kb.y_orV
theorem z_notV {tk : Tk P} : KE (mNotV ma env S) P tk ↔ OkE (ma env S) fun w S1 => OkV (blW w) fun k => P (.d (.bl (!k))) S1 := Kb.y_notV
theorem z_noPart {tk : Tk PO} : KO (mNoPart env S) PO tk ↔ PO none S := Zf.wp_noPart
theorem z_part {tk : Tk PO} : KO (mPart ma env S) PO tk ↔ OkE (ma env S) fun w S' => OkV (intW w) fun j => PO (some j) S' := Kb.y_part
theorem z_sl {tk : Tk P} : KE (mSl ma l h env S) P tk ↔ OkE (ma env S) fun w S1 => OkO (l env S1) fun lo S2 => OkO (h env S2) fun hi S3 => OkV (gSl S3 w lo hi) fun z => P z S3 := Kb.y_sl
theorem z_par {j : Nat} {tk : Tk PS} : KS (mPar i j ms env S) PS tk ↔ OkA (ms env S) fun ws S' => OkV (pairW ws) fun q => (isArg q.1 = true ∧ isArg q.2 = true ∧ i < env.length ∧ j < env.length) ∧ PS .nx ((env.set i (some q.1)).set j (some q.2)) S' := Kb.y_par
theorem z_unp {is : List Nat} {tk : Tk PS} : KS (mUnp is ms env S) PS tk ↔ OkA (ms env S) fun ws S' => ws.length ≤ cap ∧ OkV (bindAllW is ws env) fun env' => PS .nx env' S' := Kb.y_unp
theorem z_seqI {tk : Tk PI} : KI (mISeq ma env S) PI tk ↔ OkE (ma env S) fun w S' => OkV (seqW w) fun xs => PI xs S' := Kb.y_seqI
theorem z_seqS {tk : Tk PI} : KI (mISeqS ma env S) PI tk ↔ OkE (ma env S) fun w S' => OkV (seqWS w) fun xs => PI xs S' := Kb.y_seqS
theorem z_rng1 {tk : Tk PI} : KI (mIRng1 ms env S) PI tk ↔ OkA (ms env S) fun ws S' => OkV (int1W ws) fun n => (-1000000 < n ∧ n < 1000000) ∧ PI (dRange 0 n.toNat) S' := Kb.y_rng1
theorem z_for {t : Tg} {tk : Tk PS} : KS (mFor mi t a env S) PS tk ↔ OkI (mi env S) fun ds S' => OkS (goFor t a ds env S') PS := Zf.wp_for
theorem z_lc {tg : Tg} {vs : List Nat} {tk : Tk P} : KE (mLc mi tg t ma vs env S) P tk ↔ OkI (mi env S) fun ds S' => OkI (goLc tg t ma (wipeE env vs) ds S' []) fun xs S2 => P (.d (.lst xs)) S2 := Zf.wp_lc
theorem z_yes {tk : Tk PT} : KT (mYes env S) PT tk ↔ PT true S := Zf.wp_yes
theorem z_mutE {mo : ME} {g : Store → List W → List W → Option (List W)} {tk : Tk PS} : KS (mMutE mo ms g env S) PS tk ↔ OkE (mo env S) fun o S1 => ∃ n, o = .r n ∧ OkA (ms env S1) fun ws S' => ws.all isArg = true ∧ OkV S'[n]? fun xs => OkV (g S' xs ws) fun zs => PS .nx env (S'.set n zs) := Kb.y_mutE
theorem z_neg {tk : Tk P} : KE (mNeg ma env S) P tk ↔ OkE (ma env S) fun w S' => OkV (intW w) fun j => P (.d (.int (-j))) S' := Kb.y_neg
theorem z_inK {neg : Bool} {ks : List Str} {tk : Tk P} : KE (mInK neg ks ma env S) P tk ↔ OkE (ma env S) fun w S' => OkV (strW w) fun z => P (.d (.bl (neg != ks.contains z))) S' := Kb.y_inK
theorem z_isiC {T : String} {tk : Tk P} : KE (mIsiC n T ma env S) P tk ↔ OkE (ma env S) fun w S' => asked.contains T = true ∧ OkV (isiV n S' T w) fun k => P (.d (.bl k)) S' := Kb.y_isiC
theorem z_isi2C {T T' : String} {tk : Tk P} : KE (mIsi2C n T T' ma env S) P tk ↔ OkE (ma env S) fun w S' => (asked.contains T = true ∧ asked.contains T' = true) ∧ OkV (isiV n S' T w) fun k => OkV (isiV n S' T' w) fun k' => P (.d (.bl (k || k'))) S' := Kb.y_isi2C
theorem z_star {tk : Tk PA} : KA (mStar ma ms env S) PA tk ↔ OkE (ma env S) fun w S1 => OkV (vSeq S1 w) fun xs => OkA (ms env S1) fun ws S2 => PA (xs.map .d ++ ws) S2 := Kb.y_star
theorem z_dix {tk : Tk P} : KE (mDix ma mb env S) P tk ↔ OkE (ma env S) fun w S1 => OkE (mb env S1) fun v S2 => OkV (dctW w) fun kvs => OkV (dkey v) fun k => OkV (dval kvs k) fun d => P (.d d) S2 := Kb.y_dix
theorem z_dget2 {tk : Tk P} : KE (mDget2 ma mb mc env S) P tk ↔ OkE (ma env S) fun w S1 => OkE (mb env S1) fun v S2 => OkE (mc env S2) fun u S3 => OkV (dctW w) fun kvs => OkV (datW u) fun x => OkV (dkey v) fun k => P (.d ((dval kvs k).getD x)) S3 := Kb.y_dget2
theorem z_maxD {d : Int} {tk : Tk P} : KE (mMaxD d ma env S) P tk ↔ OkE (ma env S) fun w S' => OkV (vInts S' w) fun ns => P (.d (.int (maxOr d ns))) S' := Kb.y_maxD
theorem z_enum {tk : Tk PI} : KI (mIEnum ms env S) PI tk ↔ OkA (ms env S) fun ws S' => OkV (lst1W ws) fun xs => PI (dEnum 0 xs) S' := Kb.y_enum
theorem z_zip {tk : Tk PI} : KI (mIZip ms env S) PI tk ↔ OkA (ms env S) fun ws S' => OkV (lst2W ws) fun q => PI (dZip q.1 q.2) S' := Kb.y_zip
theorem z_chain {tk : Tk P} : KE (mChain g g' ma mb mc env S) P tk ↔ OkE (ma env S) fun x S1 => OkE (mb env S1) fun y S2 => OkV (g S2 x y) fun v => OkV (blW v) fun z => if z = true then OkE (mc env S2) fun u S3 => OkV (g' S3 y u) fun v => P v S3 else P (.d (.bl false)) S2 := Kb.y_chain
theorem z_ofT {tk : Tk P} : KE (mOfT t env S) P tk ↔ OkT (t env S) fun k S' => P (.d (.bl k)) S' := Kb.wp_ofT
theorem z_mut {g : Store → List W → List W → Option (List W)} {tk : Tk PS} : KS (mMut i ms g env S) PS tk ↔ OkA (ms env S) fun ws S' => ws.all isArg = true ∧ OkL env[i]? fun w => match w with
    | .own xs => xs.all isArg = true ∧ OkV (g S' xs ws) fun zs => PS .nx (env.set i (some (.own zs))) S'
    | .r n => OkV S'[n]? fun xs => OkV (g S' xs ws) fun zs => PS .nx env (S'.set n zs)
    | _ => False := Kb.y_mut
theorem z_frz {tk : Tk PS} : KS (mFrz i env S) PS tk ↔ match env[i]? with
    | some (some (.own xs)) => OkV (asDs xs) fun ds => PS .nx (env.set i (some (.d (.lst ds)))) S
    | _ => PS .nx env S := Kb.y_frz
theorem z_drop {tk : Tk PS} : KS (mDrop ma env S) PS tk ↔ OkE (ma env S) fun _ S' => PS .nx env S' := Kb.wp_drop
theorem z_okV_some {α : Type} {z : α} {P : α → Prop} {tk : Tk P} : KV (some z) P tk ↔ P z := okV_some
theorem z_okV_none {α : Type} {P : α → Prop} {tk : Tk P} : KV none P tk ↔ False := okV_none
theorem z_okL_some {w : W} {P : W → Prop} {tk : Tk P} : KL (some (some w)) P tk ↔ P w := okL_some
end
end Kb
local macro_rules | `(tactic| decreasing_with simp only [$ts,*]) => `(tactic| simp -dsimp only [↓Kb.k_E, ↓Kb.k_T, ↓Kb.k_A, ↓Kb.k_I, ↓Kb.k_S, ↓Kb.k_O, ↓Kb.k_V, ↓Kb.k_L, Kb.z_d, Kb.z_var, Kb.z_bin, Kb.z_tst, Kb.z_andT, Kb.z_orT, Kb.z_notT, Kb.z_if, Kb.z_nil, Kb.z_cons, Kb.z_call, Kb.z_cb, Kb.z_seq, Kb.z_next, Kb.z_ifS, Kb.z_set, Kb.z_ret, Kb.z_setIx, Kb.z_fn, Kb.z_frzE, Kb.z_pubE, Kb.z_lst, Kb.z_tup, Kb.z_lstO, Kb.z_andV, Kb.z_orV, Kb.z_notV, Kb.z_noPart, Kb.z_part, Kb.z_sl, Kb.z_par, Kb.z_unp, Kb.z_seqI, Kb.z_seqS, Kb.z_rng1, Kb.z_for, Kb.z_lc, Kb.z_yes, Kb.z_mutE, Kb.z_neg, Kb.z_inK, Kb.z_isiC, Kb.z_isi2C, Kb.z_star, Kb.z_dix, Kb.z_dget2, Kb.z_maxD, Kb.z_enum, Kb.z_zip, Kb.z_chain, Kb.z_ofT, Kb.z_mut, Kb.z_frz, Kb.z_drop, Kb.z_okV_some, Kb.z_okV_none, Kb.z_okL_some,
  Kb.isi_bool_non, Kb.isi_bool_bl, Kb.isi_bool_int, Kb.isi_bool_str, Kb.isi_bool_lst, Kb.isi_bool_tup, Kb.isi_bool_dct, Kb.ask_bool, Kb.isi_int_non, Kb.isi_int_bl, Kb.isi_int_int, Kb.isi_int_str, Kb.isi_int_lst, Kb.isi_int_tup, Kb.isi_int_dct, Kb.ask_int, Kb.isi_str_non, Kb.isi_str_bl, Kb.isi_str_int, Kb.isi_str_str, Kb.isi_str_lst, Kb.isi_str_tup, Kb.isi_str_dct, Kb.ask_str, Kb.isi_list_non, Kb.isi_list_bl, Kb.isi_list_int, Kb.isi_list_str, Kb.isi_list_lst, Kb.isi_list_tup, Kb.isi_list_dct, Kb.ask_list, Kb.isi_tuple_non, Kb.isi_tuple_bl, Kb.isi_tuple_int, Kb.isi_tuple_str, Kb.isi_tuple_lst, Kb.isi_tuple_tup, Kb.isi_tuple_dct, Kb.ask_tuple, Kb.isi_dict_non, Kb.isi_dict_bl, Kb.isi_dict_int, Kb.isi_dict_str, Kb.isi_dict_lst, Kb.isi_dict_tup, Kb.isi_dict_dct, Kb.ask_dict, Zf.v_int, Zf.v_addI, Zf.v_ltI, Zf.v_leI, Zf.v_gtI, Zf.v_geI, Kb.v_eqAI, Kb.v_eqAS, Zf.v_eqI, Zf.v_neI, Zf.v_eqS, Zf.v_neS, Zf.v_int1, Zf.v_int1b, Zf.v_abs, Zf.v_lenL, Zf.v_lenT, Zf.v_lenB, Zf.v_listL, Zf.v_listT, Kb.v_tupL, Kb.v_tupT, Kb.v_allB, Kb.v_isNon, Kb.v_notNon, Zf.toBor_d, Zf.toBor_r, Zf.toBor_own, Zf.unBor_d, Zf.unBor_r, Zf.unBor_bor, Zf.unBor_own, Zf.isArg_d, Zf.isArg_r, Zf.canSet_d, Zf.canSet_r, Zf.canSet_own, Kb.blW_bl, Kb.seqW_l, Kb.seqW_t, Kb.seqWS_l, Kb.seqWS_t, Kb.seqWS_s, Kb.ixt0, Kb.ixt1, Kb.ixt2, Kb.ixt3, Kb.asDs_nil, Kb.asDs_cons, Zf.asDs_map, Kb.intW_i, Kb.strW_s, Kb.ownW_o, Kb.int1W_i, Kb.lst1W_l, Kb.lst2W_l, Kb.dctW_d, Kb.datW_d, Kb.pairW_p, Kb.v_subI, Zf.cap,
  Option.some.injEq, exists_eq_left', exists_eq_left, List.getElem?_cons_zero, List.getElem?_cons_succ, List.length_cons, List.length_nil, List.length_map, List.map_cons, List.map_nil, List.all_cons, List.all_nil, Bool.and_true, Bool.true_and, and_self, true_and, and_true, List.cons_append, List.nil_append, List.replicate, Nat.reduceSub, Nat.reduceLT, Nat.reduceAdd, List.set_cons_zero, List.set_cons_succ, Zf.W.d.injEq, Zf.D.bl.injEq, Zf.D.int.injEq, Zf.D.str.injEq, if_true, if_false, Bool.not_true, Bool.not_false, Bool.false_eq_true, decide_true, decide_false, reduceCtorEq, Bool.or_true, Bool.or_false, Bool.true_or, Bool.false_or, Option.map_some, Option.bind_some, exists_false, exists_const, Kb.wipe0, Kb.wipe1, Int.reduceLT, Int.reduceLE, Int.reduceAdd, Int.reduceSub, Int.reduceNeg, decide_eq_true_eq, Bool.not_eq_true', decide_eq_false_iff_not, ↓reduceIte, Nat.reduceLeDiff, List.all_map, List.append_nil, $ts,*])
namespace Kb
open PySem PySem.Spec PyProof.Rows L2 Zf
def SOk (s : Str) : Prop := s.length ≤ 12 ∧ PyData.strOk s = true
theorem forInv {I : En → Store → Prop} {i : Nat} {body : MS} {P : Fl → En → Store → Prop} : ∀ {xs : List D} {env : En} {S : Store}, I env S →
    (∀ x ∈ xs, ∀ env S, I env S → i < env.length ∧ OkS (body (env.set i (some (.d x))) S) fun f e S' => (f = .nx ∨ f = .cont) ∧ I e S') → (∀ env S, I env S → P .nx env S) → OkS (goFor (.nm i) body xs env S) P
  | [], env, S, h0, _, q => wp_forNil.mpr (q env S h0)
  | x :: xs, env, S, h0, h, q => by
    obtain ⟨hi, hb⟩ := h x List.mem_cons_self env S h0
    refine wp_forCons.mpr ⟨env.set i (some (.d x)), if_pos hi, hb.mono fun f e S' ⟨hf, hI⟩ => ?_⟩
    have := forInv (body := body) (P := P) hI (fun y hy => h y (List.mem_cons_of_mem _ hy)) q
    rcases hf with rfl | rfl <;> exact this
def bagM : MF := mFn 1 2
    (mRet (mLstO (mCons (mD (.int 0)) (mCons (mD (.int 1234567891)) (mCons (mD (.int 0)) (mCons (mLc (mISeq (mSl (mVar 0) mNoPart (mPart (mD (.int 63))))) (.nm 1) mYes (mCB (g1 gAbs) (mCons (mVar 1) mNil)) [1]) mNil))))))
theorem absIs (x : Int) : 0 ≤ (if x < 0 then -x else x) := by split <;> omega
theorem bag_ok {ns : List Int} {P : W → Store → Prop} (hl : ns.length ≤ 63) (q : ∀ xs : List Int, xs.length ≤ 63 → (∀ x ∈ xs, 0 ≤ x) → P (.own (bagL 0 1234567891 0 xs)) []) : OkE (bagM [.d (.ro (ns.map .int))] []) P := by
  unfold bagM
  rw [wp_fn]
  refine ⟨⟨rfl, rfl⟩, ?_⟩
  rw [wp_ret, wp_lstO, wp_cons, wp_d, wp_cons, wp_d, wp_cons, wp_d, wp_cons, wp_lc, wp_seqI, wp_sl]
  simp only [wp_var, wp_noPart, wp_part, wp_d]
  have hs : gSl [] (.d (.ro (ns.map .int))) none (some 63) = some (.d (.lst ((ns.map .int).take 63))) := by
    show some (W.d (.lst (cutA (ns.map D.int) none (some ((63 : Nat) : Int))))) = _
    unfold cutA
    rw [HT.sIx_nat, HT.sIx_none, List.drop_zero, Nat.sub_zero, List.length_map]
    congr 3
    rw [List.take_of_length_le (by rw [List.length_map]; omega), List.take_of_length_le (by rw [List.length_map]; omega)]
  refine ⟨_, rfl, _, rfl, _, hs, _, .inl rfl, ?_⟩
  rw [← List.map_take]
  refine okI_eq (lcMap (e := D.int) (f := fun x => D.int (if x < 0 then -x else x)) (todo := ns.take 63) (acc := []) (i := 1) (by exact (show 1 < 2 from by decide)) (by rw [List.length_nil, List.length_take]; unfold cap; omega) fun x _ => ?_) ?_
  · refine eqE ?_
    simp only [wp_cb, wp_cons, wp_nil, wp_var]
    exact ⟨_, rfl, _, v_abs, rfl, trivial⟩
  · rw [wp_nil]
    refine ⟨⟨rfl, by exact (show 4 ≤ cap from by decide)⟩, ?_⟩
    have e : ([] ++ (ns.take 63).map fun x => D.int (if x < 0 then -x else x)) = ((ns.take 63).map fun x => if x < 0 then -x else x).map D.int := by
      rw [List.nil_append, List.map_map]
      rfl
    rw [e]
    refine q ((ns.take 63).map fun x => if x < 0 then -x else x) (by rw [List.length_map, List.length_take]; omega) fun x hx => ?_
    obtain ⟨y, _, rfl⟩ := List.mem_map.mp hx
    exact absIs y
theorem bag_at {xs : List Int} (h : xs.length ≤ 63) (h0 : ∀ x ∈ xs, 0 ≤ x) {S : Store} : Bag (S ++ [bagL 0 1234567891 0 xs]) S.length :=
  ⟨0, 1234567891, 0, xs, by simp, by decide, by decide, by decide, by decide, h0, h⟩
theorem bag_at0 {xs : List Int} (h : xs.length ≤ 63) (h0 : ∀ x ∈ xs, 0 ≤ x) : Bag [[.d (.int 0), .d (.int 1234567891), .d (.int 0), .d (.lst (xs.map .int))]] 0 := bag_at (S := []) h h0
inductive Row where
  | strike (m x : Str)
  | ctch (m x u : Str)
  | doo (y : Bool) (m : Str) (t : Bool) (as : List Str) (x : Str)
  | answer (m : Str) (t : Bool) (as : List Str)
  | jump (b : Bool)
  | iff (m : Str) (t1 : Bool) (l1 : List Row) (t2 : Bool) (l2 : List Row)
  | loop (m : Str) (t : Bool) (l : List Row)
  | guard (b : Bool) (t1 : Bool) (l1 : List Row) (t2 : Bool) (l2 : List Row)
def sq (t : Bool) (xs : List D) : D := match t with
  | true => .tup xs
  | false => .lst xs
inductive Wd where
  | strike | ctch | yld | doo | answer | again | leave | iff | loop | last | guard
def Wd.s : Wd → Str
  | .strike => "strike"
  | .ctch => "catch"
  | .yld => "yield"
  | .doo => "do"
  | .answer => "answer"
  | .again => "again"
  | .leave => "leave"
  | .iff => "if"
  | .loop => "loop"
  | .last => "last"
  | .guard => "guard"
mutual
def ok : Row → Prop
  | .strike m x => SOk m ∧ SOk x
  | .ctch m x u => SOk m ∧ SOk x ∧ SOk u
  | .doo _ m _ as x => SOk m ∧ (∀ a ∈ as, SOk a) ∧ as.length ≤ 3 ∧ SOk x
  | .answer m _ as => SOk m ∧ (∀ a ∈ as, SOk a) ∧ as.length ≤ 3
  | .jump _ => True
  | .iff m _ l1 _ l2 => SOk m ∧ oks l1 ∧ oks l2
  | .loop m _ l => SOk m ∧ oks l
  | .guard _ _ l1 _ l2 => oks l1 ∧ oks l2
def oks : List Row → Prop
  | [] => True
  | r :: rs => ok r ∧ oks rs
end
structure MkAt (S : Store) (m : Nat) (off : Int) (ms : List Str) : Prop where
  at_ : S[m]? = some (.d (.int off) :: ms.map fun s => .d (.str s))
  o0 : 0 ≤ off
  o1 : off < 1000000000
structure Gs (S : Store) (b m C : Nat) : Prop where
  bag : Bag S b
  ne : b ≠ m
  mks : ∃ off ms, MkAt S m off ms ∧ ms.length ≤ C ∧ ∀ s ∈ ms, SO 7 s
structure F2 (b m : Nat) (S S' : Store) : Prop where
  off : ∀ n, n ≠ b → n ≠ m → S'[n]? = S[n]?
  len : S'.length = S.length
theorem F2.refl (b m : Nat) (S : Store) : F2 b m S S := ⟨fun _ _ _ => rfl, rfl⟩
theorem Gs.le {b m C C' : Nat} {S : Store} (g : Gs S b m C) (h : C ≤ C') : Gs S b m C' := by
  obtain ⟨off, ms, h1, h2, h3⟩ := g.mks
  exact ⟨g.bag, g.ne, off, ms, h1, Nat.le_trans h2 h, h3⟩
structure F3 (b m k : Nat) (S S' : Store) : Prop where
  off : ∀ n, n ≠ b → n ≠ m → n ≠ k → S'[n]? = S[n]?
  len : S'.length = S.length
theorem F3.refl (b m k : Nat) (S : Store) : F3 b m k S S := ⟨fun _ _ _ _ => rfl, rfl⟩
structure FX (b : Nat) (S S' : Store) : Prop where
  bag : Bag S' b
  off : ∀ n, n < S.length → n ≠ b → S'[n]? = S[n]?
  len : S.length ≤ S'.length
theorem FX.refl {b : Nat} {S : Store} (B : Bag S b) : FX b S S := ⟨B, fun _ _ _ => rfl, Nat.le_refl _⟩
mutual
def okD : D → Bool
  | .non => true
  | .bl _ => true
  | .int i => decide (-999999999999 ≤ i) && decide (i ≤ 999999999999)
  | .str x => PyData.strOk x && decide (x.length ≤ 1000)
  | .lst xs => okDs xs
  | .tup xs => okDs xs
  | .dct kvs => kvs.isEmpty
  | _ => false
def okDs : List D → Bool
  | [] => true
  | x :: r => okD x && okDs r
end
mutual
def dD : D → Nat
  | .lst xs => dDs xs + 1
  | .tup xs => dDs xs + 1
  | .dct _ => 1
  | _ => 0
def dDs : List D → Nat
  | [] => 0
  | x :: r => max (dD x) (dDs r)
end
theorem okDs_cons {x : D} {r : List D} : okDs (x :: r) = true ↔ okD x = true ∧ okDs r = true := by
  show (okD x && okDs r) = true ↔ _
  rw [Bool.and_eq_true]
theorem okDs_all : ∀ {xs : List D}, okDs xs = true ↔ ∀ x ∈ xs, okD x = true
  | [] => ⟨(fun _ _ h => nomatch h), fun _ => rfl⟩
  | x :: r => by rw [okDs_cons, okDs_all (xs := r), List.forall_mem_cons]
theorem dDs_le {xs : List D} {k : Nat} : dDs xs ≤ k ↔ ∀ x ∈ xs, dD x ≤ k := by
  induction xs with
  | nil => exact ⟨(fun _ _ h => nomatch h), fun _ => Nat.zero_le _⟩
  | cons x r ih =>
    rw [List.forall_mem_cons, ← ih]
    show max (dD x) (dDs r) ≤ k ↔ _
    omega
structure Tm (k s : Nat) (x : D) : Prop where
  o : okD x = true
  d : dD x ≤ k
  s : szD x ≤ s
theorem Tm.lst {k s : Nat} {xs : List D} (h : ∀ y ∈ xs, okD y = true ∧ dD y ≤ k) (hs : szDs xs + 4 ≤ s) : Tm (k + 1) s (.lst xs) := ⟨okDs_all.mpr fun y hy => (h y hy).1, Nat.succ_le_succ (dDs_le.mpr fun y hy => (h y hy).2), hs⟩
theorem Tm.tup {k s : Nat} {xs : List D} (h : ∀ y ∈ xs, okD y = true ∧ dD y ≤ k) (hs : szDs xs + 4 ≤ s) : Tm (k + 1) s (.tup xs) := ⟨okDs_all.mpr fun y hy => (h y hy).1, Nat.succ_le_succ (dDs_le.mpr fun y hy => (h y hy).2), hs⟩
theorem Wd.ok (w : Wd) : SOk w.s := by cases w <;> exact ⟨by decide +kernel, by decide +kernel⟩
end Kb
namespace L10
open PySem PySem.Spec PyProof.Rows L2 Zf Kb
theorem tk {S : Store} {b : Nat} {m : Int} (B : Bag S b) (hm : 0 < m) (hm2 : m < 1000000001) {P : W → Store → Prop} (q : ∀ v S', 0 ≤ v → v < m → Kb.Fr b S S' → P (.d (.int v)) S') : OkE (m_law_take [.r b, .d (.int m)] S) P := take_okG B hm hm2 fun v S' h1 h2 h3 h4 h5 => q v S' h1 h2 ⟨h3, h4, h5⟩
def evs (w : W) : List W := [.ev 0 "place" w, .ev 1 "limit" w, .ev 2 "limit" w, .ev 3 "limit" w, .ev 4 "mark" w, .ev 5 "address" w, .ev 6 "address" w, .ev 7 "address" w, .ev 8 "gap" w, .ev 9 "mark" w, .ev 10 "at" w, .ev 11 "index" w, .ev 12 "stretch" w, .ev 13 "name" w, .ev 14 "way" w, .ev 15 "mark" w, .ev 16 "mark" w, .ev 17 "most" w, .ev 18 "deed" w, .ev 19 "many" w, .ev 21 "" (.d .non), .ev 22 "" (.d .non), .ev 23 "" (.d .non), .ev 24 "" (.d .non)]
theorem made_d (d : D) (S : Store) : m_law_made [.d d] S = some (.own (evs (.d d)), S) := rfl
theorem made_r (c : Nat) (S : Store) : m_law_made [.r c] S = some (.own (evs (.r c)), S) := rfl
theorem flags_P (f : Str) (w : W) (S : Store) : m_law_flags [.ev 20 f w] S = some (.d (.lst (List.replicate 24 (.bl false))), S) := rfl
section
variable {P : W → Store → Prop} {env : En} {S : Store} {ma : ME} {tk : Tk P}
def evFW (fn : Nat → Option Unit) (f : Str) : W → Option W
  | .ev c g w => if g = f then (fn c).map fun _ => w else none
  | _ => none
def isVW (tb : Nat → Option Bool) : W → Option Bool
  | .ev c _ _ => tb c
  | _ => none
theorem z_evF' {fn : Nat → Option Unit} {f : Str} : KE (mEvF fn f ma env S) P tk ↔ OkE (ma env S) fun w S' => OkV (evFW fn f w) fun v => P v S' := by
  unfold KE OkE OkV mEvF
  constructor
  · rintro ⟨r, e, h⟩
    obtain ⟨⟨w, S1⟩, e1, e2⟩ := Option.bind_eq_some_iff.mp e
    refine ⟨_, e1, ?_⟩
    dsimp only at e2 ⊢
    split at e2
    · split at e2
      · rename_i hg
        obtain ⟨u, e3, e4⟩ := Option.map_eq_some_iff.mp e2
        subst e4
        exact ⟨_, by unfold evFW; dsimp only; rw [if_pos hg, e3]; rfl, h⟩
      · cases e2
    · cases e2
  · rintro ⟨⟨w, S1⟩, e1, v, e2, h⟩
    refine ⟨(v, S1), ?_, h⟩
    rw [e1, Option.bind_some]
    dsimp only at e2 ⊢
    unfold evFW at e2
    split at e2
    · try dsimp only
      split at e2
      · rename_i hg
        obtain ⟨u, e3, e4⟩ := Option.map_eq_some_iff.mp e2
        subst e4
        rw [if_pos hg, e3]
        rfl
      · cases e2
    · cases e2
theorem z_isV' {tb : Nat → Option Bool} : KE (mIsV tb ma env S) P tk ↔ OkE (ma env S) fun w S' => OkV (isVW tb w) fun k => P (.d (.bl k)) S' := by
  unfold KE OkE OkV mIsV
  constructor
  · rintro ⟨r, e, h⟩
    obtain ⟨⟨w, S1⟩, e1, e2⟩ := Option.bind_eq_some_iff.mp e
    refine ⟨_, e1, ?_⟩
    dsimp only at e2 ⊢
    split at e2
    · obtain ⟨u, e3, e4⟩ := Option.map_eq_some_iff.mp e2
      subst e4
      exact ⟨_, e3, h⟩
    · cases e2
  · rintro ⟨⟨w, S1⟩, e1, v, e2, h⟩
    refine ⟨(.d (.bl v), S1), ?_, h⟩
    rw [e1, Option.bind_some]
    dsimp only at e2 ⊢
    unfold isVW at e2
    split at e2
    · try dsimp only
      rw [e2]
      rfl
    · cases e2
theorem z_mkE0' {c : Nat} : KE (mMkE0 c env S) P tk ↔ P (.ev c "" (.d .non)) S := ⟨fun ⟨r, e, h⟩ => by cases e; exact h, fun h => ⟨_, rfl, h⟩⟩
theorem z_mkE1' {c : Nat} : KE (mMkE1 c ma env S) P tk ↔ OkE (ma env S) fun _ S' => P (.ev c "" (.d .non)) S' := by
  unfold KE OkE mMkE1
  constructor
  · rintro ⟨r, e, h⟩
    obtain ⟨⟨w, S1⟩, e1, e2⟩ := Option.bind_eq_some_iff.mp e
    cases e2
    exact ⟨_, e1, h⟩
  · rintro ⟨⟨w, S1⟩, e1, h⟩
    exact ⟨_, by rw [e1]; rfl, h⟩
end
theorem ix_ev {S : Store} {c : Nat} {w : W} (h : S[c]? = some (evs w)) {k : Nat} {v : W} (hk : (evs w)[k]? = some v) (hb : toBor v = v) : gIx S (.r c) (.d (.int (k : Int))) = some v := by
  have hl : k < 24 := (List.getElem?_eq_some_iff.mp hk).1
  have hix : ixN 24 (k : Int) = some k := by
    unfold ixN
    simp
    omega
  simp only [gIx, vT]
  rw [show vLT S (.r c) = some (evs w) from h, Option.bind_some]
  show (((ixN (evs w).length (k : Int)).bind fun j => (evs w)[j]?).map toBor) = _
  rw [show (evs w).length = 24 from rfl, hix, Option.bind_some, hk]
  show some (toBor v) = _
  rw [hb]
theorem v_addO {S : Store} {xs ys : List W} (h : (xs.all isArg && ys.all isArg && decide (xs.length + ys.length ≤ 10000000)) = true) : gAddO S (.bor xs) (.own ys) = some (.own (xs ++ ys)) := by
  rw [Bool.and_eq_true, Bool.and_eq_true] at h
  obtain ⟨⟨h1, h2⟩, h3⟩ := h
  exact if_pos ⟨h1, h2, of_decide_eq_true h3⟩
def cmpM : ME := (mFrzE (mLcW (mICel (mPubE (mCall m_law_kept (mCons (mVar 6) mNil)))) (.nm 7) mYes (mBin gEqZ (mVar 7) (mVar 5)) (([("_law_found", 7)] : List (Str × Nat)).map (·.2))))
def b24 : MS := (mSeq (mSet 9 (mBin gIx (mVar 6) (mVar 8)))
    (mSeq (mIfS (mOrT (mNotT (mTst (mIsV tbv_PieceError (mVar 9)))) (mNotT (mTst (mIsV tbv_ValueError (mVar 9))))) (mRet (mD (.bl false))) mNext)
    (mIfS (mTst (mBin gNe (mCall m_law_flags (mCons (mVar 9) mNil)) (mLc (mIRng1 (mCons (mD (.int 24)) mNil)) (.nm 10) mYes (mBin gEqZ (mVar 10) (mVar 8)) (([("_law_j", 10)] : List (Str × Nat)).map (·.2))))) (mRet (mD (.bl false))) mNext)))
def lc3M : ME := (mLc (mIRng1 (mCons (mD (.int 3)) mNil)) (.nm 8) mYes (mCall m_law_caught (mCons (mVar 8) (mCons (mVar 5) mNil))) (([("_law_k", 8)] : List (Str × Nat)).map (·.2)))
def inB : MS := (mSeq (mSet 6 (mPubE (mCall m_law_made (mCons (mVar 5) mNil))))
    (mSeq (mIfS (mTst (mBin gNe cmpM (mBin gMulT (mLst (mCons (mD (.bl true)) mNil)) (mD (.int 20))))) (mRet (mD (.bl false))) mNext)
    (mSeq (mIfS (mTst (mIsiC 0 "list" (mVar 5))) (mSeq (mMut 5 (mCons (mBin gAdd (mVar 3) (mD (.int 1))) mNil) gApp)
    (mIfS (mTst (mBin gNe cmpM (mBin gMulT (mLst (mCons (mD (.bl true)) mNil)) (mD (.int 20))))) (mRet (mD (.bl false))) mNext)) mNext)
    (mSeq (mFor (mIRng1 (mCons (mD (.int 24)) mNil)) (.nm 8) b24)
    (mIfS (mTst (mBin gNe lc3M (mBin gMulT (mLst (mCons (mD (.bl true)) mNil)) (mD (.int 3))))) (mRet (mD (.bl false))) mNext)))))
def outB : MS := (mSeq (mSet 3 (mCall m_law_take (mCons (mVar 1) (mCons (mBin (gInt cPow fun i j => .int (i ^ j.toNat)) (mD (.int 10)) (mD (.int 9))) mNil))))
    (mSeq (mSet 4 (mBin gIx (mLstO (mCons (mVar 3) (mCons (mD (.str "a")) (mCons (mD .non) (mCons (mPubE (mLstO (mCons (mVar 3) mNil))) (mCons (mTup (mCons (mD (.str "x")) (mCons (mVar 3) mNil))) (mCons (mD (.dct [])) mNil))))))) (mCall m_law_take (mCons (mVar 1) (mCons (mD (.int 6)) mNil)))))
    (mSeq (mForW (mICelT (mTupW (mCons (mVar 4) (mCons (mPubE (mLstO (mCons (mVar 3) mNil))) mNil)))) (.nm 5) inB)
    (mIfS (mOrT (mTst (mBin gNe (mCall m_law_flags (mCons (mMkE1 20 (mD (.str "a"))) mNil)) (mBin gMulT (mLst (mCons (mD (.bl false)) mNil)) (mD (.int 24))))) (mNotT (mTst (mIsV tbv_ValueError (mMkE0 20))))) (mRet (mD (.bl false))) mNext))))
theorem law_eq : m_law = mFn 1 11
    (mSeq (mSet 1 (mPubE (mCall m_law_bag (mCons (mVar 0) mNil))))
    (mSeq (mFor (mIRng1 (mCons (mD (.int 3)) mNil)) (.nm 2) outB)
    (mRet (mD (.bl true))))) := rfl
theorem kept_eq {S : Store} {c : Nat} {w : W} (h : S[c]? = some (evs w)) (ha : isArg w = true) (hb : toBor w = w) : m_law_kept [.r c] S = some (.own (List.replicate 20 w), S) := by
  have g0 : gIx S (.r c) (.d (.int 0)) = some (.ev 0 "place" w) := ix_ev h (k := 0) rfl rfl
  have e0 : evFW fn_place "place" (.ev 0 "place" w) = some w := rfl
  have g1 : gIx S (.r c) (.d (.int 1)) = some (.ev 1 "limit" w) := ix_ev h (k := 1) rfl rfl
  have e1 : evFW fn_limit "limit" (.ev 1 "limit" w) = some w := rfl
  have g2 : gIx S (.r c) (.d (.int 2)) = some (.ev 2 "limit" w) := ix_ev h (k := 2) rfl rfl
  have e2 : evFW fn_limit "limit" (.ev 2 "limit" w) = some w := rfl
  have g3 : gIx S (.r c) (.d (.int 3)) = some (.ev 3 "limit" w) := ix_ev h (k := 3) rfl rfl
  have e3 : evFW fn_limit "limit" (.ev 3 "limit" w) = some w := rfl
  have g4 : gIx S (.r c) (.d (.int 4)) = some (.ev 4 "mark" w) := ix_ev h (k := 4) rfl rfl
  have e4 : evFW fn_mark "mark" (.ev 4 "mark" w) = some w := rfl
  have g5 : gIx S (.r c) (.d (.int 5)) = some (.ev 5 "address" w) := ix_ev h (k := 5) rfl rfl
  have e5 : evFW fn_address "address" (.ev 5 "address" w) = some w := rfl
  have g6 : gIx S (.r c) (.d (.int 6)) = some (.ev 6 "address" w) := ix_ev h (k := 6) rfl rfl
  have e6 : evFW fn_address "address" (.ev 6 "address" w) = some w := rfl
  have g7 : gIx S (.r c) (.d (.int 7)) = some (.ev 7 "address" w) := ix_ev h (k := 7) rfl rfl
  have e7 : evFW fn_address "address" (.ev 7 "address" w) = some w := rfl
  have g8 : gIx S (.r c) (.d (.int 8)) = some (.ev 8 "gap" w) := ix_ev h (k := 8) rfl rfl
  have e8 : evFW fn_gap "gap" (.ev 8 "gap" w) = some w := rfl
  have g9 : gIx S (.r c) (.d (.int 9)) = some (.ev 9 "mark" w) := ix_ev h (k := 9) rfl rfl
  have e9 : evFW fn_mark "mark" (.ev 9 "mark" w) = some w := rfl
  have g10 : gIx S (.r c) (.d (.int 10)) = some (.ev 10 "at" w) := ix_ev h (k := 10) rfl rfl
  have e10 : evFW fn_at "at" (.ev 10 "at" w) = some w := rfl
  have g11 : gIx S (.r c) (.d (.int 11)) = some (.ev 11 "index" w) := ix_ev h (k := 11) rfl rfl
  have e11 : evFW fn_index "index" (.ev 11 "index" w) = some w := rfl
  have g12 : gIx S (.r c) (.d (.int 12)) = some (.ev 12 "stretch" w) := ix_ev h (k := 12) rfl rfl
  have e12 : evFW fn_stretch "stretch" (.ev 12 "stretch" w) = some w := rfl
  have g13 : gIx S (.r c) (.d (.int 13)) = some (.ev 13 "name" w) := ix_ev h (k := 13) rfl rfl
  have e13 : evFW fn_name "name" (.ev 13 "name" w) = some w := rfl
  have g14 : gIx S (.r c) (.d (.int 14)) = some (.ev 14 "way" w) := ix_ev h (k := 14) rfl rfl
  have e14 : evFW fn_way "way" (.ev 14 "way" w) = some w := rfl
  have g15 : gIx S (.r c) (.d (.int 15)) = some (.ev 15 "mark" w) := ix_ev h (k := 15) rfl rfl
  have e15 : evFW fn_mark "mark" (.ev 15 "mark" w) = some w := rfl
  have g16 : gIx S (.r c) (.d (.int 16)) = some (.ev 16 "mark" w) := ix_ev h (k := 16) rfl rfl
  have e16 : evFW fn_mark "mark" (.ev 16 "mark" w) = some w := rfl
  have g17 : gIx S (.r c) (.d (.int 17)) = some (.ev 17 "most" w) := ix_ev h (k := 17) rfl rfl
  have e17 : evFW fn_most "most" (.ev 17 "most" w) = some w := rfl
  have g18 : gIx S (.r c) (.d (.int 18)) = some (.ev 18 "deed" w) := ix_ev h (k := 18) rfl rfl
  have e18 : evFW fn_deed "deed" (.ev 18 "deed" w) = some w := rfl
  have g19 : gIx S (.r c) (.d (.int 19)) = some (.ev 19 "many" w) := ix_ev h (k := 19) rfl rfl
  have e19 : evFW fn_many "many" (.ev 19 "many" w) = some w := rfl
  have a1 : ∀ S : Store, gAddO S (.bor [w, w, w, w, w, w]) (.own [w, w, w, w, w, w]) = some (.own [w, w, w, w, w, w, w, w, w, w, w, w]) := fun S => v_addO (by simp [ha])
  have a2 : ∀ S : Store, gAddO S (.bor [w, w, w, w, w, w, w, w, w, w, w, w]) (.own [w, w, w, w, w, w]) = some (.own [w, w, w, w, w, w, w, w, w, w, w, w, w, w, w, w, w, w]) := fun S => v_addO (by simp [ha])
  have a3 : ∀ S : Store, gAddO S (.bor [w, w, w, w, w, w, w, w, w, w, w, w, w, w, w, w, w, w]) (.own [w, w]) = some (.own [w, w, w, w, w, w, w, w, w, w, w, w, w, w, w, w, w, w, w, w]) := fun S => v_addO (by simp [ha])
  refine eqE ?_
  unfold m_law_kept
  (decreasing_with simp only [z_evF', ha, a1, a2, a3, g0, g1, g2, g3, g4, g5, g6, g7, g8, g9, g10, g11, g12, g13, g14, g15, g16, g17, g18, g19, e0, e1, e2, e3, e4, e5, e6, e7, e8, e9, e10, e11, e12, e13, e14, e15, e16, e17, e18, e19])
theorem lcRep {me : ME} {ew : En} {c t m : Nat} {w : W} {S : Store} (hS : S[c]? = some (List.replicate m w)) (ha : isArg w = true) (ht : t < ew.length) (he : me (ew.set t (some w)) S = some (.d (.bl true), S)) :
    ∀ (n i : Nat) (acc : List W), m - i < n → i ≤ m → acc.length + (m - i) ≤ 1000 → goLcW (.nm t) mYes me ew (.cel c) n i S acc = some (acc ++ List.replicate (m - i) (.d (.bl true)), S)
  | 0, i, acc, h, _, _ => absurd h (Nat.not_lt_zero _)
  | n + 1, i, acc, h, hi, hl => by
    rw [goLcW]
    rcases Nat.lt_or_ge i m with hlt | hge
    · have e0 : nxt S i (.cel c) = some (some w) := by
        show (S[c]?).bind _ = _
        rw [hS, Option.bind_some, List.getElem?_replicate, if_pos hlt]
        exact if_pos ha
      have e2 : bindW (.nm t) ew w = some (ew.set t (some w)) := if_pos ⟨ht, ha⟩
      rw [e0]
      dsimp only [Option.bind_some]
      rw [e2, Option.bind_some, show mYes (ew.set t (some w)) S = some (true, S) from rfl, Option.bind_some, if_pos rfl, he, Option.bind_some, if_pos ⟨rfl, show acc.length < 10000000 by omega⟩]
      dsimp only
      rw [lcRep hS ha ht he n (i + 1) (acc ++ [Zf.W.d (Zf.D.bl true)]) (by omega) hlt (by rw [List.length_append, List.length_singleton]; omega)]
      rw [show m - i = (m - (i + 1)) + 1 by omega, List.replicate_succ, List.append_assoc]
      rfl
    · obtain rfl : i = m := by omega
      have e0 : nxt S i (.cel c) = some none := by
        show (S[c]?).bind _ = _
        rw [hS, Option.bind_some, List.getElem?_eq_none (by simp)]
      rw [e0]
      dsimp only [Option.bind_some]
      rw [Nat.sub_self, List.replicate_zero, List.append_nil]
section
variable {S : Store} {s : Nat} {w : W} {a0 a1 a2 a3 a4 a7 a8 a9 a10 : Option W}
theorem cmp_eq (hS : S[s]? = some (evs w)) (ha : isArg w = true) (hb : toBor w = w) (he : gEqZ (S ++ [List.replicate 20 w]) w w = some (.d (.bl true))) :
    cmpM [a0, a1, a2, a3, a4, some w, some (.r s), a7, a8, a9, a10] S = some (.d (.lst (List.replicate 20 (.bl true))), S ++ [List.replicate 20 w]) := by
  have hr : (List.replicate 20 w).all isArg = true := by rw [List.all_replicate]; simp [ha]
  have e3 : mPubE (mCall m_law_kept (mCons (mVar 6) mNil)) [a0, a1, a2, a3, a4, some w, some (.r s), a7, a8, a9, a10] S = some (.r S.length, S ++ [List.replicate 20 w]) := by
    show ((m_law_kept [.r s] S).bind _) = _
    rw [kept_eq hS ha hb, Option.bind_some]
    exact if_pos hr
  have e2 : mICel (mPubE (mCall m_law_kept (mCons (mVar 6) mNil))) [a0, a1, a2, a3, a4, some w, some (.r s), a7, a8, a9, a10] S = some (.cel S.length, S ++ [List.replicate 20 w]) := by
    unfold mICel
    rw [e3]
    rfl
  have hc : (S ++ [List.replicate 20 w])[S.length]? = some (List.replicate 20 w) := by rw [List.getElem?_append_right (Nat.le_refl _), Nat.sub_self]; rfl
  unfold cmpM mFrzE mLcW
  rw [e2, Option.bind_some]
  have hz : Src.size (S ++ [List.replicate 20 w]) (.cel S.length) = 20 := by
    show ((S ++ [List.replicate 20 w]).getD S.length []).length = 20
    rw [List.getD_eq_getElem?_getD, hc]
    rfl
  dsimp only
  rw [hz]
  have h5 : mBin gEqZ (mVar 7) (mVar 5) [a0, a1, a2, a3, a4, some w, some (.r s), some w, a8, a9, a10] (S ++ [List.replicate 20 w]) = some (.d (.bl true), S ++ [List.replicate 20 w]) := by
    have v7 : mVar 7 [a0, a1, a2, a3, a4, some w, some (.r s), some w, a8, a9, a10] (S ++ [List.replicate 20 w]) = some (w, S ++ [List.replicate 20 w]) := by
      show some (toBor w, _) = _
      rw [hb]
    have v5 : mVar 5 [a0, a1, a2, a3, a4, some w, some (.r s), some w, a8, a9, a10] (S ++ [List.replicate 20 w]) = some (w, S ++ [List.replicate 20 w]) := by
      show some (toBor w, _) = _
      rw [hb]
    unfold mBin
    rw [v7, Option.bind_some, v5, Option.bind_some, he]
    rfl
  have h6 := lcRep (me := mBin gEqZ (mVar 7) (mVar 5)) (ew := wipeE [a0, a1, a2, a3, a4, some w, some (.r s), a7, a8, a9, a10] (([("_law_found", 7)] : List (Str × Nat)).map (fun x : Str × Nat => x.2))) (t := 7) hc ha (by exact (show 7 < 11 from by decide)) h5 (20 + 1) 0 [] (by decide) (by decide) (by decide)
  rw [h6]
  rfl
end
def r24 : MS := (mSeq (mIfS (mOrT (mNotT (mTst (mIsV tbv_PieceError (mVar 9)))) (mNotT (mTst (mIsV tbv_ValueError (mVar 9))))) (mRet (mD (.bl false))) mNext)
    (mIfS (mTst (mBin gNe (mCall m_law_flags (mCons (mVar 9) mNil)) (mLc (mIRng1 (mCons (mD (.int 24)) mNil)) (.nm 10) mYes (mBin gEqZ (mVar 10) (mVar 8)) (([("_law_j", 10)] : List (Str × Nat)).map (·.2))))) (mRet (mD (.bl false))) mNext))
theorem b24_eq : b24 = mSeq (mSet 9 (mBin gIx (mVar 6) (mVar 8))) r24 := rfl
section
variable {w : W}
theorem r24_ok : ∀ {k : Nat}, k < 24 → ∃ v, (evs w)[k]? = some v ∧ toBor v = v ∧ canSet v = true ∧ ∀ (a0 a1 a2 a3 a4 a5 a6 a7 a10 : Option W) (S : Store), r24 [a0, a1, a2, a3, a4, a5, a6, a7, some (.d (.int (k : Int))), some v, a10] S = some (.nx, [a0, a1, a2, a3, a4, a5, a6, a7, some (.d (.int (k : Int))), some v, a10], S)
  | 0, _ => ⟨.ev 0 "place" w, rfl, rfl, rfl, fun _ _ _ _ _ _ _ _ _ _ => by kernel_rfl⟩
  | 1, _ => ⟨.ev 1 "limit" w, rfl, rfl, rfl, fun _ _ _ _ _ _ _ _ _ _ => by kernel_rfl⟩
  | 2, _ => ⟨.ev 2 "limit" w, rfl, rfl, rfl, fun _ _ _ _ _ _ _ _ _ _ => by kernel_rfl⟩
  | 3, _ => ⟨.ev 3 "limit" w, rfl, rfl, rfl, fun _ _ _ _ _ _ _ _ _ _ => by kernel_rfl⟩
  | 4, _ => ⟨.ev 4 "mark" w, rfl, rfl, rfl, fun _ _ _ _ _ _ _ _ _ _ => by kernel_rfl⟩
  | 5, _ => ⟨.ev 5 "address" w, rfl, rfl, rfl, fun _ _ _ _ _ _ _ _ _ _ => by kernel_rfl⟩
  | 6, _ => ⟨.ev 6 "address" w, rfl, rfl, rfl, fun _ _ _ _ _ _ _ _ _ _ => by kernel_rfl⟩
  | 7, _ => ⟨.ev 7 "address" w, rfl, rfl, rfl, fun _ _ _ _ _ _ _ _ _ _ => by kernel_rfl⟩
  | 8, _ => ⟨.ev 8 "gap" w, rfl, rfl, rfl, fun _ _ _ _ _ _ _ _ _ _ => by kernel_rfl⟩
  | 9, _ => ⟨.ev 9 "mark" w, rfl, rfl, rfl, fun _ _ _ _ _ _ _ _ _ _ => by kernel_rfl⟩
  | 10, _ => ⟨.ev 10 "at" w, rfl, rfl, rfl, fun _ _ _ _ _ _ _ _ _ _ => by kernel_rfl⟩
  | 11, _ => ⟨.ev 11 "index" w, rfl, rfl, rfl, fun _ _ _ _ _ _ _ _ _ _ => by kernel_rfl⟩
  | 12, _ => ⟨.ev 12 "stretch" w, rfl, rfl, rfl, fun _ _ _ _ _ _ _ _ _ _ => by kernel_rfl⟩
  | 13, _ => ⟨.ev 13 "name" w, rfl, rfl, rfl, fun _ _ _ _ _ _ _ _ _ _ => by kernel_rfl⟩
  | 14, _ => ⟨.ev 14 "way" w, rfl, rfl, rfl, fun _ _ _ _ _ _ _ _ _ _ => by kernel_rfl⟩
  | 15, _ => ⟨.ev 15 "mark" w, rfl, rfl, rfl, fun _ _ _ _ _ _ _ _ _ _ => by kernel_rfl⟩
  | 16, _ => ⟨.ev 16 "mark" w, rfl, rfl, rfl, fun _ _ _ _ _ _ _ _ _ _ => by kernel_rfl⟩
  | 17, _ => ⟨.ev 17 "most" w, rfl, rfl, rfl, fun _ _ _ _ _ _ _ _ _ _ => by kernel_rfl⟩
  | 18, _ => ⟨.ev 18 "deed" w, rfl, rfl, rfl, fun _ _ _ _ _ _ _ _ _ _ => by kernel_rfl⟩
  | 19, _ => ⟨.ev 19 "many" w, rfl, rfl, rfl, fun _ _ _ _ _ _ _ _ _ _ => by kernel_rfl⟩
  | 20, _ => ⟨.ev 21 "" (.d .non), rfl, rfl, rfl, fun _ _ _ _ _ _ _ _ _ _ => by kernel_rfl⟩
  | 21, _ => ⟨.ev 22 "" (.d .non), rfl, rfl, rfl, fun _ _ _ _ _ _ _ _ _ _ => by kernel_rfl⟩
  | 22, _ => ⟨.ev 23 "" (.d .non), rfl, rfl, rfl, fun _ _ _ _ _ _ _ _ _ _ => by kernel_rfl⟩
  | 23, _ => ⟨.ev 24 "" (.d .non), rfl, rfl, rfl, fun _ _ _ _ _ _ _ _ _ _ => by kernel_rfl⟩
  | n + 24, h => absurd h (by omega)
end
section
variable {S : Store} {s : Nat} {w : W} {a0 a1 a2 a3 a4 a5 a7 o8 o9 o10 : Option W}
theorem in_dR {x : D} {n : Nat} (h : x ∈ dRange 0 n) : ∃ k : Nat, k < n ∧ x = .int (k : Int) := by
  unfold dRange at h
  obtain ⟨k, h1, h2⟩ := List.mem_map.mp h
  exact ⟨k, List.mem_range.mp h1, by rw [← h2]; simp⟩
theorem loop24 (hS : S[s]? = some (evs w)) {P : Fl → En → Store → Prop} (q : ∀ o8 o9 o10, P .nx [a0, a1, a2, a3, a4, a5, some (.r s), a7, o8, o9, o10] S) :
    OkS (mFor (mIRng1 (mCons (mD (.int 24)) mNil)) (.nm 8) b24 [a0, a1, a2, a3, a4, a5, some (.r s), a7, o8, o9, o10] S) P := by
  (decreasing_with simp only [id])
  refine forInv (I := fun e T => T = S ∧ ∃ o8 o9 o10, e = [a0, a1, a2, a3, a4, a5, some (.r s), a7, o8, o9, o10]) ⟨rfl, _, _, _, rfl⟩ (fun x hx e T hI => ?_) fun e T hI => ?_
  · obtain ⟨rfl, p8, p9, p10, rfl⟩ := hI
    obtain ⟨k, hk, rfl⟩ := in_dR (n := 24) hx
    refine ⟨by exact (show 8 < 11 from by decide), ?_⟩
    obtain ⟨v, h1, h2, h3, h4⟩ := r24_ok (w := w) hk
    rw [b24_eq]
    refine ⟨(.nx, [a0, a1, a2, a3, a4, a5, some (.r s), a7, some (.d (.int (k : Int))), some v, p10], T), ?_, .inl rfl, rfl, _, _, _, rfl⟩
    have e1 : mSet 9 (mBin gIx (mVar 6) (mVar 8)) [a0, a1, a2, a3, a4, a5, some (.r s), a7, some (.d (.int (k : Int))), p9, p10] T = some (.nx, [a0, a1, a2, a3, a4, a5, some (.r s), a7, some (.d (.int (k : Int))), some v, p10], T) := by
      have e2 : mBin gIx (mVar 6) (mVar 8) [a0, a1, a2, a3, a4, a5, some (.r s), a7, some (.d (.int (k : Int))), p9, p10] T = some (v, T) := by
        show (gIx T (.r s) (.d (.int (k : Int)))).map _ = _
        rw [ix_ev hS h1 h2]
        rfl
      unfold mSet
      rw [e2, Option.bind_some]
      exact if_pos ⟨by exact (show 9 < 11 from by decide), h3⟩
    show (mSeq (mSet 9 (mBin gIx (mVar 6) (mVar 8))) r24) [a0, a1, a2, a3, a4, a5, some (.r s), a7, some (.d (.int (k : Int))), p9, p10] T = _
    unfold mSeq
    rw [e1, Option.bind_some]
    exact h4 a0 a1 a2 a3 a4 a5 (some (.r s)) a7 p10 T
  · obtain ⟨rfl, p8, p9, p10, rfl⟩ := hI
    exact q _ _ _
theorem lc3_d (d : D) (a6 a8 a9 a10 : Option W) : lc3M [a0, a1, a2, a3, a4, some (.d d), a6, a7, a8, a9, a10] S = some (.d (.lst [.bl true, .bl true, .bl true]), S) := by kernel_rfl
theorem lc3_r (c : Nat) (a6 a8 a9 a10 : Option W) : lc3M [a0, a1, a2, a3, a4, some (.r c), a6, a7, a8, a9, a10] S = some (.d (.lst [.bl true, .bl true, .bl true]), S) := by kernel_rfl
theorem ne20 : gNe S (.d (.lst (List.replicate 20 (.bl true)))) (.d (.lst (List.replicate 20 (.bl true)))) = some (.d (.bl false)) := by kernel_rfl
theorem ne3 : gNe S (.d (.lst [.bl true, .bl true, .bl true])) (.d (.lst [.bl true, .bl true, .bl true])) = some (.d (.bl false)) := by kernel_rfl
theorem ne24 : gNe S (.d (.lst (List.replicate 24 (.bl false)))) (.d (.lst (List.replicate 24 (.bl false)))) = some (.d (.bl false)) := by kernel_rfl
end
def tr20 : List D := List.replicate 20 (.bl true)
def rp20 (w : W) : List W := List.replicate 20 w
def ev24 (w : W) : List W := evs w
theorem v20 (S : Store) : gMulT S (.d (.lst [.bl true])) (.d (.int 20)) = some (.d (.lst tr20)) := by kernel_rfl
theorem v3 (S : Store) : gMulT S (.d (.lst [.bl true])) (.d (.int 3)) = some (.d (.lst [.bl true, .bl true, .bl true])) := by kernel_rfl
theorem n20 (S : Store) : gNe S (.d (.lst tr20)) (.d (.lst tr20)) = some (.d (.bl false)) := ne20
theorem n3 (S : Store) : gNe S (.d (.lst [.bl true, .bl true, .bl true])) (.d (.lst [.bl true, .bl true, .bl true])) = some (.d (.bl false)) := ne3
theorem ev_arg {w : W} (h : isArg w = true) : (ev24 w).all isArg = true := by
  cases w <;> first | rfl | cases h
theorem at_len {S : Store} {l : List W} : (S ++ [l])[S.length]? = some l := by rw [List.getElem?_append_right (Nat.le_refl _), Nat.sub_self]; rfl
theorem at_app {S : Store} {n : Nat} {l l' : List W} (h : S[n]? = some l) : (S ++ [l'])[n]? = some l := by
  rw [List.getElem?_append_left (List.getElem?_eq_some_iff.mp h).1]
  exact h
section
variable {S : Store} {w : W} {a0 a1 a2 a3 a4 o6 o7 o8 o9 o10 : Option W} {P : Fl → En → Store → Prop}
theorem cmp' {s : Nat} (hS : S[s]? = some (ev24 w)) (ha : isArg w = true) (hb : toBor w = w) (he : gEqZ (S ++ [rp20 w]) w w = some (.d (.bl true))) :
    cmpM [a0, a1, a2, a3, a4, some w, some (.r s), o7, o8, o9, o10] S = some (.d (.lst tr20), S ++ [rp20 w]) := cmp_eq hS ha hb he
theorem in_d {d : D} (hE : ∀ T, gEqZ T (.d d) (.d d) = some (.d (.bl true))) (hL : ∀ T, isiV 0 T "list" (.d d) = some false) (q : ∀ o6 o7 o8 o9 o10, P .nx [a0, a1, a2, a3, a4, some (.d d), o6, o7, o8, o9, o10] (S ++ [ev24 (.d d)] ++ [rp20 (.d d)])) :
    OkS (inB [a0, a1, a2, a3, a4, some (.d d), o6, o7, o8, o9, o10] S) P := by
  have c1 := fun o8 o9 o10 o7 => cmp' (S := S ++ [ev24 (.d d)]) (w := .d d) (a0 := a0) (a1 := a1) (a2 := a2) (a3 := a3) (a4 := a4) (o7 := o7) (o8 := o8) (o9 := o9) (o10 := o10) at_len rfl rfl (hE _)
  have m1 : m_law_made [.d d] S = some (.own (ev24 (.d d)), S) := made_d d S
  have aL : asked.contains "list" = true := by decide
  unfold inB
  (decreasing_with simp only [z_okE m1, ev_arg (w := .d d) rfl, z_okE (c1 _ _ _ _), v20, n20, hL, aL])
  refine loop24 (w := .d d) (at_app at_len) fun p8 p9 p10 => ?_
  (decreasing_with simp only [z_okE (lc3_d _ _ _ _ _), v3, n3])
  exact q _ _ _ _ _
end
theorem eqCell {S : Store} {c : Nat} {xs : List W} {ds : List D} (h : S[c]? = some xs) (hw : wpysG (cellPy S 4) xs = some (ds.map pyD)) (hp : pyD (.lst ds) = .list (ds.map pyD)) (h1 : plD (.lst ds) = true) (h2 : dpD (.lst ds) ≤ 64) : gEqZ S (.r c) (.r c) = some (.d (.bl true)) := by
  have e1 : wpy S (.r c) = some (pyD (.lst ds)) := by
    show (S[c]?).bind _ = _
    rw [h, Option.bind_some, hw, hp]
    rfl
  have e2 : gEqP false S (.r c) (.r c) = some (.d (.bl true)) := by
    unfold gEqP
    rw [e1]
    refine (if_pos ⟨shaped_pl h1 h2, shaped_pl h1 h2⟩).trans ?_
    rw [eqv_pl _ h1]
    rfl
  have e0 : gEqS false S (.r c) (.r c) = none := rfl
  show ((((gEqS false S (.r c) (.r c)).or (gEqP false S (.r c) (.r c))).or _).or _).or _ = _
  rw [e0, e2]
  rfl
theorem pl_int {n : Int} (h0 : 0 ≤ n) (h1 : n < 1000000001) : plD (.int n) = true := by
  show (decide (-999999999999 ≤ n) && decide (n ≤ 999999999999)) = true
  rw [decide_eq_true (by omega), decide_eq_true (by omega)]
  rfl
theorem eq1 {S : Store} {c : Nat} {n : Int} (h0 : 0 ≤ n) (h1 : n < 1000000000) (h : S[c]? = some [.d (.int n)]) : gEqZ S (.r c) (.r c) = some (.d (.bl true)) := eqCell (ds := [.int n]) h rfl rfl (by show (plD (.int n) && true) = true; rw [pl_int h0 (by omega)]; rfl) (show 1 ≤ 64 from by decide)
theorem eq2 {S : Store} {c : Nat} {n m : Int} (h0 : 0 ≤ n) (h1 : n < 1000000000) (h2 : 0 ≤ m) (h3 : m < 1000000001) (h : S[c]? = some [.d (.int n), .d (.int m)]) : gEqZ S (.r c) (.r c) = some (.d (.bl true)) := eqCell (ds := [.int n, .int m]) h rfl rfl (by show (plD (.int n) && (plD (.int m) && true)) = true; rw [pl_int h0 (by omega), pl_int h2 h3]; rfl) (show 1 ≤ 64 from by decide)
section
variable {S : Store} {n : Int} {c : Nat} {a0 a1 a2 a4 o6 o7 o8 o9 o10 : Option W} {P : Fl → En → Store → Prop}
theorem at_set {S : Store} {c i : Nat} {l l' : List W} (h : S[i]? = some l) (hne : c ≠ i) : (S.set c l')[i]? = some l := by
  rw [List.getElem?_set_ne hne]
  exact h
theorem in_r (h0 : 0 ≤ n) (h1 : n < 1000000000) (hc : S[c]? = some [.d (.int n)]) (q : ∀ o6 o7 o8 o9 o10 T, T.length = S.length + 3 → (∀ i l, i ≠ c → S[i]? = some l → T[i]? = some l) → P .nx [a0, a1, a2, some (.d (.int n)), a4, some (.r c), o6, o7, o8, o9, o10] T) :
    OkS (inB [a0, a1, a2, some (.d (.int n)), a4, some (.r c), o6, o7, o8, o9, o10] S) P := by
  have hl : c < S.length := (List.getElem?_eq_some_iff.mp hc).1
  have c1 := fun o8 o9 o10 o7 => cmp' (S := S ++ [ev24 (.r c)]) (w := .r c) (a0 := a0) (a1 := a1) (a2 := a2) (a3 := some (.d (.int n))) (a4 := a4) (o7 := o7) (o8 := o8) (o9 := o9) (o10 := o10) at_len rfl rfl (eq1 (n := n) h0 h1 (at_app (at_app hc)))
  have m1 : m_law_made [.r c] S = some (.own (ev24 (.r c)), S) := made_r c S
  have aL : asked.contains "list" = true := by decide
  have hc2 : (S ++ [ev24 (.r c)] ++ [rp20 (.r c)])[c]? = some [.d (.int n)] := at_app (at_app hc)
  have hL : isiV 0 (S ++ [ev24 (.r c)] ++ [rp20 (.r c)]) "list" (.r c) = some true := by
    show ((((S ++ [ev24 (.r c)] ++ [rp20 (.r c)])[c]?).map fun _ => "list").map fun t => isTy t "list") = _
    rw [hc2]
    rfl
  have hg : ∀ T, gApp T [.d (.int n)] [.d (.int (n + 1))] = some [.d (.int n), .d (.int (n + 1))] := fun T => gApp_v (xs := [.d (.int n)]) (by show 1 < 10000000; decide)
  have hT : ((S ++ [ev24 (.r c)] ++ [rp20 (.r c)]).set c [.d (.int n), .d (.int (n + 1))])[c]? = some [.d (.int n), .d (.int (n + 1))] := by
    rw [List.getElem?_set_self (List.getElem?_eq_some_iff.mp hc2).1]
  have hE : ((S ++ [ev24 (.r c)] ++ [rp20 (.r c)]).set c [.d (.int n), .d (.int (n + 1))])[S.length]? = some (ev24 (.r c)) := at_set (at_app at_len) (by omega)
  have c2 := fun o8 o9 o10 o7 => cmp' (S := (S ++ [ev24 (.r c)] ++ [rp20 (.r c)]).set c [.d (.int n), .d (.int (n + 1))]) (w := .r c) (a0 := a0) (a1 := a1) (a2 := a2) (a3 := some (.d (.int n))) (a4 := a4) (o7 := o7) (o8 := o8) (o9 := o9) (o10 := o10) hE rfl rfl (eq2 (n := n) (m := n + 1) h0 h1 (by omega) (by omega) (at_app hT))
  unfold inB
  (decreasing_with simp only [z_okE m1, ev_arg (w := .r c) rfl, z_okE (c1 _ _ _ _), v20, n20, hL, aL, hc2, hg, z_okE (c2 _ _ _ _)])
  refine loop24 (w := .r c) (at_app hE) fun p8 p9 p10 => ?_
  (decreasing_with simp only [z_okE (lc3_r _ _ _ _ _), v3, n3])
  refine q _ _ _ _ _ _ (by simp only [List.length_append, List.length_set, List.length_cons, List.length_nil]) fun i l hi hl => ?_
  exact at_app (at_set (at_app (at_app hl)) (Ne.symm hi))
end
section
variable {S : Store} {c i n t : Nat} {body : MS} {env : En} {ws : List W} {w : W} {Q : Fl → En → Store → Prop}
theorem celW_nil (h : S[c]? = some ws) (hi : ws.length ≤ i) (q : Q .nx env S) : OkS (goForW (.nm t) body (.cel c) (n + 1) i env S) Q := by
  unfold OkS
  rw [goForW]
  have e : nxt S i (.cel c) = some none := by
    show (S[c]?).bind _ = _
    rw [h, Option.bind_some, List.getElem?_eq_none hi]
  rw [e]
  exact ⟨_, rfl, q⟩
theorem celW_cons (h : S[c]? = some ws) (hi : ws[i]? = some w) (ha : isArg w = true) (ht : t < env.length) (q : OkS (body (env.set t (some w)) S) fun f e S' => f = .nx ∧ OkS (goForW (.nm t) body (.cel c) n (i + 1) e S') Q) : OkS (goForW (.nm t) body (.cel c) (n + 1) i env S) Q := by
  obtain ⟨⟨f, e, S'⟩, e1, hf, q⟩ := q
  dsimp only at hf
  subst hf
  unfold OkS
  rw [goForW]
  have e0 : nxt S i (.cel c) = some (some w) := by
    show (S[c]?).bind _ = _
    rw [h, Option.bind_some, hi]
    exact if_pos ha
  have e2 : bindW (.nm t) env w = some (env.set t (some w)) := if_pos ⟨ht, ha⟩
  rw [e0]
  dsimp only [Option.bind_some]
  rw [e2, Option.bind_some, e1]
  exact q
end
theorem bag_of {S S' : Store} {b : Nat} (B : Bag S b) (h : ∀ l, S[b]? = some l → S'[b]? = some l) : Bag S' b := by
  obtain ⟨a, c, t, xs, h1, h2, h3, h4, h5, h6, h7⟩ := B
  exact ⟨a, c, t, xs, h _ h1, h2, h3, h4, h5, h6, h7⟩
def fa24 : List D := List.replicate 24 (.bl false)
theorem v24 (S : Store) : gMulT S (.d (.lst [.bl false])) (.d (.int 24)) = some (.d (.lst fa24)) := by kernel_rfl
theorem n24 (S : Store) : gNe S (.d (.lst fa24)) (.d (.lst fa24)) = some (.d (.bl false)) := ne24
theorem fP (S : Store) : m_law_flags [.ev 20 "" (.d .non)] S = some (.d (.lst fa24), S) := flags_P _ _ _
def Kind (S : Store) (n : Int) (w : W) : Prop := (∃ d, w = .d d ∧ (∀ T, gEqZ T (.d d) (.d d) = some (.d (.bl true))) ∧ ∀ T, isiV 0 T "list" (.d d) = some false) ∨ ∃ c, w = .r c ∧ 0 < c ∧ S[c]? = some [.d (.int n)]
section
variable {S : Store} {n : Int} {w : W} {a0 a1 a2 a4 o5 o6 o7 o8 o9 o10 : Option W} {P : Fl → En → Store → Prop}
theorem kind_ok (h0 : 0 ≤ n) (h1 : n < 1000000000) (k : Kind S n w) (q : ∀ o6 o7 o8 o9 o10 T, (∀ i l, w ≠ .r i → S[i]? = some l → T[i]? = some l) → P .nx [a0, a1, a2, some (.d (.int n)), a4, some w, o6, o7, o8, o9, o10] T) :
    OkS (inB [a0, a1, a2, some (.d (.int n)), a4, some w, o6, o7, o8, o9, o10] S) P := by
  rcases k with ⟨d, rfl, hE, hL⟩ | ⟨c, rfl, _, hc⟩
  · exact in_d hE hL fun p6 p7 p8 p9 p10 => q _ _ _ _ _ _ fun i l _ hi => at_app (at_app hi)
  · exact in_r h0 h1 hc fun p6 p7 p8 p9 p10 T _ hT => q _ _ _ _ _ _ fun i l hne hi => hT i l (fun z => hne (by rw [z])) hi
theorem kind_arg (k : Kind S n w) : isArg w = true := by
  rcases k with ⟨d, rfl, _⟩ | ⟨c, rfl, _⟩ <;> rfl
theorem pair_ok {c t : Nat} (h0 : 0 ≤ n) (h1 : n < 1000000000) (B : Bag S 0) (k : Kind S n w) (hc : S[c]? = some [.d (.int n)]) (hc0 : 0 < c) (hne : w ≠ .r c) (ht : S[t]? = some [w, .r c]) (htc : w ≠ .r t) (htc2 : t ≠ c)
    (q : ∀ o5 o6 o7 o8 o9 o10 T, Bag T 0 → P .nx [a0, a1, a2, some (.d (.int n)), a4, o5, o6, o7, o8, o9, o10] T) :
    OkS (goForW (.nm 5) inB (.cel t) 3 0 [a0, a1, a2, some (.d (.int n)), a4, o5, o6, o7, o8, o9, o10] S) P := by
  refine celW_cons ht rfl (kind_arg k) (by exact (show 5 < 11 from by decide)) ?_
  refine kind_ok h0 h1 k fun p6 p7 p8 p9 p10 T hT => ⟨rfl, ?_⟩
  have hw0 : w ≠ .r 0 := by
    rcases k with ⟨d, rfl, _⟩ | ⟨c', rfl, hpos, _⟩
    · exact fun z => by cases z
    · exact fun z => by
        injection z with z
        omega
  have ht1 : T[t]? = some [w, .r c] := hT t _ htc ht
  have hc1 : T[c]? = some [.d (.int n)] := hT c _ hne hc
  refine celW_cons ht1 rfl rfl (by exact (show 5 < 11 from by decide)) ?_
  refine in_r h0 h1 hc1 fun r6 r7 r8 r9 r10 T2 _ hT2 => ⟨rfl, ?_⟩
  refine celW_nil (hT2 t _ htc2 ht1) (Nat.le_refl _) ?_
  refine q _ _ _ _ _ _ T2 (bag_of B fun l hl => hT2 0 l (by omega) (hT 0 l hw0 hl))
end
theorem gEqZ_of {S : Store} {x y w : W} (h : gEqA S x y = some w) : gEqZ S x y = some w := by
  show ((gEqA S x y).or _).or _ = _
  rw [h]
  rfl
section
variable {S : Store} {n : Int}
theorem k_int : Kind S n (.d (.int n)) := .inl ⟨_, rfl, fun T => gEqZ_of (by rw [v_eqAI, decide_eq_true rfl]), fun T => rfl⟩
theorem k_str : Kind S n (.d (.str "a")) := .inl ⟨_, rfl, fun T => gEqZ_of (by rw [v_eqAS, decide_eq_true rfl]), fun T => rfl⟩
theorem k_non : Kind S n (.d .non) := .inl ⟨_, rfl, fun T => by kernel_rfl, fun T => rfl⟩
theorem k_dct : Kind S n (.d (.dct [])) := .inl ⟨_, rfl, fun T => by kernel_rfl, fun T => rfl⟩
theorem k_tup (h0 : 0 ≤ n) (h1 : n < 1000000000) : Kind S n (.d (.tup [.str "x", .int n])) := .inl ⟨_, rfl, fun T => gEqZ_of (eqPl (by
  show (plD (.str "x") && (plD (.int n) && true)) = true
  rw [pl_int h0 (by omega)]
  decide +kernel) (show 1 ≤ 64 from by decide) rfl), fun T => rfl⟩
theorem forW_ok {mi : MIW} {t : Tg} {body : MS} {env : En} {S S1 : Store} {src : Src} {Q : Fl → En → Store → Prop} (e : mi env S = some (src, S1)) (h : OkS (goForW t body src (src.size S1 + 1) 0 env S1) Q) : OkS (mForW mi t body env S) Q := by
  obtain ⟨r, h1, h2⟩ := h
  exact ⟨r, by unfold mForW; rw [e]; exact h1, h2⟩
def six (n : Int) (c : Nat) : List W := [.d (.int n), .d (.str "a"), .d .non, .r c, .d (.tup [.str "x", .int n]), .d (.dct [])]
theorem six_get (h0 : 0 ≤ n) (h1 : n < 1000000000) {c : Nat} (hc : 0 < c) (hS : S[c]? = some [.d (.int n)]) {k : Int} (k0 : 0 ≤ k) (k1 : k < 6) : ∃ w, gIx S (.own (six n c)) (.d (.int k)) = some w ∧ Kind S n w ∧ canSet w = true ∧ toBor w = w ∧ (∀ i, w = .r i → i = c) := by
  have h : k = 0 ∨ k = 1 ∨ k = 2 ∨ k = 3 ∨ k = 4 ∨ k = 5 := by omega
  rcases h with rfl | rfl | rfl | rfl | rfl | rfl
  · exact ⟨_, rfl, k_int, rfl, rfl, fun i z => by cases z⟩
  · exact ⟨_, rfl, k_str, rfl, rfl, fun i z => by cases z⟩
  · exact ⟨_, rfl, k_non, rfl, rfl, fun i z => by cases z⟩
  · exact ⟨_, rfl, .inr ⟨c, rfl, hc, hS⟩, rfl, rfl, fun i z => by injection z with z; exact z.symm⟩
  · exact ⟨_, rfl, k_tup h0 h1, rfl, rfl, fun i z => by cases z⟩
  · exact ⟨_, rfl, k_dct, rfl, rfl, fun i z => by cases z⟩
end
section
variable {S : Store} {a0 o2 o3 o4 o5 o6 o7 o8 o9 o10 : Option W} {P : Fl → En → Store → Prop}
theorem out_ok (B : Bag S 0) (q : ∀ o3 o4 o5 o6 o7 o8 o9 o10 T, Bag T 0 → P .nx [a0, some (.r 0), o2, o3, o4, o5, o6, o7, o8, o9, o10] T) :
    OkS (outB [a0, some (.r 0), o2, o3, o4, o5, o6, o7, o8, o9, o10] S) P := by
  have hp : (if cPow 10 9 = true then some (W.d (D.int (10 ^ Int.toNat 9))) else none) = some (W.d (D.int 1000000000)) := by kernel_rfl
  unfold outB
  (decreasing_with simp only [hp])
  refine tk B (by decide) (by decide) fun v S1 v0 v1 f1 => ?_
  (decreasing_with simp only [id])
  refine tk (bag_of f1.bag fun l hl => at_app hl) (by decide) (by decide) fun k S2 k0 k1 f2 => ?_
  have hpos : 0 < S1.length := by
    obtain ⟨_, _, _, _, B'⟩ := f1.bag
    exact (List.getElem?_eq_some_iff.mp B'.at_).1
  have hS2 : S2[S1.length]? = some [.d (.int v)] := (f2.off _ (by omega)).trans at_len
  obtain ⟨w, hw, hk, hcs, hb, hr⟩ := six_get (S := S2) v0 v1 hpos hS2 k0 k1
  have hw' : gIx S2 (.own [.d (.int v), .d (.str "a"), .d .non, .r S1.length, .d (.tup [.str "x", .int v]), .d (.dct [])]) (.d (.int k)) = some w := hw
  (decreasing_with simp only [hw', hcs, hb])
  have hA : isArg w = true := kind_arg hk
  have e1 : mTupW (mCons (mVar 4) (mCons (mPubE (mLstO (mCons (mVar 3) mNil))) mNil)) [a0, some (.r 0), o2, some (.d (.int v)), some w, o5, o6, o7, o8, o9, o10] S2 = some (.c .tup (S2.length + 1), S2 ++ [[.d (.int v)]] ++ [[w, .r S2.length]]) := by
    have e0 : mCons (mVar 4) (mCons (mPubE (mLstO (mCons (mVar 3) mNil))) mNil) [a0, some (.r 0), o2, some (.d (.int v)), some w, o5, o6, o7, o8, o9, o10] S2 = some ([w, .r S2.length], S2 ++ [[.d (.int v)]]) := by
      have e00 : mCons (mVar 4) (mCons (mPubE (mLstO (mCons (mVar 3) mNil))) mNil) [a0, some (.r 0), o2, some (.d (.int v)), some w, o5, o6, o7, o8, o9, o10] S2 = some ([toBor w, .r S2.length], S2 ++ [[.d (.int v)]]) := rfl
      rw [e00, hb]
    unfold mTupW
    rw [e0, Option.bind_some]
    refine (if_pos ⟨show 2 ≤ 10000000 by decide, by rw [List.all_cons, hA]; rfl, by simp [notD]⟩).trans ?_
    rw [List.length_append]
    rfl
  have e2 : mICelT (mTupW (mCons (mVar 4) (mCons (mPubE (mLstO (mCons (mVar 3) mNil))) mNil))) [a0, some (.r 0), o2, some (.d (.int v)), some w, o5, o6, o7, o8, o9, o10] S2 = some (.cel (S2.length + 1), S2 ++ [[.d (.int v)]] ++ [[w, .r S2.length]]) := by
    unfold mICelT
    rw [e1]
    rfl
  have ht : (S2 ++ [[.d (.int v)]] ++ [[w, .r S2.length]])[S2.length + 1]? = some [w, .r S2.length] := by
    rw [List.getElem?_append_right (by simp), List.length_append]
    simp
  have hlen : S2.length = S1.length + 1 := by rw [f2.len, List.length_append]; rfl
  have hsz : Src.size (S2 ++ [[.d (.int v)]] ++ [[w, .r S2.length]]) (.cel (S2.length + 1)) = 2 := by
    show ((S2 ++ [[W.d (D.int v)]] ++ [[w, W.r S2.length]] : Store).getD (S2.length + 1) []).length = 2
    rw [List.getD_eq_getElem?_getD, ht]
    rfl
  have hk' : Kind (S2 ++ [[.d (.int v)]] ++ [[w, .r S2.length]]) v w := by
    rcases hk with h | ⟨c, h1, h2, h3⟩
    · exact .inl h
    · exact .inr ⟨c, h1, h2, at_app (at_app h3)⟩
  refine forW_ok e2 ?_
  rw [hsz]
  refine pair_ok (c := S2.length) v0 v1 (bag_of f2.bag fun l hl => at_app (at_app hl)) hk' (at_app at_len) (by omega) (fun z => ?_) ht (fun z => ?_) (by omega) fun p5 p6 p7 p8 p9 p10 T hT => ?_
  · have := hr _ z
    omega
  · have := hr _ z
    omega
  · have tv : isVW tbv_ValueError (.ev 20 "" (.d .non)) = some true := rfl
    (decreasing_with simp only [z_mkE1', z_okE (fP _), v24, n24, z_isV', z_mkE0', tv])
    exact ⟨rfl, q _ _ _ _ _ _ _ _ T hT⟩
theorem law_okE {ns : List Int} (h : ns.length ≤ 63) : ∃ S', m_law [.d (.ro (ns.map .int))] [] = some (.d (.bl true), S') := by
  have key : OkE (m_law [.d (.ro (ns.map .int))] []) fun w _ => w = .d (.bl true) := by
    rw [law_eq]
    (decreasing_with simp only [show m_law_bag = bagM from rfl])
    refine bag_ok h fun xs hl h0 => ?_
    (decreasing_with simp only [bagL])
    have B0 := bag_at0 hl h0
    revert B0
    generalize [[W.d (D.int 0), W.d (D.int 1234567891), W.d (D.int 0), W.d (D.lst (List.map D.int xs))]] = S0
    intro B0
    refine forInv (I := fun env S => ∃ w2 w3 w4 w5 w6 w7 w8 w9 w10, env = [some (.d (.ro (ns.map .int))), some (.r 0), w2, w3, w4, w5, w6, w7, w8, w9, w10] ∧ Bag S 0) ⟨_, _, _, _, _, _, _, _, _, rfl, B0⟩ ?_ ?_
    · rintro x hx _ S ⟨w2, w3, w4, w5, w6, w7, w8, w9, w10, rfl, B⟩
      refine ⟨by exact (show 2 < 11 from by decide), ?_⟩
      exact out_ok B fun p3 p4 p5 p6 p7 p8 p9 p10 T hT => ⟨.inl rfl, _, _, _, _, _, _, _, _, _, rfl, hT⟩
    · rintro _ S ⟨w2, w3, w4, w5, w6, w7, w8, w9, w10, rfl, B⟩
      (decreasing_with simp only [id])
  obtain ⟨⟨w, S'⟩, e, rfl⟩ := key
  exact ⟨S', e⟩
end
end L10
namespace L10
open PySem PySem.Spec PyProof.Rows L2 Zf
theorem law_true (ns : List Int) (h : ns.length ≤ 63) : ∃ S', m_law [.d (.ro (ns.map .int))] [] = some (.d (.bl true), S') := law_okE h
end L10
set_option maxHeartbeats 4000000
open PySem PySem.W PySem.Calls PyProof.Rows
theorem PySem.Challenge.cw_cutoutpieces_k10_errors_holds : PySem.Challenge.rw_cutoutpieces_k10_errors.Holds := by
  w_on; o_law
  refine HandSHeadRun.head_any (r := (PySem.W.OpenLaw.row PySem.Challenge.rw_cutoutpieces_k10_errors)) (q := view (PySem.W.OpenLaw.row PySem.Challenge.rw_cutoutpieces_k10_errors).prog [33]) (H := L10.hk) (ob := L10.ob) (M := 12000) (loose := L10.loose) (d := HandSHeadRun.topDef (PySem.W.OpenLaw.row PySem.Challenge.rw_cutoutpieces_k10_errors).prog 33) (kwd := []) L10.ob_eq
    (by kernel_rfl) (fun s => by kernel_rfl) L10.run (by kernel_rfl) (by kernel_rfl) (by kernel_rfl) (by rfl) (by first | assumption | decide +kernel) (by decide +kernel) ⟨rfl, rfl, rfl, rfl, rfl, by decide +kernel⟩ ?hw ?hc
  case hw => w_witness2
  case hc =>
    refine Zf.walk_g (l := PySem.Challenge.rw_cutoutpieces_k10_errors) (n := 63) (k := L10.law_lv) (px := "_law_script") rfl (by decide) (by kernel_rfl) ⟨rfl, by decide, by decide⟩ ?_
    intro w mg fa h Y ns hmg0
    obtain ⟨K, KX, c⟩ := Y
    have hmg : mg ("law" : PySem.Str) = some (.ref fa) := by
      have e : (HandSHeadRun.topDef (PySem.W.OpenLaw.row PySem.Challenge.rw_cutoutpieces_k10_errors).prog 33).name = ("law" : PySem.Str) := by kernel_rfl
      rw [← e]
      exact hmg0
    have sy := Zf.sysB_ok (c.ex 0)
    obtain ⟨fd, D⟩ := c.d.def_ L10.law_ix rfl
    have hd : ∀ base : Heap, K.In base → base.Ns mainGlobals mg → Zf.Hd L10.fa L10.fn L10.ts L10.eb { P := PySem.Challenge.rw_cutoutpieces_k10_errors.prog, w := w, K := K, cls := L10.clsOf K, slt := L10.sltOf, exn := L10.exnOf : Zf.Gd } mg base := fun base a b => ⟨a, b, c, sy⟩
    have e := hmg.symm.trans ((hd h KX ns).glo L10.law_fact (x := "law") rfl)
    cases e
    have b := L2.FunD.bindsA (ps := ["_law_script"]) D fun _ _ _ _ _ _ us hl => match us, hl with | [_], _ => rfl
    exact ⟨{ P := PySem.Challenge.rw_cutoutpieces_k10_errors.prog, w := w, K := K, cls := L10.clsOf K, slt := L10.sltOf, exn := L10.exnOf : Zf.Gd }, fd, L10.m_law, rfl, rfl, KX, fun s v => b s [v] rfl, L10.law_true, fun base a b => L10.the_law (hd base a b) ⟨rfl, rfl, rfl, rfl⟩ rfl D⟩
