import PyProof.Rows.All
import Wide.All
import OpenK.AllK
import Wide.FinOn
import HandS.ForMost
import HandS.ForExc
import HandS.TupAny
import HandS.TupLe
import HandS.Style
import HandS.Deep
import HandS.Zip
import HandS.SortInts
import HandS.SortOrd
import KE.KIndexOf
import HandS.AnyAll
import KE.DataMinMax
import KE.SortData
import HandS.IsInst
import HandS.Conv
import HandS.ExcInit
import HandS.TryOnly
import KE.GoesEnum
import KE.GoesMore
import HandS.Iter
import KE.KDictPairs
import HandS.SortKw
import HandS.ExcIs
import HandS.ExcField
import HandS.Exc
import KE.SortCalls
import HandS.Flow
import HandS.SetFor
import HandS.Strs
import KE.RegKIsAll
import PyProof.ReprBulk
import PySem.Challenge.RW_labelways_k38_plans_by_kind
set_option Elab.async false
set_option linter.all false
set_option maxRecDepth 100000
set_option maxHeartbeats 4000000
namespace LW
open PySem PySem.Spec PyProof.Rows L2

/-! data by value; `loc n`: the n-th mutable cell -/
inductive D where
  | non | bl (b : Bool) | int (i : Int) | str (x : Str)
  | tup (ds : List D) | lst (ds : List D)
  | dK (ks : List Key) (ds : List D) | dT (ks : List (List Key)) (ds : List D)
  | loc (n : Nat) | scr (ns : List Int)
  | tpz (ds : List D)
  | xcp (a : Addr) (d : Option Addr) (ks : List Str) (ds : List D)
  deriving Inhabited

mutual
inductive Dr (K : PySem.W.Frag) (ph : List Addr) (F : Hp) : V → D → Prop
  | non : Dr K ph F .non .non
  | bl (b : Bool) : Dr K ph F (.bl b) (.bl b)
  | int (i : Int) : Dr K ph F (.int i) (.int i)
  | str (x : Str) : Dr K ph F (.str x) (.str x)
  | lst {a : Addr} {xs : List V} {ds : List D} : F a = some (.lst xs) → DrA K ph F xs ds → Dr K ph F (.ref a) (.lst ds)
  | tup {a : Addr} {xs : List V} {ds : List D} : F a = some (.tup xs) → DrA K ph F xs ds → Dr K ph F (.ref a) (.tup ds)
  | dK {a : Addr} {kvs : List (Key × V)} {ds : List D} : F a = some (.dK kvs) → DrA K ph F (kvs.map (·.2)) ds → Dr K ph F (.ref a) (.dK (kvs.map (·.1)) ds)
  | dT {a : Addr} {kvs : List (List Key × V)} {ds : List D} : F a = some (.dT kvs) → DrA K ph F (kvs.map (·.2)) ds → Dr K ph F (.ref a) (.dT (kvs.map (·.1)) ds)
  | loc {n : Nat} {a : Addr} : ph[n]? = some a → Dr K ph F (.ref a) (.loc n)
  | scr {a : Addr} {ns : List Int} : SqL K F a (ns.map V.int) → Dr K ph F (.ref a) (.scr ns)
  | tpz {a : Addr} {ob : Obj} {xs : List V} {ds : List D} : F a = some (.frz ob (.tup xs)) → ob.cls = .type "tuple" → ob.dict = none → DrA K ph F xs ds → Dr K ph F (.ref a) (.tpz ds)
  | xc0 {a : Addr} : Dr K ph F (.ref a) (.xcp a none [] [])
  | xcp {a dx : Addr} {vs : List (Str × V)} {ds : List D} : F dx = some (.xd vs) → DrA K ph F (vs.map (·.2)) ds → Dr K ph F (.ref a) (.xcp a (some dx) (vs.map (·.1)) ds)
inductive DrA (K : PySem.W.Frag) (ph : List Addr) (F : Hp) : List V → List D → Prop
  | nil : DrA K ph F [] []
  | cons {v : V} {vs : List V} {d : D} {ds : List D} : Dr K ph F v d → DrA K ph F vs ds → DrA K ph F (v :: vs) (d :: ds)
end

structure Ext (ph : List Addr) (F : Hp) (ph' : List Addr) (F' : Hp) : Prop where
  p : ∀ (n : Nat) (a : Addr), ph[n]? = some a → ph'[n]? = some a
  f : ∀ (b : Addr) (o : HO), F b = some o → F' b = some o
theorem Ext.refl {ph : List Addr} {F : Hp} : Ext ph F ph F := ⟨fun _ _ h => h, fun _ _ h => h⟩
theorem Ext.trans {p1 p2 p3 : List Addr} {F1 F2 F3 : Hp} (a : Ext p1 F1 p2 F2) (b : Ext p2 F2 p3 F3) : Ext p1 F1 p3 F3 :=
  ⟨fun n x h => b.p n x (a.p n x h), fun n x h => b.f n x (a.f n x h)⟩

section
variable {K : PySem.W.Frag} {ph ph' : List Addr} {F F' : Hp}
theorem rd_mono (f : ∀ (b : Addr) (o : HO), F b = some o → F' b = some o) {a : Addr} {u : HO} (h : Rd F a u) : Rd F' a u := by
  rcases h with h | ⟨o, h⟩
  · exact .inl (f _ _ h)
  · exact .inr ⟨o, f _ _ h⟩
theorem sqL_mono (f : ∀ (b : Addr) (o : HO), F b = some o → F' b = some o) {a : Addr} {xs : List V} (h : SqL K F a xs) : SqL K F' a xs := by
  rcases h with h | h
  · exact .inl (rd_mono f h)
  · exact .inr h
theorem sqT_mono (f : ∀ (b : Addr) (o : HO), F b = some o → F' b = some o) {a : Addr} {xs : List V} (h : SqT K F a xs) : SqT K F' a xs := by
  rcases h with h | h
  · exact .inl (rd_mono f h)
  · exact .inr h
mutual
theorem Dr.mono (e : Ext ph F ph' F') : ∀ (d : D) (v : V), Dr K ph F v d → Dr K ph' F' v d
  | .non, _, h => by cases h; exact .non
  | .bl b, _, h => by cases h; exact .bl b
  | .int b, _, h => by cases h; exact .int b
  | .str b, _, h => by cases h; exact .str b
  | .lst ds, _, h => by
    cases h with
    | lst h1 h2 => exact .lst (e.f _ _ h1) (DrA.mono e ds _ h2)
  | .tpz ds, _, h => by
    cases h with
    | tpz h1 h2 h3 h4 => exact .tpz (e.f _ _ h1) h2 h3 (DrA.mono e ds _ h4)
  | .xcp a d ks ds, _, h => by
    cases h with
    | xc0 => exact .xc0
    | xcp h1 h2 => exact .xcp (e.f _ _ h1) (DrA.mono e ds _ h2)
  | .tup ds, _, h => by
    cases h with
    | tup h1 h2 => exact .tup (e.f _ _ h1) (DrA.mono e ds _ h2)
  | .dK ks ds, _, h => by
    cases h with
    | dK h1 h2 => exact .dK (e.f _ _ h1) (DrA.mono e ds _ h2)
  | .dT ks ds, _, h => by
    cases h with
    | dT h1 h2 => exact .dT (e.f _ _ h1) (DrA.mono e ds _ h2)
  | .loc n, _, h => by
    cases h with
    | loc h1 => exact .loc (e.p _ _ h1)
  | .scr n, _, h => by
    cases h with
    | scr h1 => exact .scr (sqL_mono e.f h1)
theorem DrA.mono (e : Ext ph F ph' F') : ∀ (ds : List D) (vs : List V), DrA K ph F vs ds → DrA K ph' F' vs ds
  | [], _, h => by cases h; exact .nil
  | d :: ds, _, h => by
    cases h with
    | cons h1 h2 => exact .cons (Dr.mono e d _ h1) (DrA.mono e ds _ h2)
end
theorem Dr.up {v : V} {d : D} (h : Dr K ph F v d) (e : Ext ph F ph' F') : Dr K ph' F' v d := Dr.mono e d v h
theorem DrA.up {v : List V} {d : List D} (h : DrA K ph F v d) (e : Ext ph F ph' F') : DrA K ph' F' v d := DrA.mono e d v h
theorem DrA.len : ∀ {vs : List V} {ds : List D}, DrA K ph F vs ds → vs.length = ds.length
  | _, _, .nil => rfl
  | _, _, .cons _ t => congrArg (· + 1) (DrA.len t)
theorem DrA.get : ∀ {vs : List V} {ds : List D} {i : Nat} {d : D}, DrA K ph F vs ds → ds[i]? = some d → ∃ v, vs[i]? = some v ∧ Dr K ph F v d
  | _, _, _, _, .nil, h => by simp at h
  | _, _, 0, _, .cons r t, h => by simp at h; subst h; exact ⟨_, rfl, r⟩
  | _, _, i + 1, d, .cons r t, h => by
    obtain ⟨v, e, q⟩ := DrA.get (i := i) (d := d) t (by simpa using h)
    exact ⟨v, by simpa using e, q⟩
theorem DrA.getV : ∀ {vs : List V} {ds : List D} {i : Nat} {v : V}, DrA K ph F vs ds → vs[i]? = some v → ∃ d, ds[i]? = some d ∧ Dr K ph F v d
  | _, _, _, _, .nil, h => by simp at h
  | _, _, 0, _, .cons r t, h => by simp at h; subst h; exact ⟨_, rfl, r⟩
  | _, _, i + 1, d, .cons r t, h => by
    obtain ⟨v, e, q⟩ := DrA.getV (i := i) (v := d) t (by simpa using h)
    exact ⟨v, by simpa using e, q⟩
theorem DrA.app : ∀ {vs ws : List V} {ds es : List D}, DrA K ph F vs ds → DrA K ph F ws es → DrA K ph F (vs ++ ws) (ds ++ es)
  | _, _, _, _, .nil, s => s
  | _, _, _, _, .cons r t, s => .cons r (DrA.app t s)
theorem DrA.take : ∀ {vs : List V} {ds : List D} (n : Nat), DrA K ph F vs ds → DrA K ph F (vs.take n) (ds.take n)
  | _, _, 0, _ => .nil
  | _, _, _ + 1, .nil => .nil
  | _, _, n + 1, .cons r t => .cons r (DrA.take n t)
theorem DrA.drop : ∀ {vs : List V} {ds : List D} (n : Nat), DrA K ph F vs ds → DrA K ph F (vs.drop n) (ds.drop n)
  | _, _, 0, r => r
  | _, _, _ + 1, .nil => .nil
  | _, _, n + 1, .cons _ t => DrA.drop n t
theorem DrA.set {v : V} {d : D} (r : Dr K ph F v d) : ∀ {vs : List V} {ds : List D} (n : Nat), DrA K ph F vs ds → DrA K ph F (vs.set n v) (ds.set n d)
  | _, _, _, .nil => .nil
  | _, _, 0, .cons _ t => .cons r t
  | _, _, n + 1, .cons q t => .cons q (DrA.set r n t)
theorem DrA.erase : ∀ {vs : List V} {ds : List D} (n : Nat), DrA K ph F vs ds → DrA K ph F (vs.eraseIdx n) (ds.eraseIdx n)
  | _, _, _, .nil => .nil
  | _, _, 0, .cons _ t => t
  | _, _, n + 1, .cons q t => .cons q (DrA.erase n t)
theorem DrA.rev : ∀ {vs : List V} {ds : List D}, DrA K ph F vs ds → DrA K ph F vs.reverse ds.reverse
  | _, _, .nil => .nil
  | _, _, .cons q t => by
    rw [List.reverse_cons, List.reverse_cons]
    exact DrA.app (DrA.rev t) (.cons q .nil)
theorem DrA.ints : ∀ (ns : List Int), DrA K ph F (ns.map V.int) (ns.map D.int)
  | [] => .nil
  | n :: ns => .cons (.int n) (DrA.ints ns)
theorem DrA.of_ints : ∀ {ns : List Int} {vs : List V}, DrA K ph F vs (ns.map D.int) → vs = ns.map V.int
  | [], _, h => by cases h; rfl
  | n :: ns, _, h => by
    cases h with
    | cons h1 h2 => cases h1; rw [DrA.of_ints h2]; rfl
theorem DrA.of_bls : ∀ {ns : List Bool} {vs : List V}, DrA K ph F vs (ns.map D.bl) → vs = ns.map V.bl
  | [], _, h => by cases h; rfl
  | n :: ns, _, h => by
    cases h with
    | cons h1 h2 => cases h1; rw [DrA.of_bls h2]; rfl
theorem DrA.of_strs : ∀ {ns : List Str} {vs : List V}, DrA K ph F vs (ns.map D.str) → vs = ns.map V.str
  | [], _, h => by cases h; rfl
  | n :: ns, _, h => by
    cases h with
    | cons h1 h2 => cases h1; rw [DrA.of_strs h2]; rfl
end

/-! cells -/
inductive Cell where
  | lst (ds : List D) | dK (ks : List Key) (ds : List D) | dT (ks : List (List Key)) (ds : List D)
  | ins (C : Str) (fs : List (Str × D)) | dead
  deriving Inhabited

/-- the fields of an instance -/
inductive FsR (K : PySem.W.Frag) (ph : List Addr) (F : Hp) : List (Str × V) → List (Str × D) → Prop
  | nil : FsR K ph F [] []
  | cons {f : Str} {v : V} {d : D} {vs : List (Str × V)} {ds : List (Str × D)} : Dr K ph F v d → FsR K ph F vs ds → FsR K ph F ((f, v) :: vs) ((f, d) :: ds)

section
variable (K : PySem.W.Frag) (mg : Str → Option Value)
def CellR (ph : List Addr) (F H : Hp) (a : Addr) : Cell → Prop
  | .lst ds => F a = none ∧ ∃ xs, H a = some (.lst xs) ∧ DrA K ph F xs ds
  | .dK ks ds => F a = none ∧ ∃ kvs, H a = some (.dK kvs) ∧ kvs.map (·.1) = ks ∧ DrA K ph F (kvs.map (·.2)) ds
  | .dT ks ds => F a = none ∧ ∃ kvs, H a = some (.dT kvs) ∧ kvs.map (·.1) = ks ∧ DrA K ph F (kvs.map (·.2)) ds
  | .ins c fs => F a = none ∧ ∃ C dx vs, mg c = some (.ref C) ∧ H a = some (.ins C dx vs) ∧ FsR K ph F vs fs
  | .dead => ∃ o, H a = some o

/-- the entry of a body -/
structure En where
  H : Hp
  F : Hp
  ph : List Addr

structure Wd (Z : En) (ph : List Addr) (F : Hp) (sto : List Cell) (H : Hp) : Prop where
  fr : ∀ (b : Addr) (o : HO), Z.H b = some o → b ∉ Z.ph → H b = some o
  sub : ∀ (b : Addr) (o : HO), F b = some o → H b = some o
  ext : Ext Z.ph Z.F ph F
  new : ∀ (b : Addr) (o : HO), F b = some o → Z.F b = some o ∨ Z.H b = none ∨ b ∈ Z.ph ∨ ∃ xs, Z.H b = some (.tup xs)
  nd : ph.Nodup
  nph : ∀ b ∈ ph, b ∈ Z.ph ∨ Z.H b = none
  len : sto.length = ph.length
  cell : ∀ (n : Nat) (c : Cell) (a : Addr), sto[n]? = some c → ph[n]? = some a → CellR K mg ph F H a c
end

structure S where
  env : List (Option D)
  sto : List Cell
structure Exc where
  cls : Str
  fs : List (Str × D)
inductive Out (α : Type) where
  | ok (a : α) (s : S) | exc (x : Exc) (s : S) | bad
abbrev M (α : Type) := S → Out α
def bnd {α β : Type} (m : M α) (f : α → M β) : M β := fun s => match m s with
  | .ok a s' => f a s'
  | .exc x s' => .exc x s'
  | .bad => .bad
def ret {α : Type} (a : α) : M α := fun s => .ok a s
@[simp] theorem bnd_ret {α β : Type} (a : α) (f : α → M β) : bnd (ret a) f = f a := rfl

/-- what is told of slots -/
def EnvR (K : PySem.W.Frag) (ph : List Addr) (F : Hp) (env : List (Option D)) (sg : L2.St) : Prop :=
  env.length = sg.length ∧ ∀ (i : Nat) (d : D), env[i]? = some (some d) → ∃ v, sg[i]? = some (some v) ∧ Dr K ph F v d
structure Rel (K : PySem.W.Frag) (mg : Str → Option Value) (Z : En) (ph : List Addr) (F : Hp) (s : S) (sg : L2.St) (H : Hp) : Prop where
  w : Wd K mg Z ph F s.sto H
  e : EnvR K ph F s.env sg

/-- bounds that every heap keeps -/
def Bd (K : PySem.W.Frag) (H : Hp) : Prop := ∀ (a : Addr) (xs : List V), SqL K H a xs ∨ SqT K H a xs → xs.length ≤ sizeLine
theorem bd_of {X : Cx} {pins : List (Addr × Obj)} {sg : L2.St} {H : Hp} {s : Shared} (I : Inv X pins sg H s) : Bd X.K H := fun a xs h => by
  rcases h with h | h
  · obtain ⟨_, _, _, z⟩ := I.list h
    exact z
  · obtain ⟨_, _, _, z⟩ := I.tuple h
    exact z

/-- an exception as it lies: its class, its fields -/
def XR (K : PySem.W.Frag) (mg : Str → Option Value) (ph : List Addr) (F : Hp) (x : Exc) (c : Value) (dd : Option Addr) (H : Hp) : Prop :=
  mg x.cls = some c ∧ ((x.fs = [] ∧ dd = none) ∨ ∃ d vs, dd = some d ∧ H d = some (.xd vs) ∧ F d = some (.xd vs) ∧ FsR K ph F vs x.fs)

section
variable (K : PySem.W.Frag) (mg : Str → Option Value) (Z : En) (W : WX)
def ResX (x : Exc) (s' : S) (ph : List Addr) (F : Hp) : Prop :=
  ∀ (c : Value) (dd : Option Addr) (sg : L2.St) (H' : Hp) (ph' : List Addr) (F' : Hp), Ext ph F ph' F' → Rel K mg Z ph' F' s' sg H' → XR K mg ph' F' x c dd H' → W c dd sg H'
def Res (sg : L2.St) (o : Out D) (ph : List Addr) (F : Hp) (Q : V → Hp → Prop) : Prop := match o with
  | .ok d s' => ∀ (v : V) (H' : Hp) (ph' : List Addr) (F' : Hp), Ext ph F ph' F' → Rel K mg Z ph' F' s' sg H' → Dr K ph' F' v d → Bd K H' → Q v H'
  | .exc x s' => ResX K mg Z W x s' ph F
  | .bad => False
def tE (K : PySem.W.Frag) (mg : Str → Option Value) (W : WX) (m : M D) : TE := fun sg H Q => ∃ Z ph F s, Rel K mg Z ph F s sg H ∧ Res K mg Z W sg (m s) ph F Q
def ResA (sg : L2.St) (o : Out (List D)) (ph : List Addr) (F : Hp) (Q : List V → Hp → Prop) : Prop := match o with
  | .ok d s' => ∀ (v : List V) (H' : Hp) (ph' : List Addr) (F' : Hp), Ext ph F ph' F' → Rel K mg Z ph' F' s' sg H' → DrA K ph' F' v d → Bd K H' → Q v H'
  | .exc x s' => ResX K mg Z W x s' ph F
  | .bad => False
def tA (K : PySem.W.Frag) (mg : Str → Option Value) (W : WX) (m : M (List D)) : TA := fun sg H Q => ∃ Z ph F s, Rel K mg Z ph F s sg H ∧ ResA K mg Z W sg (m s) ph F Q
def ResT (sg : L2.St) (o : Out Bool) (ph : List Addr) (F : Hp) (Q : Bool → Hp → Prop) : Prop := match o with
  | .ok d s' => ∀ (H' : Hp) (ph' : List Addr) (F' : Hp), Ext ph F ph' F' → Rel K mg Z ph' F' s' sg H' → Bd K H' → Q d H'
  | .exc x s' => ResX K mg Z W x s' ph F
  | .bad => False
def tT (K : PySem.W.Frag) (mg : Str → Option Value) (W : WX) (m : M Bool) : TT := fun sg H Q => ∃ Z ph F s, Rel K mg Z ph F s sg H ∧ ResT K mg Z W sg (m s) ph F Q
end

/-! judgements -/
structure SE (W : WX) (X : Cx) (e : Expr) (m : M D) : Prop where
  pe : PE X e (tE X.K X.mg W m)
structure SA (W : WX) (X : Cx) (es : List Expr) (m : M (List D)) : Prop where
  pa : PA X es (tA X.K X.mg W m)
structure STt (W : WX) (X : Cx) (e : Expr) (m : M Bool) : Prop where
  pt : PT X e (tT X.K X.mg W m)

section
variable {K : PySem.W.Frag} {mg : Str → Option Value} {Z : En} {W : WX} {sg : L2.St} {ph ph' : List Addr} {F F' H : Hp} {s : S}
theorem ResX.up {x : Exc} {s' : S} (h : ResX K mg Z W x s' ph F) (e : Ext ph F ph' F') : ResX K mg Z W x s' ph' F' :=
  fun c dd sg H' p2 F2 e2 => h c dd sg H' p2 F2 (e.trans e2)
theorem Res.up {o : Out D} {Q : V → Hp → Prop} (h : Res K mg Z W sg o ph F Q) (e : Ext ph F ph' F') : Res K mg Z W sg o ph' F' Q := by
  cases o with
  | ok d s' => exact fun v H' p2 F2 e2 => h v H' p2 F2 (e.trans e2)
  | exc x s' => exact ResX.up h e
  | bad => exact h
theorem ResA.up {o : Out (List D)} {Q : List V → Hp → Prop} (h : ResA K mg Z W sg o ph F Q) (e : Ext ph F ph' F') : ResA K mg Z W sg o ph' F' Q := by
  cases o with
  | ok d s' => exact fun v H' p2 F2 e2 => h v H' p2 F2 (e.trans e2)
  | exc x s' => exact ResX.up h e
  | bad => exact h
theorem ResT.up {o : Out Bool} {Q : Bool → Hp → Prop} (h : ResT K mg Z W sg o ph F Q) (e : Ext ph F ph' F') : ResT K mg Z W sg o ph' F' Q := by
  cases o with
  | ok d s' => exact fun H' p2 F2 e2 => h H' p2 F2 (e.trans e2)
  | exc x s' => exact ResX.up h e
  | bad => exact h

/-- the shape that Res, ResA, ResT, and the blocks' have in common: what is told at an exception, and nothing at bad -/
structure Kd {α : Type} (R : Out α → List Addr → Hp → Prop) (K : PySem.W.Frag) (mg : Str → Option Value) (Z : En) (W : WX) : Prop where
  exc : ∀ x s' ph F, R (.exc x s') ph F → ResX K mg Z W x s' ph F
  bad : ∀ ph F, ¬ R .bad ph F
theorem kdE {Q : V → Hp → Prop} : Kd (fun o ph F => Res K mg Z W sg o ph F Q) K mg Z W := ⟨fun _ _ _ _ h => h, fun _ _ h => h⟩
theorem kdA {Q : List V → Hp → Prop} : Kd (fun o ph F => ResA K mg Z W sg o ph F Q) K mg Z W := ⟨fun _ _ _ _ h => h, fun _ _ h => h⟩
theorem kdT {Q : Bool → Hp → Prop} : Kd (fun o ph F => ResT K mg Z W sg o ph F Q) K mg Z W := ⟨fun _ _ _ _ h => h, fun _ _ h => h⟩

/-- one expression, then the rest -/
theorem tE_bnd {α : Type} {R : Out α → List Addr → Hp → Prop} (kd : Kd R K mg Z W) {ma : M D} {f : D → M α} (r : Rel K mg Z ph F s sg H) (h : R (bnd ma f s) ph F) {Q : V → Hp → Prop}
    (hk : ∀ (d : D) (s' : S) (v : V) (H' : Hp) (ph' : List Addr) (F' : Hp), Ext ph F ph' F' → Rel K mg Z ph' F' s' sg H' → Dr K ph' F' v d → Bd K H' → R (f d s') ph F → Q v H') : tE K mg W ma sg H Q := by
  refine ⟨_, ph, F, s, r, ?_⟩
  unfold bnd at h
  cases e : ma s with
  | ok d s' =>
    rw [e] at h
    exact fun v H' p2 F2 e2 r2 q2 b2 => hk d s' v H' p2 F2 e2 r2 q2 b2 h
  | exc x s' =>
    rw [e] at h
    exact kd.exc _ _ _ _ h
  | bad =>
    rw [e] at h
    exact kd.bad _ _ h
theorem tA_bnd {α : Type} {R : Out α → List Addr → Hp → Prop} (kd : Kd R K mg Z W) {ma : M (List D)} {f : List D → M α} (r : Rel K mg Z ph F s sg H) (h : R (bnd ma f s) ph F) {Q : List V → Hp → Prop}
    (hk : ∀ (d : List D) (s' : S) (v : List V) (H' : Hp) (ph' : List Addr) (F' : Hp), Ext ph F ph' F' → Rel K mg Z ph' F' s' sg H' → DrA K ph' F' v d → Bd K H' → R (f d s') ph F → Q v H') : tA K mg W ma sg H Q := by
  refine ⟨_, ph, F, s, r, ?_⟩
  unfold bnd at h
  cases e : ma s with
  | ok d s' =>
    rw [e] at h
    exact fun v H' p2 F2 e2 r2 q2 b2 => hk d s' v H' p2 F2 e2 r2 q2 b2 h
  | exc x s' =>
    rw [e] at h
    exact kd.exc _ _ _ _ h
  | bad =>
    rw [e] at h
    exact kd.bad _ _ h
theorem tT_bnd {α : Type} {R : Out α → List Addr → Hp → Prop} (kd : Kd R K mg Z W) {ma : M Bool} {f : Bool → M α} (r : Rel K mg Z ph F s sg H) (h : R (bnd ma f s) ph F) {Q : Bool → Hp → Prop}
    (hk : ∀ (d : Bool) (s' : S) (H' : Hp) (ph' : List Addr) (F' : Hp), Ext ph F ph' F' → Rel K mg Z ph' F' s' sg H' → Bd K H' → R (f d s') ph F → Q d H') : tT K mg W ma sg H Q := by
  refine ⟨_, ph, F, s, r, ?_⟩
  unfold bnd at h
  cases e : ma s with
  | ok d s' =>
    rw [e] at h
    exact fun H' p2 F2 e2 r2 b2 => hk d s' H' p2 F2 e2 r2 b2 h
  | exc x s' =>
    rw [e] at h
    exact kd.exc _ _ _ _ h
  | bad =>
    rw [e] at h
    exact kd.bad _ _ h
end

/-! weakening; the bounds come for nothing -/
section
variable {X : Cx} {e : Expr} {es : List Expr}
theorem pe_bd {t t' : TE} (h : PE X e t) (k : ∀ sg H Q, Bd X.K H → t' sg H Q → t sg H fun v H' => Bd X.K H' → Q v H') : PE X e t' :=
  ⟨fun pins s sg H Q I q => thn (h.run pins s sg H _ I (k sg H Q (bd_of I) q)) fun u s' ⟨v, H', I', r, q'⟩ => ⟨v, H', I', r, q' (bd_of I')⟩⟩
theorem pa_bd {t t' : TA} (h : PA X es t) (k : ∀ sg H Q, Bd X.K H → t' sg H Q → t sg H fun v H' => Bd X.K H' → Q v H') : PA X es t' :=
  ⟨fun pos pins s sg H Q I q => thn (h.run pos pins s sg H _ I (k sg H Q (bd_of I) q)) fun u s' ⟨v, H', I', r, q'⟩ => ⟨v, H', I', r, q' (bd_of I')⟩⟩
theorem pt_bd {t t' : TT} (h : PT X e t) (k : ∀ sg H Q, Bd X.K H → t' sg H Q → t sg H fun v H' => Bd X.K H' → Q v H') : PT X e t' :=
  ⟨fun pins s sg H Q I q => thn (h.run pins s sg H _ I (k sg H Q (bd_of I) q)) fun u s' ⟨H', I', q'⟩ => ⟨H', I', q' (bd_of I')⟩⟩
theorem pw_bd {t t' : TT} (h : PW X e t) (k : ∀ sg H Q, Bd X.K H → t' sg H Q → t sg H fun v H' => Bd X.K H' → Q v H') : PW X e t' :=
  ⟨fun wh pins s sg H Q I q => thn (h.run wh pins s sg H _ I (k sg H Q (bd_of I) q)) fun u s' ⟨H', I', q'⟩ => ⟨H', I', q' (bd_of I')⟩⟩
variable {Z : En} {W : WX}
theorem SE.of {t : TE} {m : M D} (h : PE X e t) (k : ∀ Z ph F s sg H Q, Rel X.K X.mg Z ph F s sg H → Bd X.K H → Res X.K X.mg Z W sg (m s) ph F Q → t sg H fun v H' => Bd X.K H' → Q v H') : SE W X e m :=
  ⟨pe_bd h fun sg H Q b ⟨Z, ph, F, s, r, q⟩ => k Z ph F s sg H Q r b q⟩
theorem SA.of {t : TA} {m : M (List D)} (h : PA X es t) (k : ∀ Z ph F s sg H Q, Rel X.K X.mg Z ph F s sg H → Bd X.K H → ResA X.K X.mg Z W sg (m s) ph F Q → t sg H fun v H' => Bd X.K H' → Q v H') : SA W X es m :=
  ⟨pa_bd h fun sg H Q b ⟨Z, ph, F, s, r, q⟩ => k Z ph F s sg H Q r b q⟩
theorem STt.of {t : TT} {m : M Bool} (h : PT X e t) (k : ∀ Z ph F s sg H Q, Rel X.K X.mg Z ph F s sg H → Bd X.K H → ResT X.K X.mg Z W sg (m s) ph F Q → t sg H fun v H' => Bd X.K H' → Q v H') : STt W X e m :=
  ⟨pt_bd h fun sg H Q b ⟨Z, ph, F, s, r, q⟩ => k Z ph F s sg H Q r b q⟩
end
end LW
namespace LW
open PySem PySem.Spec L2

/-! the worlds: a new frozen thing; reading; writing a cell -/
section
variable {K : PySem.W.Frag} {mg : Str → Option Value} {Z : En} {ph : List Addr} {F H : Hp} {s : S} {sg : L2.St} {sto : List Cell}
theorem CellR.up {ph' : List Addr} {F' H' : Hp} {a : Addr} {c : Cell} (h : CellR K mg ph F H a c) (e : Ext ph F ph' F') (hn : F a = none → F' a = none) (hh : ∀ o, H a = some o → H' a = some o) : CellR K mg ph' F' H' a c := by
  cases c with
  | lst ds => obtain ⟨h0, xs, h1, h2⟩ := h; exact ⟨hn h0, xs, hh _ h1, h2.up e⟩
  | dK ks ds => obtain ⟨h0, xs, h1, h2, h3⟩ := h; exact ⟨hn h0, xs, hh _ h1, h2, h3.up e⟩
  | dT ks ds => obtain ⟨h0, xs, h1, h2, h3⟩ := h; exact ⟨hn h0, xs, hh _ h1, h2, h3.up e⟩
  | ins c fs =>
    obtain ⟨h0, C, dx, vs, h1, h2, h3⟩ := h
    refine ⟨hn h0, C, dx, vs, h1, hh _ h2, ?_⟩
    clear h2
    induction h3 with
    | nil => exact .nil
    | cons r t ih => exact .cons (r.up e) ih
  | dead => obtain ⟨o, h⟩ := h; exact ⟨o, hh _ h⟩
theorem CellR.there {a : Addr} {c : Cell} (h : CellR K mg ph F H a c) : ∃ o, H a = some o := by
  cases c with
  | lst ds => obtain ⟨h0, xs, h1, h2⟩ := h; exact ⟨_, h1⟩
  | dK ks ds => obtain ⟨h0, xs, h1, h2, h3⟩ := h; exact ⟨_, h1⟩
  | dT ks ds => obtain ⟨h0, xs, h1, h2, h3⟩ := h; exact ⟨_, h1⟩
  | ins c fs => obtain ⟨h0, C, dx, vs, h1, h2, h3⟩ := h; exact ⟨_, h2⟩
  | dead => exact h
theorem Wd.thereP (w : Wd K mg Z ph F sto H) {b : Addr} (hb : b ∈ ph) : ∃ o, H b = some o := by
  obtain ⟨n, hn, e⟩ := List.getElem_of_mem hb
  have hs : n < sto.length := by rw [w.len]; exact hn
  exact (w.cell n sto[n] b (List.getElem?_eq_getElem hs) (by rw [List.getElem?_eq_getElem hn, e])).there
theorem Wd.fresh (w : Wd K mg Z ph F sto H) {p : Addr} (hp : H p = none) : F p = none ∧ Z.H p = none ∧ p ∉ ph := by
  have h3 : p ∉ ph := fun hb => by
    obtain ⟨o, e⟩ := w.thereP hb
    rw [hp] at e; cases e
  refine ⟨?_, ?_, h3⟩
  · cases e : F p with
    | none => rfl
    | some o => have := w.sub p o e; rw [hp] at this; cases this
  · cases e : Z.H p with
    | none => rfl
    | some o =>
      by_cases hz : p ∈ Z.ph
      · obtain ⟨n, hn, e2⟩ := List.getElem_of_mem hz
        exact absurd (List.mem_of_getElem? (w.ext.p n p (by rw [List.getElem?_eq_getElem hn, e2]))) h3
      · have := w.fr p o e hz; rw [hp] at this; cases this
theorem extF {p : Addr} {o : HO} (hF : F p = none) : Ext ph F ph (upd F p o) :=
  ⟨fun _ _ h => h, fun b u h => by rw [upd_ne (ne_of_none h hF)]; exact h⟩
theorem Wd.lay (w : Wd K mg Z ph F sto H) {p : Addr} {o : HO} (hp : H p = none) : Wd K mg Z ph (upd F p o) sto (upd H p o) := by
  obtain ⟨hF, hZ, hph⟩ := w.fresh hp
  have e := extF (ph := ph) (o := o) hF
  refine ⟨fun b u h1 h2 => ?_, fun b u h => ?_, w.ext.trans e, fun b u h => ?_, w.nd, w.nph, w.len, fun n c a h1 h2 => ?_⟩
  · rw [upd_ne (fun z => by rw [z, hZ] at h1; cases h1)]
    exact w.fr b u h1 h2
  · by_cases hb : b = p
    · subst hb
      rw [upd_same] at h ⊢
      exact h
    · rw [upd_ne hb] at h ⊢
      exact w.sub b u h
  · by_cases hb : b = p
    · subst hb
      exact .inr (.inl hZ)
    · rw [upd_ne hb] at h
      exact w.new b u h
  · have ha : a ≠ p := fun z => hph (z ▸ List.mem_of_getElem? h2)
    exact (w.cell n c a h1 h2).up e (fun z => by rw [upd_ne ha]; exact z) fun u z => by rw [upd_ne ha]; exact z
theorem EnvR.up {ph' : List Addr} {F' : Hp} {env : List (Option D)} (h : EnvR K ph F env sg) (e : Ext ph F ph' F') : EnvR K ph' F' env sg :=
  ⟨h.1, fun i d q => let ⟨v, h1, h2⟩ := h.2 i d q; ⟨v, h1, h2.up e⟩⟩
theorem Rel.lay (r : Rel K mg Z ph F s sg H) {p : Addr} {o : HO} (hp : H p = none) : Rel K mg Z ph (upd F p o) s sg (upd H p o) :=
  ⟨r.w.lay hp, r.e.up (extF (r.w.fresh hp).1)⟩
theorem Rel.ext (r : Rel K mg Z ph F s sg H) {p : Addr} {o : HO} (hp : H p = none) : Ext ph F ph (upd F p o) := extF (r.w.fresh hp).1
end

/-- what is read through a cell -/
def drf (st : List Cell) : D → D
  | .loc n => match st[n]? with
    | some (.lst ds) => .lst ds
    | some (.dK k d) => .dK k d
    | some (.dT k d) => .dT k d
    | _ => .loc n
  | .non => .non | .bl b => .bl b | .int i => .int i | .str x => .str x | .tup ds => .tup ds | .lst ds => .lst ds | .dK k d => .dK k d | .dT k d => .dT k d | .scr n => .scr n | .tpz ds => .tpz ds | .xcp a d k ds => .xcp a d k ds
section
variable {K : PySem.W.Frag} {mg : Str → Option Value} {Z : En} {ph : List Addr} {F H : Hp} {s : S} {sg : L2.St}
theorem Wd.phOf {sto : List Cell} (w : Wd K mg Z ph F sto H) {n : Nat} {c : Cell} (h : sto[n]? = some c) : ∃ a, ph[n]? = some a := by
  have hn := (List.getElem?_eq_some_iff.mp h).1
  rw [w.len] at hn
  exact ⟨_, List.getElem?_eq_getElem hn⟩
theorem rd_lst {sto : List Cell} (w : Wd K mg Z ph F sto H) {v : V} {d : D} {ds : List D} (h : Dr K ph F v d) (e : drf sto d = .lst ds) : ∃ a xs, v = .ref a ∧ H a = some (.lst xs) ∧ DrA K ph F xs ds := by
  cases h with
  | lst h1 h2 => cases e; exact ⟨_, _, rfl, w.sub _ _ h1, h2⟩
  | @loc n a h1 =>
    simp only [drf] at e
    cases q : sto[n]? with
    | none => rw [q] at e; cases e
    | some c =>
      rw [q] at e
      cases c with
      | lst es =>
        cases e
        obtain ⟨_, xs, h2, h3⟩ := w.cell n _ a q h1
        exact ⟨a, xs, rfl, h2, h3⟩
      | _ => cases e
  | _ => cases e
theorem rd_tup {sto : List Cell} (w : Wd K mg Z ph F sto H) {v : V} {d : D} {ds : List D} (h : Dr K ph F v d) (e : drf sto d = .tup ds) : ∃ a xs, v = .ref a ∧ H a = some (.tup xs) ∧ DrA K ph F xs ds := by
  cases h with
  | tup h1 h2 => cases e; exact ⟨_, _, rfl, w.sub _ _ h1, h2⟩
  | @loc n a h1 =>
    simp only [drf] at e
    cases q : sto[n]? with
    | none => rw [q] at e; cases e
    | some c => rw [q] at e; cases c <;> cases e
  | _ => cases e
theorem rd_tpz {sto : List Cell} (w : Wd K mg Z ph F sto H) {v : V} {d : D} {ds : List D} (h : Dr K ph F v d) (e : drf sto d = .tpz ds) : ∃ a ob xs, v = .ref a ∧ H a = some (.frz ob (.tup xs)) ∧ ob.cls = .type "tuple" ∧ ob.dict = none ∧ DrA K ph F xs ds := by
  cases h with
  | tpz h1 g1 g2 h2 => cases e; exact ⟨_, _, _, rfl, w.sub _ _ h1, g1, g2, h2⟩
  | @loc n a h1 =>
    simp only [drf] at e
    cases q : sto[n]? with
    | none => rw [q] at e; cases e
    | some c => rw [q] at e; cases c <;> cases e
  | _ => cases e
theorem rd_dK {sto : List Cell} (w : Wd K mg Z ph F sto H) {v : V} {d : D} {ks : List Key} {ds : List D} (h : Dr K ph F v d) (e : drf sto d = .dK ks ds) : ∃ a kvs, v = .ref a ∧ H a = some (.dK kvs) ∧ kvs.map (·.1) = ks ∧ DrA K ph F (kvs.map (·.2)) ds := by
  cases h with
  | dK h1 h2 => cases e; exact ⟨_, _, rfl, w.sub _ _ h1, rfl, h2⟩
  | @loc n a h1 =>
    simp only [drf] at e
    cases q : sto[n]? with
    | none => rw [q] at e; cases e
    | some c =>
      rw [q] at e
      cases c with
      | dK k es =>
        cases e
        obtain ⟨_, xs, h2, h3, h4⟩ := w.cell n _ a q h1
        exact ⟨a, xs, rfl, h2, h3, h4⟩
      | _ => cases e
  | _ => cases e
theorem rd_dT {sto : List Cell} (w : Wd K mg Z ph F sto H) {v : V} {d : D} {ks : List (List Key)} {ds : List D} (h : Dr K ph F v d) (e : drf sto d = .dT ks ds) : ∃ a kvs, v = .ref a ∧ H a = some (.dT kvs) ∧ kvs.map (·.1) = ks ∧ DrA K ph F (kvs.map (·.2)) ds := by
  cases h with
  | dT h1 h2 => cases e; exact ⟨_, _, rfl, w.sub _ _ h1, rfl, h2⟩
  | @loc n a h1 =>
    simp only [drf] at e
    cases q : sto[n]? with
    | none => rw [q] at e; cases e
    | some c =>
      rw [q] at e
      cases c with
      | dT k es =>
        cases e
        obtain ⟨_, xs, h2, h3, h4⟩ := w.cell n _ a q h1
        exact ⟨a, xs, rfl, h2, h3, h4⟩
      | _ => cases e
  | _ => cases e
end

/-! names, constants, displays -/
def eVar (i : Nat) : M D := fun s => match s.env[i]? with
  | some (some d) => .ok d s
  | _ => .bad
section
variable {X : Cx} {Z : En} {W : WX} {pos : Pos} {a b e : Expr} {es : List Expr} {ma mb : M D}
theorem se_var {i : Nat} {x : Str} (hN : X.N[i]? = some x) (hv : Vis X.env.scope x) (hd : (x == ("__debug__" : Str)) = false := by decide) (hcd : (x == ("__classdict__" : Str)) = false := by decide) : SE W X (.Name x pos) (eVar i) :=
  SE.of (pe_var hN hv hd hcd) fun Z ph F s sg H Q r bd h => by
    unfold eVar at h
    split at h
    · rename_i d q
      obtain ⟨v, h1, h2⟩ := r.e.2 i d q
      exact ⟨v, h1, fun b => h v H ph F .refl r h2 b⟩
    · exact h.elim
theorem se_int {i j} : SE W X (.Constant (.int i) j pos) (ret (.int i)) := SE.of pe_int fun Z ph F s sg H Q r bd h b => h _ H ph F .refl r (.int i) b
theorem se_bl {i j} : SE W X (.Constant (.bool i) j pos) (ret (.bl i)) := SE.of pe_bl fun Z ph F s sg H Q r bd h b => h _ H ph F .refl r (.bl i) b
theorem se_non {j} : SE W X (.Constant .none j pos) (ret .non) := SE.of pe_non fun Z ph F s sg H Q r bd h b => h _ H ph F .refl r .non b
theorem se_str {x j} : SE W X (.Constant (.str x) j pos) (ret (.str x)) := SE.of pe_str fun Z ph F s sg H Q r bd h b => h _ H ph F .refl r (.str x) b
/-- a constant of the module -/
theorem se_glob {x : Str} {v : V} {d : D} {u : Value} (hg : Gl X x) (hm : X.mg x = some u) (r : RelV v u) (hd : ∀ ph F, Dr X.K ph F v d) (hdb : (x == ("__debug__" : Str)) = false := by decide) : SE W X (.Name x pos) (ret d) :=
  SE.of (pe_glob hg hm r hdb) fun Z ph F s sg H Q r bd h b => h _ H ph F .refl r (hd _ _) b
theorem sa_nil : SA W X [] (ret []) := SA.of pa_nil fun Z ph F s sg H Q r bd h b => h _ H ph F .refl r .nil b
def eCons (ma : M D) (mr : M (List D)) : M (List D) := bnd ma fun d => bnd mr fun ds => ret (d :: ds)
theorem sa_cons {mr : M (List D)} (ha : SE W X e ma) (hr : SA W X es mr) (hs : starEach (e :: es) X.env = (false, eval e X.env) :: starEach es X.env := by rfl) : SA W X (e :: es) (eCons ma mr) :=
  SA.of (pa_cons ha.pe hr.pa hs) fun Z ph F s sg H Q r bd h => by
    refine tE_bnd kdA r h fun d1 s1 v1 H1 p1 F1 x1 r1 q1 b1 h1 => ?_
    refine tA_bnd kdA r1 (h1.up x1) fun d2 s2 v2 H2 p2 F2 x2 r2 q2 b2 h2 b => ?_
    exact h2 _ H2 p2 F2 x2 r2 (.cons (q1.up x2) q2) b
/-- a new tuple -/
def eTup (m : M (List D)) : M D := bnd m fun ds => if ds.length ≤ 16777216 then ret (.tup ds) else fun _ => .bad
theorem se_tup {x1} {m : M (List D)} (h : SA W X es m) : SE W X (.Tuple es x1 pos) (eTup m) :=
  SE.of (pe_tup h.pa) fun Z ph F s sg H Q r bd h => by
    refine tA_bnd kdE r h fun d1 s1 v1 H1 p1 F1 x1 r1 q1 b1 h1 => ?_
    split at h1
    · rename_i hl
      refine ⟨by rw [q1.len, sizeLine_eq]; exact hl, fun p hp b => ?_⟩
      exact h1 _ _ p1 _ (x1.trans (r1.ext hp)) (r1.lay hp) (.tup upd_same (q1.up (r1.ext hp))) b
    · exact h1.elim
/-- a new list, frozen at once -/
def eLst (m : M (List D)) : M D := bnd m fun ds => if ds.length ≤ 16777216 then ret (.lst ds) else fun _ => .bad
theorem se_lst {m : M (List D)} (h : SA W X es m) : SE W X (.List es pos) (eLst m) :=
  SE.of (pe_lst h.pa) fun Z ph F s sg H Q r bd h => by
    refine tA_bnd kdE r h fun d1 s1 v1 H1 p1 F1 x1 r1 q1 b1 h1 => ?_
    split at h1
    · rename_i hl
      refine ⟨by rw [q1.len, sizeLine_eq]; exact hl, fun p hp b => ?_⟩
      exact h1 _ _ p1 _ (x1.trans (r1.ext hp)) (r1.lay hp) (.lst upd_same (q1.up (r1.ext hp))) b
    · exact h1.elim
end

/-! operations by values -/
/-- what an operation on values gives -/
structure OkN (X : Cx) (r : List V → Hp → VK → Prop) (f : S → List D → Option (D × S)) : Prop where
  run : ∀ (Z : En) (ph : List Addr) (F : Hp) (s : S) (sg : L2.St) (H : Hp) (xs : List V) (ds : List D) (d : D) (s' : S) (Q : VK), Rel X.K X.mg Z ph F s sg H → Bd X.K H → DrA X.K ph F xs ds → f s ds = some (d, s') →
    (∀ (v : V) (H' : Hp) (ph' : List Addr) (F' : Hp), Ext ph F ph' F' → Rel X.K X.mg Z ph' F' s' sg H' → Dr X.K ph' F' v d → Q v H') → r xs H Q
def opt {α : Type} (o : Option (D × S)) : Out D := match o with
  | some (d, s') => .ok d s'
  | none => .bad
def eN (f : S → List D → Option (D × S)) (m : M (List D)) : M D := bnd m fun ds s => opt (α := D) (f s ds)
def e1 (f : S → List D → Option (D × S)) (ma : M D) : M D := bnd ma fun x s => opt (α := D) (f s [x])
def e2 (f : S → List D → Option (D × S)) (ma mb : M D) : M D := bnd ma fun x => bnd mb fun y s => opt (α := D) (f s [x, y])
/-- a pure one -/
def pu (g : List Cell → List D → Option D) : S → List D → Option (D × S) := fun s ds => (g s.sto (ds.map (drf s.sto))).map fun d => (d, s)
section
variable {X : Cx} {Z : En} {W : WX} {pos : Pos} {a b e : Expr} {es : List Expr} {ma mb : M D} {f f' : S → List D → Option (D × S)} {r r' : List V → Hp → VK → Prop}
theorem opt_res {K : PySem.W.Frag} {mg : Str → Option Value} {sg : L2.St} {o : Option (D × S)} {ph : List Addr} {F : Hp} {Q : V → Hp → Prop} (h : Res K mg Z W sg (opt (α := D) o) ph F Q) :
    ∃ d s', o = some (d, s') ∧ ∀ (v : V) (H' : Hp) (ph' : List Addr) (F' : Hp), Ext ph F ph' F' → Rel K mg Z ph' F' s' sg H' → Dr K ph' F' v d → Bd K H' → Q v H' := by
  cases o with
  | none => exact h.elim
  | some p => exact ⟨p.1, p.2, rfl, h⟩
theorem OkN.or (h : OkN X r f) (h' : OkN X r' f') : OkN X (fun xs H Q => r xs H Q ∨ r' xs H Q) (fun s ds => (f s ds).or (f' s ds)) :=
  ⟨fun Z ph F s sg H xs ds d s' Q w b q e k => by
    cases g : f s ds with
    | some p =>
      simp only [g, Option.or_some] at e
      rw [Option.some.inj e] at g
      exact .inl (h.run Z ph F s sg H xs ds d s' Q w b q g k)
    | none =>
      simp only [g, Option.none_or] at e
      exact .inr (h'.run Z ph F s sg H xs ds d s' Q w b q e k)⟩
theorem se_bin {op : Operator} {r2 : R2} (ho : OpR X (binaryOp op) r2) (hf : OkN X (fun xs H Q => ∃ x y, xs = [x, y] ∧ r2 x y H Q) f) (ha : SE W X a ma) (hb : SE W X b mb) : SE W X (.BinOp a op b pos) (e2 f ma mb) :=
  SE.of (pe_op ho ha.pe hb.pe) fun Z ph F s sg H Q r bd h => by
    refine tE_bnd kdE r h fun d1 s1 v1 H1 p1 F1 x1 r1 q1 b1 h1 => ?_
    refine tE_bnd kdE r1 (h1.up x1) fun d2 s2 v2 H2 p2 F2 x2 r2 q2 b2 h2 => ?_
    obtain ⟨d, s', e, k⟩ := opt_res (h2.up x2)
    obtain ⟨x, y, e3, q⟩ := hf.run Z p2 F2 s2 sg H2 [v1, v2] [d1, d2] d s' (fun v H' => Bd X.K H' → Q v H') r2 b2 (.cons (q1.up x2) (.cons q2 .nil)) e k
    cases e3
    exact q
theorem se_cmp {op : CmpOp} {r2 : R2} (ho : OpR X (compareOp op) r2) (hf : OkN X (fun xs H Q => ∃ x y, xs = [x, y] ∧ r2 x y H Q) f) (ha : SE W X a ma) (hb : SE W X b mb) (hm : behindInMarks op b = false) : SE W X (.Compare a [op] [b] pos) (e2 f ma mb) :=
  SE.of (pe_cmpR ho ha.pe hb.pe hm) fun Z ph F s sg H Q r bd h => by
    refine tE_bnd kdE r h fun d1 s1 v1 H1 p1 F1 x1 r1 q1 b1 h1 => ?_
    refine tE_bnd kdE r1 (h1.up x1) fun d2 s2 v2 H2 p2 F2 x2 r2 q2 b2 h2 => ?_
    obtain ⟨d, s', e, k⟩ := opt_res (h2.up x2)
    obtain ⟨x, y, e3, q⟩ := hf.run Z p2 F2 s2 sg H2 [v1, v2] [d1, d2] d s' (fun v H' => Bd X.K H' → Q v H') r2 b2 (.cons (q1.up x2) (.cons q2 .nil)) e k
    cases e3
    exact q
/-- a bool as a test -/
def toB (m : M D) : M Bool := bnd m fun d => match d with
  | .bl b => ret b
  | _ => fun _ => .bad
theorem toB_bl {K : PySem.W.Frag} {mg : Str → Option Value} {sg : L2.St} {d : D} {s : S} {ph : List Addr} {F : Hp} {Q : Bool → Hp → Prop} (h : ResT K mg Z W sg ((match d with | .bl b => ret b | _ => fun _ => .bad : M Bool) s) ph F Q) : ∃ b, d = .bl b ∧ ResT K mg Z W sg (.ok b s) ph F Q := by
  cases d with
  | bl b => exact ⟨b, rfl, h⟩
  | _ => exact h.elim
theorem st_val (h : SE W X e ma) (he : ∀ whole, isTrue e X.env whole = (do let v ← whole; standAt e.pos; holding [v] (truthy v)) := by intro _; rfl) : STt W X e (toB ma) :=
  STt.of (pt_val h.pe he) fun Z ph F s sg H Q r bd h => by
    refine tE_bnd kdT r h fun d1 s1 v1 H1 p1 F1 x1 r1 q1 b1 h1 => ?_
    obtain ⟨c, rfl, h2⟩ := toB_bl h1
    cases q1
    exact ⟨c, rfl, fun b => h2 H1 p1 F1 x1 r1 b⟩
theorem st_cmp {op : CmpOp} {r2 : R2} (ho : OpR X (compareOp op) r2) (hf : OkN X (fun xs H Q => ∃ x y, xs = [x, y] ∧ r2 x y H Q) f) (ha : SE W X a ma) (hb : SE W X b mb) (hm : behindInMarks op b = false) : STt W X (.Compare a [op] [b] pos) (toB (e2 f ma mb)) :=
  STt.of (pt_cmpR ho ha.pe hb.pe hm) fun Z ph F s sg H Q r bd h => by
    have h' : ResT X.K X.mg Z W sg (bnd ma (fun x => bnd (bnd mb fun y s => opt (α := D) (f s [x, y])) fun d => match d with | .bl b => ret b | _ => fun _ => .bad) s) ph F Q := by
      have : toB (e2 f ma mb) s = bnd ma (fun x => bnd (bnd mb fun y s => opt (α := D) (f s [x, y])) fun d => match d with | .bl b => ret b | _ => fun _ => .bad) s := by
        unfold toB e2 bnd
        cases ma s <;> rfl
      rw [← this]
      exact h
    refine tE_bnd kdT r h' fun d1 s1 v1 H1 p1 F1 x1 r1 q1 b1 h1 => ?_
    have h1' : ResT X.K X.mg Z W sg (bnd mb (fun y => bnd (fun s => opt (α := D) (f s [d1, y])) fun d => match d with | .bl b => ret b | _ => fun _ => .bad) s1) ph F Q := by
      have : bnd (bnd mb fun y s => opt (α := D) (f s [d1, y])) (fun d => (match d with | .bl b => ret b | _ => fun _ => .bad : M Bool)) s1 = bnd mb (fun y => bnd (fun s => opt (α := D) (f s [d1, y])) fun d => match d with | .bl b => ret b | _ => fun _ => .bad) s1 := by
        unfold bnd
        cases mb s1 <;> rfl
      rw [← this]
      exact h1
    refine tE_bnd kdT r1 (h1'.up x1) fun d2 s2 v2 H2 p2 F2 x2 r2 q2 b2 h2 => ?_
    cases g : f s2 [d1, d2] with
    | none =>
      have h3 := h2
      simp only [bnd, g, opt] at h3
      exact h3.elim
    | some p =>
      obtain ⟨d, s'⟩ := p
      have h3 := h2.up x2
      simp only [bnd, g, opt] at h3
      obtain ⟨c, rfl, h4⟩ := toB_bl h3
      obtain ⟨x, y, e3, q⟩ := hf.run Z p2 F2 s2 sg H2 [v1, v2] [d1, d2] (.bl c) s' (fun v H' => ∃ k, v = .bl k ∧ (Bd X.K H' → Q k H')) r2 b2 (.cons (q1.up x2) (.cons q2 .nil)) g (fun v H' p3 F3 x3 r3 q3 => by
        cases q3
        exact ⟨c, rfl, fun b => h4 H' p3 F3 x3 r3 b⟩)
      cases e3
      exact q
end

/-! and, or, not, if-else -/
structure SW (W : WX) (X : Cx) (e : Expr) (m : M Bool) : Prop where
  pw : PW X e (tT X.K X.mg W m)
def bAnd (m n : M Bool) : M Bool := bnd m fun c => if c = true then n else ret false
def bOr (m n : M Bool) : M Bool := bnd m fun c => if c = true then ret true else n
def bNot (m : M Bool) : M Bool := bnd m fun c => ret (!c)
def eAnd (m n : M D) : M D := bnd (toB m) fun c => if c = true then n else ret (.bl false)
def eOr (m n : M D) : M D := bnd (toB m) fun c => if c = true then ret (.bl true) else n
def eNot (m : M D) : M D := bnd (toB m) fun c => ret (.bl (!c))
def eIf (t : M Bool) (m n : M D) : M D := bnd t fun c => if c = true then m else n
section
variable {X : Cx} {Z : En} {W : WX} {pos : Pos} {a b e : Expr} {rest : List Expr} {ma mb : M D} {ta tb : M Bool}
theorem SW.st (h : SW W X e ta) : STt W X e ta := ⟨h.pw.pt⟩
theorem bnd_assoc {α β γ : Type} (m : M α) (f : α → M β) (g : β → M γ) (s : S) : bnd (bnd m f) g s = bnd m (fun x => bnd (f x) g) s := by
  unfold bnd
  cases m s <;> rfl
theorem sw_and1 (h : STt W X a ta) : SW W X (.BoolOp .And [a] pos) ta := ⟨pw_and1 h.pt⟩
theorem sw_or1 (h : STt W X a ta) : SW W X (.BoolOp .Or [a] pos) ta := ⟨pw_or1 h.pt⟩
theorem sw_and (ha : STt W X a ta) (hb : SW W X (.BoolOp .And (b :: rest) pos) tb) : SW W X (.BoolOp .And (a :: b :: rest) pos) (bAnd ta tb) :=
  ⟨pw_bd (pw_and ha.pt hb.pw) fun sg H Q bd ⟨Z, ph, F, s, r, h⟩ => by
    refine tT_bnd kdT r h fun c s1 H1 p1 F1 x1 r1 b1 h1 => ?_
    cases c with
    | true => exact ⟨_, p1, F1, s1, r1, (show ResT X.K X.mg Z W sg (tb s1) p1 F1 _ from by
        cases e : tb s1 with
        | ok d s2 => rw [if_pos rfl, e] at h1; exact fun H2 p2 F2 x2 r2 b2 _ => h1 H2 p2 F2 (x1.trans x2) r2 b2
        | exc y s2 => rw [if_pos rfl, e] at h1; exact ResX.up h1 x1
        | bad => rw [if_pos rfl, e] at h1; exact h1)⟩
    | false => exact fun b => h1 H1 p1 F1 x1 r1 b⟩
theorem sw_or (ha : STt W X a ta) (hb : SW W X (.BoolOp .Or (b :: rest) pos) tb) : SW W X (.BoolOp .Or (a :: b :: rest) pos) (bOr ta tb) :=
  ⟨pw_bd (pw_or ha.pt hb.pw) fun sg H Q bd ⟨Z, ph, F, s, r, h⟩ => by
    refine tT_bnd kdT r h fun c s1 H1 p1 F1 x1 r1 b1 h1 => ?_
    cases c with
    | false => exact ⟨_, p1, F1, s1, r1, (show ResT X.K X.mg Z W sg (tb s1) p1 F1 _ from by
        cases e : tb s1 with
        | ok d s2 => rw [if_neg (by decide), e] at h1; exact fun H2 p2 F2 x2 r2 b2 _ => h1 H2 p2 F2 (x1.trans x2) r2 b2
        | exc y s2 => rw [if_neg (by decide), e] at h1; exact ResX.up h1 x1
        | bad => rw [if_neg (by decide), e] at h1; exact h1)⟩
    | true => exact fun b => h1 H1 p1 F1 x1 r1 b⟩
theorem st_not (h : STt W X a ta) : STt W X (.UnaryOp .Not a pos) (bNot ta) :=
  STt.of (pt_not h.pt) fun Z ph F s sg H Q r bd h => by
    refine tT_bnd kdT r h fun c s1 H1 p1 F1 x1 r1 b1 h1 b => ?_
    exact h1 H1 p1 F1 x1 r1 b
theorem Res.bd {K : PySem.W.Frag} {mg : Str → Option Value} {sg : L2.St} {o : Out D} {ph : List Addr} {F : Hp} {Q : V → Hp → Prop} (h : Res K mg Z W sg o ph F Q) : Res K mg Z W sg o ph F fun v H' => Bd K H' → Q v H' := by
  cases o with
  | ok d s' => exact fun v H' p F x r q b _ => h v H' p F x r q b
  | exc y s' => exact h
  | bad => exact h
theorem toB_step {α : Type} {K : PySem.W.Frag} {mg : Str → Option Value} {sg : L2.St} {s : S} {H : Hp} {ph : List Addr} {F : Hp} {R : Out α → List Addr → Hp → Prop} (kd : Kd R K mg Z W) {f : Bool → M α} (r : Rel K mg Z ph F s sg H) (h : R (bnd (toB ma) f s) ph F) {Q : V → Hp → Prop}
    (hk : ∀ (c : Bool) (s' : S) (H' : Hp) (ph' : List Addr) (F' : Hp), Ext ph F ph' F' → Rel K mg Z ph' F' s' sg H' → Bd K H' → R (f c s') ph F → Q (.bl c) H') : tE K mg W ma sg H Q := by
  have h' : R (bnd ma (fun d => bnd (match d with | .bl b => ret b | _ => fun _ => .bad : M Bool) f) s) ph F := by
    rw [← bnd_assoc]
    exact h
  refine tE_bnd kd r h' fun d1 s1 v1 H1 p1 F1 x1 r1 q1 b1 h1 => ?_
  cases d1 with
  | bl c => cases q1; exact hk c s1 H1 p1 F1 x1 r1 b1 h1
  | _ => exact (kd.bad _ _ h1).elim
theorem se_one {op} (h : SE W X a ma) : SE W X (.BoolOp op [a] pos) ma := ⟨pe_one h.pe⟩
theorem se_and (ha : SE W X a ma) (hb : SE W X (.BoolOp .And (b :: rest) pos) mb) : SE W X (.BoolOp .And (a :: b :: rest) pos) (eAnd ma mb) :=
  SE.of (pe_and ha.pe hb.pe) fun Z ph F s sg H Q r bd h => by
    refine toB_step kdE r h fun c s1 H1 p1 F1 x1 r1 b1 h1 => ⟨c, rfl, ?_⟩
    cases c with
    | true => exact ⟨_, p1, F1, s1, r1, (h1.up x1).bd⟩
    | false => exact fun b => h1 _ H1 p1 F1 x1 r1 (.bl false) b
theorem se_or (ha : SE W X a ma) (hb : SE W X (.BoolOp .Or (b :: rest) pos) mb) : SE W X (.BoolOp .Or (a :: b :: rest) pos) (eOr ma mb) :=
  SE.of (pe_or ha.pe hb.pe) fun Z ph F s sg H Q r bd h => by
    refine toB_step kdE r h fun c s1 H1 p1 F1 x1 r1 b1 h1 => ⟨c, rfl, ?_⟩
    cases c with
    | false => exact ⟨_, p1, F1, s1, r1, (h1.up x1).bd⟩
    | true => exact fun b => h1 _ H1 p1 F1 x1 r1 (.bl true) b
theorem se_not (ha : SE W X a ma) : SE W X (.UnaryOp .Not a pos) (eNot ma) :=
  SE.of (pe_not ha.pe) fun Z ph F s sg H Q r bd h => by
    refine toB_step kdE r h fun c s1 H1 p1 F1 x1 r1 b1 h1 => ⟨c, rfl, fun b => ?_⟩
    exact h1 _ H1 p1 F1 x1 r1 (.bl _) b
theorem se_ifE {c : Expr} (hc : STt W X c ta) (ha : SE W X a ma) (hb : SE W X b mb) : SE W X (.IfExp c a b pos) (eIf ta ma mb) :=
  SE.of (pe_ifExp hc.pt ha.pe hb.pe) fun Z ph F s sg H Q r bd h => by
    refine tT_bnd kdE r h fun c s1 H1 p1 F1 x1 r1 b1 h1 => ?_
    cases c with
    | true => exact ⟨_, p1, F1, s1, r1, (h1.up x1).bd⟩
    | false => exact ⟨_, p1, F1, s1, r1, (h1.up x1).bd⟩
end
end LW
namespace LW
open PySem PySem.Spec L2

/-! statements -/
inductive OutS where
  | nx (s : S) | rt (d : D) (s : S) | exc (x : Exc) (s : S) | bad
abbrev MS := S → OutS
/-- an expression, then a statement -/
def bndS {α : Type} (m : M α) (f : α → MS) : MS := fun s => match m s with
  | .ok a s' => f a s'
  | .exc x s' => .exc x s'
  | .bad => .bad
def seq (m n : MS) : MS := fun s => match m s with
  | .nx s' => n s'
  | .rt d s' => .rt d s'
  | .exc x s' => .exc x s'
  | .bad => .bad
def done : MS := fun s => .nx s
section
variable (K : PySem.W.Frag) (mg : Str → Option Value) (Z : En) (W : WX)
def ResS (E : Ends) (o : OutS) (ph : List Addr) (F : Hp) : Prop := match o with
  | .nx s' => ∀ (sg : L2.St) (H' : Hp) (ph' : List Addr) (F' : Hp), Ext ph F ph' F' → Rel K mg Z ph' F' s' sg H' → Bd K H' → E.nx sg H'
  | .rt d s' => ∀ (v : V) (H' : Hp) (ph' : List Addr) (F' : Hp), Ext ph F ph' F' → Wd K mg Z ph' F' s'.sto H' → Dr K ph' F' v d → Bd K H' → E.rt v H'
  | .exc x s' => ResX K mg Z W x s' ph F
  | .bad => False
def tS (K : PySem.W.Frag) (mg : Str → Option Value) (W : WX) (m : MS) : TS := fun E sg H => ∃ Z ph F s, Rel K mg Z ph F s sg H ∧ ResS K mg Z W E (m s) ph F
end
structure SS (W : WX) (X : Cx) (st : Stmt) (m : MS) : Prop where
  ps : PS X st (tS X.K X.mg W m)
structure SB (W : WX) (X : Cx) (st : List Stmt) (m : MS) : Prop where
  ps : PSs X st (tS X.K X.mg W m)
def bdE (K : PySem.W.Frag) (E : Ends) : Ends := ⟨fun sg H => Bd K H → E.nx sg H, fun v H => Bd K H → E.rt v H, fun sg H => Bd K H → E.bk sg H, fun sg H => Bd K H → E.ct sg H⟩
section
variable {K : PySem.W.Frag} {mg : Str → Option Value} {Z : En} {W : WX} {sg : L2.St} {ph ph' : List Addr} {F F' H : Hp} {s : S}
theorem ResS.up {E : Ends} {o : OutS} (h : ResS K mg Z W E o ph F) (e : Ext ph F ph' F') : ResS K mg Z W E o ph' F' := by
  cases o with
  | nx s' => exact fun sg H' p2 F2 e2 => h sg H' p2 F2 (e.trans e2)
  | rt d s' => exact fun v H' p2 F2 e2 => h v H' p2 F2 (e.trans e2)
  | exc x s' => exact ResX.up h e
  | bad => exact h
theorem tE_bndS {E : Ends} {ma : M D} {f : D → MS} (r : Rel K mg Z ph F s sg H) (h : ResS K mg Z W E (bndS ma f s) ph F) {Q : V → Hp → Prop}
    (hk : ∀ (d : D) (s' : S) (v : V) (H' : Hp) (ph' : List Addr) (F' : Hp), Ext ph F ph' F' → Rel K mg Z ph' F' s' sg H' → Dr K ph' F' v d → Bd K H' → ResS K mg Z W E (f d s') ph' F' → Q v H') : tE K mg W ma sg H Q := by
  refine ⟨_, ph, F, s, r, ?_⟩
  unfold bndS at h
  cases e : ma s with
  | ok d s' =>
    rw [e] at h
    exact fun v H' p2 F2 e2 r2 q2 b2 => hk d s' v H' p2 F2 e2 r2 q2 b2 (h.up e2)
  | exc x s' =>
    rw [e] at h
    exact h
  | bad =>
    rw [e] at h
    exact h.elim
theorem tA_bndS {E : Ends} {ma : M (List D)} {f : List D → MS} (r : Rel K mg Z ph F s sg H) (h : ResS K mg Z W E (bndS ma f s) ph F) {Q : List V → Hp → Prop}
    (hk : ∀ (d : List D) (s' : S) (v : List V) (H' : Hp) (ph' : List Addr) (F' : Hp), Ext ph F ph' F' → Rel K mg Z ph' F' s' sg H' → DrA K ph' F' v d → Bd K H' → ResS K mg Z W E (f d s') ph' F' → Q v H') : tA K mg W ma sg H Q := by
  refine ⟨_, ph, F, s, r, ?_⟩
  unfold bndS at h
  cases e : ma s with
  | ok d s' =>
    rw [e] at h
    exact fun v H' p2 F2 e2 r2 q2 b2 => hk d s' v H' p2 F2 e2 r2 q2 b2 (h.up e2)
  | exc x s' =>
    rw [e] at h
    exact h
  | bad =>
    rw [e] at h
    exact h.elim
theorem tT_bndS {E : Ends} {ma : M Bool} {f : Bool → MS} (r : Rel K mg Z ph F s sg H) (h : ResS K mg Z W E (bndS ma f s) ph F) {Q : Bool → Hp → Prop}
    (hk : ∀ (d : Bool) (s' : S) (H' : Hp) (ph' : List Addr) (F' : Hp), Ext ph F ph' F' → Rel K mg Z ph' F' s' sg H' → Bd K H' → ResS K mg Z W E (f d s') ph' F' → Q d H') : tT K mg W ma sg H Q := by
  refine ⟨_, ph, F, s, r, ?_⟩
  unfold bndS at h
  cases e : ma s with
  | ok d s' =>
    rw [e] at h
    exact fun H' p2 F2 e2 r2 b2 => hk d s' H' p2 F2 e2 r2 b2 (h.up e2)
  | exc x s' =>
    rw [e] at h
    exact h
  | bad =>
    rw [e] at h
    exact h.elim
theorem EnvR.set {env : List (Option D)} (h : EnvR K ph F env sg) {v : V} {d : D} (r : Dr K ph F v d) (i : Nat) : EnvR K ph F (env.set i (some d)) (sg.set i (some v)) := by
  refine ⟨by rw [List.length_set, List.length_set]; exact h.1, fun j e q => ?_⟩
  by_cases hj : i = j
  · subst hj
    by_cases hl : i < env.length
    · rw [List.getElem?_set_self hl] at q
      cases q
      exact ⟨v, List.getElem?_set_self (by rw [← h.1]; exact hl), r⟩
    · rw [List.getElem?_eq_none (by rw [List.length_set]; omega)] at q
      cases q
  · rw [List.getElem?_set_ne hj] at q ⊢
    exact h.2 j e q
theorem EnvR.unset {env : List (Option D)} (h : EnvR K ph F env sg) (i : Nat) : EnvR K ph F (env.set i none) (sg.set i none) := by
  refine ⟨by rw [List.length_set, List.length_set]; exact h.1, fun j e q => ?_⟩
  by_cases hj : i = j
  · subst hj
    by_cases hl : i < env.length
    · rw [List.getElem?_set_self hl] at q
      cases q
    · rw [List.getElem?_eq_none (by rw [List.length_set]; omega)] at q
      cases q
  · rw [List.getElem?_set_ne hj] at q ⊢
    exact h.2 j e q
theorem Rel.set (r : Rel K mg Z ph F s sg H) {v : V} {d : D} (q : Dr K ph F v d) (i : Nat) : Rel K mg Z ph F ⟨s.env.set i (some d), s.sto⟩ (sg.set i (some v)) H := ⟨r.w, r.e.set q i⟩
end
section
variable {X : Cx} {st : Stmt} {sts : List Stmt} {Z : En} {W : WX}
theorem ps_bd {t t' : TS} (h : PS X st t) (k : ∀ E sg H, Bd X.K H → t' E sg H → t (bdE X.K E) sg H) : PS X st t' :=
  ⟨fun pins s sg H E I q => thn (h.run pins s sg H _ I (k E sg H (bd_of I) q)) fun f s' h => by
    cases f with
    | next => obtain ⟨a, b, c, d⟩ := h; exact ⟨a, b, c, d (bd_of c)⟩
    | brk => obtain ⟨a, b, c, d⟩ := h; exact ⟨a, b, c, d (bd_of c)⟩
    | cont => obtain ⟨a, b, c, d⟩ := h; exact ⟨a, b, c, d (bd_of c)⟩
    | ret u => obtain ⟨v, a, b, c, e, d⟩ := h; exact ⟨v, a, b, c, e, d (bd_of c)⟩⟩
theorem pss_bd {t t' : TS} (h : PSs X sts t) (k : ∀ E sg H, Bd X.K H → t' E sg H → t (bdE X.K E) sg H) : PSs X sts t' :=
  ⟨fun pins s sg H E I q => thn (h.run pins s sg H _ I (k E sg H (bd_of I) q)) fun f s' h => by
    cases f with
    | next => obtain ⟨a, b, c, d⟩ := h; exact ⟨a, b, c, d (bd_of c)⟩
    | brk => obtain ⟨a, b, c, d⟩ := h; exact ⟨a, b, c, d (bd_of c)⟩
    | cont => obtain ⟨a, b, c, d⟩ := h; exact ⟨a, b, c, d (bd_of c)⟩
    | ret u => obtain ⟨v, a, b, c, e, d⟩ := h; exact ⟨v, a, b, c, e, d (bd_of c)⟩⟩
theorem SS.of {t : TS} {m : MS} (h : PS X st t) (k : ∀ Z ph F s sg H E, Rel X.K X.mg Z ph F s sg H → Bd X.K H → ResS X.K X.mg Z W E (m s) ph F → t (bdE X.K E) sg H) : SS W X st m :=
  ⟨ps_bd h fun E sg H b ⟨Z, ph, F, s, r, q⟩ => k Z ph F s sg H E r b q⟩
theorem SB.of {t : TS} {m : MS} (h : PSs X sts t) (k : ∀ Z ph F s sg H E, Rel X.K X.mg Z ph F s sg H → Bd X.K H → ResS X.K X.mg Z W E (m s) ph F → t (bdE X.K E) sg H) : SB W X sts m :=
  ⟨pss_bd h fun E sg H b ⟨Z, ph, F, s, r, q⟩ => k Z ph F s sg H E r b q⟩
/-- another end -/
theorem ResS.imp {K : PySem.W.Frag} {mg : Str → Option Value} {E E' : Ends} {o : OutS} {ph : List Addr} {F : Hp} (h : ResS K mg Z W E o ph F)
    (hn : ∀ s', o = .nx s' → ∀ (sg : L2.St) (H' : Hp) (ph' : List Addr) (F' : Hp), Ext ph F ph' F' → Rel K mg Z ph' F' s' sg H' → Bd K H' → E'.nx sg H') (hr : ∀ v H', Bd K H' → E.rt v H' → E'.rt v H') : ResS K mg Z W E' o ph F := by
  cases o with
  | nx s' => exact hn s' rfl
  | rt d s' => exact fun v H' p F x w q b => hr v H' b (h v H' p F x w q b)
  | exc x s' => exact h
  | bad => exact h
theorem ResS.bd {K : PySem.W.Frag} {mg : Str → Option Value} {E : Ends} {o : OutS} {ph : List Addr} {F : Hp} (h : ResS K mg Z W E o ph F) : ResS K mg Z W (bdE K E) o ph F := by
  cases o with
  | nx s' => exact fun sg H' p F x r b _ => h sg H' p F x r b
  | rt d s' => exact fun v H' p F x w q b _ => h v H' p F x w q b
  | exc x s' => exact h
  | bad => exact h
variable {rest : List Stmt} {m n : MS} {e : Expr} {ma : M D} {pos : Pos}
theorem sb_nil : SB W X [] done := SB.of pss_nil fun Z ph F s sg H E r bd h b => h sg H ph F .refl r b
theorem sb_cons (h1 : SS W X st m) (h2 : SB W X rest n) : SB W X (st :: rest) (seq m n) :=
  SB.of (pss_cons h1.ps h2.ps) fun Z ph F s sg H E r bd h => by
    refine ⟨_, ph, F, s, r, ?_⟩
    unfold seq at h
    cases e : m s with
    | nx s' =>
      rw [e] at h
      exact fun sg' H' p' F' x' r' b' => ⟨_, p', F', s', r', (h.up x').bd⟩
    | rt d s' =>
      rw [e] at h
      exact ResS.bd (o := .rt d s') h
    | exc y s' =>
      rw [e] at h
      exact h
    | bad =>
      rw [e] at h
      exact h.elim
theorem sb_one (h1 : SS W X st m) : SB W X [st] m :=
  SB.of (pss_one h1.ps) fun Z ph F s sg H E r bd h => ⟨_, ph, F, s, r, h.bd⟩
theorem ss_pass : SS W X (.Pass pos) done := SS.of ps_pass fun Z ph F s sg H E r bd h b => h sg H ph F .refl r b
theorem ss_doc {x j pos'} : SS W X (.Expr (.Constant (.str x) j pos) pos') done := SS.of ps_doc fun Z ph F s sg H E r bd h b => h sg H ph F .refl r b
/-- a value dropped -/
def sDrop (m : M D) : MS := bndS m fun _ => done
theorem ss_expr (he : SE W X e ma) (hs : swapsWith e none pos.line X.env = pure false := by rfl) : SS W X (.Expr e pos) (sDrop ma) :=
  SS.of (ps_expr he.pe hs) fun Z ph F s sg H E r bd h => by
    refine tE_bndS r h fun d1 s1 v1 H1 p1 F1 x1 r1 q1 b1 h1 b => ?_
    exact h1 sg H1 p1 F1 .refl r1 b
def sRet (m : M D) : MS := bndS m fun d s => .rt d s
theorem ss_ret (he : SE W X e ma) : SS W X (.Return (some e) pos) (sRet ma) :=
  SS.of (ps_ret he.pe) fun Z ph F s sg H E r bd h => by
    refine tE_bndS r h fun d1 s1 v1 H1 p1 F1 x1 r1 q1 b1 h1 b => ?_
    exact h1 v1 H1 p1 F1 .refl r1.w q1 b
theorem ss_retN : SS W X (.Return none pos) (fun s => .rt .non s) :=
  SS.of ps_retN fun Z ph F s sg H E r bd h b => h .non H ph F .refl r.w .non b
def sIf (t : M Bool) (m n : MS) : MS := bndS t fun c => if c = true then m else n
theorem ss_if {c : Expr} {a b : List Stmt} {tc : M Bool} (hc : STt W X c tc) (ha : SB W X a m) (hb : SB W X b n) : SS W X (.If c a b pos) (sIf tc m n) :=
  SS.of (ps_if hc.pt ha.ps hb.ps) fun Z ph F s sg H E r bd h => by
    refine tT_bndS r h fun c1 s1 H1 p1 F1 x1 r1 b1 h1 => ?_
    cases c1 with
    | true => exact ⟨_, p1, F1, s1, r1, h1.bd⟩
    | false => exact ⟨_, p1, F1, s1, r1, h1.bd⟩
/-- name = e -/
def sSet (i : Nat) (m : M D) : MS := bndS m fun d s => .nx ⟨s.env.set i (some d), s.sto⟩
theorem ss_set {i : Nat} {x : Str} {pos' : Pos} (hN : X.N.Nodup) (hi : X.N[i]? = some x) (hx : Loc X.env.scope x) (he : SE W X e ma) (hs : swapsWith e (some (.Name x pos')) pos.line X.env = pure false := by rfl) (hf : X.fn x = true ∨ X.env.scope.names.lookup x = some .local := by first | exact .inl rfl | exact .inr rfl | assumption) :
    SS W X (.Assign [.Name x pos'] e pos) (sSet i ma) :=
  SS.of (ps_set hN hi hx he.pe hs hf) fun Z ph F s sg H E r bd h => by
    refine tE_bndS r h fun d1 s1 v1 H1 p1 F1 x1 r1 q1 b1 h1 b => ?_
    exact h1 _ H1 p1 F1 .refl (r1.set q1 i) b
end

/-! targets that are names, or tuples of names -/
inductive Tg where
  | nm (i : Nat) | tp (is : List Nat)
def setAll : List Nat → List D → List (Option D) → List (Option D)
  | [], _, env => env
  | _ :: _, [], env => env
  | i :: is, d :: ds, env => setAll is ds (env.set i (some d))
def asg : Tg → D → List (Option D) → Option (List (Option D))
  | .nm i, d, env => some (env.set i (some d))
  | .tp is, .tup ds, env => if ds.length = is.length then some (setAll is ds env) else none
  | .tp _, _, _ => none
def gNames : List Nat → TGs
  | [] => gNil
  | i :: is => gCons (gName i) (gNames is)
def gT (K : PySem.W.Frag) : Tg → TG
  | .nm i => gName i
  | .tp is => gTup K is.length (gNames is)
def Tg.slots : Tg → List Nat
  | .nm i => [i]
  | .tp is => is
section
variable {K : PySem.W.Frag} {mg : Str → Option Value} {Z : En} {W : WX} {sg : L2.St} {ph ph' : List Addr} {F F' H : Hp} {s : S}
theorem wipe_mem {sg : L2.St} {i : Nat} {o : Option V} : ∀ {vs : List Nat}, i ∈ vs → wipe (sg.set i o) vs = wipe sg vs
  | v :: vs, h => by
    show (wipe (sg.set i o) vs).set v none = (wipe sg vs).set v none
    by_cases hm : i ∈ vs
    · rw [wipe_mem hm]
    · have e : i = v := by
        rcases List.mem_cons.mp h with z | z
        · exact z
        · exact absurd z hm
      subst e
      apply List.ext_getElem?
      intro j
      by_cases hj : i = j
      · subst hj
        by_cases hl : i < sg.length
        · rw [List.getElem?_set_self (by rw [wipe_length, List.length_set]; exact hl), List.getElem?_set_self (by rw [wipe_length]; exact hl)]
        · rw [List.getElem?_eq_none (by rw [List.length_set, wipe_length, List.length_set]; omega), List.getElem?_eq_none (by rw [List.length_set, wipe_length]; omega)]
      · rw [List.getElem?_set_ne hj, List.getElem?_set_ne hj]
        have gen : ∀ (ws : List Nat) (t u : L2.St), t.length = u.length → t[j]? = u[j]? → (wipe t ws)[j]? = (wipe u ws)[j]? := by
          intro ws
          induction ws with
          | nil => intro t u _ h2; exact h2
          | cons w ws ih =>
            intro t u h1 h2
            show ((wipe t ws).set w none)[j]? = ((wipe u ws).set w none)[j]?
            by_cases hw : w = j
            · subst hw
              by_cases hl : w < t.length
              · rw [List.getElem?_set_self (by rw [wipe_length]; exact hl), List.getElem?_set_self (by rw [wipe_length, ← h1]; exact hl)]
              · rw [List.getElem?_eq_none (by rw [List.length_set, wipe_length]; omega), List.getElem?_eq_none (by rw [List.length_set, wipe_length]; omega)]
            · rw [List.getElem?_set_ne hw, List.getElem?_set_ne hw]
              exact ih t u h1 h2
        exact gen vs _ _ (by rw [List.length_set]) (by rw [List.getElem?_set_ne hj])
theorem names_ok : ∀ {is : List Nat} {xs : List V} {ds : List D} {env : List (Option D)} {sg : L2.St} {Q : L2.St → Hp → Prop}, DrA K ph F xs ds → ds.length = is.length → EnvR K ph F env sg →
    (∀ sg', EnvR K ph F (setAll is ds env) sg' → (∀ vs, (∀ i ∈ is, i ∈ vs) → wipe sg' vs = wipe sg vs) → Q sg' H) → gNames is xs sg H Q
  | [], xs, ds, env, sg, Q, h, hl, he, k => by
    cases h with
    | nil => exact ⟨rfl, k sg he fun _ _ => rfl⟩
    | cons a b => simp at hl
  | i :: is, xs, ds, env, sg, Q, h, hl, he, k => by
    cases h with
    | nil => simp at hl
    | cons a b =>
      refine ⟨_, _, rfl, ?_⟩
      refine names_ok b (by simpa using hl) (he.set a i) fun sg' h1 h2 => k sg' h1 fun vs hv => ?_
      rw [h2 vs fun j hj => hv j (List.mem_cons_of_mem _ hj), wipe_mem (hv i List.mem_cons_self)]
theorem asg_ok {t : Tg} {v : V} {d : D} {env' : List (Option D)} {Q : L2.St → Hp → Prop} (r : Rel K mg Z ph F s sg H) (q : Dr K ph F v d) (e : asg t d s.env = some env')
    (k : ∀ sg', Rel K mg Z ph F ⟨env', s.sto⟩ sg' H → (∀ vs, (∀ i ∈ t.slots, i ∈ vs) → wipe sg' vs = wipe sg vs) → Q sg' H) : gT K t v sg H Q := by
  cases t with
  | nm i =>
    cases e
    exact k _ (r.set q i) fun vs hv => wipe_mem (hv i (by simp [Tg.slots]))
  | tp is =>
    cases d with
    | tup ds =>
      simp only [asg] at e
      split at e
      · rename_i hl
        cases e
        cases q with
        | tup h1 h2 =>
          refine ⟨_, _, rfl, .inl (.inl (r.w.sub _ _ h1)), by rw [h2.len, hl], ?_⟩
          exact names_ok h2 hl r.e fun sg' h3 h4 => k sg' ⟨r.w, h3⟩ h4
      · cases e
    | _ => cases e
end
/-- tg = e -/
def sAsg (t : Tg) (m : M D) : MS := bndS m fun d s => match asg t d s.env with
  | some env' => .nx ⟨env', s.sto⟩
  | none => .bad
section
variable {X : Cx} {Z : En} {W : WX} {e tg : Expr} {ma : M D} {pos : Pos}
theorem ss_asg {t : Tg} (he : SE W X e ma) (hg : PG X tg (gT X.K t)) (hs : swapsWithSole [tg] e pos.line X.env = pure false := by rfl) (hw : swappedStores [tg] e X.env = pure none := by rfl)
    (h1 : (assignEach [tg] X.env).map (·.2) = [assign tg X.env] := by rfl) : SS W X (.Assign [tg] e pos) (sAsg t ma) :=
  SS.of (ps_asg he.pe hg hs hw h1) fun Z ph F s sg H E r bd h => by
    refine tE_bndS r h fun d1 s1 v1 H1 p1 F1 x1 r1 q1 b1 h1 => ?_
    cases e : asg t d1 s1.env with
    | none => rw [e] at h1; exact h1.elim
    | some env' =>
      rw [e] at h1
      exact asg_ok r1 q1 e fun sg' r2 _ b => h1 sg' H1 p1 F1 .refl r2 b
end

/-! what is walked -/
structure WalkOk (K : PySem.W.Frag) (mg : Str → Option Value) (J : It) (ds : List D) (ph : List Addr) (F : Hp) : Prop where
  go : ∀ (Z : En) (ph1 : List Addr) (F1 : Hp) (s : S) (sg : L2.St) (H : Hp) (i : Nat), Ext ph F ph1 F1 → Rel K mg Z ph1 F1 s sg H → i < ds.length → J.go i H
  yld : ∀ (Z : En) (ph1 : List Addr) (F1 : Hp) (s : S) (sg : L2.St) (H : Hp) (i : Nat) (x : V) (H' : Hp), Ext ph F ph1 F1 → Rel K mg Z ph1 F1 s sg H → J.yld i H x H' → i < ds.length →
    ∃ F2, Ext ph1 F1 ph1 F2 ∧ Rel K mg Z ph1 F2 s sg H' ∧ ∃ d, ds[i]? = some d ∧ Dr K ph1 F2 x d
  stop : ∀ (Z : En) (ph1 : List Addr) (F1 : Hp) (s : S) (sg : L2.St) (H : Hp) (i : Nat), Ext ph F ph1 F1 → Rel K mg Z ph1 F1 s sg H → ds.length ≤ i → J.stop i H
theorem WalkOk.up {K : PySem.W.Frag} {mg : Str → Option Value} {J : It} {ds : List D} {ph ph' : List Addr} {F F' : Hp} (w : WalkOk K mg J ds ph F) (e : Ext ph F ph' F') : WalkOk K mg J ds ph' F' :=
  ⟨fun Z p1 F1 s sg H i x r h => w.go Z p1 F1 s sg H i (e.trans x) r h, fun Z p1 F1 s sg H i v H' x r h => w.yld Z p1 F1 s sg H i v H' (e.trans x) r h, fun Z p1 F1 s sg H i x r h => w.stop Z p1 F1 s sg H i (e.trans x) r h⟩
section
variable (K : PySem.W.Frag) (mg : Str → Option Value) (Z : En) (W : WX)
def ResI (sg : L2.St) (o : Out (List D)) (ph : List Addr) (F : Hp) (R : It → Hp → Prop) : Prop := match o with
  | .ok ds s' => ∀ (J : It) (H' : Hp) (ph' : List Addr) (F' : Hp), Ext ph F ph' F' → Rel K mg Z ph' F' s' sg H' → WalkOk K mg J ds ph' F' → Bd K H' → ds.length ≤ 16777216 → R J H'
  | .exc x s' => ResX K mg Z W x s' ph F
  | .bad => False
def tI (K : PySem.W.Frag) (mg : Str → Option Value) (W : WX) (m : M (List D)) : TI := fun sg H R => ∃ Z ph F s, Rel K mg Z ph F s sg H ∧ ResI K mg Z W sg (m s) ph F R
end
structure SI (W : WX) (X : Cx) (tg iter : Expr) (m : M (List D)) : Prop where
  pi : PI X tg iter (tI X.K X.mg W m)

/-! for -/
def sForL (t : Tg) (body : MS) : List D → MS
  | [], s => .nx s
  | d :: ds, s => match asg t d s.env with
    | none => .bad
    | some env' => match body ⟨env', s.sto⟩ with
      | .nx s' => sForL t body ds s'
      | .rt d s' => .rt d s'
      | .exc x s' => .exc x s'
      | .bad => .bad
def sFor (t : Tg) (mi : M (List D)) (body : MS) : MS := bndS mi fun ds => sForL t body ds
section
variable {X : Cx} {Z : En} {W : WX} {iter tg : Expr} {body : List Stmt} {mi : M (List D)} {mb : MS} {pos : Pos}
theorem ss_for {t : Tg} (hp : PassesOwn (model X.prog X.w) X.A X.env X.xe) (hc : X.calm = true) (hi : SI W X tg iter mi) (hg : PG X tg (gT X.K t)) (hb : SB W X body mb)
    (hs : ∀ x, foldedSetIterable iter X.env x = pure x := by intro _; rfl) : SS W X (.For tg iter body [] pos) (sFor t mi mb) :=
  SS.of (ps_for hp hc hi.pi hg hb.ps hs) fun Z ph F s sg H E r bd h => by
    refine ⟨_, ph, F, s, r, ?_⟩
    unfold sFor bndS at h
    cases e : mi s with
    | bad => rw [e] at h; exact h.elim
    | exc y s' => rw [e] at h; exact h
    | ok ds s1 =>
      rw [e] at h
      intro J H1 p1 F1 x1 r1 wk b1 _
      refine ⟨fun i m sg' H' => m = ds.length - i ∧ ∃ p2 F2 s2, Ext p1 F1 p2 F2 ∧ Rel X.K X.mg Z p2 F2 s2 sg' H' ∧ ResS X.K X.mg Z W (bdE X.K E) (sForL t mb (ds.drop i) s2) p2 F2,
        ⟨_, rfl, p1, F1, s1, .refl, r1, (ResS.up h x1).bd⟩, ?_⟩
      rintro i m sg' H' ⟨rfl, p2, F2, s2, x2, r2, h2⟩
      by_cases hi' : i < ds.length
      · refine .inr ⟨wk.go Z p2 F2 s2 sg' H' i x2 r2 hi', _, fun sg3 H3 h3 => h3, fun x H3 hy => ?_⟩
        obtain ⟨F3, x3, r3, d, hd, q3⟩ := wk.yld Z p2 F2 s2 sg' H' i x H3 x2 r2 hy hi'
        have hdrop : ds.drop i = d :: ds.drop (i + 1) := by
          rw [List.drop_eq_getElem_cons hi']
          rw [List.getElem?_eq_getElem hi'] at hd
          rw [Option.some.inj hd]
        rw [hdrop] at h2
        unfold sForL at h2
        cases ea : asg t d s2.env with
        | none => rw [ea] at h2; exact h2.elim
        | some env' =>
          rw [ea] at h2
          refine asg_ok r3 q3 ea fun sg4 r4 _ => ⟨_, p2, F3, ⟨env', s2.sto⟩, r4, ?_⟩
          cases eb : mb ⟨env', s2.sto⟩ with
          | bad => simp only [eb] at h2; exact h2.elim
          | exc y s5 => simp only [eb] at h2; exact ResX.up h2 x3
          | rt d5 s5 =>
            simp only [eb] at h2
            exact fun v H5 p5 F5 x5 => h2 v H5 p5 F5 (x3.trans x5)
          | nx s5 =>
            simp only [eb] at h2
            exact fun sg5 H5 p5 F5 x5 r5 b5 => ⟨ds.length - (i + 1), by omega, rfl, p5, F5, s5, x2.trans (x3.trans x5), r5, ResS.up h2 (x3.trans x5)⟩
      · refine .inl ⟨wk.stop Z p2 F2 s2 sg' H' i x2 r2 (by omega), ?_⟩
        rw [List.drop_eq_nil_of_le (by omega)] at h2
        intro b
        exact h2 sg' H' p2 F2 .refl r2 b b
end

/-! while: at most n turns -/
def sWhile (t : M Bool) (body : MS) : Nat → MS
  | 0, _ => .bad
  | n + 1, s => match t s with
    | .ok false s' => .nx s'
    | .ok true s' => (match body s' with
      | .nx s'' => sWhile t body n s''
      | .rt d s'' => .rt d s''
      | .exc x s'' => .exc x s''
      | .bad => .bad)
    | .exc x s' => .exc x s'
    | .bad => .bad
section
variable {X : Cx} {Z : En} {W : WX} {c : Expr} {body : List Stmt} {mt : M Bool} {mb : MS} {pos : Pos}
theorem ss_while (n : Nat) (hp : PassesOwn (model X.prog X.w) X.A X.env X.xe) (hc : STt W X c mt) (hb : SB W X body mb) : SS W X (.While c body [] pos) (sWhile mt mb n) :=
  SS.of (ps_while hp hc.pt hb.ps) fun Z ph F s sg H E r bd h => by
    refine ⟨fun m sg' H' => ∃ p2 F2 s2, Ext ph F p2 F2 ∧ Rel X.K X.mg Z p2 F2 s2 sg' H' ∧ ResS X.K X.mg Z W (bdE X.K E) (sWhile mt mb m s2) p2 F2, ⟨n, ph, F, s, .refl, r, h.bd⟩, ?_⟩
    rintro m sg' H' ⟨p2, F2, s2, x2, r2, h2⟩
    cases m with
    | zero => exact h2.elim
    | succ m =>
      unfold sWhile at h2
      refine ⟨_, p2, F2, s2, r2, ?_⟩
      cases e : mt s2 with
      | bad => rw [e] at h2; exact h2.elim
      | exc y s' => rw [e] at h2; exact h2
      | ok b s3 =>
        rw [e] at h2
        intro H3 p3 F3 x3 r3 b3
        cases b with
        | false => exact fun b => h2 sg' H3 p3 F3 x3 r3 b b
        | true =>
          refine ⟨_, fun sg4 H4 h4 => h4, _, p3, F3, s3, r3, ?_⟩
          cases eb : mb s3 with
          | bad => simp only [eb] at h2; exact h2.elim
          | exc y s5 => simp only [eb] at h2; exact ResX.up h2 x3
          | rt d5 s5 =>
            simp only [eb] at h2
            exact fun v H5 p5 F5 x5 => h2 v H5 p5 F5 (x3.trans x5)
          | nx s5 =>
            simp only [eb] at h2
            exact fun sg5 H5 p5 F5 x5 r5 b5 => ⟨m, by omega, p5, F5, s5, x2.trans (x3.trans x5), r5, ResS.up h2 (x3.trans x5)⟩
end

/-! comprehensions -/
def wipeE (env : List (Option D)) : List Nat → List (Option D)
  | [] => env
  | v :: vs => (wipeE env vs).set v none
def compL (t : Tg) (env0 : List (Option D)) (tt : M Bool) (te : M D) : List D → List D → S → Out (List D)
  | [], acc, s => .ok acc s
  | d :: ds, acc, s => match asg t d env0 with
    | none => .bad
    | some env' => match tt ⟨env', s.sto⟩ with
      | .bad => .bad
      | .exc _ _ => .bad
      | .ok false s1 => compL t env0 tt te ds acc ⟨env0, s1.sto⟩
      | .ok true s1 => match te s1 with
        | .ok y s2 => compL t env0 tt te ds (acc ++ [y]) ⟨env0, s2.sto⟩
        | _ => .bad
/-- the items of a comprehension -/
def cItems (t : Tg) (own : List Nat) (mi : M (List D)) (tt : M Bool) (te : M D) : M (List D) := fun s => match mi s with
  | .ok ds s1 => (match compL t (wipeE s1.env own) tt te ds [] ⟨wipeE s1.env own, s1.sto⟩ with
    | .ok ys s2 => .ok ys ⟨s1.env, s2.sto⟩
    | _ => .bad)
  | .exc x s1 => .exc x s1
  | .bad => .bad
end LW
namespace LW
open PySem PySem.Spec L2

/-! results: data, or a thing just made that nobody else holds -/
inductive Rs where
  | d (d : D) | c (c : Cell)
structure Fr (K : PySem.W.Frag) (mg : Str → Option Value) (Z : En) (ph : List Addr) (F H : Hp) (a : Addr) (c : Cell) : Prop where
  hf : F a = none
  hp : a ∉ ph
  hz : Z.H a = none
  hc : CellR K mg ph F H a c
  hl : c ≠ Cell.dead
section
variable {K : PySem.W.Frag} {mg : Str → Option Value} {Z : En} {W : WX} {sg : L2.St} {ph ph' : List Addr} {F F' H : Hp} {s : S}
/-- a new thing, not yet frozen nor boxed -/
theorem Rel.new (r : Rel K mg Z ph F s sg H) {p : Addr} {o : HO} (hp : H p = none) : Rel K mg Z ph F s sg (upd H p o) := by
  obtain ⟨hF, hZ, hph⟩ := r.w.fresh hp
  refine ⟨⟨fun b u h1 h2 => ?_, fun b u h => ?_, r.w.ext, r.w.new, r.w.nd, r.w.nph, r.w.len, fun n c a h1 h2 => ?_⟩, r.e⟩
  · rw [upd_ne (fun z => by rw [z, hZ] at h1; cases h1)]
    exact r.w.fr b u h1 h2
  · rw [upd_ne (ne_of_none h hF)]
    exact r.w.sub b u h
  · have ha : a ≠ p := fun z => hph (z ▸ List.mem_of_getElem? h2)
    exact (r.w.cell n c a h1 h2).up .refl (fun z => z) fun u z => by rw [upd_ne ha]; exact z
theorem Wd.frz {sto : List Cell} (w : Wd K mg Z ph F sto H) {a : Addr} {o : HO} (hF : F a = none) (hp : a ∉ ph) (hz : Z.H a = none) (h : H a = some o) : Wd K mg Z ph (upd F a o) sto H := by
  have e := extF (ph := ph) (o := o) hF
  refine ⟨w.fr, fun b u q => ?_, w.ext.trans e, fun b u q => ?_, w.nd, w.nph, w.len, fun n c b h1 h2 => ?_⟩
  · by_cases hb : b = a
    · subst hb; rw [upd_same] at q; cases q; exact h
    · rw [upd_ne hb] at q; exact w.sub b u q
  · by_cases hb : b = a
    · subst hb; exact .inr (.inl hz)
    · rw [upd_ne hb] at q; exact w.new b u q
  · have hb : b ≠ a := fun z => hp (z ▸ List.mem_of_getElem? h2)
    exact (w.cell n c b h1 h2).up e (fun z => by rw [upd_ne hb]; exact z) fun u z => z
def frz : Cell → Option D
  | .lst ds => some (.lst ds)
  | .dK ks ds => some (.dK ks ds)
  | .dT ks ds => some (.dT ks ds)
  | _ => none
theorem Fr.frz (q : Fr K mg Z ph F H a c) {d : D} (e : frz c = some d) (w : Wd K mg Z ph F sto H) : ∃ F', Ext ph F ph F' ∧ Wd K mg Z ph F' sto H ∧ Dr K ph F' (.ref a) d := by
  obtain ⟨f, p, z, c0, l⟩ := q
  cases c with
  | lst ds =>
    cases e
    obtain ⟨_, xs, h1, h2⟩ := c0
    exact ⟨_, extF f, w.frz f p z h1, .lst upd_same (h2.up (extF f))⟩
  | dK ks ds =>
    cases e
    obtain ⟨_, kvs, h1, rfl, h2⟩ := c0
    exact ⟨_, extF f, w.frz f p z h1, .dK upd_same (h2.up (extF f))⟩
  | dT ks ds =>
    cases e
    obtain ⟨_, kvs, h1, rfl, h2⟩ := c0
    exact ⟨_, extF f, w.frz f p z h1, .dT upd_same (h2.up (extF f))⟩
  | _ => cases e
theorem extP {a : Addr} : Ext ph F (ph ++ [a]) F := ⟨fun n x h => by rw [List.getElem?_append_left (List.getElem?_eq_some_iff.mp h).1]; exact h, fun _ _ h => h⟩
theorem Fr.box (q : Fr K mg Z ph F H a c) {sto : List Cell} (w : Wd K mg Z ph F sto H) : Wd K mg Z (ph ++ [a]) F (sto ++ [c]) H ∧ Dr K (ph ++ [a]) F (.ref a) (.loc sto.length) := by
  obtain ⟨f, p, z, c0, l⟩ := q
  have e : Ext ph F (ph ++ [a]) F := extP
  refine ⟨⟨w.fr, w.sub, w.ext.trans e, w.new, ?_, fun b hb => ?_, by rw [List.length_append, List.length_append, w.len]; rfl, fun n c' b h1 h2 => ?_⟩, .loc (by rw [w.len]; simp)⟩
  · rw [List.nodup_append]
    exact ⟨w.nd, by simp, fun x hx y hy z => p (by rw [List.mem_singleton.mp hy] at z; rw [← z]; exact hx)⟩
  · rcases List.mem_append.mp hb with h | h
    · exact w.nph b h
    · rw [List.mem_singleton.mp h]; exact .inr z
  · by_cases hn : n < sto.length
    · rw [List.getElem?_append_left hn] at h1
      rw [List.getElem?_append_left (by rw [← w.len]; exact hn)] at h2
      exact (w.cell n c' b h1 h2).up e (fun z => z) fun _ z => z
    · rw [List.getElem?_append_right (by omega)] at h1
      rw [List.getElem?_append_right (by rw [← w.len]; omega)] at h2
      have e1 := (List.getElem?_eq_some_iff.mp h1).1
      have hz : n - sto.length = 0 := by simp at e1; omega
      rw [hz] at h1
      rw [← w.len, hz] at h2
      cases h1
      cases h2
      exact c0.up e (fun z => z) fun _ z => z
def ResR (K : PySem.W.Frag) (mg : Str → Option Value) (Z : En) (W : WX) (sg : L2.St) (o : Out Rs) (ph : List Addr) (F : Hp) (Q : V → Hp → Prop) : Prop := match o with
  | .ok (.d d) s' => ∀ (v : V) (H' : Hp) (ph' : List Addr) (F' : Hp), Ext ph F ph' F' → Rel K mg Z ph' F' s' sg H' → Dr K ph' F' v d → Bd K H' → Q v H'
  | .ok (.c c) s' => ∀ (a : Addr) (H' : Hp) (ph' : List Addr) (F' : Hp), Ext ph F ph' F' → Rel K mg Z ph' F' s' sg H' → Fr K mg Z ph' F' H' a c → Bd K H' → Q (.ref a) H'
  | .exc x s' => ResX K mg Z W x s' ph F
  | .bad => False
def tR (K : PySem.W.Frag) (mg : Str → Option Value) (W : WX) (m : M Rs) : TE := fun sg H Q => ∃ Z ph F s, Rel K mg Z ph F s sg H ∧ ResR K mg Z W sg (m s) ph F Q
theorem kdR {Q : V → Hp → Prop} : Kd (fun o ph F => ResR K mg Z W sg o ph F Q) K mg Z W := ⟨fun _ _ _ _ h => h, fun _ _ h => h⟩
theorem ResR.up {o : Out Rs} {Q : V → Hp → Prop} (h : ResR K mg Z W sg o ph F Q) (e : Ext ph F ph' F') : ResR K mg Z W sg o ph' F' Q := by
  cases o with
  | ok d s' =>
    cases d with
    | d d => exact fun v H' p2 F2 e2 => h v H' p2 F2 (e.trans e2)
    | c d => exact fun v H' p2 F2 e2 => h v H' p2 F2 (e.trans e2)
  | exc x s' => exact ResX.up h e
  | bad => exact h
end
structure SR (W : WX) (X : Cx) (e : Expr) (m : M Rs) : Prop where
  pe : PE X e (tR X.K X.mg W m)
def fz (m : M Rs) : M D := bnd m fun r => match r with
  | .d d => ret d
  | .c c => match frz c with
    | some d => ret d
    | none => fun _ => .bad
def bx (m : M Rs) : M D := bnd m fun r => match r with
  | .d d => fun _ => .bad
  | .c c => fun s => .ok (.loc s.sto.length) ⟨s.env, s.sto ++ [c]⟩
section
variable {X : Cx} {Z : En} {W : WX} {pos : Pos} {e : Expr} {es : List Expr} {m : M Rs}
theorem SR.of {t : TE} (h : PE X e t) (k : ∀ Z ph F s sg H Q, Rel X.K X.mg Z ph F s sg H → Bd X.K H → ResR X.K X.mg Z W sg (m s) ph F Q → t sg H fun v H' => Bd X.K H' → Q v H') : SR W X e m :=
  ⟨pe_bd h fun sg H Q b ⟨Z, ph, F, s, r, q⟩ => k Z ph F s sg H Q r b q⟩
theorem SR.fz (h : SR W X e m) : SE W X e (fz m) :=
  SE.of h.pe fun Z ph F s sg H Q r bd q => by
    refine ⟨_, ph, F, s, r, ?_⟩
    unfold LW.fz bnd at q
    cases g : m s with
    | bad => rw [g] at q; exact q
    | exc x s' => rw [g] at q; exact q
    | ok y s' =>
      rw [g] at q
      cases y with
      | d d => exact fun v H' p F' x r' w b _ => q v H' p F' x r' w b
      | c c =>
        intro a H' p F' x r' w b _
        cases g2 : frz c with
        | none => simp only [g2] at q; exact q.elim
        | some d =>
          simp only [g2] at q
          obtain ⟨F2, x2, w2, d2⟩ := w.frz g2 r'.w
          exact q (.ref a) H' p F2 (x.trans x2) ⟨w2, r'.e.up x2⟩ d2 b
theorem SR.bx (h : SR W X e m) : SE W X e (bx m) :=
  SE.of h.pe fun Z ph F s sg H Q r bd q => by
    refine ⟨_, ph, F, s, r, ?_⟩
    unfold LW.bx bnd at q
    cases g : m s with
    | bad => rw [g] at q; exact q
    | exc x s' => rw [g] at q; exact q
    | ok y s' =>
      rw [g] at q
      cases y with
      | d d => exact q.elim
      | c c =>
        intro a H' p F' x r' w b _
        obtain ⟨w2, d2⟩ := w.box r'.w
        exact q (.ref a) H' (p ++ [a]) F' (x.trans extP) ⟨w2, r'.e.up extP⟩ d2 b
theorem SE.sr {m : M D} (h : SE W X e m) : SR W X e (bnd m fun d => ret (.d d)) :=
  SR.of h.pe fun Z ph F s sg H Q r bd q => by
    refine ⟨_, ph, F, s, r, ?_⟩
    unfold bnd at q
    cases g : m s with
    | bad => rw [g] at q; exact q
    | exc x s' => rw [g] at q; exact q
    | ok y s' => rw [g] at q; exact fun v H' p F' x r' w b _ => q v H' p F' x r' w b
/-- a list written -/
def rLst (m : M (List D)) : M Rs := bnd m fun ds => if ds.length ≤ 16777216 then ret (.c (.lst ds)) else fun _ => .bad
theorem sr_lst {m : M (List D)} (h : SA W X es m) : SR W X (.List es pos) (rLst m) :=
  SR.of (pe_lst h.pa) fun Z ph F s sg H Q r bd h => by
    refine tA_bnd kdR r h fun d1 s1 v1 H1 p1 F1 x1 r1 q1 b1 h1 => ?_
    split at h1
    · rename_i hl
      refine ⟨by rw [q1.len, sizeLine_eq]; exact hl, fun p hp b => ?_⟩
      obtain ⟨hF, hZ, hph⟩ := r1.w.fresh hp
      exact h1 p _ p1 F1 x1 (r1.new hp) ⟨hF, hph, hZ, ⟨hF, _, upd_same, q1⟩, by intro z; cases z⟩ b
    · exact h1.elim
/-- {} -/
theorem sr_dK {t : TE} (h : PE X e t) (ht : ∀ sg H Q, (∀ p, H p = none → Q (.ref p) (upd H p (.dK []))) → t sg H Q) : SR W X e (ret (.c (.dK [] []))) :=
  SR.of h fun Z ph F s sg H Q r bd h => ht _ _ _ fun p hp b => by
    obtain ⟨hF, hZ, hph⟩ := r.w.fresh hp
    exact h p _ ph F .refl (r.new hp) ⟨hF, hph, hZ, ⟨hF, [], upd_same, rfl, .nil⟩, by intro z; cases z⟩ b
theorem sr_dT {t : TE} (h : PE X e t) (ht : ∀ sg H Q, (∀ p, H p = none → Q (.ref p) (upd H p (.dT []))) → t sg H Q) : SR W X e (ret (.c (.dT [] []))) :=
  SR.of h fun Z ph F s sg H Q r bd h => ht _ _ _ fun p hp b => by
    obtain ⟨hF, hZ, hph⟩ := r.w.fresh hp
    exact h p _ ph F .refl (r.new hp) ⟨hF, hph, hZ, ⟨hF, [], upd_same, rfl, .nil⟩, by intro z; cases z⟩ b
end

/-! comprehensions -/
abbrev W0 : WX := fun _ _ _ _ => False
structure SPT (W : WX) (X : Cx) (ifs : List Expr) (m : M Bool) : Prop where
  pts : PTs X ifs (tT X.K X.mg W m)
theorem spt_nil {X : Cx} {W : WX} : SPT W X [] (ret true) :=
  ⟨⟨fun pins s sg H Q I ⟨Z, ph, F, s0, r, h⟩ => pts_nil.run pins s sg H Q I (h H ph F .refl r (bd_of I))⟩⟩
theorem spt_one {X : Cx} {W : WX} {c : Expr} {m : M Bool} (h : STt W X c m) : SPT W X [c] m := ⟨pts_one h.pt⟩
theorem wipeE_len (env : List (Option D)) : ∀ vs, (wipeE env vs).length = env.length
  | [] => rfl
  | v :: vs => by
    show ((wipeE env vs).set v none).length = _
    rw [List.length_set, wipeE_len env vs]
theorem EnvR.wipe {K : PySem.W.Frag} {ph : List Addr} {F : Hp} {env : List (Option D)} {sg : L2.St} (h : EnvR K ph F env sg) : ∀ vs, EnvR K ph F (wipeE env vs) (wipe sg vs)
  | [] => h
  | v :: vs => (EnvR.wipe h vs).unset v
theorem wipe_eq {sg sg2 : L2.St} {vs : List Nat} (h : L2.wipe sg2 vs = L2.wipe (L2.wipe sg vs) vs) : L2.wipe sg2 vs = L2.wipe sg vs := by
  rw [h]
  clear h
  have gen : ∀ (ws us : List Nat), (∀ i ∈ ws, i ∈ us) → L2.wipe (L2.wipe sg ws) us = L2.wipe sg us := by
    intro ws
    induction ws with
    | nil => intro us _; rfl
    | cons w ws ih =>
      intro us hu
      show L2.wipe ((L2.wipe sg ws).set w none) us = _
      rw [wipe_mem (hu w List.mem_cons_self)]
      exact ih us fun i hi => hu i (List.mem_cons_of_mem _ hi)
  exact gen vs vs fun _ h => h
section
variable {X : Cx} {Z : En} {W : WX} {elt tg iter : Expr} {ifs : List Expr} {scope : Scope} {own : List (Str × Nat)} {pos : Pos} {mi : M (List D)} {tt : M Bool} {te : M D} {t : Tg}
theorem Rel.base {K : PySem.W.Frag} {mg : Str → Option Value} {Z : En} {ph : List Addr} {F H : Hp} {s : S} {sg : L2.St} (r : Rel K mg Z ph F s sg H) : Rel K mg ⟨H, F, ph⟩ ph F s sg H :=
  ⟨⟨fun _ _ h _ => h, r.w.sub, .refl, fun _ _ h => .inl h, r.w.nd, fun _ h => .inl h, r.w.len, r.w.cell⟩, r.e⟩
theorem Wd.back {K : PySem.W.Frag} {mg : Str → Option Value} {Z : En} {ph ph' : List Addr} {F F' H H' : Hp} {sto sto' : List Cell} (w : Wd K mg Z ph F sto H) (q : Wd K mg ⟨H, F, ph⟩ ph' F' sto' H') : Wd K mg Z ph' F' sto' H' := by
  refine ⟨fun b o h1 h2 => ?_, q.sub, w.ext.trans q.ext, fun b o h => ?_, q.nd, fun b hb => ?_, q.len, q.cell⟩
  · refine q.fr b o (w.fr b o h1 h2) fun hb => ?_
    rcases w.nph b hb with z | z
    · exact h2 z
    · rw [h1] at z; cases z
  · rcases q.new b o h with z | z | z | ⟨xs, z⟩
    · exact w.new b o z
    · exact .inr (.inl (w.fresh z).2.1)
    · rcases w.nph b z with y | y
      · exact .inr (.inr (.inl y))
      · exact .inr (.inl y)
    · cases e : Z.H b with
      | none => exact .inr (.inl rfl)
      | some o' =>
        by_cases hb : b ∈ Z.ph
        · exact .inr (.inr (.inl hb))
        · have z' : H b = some (.tup xs) := z
          rw [w.fr b o' e hb] at z'
          cases z'
          exact .inr (.inr (.inr ⟨xs, rfl⟩))
  · rcases q.nph b hb with z | z
    · exact w.nph b z
    · exact .inr (w.fresh z).2.1
theorem Rel.back {K : PySem.W.Frag} {mg : Str → Option Value} {Z : En} {ph ph' : List Addr} {F F' H H' : Hp} {s s' : S} {sg sg' : L2.St} (r : Rel K mg Z ph F s sg H) (q : Rel K mg ⟨H, F, ph⟩ ph' F' s' sg' H') : Rel K mg Z ph' F' s' sg' H' :=
  ⟨r.w.back q.w, q.e⟩
/-- a thing that nobody else holds stays as it is -/
structure Own (ph : List Addr) (F H : Hp) (a : Addr) (o : HO) : Prop where
  f : F a = none
  p : a ∉ ph
  h : H a = some o
theorem Own.keep {K : PySem.W.Frag} {mg : Str → Option Value} {ph ph' : List Addr} {F F' H H' : Hp} {sto' : List Cell} {a : Addr} {o : HO} (w : Own ph F H a o) (q : Wd K mg ⟨H, F, ph⟩ ph' F' sto' H') (hn : ∀ xs, o ≠ .tup xs := by intro xs z; cases z) : Own ph' F' H' a o := by
  refine ⟨?_, fun hp => ?_, q.fr a o w.h w.p⟩
  · cases e : F' a with
    | none => rfl
    | some u =>
      rcases q.new a u e with z | z | z | ⟨xs, z⟩
      · have z' : F a = some u := z
        rw [w.f] at z'; cases z'
      · have z' : H a = none := z
        rw [w.h] at z'; cases z'
      · exact absurd z w.p
      · have z' : H a = some (.tup xs) := z
        rw [w.h] at z'
        exact absurd (Option.some.inj z') (hn xs)
  · rcases q.nph a hp with z | z
    · exact w.p z
    · have z' : H a = none := z
      rw [w.h] at z'; cases z'
/-- .. and may be changed -/
theorem Rel.poke {K : PySem.W.Frag} {mg : Str → Option Value} {Z : En} {ph : List Addr} {F H : Hp} {s : S} {sg : L2.St} {a : Addr} {o o' : HO} (r : Rel K mg Z ph F s sg H) (w : Own ph F H a o) (hz : Z.H a = none) : Rel K mg Z ph F s sg (upd H a o') := by
  refine ⟨⟨fun b u h1 h2 => ?_, fun b u h => ?_, r.w.ext, r.w.new, r.w.nd, r.w.nph, r.w.len, fun n c b h1 h2 => ?_⟩, r.e⟩
  · rw [upd_ne (fun z => by rw [z, hz] at h1; cases h1)]
    exact r.w.fr b u h1 h2
  · rw [upd_ne (ne_of_none h w.f)]
    exact r.w.sub b u h
  · have ha : b ≠ a := fun z => w.p (z ▸ List.mem_of_getElem? h2)
    exact (r.w.cell n c b h1 h2).up .refl (fun z => z) fun u z => by rw [upd_ne ha]; exact z
theorem lc_turns (hsl : ∀ i ∈ t.slots, i ∈ own.map (·.2)) {ph : List Addr} {F : Hp} {s : S} {sg : L2.St} {H : Hp} {Q : V → Hp → Prop} (r : Rel X.K X.mg Z ph F s sg H)
    (h : ∀ ds s1, mi s = .ok ds s1 → ∃ ys s2, compL t (wipeE s1.env (own.map (·.2))) tt te ds [] ⟨wipeE s1.env (own.map (·.2)), s1.sto⟩ = .ok ys s2 ∧
      ∀ (a : Addr) (H' : Hp) (ph' : List Addr) (F' : Hp), Ext ph F ph' F' → Rel X.K X.mg Z ph' F' ⟨s1.env, s2.sto⟩ sg H' → Fr X.K X.mg Z ph' F' H' a (.lst ys) → Q (.ref a) H')
    (hx : ∀ x s1, mi s = .exc x s1 → ResX X.K X.mg Z W x s1 ph F) (hbd : mi s ≠ .bad) :
    tLc (tI X.K X.mg W mi) (gT X.K t) (tT X.K X.mg W0 tt) (tE X.K X.mg W0 te) (own.map (·.2)) sg H Q := by
  refine ⟨_, ph, F, s, r, ?_⟩
  cases e : mi s with
  | bad => exact absurd e hbd
  | exc x s1 => exact hx x s1 e
  | ok ds s1 =>
    intro J H1 p1 F1 x1 r1 wk b1 hl D hD
    obtain ⟨ys, s2, hc, fin⟩ := h ds s1 e
    generalize hev : wipeE s1.env (own.map (·.2)) = ev at hc
    have er : EnvR X.K p1 F1 ev (L2.wipe sg (own.map (·.2))) := by rw [← hev]; exact r1.e.wipe _
    obtain ⟨hF, hZ, hph⟩ := r1.w.fresh hD
    -- the invariant
    refine ⟨fun i m H' => m = ds.length - i ∧ ∃ acc vs p2 F2 s3, Ext p1 F1 p2 F2 ∧ Rel X.K X.mg Z p2 F2 ⟨ev, s3⟩ (L2.wipe sg (own.map (·.2))) H' ∧ EnvR X.K p2 F2 s1.env sg ∧ Own p2 F2 H' D (.lst vs) ∧ DrA X.K p2 F2 vs acc ∧ acc.length ≤ i ∧ i ≤ ds.length ∧
      compL t ev tt te (ds.drop i) acc ⟨ev, s3⟩ = .ok ys s2, ⟨_, rfl, [], [], p1, F1, s1.sto, .refl, ?_, r1.e, ⟨hF, hph, upd_same⟩, .nil, Nat.zero_le _, Nat.zero_le _, hc⟩, ?_⟩
    · exact ⟨(Rel.new (s := s1) r1 hD).w, er⟩
    rintro i m H' ⟨rfl, acc, vs, p2, F2, s3, x2, r2, e2, hD2, ha, hal, hil, hc2⟩
    by_cases hi : i < ds.length
    · refine .inr ⟨wk.go Z p2 F2 _ _ H' i x2 r2 hi, _, fun H3 h3 => h3, fun x H3 hy => ?_⟩
      obtain ⟨F3, x3, r3, d, hd, q3⟩ := wk.yld _ p2 F2 _ _ H' i x H3 x2 r2.base hy hi
      have hD3 := hD2.keep r3.w
      have r3 := r2.back r3
      have hdrop : ds.drop i = d :: ds.drop (i + 1) := by
        rw [List.drop_eq_getElem_cons hi]
        rw [List.getElem?_eq_getElem hi] at hd
        rw [Option.some.inj hd]
      rw [hdrop] at hc2
      unfold compL at hc2
      cases ea : asg t d ev with
      | none => rw [ea] at hc2; cases hc2
      | some env' =>
        rw [ea] at hc2
        refine asg_ok r3 q3 ea fun sg4 r4 hw => ⟨wipe_eq (hw _ hsl), ?_⟩
        refine ⟨_, p2, F3, ⟨env', s3⟩, r4.base, ?_⟩
        cases et : tt ⟨env', s3⟩ with
        | bad => simp only [et] at hc2; cases hc2
        | exc y s5 => simp only [et] at hc2; cases hc2
        | ok b s5 =>
          simp only [et] at hc2
          intro H5 p5 F5 x5 r5 b5
          have hD5 := hD3.keep r5.w
          have r5 := r4.back r5
          have er5 : EnvR X.K p5 F5 ev (L2.wipe sg (own.map (·.2))) := r3.e.up x5
          have ex5 : Ext p1 F1 p5 F5 := x2.trans (x3.trans x5)
          cases b with
          | false =>
            simp only at hc2
            exact ⟨ds.length - (i + 1), by omega, rfl, acc, vs, p5, F5, s5.sto, ex5, ⟨r5.w, er5⟩, e2.up (x3.trans x5), hD5, ha.up (x3.trans x5), by omega, hi, hc2⟩
          | true =>
            simp only at hc2
            refine ⟨_, p5, F5, s5, r5.base, ?_⟩
            cases ee : te s5 with
            | bad => simp only [ee] at hc2; cases hc2
            | exc y s6 => simp only [ee] at hc2; cases hc2
            | ok y s6 =>
              simp only [ee] at hc2
              intro v H6 p6 F6 x6 r6 q6 b6
              have hD6 := hD5.keep r6.w
              have r6 := r5.back r6
              refine ⟨vs, hD6.h, by rw [ha.len, sizeLine_eq]; omega, ds.length - (i + 1), by omega, rfl, acc ++ [y], vs ++ [v], p6, F6, s6.sto, ex5.trans x6, ?_, e2.up ((x3.trans x5).trans x6), ⟨hD6.f, hD6.p, upd_same⟩,
                (ha.up ((x3.trans x5).trans x6)).app (.cons q6 .nil), by rw [List.length_append, List.length_singleton]; omega, hi, hc2⟩
              exact ⟨(Rel.poke r6 hD6 hZ).w, er5.up x6⟩
    · refine .inl ⟨wk.stop Z p2 F2 _ _ H' i x2 r2 (by omega), ?_⟩
      rw [List.drop_eq_nil_of_le (by omega)] at hc2
      simp only [compL, Out.ok.injEq] at hc2
      obtain ⟨rfl, rfl⟩ := hc2
      exact fin D H' p2 F2 (x1.trans x2) ⟨r2.w, e2⟩ ⟨hD2.f, hD2.p, hZ, ⟨hD2.f, vs, hD2.h, ha⟩, by intro z; cases z⟩
def rLc (t : Tg) (own : List Nat) (mi : M (List D)) (tt : M Bool) (te : M D) : M Rs := bnd (cItems t own mi tt te) fun ys => ret (.c (.lst ys))
theorem sr_lc (hc : X.calm = true) (hN : X.N.Nodup) (hi : SI W X tg iter mi) (ok : BlkOk X.N X.env.scope scope own) (hsl : ∀ i ∈ t.slots, i ∈ own.map (·.2))
    (hg : ∀ (s : Shared) (H : Hp) (C : Addr) (cl : List (Str × Addr)) (fp : List Addr), PG (X.blk s H scope (compEnvC scope cl C X.env) fp) tg (gT X.K t))
    (ht : ∀ (s : Shared) (H : Hp) (C : Addr) (cl : List (Str × Addr)) (fp : List Addr), SPT W0 (X.blk s H scope (compEnvC scope cl C X.env) fp) ifs tt)
    (he : ∀ (s : Shared) (H : Hp) (C : Addr) (cl : List (Str × Addr)) (fp : List Addr), SE W0 (X.blk s H scope (compEnvC scope cl C X.env) fp) elt te) (hs : ∀ x, foldedSetIterable iter X.env x = pure x := by intro _; rfl) :
    SR W X (.ListComp elt [⟨tg, iter, ifs, 0⟩] scope pos) (rLc t (own.map (·.2)) mi tt te) :=
  SR.of (pe_lc (tt := tT X.K X.mg W0 tt) (te := tE X.K X.mg W0 te) hc hN hi.pi ok hg (fun s H C cl fp => (ht s H C cl fp).pts) (fun s H C cl fp => (he s H C cl fp).pe) hs) fun Z ph F s sg H Q r bd h => by
    refine lc_turns hsl r (fun ds s1 e => ?_) (fun x s1 e => ?_) (fun e => ?_)
    · have h' := h
      unfold rLc cItems bnd at h'
      simp only [e] at h'
      cases q : compL t (wipeE s1.env (own.map (·.2))) tt te ds [] ⟨wipeE s1.env (own.map (·.2)), s1.sto⟩ with
      | bad => simp only [q] at h'; exact h'.elim
      | exc x s2 => simp only [q] at h'; exact h'.elim
      | ok ys s2 =>
        simp only [q] at h'
        exact ⟨ys, s2, rfl, fun a H' p F' x r' w b => h' a H' p F' x r' w b⟩
    · have h' := h
      unfold rLc cItems bnd at h'
      simp only [e] at h'
      exact h'
    · have h' := h
      unfold rLc cItems bnd at h'
      simp only [e] at h'
      exact h'
/-- name = [..]: frozen -/
theorem ss_setLc {i : Nat} {y : Str} {py spos : Pos} (hc : X.calm = true) (hN : X.N.Nodup) (hy : X.N[i]? = some y) (hyl : X.env.scope.names.lookup y = some .local)
    (hsw : swapsWith (.ListComp elt [⟨tg, iter, ifs, 0⟩] scope pos) (some (.Name y py)) spos.line X.env = pure true) (hi : SI W X tg iter mi) (ok : BlkOk X.N X.env.scope scope own) (hsl : ∀ i ∈ t.slots, i ∈ own.map (·.2))
    (hg : ∀ (s : Shared) (H : Hp) (C : Addr) (cl : List (Str × Addr)) (fp : List Addr), PG (X.blk s H scope (compEnvC scope cl C X.env) fp) tg (gT X.K t))
    (ht : ∀ (s : Shared) (H : Hp) (C : Addr) (cl : List (Str × Addr)) (fp : List Addr), SPT W0 (X.blk s H scope (compEnvC scope cl C X.env) fp) ifs tt)
    (he : ∀ (s : Shared) (H : Hp) (C : Addr) (cl : List (Str × Addr)) (fp : List Addr), SE W0 (X.blk s H scope (compEnvC scope cl C X.env) fp) elt te) (hs : ∀ x, foldedSetIterable iter X.env x = pure x := by intro _; rfl) :
    SS W X (.Assign [.Name y py] (.ListComp elt [⟨tg, iter, ifs, 0⟩] scope pos) spos) (sSet i (fz (rLc t (own.map (·.2)) mi tt te))) :=
  SS.of (ps_setLc (tt := tT X.K X.mg W0 tt) (te := tE X.K X.mg W0 te) hc hN hy hyl hsw hi.pi ok hg (fun s H C cl fp => (ht s H C cl fp).pts) (fun s H C cl fp => (he s H C cl fp).pe) hs) fun Z ph F s sg H E r bd h => by
    refine lc_turns hsl r (fun ds s1 e => ?_) (fun x s1 e => ?_) (fun e => ?_)
    · have h' := h
      unfold sSet bndS fz rLc cItems bnd at h'
      simp only [e] at h'
      cases q : compL t (wipeE s1.env (own.map (·.2))) tt te ds [] ⟨wipeE s1.env (own.map (·.2)), s1.sto⟩ with
      | bad => simp only [q] at h'; exact h'.elim
      | exc x s2 => simp only [q] at h'; exact h'.elim
      | ok ys s2 =>
        simp only [q, ret, frz] at h'
        refine ⟨ys, s2, rfl, fun a H' p F' x r' w b => ?_⟩
        obtain ⟨F2, x2, w2, d2⟩ := w.frz (d := .lst ys) rfl r'.w
        exact h' _ H' p F2 (x.trans x2) (Rel.set (s := ⟨s1.env, s2.sto⟩) ⟨w2, r'.e.up x2⟩ d2 i) b
    · have h' := h
      unfold sSet bndS fz rLc cItems bnd at h'
      simp only [e] at h'
      exact h'
    · have h' := h
      unfold sSet bndS fz rLc cItems bnd at h'
      simp only [e] at h'
      exact h'
/-- .. boxed -/
theorem ss_setLcB {i : Nat} {y : Str} {py spos : Pos} (hc : X.calm = true) (hN : X.N.Nodup) (hy : X.N[i]? = some y) (hyl : X.env.scope.names.lookup y = some .local)
    (hsw : swapsWith (.ListComp elt [⟨tg, iter, ifs, 0⟩] scope pos) (some (.Name y py)) spos.line X.env = pure true) (hi : SI W X tg iter mi) (ok : BlkOk X.N X.env.scope scope own) (hsl : ∀ i ∈ t.slots, i ∈ own.map (·.2))
    (hg : ∀ (s : Shared) (H : Hp) (C : Addr) (cl : List (Str × Addr)) (fp : List Addr), PG (X.blk s H scope (compEnvC scope cl C X.env) fp) tg (gT X.K t))
    (ht : ∀ (s : Shared) (H : Hp) (C : Addr) (cl : List (Str × Addr)) (fp : List Addr), SPT W0 (X.blk s H scope (compEnvC scope cl C X.env) fp) ifs tt)
    (he : ∀ (s : Shared) (H : Hp) (C : Addr) (cl : List (Str × Addr)) (fp : List Addr), SE W0 (X.blk s H scope (compEnvC scope cl C X.env) fp) elt te) (hs : ∀ x, foldedSetIterable iter X.env x = pure x := by intro _; rfl) :
    SS W X (.Assign [.Name y py] (.ListComp elt [⟨tg, iter, ifs, 0⟩] scope pos) spos) (sSet i (bx (rLc t (own.map (·.2)) mi tt te))) :=
  SS.of (ps_setLc (tt := tT X.K X.mg W0 tt) (te := tE X.K X.mg W0 te) hc hN hy hyl hsw hi.pi ok hg (fun s H C cl fp => (ht s H C cl fp).pts) (fun s H C cl fp => (he s H C cl fp).pe) hs) fun Z ph F s sg H E r bd h => by
    refine lc_turns hsl r (fun ds s1 e => ?_) (fun x s1 e => ?_) (fun e => ?_)
    · have h' := h
      unfold sSet bndS bx rLc cItems bnd at h'
      simp only [e] at h'
      cases q : compL t (wipeE s1.env (own.map (·.2))) tt te ds [] ⟨wipeE s1.env (own.map (·.2)), s1.sto⟩ with
      | bad => simp only [q] at h'; exact h'.elim
      | exc x s2 => simp only [q] at h'; exact h'.elim
      | ok ys s2 =>
        simp only [q, ret] at h'
        refine ⟨ys, s2, rfl, fun a H' p F' x r' w b => ?_⟩
        obtain ⟨w2, d2⟩ := w.box r'.w
        exact h' _ H' (p ++ [a]) F' (x.trans extP) (Rel.set (s := ⟨s1.env, s2.sto ++ [.lst ys]⟩) ⟨w2, r'.e.up extP⟩ d2 i) b
    · have h' := h
      unfold sSet bndS bx rLc cItems bnd at h'
      simp only [e] at h'
      exact h'
    · have h' := h
      unfold sSet bndS bx rLc cItems bnd at h'
      simp only [e] at h'
      exact h'
end
end LW
namespace LW
open PySem PySem.Spec L2
open PyProof.Rows (envOfC)

/-! a def's promise where no repr runs around it -/
structure FnG (P : Program) (w : World) (K : PySem.W.Frag) (mg : Str → Option Value) (base : Heap) (k : Nat) (f : Addr) (fd : FuncData) (ps : List Str) (sp : Sp) : Prop where
  len : ∀ (vs : List V) (H : Hp) (Q : VK) (E : XK), sp vs H Q E → vs.length = ps.length
  run : ∀ (A : Around) (out : List Env) (s : Shared) (H : Hp) (args : Args) (us : List Value) (vs : List V) (Q : VK) (E : XK), Room k A → A.guards = some [] → Env0 P w K mg base A out s H →
    BindsTo s fd args (ps.zip us) → Vals vs us → sp vs H Q E → codeAny (model P w) A (.call (.ref f) args) (CR (L2.CX P w) out P w H s Q E) s
section
variable {P : Program} {w : World} {K : PySem.W.Frag} {mg : Str → Option Value} {base : Heap}
theorem FnG.mono {j k : Nat} {f : Addr} {fd : FuncData} {ps : List Str} {sp : Sp} (g : FnG P w K mg base j f fd ps sp) (h : j ≤ k) : FnG P w K mg base k f fd ps sp :=
  ⟨g.len, fun A out s H args us vs Q E hr => g.run A out s H args us vs Q E (hr.mono h)⟩
theorem FnG.imp {k : Nat} {f : Addr} {fd : FuncData} {ps : List Str} {sp sp' : Sp} (g : FnG P w K mg base k f fd ps sp) (h : ∀ vs H Q E, sp' vs H Q E → sp vs H Q E) : FnG P w K mg base k f fd ps sp' :=
  ⟨fun vs H Q E q => g.len vs H Q E (h _ _ _ _ q), fun A out s H args us vs Q E hr hg e0 hb hv q => g.run A out s H args us vs Q E hr hg e0 hb hv (h _ _ _ _ q)⟩
/-- a def by its body -/
theorem Fun.okG {x qual : Str} {st : Stmt} {f : Addr} {fd : FuncData} {N ps : List Str} {k : Nat} {sp : Sp} (F : Fun K x qual st f fd) (Sc : FnScope N ps (defScope st)) (hl : ∀ vs H Q E, sp vs H Q E → vs.length = ps.length)
    (hb : ∀ (cdv : Value) (A : Around) (out : List Env) (s : Shared) (H : Hp) (vs : List V) (Q : VK) (E : XK), Room k (A.deeper (envOfC qual (defScope st) s.heap.objs.size f cdv)) → A.guards = some [] → sp vs H Q E →
      ∃ t, PSs (cxOf (L2.CX P w) P w K mg base N qual (defScope st) f cdv A out s H E) (defBody st) t ∧ t { nx := fun _ H' => Q .non H', rt := Q } (L2.start N vs) H) : FnG P w K mg base (k + 1) f fd ps sp := by
  obtain ⟨oc, od, kV, doc, pm, an, cdv, ct, osl, hfd, look, hcode⟩ := F.ex
  subst hfd
  refine ⟨hl, ?_⟩
  intro A out s H args us vs Q E hr hg e0 hbind hv hsp
  have hlen := hl vs H Q E hsp
  have stays : ∀ (b : Addr) (o : Obj), base.get? b = some o → s.heap.get? b = some o := fun b o q => (e0.bs b o q).1
  have inK : K.In s.heap := e0.mod.kin.keeps stays
  refine codeAny_call_function hr.depth (inK _ _ look) rfl Sc.co Sc.gen rfl (PySem.W.codeRec_of inK hcode) (hbind _ _ _ _ ?_)
  refine wpAny_newFunctionEnv_cells Sc.kind (fun y hy => ?_) fun env he s1 inC => ?_
  · rcases Sc.par y.1 (List.of_mem_zip hy).1 with q | q
    · exact .inl q
    · exact .inr ⟨q, PySem.W.cellsFrom_some _ _ _ (.inl q)⟩
  subst he
  obtain ⟨t, ht, hq⟩ := hb cdv A out s H vs Q E (hr.deeper _) hg hsp
  refine ⟨(e0.mod.nolimit.keeps stays).keeps inC.toInCall.keep, codeAny_func (wpAny_mono (ht.run [] s1 (L2.start N vs) H _ (inv_start Sc hr.hd e0 hlen hv inC) hq) (fun fl s' hs => ?_) fun _ _ z => z)⟩
  cases fl with
  | ret u =>
    obtain ⟨v, sg', H', J, rv, q⟩ := hs
    exact ⟨v, H', J.os, J.bare, J.base, J.hok, rv, q⟩
  | next =>
    obtain ⟨sg', H', J, q⟩ := hs
    exact ⟨.non, H', J.os, J.bare, J.base, J.hok, rfl, q⟩
  | brk => obtain ⟨_, _, _, q⟩ := hs; exact q.elim
  | cont => obtain ⟨_, _, _, q⟩ := hs; exact q.elim
end

/-! functions by values -/
inductive OutF where
  | ok (r : Rs) (sto : List Cell) | exc (x : Exc) (sto : List Cell) | bad
abbrev Fn := List D → List Cell → OutF
def ResF (K : PySem.W.Frag) (mg : Str → Option Value) (Z : En) (o : OutF) (Q : VK) (E : XK) : Prop := match o with
  | .ok (.d d) sto => ∀ (v : V) (H' : Hp) (ph' : List Addr) (F' : Hp), Wd K mg Z ph' F' sto H' → Dr K ph' F' v d → Q v H'
  | .ok (.c c) sto => ∀ (a : Addr) (H' : Hp) (ph' : List Addr) (F' : Hp), Wd K mg Z ph' F' sto H' → Fr K mg Z ph' F' H' a c → Q (.ref a) H'
  | .exc x sto => ∀ (c : Value) (dd : Option Addr) (H' : Hp) (ph' : List Addr) (F' : Hp), Wd K mg Z ph' F' sto H' → XR K mg ph' F' x c dd H' → E c dd H'
  | .bad => False
def spF (K : PySem.W.Frag) (mg : Str → Option Value) (n : Nat) (f : Fn) : Sp := fun vs H Q E => ∃ (ph : List Addr) (F : Hp) (sto : List Cell) (ds : List D),
  Wd K mg ⟨H, F, ph⟩ ph F sto H ∧ DrA K ph F vs ds ∧ ds.length = n ∧ ResF K mg ⟨H, F, ph⟩ (f ds sto) Q E
theorem spF_len {K : PySem.W.Frag} {mg : Str → Option Value} {n : Nat} {f : Fn} {vs : List V} {H : Hp} {Q : VK} {E : XK} (h : spF K mg n f vs H Q E) : vs.length = n := by
  obtain ⟨_, _, _, ds, _, q, l, _⟩ := h
  rw [q.len, l]

/-! calls -/
def rCall (f : Fn) (m : M (List D)) : M Rs := bnd m fun ds s => match f ds s.sto with
  | .ok r sto => .ok r ⟨s.env, sto⟩
  | .exc x sto => .exc x ⟨s.env, sto⟩
  | .bad => .bad
section
variable {X : Cx} {k : Nat} {f : Addr} {fd : FuncData} {ps : List Str} {sp : Sp} {W : WX} {x m : Str} {p pos apos : Pos} {e o : Expr} {es : List Expr} {ta : TE} {t : TA}
theorem run_G {E : L2.St → XK} {pins : List (Addr × Obj)} {sg : L2.St} {H : Hp} {s : Shared} {Q : VK} {us : List Value} {vs : List V} (g : FnG X.prog X.w X.K X.mg X.base k f fd ps sp) (hr : Room k X.A) (hg : X.A.guards = some []) (hb : Binds X.K fd ps [])
    (hx : PassesAt (L2.CX X.prog X.w) X sg (E sg)) (I : Inv X pins sg H s) (r : Vals vs us) (h : sp vs H Q (E sg)) : wpAny (model X.prog X.w) X.A (call (.ref f) us) (EP X pins sg Q) X.xe s := by
  have hl : us.length = ps.length := r.length.symm.trans (g.len _ _ _ _ h)
  have b := hb s us I.kIn (by rw [List.append_nil]; exact hl)
  rw [List.append_nil] at b
  refine wpAny_call (codeAny_mono (g.run X.A X.stack s H ⟨us, []⟩ us vs Q (E sg) hr hg I.env0 b r h) ?_)
  intro res s' hq
  match res, hq with
  | .error y, hq => exact hx pins H s y s' I hq
  | .ok (.ret u), hq => exact I.after hq
theorem pe_callG {E : L2.St → XK} (g : FnG X.prog X.w X.K X.mg X.base k f fd ps sp) (hr : Room k X.A) (hgd : X.A.guards = some []) (hg : Gl X x) (hm : X.mg x = some (.ref f)) (hk : PySem.W.keepIn X.K (.ref f) = true) (hb : Binds X.K fd ps []) (hx : ∀ sg, PassesAt (L2.CX X.prog X.w) X sg (E sg))
    (ha : PA X (e :: es) t) (hdb : (x == ("__debug__" : Str)) = false := by decide) (he : starEach (e :: es) X.env = (false, eval e X.env) :: starEach es X.env := by rfl) (hpl : (backTo pos (starEach es X.env)).any (·.1) = false := by rfl) :
    PE X (.Call (.Name x p) (e :: es) [] pos) (tCallS sp E t) :=
  ⟨fun pins s sg H Q I h => wpAny_Call_Name_kw (ld_glob I hg hm (PySem.W.callWith_K (h₀ := X.base) I.ok.mod.kin hk
    (thn (ha.run pos pins s sg H _ I h) fun us s1 ⟨vs, H1, I1, rv, q⟩ => ⟨I1.kIn, run_G g hr hgd hb (hx sg) I1 rv q⟩) he hpl) hdb)⟩
theorem kdF_call {Z : En} {sg : L2.St} {ph : List Addr} {F : Hp} {H : Hp} {Q : V → Hp → Prop} {fn : Fn} {ds : List D} {s : S} {vs : List V} {n : Nat} (r : Rel X.K X.mg Z ph F s sg H) (q : DrA X.K ph F vs ds) (hn : ds.length = n)
    (h : ResR X.K X.mg Z W sg (match fn ds s.sto with | .ok r sto => .ok r ⟨s.env, sto⟩ | .exc x sto => .exc x ⟨s.env, sto⟩ | .bad => .bad) ph F Q) : spF X.K X.mg n fn vs H (fun v H' => Bd X.K H' → Q v H') (WE W sg) := by
  refine ⟨ph, F, s.sto, ds, r.base.w, q, hn, ?_⟩
  cases e : fn ds s.sto with
  | bad => rw [e] at h; exact h.elim
  | exc y sto =>
    rw [e] at h
    intro c dd H' ph' F' w xr
    exact h c dd sg H' ph' F' w.ext ⟨r.w.back w, r.e.up w.ext⟩ xr
  | ok y sto =>
    rw [e] at h
    cases y with
    | d d => exact fun v H' ph' F' w dr b => h v H' ph' F' w.ext ⟨r.w.back w, r.e.up w.ext⟩ dr b
    | c c => exact fun a H' ph' F' w fr b => h a H' ph' F' w.ext ⟨r.w.back w, r.e.up w.ext⟩ ⟨fr.hf, fr.hp, (r.w.fresh fr.hz).2.1, fr.hc, fr.hl⟩ b
theorem sr_call {fn : Fn} {ma : M (List D)} (tk : Takes X W) (g : FnG X.prog X.w X.K X.mg X.base k f fd ps (spF X.K X.mg (es.length + 1) fn)) (hr : Room k X.A) (hgd : X.A.guards = some []) (hg : Gl X x) (hm : X.mg x = some (.ref f)) (hk : PySem.W.keepIn X.K (.ref f) = true) (hb : Binds X.K fd ps [])
    (ha : SA W X (e :: es) ma) (hlen : ∀ s ds s', ma s = .ok ds s' → ds.length = es.length + 1) (hdb : (x == ("__debug__" : Str)) = false := by decide) (he : starEach (e :: es) X.env = (false, eval e X.env) :: starEach es X.env := by rfl) (hpl : (backTo pos (starEach es X.env)).any (·.1) = false := by rfl) :
    SR W X (.Call (.Name x p) (e :: es) [] pos) (rCall fn ma) :=
  SR.of (pe_callG g hr hgd hg hm hk hb (passAt tk) ha.pa hdb he hpl) fun Z ph F s sg H Q r bd h => by
    refine ⟨_, ph, F, s, r, ?_⟩
    unfold rCall bnd at h
    cases q : ma s with
    | bad => rw [q] at h; exact h
    | exc y s' => rw [q] at h; exact h
    | ok ds s' =>
      rw [q] at h
      exact fun vs H1 p1 F1 x1 r1 w1 b1 => kdF_call r1 w1 (hlen s ds s' q) (ResR.up h x1)
theorem takesW0 : Takes X W0 := fun _ _ y => by
  obtain ⟨_, _, _, _, _, _, _, _, _, _, _, _, _, _, _, _, z⟩ := y
  exact z.elim
end

/-! a body -/
def envF (n : Nat) (ds : List D) : List (Option D) := ds.map some ++ List.replicate (n - ds.length) none
def bodyF (n : Nat) (m : MS) : Fn := fun ds sto => match m ⟨envF n ds, sto⟩ with
  | .nx s => .ok (.d .non) s.sto
  | .rt d s => .ok (.d d) s.sto
  | .exc x s => .exc x s.sto
  | .bad => .bad
theorem envR_start {K : PySem.W.Frag} {ph : List Addr} {F : Hp} {N : List Str} {vs : List V} {ds : List D} (q : DrA K ph F vs ds) : EnvR K ph F (envF N.length ds) (L2.start N vs) := by
  refine ⟨by unfold envF L2.start; rw [List.length_append, List.length_append, List.length_map, List.length_map, List.length_replicate, List.length_replicate, q.len], fun i d h => ?_⟩
  unfold envF at h
  by_cases hi : i < ds.length
  · rw [List.getElem?_append_left (by simpa using hi), List.getElem?_map] at h
    cases e : ds[i]? with
    | none => rw [e] at h; cases h
    | some d' =>
      rw [e] at h
      cases h
      obtain ⟨v, h1, h2⟩ := q.get e
      refine ⟨v, ?_, h2⟩
      unfold L2.start
      rw [List.getElem?_append_left (by rw [List.length_map, q.len]; exact hi), List.getElem?_map, h1]
      rfl
  · rw [List.getElem?_append_right (by simpa using hi), List.getElem?_replicate] at h
    split at h <;> cases h
/-- a def's promise by its body's value -/
theorem okF {P : Program} {w : World} {K : PySem.W.Frag} {mg : Str → Option Value} {base : Heap} {x qual : Str} {st : Stmt} {f : Addr} {fd : FuncData} {N ps : List Str} {k : Nat} {m : MS} (F : Fun K x qual st f fd) (Sc : FnScope N ps (defScope st)) {n : Nat} (hn : n = ps.length)
    {nN : Nat} (hN : nN = N.length)
    (hb : ∀ (cdv : Value) (A : Around) (out : List Env) (s : Shared) (H : Hp) (E : XK), Room k (A.deeper (envOfC qual (defScope st) s.heap.objs.size f cdv)) → (A.deeper (envOfC qual (defScope st) s.heap.objs.size f cdv)).guards = some [] →
      Takes (cxOf (L2.CX P w) P w K mg base N qual (defScope st) f cdv A out s H E) (fun cls d _ H => E cls d H) →
      SB (fun cls d _ H => E cls d H) (cxOf (L2.CX P w) P w K mg base N qual (defScope st) f cdv A out s H E) (defBody st) m) : FnG P w K mg base (k + 1) f fd ps (spF K mg n (bodyF nN m)) := by
  subst hn
  subst hN
  refine Fun.okG F Sc (fun vs H Q E h => spF_len h) fun cdv A out s H vs Q E hr hg hsp => ?_
  obtain ⟨ph, F0, sto, ds, wd, q, hl, res⟩ := hsp
  refine ⟨_, (hb cdv A out s H E hr hg (takes_of rfl rfl rfl rfl)).ps, ⟨H, F0, ph⟩, ph, F0, ⟨envF N.length ds, sto⟩, ⟨wd, envR_start q⟩, ?_⟩
  unfold bodyF at res
  cases e : m ⟨envF N.length ds, sto⟩ with
  | bad => rw [e] at res; exact res
  | exc y s' =>
    rw [e] at res
    exact fun c dd sg H' p' F' _ r' xr => res c dd H' p' F' r'.w xr
  | nx s' =>
    rw [e] at res
    exact fun sg H' p' F' _ r' _ => res .non H' p' F' r'.w .non
  | rt d s' =>
    rw [e] at res
    exact fun v H' p' F' _ w' dr _ => res v H' p' F' w' dr
end LW
namespace LW
open PySem PySem.Spec L2
open PyProof.Rows (envOfC AllBare)

/-! the law's own end -/
theorem wd_start {K : PySem.W.Frag} {mg : Str → Option Value} {H : Hp} : Wd K mg ⟨H, H, []⟩ [] H [] H :=
  ⟨fun _ _ h _ => h, fun _ _ h => h, .refl, fun _ _ h => .inl h, List.nodup_nil, (fun _ h => by cases h), rfl, (fun _ _ _ h => by simp at h)⟩
section
open PySem.W
theorem call_true {P : Program} {w : World} {K : Frag} {mg mb : Str → Option Value} {k : Nat} {fa a : Addr} {fd : FuncData} {x : Str} {fn : Fn} {s : Shared} {vs : List Value} {ns : List Int}
    (inK : K.In s.heap) (hns : s.heap.Ns mainGlobals mg) (hb : s.heap.Ns builtinsNs mb) (hbb : ∀ y : Str, y ≠ "__name__" → mb y = bootBuiltins y) (hlim : s.heap.NoLimit) (hgen : s.gens = #[])
    (ha : s.heap.get? a = some { cls := .type "list", data := .seq vs.toArray }) (hi : PyProof.Rows.IntsAre vs ns) (hl : ns.length ≤ sizeLine) (hr : Room k callerA)
    (F : ∀ base : Heap, K.In base → base.Ns mainGlobals mg → FnG P w K mg base k fa fd [x] (spF K mg 1 fn)) (hbind : ∀ (s : Shared) (u : Value), BindsTo s fd ⟨[u], []⟩ [(x, u)])
    (hfn : ∃ sto, fn [.scr ns] [] = .ok (.d (.bl true)) sto) :
    codeAny (model P w) callerA (.call (.ref fa) ⟨[.ref a], []⟩) (fun r s' => r = .ok (.ret (.bool true)) ∧ OldK s.heap s'.heap ∧ s'.os = s.os ∧ AllBare s'.gens) s := by
  have hv : Vals (ns.map V.int) vs := vals_of_ints hi
  obtain ⟨sto, hfn⟩ := hfn
  have main : ∀ H : Hp, SqL K H a (ns.map V.int) → HOk P w H s.heap → (∀ b u, H b = some u → b = a ∧ K.lookup a = none ∧ ∃ o xs, u = .frz o (.lst xs)) →
      codeAny (model P w) callerA (.call (.ref fa) ⟨[.ref a], []⟩) (fun r s' => r = .ok (.ret (.bool true)) ∧ OldK s.heap s'.heap ∧ s'.os = s.os ∧ AllBare s'.gens) s := by
    intro H hS hok only
    have offA : ∀ (b : Addr) (o : Obj), s.heap.get? b = some o → (b = a → K.lookup a ≠ none ∨ ∃ es ep, o.data = .dict es ep) → H b = none := by
      intro b o e h
      cases q : H b with
      | none => rfl
      | some u =>
        obtain ⟨rfl, hk, _⟩ := only b u q
        rcases h rfl with z | ⟨es, ep, z⟩
        · exact absurd hk z
        · rw [ha] at e
          cases e
          cases z
    have ns_of : ∀ {b : Addr} {m : Str → Option Value}, s.heap.Ns b m → (hidT s.heap H).Ns b m := fun {b m} ⟨o, es, ep, e, d, r⟩ =>
      ⟨o, es, ep, hidT_get e (offA b o e fun _ => .inr ⟨es, ep, d⟩), d, r⟩
    have kb : K.In (hidT s.heap H) := fun b o e => hidT_get (inK b o e) (offA b o (inK b o e) fun z => .inl (by rw [← z, e]; intro y; cases y))
    have md : Mod K mg (hidT s.heap H) := ⟨kb, ns_of hns, ⟨mb, ns_of hb, hbb⟩, let ⟨mc, h1, h2⟩ := hlim; ⟨mc, ns_of h1, h2⟩⟩
    have e0 : Env0 P w K mg (hidT s.heap H) callerA [] s H := ⟨rfl, md, fun b o e => of_hidT e, Nat.le_of_eq (hidT_size _ _), trivial, (fun b z => by cases z), hok, .of_eq hgen⟩
    have sp : spF K mg 1 fn [.ref a] H (fun v _ => v = .bl true) (fun _ _ _ => False) := by
      refine ⟨[], H, [], [.scr ns], wd_start, .cons (.scr hS) .nil, rfl, ?_⟩
      rw [hfn]
      intro v H' ph' F' _ q
      cases q
      rfl
    refine codeAny_mono ((F _ kb (ns_of hns)).run callerA [] s H ⟨[.ref a], []⟩ [.ref a] [.ref a] _ _ hr rfl e0 (hbind s (.ref a)) (.cons rfl .nil) sp) ?_
    intro r s' h
    match r, h with
    | .error y, h =>
      obtain ⟨_, _, _, _, _, _, _, _, _, _, _, _, z⟩ := h
      exact z.elim
    | .ok (.ret u), h =>
      obtain ⟨v, H', os, bare, un, hok', rv, q⟩ := h
      have q2 : v = V.bl true := q
      rw [q2] at rv
      have ru : u = Value.bool true := rv
      rw [ru]
      refine ⟨rfl, OldK.of_keep fun b o e => ?_, os, bare⟩
      cases z : H b with
      | none => exact un.keep b o e z (fun y => by cases y) (fun y => by cases y)
      | some u2 =>
        obtain ⟨_, _, o2, xs, rfl⟩ := only b u2 z
        obtain ⟨g1, _⟩ := hok b _ z
        obtain ⟨g2, _⟩ := hok' b _ (un.frzs b o2 _ z)
        rw [e] at g1
        cases g1
        exact g2
  cases hk : K.lookup a with
  | some o =>
    have e := inK a o hk
    rw [ha] at e
    cases e
    exact main (fun _ => none) (.inr ⟨_, vs.toArray, _, hk, rfl, rfl, rfl, by rw [List.size_toArray, hi.length]; exact hl, hv⟩) (fun b u z => by cases (show (none : Option HO) = some u from z)) fun b u z => by cases (show (none : Option HO) = some u from z)
  | none =>
    refine main (fun b => if b = a then some (.frz { cls := .type "list", data := .seq vs.toArray } (.lst (ns.map V.int))) else none) (.inl (.inr ⟨_, if_pos rfl⟩)) (fun b u z => ?_) fun b u z => ?_
    · by_cases hb2 : b = a
      · subst hb2
        have z2 := (if_pos rfl).symm.trans z
        cases z2
        exact ⟨ha, by rw [List.length_map]; exact hl, vs, _, hv, ha⟩
      · cases (if_neg hb2).symm.trans z
    · by_cases hb2 : b = a
      · exact ⟨hb2, hk, _, _, (Option.some.inj ((if_pos hb2).symm.trans z)).symm⟩
      · cases (if_neg hb2).symm.trans z
/-- the goal that the head leaves -/
theorem walkG {l : OpenLaw} {n k : Nat} {q : Program} {loose : List Str} {XP : (Str → Option Value) → Heap → Prop} {YP : World → Heap → Prop} {d : DefRec} {K : Params → Frag} {x : Str} {fn : Fn}
    (hn : l.most = some n) (hn2 : n ≤ sizeLine) (hdf : d.params.defaults = []) (hr : Room k callerA) (hY : ∀ (w : World) (h : Heap), YP w h → (K w.params).In h)
    (F : ∀ (w : World) (mg : Str → Option Value) (fa : Addr) (h : Heap), (K w.params).In h → h.Ns mainGlobals mg → mg d.name = some (.ref fa) →
      ∃ fd : FuncData, (∀ (s : Shared) (u : Value), BindsTo s fd ⟨[u], []⟩ [(x, u)]) ∧
        ∀ base : Heap, (K w.params).In base → base.Ns mainGlobals mg → FnG l.prog w (K w.params) mg base k fa fd [x] (spF (K w.params) mg 1 fn))
    (hfn : ∀ ns : List Int, ns.length ≤ n → ∃ sto, fn [.scr ns] [] = .ok (.d (.bl true)) sto) : WalkO q loose XP YP l.row.toRowW d [] (fun f vs => PySem.call f vs) := by
  refine Att.attach_call hn hdf fun w s0 s1 mg mb fa o pm cd doc a vs ns G Y ho hd hcd hmg hobj hints hlen hg => ?_
  have inK := hY w _ Y
  obtain ⟨fd, hb, hF⟩ := F w mg fa _ inK G.T.g hmg
  exact call_true inK G.T.g G.T.b G.T.builtins G.T.nolimit hg hobj hints (Nat.le_trans hlen hn2) hr hF hb (hfn ns hlen)
end

/-! what a body made for itself is let go -/
mutual
def bel (n : Nat) : D → Bool
  | .loc m => decide (m < n)
  | .tup ds => belA n ds
  | .lst ds => belA n ds
  | .dK _ ds => belA n ds
  | .dT _ ds => belA n ds
  | .tpz ds => belA n ds
  | .xcp _ _ _ ds => belA n ds
  | .non => true | .bl _ => true | .int _ => true | .str _ => true | .scr _ => true
def belA (n : Nat) : List D → Bool
  | [] => true
  | d :: ds => bel n d && belA n ds
end
def belF (n : Nat) : List (Str × D) → Bool
  | [] => true
  | p :: r => bel n p.2 && belF n r
def belC (n : Nat) : Cell → Bool
  | .lst ds => belA n ds
  | .dK _ ds => belA n ds
  | .dT _ ds => belA n ds
  | .ins _ fs => belF n fs
  | .dead => true
section
variable {K : PySem.W.Frag} {mg : Str → Option Value} {ph : List Addr} {F H : Hp}
mutual
theorem Dr.cut (n : Nat) : ∀ (d : D) (v : V), bel n d = true → Dr K ph F v d → Dr K (ph.take n) F v d
  | .non, _, _, h => by cases h; exact .non
  | .bl b, _, _, h => by cases h; exact .bl b
  | .int b, _, _, h => by cases h; exact .int b
  | .str b, _, _, h => by cases h; exact .str b
  | .lst ds, _, e, h => by
    cases h with
    | lst h1 h2 => exact .lst h1 (DrA.cut n ds _ (by simpa [bel] using e) h2)
  | .tup ds, _, e, h => by
    cases h with
    | tup h1 h2 => exact .tup h1 (DrA.cut n ds _ (by simpa [bel] using e) h2)
  | .dK ks ds, _, e, h => by
    cases h with
    | dK h1 h2 => exact .dK h1 (DrA.cut n ds _ (by simpa [bel] using e) h2)
  | .dT ks ds, _, e, h => by
    cases h with
    | dT h1 h2 => exact .dT h1 (DrA.cut n ds _ (by simpa [bel] using e) h2)
  | .tpz ds, _, e, h => by
    cases h with
    | tpz h1 g1 g2 h2 => exact .tpz h1 g1 g2 (DrA.cut n ds _ (by simpa [bel] using e) h2)
  | .xcp a d ks ds, _, e, h => by
    cases h with
    | xc0 => exact .xc0
    | xcp h1 h2 => exact .xcp h1 (DrA.cut n ds _ (by simpa [bel] using e) h2)
  | .loc m, _, e, h => by
    cases h with
    | loc h1 => exact .loc (by rw [List.getElem?_take_of_lt (by simpa [bel] using e)]; exact h1)
  | .scr m, _, _, h => by
    cases h with
    | scr h1 => exact .scr h1
theorem DrA.cut (n : Nat) : ∀ (ds : List D) (vs : List V), belA n ds = true → DrA K ph F vs ds → DrA K (ph.take n) F vs ds
  | [], _, _, h => by cases h; exact .nil
  | d :: ds, _, e, h => by
    cases h with
    | cons h1 h2 =>
      have e' : bel n d = true ∧ belA n ds = true := by simpa [belA] using e
      exact .cons (Dr.cut n d _ e'.1 h1) (DrA.cut n ds _ e'.2 h2)
end
mutual
theorem Dr.bel : ∀ (d : D) (v : V), Dr K ph F v d → bel ph.length d = true
  | .non, _, h => rfl
  | .bl b, _, h => rfl
  | .int b, _, h => rfl
  | .str b, _, h => rfl
  | .lst ds, _, h => by
    cases h with
    | lst h1 h2 => simpa [LW.bel] using DrA.bel ds _ h2
  | .tup ds, _, h => by
    cases h with
    | tup h1 h2 => simpa [LW.bel] using DrA.bel ds _ h2
  | .dK ks ds, _, h => by
    cases h with
    | dK h1 h2 => simpa [LW.bel] using DrA.bel ds _ h2
  | .dT ks ds, _, h => by
    cases h with
    | dT h1 h2 => simpa [LW.bel] using DrA.bel ds _ h2
  | .tpz ds, _, h => by
    cases h with
    | tpz h1 _ _ h2 => simpa [LW.bel] using DrA.bel ds _ h2
  | .xcp a d ks ds, _, h => by
    cases h with
    | xc0 => rfl
    | xcp h1 h2 => simpa [LW.bel] using DrA.bel ds _ h2
  | .loc m, _, h => by
    cases h with
    | loc h1 => simpa [LW.bel] using (List.getElem?_eq_some_iff.mp h1).1
  | .scr m, _, h => rfl
theorem DrA.bel : ∀ (ds : List D) (vs : List V), DrA K ph F vs ds → belA ph.length ds = true
  | [], _, h => rfl
  | d :: ds, _, h => by
    cases h with
    | cons h1 h2 => simp [belA, Dr.bel d _ h1, DrA.bel ds _ h2]
end
theorem FsR.cut (n : Nat) {vs : List (Str × V)} {fs : List (Str × D)} (h : FsR K ph F vs fs) : belF n fs = true → FsR K (ph.take n) F vs fs := by
  induction h with
  | nil => exact fun _ => .nil
  | @cons f v d vs ds r t ih =>
    intro e
    have e' : LW.bel n d = true ∧ belF n ds = true := by simpa [belF] using e
    exact .cons (Dr.cut n _ _ e'.1 r) (ih e'.2)
theorem FsR.bel {vs : List (Str × V)} {fs : List (Str × D)} (h : FsR K ph F vs fs) : belF ph.length fs = true := by
  induction h with
  | nil => rfl
  | cons r t ih => simp [belF, Dr.bel _ _ r, ih]
theorem CellR.cut (n : Nat) {a : Addr} {c : Cell} (h : CellR K mg ph F H a c) (e : belC n c = true) : CellR K mg (ph.take n) F H a c := by
  cases c with
  | lst ds => obtain ⟨h0, xs, h1, h2⟩ := h; exact ⟨h0, xs, h1, DrA.cut n _ _ e h2⟩
  | dK ks ds => obtain ⟨h0, xs, h1, h2, h3⟩ := h; exact ⟨h0, xs, h1, h2, DrA.cut n _ _ e h3⟩
  | dT ks ds => obtain ⟨h0, xs, h1, h2, h3⟩ := h; exact ⟨h0, xs, h1, h2, DrA.cut n _ _ e h3⟩
  | ins c fs => obtain ⟨h0, C, dx, vs, h1, h2, h3⟩ := h; exact ⟨h0, C, dx, vs, h1, h2, h3.cut n e⟩
  | dead => exact h
theorem CellR.bel {a : Addr} {c : Cell} (h : CellR K mg ph F H a c) : belC ph.length c = true := by
  cases c with
  | lst ds => obtain ⟨h0, xs, h1, h2⟩ := h; exact DrA.bel _ _ h2
  | dK ks ds => obtain ⟨h0, xs, h1, h2, h3⟩ := h; exact DrA.bel _ _ h3
  | dT ks ds => obtain ⟨h0, xs, h1, h2, h3⟩ := h; exact DrA.bel _ _ h3
  | ins c fs => obtain ⟨h0, C, dx, vs, h1, h2, h3⟩ := h; exact h3.bel
  | dead => rfl
end
/-- the cells of the entry may be kept when the others go -/
def CutOk (sto sto' : List Cell) : Prop := sto.length ≤ sto'.length ∧ ∀ (j : Nat) (c : Cell), j < sto.length → sto'[j]? = some c → sto[j]? = some c ∨ belC sto.length c = true
theorem Wd.cut {K : PySem.W.Frag} {mg : Str → Option Value} {H F : Hp} {ph : List Addr} {sto sto' : List Cell} {ph' : List Addr} {F' H' : Hp} (w0 : Wd K mg ⟨H, F, ph⟩ ph F sto H) (w : Wd K mg ⟨H, F, ph⟩ ph' F' sto' H') (h : CutOk sto sto') :
    Wd K mg ⟨H, F, ph⟩ (ph'.take sto.length) F' (sto'.take sto.length) H' := by
  have l0 : sto.length = ph.length := w0.len
  refine ⟨w.fr, w.sub, ⟨fun n a e => ?_, w.ext.f⟩, w.new, w.nd.sublist (List.take_sublist _ _), fun b hb => w.nph b (List.mem_of_mem_take hb), by rw [List.length_take, List.length_take, w.len], fun n c a h1 h2 => ?_⟩
  · have hn : n < sto.length := by
      have := (List.getElem?_eq_some_iff.mp e).1
      rw [l0]; exact this
    rw [List.getElem?_take_of_lt hn]
    exact w.ext.p n a e
  · have hn : n < sto.length := by
      have := (List.getElem?_eq_some_iff.mp h1).1
      rw [List.length_take] at this
      omega
    rw [List.getElem?_take_of_lt hn] at h1 h2
    refine (w.cell n c a h1 h2).cut _ ?_
    rcases h.2 n c hn h1 with z | z
    · obtain ⟨b, hb⟩ := w0.phOf z
      rw [l0]
      exact (w0.cell n c b z hb).bel
    · exact z
open Classical in
/-- a body's value without what it made for itself -/
noncomputable def trF (f : Fn) : Fn := fun ds sto => match f ds sto with
  | .ok (.d d) sto' => if CutOk sto sto' then (match d with
      | .loc m => if m < sto.length then .ok (.d (.loc m)) (sto'.take sto.length) else (match sto'[m]? with
        | some c => if c ≠ .dead ∧ belC sto.length c = true then .ok (.c c) (sto'.take sto.length) else .bad
        | none => .bad)
      | d => if bel sto.length d = true then .ok (.d d) (sto'.take sto.length) else .bad) else .bad
  | .ok (.c c) sto' => if CutOk sto sto' ∧ belC sto.length c = true then .ok (.c c) (sto'.take sto.length) else .bad
  | .exc x sto' => if CutOk sto sto' ∧ belF sto.length x.fs = true then .exc x (sto'.take sto.length) else .bad
  | .bad => .bad
theorem spF_tr {K : PySem.W.Frag} {mg : Str → Option Value} {n : Nat} {f : Fn} {vs : List V} {H : Hp} {Q : VK} {E : XK} (h : spF K mg n (trF f) vs H Q E) : spF K mg n f vs H Q E := by
  obtain ⟨ph, F, sto, ds, w, q, l, res⟩ := h
  refine ⟨ph, F, sto, ds, w, q, l, ?_⟩
  unfold trF at res
  cases e : f ds sto with
  | bad => rw [e] at res; exact res
  | exc x sto' =>
    simp only [e] at res
    split at res
    · rename_i hc
      intro c dd H' ph' F' w' xr
      refine res c dd H' _ F' (w.cut w' hc.1) ⟨xr.1, ?_⟩
      rcases xr.2 with z | ⟨d, vs, h1, h2, h3, h4⟩
      · exact .inl z
      · exact .inr ⟨d, vs, h1, h2, h3, h4.cut _ hc.2⟩
    · exact res.elim
  | ok r sto' =>
    cases r with
    | c c =>
      simp only [e] at res
      split at res
      · rename_i hc
        exact fun a H' ph' F' w' fr => res a H' _ F' (w.cut w' hc.1) ⟨fr.hf, fun z => fr.hp (List.mem_of_mem_take z), fr.hz, fr.hc.cut _ hc.2, fr.hl⟩
      · exact res.elim
    | d d =>
      simp only [e] at res
      split at res
      · rename_i hc
        have fin : ∀ (d : D), LW.bel sto.length d = true → ResF K mg ⟨H, F, ph⟩ (.ok (.d d) (sto'.take sto.length)) Q E → ResF K mg ⟨H, F, ph⟩ (.ok (.d d) sto') Q E :=
          fun d hb h v H' ph' F' w' dr => h v H' _ F' (w.cut w' hc) (Dr.cut _ _ _ hb dr)
        cases d with
        | loc m =>
          simp only at res
          split at res
          · rename_i hm
            exact fin _ (by simpa [LW.bel] using hm) res
          · rename_i hm
            cases em : sto'[m]? with
            | none => simp only [em] at res; exact res.elim
            | some c =>
              simp only [em] at res
              split at res
              · rename_i hcc
                intro v H' ph' F' w' dr
                cases dr with
                | loc h1 =>
                  have cr := w'.cell m c _ em h1
                  refine res _ H' _ F' (w.cut w' hc) ⟨?_, fun z => ?_, ?_, cr.cut _ hcc.2, hcc.1⟩
                  · cases c with
                    | lst ds => exact cr.1
                    | dK ks ds => exact cr.1
                    | dT ks ds => exact cr.1
                    | ins c fs => exact cr.1
                    | dead => exact absurd rfl hcc.1
                  · obtain ⟨j, hj, ej⟩ := List.getElem_of_mem z
                    rw [List.length_take] at hj
                    rw [List.getElem_take] at ej
                    have h2 := (List.getElem?_eq_some_iff.mp h1)
                    obtain ⟨h2a, h2b⟩ := h2
                    have := (List.getElem_inj (h₀ := by omega) (h₁ := h2a) w'.nd).mp (ej.trans h2b.symm)
                    omega
                  · rcases w'.nph _ (List.mem_of_getElem? h1) with z | z
                    · obtain ⟨j, hj, ej⟩ := List.getElem_of_mem z
                      have h3 := w'.ext.p j _ (by rw [List.getElem?_eq_getElem hj, ej])
                      have h2a := (List.getElem?_eq_some_iff.mp h1)
                      have h3a := (List.getElem?_eq_some_iff.mp h3)
                      have := (List.getElem_inj (h₀ := h3a.1) (h₁ := h2a.1) w'.nd).mp (h3a.2.trans h2a.2.symm)
                      have hl : j < sto.length := by rw [w.len]; exact hj
                      omega
                    · exact z
              · exact res.elim
        | non => simp only at res; split at res; exact fin _ (by assumption) res; exact res.elim
        | bl b => simp only at res; split at res; exact fin _ (by assumption) res; exact res.elim
        | int b => simp only at res; split at res; exact fin _ (by assumption) res; exact res.elim
        | str b => simp only at res; split at res; exact fin _ (by assumption) res; exact res.elim
        | tup b => simp only at res; split at res; exact fin _ (by assumption) res; exact res.elim
        | lst b => simp only at res; split at res; exact fin _ (by assumption) res; exact res.elim
        | dK b c => simp only at res; split at res; exact fin _ (by assumption) res; exact res.elim
        | dT b c => simp only at res; split at res; exact fin _ (by assumption) res; exact res.elim
        | scr b => simp only at res; split at res; exact fin _ (by assumption) res; exact res.elim
        | tpz b => simp only at res; split at res; exact fin _ (by assumption) res; exact res.elim
        | xcp b c d e => simp only at res; split at res; exact fin _ (by assumption) res; exact res.elim
      · exact res.elim
theorem FnG.tr {P : Program} {w : World} {K : PySem.W.Frag} {mg : Str → Option Value} {base : Heap} {k n : Nat} {f : Addr} {fd : FuncData} {ps : List Str} {fn : Fn} (g : FnG P w K mg base k f fd ps (spF K mg n fn)) : FnG P w K mg base k f fd ps (spF K mg n (trF fn)) :=
  g.imp fun _ _ _ _ h => spF_tr h
/-- another function with the same values -/
theorem FnG.to {P : Program} {w : World} {K : PySem.W.Frag} {mg : Str → Option Value} {base : Heap} {k n : Nat} {f : Addr} {fd : FuncData} {ps : List Str} {fn fn' : Fn} (g : FnG P w K mg base k f fd ps (spF K mg n fn))
    (h : ∀ ds sto, ds.length = n → fn' ds sto ≠ .bad → fn ds sto = fn' ds sto) : FnG P w K mg base k f fd ps (spF K mg n fn') :=
  g.imp fun _ _ _ _ ⟨ph, F, sto, ds, wd, q, l, res⟩ => ⟨ph, F, sto, ds, wd, q, l, by
    by_cases e : fn' ds sto = .bad
    · rw [e] at res; exact res.elim
    · rw [h ds sto l e]; exact res⟩
end LW
namespace LW
open PySem PySem.Spec L2

/-! a box is let go: frozen from here on -/
def sFrz (i : Nat) : MS := fun s => match s.env[i]? with
  | some (some (.loc n)) => (match s.sto[n]? with
    | some c => (match frz c with
      | some d => .nx ⟨s.env.set i (some d), s.sto.set n .dead⟩
      | none => .bad)
    | none => .bad)
  | _ => .bad
section
variable {K : PySem.W.Frag} {mg : Str → Option Value} {Z : En} {W : WX} {ph : List Addr} {F H : Hp} {sto : List Cell} {sg : L2.St} {s : S}
theorem Wd.kill (w : Wd K mg Z ph F sto H) {n : Nat} {c : Cell} {a : Addr} {d : D} (hc : sto[n]? = some c) (ha : ph[n]? = some a) (e : LW.frz c = some d) :
    ∃ F', Ext ph F ph F' ∧ Wd K mg Z ph F' (sto.set n .dead) H ∧ Dr K ph F' (.ref a) d := by
  have cr := w.cell n c a hc ha
  have go : ∀ (o : HO), F a = none → H a = some o → Ext ph F ph (upd F a o) ∧ Wd K mg Z ph (upd F a o) (sto.set n .dead) H := by
    intro o hF ho
    have x := extF (ph := ph) (o := o) hF
    refine ⟨x, ⟨w.fr, fun b u q => ?_, w.ext.trans x, fun b u q => ?_, w.nd, w.nph, by rw [List.length_set]; exact w.len, fun m c' b h1 h2 => ?_⟩⟩
    · by_cases hb : b = a
      · subst hb; rw [upd_same] at q; cases q; exact ho
      · rw [upd_ne hb] at q; exact w.sub b u q
    · by_cases hb : b = a
      · subst hb
        rcases w.nph b (List.mem_of_getElem? ha) with z | z
        · exact .inr (.inr (.inl z))
        · exact .inr (.inl z)
      · rw [upd_ne hb] at q; exact w.new b u q
    · by_cases hm : n = m
      · subst hm
        have hl : n < sto.length := (List.getElem?_eq_some_iff.mp hc).1
        rw [List.getElem?_set_self hl] at h1
        cases h1
        rw [ha] at h2
        cases h2
        exact ⟨o, ho⟩
      · rw [List.getElem?_set_ne hm] at h1
        have hb : b ≠ a := fun z => by
          subst z
          have i1 := List.getElem?_eq_some_iff.mp ha
          have i2 := List.getElem?_eq_some_iff.mp h2
          exact hm ((List.getElem_inj (h₀ := i1.1) (h₁ := i2.1) w.nd).mp (i1.2.trans i2.2.symm))
        exact (w.cell m c' b h1 h2).up x (fun z => by rw [upd_ne hb]; exact z) fun u z => z
  cases c with
  | lst ds =>
    cases e
    obtain ⟨h0, xs, h1, h2⟩ := cr
    obtain ⟨x, w2⟩ := go _ h0 h1
    exact ⟨_, x, w2, .lst upd_same (h2.up x)⟩
  | dK ks ds =>
    cases e
    obtain ⟨h0, kvs, h1, rfl, h2⟩ := cr
    obtain ⟨x, w2⟩ := go _ h0 h1
    exact ⟨_, x, w2, .dK upd_same (h2.up x)⟩
  | dT ks ds =>
    cases e
    obtain ⟨h0, kvs, h1, rfl, h2⟩ := cr
    obtain ⟨x, w2⟩ := go _ h0 h1
    exact ⟨_, x, w2, .dT upd_same (h2.up x)⟩
  | _ => cases e
theorem ss_frz {X : Cx} {st : Stmt} {m : MS} (i : Nat) (h : SS W X st m) : SS W X st (seq (sFrz i) m) :=
  SS.of h.ps fun Z ph F s sg H E r bd q => by
    unfold seq sFrz at q
    cases e : s.env[i]? with
    | none => rw [e] at q; exact q.elim
    | some o =>
      rw [e] at q
      cases o with
      | none => exact q.elim
      | some d =>
        cases d with
        | loc n =>
          simp only at q
          cases e2 : s.sto[n]? with
          | none => rw [e2] at q; exact q.elim
          | some c =>
            rw [e2] at q
            simp only at q
            cases e3 : frz c with
            | none => rw [e3] at q; exact q.elim
            | some d =>
              rw [e3] at q
              simp only at q
              obtain ⟨v, h1, h2⟩ := r.e.2 i _ e
              cases h2 with
              | loc h3 =>
                obtain ⟨F', x, w2, dr⟩ := r.w.kill e2 h3 e3
                refine ⟨Z, ph, F', ⟨s.env.set i (some d), s.sto.set n .dead⟩, ⟨w2, ⟨by rw [List.length_set]; exact r.e.1, fun j d' hj => ?_⟩⟩, (ResS.up q x).bd⟩
                by_cases hij : i = j
                · subst hij
                  have hl := (List.getElem?_eq_some_iff.mp e).1
                  rw [List.getElem?_set_self hl] at hj
                  cases hj
                  exact ⟨_, h1, dr⟩
                · rw [List.getElem?_set_ne hij] at hj
                  obtain ⟨v', h4, h5⟩ := r.e.2 j d' hj
                  exact ⟨v', h4, h5.up x⟩
        | _ => exact q.elim
end

/-! what is walked -/
def rngD (n : Nat) (lo : Int) : List D := (List.range n).map fun k => .int (lo + (k : Nat))
def seqOf : D → Option (List D)
  | .lst ds => some ds
  | .tup ds => some ds
  | .tpz ds => some ds
  | _ => none
/-- the items of a list or a tuple -/
def iSeq (m : M D) : M (List D) := bnd m fun d => match seqOf d with
  | some ds => ret ds
  | none => fun _ => .bad
def iR1 (m : M (List D)) : M (List D) := bnd m fun ds => match ds with
  | [.int j] => if j ≤ 16777216 ∧ -4611686018427387904 ≤ j then ret (rngD j.toNat 0) else fun _ => .bad
  | _ => fun _ => .bad
def iR2 (m : M (List D)) : M (List D) := bnd m fun ds => match ds with
  | [.int i, .int j] => if -4611686018427387904 ≤ i ∧ i < 4611686018427387904 ∧ -4611686018427387904 ≤ j ∧ j < 4611686018427387904 ∧ j - i ≤ 16777216 then ret (rngD (j - i).toNat i) else fun _ => .bad
  | _ => fun _ => .bad
section
variable {X : Cx} {W : WX} {tg e a b : Expr} {es : List Expr} {m : M D} {ma : M (List D)} {p pos : Pos}
theorem walk_lst {K : PySem.W.Frag} {mg : Str → Option Value} {ph : List Addr} {F : Hp} {ad : Addr} {xs : List V} {ds : List D} (h : F ad = some (.lst xs)) (q : DrA K ph F xs ds) : WalkOk K mg (Itl K ad) ds ph F := by
  refine ⟨fun Z p1 F1 s sg H i x r hi => ?_, fun Z p1 F1 s sg H i v H' x r hy hi => ?_, fun Z p1 F1 s sg H i x r hi => ?_⟩
  · have h2 : H ad = some (.lst xs) := r.w.sub _ _ (x.f _ _ h)
    obtain ⟨v, e1, _⟩ := q.get (List.getElem?_eq_getElem hi)
    exact ⟨xs, v, SqL.of h2, e1⟩
  · obtain ⟨rfl, hv⟩ := hy
    have h2 : H' ad = some (.lst xs) := r.w.sub _ _ (x.f _ _ h)
    obtain ⟨d, e1, e2⟩ := (q.up x).getV (hv xs (SqL.of h2))
    exact ⟨F1, .refl, r, d, e1, e2⟩
  · have h2 : H ad = some (.lst xs) := r.w.sub _ _ (x.f _ _ h)
    exact ⟨xs, SqL.of h2, by rw [q.len]; exact hi⟩
theorem walk_tup {K : PySem.W.Frag} {mg : Str → Option Value} {ph : List Addr} {F : Hp} {ad : Addr} {xs : List V} {ds : List D} (h : F ad = some (.tup xs)) (q : DrA K ph F xs ds) : WalkOk K mg (Itt K ad) ds ph F := by
  refine ⟨fun Z p1 F1 s sg H i x r hi => ?_, fun Z p1 F1 s sg H i v H' x r hy hi => ?_, fun Z p1 F1 s sg H i x r hi => ?_⟩
  · have h2 : H ad = some (.tup xs) := r.w.sub _ _ (x.f _ _ h)
    obtain ⟨v, e1, _⟩ := q.get (List.getElem?_eq_getElem hi)
    exact ⟨xs, v, SqT.of h2, e1⟩
  · obtain ⟨rfl, hv⟩ := hy
    have h2 : H' ad = some (.tup xs) := r.w.sub _ _ (x.f _ _ h)
    obtain ⟨d, e1, e2⟩ := (q.up x).getV (hv xs (SqT.of h2))
    exact ⟨F1, .refl, r, d, e1, e2⟩
  · have h2 : H ad = some (.tup xs) := r.w.sub _ _ (x.f _ _ h)
    exact ⟨xs, SqT.of h2, by rw [q.len]; exact hi⟩
theorem walk_tpz {K : PySem.W.Frag} {mg : Str → Option Value} {ph : List Addr} {F : Hp} {ad : Addr} {ob : Obj} {xs : List V} {ds : List D} (h : F ad = some (.frz ob (.tup xs))) (q : DrA K ph F xs ds) : WalkOk K mg (Itt K ad) ds ph F := by
  refine ⟨fun Z p1 F1 s sg H i x r hi => ?_, fun Z p1 F1 s sg H i v H' x r hy hi => ?_, fun Z p1 F1 s sg H i x r hi => ?_⟩
  · have h2 : SqT K H ad xs := .inl (.inr ⟨_, r.w.sub _ _ (x.f _ _ h)⟩)
    obtain ⟨v, e1, _⟩ := q.get (List.getElem?_eq_getElem hi)
    exact ⟨xs, v, h2, e1⟩
  · obtain ⟨rfl, hv⟩ := hy
    have h2 : SqT K H' ad xs := .inl (.inr ⟨_, r.w.sub _ _ (x.f _ _ h)⟩)
    obtain ⟨d, e1, e2⟩ := (q.up x).getV (hv xs h2)
    exact ⟨F1, .refl, r, d, e1, e2⟩
  · have h2 : SqT K H ad xs := .inl (.inr ⟨_, r.w.sub _ _ (x.f _ _ h)⟩)
    exact ⟨xs, h2, by rw [q.len]; exact hi⟩
theorem walk_rng {K : PySem.W.Frag} {mg : Str → Option Value} {ph : List Addr} {F : Hp} (lo : Int) (n : Nat) : WalkOk K mg (Itr lo n) (rngD n lo) ph F := by
  have hl : (rngD n lo).length = n := by simp [rngD]
  refine ⟨fun Z p1 F1 s sg H i x r hi => by rw [hl] at hi; exact hi, fun Z p1 F1 s sg H i v H' x r hy hi => ?_, fun Z p1 F1 s sg H i x r hi => by rw [hl] at hi; exact hi⟩
  obtain ⟨rfl, rfl⟩ := hy
  rw [hl] at hi
  exact ⟨F1, .refl, r, .int (lo + i), by simp [rngD, hi], .int _⟩
theorem pi_bd {wi wi' : TI} (h : PI X tg e wi) (k : ∀ sg H R, wi' sg H R → wi sg H fun J H' => Bd X.K H' → R J H') : PI X tg e wi' :=
  ⟨fun pins s sg H R I q => thn (h.run pins s sg H _ I (k sg H R q)) fun v s1 h1 => thn h1 fun it s2 ⟨i, fp, tn, J, H', e1, I1, T, t0, f, r⟩ => ⟨i, fp, tn, J, H', e1, I1, T, t0, f, r (bd_of I1)⟩⟩
theorem pi_or {wi wi' : TI} (h : PI X tg e wi) (h' : PI X tg e wi') : PI X tg e fun sg H R => wi sg H R ∨ wi' sg H R :=
  ⟨fun pins s sg H R I q => q.elim (h.run pins s sg H R I) (h'.run pins s sg H R I)⟩
theorem si_seq (h : SE W X e m) : SI W X tg e (iSeq m) :=
  ⟨pi_bd (pi_or (pi_list h.pe) (pi_tup h.pe)) fun sg H R ⟨Z, ph, F, s, r, q⟩ => by
    unfold iSeq bnd at q
    cases g : m s with
    | bad => rw [g] at q; exact q.elim
    | exc x s' => rw [g] at q; exact .inl ⟨Z, ph, F, s, r, by rw [g]; exact q⟩
    | ok d s' =>
      rw [g] at q
      cases d with
      | lst ds =>
        refine .inl ⟨Z, ph, F, s, r, ?_⟩
        rw [g]
        intro v H1 p1 F1 x1 r1 q1 b1
        cases q1 with
        | @lst ad xs ds h1 h2 =>
          have h3 := r1.w.sub _ _ h1
          exact ⟨ad, rfl, ⟨xs, SqL.of h3⟩, fun b => q _ H1 p1 F1 x1 r1 (walk_lst h1 h2) b1 (by rw [← h2.len, ← sizeLine_eq]; exact b1 _ _ (.inl (SqL.of h3)))⟩
      | tup ds =>
        refine .inr ⟨Z, ph, F, s, r, ?_⟩
        rw [g]
        intro v H1 p1 F1 x1 r1 q1 b1
        cases q1 with
        | @tup ad xs ds h1 h2 =>
          have h3 := r1.w.sub _ _ h1
          exact ⟨ad, rfl, ⟨xs, SqT.of h3⟩, fun b => q _ H1 p1 F1 x1 r1 (walk_tup h1 h2) b1 (by rw [← h2.len, ← sizeLine_eq]; exact b1 _ _ (.inr (SqT.of h3)))⟩
      | tpz ds =>
        refine .inr ⟨Z, ph, F, s, r, ?_⟩
        rw [g]
        intro v H1 p1 F1 x1 r1 q1 b1
        cases q1 with
        | @tpz ad ob xs ds h1 g1 g2 h2 =>
          have h3 : SqT X.K H1 ad xs := .inl (.inr ⟨_, r1.w.sub _ _ h1⟩)
          exact ⟨ad, rfl, ⟨xs, h3⟩, fun b => q _ H1 p1 F1 x1 r1 (walk_tpz h1 h2) b1 (by rw [← h2.len, ← sizeLine_eq]; exact b1 _ _ (.inr h3))⟩
      | _ => exact q.elim⟩
theorem two62 : (4611686018427387904 : Int) = 2 ^ 62 := by decide
theorem si_range1 (hg : Gl X "range") (hm : X.mg "range" = none) (ha : SA W X [a] ma) (hs : starEach [a] X.env = [(false, eval a X.env)] := by rfl) : SI W X tg (.Call (.Name "range" p) [a] [] pos) (iR1 ma) :=
  ⟨pi_bd (pi_range1 hg hm ha.pa hs) fun sg H R ⟨Z, ph, F, s, r, q⟩ => by
    refine ⟨Z, ph, F, s, r, ?_⟩
    unfold iR1 bnd at q
    cases g : ma s with
    | bad => rw [g] at q; exact q
    | exc x s' => rw [g] at q; exact q
    | ok d s' =>
      rw [g] at q
      intro v H1 p1 F1 x1 r1 q1 b1
      match d, q1, q with
      | [.int j], q1, q =>
        simp only at q
        split at q
        · rename_i hj
          cases q1 with
          | cons y z =>
            cases z
            cases y
            exact ⟨j, rfl, by rw [← two62]; exact hj.2, by rw [← two62]; omega, fun b => q _ H1 p1 F1 x1 r1 (walk_rng 0 j.toNat) b1 (by simp [rngD]; omega)⟩
        · exact q.elim⟩
theorem si_range2 (hg : Gl X "range") (hm : X.mg "range" = none) (ha : SA W X [a, b] ma) (hs : starEach [a, b] X.env = [(false, eval a X.env), (false, eval b X.env)] := by rfl) (hs2 : starEach [b] X.env = [(false, eval b X.env)] := by rfl) : SI W X tg (.Call (.Name "range" p) [a, b] [] pos) (iR2 ma) :=
  ⟨pi_bd (pi_range2 hg hm ha.pa hs hs2) fun sg H R ⟨Z, ph, F, s, r, q⟩ => by
    refine ⟨Z, ph, F, s, r, ?_⟩
    unfold iR2 bnd at q
    cases g : ma s with
    | bad => rw [g] at q; exact q
    | exc x s' => rw [g] at q; exact q
    | ok d s' =>
      rw [g] at q
      intro v H1 p1 F1 x1 r1 q1 b1
      match d, q1, q with
      | [.int i, .int j], q1, q =>
        simp only at q
        split at q
        · rename_i hj
          cases q1 with
          | cons y z =>
            cases z with
            | cons y2 z =>
              cases z
              cases y
              cases y2
              exact ⟨i, j, rfl, by rw [← two62]; exact ⟨hj.1, hj.2.1, hj.2.2.1, hj.2.2.2.1⟩, fun b => q _ H1 p1 F1 x1 r1 (walk_rng i (j - i).toNat) b1 (by simp [rngD]; omega)⟩
        · exact q.elim⟩
end

/-! data without cells -/
mutual
def py : D → PyData
  | .non => .none | .bl b => .bool b | .int i => .int i | .str x => .str x
  | .tup ds => .tuple (pyA ds) | .lst ds => .list (pyA ds)
  | .dK _ _ => .none | .dT _ _ => .none | .loc _ => .none | .scr ns => .list (ns.map .int) | .tpz _ => .none | .xcp _ _ _ _ => .none
def pyA : List D → List PyData
  | [] => []
  | d :: ds => py d :: pyA ds
end
mutual
def flt : D → Bool
  | .non => true | .bl _ => true | .int _ => true | .str _ => true
  | .tup ds => fltA ds | .lst ds => fltA ds
  | .dK _ _ => false | .dT _ _ => false | .loc _ => false | .scr _ => true | .tpz _ => false | .xcp _ _ _ _ => false
def fltA : List D → Bool
  | [] => true
  | d :: ds => flt d && fltA ds
end
section
variable {K : PySem.W.Frag} {ph : List Addr} {F H : Hp}
theorem dp_ints : ∀ ns : List Int, DpAll K H (ns.map V.int) (ns.map PyData.int)
  | [] => .nil
  | n :: ns => .cons (.int n) (dp_ints ns)
mutual
theorem Dr.dp (sub : ∀ (b : Addr) (o : HO), F b = some o → H b = some o) : ∀ (d : D) (v : V), flt d = true → Dr K ph F v d → Dp K H v (py d)
  | .non, _, _, h => by cases h; exact .non
  | .bl b, _, _, h => by cases h; exact .bl b
  | .int b, _, _, h => by cases h; exact .int b
  | .str b, _, _, h => by cases h; exact .str b
  | .lst ds, _, e, h => by
    cases h with
    | lst h1 h2 => exact .lst (SqL.of (sub _ _ h1)) (DrA.dp sub ds _ (by simpa [flt] using e) h2)
  | .tup ds, _, e, h => by
    cases h with
    | tup h1 h2 => exact .tup (SqT.of (sub _ _ h1)) (DrA.dp sub ds _ (by simpa [flt] using e) h2)
  | .dK _ _, _, e, _ => by simp [flt] at e
  | .dT _ _, _, e, _ => by simp [flt] at e
  | .loc _, _, e, _ => by simp [flt] at e
  | .scr ns, _, e, h => by
    cases h with
    | scr h1 => exact .lst (sqL_mono sub h1) (dp_ints ns)
  | .tpz _, _, e, _ => by simp [flt] at e
  | .xcp _ _ _ _, _, e, _ => by simp [flt] at e
theorem DrA.dp (sub : ∀ (b : Addr) (o : HO), F b = some o → H b = some o) : ∀ (ds : List D) (vs : List V), fltA ds = true → DrA K ph F vs ds → DpAll K H vs (pyA ds)
  | [], _, _, h => by cases h; exact .nil
  | d :: ds, _, e, h => by
    cases h with
    | cons h1 h2 =>
      have e' : flt d = true ∧ fltA ds = true := by simpa [fltA] using e
      exact .cons (Dr.dp sub d _ e'.1 h1) (DrA.dp sub ds _ e'.2 h2)
end
end
theorem rd_flt {K : PySem.W.Frag} {mg : Str → Option Value} {Z : En} {ph : List Addr} {F H : Hp} {sto : List Cell} {v : V} {d : D} (w : Wd K mg Z ph F sto H) (h : Dr K ph F v d) (e : flt (drf sto d) = true) : Dp K H v (py (drf sto d)) := by
  cases d with
  | loc n =>
    cases e2 : drf sto (.loc n) with
    | lst ds =>
      obtain ⟨a, xs, rfl, h1, h2⟩ := rd_lst w h e2
      rw [e2] at e
      exact .lst (SqL.of h1) (DrA.dp w.sub ds _ (by simpa [flt] using e) h2)
    | tup ds =>
      obtain ⟨a, xs, rfl, h1, h2⟩ := rd_tup w h e2
      rw [e2] at e
      exact .tup (SqT.of h1) (DrA.dp w.sub ds _ (by simpa [flt] using e) h2)
    | tpz _ => rw [e2] at e; simp [flt] at e
    | xcp _ _ _ _ => rw [e2] at e; simp [flt] at e
    | dK _ _ => rw [e2] at e; simp [flt] at e
    | dT _ _ => rw [e2] at e; simp [flt] at e
    | loc _ => rw [e2] at e; simp [flt] at e
    | scr _ => simp only [drf] at e2; split at e2 <;> cases e2
    | non => simp only [drf] at e2; split at e2 <;> cases e2
    | bl _ => simp only [drf] at e2; split at e2 <;> cases e2
    | int _ => simp only [drf] at e2; split at e2 <;> cases e2
    | str _ => simp only [drf] at e2; split at e2 <;> cases e2
  | non => exact Dr.dp w.sub _ _ e h
  | bl _ => exact Dr.dp w.sub _ _ e h
  | int _ => exact Dr.dp w.sub _ _ e h
  | str _ => exact Dr.dp w.sub _ _ e h
  | tup _ => exact Dr.dp w.sub _ _ e h
  | lst _ => exact Dr.dp w.sub _ _ e h
  | dK _ _ => exact Dr.dp w.sub _ _ e h
  | dT _ _ => exact Dr.dp w.sub _ _ e h
  | scr _ => exact Dr.dp w.sub _ _ e h
  | tpz ds => exact Dr.dp w.sub _ _ e h
  | xcp _ _ _ _ => exact Dr.dp w.sub _ _ e h

/-! scalars through drf -/
section
variable {st : List Cell} {d : D}
theorem drf_sc {x : D} (h : drf st d = x) (hx : (match x with | .non => true | .bl _ => true | .int _ => true | .str _ => true | .tup _ => true | .scr _ => true | _ => false) = true) : d = x := by
  cases d with
  | loc n =>
    simp only [drf] at h
    split at h <;> (subst h; cases hx)
  | _ => exact h
end
/-- an operation that changes no cell and makes nothing -/
theorem OkN.pure {X : Cx} {r : List V → Hp → VK → Prop} {g : List Cell → List D → Option D}
    (h : ∀ (Z : En) (ph : List Addr) (F : Hp) (sto : List Cell) (H : Hp) (xs : List V) (ds : List D) (d : D) (Q : VK), Wd X.K X.mg Z ph F sto H → Bd X.K H → DrA X.K ph F xs ds → g sto (ds.map (drf sto)) = some d → (∀ v, Dr X.K ph F v d → Q v H) →
      (∀ p o F', H p = none → F' = upd F p o → Wd X.K X.mg Z ph F' sto (upd H p o) → Ext ph F ph F' → ∀ v, Dr X.K ph F' v d → Q v (upd H p o)) → r xs H Q) : OkN X r (pu g) :=
  ⟨fun Z ph F s sg H xs ds d s' Q rl bd q e k => by
    unfold pu at e
    cases e2 : g s.sto (ds.map (drf s.sto)) with
    | none => rw [e2] at e; cases e
    | some d2 =>
      rw [e2] at e
      cases e
      exact h Z ph F s.sto H xs ds d Q rl.w bd q e2 (fun v dr => k v H ph F .refl rl dr) fun p o F' hp e3 w x v dr => k v _ ph F' x ⟨w, rl.e.up x⟩ dr⟩
theorem dr2 {K : PySem.W.Frag} {ph : List Addr} {F : Hp} {xs : List V} {ds : List D} {sto : List Cell} {a b : D} (q : DrA K ph F xs ds) (e : ds.map (drf sto) = [a, b]) : ∃ v w d e, xs = [v, w] ∧ ds = [d, e] ∧ Dr K ph F v d ∧ Dr K ph F w e ∧ drf sto d = a ∧ drf sto e = b := by
  match ds, q, e with
  | [d, e1], q, e =>
    cases q with
    | cons h1 h2 =>
      cases h2 with
      | cons h2 h3 =>
        cases h3
        simp only [List.map_cons, List.map_nil, List.cons.injEq, and_true] at e
        exact ⟨_, _, _, _, rfl, rfl, h1, h2, e.1, e.2⟩
theorem dr1 {K : PySem.W.Frag} {ph : List Addr} {F : Hp} {xs : List V} {ds : List D} {sto : List Cell} {a : D} (q : DrA K ph F xs ds) (e : ds.map (drf sto) = [a]) : ∃ v d, xs = [v] ∧ ds = [d] ∧ Dr K ph F v d ∧ drf sto d = a := by
  match ds, q, e with
  | [d], q, e =>
    cases q with
    | cons h1 h2 =>
      cases h2
      simp only [List.map_cons, List.map_nil, List.cons.injEq, and_true] at e
      exact ⟨_, _, rfl, rfl, h1, e⟩
end LW
namespace LW
open PySem PySem.Spec L2

/-! arithmetic -/
abbrev b2 (r2 : R2) : List V → Hp → VK → Prop := fun xs H Q => ∃ x y, xs = [x, y] ∧ r2 x y H Q
def gAdd (_ : List Cell) : List D → Option D
  | [.int i, .int j] => some (.int (i + j))
  | [.str x, .str y] => if x.length + y.length ≤ 16777216 then some (.str (x ++ y)) else none
  | [.lst a, .lst b] => if a.length + b.length ≤ 16777216 then some (.lst (a ++ b)) else none
  | [.tup a, .tup b] => if a.length + b.length ≤ 16777216 then some (.tup (a ++ b)) else none
  | _ => none
def gSub (_ : List Cell) : List D → Option D
  | [.int i, .int j] => some (.int (i - j))
  | _ => none
def gMul (_ : List Cell) : List D → Option D
  | [.int i, .int j] => if (-18446744073709551616 < i ∧ i < 18446744073709551616) ∨ (-18446744073709551616 < j ∧ j < 18446744073709551616) then some (.int (i * j)) else none
  | [.lst a, .int k] => if 0 ≤ k ∧ k ≤ 16777216 ∧ a.length * k.toNat ≤ 16777216 then some (.lst (List.replicate k.toNat a).flatten) else none
  | _ => none
def gMod (_ : List Cell) : List D → Option D
  | [.int i, .int j] => if 0 < j then some (.int (i % j)) else none
  | _ => none
def gDiv (_ : List Cell) : List D → Option D
  | [.int i, .int j] => if 0 < j ∧ j < 1073741824 then some (.int (i / j)) else none
  | _ => none
def gPow (_ : List Cell) : List D → Option D
  | [.int i, .int j] => if 0 ≤ j ∧ j ≤ 1000000 ∧ i.natAbs < 18446744073709551616 then some (.int (i ^ j.toNat)) else none
  | _ => none
def gShl (_ : List Cell) : List D → Option D
  | [.int i, .int j] => if 0 ≤ j ∧ j ≤ 1000000 ∧ i.natAbs < 18446744073709551616 then some (.int (i * 2 ^ j.toNat)) else none
  | _ => none
def gShr (_ : List Cell) : List D → Option D
  | [.int i, .int j] => if 0 ≤ j then some (.int (i / 2 ^ j.toNat)) else none
  | _ => none
def gBand (_ : List Cell) : List D → Option D
  | [.int i, .int j] => some (.int (Builtin.bitAnd i j))
  | _ => none
theorem int_of {K : PySem.W.Frag} {ph : List Addr} {F : Hp} {v : V} {d : D} {sto : List Cell} {i : Int} (h : Dr K ph F v d) (e : drf sto d = .int i) : v = .int i := by
  rw [drf_sc e rfl] at h
  cases h
  rfl
theorem str_of {K : PySem.W.Frag} {ph : List Addr} {F : Hp} {v : V} {d : D} {sto : List Cell} {i : Str} (h : Dr K ph F v d) (e : drf sto d = .str i) : v = .str i := by
  rw [drf_sc e rfl] at h
  cases h
  rfl
theorem bl_of {K : PySem.W.Frag} {ph : List Addr} {F : Hp} {v : V} {d : D} {sto : List Cell} {i : Bool} (h : Dr K ph F v d) (e : drf sto d = .bl i) : v = .bl i := by
  rw [drf_sc e rfl] at h
  cases h
  rfl
theorem non_of {K : PySem.W.Frag} {ph : List Addr} {F : Hp} {v : V} {d : D} {sto : List Cell} (h : Dr K ph F v d) (e : drf sto d = .non) : v = .non := by
  rw [drf_sc e rfl] at h
  cases h
  rfl
theorem replA {K : PySem.W.Frag} {ph : List Addr} {F : Hp} {xs : List V} {ds : List D} (q : DrA K ph F xs ds) : ∀ k : Nat, DrA K ph F (List.replicate k xs).flatten (List.replicate k ds).flatten
  | 0 => .nil
  | k + 1 => by
    rw [List.replicate_succ, List.replicate_succ, List.flatten_cons, List.flatten_cons]
    exact q.app (replA q k)
section
variable {X : Cx}
abbrev rAddA (K : PySem.W.Frag) : R2 := fun x y H Q => (rI0 fun i j => .int (i + j)) x y H Q ∨ (∃ i j, x = .str i ∧ y = .str j ∧ i.length + j.length ≤ sizeLine ∧ Q (.str (i ++ j)) H) ∨ rCat x y H Q ∨ rCatA K x y H Q
theorem op_addA : OpR X (binaryOp .Add) (rAddA X.K) := op_add.or (op_add_str.or (op_cat.or op_catA))
theorem okAdd : OkN X (b2 (rAddA X.K)) (pu gAdd) := OkN.pure fun Z ph F sto H xs ds d Q w bd q e k1 k2 => by
  generalize hm : ds.map (drf sto) = l at e
  unfold gAdd at e
  split at e
  · cases e
    obtain ⟨v, u, a, b, rfl, rfl, h1, h2, e1, e2⟩ := dr2 q hm
    exact ⟨v, u, rfl, .inl ⟨_, _, int_of h1 e1, int_of h2 e2, k1 _ (.int _)⟩⟩
  · split at e
    · rename_i hl
      cases e
      obtain ⟨v, u, a, b, rfl, rfl, h1, h2, e1, e2⟩ := dr2 q hm
      exact ⟨v, u, rfl, .inr (.inl ⟨_, _, str_of h1 e1, str_of h2 e2, by rw [sizeLine_eq]; exact hl, k1 _ (.str _)⟩)⟩
    · cases e
  · split at e
    · rename_i hl
      cases e
      obtain ⟨v, u, a, b, rfl, rfl, h1, h2, e1, e2⟩ := dr2 q hm
      obtain ⟨ad, xs, rfl, g1, g2⟩ := rd_lst w h1 e1
      obtain ⟨bd, ys, rfl, g3, g4⟩ := rd_lst w h2 e2
      refine ⟨_, _, rfl, .inr (.inr (.inl ⟨ad, bd, xs, ys, rfl, rfl, g1, g3, by rw [sizeLine_eq, g2.len, g4.len]; exact hl, fun p hp => ?_⟩))⟩
      obtain ⟨hF, hZ, hph⟩ := w.fresh hp
      exact k2 p _ _ hp rfl (w.lay hp) (extF hF) _ (.lst upd_same ((g2.app g4).up (extF hF)))
    · cases e
  · split at e
    · rename_i hl
      cases e
      obtain ⟨v, u, a, b, rfl, rfl, h1, h2, e1, e2⟩ := dr2 q hm
      have d1 := drf_sc e1 rfl
      have d2 := drf_sc e2 rfl
      rw [d1] at h1
      rw [d2] at h2
      obtain ⟨ad, xs, rfl, g1, g2⟩ := rd_tup w (sto := sto) h1 rfl
      obtain ⟨bd, ys, rfl, g3, g4⟩ := rd_tup w (sto := sto) h2 rfl
      refine ⟨_, _, rfl, .inr (.inr (.inr ⟨ad, bd, xs, ys, rfl, rfl, SqT.of g1, SqT.of g3, by rw [sizeLine_eq, g2.len, g4.len]; exact hl, fun hx => ?_, fun _ hy => ?_, fun _ _ p hp => ?_⟩))⟩
      · subst hx
        cases g2
        exact k1 _ h2
      · subst hy
        cases g4
        rw [List.append_nil] at *
        exact k1 _ h1
      · obtain ⟨hF, hZ, hph⟩ := w.fresh hp
        exact k2 p _ _ hp rfl (w.lay hp) (extF hF) _ (.tup upd_same ((g2.app g4).up (extF hF)))
    · cases e
  · cases e
theorem okSub : OkN X (b2 (rI0 fun i j => .int (i - j))) (pu gSub) := OkN.pure fun Z ph F sto H xs ds d Q w bd q e k1 k2 => by
  generalize hm : ds.map (drf sto) = l at e
  unfold gSub at e
  split at e
  · cases e
    obtain ⟨v, u, a, b, rfl, rfl, h1, h2, e1, e2⟩ := dr2 q hm
    exact ⟨v, u, rfl, _, _, int_of h1 e1, int_of h2 e2, k1 _ (.int _)⟩
  · cases e
abbrev rMulA : R2 := fun x y H Q => (rI CMul fun i j => .int (i * j)) x y H Q ∨ rRep x y H Q
theorem op_mulA : OpR X (binaryOp .Mult) rMulA := op_mul.or op_rep
theorem okMul : OkN X (b2 rMulA) (pu gMul) := OkN.pure fun Z ph F sto H xs ds d Q w bd q e k1 k2 => by
  generalize hm : ds.map (drf sto) = l at e
  unfold gMul at e
  split at e
  · split at e
    · rename_i hl
      cases e
      obtain ⟨v, u, a, b, rfl, rfl, h1, h2, e1, e2⟩ := dr2 q hm
      exact ⟨v, u, rfl, .inl ⟨_, _, int_of h1 e1, int_of h2 e2, hl, k1 _ (.int _)⟩⟩
    · cases e
  · split at e
    · rename_i hl
      cases e
      obtain ⟨v, u, a, b, rfl, rfl, h1, h2, e1, e2⟩ := dr2 q hm
      obtain ⟨ad, xs, rfl, g1, g2⟩ := rd_lst w h1 e1
      refine ⟨_, _, rfl, .inr ⟨ad, _, xs, rfl, int_of h2 e2, g1, by omega, by omega, by rw [sizeLine_eq, g2.len]; exact hl.2.2, fun p hp => ?_⟩⟩
      obtain ⟨hF, hZ, hph⟩ := w.fresh hp
      exact k2 p _ _ hp rfl (w.lay hp) (extF hF) _ (.lst upd_same ((replA g2 _).up (extF hF)))
    · cases e
  · cases e
theorem okMod : OkN X (b2 (rI (fun _ j => 0 < j) fun i j => .int (i % j))) (pu gMod) := OkN.pure fun Z ph F sto H xs ds d Q w bd q e k1 k2 => by
  generalize hm : ds.map (drf sto) = l at e
  unfold gMod at e
  split at e
  · split at e
    · rename_i hl
      cases e
      obtain ⟨v, u, a, b, rfl, rfl, h1, h2, e1, e2⟩ := dr2 q hm
      exact ⟨v, u, rfl, _, _, int_of h1 e1, int_of h2 e2, hl, k1 _ (.int _)⟩
    · cases e
  · cases e
theorem okDiv : OkN X (b2 (rI CDiv fun i j => .int (i / j))) (pu gDiv) := OkN.pure fun Z ph F sto H xs ds d Q w bd q e k1 k2 => by
  generalize hm : ds.map (drf sto) = l at e
  unfold gDiv at e
  split at e
  · split at e
    · rename_i hl
      cases e
      obtain ⟨v, u, a, b, rfl, rfl, h1, h2, e1, e2⟩ := dr2 q hm
      exact ⟨v, u, rfl, _, _, int_of h1 e1, int_of h2 e2, hl, k1 _ (.int _)⟩
    · cases e
  · cases e
theorem okPow : OkN X (b2 (rI CPow fun i j => .int (i ^ j.toNat))) (pu gPow) := OkN.pure fun Z ph F sto H xs ds d Q w bd q e k1 k2 => by
  generalize hm : ds.map (drf sto) = l at e
  unfold gPow at e
  split at e
  · split at e
    · rename_i hl
      cases e
      obtain ⟨v, u, a, b, rfl, rfl, h1, h2, e1, e2⟩ := dr2 q hm
      exact ⟨v, u, rfl, _, _, int_of h1 e1, int_of h2 e2, hl, k1 _ (.int _)⟩
    · cases e
  · cases e
theorem okShl : OkN X (b2 (rI CPow fun i j => .int (i * 2 ^ j.toNat))) (pu gShl) := OkN.pure fun Z ph F sto H xs ds d Q w bd q e k1 k2 => by
  generalize hm : ds.map (drf sto) = l at e
  unfold gShl at e
  split at e
  · split at e
    · rename_i hl
      cases e
      obtain ⟨v, u, a, b, rfl, rfl, h1, h2, e1, e2⟩ := dr2 q hm
      exact ⟨v, u, rfl, _, _, int_of h1 e1, int_of h2 e2, hl, k1 _ (.int _)⟩
    · cases e
  · cases e
theorem okShr : OkN X (b2 (rI (fun _ j => 0 ≤ j) fun i j => .int (i / 2 ^ j.toNat))) (pu gShr) := OkN.pure fun Z ph F sto H xs ds d Q w bd q e k1 k2 => by
  generalize hm : ds.map (drf sto) = l at e
  unfold gShr at e
  split at e
  · split at e
    · rename_i hl
      cases e
      obtain ⟨v, u, a, b, rfl, rfl, h1, h2, e1, e2⟩ := dr2 q hm
      exact ⟨v, u, rfl, _, _, int_of h1 e1, int_of h2 e2, hl, k1 _ (.int _)⟩
    · cases e
  · cases e
theorem okBand : OkN X (b2 (rI0 fun i j => .int (Builtin.bitAnd i j))) (pu gBand) := OkN.pure fun Z ph F sto H xs ds d Q w bd q e k1 k2 => by
  generalize hm : ds.map (drf sto) = l at e
  unfold gBand at e
  split at e
  · cases e
    obtain ⟨v, u, a, b, rfl, rfl, h1, h2, e1, e2⟩ := dr2 q hm
    exact ⟨v, u, rfl, _, _, int_of h1 e1, int_of h2 e2, k1 _ (.int _)⟩
  · cases e
def eNeg (m : M D) : M D := bnd m fun d => match d with
  | .int i => ret (.int (-i))
  | _ => fun _ => .bad
theorem se_neg {W : WX} {a : Expr} {ma : M D} {pos : Pos} (ha : SE W X a ma) : SE W X (.UnaryOp .USub a pos) (eNeg ma) :=
  SE.of (pe_un un_neg ha.pe) fun Z ph F s sg H Q r bd h => by
    refine tE_bnd kdE r h fun d1 s1 v1 H1 p1 F1 x1 r1 q1 b1 h1 => ?_
    cases d1 with
    | int i => cases q1; exact ⟨i, rfl, fun b => h1 _ H1 p1 F1 x1 r1 (.int _) b⟩
    | _ => exact h1.elim
end

/-! comparisons -/
def intsOf : List D → Option (List Int)
  | [] => some []
  | .int i :: r => (intsOf r).map (i :: ·)
  | _ :: _ => none
theorem intsOf_eq : ∀ {ds : List D} {ns : List Int}, intsOf ds = some ns → ds = ns.map D.int
  | [], _, h => by cases h; rfl
  | d :: r, ns, h => by
    cases d with
    | int i =>
      simp only [intsOf] at h
      cases e : intsOf r with
      | none => rw [e] at h; cases h
      | some ms => rw [e] at h; cases h; rw [intsOf_eq e]; rfl
    | _ => cases h
@[simp] theorem intsOf_map : ∀ ns : List Int, intsOf (ns.map D.int) = some ns
  | [] => rfl
  | n :: ns => by simp [intsOf, intsOf_map ns]
def okd (d : D) : Bool := flt d && SeqAt.shaped (py d)
def eqD (a b : D) : Bool := PyData.eqv (py a) (py b)
def gEq (_ : List Cell) : List D → Option D
  | [.int i, .int j] => some (.bl (decide (i = j)))
  | [.str i, .str j] => some (.bl (decide (i = j)))
  | [.bl i, .bl j] => some (.bl (decide (i = j)))
  | [a, b] => if okd a = true ∧ okd b = true then some (.bl (eqD a b)) else none
  | _ => none
def gNe (_ : List Cell) : List D → Option D
  | [.int i, .int j] => some (.bl (!decide (i = j)))
  | [.str i, .str j] => some (.bl (!decide (i = j)))
  | [.bl i, .bl j] => some (.bl (!decide (i = j)))
  | [a, b] => if okd a = true ∧ okd b = true then some (.bl (!eqD a b)) else none
  | _ => none
def gLt (_ : List Cell) : List D → Option D
  | [.int i, .int j] => some (.bl (decide (i < j)))
  | [.tup a, .tup b] => (match intsOf a, intsOf b with
    | some ns, some ms => some (.bl (HT.lexLt ns ms))
    | _, _ => none)
  | _ => none
def gLe (_ : List Cell) : List D → Option D
  | [.int i, .int j] => some (.bl (decide (i ≤ j)))
  | [.tup a, .tup b] => (match intsOf a, intsOf b with
    | some ns, some ms => some (.bl (Ob.lexAt (fun j => decide (ns.getD j 0 = ms.getD j 0)) (fun j => decide (ns.getD j 0 ≤ ms.getD j 0)) (decide (ns.length ≤ ms.length)) 0 (min ns.length ms.length)))
    | _, _ => none)
  | _ => none
def gGt (_ : List Cell) : List D → Option D
  | [.int i, .int j] => some (.bl (decide (j < i)))
  | _ => none
def gGe (_ : List Cell) : List D → Option D
  | [.int i, .int j] => some (.bl (decide (j ≤ i)))
  | _ => none
def isNon : D → Bool
  | .non => true
  | _ => false
def gIs (_ : List Cell) : List D → Option D
  | [a, .non] => some (.bl (isNon a))
  | [.bl a, .bl b] => some (.bl (decide (a = b)))
  | _ => none
def gIsNot (_ : List Cell) : List D → Option D
  | [a, .non] => some (.bl (!isNon a))
  | [.bl a, .bl b] => some (.bl (!decide (a = b)))
  | _ => none
def sc : D → Option V
  | .non => some .non | .bl b => some (.bl b) | .int i => some (.int i) | .str x => some (.str x)
  | _ => none
def scA : List D → Option (List V)
  | [] => some []
  | d :: r => match sc d, scA r with
    | some v, some vs => some (v :: vs)
    | _, _ => none
def gIn (_ : List Cell) : List D → Option D
  | [x, .lst ds] => (match sc x, scA ds with
    | some v, some vs => some (.bl (inV v vs))
    | _, _ => if okd x = true ∧ okd (.lst ds) = true then some (.bl ((pyA ds).any fun z => PyData.eqv z (py x))) else none)
  | [x, .tup ds] => (match sc x, scA ds with
    | some v, some vs => some (.bl (inV v vs))
    | _, _ => none)
  | [.str x, .str y] => some (.bl (!(Builtin.Str.occurrences y x 0 y.length 1).isEmpty))
  | _ => none
def gNotIn (st : List Cell) (ds : List D) : Option D := match gIn st ds with
  | some (.bl b) => some (.bl (!b))
  | _ => none
theorem sc_of {K : PySem.W.Frag} {ph : List Addr} {F : Hp} {v x : V} {d : D} (h : Dr K ph F v d) (e : sc d = some x) : v = x ∧ flatV x = true := by
  cases d with
  | non => cases h; cases e; exact ⟨rfl, rfl⟩
  | bl b => cases h; cases e; exact ⟨rfl, rfl⟩
  | int b => cases h; cases e; exact ⟨rfl, rfl⟩
  | str b => cases h; cases e; exact ⟨rfl, rfl⟩
  | _ => cases e
theorem scA_of {K : PySem.W.Frag} {ph : List Addr} {F : Hp} : ∀ {xs : List V} {ds : List D} {vs : List V}, DrA K ph F xs ds → scA ds = some vs → xs = vs ∧ vs.all flatV = true
  | _, _, _, .nil, e => by cases e; exact ⟨rfl, rfl⟩
  | _, _, _, .cons (d := d) (ds := ds) h t, e => by
    simp only [scA] at e
    cases e1 : sc d with
    | none => rw [e1] at e; cases e
    | some v =>
      cases e2 : scA ds with
      | none => rw [e1, e2] at e; cases e
      | some vs =>
        rw [e1, e2] at e
        cases e
        obtain ⟨rfl, f1⟩ := sc_of h e1
        obtain ⟨rfl, f2⟩ := scA_of t e2
        exact ⟨rfl, by rw [List.all_cons, f1, f2]; rfl⟩
theorem sc_drf {sto : List Cell} {d : D} {x : V} (e : sc (drf sto d) = some x) : sc d = some x := by
  cases d with
  | loc n =>
    simp only [drf] at e
    split at e <;> cases e
  | _ => exact e
section
variable {X : Cx}
abbrev rEqA (K : PySem.W.Frag) : R2 := fun x y H Q => rEq x y H Q ∨ rEqD K x y H Q
abbrev rNeA (K : PySem.W.Frag) : R2 := fun x y H Q => rNe x y H Q ∨ rNeD K x y H Q
theorem op_eqA (hu : X.A.units + 64 < cLine) : OpR X (compareOp .Eq) (rEqA X.K) := op_eq.or (op_eqD hu)
theorem op_neA (hu : X.A.units + 64 < cLine) : OpR X (compareOp .NotEq) (rNeA X.K) := op_ne.or (op_neD hu)
theorem okEq : OkN X (b2 (rEqA X.K)) (pu gEq) := OkN.pure fun Z ph F sto H xs ds d Q w bd q e k1 k2 => by
  generalize hm : ds.map (drf sto) = l at e
  unfold gEq at e
  split at e
  · cases e
    obtain ⟨v, u, a, b, rfl, rfl, h1, h2, e1, e2⟩ := dr2 q hm
    rw [int_of h1 e1, int_of h2 e2]
    exact ⟨_, _, rfl, .inl ⟨rfl, by simpa using k1 _ (.bl _)⟩⟩
  · cases e
    obtain ⟨v, u, a, b, rfl, rfl, h1, h2, e1, e2⟩ := dr2 q hm
    rw [str_of h1 e1, str_of h2 e2]
    exact ⟨_, _, rfl, .inl ⟨rfl, by simpa using k1 _ (.bl _)⟩⟩
  · cases e
    obtain ⟨v, u, a, b, rfl, rfl, h1, h2, e1, e2⟩ := dr2 q hm
    rw [bl_of h1 e1, bl_of h2 e2]
    exact ⟨_, _, rfl, .inl ⟨rfl, by simpa using k1 _ (.bl _)⟩⟩
  · split at e
    · rename_i hc
      cases e
      obtain ⟨v, u, a, b, rfl, rfl, h1, h2, e1, e2⟩ := dr2 q hm
      rw [← e1, ← e2] at hc
      unfold okd at hc
      rw [Bool.and_eq_true, Bool.and_eq_true] at hc
      refine ⟨_, _, rfl, .inr ⟨_, _, rd_flt w h1 hc.1.1, rd_flt w h2 hc.2.1, hc.1.2, hc.2.2, ?_⟩⟩
      rw [e1, e2]
      exact k1 _ (.bl _)
    · cases e
  · cases e
theorem okNe : OkN X (b2 (rNeA X.K)) (pu gNe) := OkN.pure fun Z ph F sto H xs ds d Q w bd q e k1 k2 => by
  generalize hm : ds.map (drf sto) = l at e
  unfold gNe at e
  split at e
  · cases e
    obtain ⟨v, u, a, b, rfl, rfl, h1, h2, e1, e2⟩ := dr2 q hm
    rw [int_of h1 e1, int_of h2 e2]
    exact ⟨_, _, rfl, .inl ⟨rfl, by simpa using k1 _ (.bl _)⟩⟩
  · cases e
    obtain ⟨v, u, a, b, rfl, rfl, h1, h2, e1, e2⟩ := dr2 q hm
    rw [str_of h1 e1, str_of h2 e2]
    exact ⟨_, _, rfl, .inl ⟨rfl, by simpa using k1 _ (.bl _)⟩⟩
  · cases e
    obtain ⟨v, u, a, b, rfl, rfl, h1, h2, e1, e2⟩ := dr2 q hm
    rw [bl_of h1 e1, bl_of h2 e2]
    exact ⟨_, _, rfl, .inl ⟨rfl, by simpa using k1 _ (.bl _)⟩⟩
  · split at e
    · rename_i hc
      cases e
      obtain ⟨v, u, a, b, rfl, rfl, h1, h2, e1, e2⟩ := dr2 q hm
      rw [← e1, ← e2] at hc
      unfold okd at hc
      rw [Bool.and_eq_true, Bool.and_eq_true] at hc
      refine ⟨_, _, rfl, .inr ⟨_, _, rd_flt w h1 hc.1.1, rd_flt w h2 hc.2.1, hc.1.2, hc.2.2, ?_⟩⟩
      rw [e1, e2]
      exact k1 _ (.bl _)
    · cases e
  · cases e
abbrev rLtA (K : PySem.W.Frag) : R2 := fun x y H Q => (rI0 fun i j => .bl (decide (i < j))) x y H Q ∨ rLtT K x y H Q
theorem op_ltA (hu : X.A.units < cLine) : OpR X (compareOp .Lt) (rLtA X.K) := op_lt.or (op_ltT hu)
theorem tupI {K : PySem.W.Frag} {mg : Str → Option Value} {Z : En} {ph : List Addr} {F H : Hp} {sto : List Cell} (w : Wd K mg Z ph F sto H) {v : V} {d : D} {ds : List D} {ns : List Int} (h : Dr K ph F v d) (e : drf sto d = .tup ds) (e2 : intsOf ds = some ns) : ∃ a, v = .ref a ∧ SqT K H a (ns.map V.int) := by
  obtain ⟨a, xs, rfl, h1, h2⟩ := rd_tup w h e
  rw [intsOf_eq e2] at h2
  rw [h2.of_ints] at h1
  exact ⟨a, rfl, SqT.of h1⟩
theorem okLt : OkN X (b2 (rLtA X.K)) (pu gLt) := OkN.pure fun Z ph F sto H xs ds d Q w bd q e k1 k2 => by
  generalize hm : ds.map (drf sto) = l at e
  unfold gLt at e
  split at e
  · cases e
    obtain ⟨v, u, a, b, rfl, rfl, h1, h2, e1, e2⟩ := dr2 q hm
    exact ⟨v, u, rfl, .inl ⟨_, _, int_of h1 e1, int_of h2 e2, k1 _ (.bl _)⟩⟩
  · split at e
    · rename_i i1 i2
      cases e
      obtain ⟨v, u, a, b, rfl, rfl, h1, h2, e1, e2⟩ := dr2 q hm
      obtain ⟨ad, rfl, t1⟩ := tupI w h1 e1 i1
      obtain ⟨bd, rfl, t2⟩ := tupI w h2 e2 i2
      exact ⟨_, _, rfl, .inr ⟨ad, bd, _, _, rfl, rfl, t1, t2, k1 _ (.bl _)⟩⟩
    · cases e
  · cases e
abbrev rLeA (K : PySem.W.Frag) : R2 := fun x y H Q => (rI0 fun i j => .bl (decide (i ≤ j))) x y H Q ∨ rLeT K x y H Q
theorem op_leA (hu : X.A.units < cLine) : OpR X (compareOp .LtE) (rLeA X.K) := op_le.or (op_leT hu)
theorem okLe : OkN X (b2 (rLeA X.K)) (pu gLe) := OkN.pure fun Z ph F sto H xs ds d Q w bd q e k1 k2 => by
  generalize hm : ds.map (drf sto) = l at e
  unfold gLe at e
  split at e
  · cases e
    obtain ⟨v, u, a, b, rfl, rfl, h1, h2, e1, e2⟩ := dr2 q hm
    exact ⟨v, u, rfl, .inl ⟨_, _, int_of h1 e1, int_of h2 e2, k1 _ (.bl _)⟩⟩
  · split at e
    · rename_i i1 i2
      cases e
      obtain ⟨v, u, a, b, rfl, rfl, h1, h2, e1, e2⟩ := dr2 q hm
      obtain ⟨ad, rfl, t1⟩ := tupI w h1 e1 i1
      obtain ⟨bd, rfl, t2⟩ := tupI w h2 e2 i2
      exact ⟨_, _, rfl, .inr ⟨ad, bd, _, _, rfl, rfl, t1, t2, k1 _ (.bl _)⟩⟩
    · cases e
  · cases e
theorem okGt : OkN X (b2 (rI0 fun i j => .bl (decide (j < i)))) (pu gGt) := OkN.pure fun Z ph F sto H xs ds d Q w bd q e k1 k2 => by
  generalize hm : ds.map (drf sto) = l at e
  unfold gGt at e
  split at e
  · cases e
    obtain ⟨v, u, a, b, rfl, rfl, h1, h2, e1, e2⟩ := dr2 q hm
    exact ⟨v, u, rfl, _, _, int_of h1 e1, int_of h2 e2, k1 _ (.bl _)⟩
  · cases e
theorem okGe : OkN X (b2 (rI0 fun i j => .bl (decide (j ≤ i)))) (pu gGe) := OkN.pure fun Z ph F sto H xs ds d Q w bd q e k1 k2 => by
  generalize hm : ds.map (drf sto) = l at e
  unfold gGe at e
  split at e
  · cases e
    obtain ⟨v, u, a, b, rfl, rfl, h1, h2, e1, e2⟩ := dr2 q hm
    exact ⟨v, u, rfl, _, _, int_of h1 e1, int_of h2 e2, k1 _ (.bl _)⟩
  · cases e
theorem isNon_of {K : PySem.W.Frag} {mg : Str → Option Value} {Z : En} {ph : List Addr} {F H : Hp} {sto : List Cell} {v : V} {d : D} (h : Dr K ph F v d) : decide (v = V.non) = isNon (drf sto d) := by
  cases h with
  | loc h => simp only [drf]; split <;> rfl
  | _ => rfl
abbrev rIsA : R2 := fun x y H Q => (y = .non ∧ Q (.bl (decide (x = .non))) H) ∨ rIsB x y H Q
abbrev rIsNA : R2 := fun x y H Q => (y = .non ∧ Q (.bl (!decide (x = .non))) H) ∨ rNotB x y H Q
theorem op_isA : OpR X (compareOp .Is) rIsA := op_isN.or op_isBl
theorem op_isNA : OpR X (compareOp .IsNot) rIsNA := op_notN.or op_notBl
theorem okIs : OkN X (b2 rIsA) (pu gIs) := OkN.pure fun Z ph F sto H xs ds d Q w bd q e k1 k2 => by
  generalize hm : ds.map (drf sto) = l at e
  unfold gIs at e
  split at e
  · cases e
    obtain ⟨v, u, a, b, rfl, rfl, h1, h2, e1, e2⟩ := dr2 q hm
    refine ⟨v, u, rfl, .inl ⟨non_of h2 e2, ?_⟩⟩
    rw [isNon_of (mg := X.mg) (Z := Z) (H := H) (sto := sto) h1, e1]
    exact k1 _ (.bl _)
  · cases e
    obtain ⟨v, u, a, b, rfl, rfl, h1, h2, e1, e2⟩ := dr2 q hm
    exact ⟨v, u, rfl, .inr ⟨_, _, bl_of h1 e1, bl_of h2 e2, k1 _ (.bl _)⟩⟩
  · cases e
theorem okIsNot : OkN X (b2 rIsNA) (pu gIsNot) := OkN.pure fun Z ph F sto H xs ds d Q w bd q e k1 k2 => by
  generalize hm : ds.map (drf sto) = l at e
  unfold gIsNot at e
  split at e
  · cases e
    obtain ⟨v, u, a, b, rfl, rfl, h1, h2, e1, e2⟩ := dr2 q hm
    refine ⟨v, u, rfl, .inl ⟨non_of h2 e2, ?_⟩⟩
    rw [isNon_of (mg := X.mg) (Z := Z) (H := H) (sto := sto) h1, e1]
    exact k1 _ (.bl _)
  · cases e
    obtain ⟨v, u, a, b, rfl, rfl, h1, h2, e1, e2⟩ := dr2 q hm
    exact ⟨v, u, rfl, .inr ⟨_, _, bl_of h1 e1, bl_of h2 e2, k1 _ (.bl _)⟩⟩
  · cases e
abbrev rInA (K : PySem.W.Frag) : R2 := fun x y H Q => rIn K false x y H Q ∨ rInD K x y H Q ∨ ∃ i j, x = .str i ∧ y = .str j ∧ Q (.bl (!(Builtin.Str.occurrences j i 0 j.length 1).isEmpty)) H
theorem op_inA (hu : X.A.units + 65 < cLine) : OpR X (compareOp .In) (rInA X.K) := op_in_seq.or ((op_inD hu).or op_in_str)
abbrev rNotInA (K : PySem.W.Frag) : R2 := fun x y H Q => rIn K true x y H Q ∨ rNotInD K x y H Q ∨ ∃ i j, x = .str i ∧ y = .str j ∧ Q (.bl (!(!(Builtin.Str.occurrences j i 0 j.length 1).isEmpty))) H
theorem op_notInA (hu : X.A.units + 65 < cLine) : OpR X (compareOp .NotIn) (rNotInA X.K) := op_notIn_seq.or ((op_notInD hu).or op_notin_str)
theorem in_core {K : PySem.W.Frag} {mg : Str → Option Value} {Z : En} {ph : List Addr} {F H : Hp} {sto : List Cell} (w : Wd K mg Z ph F sto H) {xs : List V} {ds : List D} {b : Bool} (q : DrA K ph F xs ds) (e : gIn sto (ds.map (drf sto)) = some (.bl b)) :
    ∃ x y, xs = [x, y] ∧ ((∃ p ys, y = .ref p ∧ (SqL K H p ys ∨ SqT K H p ys) ∧ flatV x = true ∧ ys.all flatV = true ∧ b = inV x ys) ∨ (∃ d ds, Dp K H x d ∧ Dp K H y (.list ds) ∧ SeqAt.shaped d = true ∧ SeqAt.shaped (.list ds) = true ∧ b = ds.any fun z => PyData.eqv z d) ∨
      ∃ i j, x = .str i ∧ y = .str j ∧ b = !(Builtin.Str.occurrences j i 0 j.length 1).isEmpty) := by
  generalize hm : ds.map (drf sto) = l at e
  unfold gIn at e
  split at e
  · obtain ⟨v, u, a, c, rfl, rfl, h1, h2, e1, e2⟩ := dr2 q hm
    refine ⟨v, u, rfl, ?_⟩
    obtain ⟨ad, ys, rfl, g1, g2⟩ := rd_lst w h2 e2
    split at e
    · rename_i i1 i2
      cases e
      rw [← e1] at i1
      obtain ⟨rfl, f1⟩ := sc_of h1 (sc_drf i1)
      obtain ⟨rfl, f2⟩ := scA_of g2 i2
      exact .inl ⟨ad, _, rfl, .inl (SqL.of g1), f1, f2, rfl⟩
    · split at e
      · rename_i hc
        cases e
        rw [← e1] at hc ⊢
        unfold okd at hc
        rw [Bool.and_eq_true, Bool.and_eq_true] at hc
        exact .inr (.inl ⟨_, _, rd_flt w h1 hc.1.1, .lst (SqL.of g1) (DrA.dp w.sub _ _ (by simpa [flt] using hc.2.1) g2), hc.1.2, hc.2.2, rfl⟩)
      · cases e
  · obtain ⟨v, u, a, c, rfl, rfl, h1, h2, e1, e2⟩ := dr2 q hm
    refine ⟨v, u, rfl, ?_⟩
    obtain ⟨ad, ys, rfl, g1, g2⟩ := rd_tup w h2 e2
    split at e
    · rename_i i1 i2
      cases e
      rw [← e1] at i1
      obtain ⟨rfl, f1⟩ := sc_of h1 (sc_drf i1)
      obtain ⟨rfl, f2⟩ := scA_of g2 i2
      exact .inl ⟨ad, _, rfl, .inr (SqT.of g1), f1, f2, rfl⟩
    · cases e
  · cases e
    obtain ⟨v, u, a, c, rfl, rfl, h1, h2, e1, e2⟩ := dr2 q hm
    exact ⟨v, u, rfl, .inr (.inr ⟨_, _, str_of h1 e1, str_of h2 e2, rfl⟩)⟩
  · cases e
theorem gIn_bl {st : List Cell} {ds : List D} {d : D} (e : gIn st ds = some d) : ∃ b, d = .bl b := by
  unfold gIn at e
  split at e
  · split at e
    · cases e; exact ⟨_, rfl⟩
    · split at e <;> cases e; exact ⟨_, rfl⟩
  · split at e <;> cases e; exact ⟨_, rfl⟩
  · cases e; exact ⟨_, rfl⟩
  · cases e
theorem okIn : OkN X (b2 (rInA X.K)) (pu gIn) := OkN.pure fun Z ph F sto H xs ds d Q w bd q e k1 k2 => by
  obtain ⟨b, rfl⟩ := gIn_bl e
  obtain ⟨x, y, rfl, h⟩ := in_core w q e
  refine ⟨x, y, rfl, ?_⟩
  rcases h with ⟨p, ys, h1, h2, h3, h4, rfl⟩ | ⟨d, es, h1, h2, h3, h4, rfl⟩ | ⟨i, j, h1, h2, rfl⟩
  · exact .inl ⟨p, ys, h1, h2, h3, h4, k1 _ (.bl _)⟩
  · exact .inr (.inl ⟨d, es, h1, h2, h3, h4, k1 _ (.bl _)⟩)
  · exact .inr (.inr ⟨i, j, h1, h2, k1 _ (.bl _)⟩)
theorem okNotIn : OkN X (b2 (rNotInA X.K)) (pu gNotIn) := OkN.pure fun Z ph F sto H xs ds d Q w bd q e k1 k2 => by
  unfold gNotIn at e
  cases g : gIn sto (ds.map (drf sto)) with
  | none => rw [g] at e; cases e
  | some d2 =>
    obtain ⟨b, rfl⟩ := gIn_bl g
    rw [g] at e
    cases e
    obtain ⟨x, y, rfl, h⟩ := in_core w q g
    refine ⟨x, y, rfl, ?_⟩
    rcases h with ⟨p, ys, h1, h2, h3, h4, rfl⟩ | ⟨d, es, h1, h2, h3, h4, rfl⟩ | ⟨i, j, h1, h2, rfl⟩
    · exact .inl ⟨p, ys, h1, h2, h3, h4, k1 _ (.bl _)⟩
    · exact .inr (.inl ⟨d, es, h1, h2, h3, h4, k1 _ (.bl _)⟩)
    · exact .inr (.inr ⟨i, j, h1, h2, k1 _ (.bl _)⟩)
end
end LW
namespace LW
open PySem PySem.Spec L2

/-! one road or the other -/
section
variable {X : Cx} {W : WX} {e : Expr} {st : Stmt} {m m' n : M D}
theorem SE.alt (h : SE W X e m) (h' : SE W X e m') (k : ∀ s, n s = m s ∨ n s = m' s) : SE W X e n :=
  ⟨⟨fun pins s sg H Q I ⟨Z, ph, F, s0, r, q⟩ => by
    rcases k s0 with g | g
    · rw [g] at q; exact h.pe.run pins s sg H Q I ⟨Z, ph, F, s0, r, q⟩
    · rw [g] at q; exact h'.pe.run pins s sg H Q I ⟨Z, ph, F, s0, r, q⟩⟩⟩
theorem STt.alt {m m' n : M Bool} (h : STt W X e m) (h' : STt W X e m') (k : ∀ s, n s = m s ∨ n s = m' s) : STt W X e n :=
  ⟨⟨fun pins s sg H Q I ⟨Z, ph, F, s0, r, q⟩ => by
    rcases k s0 with g | g
    · rw [g] at q; exact h.pt.run pins s sg H Q I ⟨Z, ph, F, s0, r, q⟩
    · rw [g] at q; exact h'.pt.run pins s sg H Q I ⟨Z, ph, F, s0, r, q⟩⟩⟩
theorem SR.alt {m m' n : M Rs} (h : SR W X e m) (h' : SR W X e m') (k : ∀ s, n s = m s ∨ n s = m' s) : SR W X e n :=
  ⟨⟨fun pins s sg H Q I ⟨Z, ph, F, s0, r, q⟩ => by
    rcases k s0 with g | g
    · rw [g] at q; exact h.pe.run pins s sg H Q I ⟨Z, ph, F, s0, r, q⟩
    · rw [g] at q; exact h'.pe.run pins s sg H Q I ⟨Z, ph, F, s0, r, q⟩⟩⟩
theorem SS.alt {m m' n : MS} (h : SS W X st m) (h' : SS W X st m') (k : ∀ s, n s = m s ∨ n s = m' s) : SS W X st n :=
  ⟨⟨fun pins s sg H Q I ⟨Z, ph, F, s0, r, q⟩ => by
    rcases k s0 with g | g
    · rw [g] at q; exact h.ps.run pins s sg H Q I ⟨Z, ph, F, s0, r, q⟩
    · rw [g] at q; exact h'.ps.run pins s sg H Q I ⟨Z, ph, F, s0, r, q⟩⟩⟩
def orF (f f' : S → List D → Option (D × S)) : S → List D → Option (D × S) := fun s ds => (f s ds).or (f' s ds)
theorem e2_or (f f' : S → List D → Option (D × S)) (ma mb : M D) (s : S) : e2 (orF f f') ma mb s = e2 f ma mb s ∨ e2 (orF f f') ma mb s = e2 f' ma mb s := by
  unfold e2 bnd orF
  cases ma s with
  | ok d s1 =>
    simp only
    cases mb s1 with
    | ok d2 s2 =>
      simp only
      cases f s2 [d, d2] with
      | some p => exact .inl rfl
      | none => exact .inr (by simp)
    | exc _ _ => exact .inl rfl
    | bad => exact .inl rfl
  | exc _ _ => exact .inl rfl
  | bad => exact .inl rfl
end

/-! tables -/
def luK {κ : Type} [DecidableEq κ] : List κ → List D → κ → Option D
  | k' :: ks, d :: ds, k => if k' = k then some d else luK ks ds k
  | _, _, _ => none
def puV {κ : Type} [DecidableEq κ] : List κ → List D → κ → D → List D
  | k' :: ks, d :: ds, k, e => (if k' = k then e else d) :: puV ks ds k e
  | _, _, _, _ => []
def keyOf : D → Option Key
  | .int i => some (.inl i)
  | .str x => some (.inr x)
  | _ => none
def keysOf : List D → Option (List Key)
  | [] => some []
  | d :: r => match keyOf d, keysOf r with
    | some v, some vs => some (v :: vs)
    | _, _ => none
section
variable {K : PySem.W.Frag} {ph : List Addr} {F : Hp}
theorem luK_val {κ : Type} [DecidableEq κ] (k : κ) : ∀ (kvs : List (κ × V)) (ds : List D), DrA K ph F (kvs.map (·.2)) ds →
    (∀ d, luK (kvs.map (·.1)) ds k = some d → ∃ v, valV kvs k = some v ∧ Dr K ph F v d) ∧ (luK (kvs.map (·.1)) ds k = none → valV kvs k = none)
  | [], _, _ => ⟨fun d h => by simp [luK] at h, fun _ => rfl⟩
  | p :: r, _, q => by
    cases q with
    | @cons _ _ d ds h t =>
      obtain ⟨i1, i2⟩ := luK_val k r ds t
      by_cases e : p.1 = k
      · refine ⟨fun d' h' => ⟨p.2, valV_pos e, ?_⟩, fun h' => ?_⟩
        · simp only [List.map_cons, luK, e, if_true] at h'
          cases h'
          exact h
        · simp [luK, e] at h'
      · refine ⟨fun d' h' => ?_, fun h' => ?_⟩
        · simp only [List.map_cons, luK, e, if_false] at h'
          obtain ⟨v, g1, g2⟩ := i1 d' h'
          exact ⟨v, by rw [valV_neg e]; exact g1, g2⟩
        · simp only [List.map_cons, luK, e, if_false] at h'
          rw [valV_neg e]
          exact i2 h'
theorem key_val {v : V} {d : D} {k : Key} (h : Dr K ph F v d) (e : keyOf d = some k) : v = kV k := by
  cases d with
  | int i => cases h; cases e; rfl
  | str i => cases h; cases e; rfl
  | _ => cases e
theorem keys_val : ∀ {vs : List V} {ds : List D} {ks : List Key}, DrA K ph F vs ds → keysOf ds = some ks → vs = ks.map kV
  | _, _, _, .nil, e => by cases e; rfl
  | _, _, _, .cons (d := d) (ds := ds) h t, e => by
    simp only [keysOf] at e
    cases e1 : keyOf d with
    | none => rw [e1] at e; cases e
    | some v =>
      cases e2 : keysOf ds with
      | none => rw [e1, e2] at e; cases e
      | some vs =>
        rw [e1, e2] at e
        cases e
        rw [key_val h e1, keys_val t e2]
        rfl
theorem key_drf {sto : List Cell} {d : D} {k : Key} (e : keyOf (drf sto d) = some k) : keyOf d = some k := by
  cases d with
  | loc n =>
    simp only [drf] at e
    split at e <;> cases e
  | _ => exact e
theorem puV_ok {κ : Type} [DecidableEq κ] (k : κ) {v : V} {d : D} (hd : Dr K ph F v d) : ∀ (kvs : List (κ × V)) (ds : List D), DrA K ph F (kvs.map (·.2)) ds →
    (kvs.map fun kv => if kv.1 = k then (kv.1, v) else kv).map (·.1) = kvs.map (·.1) ∧ DrA K ph F ((kvs.map fun kv => if kv.1 = k then (kv.1, v) else kv).map (·.2)) (puV (kvs.map (·.1)) ds k d)
  | [], _, h => by
    cases h
    exact ⟨rfl, .nil⟩
  | p :: r, _, h => by
    cases h with
    | @cons _ _ e ds h t =>
      obtain ⟨i1, i2⟩ := puV_ok k hd r ds t
      by_cases q : p.1 = k
      · simp only [List.map_cons, puV, q, if_true]
        exact ⟨by rw [i1], .cons hd i2⟩
      · simp only [List.map_cons, puV, q, if_false]
        exact ⟨by rw [i1], .cons h i2⟩
end
def puK {κ : Type} [DecidableEq κ] (ks : List κ) (ds : List D) (k : κ) (d : D) : List κ × List D :=
  if k ∈ ks then (ks, puV ks ds k d) else (ks ++ [k], ds ++ [d])
theorem puK_ok {K : PySem.W.Frag} {ph : List Addr} {F : Hp} {κ : Type} [DecidableEq κ] (k : κ) {v : V} {d : D} (hd : Dr K ph F v d) (kvs : List (κ × V)) (ds : List D) (h : DrA K ph F (kvs.map (·.2)) ds) :
    (putK kvs k v).map (·.1) = (puK (kvs.map (·.1)) ds k d).1 ∧ DrA K ph F ((putK kvs k v).map (·.2)) (puK (kvs.map (·.1)) ds k d).2 := by
  have e : (kvs.any fun kv => decide (kv.1 = k)) = decide (k ∈ kvs.map (·.1)) := by
    induction kvs generalizing ds with
    | nil => rfl
    | cons p r ih =>
      cases h with
      | cons h t =>
        rw [List.any_cons, ih _ t]
        by_cases q : p.1 = k
        · simp [q]
        · have q' : ¬ k = p.1 := fun z => q z.symm
          simp [q, q']
  unfold putK puK
  rw [e]
  by_cases q : k ∈ kvs.map (·.1)
  · rw [if_pos (decide_eq_true q), if_pos q]
    exact puV_ok k hd kvs ds h
  · rw [if_neg (by simpa using q), if_neg q, List.map_append, List.map_append]
    exact ⟨rfl, h.app (.cons hd .nil)⟩

/-! a[i] -/
def gIxS (_ : List Cell) : List D → Option D
  | [.lst ds, .int i] => atI ds i
  | [.tup ds, .int i] => atI ds i
  | [.tpz ds, .int i] => atI ds i
  | [.str z, .int i] => if z.length ≤ 16777216 then (atI z.cps.toList i).map fun c => .str ⟨#[c]⟩ else none
  | _ => none
def gIxD (_ : List Cell) : List D → Option D
  | [.dK ks ds, y] => (match keyOf y with
    | some k => luK ks ds k
    | none => none)
  | [.dT ks ds, .tup y] => (match keysOf y with
    | some k => luK ks ds k
    | none => none)
  | _ => none
theorem atI_dr {K : PySem.W.Frag} {ph : List Addr} {F : Hp} {vs : List V} {ds : List D} {i : Int} {d : D} (h : DrA K ph F vs ds) (e : atI ds i = some d) : ∃ v, atI vs i = some v ∧ Dr K ph F v d := by
  unfold atI at e ⊢
  rw [h.len]
  cases q : ixN ds.length i with
  | none => rw [q] at e; cases e
  | some j =>
    rw [q] at e
    exact h.get e
section
variable {X : Cx} {W : WX} {a b : Expr} {ma mb : M D} {pos : Pos}
theorem okIxS : OkN X (b2 (rIx X.K)) (pu gIxS) := OkN.pure fun Z ph F sto H xs ds d Q w bd q e k1 k2 => by
  generalize hm : ds.map (drf sto) = l at e
  unfold gIxS at e
  split at e
  · obtain ⟨v, u, a, b, rfl, rfl, h1, h2, e1, e2⟩ := dr2 q hm
    obtain ⟨ad, ys, rfl, g1, g2⟩ := rd_lst w h1 e1
    obtain ⟨v, g3, g4⟩ := atI_dr g2 e
    exact ⟨_, _, rfl, .inl ⟨ad, ys, _, v, rfl, int_of h2 e2, SqL.of g1, g3, k1 v g4⟩⟩
  · obtain ⟨v, u, a, b, rfl, rfl, h1, h2, e1, e2⟩ := dr2 q hm
    obtain ⟨ad, ys, rfl, g1, g2⟩ := rd_tup w h1 e1
    obtain ⟨v, g3, g4⟩ := atI_dr g2 e
    exact ⟨_, _, rfl, .inr (.inl ⟨ad, ys, _, v, rfl, int_of h2 e2, SqT.of g1, g3, k1 v g4⟩)⟩
  · obtain ⟨v, u, a, b, rfl, rfl, h1, h2, e1, e2⟩ := dr2 q hm
    obtain ⟨ad, ob, ys, rfl, g1, _, _, g2⟩ := rd_tpz w h1 e1
    obtain ⟨v, g3, g4⟩ := atI_dr g2 e
    exact ⟨_, _, rfl, .inr (.inl ⟨ad, ys, _, v, rfl, int_of h2 e2, .inl (.inr ⟨_, g1⟩), g3, k1 v g4⟩)⟩
  · obtain ⟨v, u, a, b, rfl, rfl, h1, h2, e1, e2⟩ := dr2 q hm
    split at e
    · rename_i z i hl
      cases g : atI z.cps.toList i with
      | none => rw [g] at e; cases e
      | some c =>
        rw [g] at e
        cases e
        exact ⟨_, _, rfl, .inr (.inr ⟨z, i, c, str_of h1 e1, int_of h2 e2, by rw [sizeLine_eq]; exact hl, g, k1 _ (.str _)⟩)⟩
    · cases e
  · cases e
theorem se_ixS (ha : SE W X a ma) (hb : SE W X b mb) (hs : PlainIx b) : SE W X (.Subscript a b pos) (e2 (pu gIxS) ma mb) :=
  SE.of (pe_ix ix_seq ha.pe hb.pe hs) fun Z ph F s sg H Q r bd h => by
    refine tE_bnd kdE r h fun d1 s1 v1 H1 p1 F1 x1 r1 q1 b1 h1 => ?_
    refine tE_bnd kdE r1 (h1.up x1) fun d2 s2 v2 H2 p2 F2 x2 r2 q2 b2 h2 => ?_
    obtain ⟨d, s', e, k⟩ := opt_res (h2.up x2)
    obtain ⟨x, y, e3, q⟩ := (okIxS (X := X)).run Z p2 F2 s2 sg H2 [v1, v2] [d1, d2] d s' (fun v H' => Bd X.K H' → Q v H') r2 b2 (.cons (q1.up x2) (.cons q2 .nil)) e k
    cases e3
    exact q
theorem dget_ok {K : PySem.W.Frag} {mg : Str → Option Value} {Z : En} {ph : List Addr} {F H : Hp} {sto : List Cell} (w : Wd K mg Z ph F sto H) {v y : V} {a b : D} (h1 : Dr K ph F v a) (h2 : Dr K ph F y b) :
    (∀ ks ds k, drf sto a = .dK ks ds → keyOf (drf sto b) = some k → ∃ ad o, v = .ref ad ∧ DGet H ad y o ∧ (∀ d, luK ks ds k = some d → ∃ u, o = some u ∧ Dr K ph F u d) ∧ (luK ks ds k = none → o = none)) ∧
    (∀ ks ds es k, drf sto a = .dT ks ds → drf sto b = .tup es → keysOf es = some k → ∃ ad o, v = .ref ad ∧ DGet H ad y o ∧ (∀ d, luK ks ds k = some d → ∃ u, o = some u ∧ Dr K ph F u d) ∧ (luK ks ds k = none → o = none)) := by
  refine ⟨fun ks ds k e1 e2 => ?_, fun ks ds es k e1 e2 e3 => ?_⟩
  · obtain ⟨ad, kvs, rfl, g1, rfl, g3⟩ := rd_dK w h1 e1
    obtain ⟨i1, i2⟩ := luK_val k kvs ds g3
    refine ⟨ad, _, rfl, by rw [key_val h2 (key_drf e2)]; exact DGet.k g1, fun d h => i1 d h, i2⟩
  · obtain ⟨ad, kvs, rfl, g1, rfl, g3⟩ := rd_dT w h1 e1
    obtain ⟨bd, ys, rfl, g4, g5⟩ := rd_tup w h2 e2
    rw [keys_val g5 e3] at g4
    obtain ⟨i1, i2⟩ := luK_val k kvs ds g3
    exact ⟨ad, _, rfl, DGet.t g1 g4, fun d h => i1 d h, i2⟩
theorem gIxD_inv {st : List Cell} {a b d : D} (e : gIxD st [a, b] = some d) : (∃ ks ds k, a = .dK ks ds ∧ keyOf b = some k ∧ luK ks ds k = some d) ∨ ∃ ks ds es k, a = .dT ks ds ∧ b = .tup es ∧ keysOf es = some k ∧ luK ks ds k = some d := by
  cases a with
  | dK ks ds =>
    simp only [gIxD] at e
    cases q : keyOf b with
    | none => rw [q] at e; cases e
    | some k => rw [q] at e; exact .inl ⟨ks, ds, k, rfl, rfl, e⟩
  | dT ks ds =>
    cases b with
    | tup es =>
      simp only [gIxD] at e
      cases q : keysOf es with
      | none => rw [q] at e; cases e
      | some k => rw [q] at e; exact .inr ⟨ks, ds, es, k, rfl, rfl, q, e⟩
    | _ => simp only [gIxD] at e; cases e
  | _ => simp only [gIxD] at e; cases e
theorem pu_inv {g : List Cell → List D → Option D} {s s' : S} {ds : List D} {d : D} (e : pu g s ds = some (d, s')) : g s.sto (ds.map (drf s.sto)) = some d ∧ s' = s := by
  unfold pu at e
  cases q : g s.sto (ds.map (drf s.sto)) with
  | none => rw [q] at e; cases e
  | some d0 => rw [q] at e; cases e; exact ⟨rfl, rfl⟩
theorem se_ixD (hu : X.A.units + 1 < cLine) (ha : SE W X a ma) (hb : SE W X b mb) (hs : NoSl b) : SE W X (.Subscript a b pos) (e2 (pu gIxD) ma mb) :=
  SE.of (pe_dget hu ha.pe hb.pe hs) fun Z ph F s sg H Q r bd h => by
    refine tE_bnd kdE r h fun d1 s1 v1 H1 p1 F1 x1 r1 q1 b1 h1 => ?_
    refine tE_bnd kdE r1 (h1.up x1) fun d2 s2 v2 H2 p2 F2 x2 r2 q2 b2 h2 => ?_
    obtain ⟨d, s', e, k⟩ := opt_res (h2.up x2)
    have dg := dget_ok r2.w (q1.up x2) q2
    obtain ⟨e, rfl⟩ := pu_inv e
    rcases gIxD_inv e with ⟨ks, ds, k', e1, e2, e3⟩ | ⟨ks, ds, es, k', e1, e2, e4, e3⟩
    · obtain ⟨ad, o, rfl, g1, g2, _⟩ := dg.1 ks ds k' e1 e2
      obtain ⟨u, rfl, g3⟩ := g2 _ e3
      exact ⟨ad, u, rfl, g1, k u H2 p2 F2 .refl r2 g3⟩
    · obtain ⟨ad, o, rfl, g1, g2, _⟩ := dg.2 ks ds es k' e1 e2 e4
      obtain ⟨u, rfl, g3⟩ := g2 _ e3
      exact ⟨ad, u, rfl, g1, k u H2 p2 F2 .refl r2 g3⟩
def gIx : S → List D → Option (D × S) := orF (pu gIxS) (pu gIxD)
theorem se_ix (hu : X.A.units + 1 < cLine) (ha : SE W X a ma) (hb : SE W X b mb) (hs : PlainIx b) : SE W X (.Subscript a b pos) (e2 gIx ma mb) :=
  (se_ixS ha hb hs).alt (se_ixD hu ha hb hs) (e2_or _ _ _ _)
end
end LW
namespace LW
open PySem PySem.Spec L2

/-! slices -/
def ResO (K : PySem.W.Frag) (mg : Str → Option Value) (Z : En) (W : WX) (sg : L2.St) (o : Out (Option Int)) (ph : List Addr) (F : Hp) (Q : Option Int → Hp → Prop) : Prop := match o with
  | .ok d s' => ∀ (H' : Hp) (ph' : List Addr) (F' : Hp), Ext ph F ph' F' → Rel K mg Z ph' F' s' sg H' → Bd K H' → Q d H'
  | .exc x s' => ResX K mg Z W x s' ph F
  | .bad => False
def tO (K : PySem.W.Frag) (mg : Str → Option Value) (W : WX) (m : M (Option Int)) : TO := fun sg H Q => ∃ Z ph F s, Rel K mg Z ph F s sg H ∧ ResO K mg Z W sg (m s) ph F Q
structure SO (W : WX) (X : Cx) (e : Option Expr) (m : M (Option Int)) : Prop where
  po : PO X e (tO X.K X.mg W m)
def pI (m : M D) : M (Option Int) := bnd m fun d => match d with
  | .int i => ret (some i)
  | _ => fun _ => .bad
section
variable {K : PySem.W.Frag} {mg : Str → Option Value} {Z : En} {W : WX} {sg : L2.St} {ph ph' : List Addr} {F F' H : Hp} {s : S} {X : Cx}
theorem kdO {Q : Option Int → Hp → Prop} : Kd (fun o ph F => ResO K mg Z W sg o ph F Q) K mg Z W := ⟨fun _ _ _ _ h => h, fun _ _ h => h⟩
theorem so_none : SO W X none (ret none) :=
  ⟨⟨fun pins s sg H Q I ⟨Z, ph, F, s0, r, h⟩ => po_none.run pins s sg H Q I (h H ph F .refl r (bd_of I))⟩⟩
theorem ResO.up {o : Out (Option Int)} {Q : Option Int → Hp → Prop} (h : ResO K mg Z W sg o ph F Q) (e : Ext ph F ph' F') : ResO K mg Z W sg o ph' F' Q := by
  cases o with
  | ok d s' => exact fun H' p2 F2 e2 => h H' p2 F2 (e.trans e2)
  | exc x s' => exact ResX.up h e
  | bad => exact h
theorem so_some {e : Expr} {m : M D} (h : SE W X e m) : SO W X (some e) (pI m) :=
  ⟨⟨fun pins s sg H Q I ⟨Z, ph, F, s0, r, q⟩ => (po_some (SE.of (W := W) (m := m) h.pe fun Z ph F s sg H Q r b q => ⟨Z, ph, F, s, r, q.bd⟩).pe).run pins s sg H Q I (by
    refine tE_bnd kdO r q fun d1 s1 v1 H1 p1 F1 x1 r1 q1 b1 h1 => ?_
    cases d1 with
    | int i => cases q1; exact ⟨i, rfl, h1 H1 p1 F1 x1 r1 b1⟩
    | _ => exact h1.elim)⟩⟩
theorem tO_bnd {α : Type} {R : Out α → List Addr → Hp → Prop} (kd : Kd R K mg Z W) {ma : M (Option Int)} {f : Option Int → M α} (r : Rel K mg Z ph F s sg H) (h : R (bnd ma f s) ph F) {Q : Option Int → Hp → Prop}
    (hk : ∀ (d : Option Int) (s' : S) (H' : Hp) (ph' : List Addr) (F' : Hp), Ext ph F ph' F' → Rel K mg Z ph' F' s' sg H' → Bd K H' → R (f d s') ph F → Q d H') : tO K mg W ma sg H Q := by
  refine ⟨_, ph, F, s, r, ?_⟩
  unfold bnd at h
  cases e : ma s with
  | ok d s' =>
    rw [e] at h
    exact fun H' p2 F2 e2 r2 b2 => hk d s' H' p2 F2 e2 r2 b2 h
  | exc x s' =>
    rw [e] at h
    exact kd.exc _ _ _ _ h
  | bad =>
    rw [e] at h
    exact kd.bad _ _ h
end
def cutD (ds : List D) (lo hi : Option Int) : List D := (ds.drop (HT.sIx ds.length 0 lo)).take (HT.sIx ds.length ds.length hi - HT.sIx ds.length 0 lo)
def rSlc (me : M D) (ml mh : M (Option Int)) : M Rs := bnd me fun d => bnd ml fun lo => bnd mh fun hi s => match drf s.sto d with
  | .lst ds => .ok (.c (.lst (cutD ds lo hi))) s
  | .tup ds => .ok (.d (.tup (cutD ds lo hi))) s
  | .tpz ds => if (cutD ds lo hi).length < ds.length then .ok (.d (.tup (cutD ds lo hi))) s else .bad
  | .str z => if z.length ≤ 16777216 then .ok (.d (.str (cutS z lo hi))) s else .bad
  | .scr ns => .ok (.c (.lst (cutD (ns.map D.int) lo hi))) s
  | _ => .bad
theorem cutD_ok {K : PySem.W.Frag} {ph : List Addr} {F : Hp} {vs : List V} {ds : List D} (h : DrA K ph F vs ds) (lo hi : Option Int) : DrA K ph F (cutV vs lo hi) (cutD ds lo hi) := by
  unfold cutV cutD
  rw [h.len]
  exact (h.drop _).take _
section
variable {X : Cx} {W : WX} {e : Expr} {lo hi : Option Expr} {pos p2 : Pos} {me : M D} {ml mh : M (Option Int)}
abbrev rSlX (K : PySem.W.Frag) : V → Option Int → Option Int → Hp → VK → Prop := fun x lo hi H Q => rSlL K x lo hi H Q ∨ rSlA K x lo hi H Q ∨ rSlS x lo hi H Q
theorem sl_X : SlR X (rSlX X.K) := sl_list.or (sl_tupA.or sl_str)
theorem drf_scr {st : List Cell} {d : D} {ns : List Int} (h : drf st d = .scr ns) : d = .scr ns := drf_sc h rfl
theorem sr_slc (he : SE W X e me) (hl : SO W X lo ml) (hh : SO W X hi mh) : SR W X (.Subscript e (.Slice lo hi none p2) pos) (rSlc me ml mh) :=
  SR.of (pe_slice sl_X he.pe hl.po hh.po) fun Z ph F s sg H Q r bd h => by
    refine tE_bnd kdR r h fun d1 s1 v1 H1 p1 F1 x1 r1 q1 b1 h1 => ?_
    refine tO_bnd kdR r1 (h1.up x1) fun l s2 H2 p2 F2 x2 r2 b2 h2 => ?_
    refine tO_bnd kdR r2 (h2.up x2) fun u s3 H3 p3 F3 x3 r3 b3 h3 => ?_
    replace h3 := h3.up x3
    have q3 := (q1.up x2).up x3
    cases g : drf s3.sto d1 with
    | lst ds =>
      simp only [g] at h3
      obtain ⟨a, xs, rfl, g1, g2⟩ := rd_lst r3.w q3 g
      refine .inl ⟨a, xs, rfl, SqL.of g1, fun p hp b => ?_⟩
      obtain ⟨hF, hZ, hph⟩ := r3.w.fresh hp
      exact h3 p _ p3 F3 .refl (r3.new hp) ⟨hF, hph, hZ, ⟨hF, _, upd_same, cutD_ok g2 l u⟩, by intro z; cases z⟩ b
    | scr ns =>
      simp only [g] at h3
      have e1 := drf_scr g
      subst e1
      cases q3 with
      | @scr a _ sq =>
        have sq2 : SqL X.K H3 a (ns.map V.int) := sqL_mono r3.w.sub sq
        refine .inl ⟨a, _, rfl, sq2, fun p hp b => ?_⟩
        obtain ⟨hF, hZ, hph⟩ := r3.w.fresh hp
        exact h3 p _ p3 F3 .refl (r3.new hp) ⟨hF, hph, hZ, ⟨hF, _, upd_same, cutD_ok (DrA.ints ns) l u⟩, by intro z; cases z⟩ b
    | tup ds =>
      simp only [g] at h3
      have e1 := drf_sc g rfl
      subst e1
      obtain ⟨a, xs, rfl, g1, g2⟩ := rd_tup r3.w (sto := s3.sto) q3 rfl
      refine .inr (.inl ⟨a, xs, rfl, SqT.of g1, fun hw b => ?_, fun _ p hp b => ?_⟩)
      · have ec : cutD ds l u = ds := by
          rw [g2.len] at hw
          unfold cutD
          rw [hw.1, hw.2]
          simp
        rw [ec] at h3
        exact h3 _ H3 p3 F3 .refl r3 q3 b
      · obtain ⟨hF, hZ, hph⟩ := r3.w.fresh hp
        exact h3 _ _ p3 _ (r3.ext hp) (r3.lay hp) (.tup upd_same ((cutD_ok g2 l u).up (extF hF))) b
    | tpz ds =>
      simp only [g] at h3
      split at h3
      · rename_i hlt
        obtain ⟨a, ob, xs, rfl, g1, _, _, g2⟩ := rd_tpz r3.w q3 g
        refine .inr (.inl ⟨a, xs, rfl, .inl (.inr ⟨_, g1⟩), fun hw b => ?_, fun _ p hp b => ?_⟩)
        · have ec : cutD ds l u = ds := by
            rw [g2.len] at hw
            unfold cutD
            rw [hw.1, hw.2]
            simp
          rw [ec] at hlt
          exact absurd hlt (Nat.lt_irrefl _)
        · obtain ⟨hF, hZ, hph⟩ := r3.w.fresh hp
          exact h3 _ _ p3 _ (r3.ext hp) (r3.lay hp) (.tup upd_same ((cutD_ok g2 l u).up (extF hF))) b
      · exact h3.elim
    | str z =>
      simp only [g] at h3
      split at h3
      · rename_i hz
        refine .inr (.inr ⟨z, str_of q3 g, by rw [sizeLine_eq]; exact hz, fun b => ?_⟩)
        exact h3 _ H3 p3 F3 .refl r3 (.str _) b
      · exact h3.elim
    | _ => simp only [g] at h3; exact h3.elim
/-- xs[::-1] -/
def rRev (me : M D) : M Rs := bnd me fun d s => match drf s.sto d with
  | .lst ds => .ok (.c (.lst ds.reverse)) s
  | _ => .bad
theorem sr_rev {k : Nat} {p1 p2 p3 pos : Pos} (he : SE W X e me) : SR W X (.Subscript e (.Slice none none (some (.UnaryOp .USub (.Constant (.int 1) k p1) p2)) p3) pos) (rRev me) :=
  SR.of (pe_revL he.pe) fun Z ph F s sg H Q r bd h => by
    refine tE_bnd kdR r h fun d1 s1 v1 H1 p1 F1 x1 r1 q1 b1 h1 => ?_
    replace h1 := h1.up x1
    cases g : drf s1.sto d1 with
    | lst ds =>
      simp only [g] at h1
      obtain ⟨a, xs, rfl, g1, g2⟩ := rd_lst r1.w q1 g
      refine ⟨a, xs, rfl, SqL.of g1, fun p hp b => ?_⟩
      obtain ⟨hF, hZ, hph⟩ := r1.w.fresh hp
      exact h1 p _ p1 F1 .refl (r1.new hp) ⟨hF, hph, hZ, ⟨hF, _, upd_same, g2.rev⟩, by intro z; cases z⟩ b
    | _ => simp only [g] at h1; exact h1.elim
end

/-! a cell is changed -/
section
variable {K : PySem.W.Frag} {mg : Str → Option Value} {Z : En} {W : WX} {ph : List Addr} {F H : Hp} {sto : List Cell} {sg : L2.St} {s : S}
theorem CellR.free {a : Addr} {c : Cell} (h : CellR K mg ph F H a c) (hc : c ≠ .dead) : F a = none := by
  cases c with
  | lst ds => exact h.1
  | dK ks ds => exact h.1
  | dT ks ds => exact h.1
  | ins c fs => exact h.1
  | dead => exact absurd rfl hc
theorem Wd.poke (w : Wd K mg Z ph F sto H) {n : Nat} {c c' : Cell} {a : Addr} {o : HO} (hc : sto[n]? = some c) (ha : ph[n]? = some a) (hF : F a = none) (hn : CellR K mg ph F (upd H a o) a c') :
    Wd K mg Z ph F (sto.set n c') (upd H a o) := by
  refine ⟨fun b u h1 h2 => ?_, fun b u h => ?_, w.ext, w.new, w.nd, w.nph, by rw [List.length_set]; exact w.len, fun m c2 b h1 h2 => ?_⟩
  · have hb : b ≠ a := fun z => by
      subst z
      rcases w.nph b (List.mem_of_getElem? ha) with y | y
      · exact h2 y
      · rw [h1] at y; cases y
    rw [upd_ne hb]
    exact w.fr b u h1 h2
  · rw [upd_ne (ne_of_none h hF)]
    exact w.sub b u h
  · by_cases hm : n = m
    · subst hm
      rw [List.getElem?_set_self (List.getElem?_eq_some_iff.mp hc).1] at h1
      cases h1
      rw [ha] at h2
      cases h2
      exact hn
    · rw [List.getElem?_set_ne hm] at h1
      have hb : b ≠ a := fun z => by
        subst z
        have i1 := List.getElem?_eq_some_iff.mp ha
        have i2 := List.getElem?_eq_some_iff.mp h2
        exact hm ((List.getElem_inj (h₀ := i1.1) (h₁ := i2.1) w.nd).mp (i1.2.trans i2.2.symm))
      exact (w.cell m c2 b h1 h2).up .refl (fun z => z) fun u z => by rw [upd_ne hb]; exact z
theorem Rel.put (r : Rel K mg Z ph F s sg H) {n : Nat} {c c' : Cell} {a : Addr} {o : HO} (hc : s.sto[n]? = some c) (ha : ph[n]? = some a) (hF : F a = none) (hn : CellR K mg ph F (upd H a o) a c') :
    Rel K mg Z ph F ⟨s.env, s.sto.set n c'⟩ sg (upd H a o) := ⟨r.w.poke hc ha hF hn, r.e⟩
/-- what a location means -/
theorem loc_of {v : V} {n : Nat} (h : Dr K ph F v (.loc n)) : ∃ a, v = .ref a ∧ ph[n]? = some a := by
  cases h with
  | loc h => exact ⟨_, rfl, h⟩
end

/-! a[i] = e -/
def sPutL (mv mo mi : M D) : MS := bndS mv fun v => bndS mo fun o => bndS mi fun i s => match o, i with
  | .loc n, .int k => (match s.sto[n]? with
    | some (.lst ds) => (match ixN ds.length k with
      | some j => .nx ⟨s.env, s.sto.set n (.lst (ds.set j v))⟩
      | none => .bad)
    | _ => .bad)
  | _, _ => .bad
def sPutD (mv mo mi : M D) : MS := bndS mv fun v => bndS mo fun o => bndS mi fun i s => match o with
  | .loc n => (match s.sto[n]? with
    | some (.dK ks ds) => (match keyOf i with
      | some k => if ks.length < 16777216 then .nx ⟨s.env, s.sto.set n (.dK (puK ks ds k v).1 (puK ks ds k v).2)⟩ else .bad
      | none => .bad)
    | some (.dT ks ds) => (match i with
      | .tup es => (match keysOf es with
        | some k => if ks.length < 16777216 then .nx ⟨s.env, s.sto.set n (.dT (puK ks ds k v).1 (puK ks ds k v).2)⟩ else .bad
        | none => .bad)
      | _ => .bad)
    | _ => .bad)
  | _ => .bad
section
variable {X : Cx} {W : WX} {e o i : Expr} {mv mo mi : M D} {pos pos' : Pos}
theorem ss_putL (hv : SE W X e mv) (ho : SE W X o mo) (hi : SE W X i mi) (hs : swapsWithSole [.Subscript o i pos'] e pos.line X.env = pure false := by rfl) (hw : swappedStores [.Subscript o i pos'] e X.env = pure none := by rfl)
    (h1 : (assignEach [.Subscript o i pos'] X.env).map (·.2) = [assign (.Subscript o i pos') X.env] := by rfl)
    (ha : ∀ v, assign (.Subscript o i pos') X.env v = (do
      let ov ← holding [v] (eval o X.env)
      let iv ← holding [v, ov] (eval i X.env)
      standAt pos'
      holding [v, ov, iv] (setItem ov iv v)
      release [v, ov, iv] []) := by intro _; rfl) : SS W X (.Assign [.Subscript o i pos'] e pos) (sPutL mv mo mi) :=
  SS.of (ps_asg hv.pe (pg_sub ho.pe hi.pe set_list ha) hs hw h1) fun Z ph F s sg H E r bd h => by
    refine tE_bndS r h fun d1 s1 v1 H1 p1 F1 x1 r1 q1 b1 h1 => ?_
    refine tE_bndS r1 h1 fun d2 s2 v2 H2 p2 F2 x2 r2 q2 b2 h2 => ?_
    refine tE_bndS r2 h2 fun d3 s3 v3 H3 p3 F3 x3 r3 q3 b3 h3 => ?_
    have q1 := (q1.up x2).up x3
    have q2 := q2.up x3
    cases d2 with
    | loc n =>
      cases d3 with
      | int k =>
        simp only at h3
        cases g : s3.sto[n]? with
        | none => simp only [g] at h3; exact h3.elim
        | some c =>
          cases c with
          | lst ds =>
            simp only [g] at h3
            cases g2 : ixN ds.length k with
            | none => simp only [g2] at h3; exact h3.elim
            | some j =>
              simp only [g2] at h3
              cases q3
              obtain ⟨a, rfl, ha⟩ := loc_of q2
              obtain ⟨hF, xs, hx, dx⟩ := r3.w.cell n _ a g ha
              refine ⟨a, xs, k, j, rfl, rfl, hx, by rw [dx.len]; exact g2, fun b => ?_⟩
              exact h3 sg _ p3 F3 .refl (r3.put g ha hF ⟨hF, _, upd_same, dx.set q1 j⟩) b
          | _ => simp only [g] at h3; exact h3.elim
      | _ => exact h3.elim
    | _ => exact h3.elim
theorem ss_putD (hu : X.A.units + 1 < cLine) (hv : SE W X e mv) (ho : SE W X o mo) (hi : SE W X i mi) (hs : swapsWith e (some (.Subscript o i pos')) pos.line X.env = pure false := by rfl) : SS W X (.Assign [.Subscript o i pos'] e pos) (sPutD mv mo mi) :=
  SS.of (ps_dput hu ho.pe hi.pe hv.pe hs) fun Z ph F s sg H E r bd h => by
    refine tE_bndS r h fun d1 s1 v1 H1 p1 F1 x1 r1 q1 b1 h1 => ?_
    refine tE_bndS r1 h1 fun d2 s2 v2 H2 p2 F2 x2 r2 q2 b2 h2 => ?_
    refine tE_bndS r2 h2 fun d3 s3 v3 H3 p3 F3 x3 r3 q3 b3 h3 => ?_
    have q1 := (q1.up x2).up x3
    have q2 := q2.up x3
    cases d2 with
    | loc n =>
      simp only at h3
      cases g : s3.sto[n]? with
      | none => simp only [g] at h3; exact h3.elim
      | some c =>
        obtain ⟨a, rfl, ha⟩ := loc_of q2
        cases c with
        | dK ks ds =>
          simp only [g] at h3
          cases g2 : keyOf d3 with
          | none => simp only [g2] at h3; exact h3.elim
          | some k =>
            simp only [g2] at h3
            split at h3
            · rename_i hl
              obtain ⟨hF, kvs, hx, rfl, dx⟩ := r3.w.cell n _ a g ha
              rw [key_val q3 g2]
              rw [List.length_map] at hl
              refine ⟨a, _, rfl, DPut.k hx (by rw [sizeLine_eq]; exact hl), fun b => ?_⟩
              obtain ⟨i1, i2⟩ := puK_ok k q1 kvs ds dx
              exact h3 sg _ p3 F3 .refl (r3.put g ha hF ⟨hF, _, upd_same, i1, i2⟩) b
            · exact h3.elim
        | dT ks ds =>
          simp only [g] at h3
          cases d3 with
          | tup es =>
            simp only at h3
            cases g2 : keysOf es with
            | none => simp only [g2] at h3; exact h3.elim
            | some k =>
              simp only [g2] at h3
              split at h3
              · rename_i hl
                obtain ⟨hF, kvs, hx, rfl, dx⟩ := r3.w.cell n _ a g ha
                obtain ⟨bd, ys, rfl, g4, g5⟩ := rd_tup r3.w (sto := s3.sto) q3 rfl
                rw [keys_val g5 g2] at g4
                rw [List.length_map] at hl
                refine ⟨a, _, rfl, DPut.t hx g4 (by rw [sizeLine_eq]; exact hl), fun b => ?_⟩
                obtain ⟨i1, i2⟩ := puK_ok k q1 kvs ds dx
                exact h3 sg _ p3 F3 .refl (r3.put g ha hF ⟨hF, _, upd_same, i1, i2⟩) b
              · exact h3.elim
          | _ => exact h3.elim
        | _ => simp only [g] at h3; exact h3.elim
    | _ => exact h3.elim
end

/-! methods of lists -/
def eMt0 (f : S → List D → Option (D × S)) (mo : M D) : M D := bnd mo fun d s => opt (α := D) (f s [d])
def isLst : D → Bool
  | .lst _ => true
  | _ => false
def eMtL (f : S → List D → Option (D × S)) (mo : M D) (ma : M (List D)) : M D := bnd mo fun d s => if isLst (drf s.sto d) = true then bnd ma (fun ds s => opt (α := D) (f s (d :: ds))) s else .bad
abbrev mR (r : V → List V → Hp → VK → Prop) : List V → Hp → VK → Prop := fun xs H Q => ∃ x ys, xs = x :: ys ∧ r x ys H Q
section
variable {X : Cx} {W : WX} {o e : Expr} {es : List Expr} {name : Str} {apos cpos : Pos} {id : String} {r : V → List V → Hp → VK → Prop} {f : S → List D → Option (D × S)} {mo : M D} {ma : M (List D)}
theorem lst_ty {K : PySem.W.Frag} {mg : Str → Option Value} {Z : En} {ph : List Addr} {F H : Hp} {sto : List Cell} {v : V} {d : D} (w : Wd K mg Z ph F sto H) (h : Dr K ph F v d) (e : isLst (drf sto d) = true) : tyV K "list" v H := by
  cases g : drf sto d with
  | lst ds =>
    obtain ⟨a, xs, rfl, h1, _⟩ := rd_lst w h g
    exact .inl ⟨rfl, xs, SqL.of h1⟩
  | _ => rw [g] at e; cases e
theorem se_mtL (slot : Slot "list" name id) (hty : typeOf (.builtin id) = pure (.type "method_descriptor")) (hm : MtR X id r) (hf : OkN X (mR r) f) (ho : SE W X o mo) (ha : SA W X (e :: es) ma)
    (hbase : attributeBase o name X.env (eval o X.env) = eval o X.env := by rfl)
    (hfew : ((backTo cpos (starEach (e :: es) X.env)).all (fun x => !x.1) && (backToKw cpos (keywordEach [] X.env)).all (fun x => x.1.isSome)
      && decide ((e :: es).length + ([] : List Keyword).length + (if ([] : List Keyword).isEmpty then 0 else 1) < 30)) = true := by rfl)
    (hline : (apos.endLine == cpos.line) = true := by rfl) (hs : starEach (e :: es) X.env = (false, eval e X.env) :: starEach es X.env := by rfl) (hplain : (backTo cpos (starEach es X.env)).any (·.1) = false := by rfl) :
    SE W X (.Call (.Attribute o name apos) (e :: es) [] cpos) (eMtL f mo ma) :=
  SE.of (pe_bm PySem.F.plainAttrs_list slot hty hm ho.pe ha.pa hbase hfew hline hs hplain) fun Z ph F s sg H Q r bd h => by
    refine tE_bnd kdE r h fun d1 s1 v1 H1 p1 F1 x1 r1 q1 b1 h1 => ?_
    split at h1
    · rename_i hl
      refine ⟨lst_ty r1.w q1 hl, ?_⟩
      refine tA_bnd kdE r1 (h1.up x1) fun d2 s2 v2 H2 p2 F2 x2 r2 q2 b2 h2 => ?_
      obtain ⟨d, s', e, k⟩ := opt_res (h2.up x2)
      obtain ⟨x, y, e3, q⟩ := hf.run Z p2 F2 s2 sg H2 (v1 :: v2) (d1 :: d2) d s' (fun v H' => Bd X.K H' → Q v H') r2 b2 (.cons (q1.up x2) q2) e k
      cases e3
      exact q
    · exact h1.elim
def eMtL0 (f : S → List D → Option (D × S)) (mo : M D) : M D := bnd mo fun d s => if isLst (drf s.sto d) = true then opt (α := D) (f s [d]) else .bad
theorem se_mtL0 (slot : Slot "list" name id) (hty : typeOf (.builtin id) = pure (.type "method_descriptor")) (hm : MtR X id r) (hf : OkN X (mR r) f) (ho : SE W X o mo)
    (hbase : attributeBase o name X.env (eval o X.env) = eval o X.env := by rfl) (hline : (apos.endLine == cpos.line) = true := by rfl) :
    SE W X (.Call (.Attribute o name apos) [] [] cpos) (eMtL0 f mo) :=
  SE.of (pe_bm0 PySem.F.plainAttrs_list slot hty hm ho.pe hbase hline) fun Z ph F s sg H Q r bd h => by
    refine tE_bnd kdE r h fun d1 s1 v1 H1 p1 F1 x1 r1 q1 b1 h1 => ?_
    split at h1
    · rename_i hl
      refine ⟨lst_ty r1.w q1 hl, ?_⟩
      obtain ⟨d, s', e, k⟩ := opt_res (h1.up x1)
      obtain ⟨x, y, e3, q⟩ := hf.run Z p1 F1 s1 sg H1 [v1] [d1] d s' (fun v H' => Bd X.K H' → Q v H') r1 b1 (.cons q1 .nil) e k
      cases e3
      exact q
    · exact h1.elim
end
/-- a boxed list is changed: its new items, and the answer -/
def mUpd (g : List Cell → List D → List D → Option (D × List D)) : S → List D → Option (D × S) := fun s ds => match ds with
  | .loc n :: r => (match s.sto[n]? with
    | some (.lst xs) => (match g s.sto xs r with
      | some (d, ys) => some (d, ⟨s.env, s.sto.set n (.lst ys)⟩)
      | none => none)
    | _ => none)
  | _ => none
theorem mUpd_ok {X : Cx} {r : V → List V → Hp → VK → Prop} {g : List Cell → List D → List D → Option (D × List D)}
    (h : ∀ (Z : En) (ph : List Addr) (F : Hp) (s : S) (sg : L2.St) (H : Hp) (a : Addr) (vs us : List V) (xs ds ys : List D) (d : D) (Q : VK), Rel X.K X.mg Z ph F s sg H → Bd X.K H → H a = some (.lst vs) → DrA X.K ph F vs xs → DrA X.K ph F us ds → g s.sto xs ds = some (d, ys) →
      (∀ v ws, Dr X.K ph F v d → DrA X.K ph F ws ys → Q v (upd H a (.lst ws))) → r (.ref a) us H Q) : OkN X (mR r) (mUpd g) :=
  ⟨fun Z ph F s sg H xs ds d s' Q rl bd q e k => by
    unfold mUpd at e
    cases q with
    | nil => cases e
    | @cons v vs d0 ds0 q1 q2 =>
      cases d0 with
      | loc n =>
        simp only at e
        cases g1 : s.sto[n]? with
        | none => simp only [g1] at e; cases e
        | some c =>
          cases c with
          | lst ys =>
            simp only [g1] at e
            cases g2 : g s.sto ys ds0 with
            | none => simp only [g2] at e; cases e
            | some p =>
              obtain ⟨d', zs⟩ := p
              simp only [g2] at e
              cases e
              obtain ⟨a, rfl, ha⟩ := loc_of q1
              obtain ⟨hF, ws, hx, dx⟩ := rl.w.cell n _ a g1 ha
              exact ⟨_, _, rfl, h Z ph F s sg H a ws vs ys ds0 zs d Q rl bd hx dx q2 g2 fun v us' dv du => k v _ ph F .refl (rl.put g1 ha hF ⟨hF, _, upd_same, du⟩) dv⟩
          | _ => simp only [g1] at e; cases e
      | _ => cases e⟩
def gApp (_ : List Cell) (xs : List D) : List D → Option (D × List D)
  | [y] => if xs.length < 16777216 then some (.non, xs ++ [y]) else none
  | _ => none
def gExt (st : List Cell) (xs : List D) : List D → Option (D × List D)
  | [y] => (match drf st y with
    | .lst ys => if xs.length + ys.length ≤ 16777216 then some (.non, xs ++ ys) else none
    | _ => none)
  | _ => none
def gPop (_ : List Cell) (xs : List D) : List D → Option (D × List D)
  | [] => (xs[xs.length - 1]?).map fun d => (d, xs.dropLast)
  | _ => none
def gPopAt (_ : List Cell) (xs : List D) : List D → Option (D × List D)
  | [.int i] => (match ixN xs.length i with
    | some j => (xs[j]?).map fun d => (d, xs.eraseIdx j)
    | none => none)
  | _ => none
def gRvs (_ : List Cell) (xs : List D) : List D → Option (D × List D)
  | [] => some (.non, xs.reverse)
  | _ => none
theorem DrA.dropLast {K : PySem.W.Frag} {ph : List Addr} {F : Hp} {vs : List V} {ds : List D} (h : DrA K ph F vs ds) : DrA K ph F vs.dropLast ds.dropLast := by
  rw [List.dropLast_eq_take, List.dropLast_eq_take, h.len]
  exact h.take _
section
variable {X : Cx}
theorem okApp : OkN X (mR rAppend) (mUpd gApp) := mUpd_ok fun Z ph F s sg H a vs us xs ds ys d Q r bd hx dx du e k => by
  unfold gApp at e
  split at e
  · split at e
    · rename_i hl
      cases e
      cases du with
      | cons g1 g2 =>
        cases g2
        exact ⟨a, vs, _, rfl, rfl, hx, by rw [dx.len, sizeLine_eq]; exact hl, k _ _ .non (dx.app (.cons g1 .nil))⟩
    · cases e
  · cases e
theorem okExt : OkN X (mR rExtend) (mUpd gExt) := mUpd_ok fun Z ph F s sg H a vs us xs ds ys d Q r bd hx dx du e k => by
  unfold gExt at e
  split at e
  · split at e
    · rename_i g
      split at e
      · rename_i hl
        cases e
        cases du with
        | cons g1 g2 =>
          cases g2
          obtain ⟨b, zs, rfl, h1, h2⟩ := rd_lst r.w g1 g
          exact ⟨a, b, vs, zs, rfl, rfl, hx, h1, by rw [dx.len, h2.len, sizeLine_eq]; exact hl, k _ _ .non (dx.app h2)⟩
      · cases e
    · cases e
  · cases e
theorem okPop : OkN X (mR rPop) (mUpd gPop) := mUpd_ok fun Z ph F s sg H a vs us xs ds ys d Q r bd hx dx du e k => by
  unfold gPop at e
  split at e
  · cases du
    cases g : xs[xs.length - 1]? with
    | none => rw [g] at e; cases e
    | some d0 =>
      rw [g] at e
      cases e
      obtain ⟨v, e1, e2⟩ := dx.get g
      exact ⟨a, vs, v, rfl, rfl, hx, by rw [dx.len]; exact e1, k _ _ e2 dx.dropLast⟩
  · cases e
theorem okPopAt : OkN X (mR rPopAt) (mUpd gPopAt) := mUpd_ok fun Z ph F s sg H a vs us xs ds ys d Q r bd hx dx du e k => by
  unfold gPopAt at e
  split at e
  · rename_i i
    split at e
    · rename_i j g
      cases g2 : xs[j]? with
      | none => rw [g2] at e; cases e
      | some d0 =>
        rw [g2] at e
        cases e
        obtain ⟨v, e1, e2⟩ := dx.get g2
        obtain ⟨h1, h2, h3, h4⟩ := ixN_seq g
        have hb := bd a vs (.inl (SqL.of hx))
        rw [dx.len, sizeLine_eq] at hb
        cases du with
        | cons g3 g4 =>
          cases g4
          cases g3
          refine ⟨a, vs, i, j, v, rfl, rfl, hx, by omega, by omega, by rw [dx.len]; exact h1, e1, k _ _ e2 (dx.erase j)⟩
    · cases e
  · cases e
theorem okRvs : OkN X (mR rReverse) (mUpd gRvs) := mUpd_ok fun Z ph F s sg H a vs us xs ds ys d Q r bd hx dx du e k => by
  unfold gRvs at e
  split at e
  · cases e
    cases du
    exact ⟨a, vs, rfl, rfl, hx, k _ _ .non dx.rev⟩
  · cases e
/-- the first place -/
def fstD (p : D → Bool) : List D → Nat → Option Nat
  | [], _ => none
  | d :: r, i => if p d = true then some i else fstD p r (i + 1)
theorem fstD_of {p : D → Bool} : ∀ {ds : List D} {i j : Nat}, fstD p ds i = some j → ∃ k z, j = i + k ∧ ds[k]? = some z ∧ p z = true ∧ ∀ m z', m < k → ds[m]? = some z' → p z' = false
  | [], _, _, h => by cases h
  | d :: r, i, j, h => by
    simp only [fstD] at h
    by_cases q : p d = true
    · rw [if_pos q] at h
      cases h
      exact ⟨0, d, rfl, rfl, q, fun m _ hm => absurd hm (Nat.not_lt_zero m)⟩
    · rw [if_neg q] at h
      obtain ⟨k, z, h1, h2, h3, h4⟩ := fstD_of h
      refine ⟨k + 1, z, by omega, h2, h3, fun m z' hm hz => ?_⟩
      cases m with
      | zero => cases hz; simpa using q
      | succ m => exact h4 m z' (by omega) hz
def gIndex (_ : List Cell) : List D → Option D
  | [.lst ds, y] => if okd (.lst ds) = true ∧ okd y = true then (fstD (fun z => eqD z y) ds 0).map fun j => .int (j : Nat) else none
  | _ => none
theorem pyA_get : ∀ (ds : List D) (i : Nat), (pyA ds)[i]? = ds[i]?.map py
  | [], i => by simp [pyA]
  | d :: r, 0 => by simp [pyA]
  | d :: r, i + 1 => by simpa [pyA] using pyA_get r i
theorem okIndex : OkN X (mR (rIndexD X.K)) (pu gIndex) := OkN.pure fun Z ph F sto H xs ds d Q w bd q e k1 k2 => by
  generalize hm : ds.map (drf sto) = l at e
  unfold gIndex at e
  split at e
  · rename_i es y
    obtain ⟨v, u, a, b, rfl, rfl, h1, h2, e1, e2⟩ := dr2 q hm
    split at e
    · rename_i hc
      cases g : fstD (fun z => eqD z y) es 0 with
      | none => rw [g] at e; cases e
      | some j =>
        rw [g] at e
        cases e
        obtain ⟨k, z, rfl, g1, g2, g3⟩ := fstD_of g
        obtain ⟨ad, ys, rfl, g4, g5⟩ := rd_lst w h1 e1
        unfold okd at hc
        rw [Bool.and_eq_true, Bool.and_eq_true] at hc
        rw [← e2] at hc g2
        refine ⟨_, _, rfl, ad, u, py (drf sto b), pyA es, k, py z, rfl, rfl, .lst (SqL.of g4) (DrA.dp w.sub _ _ (by simpa [flt] using hc.1.1) g5), rd_flt w h2 hc.2.1, by simpa [py] using hc.1.2, hc.2.2, by rw [pyA_get, g1]; rfl, g2, fun m z' hm' hz => ?_, ?_⟩
        · rw [pyA_get] at hz
          cases g6 : es[m]? with
          | none => rw [g6] at hz; cases hz
          | some z2 =>
            rw [g6] at hz
            cases hz
            have := g3 m z2 hm' g6
            rw [← e2] at this
            exact this
        · rw [Nat.zero_add] at k1
          exact k1 _ (.int _)
    · cases e
  · cases e
end
end LW
namespace LW
open PySem PySem.Spec L2

/-! calls of what is built in -/
structure OkR (X : Cx) (r : List V → Hp → VK → Prop) (f : S → List D → Option (Rs × S)) : Prop where
  run : ∀ (Z : En) (ph : List Addr) (F : Hp) (s : S) (sg : L2.St) (H : Hp) (xs : List V) (ds : List D) (y : Rs) (s' : S) (Q : VK), Rel X.K X.mg Z ph F s sg H → Bd X.K H → DrA X.K ph F xs ds → f s ds = some (y, s') →
    (∀ d, y = .d d → ∀ (v : V) (H' : Hp) (ph' : List Addr) (F' : Hp), Ext ph F ph' F' → Rel X.K X.mg Z ph' F' s' sg H' → Dr X.K ph' F' v d → Q v H') →
    (∀ c, y = .c c → ∀ (a : Addr) (H' : Hp) (ph' : List Addr) (F' : Hp), Ext ph F ph' F' → Rel X.K X.mg Z ph' F' s' sg H' → Fr X.K X.mg Z ph' F' H' a c → Q (.ref a) H') → r xs H Q
def optR (o : Option (Rs × S)) : Out Rs := match o with
  | some (d, s') => .ok d s'
  | none => .bad
def rN (f : S → List D → Option (Rs × S)) (m : M (List D)) : M Rs := bnd m fun ds s => optR (f s ds)
/-- a pure one -/
def puR (g : List Cell → List D → Option Rs) : S → List D → Option (Rs × S) := fun s ds => (g s.sto (ds.map (drf s.sto))).map fun d => (d, s)
section
variable {X : Cx} {W : WX} {x : Str} {p pos : Pos} {e : Expr} {es : List Expr} {ma : M (List D)} {id T : String} {r r' : List V → Hp → VK → Prop} {f f' : S → List D → Option (D × S)} {g g' : S → List D → Option (Rs × S)}
theorem OkR.or (h : OkR X r g) (h' : OkR X r' g') : OkR X (fun xs H Q => r xs H Q ∨ r' xs H Q) (fun s ds => (g s ds).or (g' s ds)) :=
  ⟨fun Z ph F s sg H xs ds y s' Q w b q e k1 k2 => by
    cases h0 : g s ds with
    | some p =>
      simp only [h0, Option.or_some] at e
      rw [Option.some.inj e] at h0
      exact .inl (h.run Z ph F s sg H xs ds y s' Q w b q h0 k1 k2)
    | none =>
      simp only [h0, Option.none_or] at e
      exact .inr (h'.run Z ph F s sg H xs ds y s' Q w b q e k1 k2)⟩
theorem eN_ok {Z : En} {ph : List Addr} {F : Hp} {s : S} {sg : L2.St} {H : Hp} {Q : VK} (hf : OkN X r f) (rl : Rel X.K X.mg Z ph F s sg H) (h : Res X.K X.mg Z W sg (eN f ma s) ph F Q) : tA X.K X.mg W ma sg H fun vs H1 => r vs H1 fun v H' => Bd X.K H' → Q v H' := by
  refine tA_bnd kdE rl h fun d1 s1 v1 H1 p1 F1 x1 r1 q1 b1 h1 => ?_
  obtain ⟨d, s', e, k⟩ := opt_res (h1.up x1)
  exact hf.run Z p1 F1 s1 sg H1 v1 d1 d s' _ r1 b1 q1 e k
theorem rN_ok {Z : En} {ph : List Addr} {F : Hp} {s : S} {sg : L2.St} {H : Hp} {Q : VK} (hf : OkR X r g) (rl : Rel X.K X.mg Z ph F s sg H) (h : ResR X.K X.mg Z W sg (rN g ma s) ph F Q) : tA X.K X.mg W ma sg H fun vs H1 => r vs H1 fun v H' => Bd X.K H' → Q v H' := by
  refine tA_bnd kdR rl h fun d1 s1 v1 H1 p1 F1 x1 r1 q1 b1 h1 => ?_
  replace h1 := h1.up x1
  cases e : g s1 d1 with
  | none => rw [e] at h1; exact h1.elim
  | some z =>
    obtain ⟨y, s'⟩ := z
    rw [e] at h1
    refine hf.run Z p1 F1 s1 sg H1 v1 d1 y s' _ r1 b1 q1 e (fun d ed => ?_) (fun c ec => ?_)
    · subst ed; exact fun v H' p' F' x' r' q' b' => h1 v H' p' F' x' r' q' b'
    · subst ec; exact fun v H' p' F' x' r' q' b' => h1 v H' p' F' x' r' q' b'
theorem se_callB (hc : CallR X (.builtin id) r) (hf : OkN X r f) (hg : Gl X x) (hm : X.mg x = none) (hv : bootBuiltins x = some (.builtin id)) (ha : SA W X (e :: es) ma) (hn : x ≠ "__name__" := by decide) (hdb : (x == ("__debug__" : Str)) = false := by decide)
    (he : starEach (e :: es) X.env = (false, eval e X.env) :: starEach es X.env := by rfl) (hpl : (backTo pos (starEach es X.env)).any (·.1) = false := by rfl) : SE W X (.Call (.Name x p) (e :: es) [] pos) (eN f ma) :=
  SE.of (pe_callB hc hg hm hv ha.pa hn hdb he hpl) fun Z ph F s sg H Q r bd h => eN_ok hf r h
theorem se_callTy (hc : CallR X (.type T) r) (hf : OkN X r f) (hg : Gl X x) (hm : X.mg x = none) (hv : bootBuiltins x = some (.type T)) (ha : SA W X (e :: es) ma) (hn : x ≠ "__name__" := by decide) (hdb : (x == ("__debug__" : Str)) = false := by decide)
    (he : starEach (e :: es) X.env = (false, eval e X.env) :: starEach es X.env := by rfl) (hpl : (backTo pos (starEach es X.env)).any (·.1) = false := by rfl) : SE W X (.Call (.Name x p) (e :: es) [] pos) (eN f ma) :=
  SE.of (pe_callTy hc hg hm hv ha.pa hn hdb he hpl) fun Z ph F s sg H Q r bd h => eN_ok hf r h
theorem sr_callB (hc : CallR X (.builtin id) r) (hf : OkR X r g) (hg : Gl X x) (hm : X.mg x = none) (hv : bootBuiltins x = some (.builtin id)) (ha : SA W X (e :: es) ma) (hn : x ≠ "__name__" := by decide) (hdb : (x == ("__debug__" : Str)) = false := by decide)
    (he : starEach (e :: es) X.env = (false, eval e X.env) :: starEach es X.env := by rfl) (hpl : (backTo pos (starEach es X.env)).any (·.1) = false := by rfl) : SR W X (.Call (.Name x p) (e :: es) [] pos) (rN g ma) :=
  SR.of (pe_callB hc hg hm hv ha.pa hn hdb he hpl) fun Z ph F s sg H Q r bd h => rN_ok hf r h
theorem sr_callTy (hc : CallR X (.type T) r) (hf : OkR X r g) (hg : Gl X x) (hm : X.mg x = none) (hv : bootBuiltins x = some (.type T)) (ha : SA W X (e :: es) ma) (hn : x ≠ "__name__" := by decide) (hdb : (x == ("__debug__" : Str)) = false := by decide)
    (he : starEach (e :: es) X.env = (false, eval e X.env) :: starEach es X.env := by rfl) (hpl : (backTo pos (starEach es X.env)).any (·.1) = false := by rfl) : SR W X (.Call (.Name x p) (e :: es) [] pos) (rN g ma) :=
  SR.of (pe_callTy hc hg hm hv ha.pa hn hdb he hpl) fun Z ph F s sg H Q r bd h => rN_ok hf r h
/-- a new thing that nobody holds -/
theorem OkR.pure {gg : List Cell → List D → Option Rs}
    (h : ∀ (Z : En) (ph : List Addr) (F : Hp) (sto : List Cell) (H : Hp) (xs : List V) (ds : List D) (y : Rs) (Q : VK), Wd X.K X.mg Z ph F sto H → Bd X.K H → DrA X.K ph F xs ds → gg sto (ds.map (drf sto)) = some y →
      (∀ d, y = .d d → ∀ v, Dr X.K ph F v d → Q v H) → (∀ c, y = .c c → c ≠ .dead → ∀ p o, H p = none → (F p = none → CellR X.K X.mg ph F (upd H p o) p c) → Q (.ref p) (upd H p o)) → r xs H Q) : OkR X r (puR gg) :=
  ⟨fun Z ph F s sg H xs ds y s' Q rl bd q e k1 k2 => by
    unfold puR at e
    cases e2 : gg s.sto (ds.map (drf s.sto)) with
    | none => rw [e2] at e; cases e
    | some d2 =>
      rw [e2] at e
      cases e
      refine h Z ph F s.sto H xs ds y Q rl.w bd q e2 (fun d ed v dr => k1 d ed v H ph F .refl rl dr) fun c ec hc p o hp hcr => ?_
      obtain ⟨hF, hZ, hph⟩ := rl.w.fresh hp
      exact k2 c ec p _ ph F .refl (rl.new hp) ⟨hF, hph, hZ, hcr hF, hc⟩⟩
end

/-! len, tuple, list, dict of pairs -/
def gLen (_ : List Cell) : List D → Option D
  | [.lst ds] => some (.int (ds.length : Nat))
  | [.tup ds] => some (.int (ds.length : Nat))
  | [.str z] => if z.length ≤ 16777216 then some (.int (z.length : Nat)) else none
  | [.scr ns] => some (.int (ns.length : Nat))
  | [.dK ks ds] => some (.int (ks.length : Nat))
  | _ => none
def gTuple (_ : List Cell) : List D → Option D
  | [.lst ds] => some (.tup ds)
  | [.tup ds] => some (.tup ds)
  | _ => none
def gList (_ : List Cell) : List D → Option Rs
  | [.lst ds] => some (.c (.lst ds))
  | [.tup ds] => some (.c (.lst ds))
  | _ => none
def prsOf : List D → Option (List (Key × D))
  | [] => some []
  | .tup [k, v] :: r => match keyOf k, prsOf r with
    | some k, some ps => some ((k, v) :: ps)
    | _, _ => none
  | _ :: _ => none
def mrgD : List Key × List D → List (Key × D) → List Key × List D
  | p, [] => p
  | p, q :: r => mrgD (puK p.1 p.2 q.1 q.2) r
def gDict (_ : List Cell) : List D → Option Rs
  | [.lst ds] => match prsOf ds with
    | some ps => some (.c (.dK (mrgD ([], []) ps).1 (mrgD ([], []) ps).2))
    | none => none
  | _ => none
abbrev rLenA (K : PySem.W.Frag) : List V → Hp → VK → Prop := fun xs H Q => (∃ x n, xs = [x] ∧ LenV K x H n ∧ Q (.int n) H) ∨ (∃ a kvs, xs = [V.ref a] ∧ H a = some (.dK kvs) ∧ Q (.int kvs.length) H)
abbrev rTupleA (K : PySem.W.Frag) : List V → Hp → VK → Prop := fun xs H Q => ∃ p ys, xs = [.ref p] ∧ ((SqL K H p ys ∧ ∀ l, H l = none → Q (.ref l) (upd H l (.tup ys))) ∨ (SqT K H p ys ∧ Q (.ref p) H))
abbrev rListA (K : PySem.W.Frag) : List V → Hp → VK → Prop := fun xs H Q => ∃ p ys, xs = [.ref p] ∧ (SqL K H p ys ∨ SqT K H p ys) ∧ ∀ l, H l = none → Q (.ref l) (upd H l (.lst ys))
abbrev rDictP (K : PySem.W.Frag) : List V → Hp → VK → Prop := fun xs H Q => ∃ (a : Addr) (ps : List Addr) (kvs : List (Key × V)), xs = [.ref a] ∧ SqL K H a (ps.map V.ref) ∧ Paired (fun p kv => SqT K H p [kV kv.1, kv.2]) ps kvs ∧
    ∀ p, H p = none → Q (.ref p) (upd H p (.dK (mergeK [] kvs)))
section
variable {X : Cx}
theorem call_lenA : CallR X (.builtin "len") (rLenA X.K) := call_len.or (fun pins s σ H xs us Q I r h => by
  obtain ⟨a, kvs, rfl, ha, q⟩ := h
  obtain ⟨u, rfl, ru⟩ := vals1 r
  cases ru
  exact d_len I (.inl ha) fun t s' I' => ⟨.int kvs.length, H, I', ⟨t, rfl⟩, q⟩)
theorem okLen : OkN X (rLenA X.K) (pu gLen) := OkN.pure fun Z ph F sto H xs ds d Q w bd q e k1 k2 => by
  generalize hm : ds.map (drf sto) = l at e
  unfold gLen at e
  split at e
  · cases e
    obtain ⟨v, a, rfl, rfl, h1, e1⟩ := dr1 q hm
    obtain ⟨ad, ys, rfl, g1, g2⟩ := rd_lst w h1 e1
    exact .inl ⟨_, _, rfl, .inl ⟨ys, SqL.of g1, rfl⟩, by rw [g2.len]; exact k1 _ (.int _)⟩
  · cases e
    obtain ⟨v, a, rfl, rfl, h1, e1⟩ := dr1 q hm
    obtain ⟨ad, ys, rfl, g1, g2⟩ := rd_tup w h1 e1
    exact .inl ⟨_, _, rfl, .inr ⟨ys, SqT.of g1, rfl⟩, by rw [g2.len]; exact k1 _ (.int _)⟩
  · split at e
    · rename_i hz
      cases e
      obtain ⟨v, a, rfl, rfl, h1, e1⟩ := dr1 q hm
      rw [str_of h1 e1]
      exact .inl ⟨_, _, rfl, ⟨by rw [sizeLine_eq]; exact hz, rfl⟩, k1 _ (.int _)⟩
    · cases e
  · cases e
    obtain ⟨v, a, rfl, rfl, h1, e1⟩ := dr1 q hm
    have e2 := drf_scr e1
    subst e2
    cases h1 with
    | @scr ad ns sq =>
      have sq2 := sqL_mono w.sub sq
      exact .inl ⟨_, _, rfl, .inl ⟨_, sq2, rfl⟩, by rw [List.length_map]; exact k1 _ (.int _)⟩
  · cases e
    obtain ⟨v, a, rfl, rfl, h1, e1⟩ := dr1 q hm
    obtain ⟨ad, kvs, rfl, g1, g2, g3⟩ := rd_dK w h1 e1
    refine .inr ⟨ad, kvs, rfl, g1, ?_⟩
    rw [← g2, List.length_map] at k1
    exact k1 _ (.int _)
  · cases e
theorem okTuple : OkN X (rTupleA X.K) (pu gTuple) := OkN.pure fun Z ph F sto H xs ds d Q w bd q e k1 k2 => by
  generalize hm : ds.map (drf sto) = l at e
  unfold gTuple at e
  split at e
  · cases e
    obtain ⟨v, a, rfl, rfl, h1, e1⟩ := dr1 q hm
    obtain ⟨ad, ys, rfl, g1, g2⟩ := rd_lst w h1 e1
    refine ⟨ad, ys, rfl, .inl ⟨SqL.of g1, fun p hp => ?_⟩⟩
    obtain ⟨hF, hZ, hph⟩ := w.fresh hp
    exact k2 p _ _ hp rfl (w.lay hp) (extF hF) _ (.tup upd_same (g2.up (extF hF)))
  · cases e
    obtain ⟨v, a, rfl, rfl, h1, e1⟩ := dr1 q hm
    have e2 := drf_sc e1 rfl
    subst e2
    obtain ⟨ad, ys, rfl, g1, g2⟩ := rd_tup w h1 e1
    exact ⟨ad, ys, rfl, .inr ⟨SqT.of g1, k1 _ h1⟩⟩
  · cases e
theorem okList : OkR X (rListA X.K) (puR gList) := OkR.pure fun Z ph F sto H xs ds d Q w bd q e k1 k2 => by
  generalize hm : ds.map (drf sto) = l at e
  unfold gList at e
  split at e
  · cases e
    obtain ⟨v, a, rfl, rfl, h1, e1⟩ := dr1 q hm
    obtain ⟨ad, ys, rfl, g1, g2⟩ := rd_lst w h1 e1
    exact ⟨ad, ys, rfl, .inl (SqL.of g1), fun p hp => k2 _ rfl (by intro z; cases z) p _ hp fun hF => ⟨hF, _, upd_same, g2⟩⟩
  · cases e
    obtain ⟨v, a, rfl, rfl, h1, e1⟩ := dr1 q hm
    obtain ⟨ad, ys, rfl, g1, g2⟩ := rd_tup w h1 e1
    exact ⟨ad, ys, rfl, .inr (SqT.of g1), fun p hp => k2 _ rfl (by intro z; cases z) p _ hp fun hF => ⟨hF, _, upd_same, g2⟩⟩
  · cases e
theorem prs_ok {K : PySem.W.Frag} {mg : Str → Option Value} {Z : En} {ph : List Addr} {F H : Hp} {sto : List Cell} (w : Wd K mg Z ph F sto H) : ∀ {ds : List D} {vs : List V} {ps : List (Key × D)}, DrA K ph F vs ds → prsOf ds = some ps →
    ∃ (as : List Addr) (kvs : List (Key × V)), vs = as.map V.ref ∧ Paired (fun p kv => SqT K H p [kV kv.1, kv.2]) as kvs ∧ kvs.map (·.1) = ps.map (·.1) ∧ DrA K ph F (kvs.map (·.2)) (ps.map (·.2))
  | [], _, ps, q, e => by
    cases q
    cases e
    exact ⟨[], [], rfl, .nil, rfl, .nil⟩
  | d :: r, _, ps, q, e => by
    cases q with
    | @cons v vs _ _ h t =>
      cases d with
      | tup es =>
        match es, h, e with
        | [k, y], h, e =>
          simp only [prsOf] at e
          cases e1 : keyOf k with
          | none => rw [e1] at e; cases e
          | some k' =>
            cases e2 : prsOf r with
            | none => rw [e1, e2] at e; cases e
            | some ps' =>
              rw [e1, e2] at e
              cases e
              obtain ⟨as, kvs, rfl, i1, i2, i3⟩ := prs_ok w t e2
              obtain ⟨a, xs, rfl, g1, g2⟩ := rd_tup w (sto := sto) h rfl
              cases g2 with
              | cons g2 g3 =>
                cases g3 with
                | cons g3 g4 =>
                  cases g4
                  rw [key_val g2 e1] at g1
                  exact ⟨a :: as, (k', _) :: kvs, rfl, .cons (SqT.of g1) i1, by rw [List.map_cons, List.map_cons, i2], .cons g3 i3⟩
      | _ => cases e
theorem mrg_ok {K : PySem.W.Frag} {ph : List Addr} {F : Hp} : ∀ (kvs : List (Key × V)) (ps : List (Key × D)) (acc : List (Key × V)) (ds : List D), kvs.map (·.1) = ps.map (·.1) → DrA K ph F (kvs.map (·.2)) (ps.map (·.2)) → DrA K ph F (acc.map (·.2)) ds →
    (mergeK acc kvs).map (·.1) = (mrgD (acc.map (·.1), ds) ps).1 ∧ DrA K ph F ((mergeK acc kvs).map (·.2)) (mrgD (acc.map (·.1), ds) ps).2
  | [], [], acc, ds, _, _, h => ⟨rfl, h⟩
  | [], _ :: _, _, _, e, _, _ => by simp at e
  | _ :: _, [], _, _, e, _, _ => by simp at e
  | kv :: kvs, p :: ps, acc, ds, e, h, ha => by
    rw [List.map_cons, List.map_cons] at e
    injection e with e1 e2
    rw [List.map_cons, List.map_cons] at h
    cases h with
    | cons h t =>
      obtain ⟨i1, i2⟩ := puK_ok kv.1 h acc ds ha
      have := mrg_ok kvs ps (putK acc kv.1 kv.2) _ e2 t i2
      rw [i1] at this
      show (mergeK (putK acc kv.1 kv.2) kvs).map (·.1) = (mrgD (puK (acc.map (·.1)) ds p.1 p.2) ps).1 ∧ DrA K ph F ((mergeK (putK acc kv.1 kv.2) kvs).map (·.2)) (mrgD (puK (acc.map (·.1)) ds p.1 p.2) ps).2
      rw [← e1]
      exact this
theorem okDict : OkR X (rDictP X.K) (puR gDict) := OkR.pure fun Z ph F sto H xs ds d Q w bd q e k1 k2 => by
  generalize hm : ds.map (drf sto) = l at e
  unfold gDict at e
  split at e
  · split at e
    · rename_i es ps hp
      cases e
      obtain ⟨v, a, rfl, rfl, h1, e1⟩ := dr1 q hm
      obtain ⟨ad, ys, rfl, g1, g2⟩ := rd_lst w h1 e1
      obtain ⟨as, kvs, rfl, i1, i2, i3⟩ := prs_ok w g2 hp
      refine ⟨ad, as, kvs, rfl, SqL.of g1, i1, fun p hp' => k2 _ rfl (by intro z; cases z) p _ hp' fun hF => ?_⟩
      obtain ⟨j1, j2⟩ := mrg_ok kvs ps [] [] i2 i3 .nil
      exact ⟨hF, _, upd_same, j1, j2⟩
    · cases e
  · cases e
end
end LW
namespace LW
open PySem PySem.Spec L2
open PySem.W (alike AlikeAll dataLt iter_listW iter_tupleW moved_old cmpIn_lt cmpIn_gt)

/-! least, greatest, sorted: of data that can be compared with one another -/
def notNone : PyData → Bool
  | .none => false
  | _ => true
def okAl (ds : List D) : Bool := fltA ds && (pyA ds).all (fun x => (pyA ds).all fun y => alike x y) && (pyA ds).all notNone && decide (PyData.depthAll (pyA ds) < 50)
theorem okAl_of {ds : List D} (h : okAl ds = true) : fltA ds = true ∧ AlikeAll (pyA ds) ∧ PyData.depthAll (pyA ds) < 50 := by
  unfold okAl at h
  simp only [Bool.and_eq_true, decide_eq_true_eq, List.all_eq_true] at h
  refine ⟨h.1.1.1, ⟨h.1.1.2, fun x hx e => ?_⟩, h.2⟩
  have := h.1.2 x hx
  rw [e] at this
  cases this
def minAt (ds : List D) : Nat := argBest (fun i j => dataLt ((pyA ds).getD i .none) ((pyA ds).getD j .none)) (ds.length - 1)
def maxAt (ds : List D) : Nat := argBest (fun i j => dataLt ((pyA ds).getD j .none) ((pyA ds).getD i .none)) (ds.length - 1)
theorem pyA_len : ∀ ds : List D, (pyA ds).length = ds.length
  | [] => rfl
  | d :: r => by simp [pyA, pyA_len r]
def seqOfA : D → Option (List D)
  | .lst ds => some ds
  | .tup ds => some ds
  | _ => none
def gMin (_ : List Cell) : List D → Option D
  | [.int i, .int j] => some (.int (if j < i then j else i))
  | [a] => (match seqOfA a with
    | some ds => if okAl ds = true then ds[minAt ds]? else none
    | none => none)
  | _ => none
def gMax (_ : List Cell) : List D → Option D
  | [.int i, .int j] => some (.int (if j > i then j else i))
  | [a] => (match seqOfA a with
    | some ds => if okAl ds = true then ds[maxAt ds]? else none
    | none => none)
  | _ => none
section
variable {X : Cx}
abbrev rBest (K : PySem.W.Frag) (mx : Bool) : List V → Hp → VK → Prop := fun xs H Q => ∃ a ys ds v, xs = [V.ref a] ∧ (SqL K H a ys ∨ SqT K H a ys) ∧ DpAll K H ys ds ∧ AlikeAll ds ∧ PyData.depthAll ds < 50 ∧
  ys[argBest (fun i j => if mx = true then dataLt (ds.getD j .none) (ds.getD i .none) else dataLt (ds.getD i .none) (ds.getD j .none)) (ds.length - 1)]? = some v ∧ Q v H
theorem dpAll_len {K : PySem.W.Frag} {H : Hp} : ∀ {vs : List V} {ds : List PyData}, DpAll K H vs ds → vs.length = ds.length
  | _, _, .nil => rfl
  | _, _, .cons _ t => congrArg (· + 1) (dpAll_len t)
theorem call_minBest (hc : X.calm = true) (hu : X.A.units + 64 < cLine) : CallR X (.builtin "min") (rBest X.K false) := by
  intro pins s sg H xs us Q I r h
  obtain ⟨a, ys, ds, v, rfl, hs, dp, al, dep, hv, q⟩ := h
  obtain ⟨u, rfl, ru⟩ := vals1 r
  cases ru
  have hl0 : 0 < ys.length := by
    have := (List.getElem?_eq_some_iff.mp hv).1
    omega
  have hld := dpAll_len dp
  have fin : ∀ (its : List Value), Vals ys its → ∀ s', (∃ h' tk, s' = { s with heap := h', toks := tk } ∧ ∀ b o, s.heap.get? b = some o → h'.get? b = some o) → ∀ u, its.toArray[argBest (fun i j => dataLt (ds.getD i .none) (ds.getD j .none)) (its.toArray.size - 1)]? = some u → EP X pins sg Q u s' := by
    intro its rv s' ⟨h', tk, e, hk⟩ u hu
    subst e
    have hlen := rv.length
    have e2 : its.toArray.size - 1 = ds.length - 1 := by simp; omega
    rw [e2] at hu
    obtain ⟨u', g1, g2⟩ := rv.get hv
    have g3 : its.toArray[argBest (fun i j => dataLt (ds.getD i .none) (ds.getD j .none)) (ds.length - 1)]? = some u' := by simpa using g1
    rw [g3] at hu
    cases hu
    exact ⟨v, H, I.kept hk, g2, q⟩
  rcases hs with hs | hs
  · obtain ⟨its, rv, pl, hz⟩ := I.list hs
    obtain ⟨as, rd⟩ := Dp.readsAll I ds ys its dp rv
    have hlen := rv.length
    refine call_min_walkH (iter_listW (A := X.A.in1) (I.ok.hd hc) pl.isList fun s₂ e W st hfp hw hk => ?_)
    refine ⟨_, _, _, _, _, _, _, s.heap, _, rfl, W, st, hfp, by simp; omega, hw, hk, cmpIn_lt (A := X.A.in1) rd al (by show X.A.units + 1 + _ < _; omega), fun v s' hP m => ?_⟩
    obtain ⟨h', tk, e', hk'⟩ := moved_old e rfl m
    exact fin its rv s' ⟨h', tk, e', hk'⟩ v hP
  · obtain ⟨its, rv, pl, hz⟩ := I.tuple hs
    obtain ⟨as, rd⟩ := Dp.readsAll I ds ys its dp rv
    have hlen := rv.length
    refine call_min_walkH (iter_tupleW (A := X.A.in1) (I.ok.hd hc) pl fun s₂ e W st hfp hw hk => ?_)
    refine ⟨_, _, _, _, _, _, _, s.heap, _, rfl, W, st, hfp, by simp; omega, hw, hk, cmpIn_lt (A := X.A.in1) rd al (by show X.A.units + 1 + _ < _; omega), fun v s' hP m => ?_⟩
    obtain ⟨h', tk, e', hk'⟩ := moved_old e rfl m
    exact fin its rv s' ⟨h', tk, e', hk'⟩ v hP
theorem call_maxBest (hc : X.calm = true) (hu : X.A.units + 64 < cLine) : CallR X (.builtin "max") (rBest X.K true) := by
  intro pins s sg H xs us Q I r h
  obtain ⟨a, ys, ds, v, rfl, hs, dp, al, dep, hv, q⟩ := h
  obtain ⟨u, rfl, ru⟩ := vals1 r
  cases ru
  have hl0 : 0 < ys.length := by
    have := (List.getElem?_eq_some_iff.mp hv).1
    omega
  have hld := dpAll_len dp
  have fin : ∀ (its : List Value), Vals ys its → ∀ s', (∃ h' tk, s' = { s with heap := h', toks := tk } ∧ ∀ b o, s.heap.get? b = some o → h'.get? b = some o) → ∀ u, its.toArray[argBest (fun i j => dataLt (ds.getD j .none) (ds.getD i .none)) (its.toArray.size - 1)]? = some u → EP X pins sg Q u s' := by
    intro its rv s' ⟨h', tk, e, hk⟩ u hu
    subst e
    have hlen := rv.length
    have e2 : its.toArray.size - 1 = ds.length - 1 := by simp; omega
    rw [e2] at hu
    obtain ⟨u', g1, g2⟩ := rv.get hv
    have g3 : its.toArray[argBest (fun i j => dataLt (ds.getD j .none) (ds.getD i .none)) (ds.length - 1)]? = some u' := by simpa using g1
    rw [g3] at hu
    cases hu
    exact ⟨v, H, I.kept hk, g2, q⟩
  rcases hs with hs | hs
  · obtain ⟨its, rv, pl, hz⟩ := I.list hs
    obtain ⟨as, rd⟩ := Dp.readsAll I ds ys its dp rv
    have hlen := rv.length
    refine call_max_walkH (iter_listW (A := X.A.in1) (I.ok.hd hc) pl.isList fun s₂ e W st hfp hw hk => ?_)
    refine ⟨_, _, _, _, _, _, _, s.heap, _, rfl, W, st, hfp, by simp; omega, hw, hk, cmpIn_gt (A := X.A.in1) rd al (by show X.A.units + 1 + _ < _; omega), fun v s' hP m => ?_⟩
    obtain ⟨h', tk, e', hk'⟩ := moved_old e rfl m
    exact fin its rv s' ⟨h', tk, e', hk'⟩ v hP
  · obtain ⟨its, rv, pl, hz⟩ := I.tuple hs
    obtain ⟨as, rd⟩ := Dp.readsAll I ds ys its dp rv
    have hlen := rv.length
    refine call_max_walkH (iter_tupleW (A := X.A.in1) (I.ok.hd hc) pl fun s₂ e W st hfp hw hk => ?_)
    refine ⟨_, _, _, _, _, _, _, s.heap, _, rfl, W, st, hfp, by simp; omega, hw, hk, cmpIn_gt (A := X.A.in1) rd al (by show X.A.units + 1 + _ < _; omega), fun v s' hP m => ?_⟩
    obtain ⟨h', tk, e', hk'⟩ := moved_old e rfl m
    exact fin its rv s' ⟨h', tk, e', hk'⟩ v hP
theorem dr1s {K : PySem.W.Frag} {mg : Str → Option Value} {Z : En} {ph : List Addr} {F H : Hp} {sto : List Cell} (w : Wd K mg Z ph F sto H) {v : V} {d : D} {ds : List D} (h : Dr K ph F v d) (e : seqOfA (drf sto d) = some ds) : ∃ a ys, v = .ref a ∧ (SqL K H a ys ∨ SqT K H a ys) ∧ DrA K ph F ys ds := by
  cases g : drf sto d with
  | lst es =>
    rw [g] at e
    cases e
    obtain ⟨a, ys, rfl, h1, h2⟩ := rd_lst w h g
    exact ⟨a, ys, rfl, .inl (SqL.of h1), h2⟩
  | tup es =>
    rw [g] at e
    cases e
    obtain ⟨a, ys, rfl, h1, h2⟩ := rd_tup w h g
    exact ⟨a, ys, rfl, .inr (SqT.of h1), h2⟩
  | _ => rw [g] at e; cases e
abbrev rMinA (K : PySem.W.Frag) : List V → Hp → VK → Prop := fun xs H Q => (∃ i j, xs = [.int i, .int j] ∧ Q (.int (if j < i then j else i)) H) ∨ rBest K false xs H Q
abbrev rMaxA (K : PySem.W.Frag) : List V → Hp → VK → Prop := fun xs H Q => (∃ i j, xs = [.int i, .int j] ∧ Q (.int (if j > i then j else i)) H) ∨ rBest K true xs H Q
theorem call_minA (hc : X.calm = true) (hu : X.A.units + 64 < cLine) : CallR X (.builtin "min") (rMinA X.K) := (call_min2 hc).or (call_minBest hc hu)
theorem call_maxA (hc : X.calm = true) (hu : X.A.units + 64 < cLine) : CallR X (.builtin "max") (rMaxA X.K) := (call_max2 hc).or (call_maxBest hc hu)
theorem okMin : OkN X (rMinA X.K) (pu gMin) := OkN.pure fun Z ph F sto H xs ds d Q w bd q e k1 k2 => by
  generalize hm : ds.map (drf sto) = l at e
  unfold gMin at e
  split at e
  · cases e
    obtain ⟨v, u, a, b, rfl, rfl, h1, h2, e1, e2⟩ := dr2 q hm
    rw [int_of h1 e1, int_of h2 e2]
    exact .inl ⟨_, _, rfl, k1 _ (.int _)⟩
  · split at e
    · rename_i es hs
      split at e
      · rename_i ha
        obtain ⟨v, a, rfl, rfl, h1, e1⟩ := dr1 q hm
        rw [← e1] at hs
        obtain ⟨ad, ys, rfl, g1, g2⟩ := dr1s w h1 hs
        obtain ⟨f1, f2, f3⟩ := okAl_of ha
        obtain ⟨v, g3, g4⟩ := g2.get e
        refine .inr ⟨ad, ys, pyA es, v, rfl, g1, DrA.dp w.sub _ _ f1 g2, f2, f3, ?_, k1 v g4⟩
        unfold minAt at g3
        rw [pyA_len]
        exact g3
      · cases e
    · cases e
  · cases e
theorem okMax : OkN X (rMaxA X.K) (pu gMax) := OkN.pure fun Z ph F sto H xs ds d Q w bd q e k1 k2 => by
  generalize hm : ds.map (drf sto) = l at e
  unfold gMax at e
  split at e
  · cases e
    obtain ⟨v, u, a, b, rfl, rfl, h1, h2, e1, e2⟩ := dr2 q hm
    rw [int_of h1 e1, int_of h2 e2]
    exact .inl ⟨_, _, rfl, k1 _ (.int _)⟩
  · split at e
    · rename_i es hs
      split at e
      · rename_i ha
        obtain ⟨v, a, rfl, rfl, h1, e1⟩ := dr1 q hm
        rw [← e1] at hs
        obtain ⟨ad, ys, rfl, g1, g2⟩ := dr1s w h1 hs
        obtain ⟨f1, f2, f3⟩ := okAl_of ha
        obtain ⟨v, g3, g4⟩ := g2.get e
        refine .inr ⟨ad, ys, pyA es, v, rfl, g1, DrA.dp w.sub _ _ f1 g2, f2, f3, ?_, k1 v g4⟩
        unfold maxAt at g3
        rw [pyA_len]
        exact g3
      · cases e
    · cases e
  · cases e

/-! sorted -/
def isTup1 : PyData → Bool
  | .tuple (_ :: _) => true
  | _ => false
def notTup : PyData → Bool
  | .none => false
  | .tuple _ => false
  | _ => true
def okSrt (ds : List D) : Bool := okAl ds && ((pyA ds).all isTup1 || (pyA ds).all notTup)
def leD (a b : D) : Bool := !dataLt (py b) (py a)
def gSorted (_ : List Cell) : List D → Option Rs
  | [.lst ds] => if okSrt ds = true then some (.c (.lst (ds.mergeSort leD))) else none
  | _ => none
theorem srt_of {ds : List D} (h : okSrt ds = true) : PySem.W.Sortable (pyA ds) := by
  unfold okSrt at h
  simp only [Bool.and_eq_true, Bool.or_eq_true, List.all_eq_true] at h
  rcases h.2 with z | z
  · refine .inl fun d hd => ?_
    have := z d hd
    match d, this with
    | .tuple (x :: r), _ => exact ⟨x, r, rfl⟩
  · refine .inr fun d hd => ?_
    have := z d hd
    exact ⟨fun e => (by rw [e] at this; cases this), fun xs e => (by rw [e] at this; cases this)⟩
abbrev rSortedA (K : PySem.W.Frag) (ph : List Addr) (F : Hp) : List V → Hp → VK → Prop := fun xs H Q => ∃ a ys ds, xs = [V.ref a] ∧ SqL K H a ys ∧ DrA K ph F ys ds ∧ okSrt ds = true ∧ (∀ b o, F b = some o → H b = some o) ∧
  ∀ zs p, DrA K ph F zs (ds.mergeSort leD) → H p = none → Q (.ref p) (upd H p (.lst zs))
abbrev rSortedB (K : PySem.W.Frag) : List V → Hp → VK → Prop := fun xs H Q => ∃ ph F, rSortedA K ph F xs H Q
theorem pyA_map : ∀ ds : List D, pyA ds = ds.map py
  | [] => rfl
  | d :: r => by rw [pyA, List.map_cons, pyA_map r]
theorem each_vals {P : V × D → Prop} : ∀ {bs : List (V × D)} {out : List Value}, PySem.W.EachIs (fun v b => RelV b.1 v) out bs → Vals (bs.map (·.1)) out
  | _, _, .nil => .nil
  | _, _, .cons h t => .cons h (each_vals (P := P) t)
theorem drA_of {K : PySem.W.Frag} {ph : List Addr} {F : Hp} : ∀ {bs : List (V × D)}, (∀ p ∈ bs, Dr K ph F p.1 p.2) → DrA K ph F (bs.map (·.1)) (bs.map (·.2))
  | [], _ => .nil
  | p :: r, h => .cons (h p List.mem_cons_self) (drA_of fun q hq => h q (List.mem_cons_of_mem _ hq))
theorem zip_all {K : PySem.W.Frag} {ph : List Addr} {F : Hp} : ∀ {ys : List V} {ds : List D}, DrA K ph F ys ds → (∀ p ∈ ys.zip ds, Dr K ph F p.1 p.2) ∧ (ys.zip ds).map (·.2) = ds ∧ (ys.zip ds).map (·.1) = ys
  | _, _, .nil => ⟨fun p h => by simp at h, rfl, rfl⟩
  | _, _, .cons h t => by
    obtain ⟨i1, i2, i3⟩ := zip_all t
    refine ⟨fun p hp => ?_, by simp [i2], by simp [i3]⟩
    rw [List.zip_cons_cons] at hp
    rcases List.mem_cons.mp hp with rfl | z
    · exact h
    · exact i1 p z
theorem each_zip : ∀ {ys : List V} {ds : List D} {its : List Value}, ys.length = ds.length → Vals ys its → PySem.W.EachIs (fun v (b : V × D) => RelV b.1 v) its (ys.zip ds)
  | [], [], _, _, r => by cases r; exact .nil
  | [], _ :: _, _, h, _ => by simp at h
  | _ :: _, [], _, h, _ => by simp at h
  | y :: ys, d :: ds, _, h, r => by
    cases r with
    | cons r t => exact .cons r (each_zip (by simpa using h) t)
theorem each_reads {h : Heap} : ∀ {ys : List V} {ds : List D} {its : List Value} {as : List Addr}, ys.length = ds.length → ReadsAll h its (pyA ds) as → PySem.W.EachIs (fun v (b : V × D) => ∃ as, Reads h v (py b.2) as) its (ys.zip ds)
  | [], [], _, _, _, r => by
    have r' : ReadsAll h _ [] _ := r
    cases r'
    exact .nil
  | [], _ :: _, _, _, h, _ => by simp at h
  | _ :: _, [], _, _, h, _ => by simp at h
  | y :: ys, d :: ds, _, _, h, r => by
    rw [pyA] at r
    cases r with
    | cons r t => exact .cons ⟨_, r⟩ (each_reads (by simpa using h) t)
theorem depth_le {x : PyData} : ∀ {xs : List PyData}, x ∈ xs → x.depth ≤ PyData.depthAll xs
  | y :: r, h => by
    rw [PyData.depthAll]
    rcases List.mem_cons.mp h with rfl | z
    · exact Nat.le_max_left _ _
    · exact Nat.le_trans (depth_le z) (Nat.le_max_right _ _)
theorem call_sortedB (hu : X.A.units + 64 < cLine) : CallR X (.builtin "sorted") (rSortedB X.K) := by
  intro pins s sg H xs us Q I r h
  obtain ⟨ph, F, a, ys, ds, rfl, hs, dr, ok, sub, q⟩ := h
  obtain ⟨u, rfl, ru⟩ := vals1 r
  cases ru
  obtain ⟨its, rv, pl, hz⟩ := I.list hs
  have ok2 : okAl ds = true := by
    unfold okSrt at ok
    exact (Bool.and_eq_true _ _ ▸ ok).1
  obtain ⟨f1, f2, f3⟩ := okAl_of ok2
  obtain ⟨as, rd⟩ := Dp.readsAll I (pyA ds) ys its (DrA.dp sub _ _ f1 dr) rv
  have hlen := dr.len
  obtain ⟨z1, z2, z3⟩ := zip_all dr
  have em : (ys.zip ds).map (fun b => py b.2) = pyA ds := by
    rw [pyA_map, ← z2, List.map_map, z2]
    rfl
  refine PySem.W.sorted_data (bs := ys.zip ds) (enc := fun b => py b.2) (R := fun v b => RelV b.1 v) pl.isList (each_zip hlen rv) (each_reads hlen rd) ?_ ?_ ?_ ?_ fun out ho he => ?_
  · rw [em]
    exact f2.1
  · rw [em]
    exact srt_of ok
  · rw [List.length_zip, ← hlen, Nat.min_self]
    exact hz
  · intro b hb
    have : py b.2 ∈ pyA ds := by rw [← em]; exact List.mem_map_of_mem (f := fun b : V × D => py b.2) hb
    have := depth_le this
    omega
  · obtain ⟨ep, he'⟩ := PyProof.Rows.sortedAll_at s.heap its out.toArray
    have hv := each_vals (P := fun _ => True) he
    have hd : DrA X.K ph F (((ys.zip ds).mergeSort (PySem.W.dataLe false fun b => py b.2)).map (·.1)) (ds.mergeSort leD) := by
      have e2 : ((ys.zip ds).mergeSort (PySem.W.dataLe false fun b => py b.2)).map (·.2) = ds.mergeSort leD := by
        rw [List.map_mergeSort (s := leD) (f := fun b : V × D => b.2), z2]
        intro a _ b _
        rfl
      rw [← e2]
      exact drA_of fun p hp => z1 p (List.mem_mergeSort.mp hp)
    have hlen2 : (((ys.zip ds).mergeSort (PySem.W.dataLe false fun b => py b.2)).map (·.1)).length ≤ sizeLine := by
      rw [hd.len, List.length_mergeSort, ← hlen]
      exact hz
    exact ⟨.ref _, upd H (s.heap.objs.size + 1) (.lst _), I.laid (t' := s.toks) (fun _ _ => PyProof.Rows.sortedAll_old) (Nat.le_succ _) ⟨hlen2, out, ep, hv, he'⟩, rfl, q _ _ hd (I.hok.fresh (Nat.le_succ _))⟩
theorem okSorted : OkR X (rSortedB X.K) (puR gSorted) := OkR.pure fun Z ph F sto H xs ds d Q w bd q e k1 k2 => by
  generalize hm : ds.map (drf sto) = l at e
  unfold gSorted at e
  split at e
  · split at e
    · rename_i ok
      cases e
      obtain ⟨v, a, rfl, rfl, h1, e1⟩ := dr1 q hm
      obtain ⟨ad, ys, rfl, g1, g2⟩ := rd_lst w h1 e1
      exact ⟨ph, F, ad, ys, _, rfl, SqL.of g1, g2, ok, w.sub, fun zs p hz hp => k2 _ rfl (by intro z; cases z) p _ hp fun hF => ⟨hF, _, upd_same, hz⟩⟩
    · cases e
  · cases e
end
end LW
namespace LW
open PySem PySem.Spec L2

/-! repr -/
def okShow (d : PyData) : Bool := PyData.showable d && !PyData.hasDict d && decide (d.depth < 60) && decide (d.shown.length ≤ 16777216)
def gRepr (_ : List Cell) : List D → Option D
  | [a] => if flt a = true ∧ okShow (py a) = true then some (.str (py a).shown) else none
  | _ => none
abbrev rReprD (K : PySem.W.Frag) : List V → Hp → VK → Prop := fun xs H Q => ∃ v d, xs = [v] ∧ Dp K H v d ∧ okShow d = true ∧ Q (.str d.shown) H
section
variable {X : Cx}
theorem call_reprD (hg : X.A.guards = some []) (hu : X.A.units + 64 < cLine) : CallR X (.builtin "repr") (rReprD X.K) := by
  intro pins s sg H xs us Q I r h
  obtain ⟨v, d, rfl, dp, ok, q⟩ := h
  obtain ⟨u, rfl, ru⟩ := vals1 r
  unfold okShow at ok
  simp only [Bool.and_eq_true, Bool.not_eq_true', decide_eq_true_eq] at ok
  obtain ⟨⟨⟨o1, o2⟩, o3⟩, o4⟩ := ok
  rw [← sizeLine_eq] at o4
  have onref : ∀ a, u = .ref a → wpAny (model X.prog X.w) X.A (call (.builtin "repr") [u]) (EP X pins sg Q) X.xe s := by
    rintro a rfl
    obtain ⟨as, rd⟩ := Dp.reads I d v (.ref a) dp ru
    exact repr_of_reads' rd o1 (PyData.noDict_hsm o2) hg (by omega) (fun _ _ e => e) (fun h' u tk hk => ⟨.str d.shown, H, I.kept hk, ⟨u, rfl⟩, q⟩) o4
  cases dp with
  | non =>
    cases ru
    exact P.repr_of_none ⟨.str PyData.none.shown, H, I.tok _, ⟨_, rfl⟩, q⟩
  | bl b =>
    cases ru
    exact P.repr_of_bool ⟨.str (PyData.bool b).shown, H, I.tok _, ⟨_, rfl⟩, q⟩
  | int i =>
    obtain ⟨t, rfl⟩ := ru
    refine P.repr_of_int (by simpa [PyData.showable] using o1) ⟨.str (PyData.int i).shown, H, I.tok _, ⟨_, rfl⟩, q⟩
  | str z =>
    obtain ⟨t, rfl⟩ := ru
    exact P.repr_of_str ⟨.str (PyData.str z).shown, H, I.tok _, ⟨_, rfl⟩, q⟩ o4
  | lst _ _ => exact onref _ ru
  | tup _ _ => exact onref _ ru
theorem okRepr : OkN X (rReprD X.K) (pu gRepr) := OkN.pure fun Z ph F sto H xs ds d Q w bd q e k1 k2 => by
  generalize hm : ds.map (drf sto) = l at e
  unfold gRepr at e
  split at e
  · split at e
    · rename_i a hc
      cases e
      obtain ⟨v, a', rfl, rfl, h1, e1⟩ := dr1 q hm
      rw [← e1] at hc k1
      exact ⟨v, _, rfl, rd_flt w h1 hc.1, hc.2, k1 _ (.str _)⟩
    · cases e
  · cases e
end

/-! any, all, sum, abs, int, str -/
def blsOf : List D → Option (List Bool)
  | [] => some []
  | .bl i :: r => (blsOf r).map (i :: ·)
  | _ :: _ => none
theorem blsOf_eq : ∀ {ds : List D} {ns : List Bool}, blsOf ds = some ns → ds = ns.map D.bl
  | [], _, h => by cases h; rfl
  | d :: r, ns, h => by
    cases d with
    | bl i =>
      simp only [blsOf] at h
      cases e : blsOf r with
      | none => rw [e] at h; cases h
      | some ms => rw [e] at h; cases h; rw [blsOf_eq e]; rfl
    | _ => cases h
@[simp] theorem blsOf_map : ∀ ns : List Bool, blsOf (ns.map D.bl) = some ns
  | [] => rfl
  | n :: ns => by simp [blsOf, blsOf_map ns]
def gAny (_ : List Cell) : List D → Option D
  | [.lst ds] => (blsOf ds).map fun bs => .bl (bs.any id)
  | _ => none
def gAll (_ : List Cell) : List D → Option D
  | [.lst ds] => (blsOf ds).map fun bs => .bl (bs.all id)
  | _ => none
def gSum (_ : List Cell) : List D → Option D
  | [.lst ds] => (intsOf ds).map fun ns => .int ns.sum
  | _ => none
def gAbs (_ : List Cell) : List D → Option D
  | [.int i] => some (.int (if i < 0 then -i else i))
  | _ => none
def gInt (_ : List Cell) : List D → Option D
  | [.int i] => some (.int i)
  | [.bl k] => some (.int (if k then 1 else 0))
  | _ => none
def gStrI (_ : List Cell) : List D → Option D
  | [.int i] => if i.natAbs.log2 < 1920 then some (.str (toString i)) else none
  | _ => none
section
variable {X : Cx}
theorem okAny : OkN X (rAny X.K) (pu gAny) := OkN.pure fun Z ph F sto H xs ds d Q w bd q e k1 k2 => by
  generalize hm : ds.map (drf sto) = l at e
  unfold gAny at e
  split at e
  · rename_i es
    cases g : blsOf es with
    | none => rw [g] at e; cases e
    | some bs =>
      rw [g] at e
      cases e
      obtain ⟨v, a, rfl, rfl, h1, e1⟩ := dr1 q hm
      obtain ⟨ad, ys, rfl, g1, g2⟩ := rd_lst w h1 e1
      rw [blsOf_eq g] at g2
      rw [g2.of_bls] at g1
      exact ⟨ad, bs, rfl, SqL.of g1, k1 _ (.bl _)⟩
  · cases e
theorem okAll : OkN X (rAll X.K) (pu gAll) := OkN.pure fun Z ph F sto H xs ds d Q w bd q e k1 k2 => by
  generalize hm : ds.map (drf sto) = l at e
  unfold gAll at e
  split at e
  · rename_i es
    cases g : blsOf es with
    | none => rw [g] at e; cases e
    | some bs =>
      rw [g] at e
      cases e
      obtain ⟨v, a, rfl, rfl, h1, e1⟩ := dr1 q hm
      obtain ⟨ad, ys, rfl, g1, g2⟩ := rd_lst w h1 e1
      rw [blsOf_eq g] at g2
      rw [g2.of_bls] at g1
      exact ⟨ad, bs, rfl, SqL.of g1, k1 _ (.bl _)⟩
  · cases e
theorem okSum : OkN X (rSum X.K) (pu gSum) := OkN.pure fun Z ph F sto H xs ds d Q w bd q e k1 k2 => by
  generalize hm : ds.map (drf sto) = l at e
  unfold gSum at e
  split at e
  · rename_i es
    cases g : intsOf es with
    | none => rw [g] at e; cases e
    | some bs =>
      rw [g] at e
      cases e
      obtain ⟨v, a, rfl, rfl, h1, e1⟩ := dr1 q hm
      obtain ⟨ad, ys, rfl, g1, g2⟩ := rd_lst w h1 e1
      rw [intsOf_eq g] at g2
      rw [g2.of_ints] at g1
      exact ⟨ad, bs, rfl, SqL.of g1, k1 _ (.int _)⟩
  · cases e
abbrev rAbs : List V → Hp → VK → Prop := fun xs H Q => ∃ i, xs = [.int i] ∧ Q (.int (if i < 0 then -i else i)) H
abbrev rInt1 : List V → Hp → VK → Prop := fun xs H Q => (∃ i, xs = [.int i] ∧ Q (.int i) H) ∨ ∃ k, xs = [.bl k] ∧ Q (.int (if k then 1 else 0)) H
abbrev rStrI : List V → Hp → VK → Prop := fun xs H Q => ∃ i, xs = [.int i] ∧ i.natAbs.log2 < 1920 ∧ Q (.str (toString i)) H
theorem okAbs : OkN X rAbs (pu gAbs) := OkN.pure fun Z ph F sto H xs ds d Q w bd q e k1 k2 => by
  generalize hm : ds.map (drf sto) = l at e
  unfold gAbs at e
  split at e
  · cases e
    obtain ⟨v, a, rfl, rfl, h1, e1⟩ := dr1 q hm
    rw [int_of h1 e1]
    exact ⟨_, rfl, k1 _ (.int _)⟩
  · cases e
theorem okInt : OkN X rInt1 (pu gInt) := OkN.pure fun Z ph F sto H xs ds d Q w bd q e k1 k2 => by
  generalize hm : ds.map (drf sto) = l at e
  unfold gInt at e
  split at e
  · cases e
    obtain ⟨v, a, rfl, rfl, h1, e1⟩ := dr1 q hm
    rw [int_of h1 e1]
    exact .inl ⟨_, rfl, k1 _ (.int _)⟩
  · cases e
    obtain ⟨v, a, rfl, rfl, h1, e1⟩ := dr1 q hm
    rw [bl_of h1 e1]
    exact .inr ⟨_, rfl, k1 _ (.int _)⟩
  · cases e
theorem okStrI : OkN X rStrI (pu gStrI) := OkN.pure fun Z ph F sto H xs ds d Q w bd q e k1 k2 => by
  generalize hm : ds.map (drf sto) = l at e
  unfold gStrI at e
  split at e
  · split at e
    · rename_i hl
      cases e
      obtain ⟨v, a, rfl, rfl, h1, e1⟩ := dr1 q hm
      rw [int_of h1 e1]
      exact ⟨_, rfl, hl, k1 _ (.str _)⟩
    · cases e
  · cases e
end

/-! a def's value is a result: what it made itself is its own -/
theorem se_call {X : Cx} {W : WX} {e : Expr} {m : M Rs} (h : SR W X e m) : SE W X e (fz m) := h.fz

/-! in, with a dict -/
def gDIn (_ : List Cell) : List D → Option D
  | [y, .dK ks ds] => (keyOf y).map fun k => .bl (luK ks ds k).isSome
  | [.tup y, .dT ks ds] => (keysOf y).map fun k => .bl (luK ks ds k).isSome
  | _ => none
def gDNotIn (_ : List Cell) : List D → Option D
  | [y, .dK ks ds] => (keyOf y).map fun k => .bl (!(luK ks ds k).isSome)
  | [.tup y, .dT ks ds] => (keysOf y).map fun k => .bl (!(luK ks ds k).isSome)
  | _ => none
section
variable {X : Cx} {W : WX} {a b : Expr} {ma mb : M D} {pos : Pos}
theorem din_ok {K : PySem.W.Frag} {mg : Str → Option Value} {Z : En} {ph : List Addr} {F H : Hp} {sto : List Cell} (w : Wd K mg Z ph F sto H) {v y : V} {d c : D} (h1 : Dr K ph F y d) (h2 : Dr K ph F v c) {b : Bool} (e : gDIn sto [drf sto d, drf sto c] = some (.bl b)) : ∃ ad o, v = .ref ad ∧ DGet H ad y o ∧ o.isSome = b := by
  have dg := dget_ok w h2 h1
  cases g : drf sto c with
  | dK ks ds =>
    rw [g] at e
    simp only [gDIn] at e
    cases g2 : keyOf (drf sto d) with
    | none => rw [g2] at e; cases e
    | some k =>
      rw [g2] at e
      cases e
      obtain ⟨ad, o, rfl, g3, g4, g5⟩ := dg.1 ks ds k g g2
      refine ⟨ad, o, rfl, g3, ?_⟩
      cases q : luK ks ds k with
      | none => rw [g5 q]; rfl
      | some z => obtain ⟨u, rfl, _⟩ := g4 z q; rfl
  | dT ks ds =>
    rw [g] at e
    cases g1 : drf sto d with
    | tup es =>
      rw [g1] at e
      simp only [gDIn] at e
      cases g2 : keysOf es with
      | none => rw [g2] at e; cases e
      | some k =>
        rw [g2] at e
        cases e
        obtain ⟨ad, o, rfl, g3, g4, g5⟩ := dg.2 ks ds es k g g1 g2
        refine ⟨ad, o, rfl, g3, ?_⟩
        cases q : luK ks ds k with
        | none => rw [g5 q]; rfl
        | some z => obtain ⟨u, rfl, _⟩ := g4 z q; rfl
    | _ => rw [g1] at e; simp only [gDIn] at e; cases e
  | _ => rw [g] at e; simp [gDIn] at e
theorem din_bl {st : List Cell} {ds : List D} {d : D} (e : gDIn st ds = some d) : ∃ b, d = .bl b := by
  unfold gDIn at e
  split at e
  · rename_i y ks ds
    cases g : keyOf y with
    | none => rw [g] at e; cases e
    | some k => rw [g] at e; cases e; exact ⟨_, rfl⟩
  · rename_i y ks ds
    cases g : keysOf y with
    | none => rw [g] at e; cases e
    | some k => rw [g] at e; cases e; exact ⟨_, rfl⟩
  · cases e
theorem dnot_of {st : List Cell} {ds : List D} {d : D} (e : gDNotIn st ds = some d) : ∃ b, gDIn st ds = some (.bl b) ∧ d = .bl (!b) := by
  unfold gDNotIn at e
  split at e
  · rename_i y ks ds
    cases g : keyOf y with
    | none => rw [g] at e; cases e
    | some k => rw [g] at e; cases e; exact ⟨_, by simp [gDIn, g], rfl⟩
  · rename_i y ks ds
    cases g : keysOf y with
    | none => rw [g] at e; cases e
    | some k => rw [g] at e; cases e; exact ⟨_, by simp [gDIn, g], rfl⟩
  · cases e
structure SC (W : WX) (X : Cx) (op : CmpOp) (a b : Expr) (m : M D) : Prop where
  pc : PC X op a b (tE X.K X.mg W m)
variable {op : CmpOp} {m m' n : M D}
theorem SC.of {t : TE} (h : PC X op a b t) (k : ∀ Z ph F s sg H Q, Rel X.K X.mg Z ph F s sg H → Bd X.K H → Res X.K X.mg Z W sg (m s) ph F Q → t sg H fun v H' => Bd X.K H' → Q v H') : SC W X op a b m :=
  ⟨⟨fun pins s sg H Q I ⟨Z, ph, F, s0, r, q⟩ => thn (h.run pins s sg H _ I (k Z ph F s0 sg H Q r (bd_of I) q)) fun v s1 h1 => thn h1 fun u s2 h2 => thn h2 fun c s3 ⟨x, H1, I1, r1, q1⟩ => ⟨x, H1, I1, r1, q1 (bd_of I1)⟩⟩⟩
theorem SC.alt (h : SC W X op a b m) (h' : SC W X op a b m') (k : ∀ s, n s = m s ∨ n s = m' s) : SC W X op a b n :=
  ⟨⟨fun pins s sg H Q I ⟨Z, ph, F, s0, r, q⟩ => by
    rcases k s0 with g | g
    · rw [g] at q; exact h.pc.run pins s sg H Q I ⟨Z, ph, F, s0, r, q⟩
    · rw [g] at q; exact h'.pc.run pins s sg H Q I ⟨Z, ph, F, s0, r, q⟩⟩⟩
theorem SC.se (h : SC W X op a b m) (hm : behindInMarks op b = false) : SE W X (.Compare a [op] [b] pos) m := ⟨pe_cmp h.pc hm⟩
theorem SC.st (h : SC W X op a b m) (hm : behindInMarks op b = false) : STt W X (.Compare a [op] [b] pos) (toB m) :=
  STt.of (pt_cmp h.pc hm) fun Z ph F s sg H Q r bd h => by
    have h' : ResT X.K X.mg Z W sg (bnd (toB m) ret s) ph F Q := by
      have : bnd (toB m) ret s = toB m s := by unfold bnd; cases toB m s <;> rfl
      rw [this]
      exact h
    refine toB_step kdT r h' fun c s1 H1 p1 F1 x1 r1 b1 h1 => ⟨c, rfl, fun b => ?_⟩
    exact h1 H1 p1 F1 x1 r1 b
theorem sc_R {r2 : R2} {f : S → List D → Option (D × S)} (ho : OpR X (compareOp op) r2) (hf : OkN X (b2 r2) f) (ha : SE W X a ma) (hb : SE W X b mb) : SC W X op a b (e2 f ma mb) :=
  SC.of (t := tOp r2 (tE X.K X.mg W ma) (tE X.K X.mg W mb)) ⟨fun pins s sg H Q I h => thn (ha.pe.run pins s sg H _ I h) fun v s1 ⟨x, H1, I1, rx, q1⟩ => thn (hb.pe.run pins s1 sg H1 _ I1 q1) fun u s2 ⟨y, H2, I2, ry, q2⟩ => ho pins s2 sg H2 x y v u Q I2 rx ry q2⟩ fun Z ph F s sg H Q r bd h => by
    refine tE_bnd kdE r h fun d1 s1 v1 H1 p1 F1 x1 r1 q1 b1 h1 => ?_
    refine tE_bnd kdE r1 (h1.up x1) fun d2 s2 v2 H2 p2 F2 x2 r2 q2 b2 h2 => ?_
    obtain ⟨d, s', e, k⟩ := opt_res (h2.up x2)
    obtain ⟨x, y, e3, q⟩ := hf.run Z p2 F2 s2 sg H2 [v1, v2] [d1, d2] d s' (fun v H' => Bd X.K H' → Q v H') r2 b2 (.cons (q1.up x2) (.cons q2 .nil)) e k
    cases e3
    exact q
theorem sc_din (hu : X.A.units + 1 < cLine) (ha : SE W X a ma) (hb : SE W X b mb) : SC W X .In a b (e2 (pu gDIn) ma mb) :=
  SC.of (pc_din hu ha.pe hb.pe) fun Z ph F s sg H Q r bd h => by
    refine tE_bnd kdE r h fun d1 s1 v1 H1 p1 F1 x1 r1 q1 b1 h1 => ?_
    refine tE_bnd kdE r1 (h1.up x1) fun d2 s2 v2 H2 p2 F2 x2 r2 q2 b2 h2 => ?_
    obtain ⟨d, s', e, k⟩ := opt_res (h2.up x2)
    obtain ⟨e, rfl⟩ := pu_inv e
    obtain ⟨b, rfl⟩ := din_bl e
    obtain ⟨ad, o, rfl, g1, g2⟩ := din_ok (v := v2) r2.w (q1.up x2) q2 e
    refine ⟨ad, o, rfl, g1, ?_⟩
    rw [g2]
    exact k _ H2 p2 F2 .refl r2 (.bl _)
theorem sc_dnotin (hu : X.A.units + 1 < cLine) (ha : SE W X a ma) (hb : SE W X b mb) : SC W X .NotIn a b (e2 (pu gDNotIn) ma mb) :=
  SC.of (pc_dnotin hu ha.pe hb.pe) fun Z ph F s sg H Q r bd h => by
    refine tE_bnd kdE r h fun d1 s1 v1 H1 p1 F1 x1 r1 q1 b1 h1 => ?_
    refine tE_bnd kdE r1 (h1.up x1) fun d2 s2 v2 H2 p2 F2 x2 r2 q2 b2 h2 => ?_
    obtain ⟨d, s', e, k⟩ := opt_res (h2.up x2)
    obtain ⟨e, rfl⟩ := pu_inv e
    obtain ⟨b, e3, rfl⟩ := dnot_of e
    obtain ⟨ad, o, rfl, g1, g2⟩ := din_ok (v := v2) r2.w (q1.up x2) q2 e3
    refine ⟨ad, o, rfl, g1, ?_⟩
    rw [g2]
    exact k _ H2 p2 F2 .refl r2 (.bl _)
def gInAll : S → List D → Option (D × S) := orF (pu gIn) (pu gDIn)
def gNotInAll : S → List D → Option (D × S) := orF (pu gNotIn) (pu gDNotIn)
theorem sc_in (hu : X.A.units + 65 < cLine) (ha : SE W X a ma) (hb : SE W X b mb) : SC W X .In a b (e2 gInAll ma mb) :=
  (sc_R (op_inA hu) okIn ha hb).alt (sc_din (by omega) ha hb) (e2_or _ _ _ _)
theorem sc_notin (hu : X.A.units + 65 < cLine) (ha : SE W X a ma) (hb : SE W X b mb) : SC W X .NotIn a b (e2 gNotInAll ma mb) :=
  (sc_R (op_notInA hu) okNotIn ha hb).alt (sc_dnotin (by omega) ha hb) (e2_or _ _ _ _)
end
end LW
namespace LW
open PySem PySem.Spec L2
open PyProof.Rows (envOfC)

/-- the built-in names are nobody else's -/
structure Gz (mg : Str → Option Value) : Prop where
  zlen : mg "len" = none
  zrange : mg "range" = none
  zmin : mg "min" = none
  zmax : mg "max" = none
  zrepr : mg "repr" = none
  ztuple : mg "tuple" = none
  zlist : mg "list" = none
  zdict : mg "dict" = none
  zsorted : mg "sorted" = none
  zany : mg "any" = none
  zall : mg "all" = none
  zsum : mg "sum" = none
  zabs : mg "abs" = none
  zint : mg "int" = none
  zstr : mg "str" = none
  zisinstance : mg "isinstance" = none
  zenumerate : mg "enumerate" = none
  zzip : mg "zip" = none
  zset : mg "set" = none
  zbool : mg "bool" = none
  ztype : mg "type" = none
  zValueError : mg "ValueError" = none
/-- where a body stands -/
structure Ct (k : Nat) (X : Cx) : Prop where
  room : Room k X.A
  gd : X.A.guards = some []
  cm : X.calm = true
  nd : X.N.Nodup
  gz : Gz X.mg
theorem Ct.b {k : Nat} {X : Cx} (C : Ct k X) {s : Shared} {H : Hp} {scope : Scope} {env : Env} {fp : List Addr} : Ct k (X.blk s H scope env fp) := ⟨C.room, C.gd, C.cm, C.nd, C.gz⟩
theorem Ct.u1 {k : Nat} {X : Cx} (C : Ct k X) : X.A.units + 1 < cLine := by have := C.room.un; omega
theorem Ct.u0 {k : Nat} {X : Cx} (C : Ct k X) : X.A.units < cLine := by have := C.room.un; omega
theorem Ct.u64 {k : Nat} {X : Cx} (C : Ct k X) : X.A.units + 64 < cLine := by have := C.room.un; omega
theorem Ct.u65 {k : Nat} {X : Cx} (C : Ct k X) : X.A.units + 65 < cLine := by have := C.room.un; omega
/-- a def that may be called -/
structure Cal (P : Program) (w : World) (K : PySem.W.Frag) (mg : Str → Option Value) (base : Heap) (k : Nat) (x : Str) (n : Nat) (fn : Fn) : Prop where
  ex : ∃ (f : Addr) (fd : FuncData) (ps : List Str), FnG P w K mg base k f fd ps (spF K mg n fn) ∧ mg x = some (.ref f) ∧ PySem.W.keepIn K (.ref f) = true ∧ Binds K fd ps []
section
variable {P : Program} {w : World} {K : PySem.W.Frag} {mg : Str → Option Value} {base : Heap} {j k n : Nat} {x : Str} {fn fn' : Fn} {f : Addr} {fd : FuncData} {ps : List Str} {st : Stmt}
theorem cal_mk (g : FnG P w K mg base k f fd ps (spF K mg n fn)) (F : Fun K x x st f fd) (hm : mg x = some (.ref f)) (b : Binds K fd ps []) : Cal P w K mg base k x n (trF fn) := ⟨⟨f, fd, ps, g.tr, hm, F.kp, b⟩⟩
theorem Cal.to (c : Cal P w K mg base k x n fn) (h : ∀ ds sto, ds.length = n → fn' ds sto ≠ .bad → fn ds sto = fn' ds sto) : Cal P w K mg base k x n fn' := by
  obtain ⟨f, fd, ps, g, m, kp, b⟩ := c.ex
  exact ⟨⟨f, fd, ps, g.to h, m, kp, b⟩⟩
end
structure Df (K : PySem.W.Frag) (mg : Str → Option Value) (x : Str) (st : Stmt) (ps : List Str) (f : Addr) (fd : FuncData) : Prop where
  F : Fun K x x st f fd
  m : mg x = some (.ref f)
  b : Binds K fd ps []
def LenOk (m : M (List D)) (n : Nat) : Prop := ∀ s ds s', m s = .ok ds s' → ds.length = n
theorem lenN : LenOk (ret []) 0 := fun s ds s' h => by cases h; rfl
theorem lenC {ma : M D} {mr : M (List D)} {n : Nat} (h : LenOk mr n) : LenOk (eCons ma mr) (n + 1) := fun s ds s' e => by
  unfold eCons bnd at e
  cases e1 : ma s with
  | ok d s1 =>
    rw [e1] at e
    simp only at e
    cases e2 : mr s1 with
    | ok ds2 s2 =>
      rw [e2] at e
      cases e
      rw [List.length_cons, h _ _ _ e2]
    | exc _ _ => rw [e2] at e; cases e
    | bad => rw [e2] at e; cases e
  | exc _ _ => rw [e1] at e; cases e
  | bad => rw [e1] at e; cases e
section
variable {X : Cx} {W : WX} {x : Str} {p pos apos : Pos} {e o : Expr} {es : List Expr} {ma : M (List D)} {mo : M D} {j k n : Nat} {fn : Fn}
theorem x_call (C : Ct k X) (tk : Takes X W) (c : Cal X.prog X.w X.K X.mg X.base j x n fn) (hj : j ≤ k) (hg : Gl X x) (ha : SA W X (e :: es) ma) (hn : es.length + 1 = n) (hl : LenOk ma n) (hdb : (x == ("__debug__" : Str)) = false := by decide)
    (he : starEach (e :: es) X.env = (false, eval e X.env) :: starEach es X.env := by rfl) (hpl : (backTo pos (starEach es X.env)).any (·.1) = false := by rfl) : SR W X (.Call (.Name x p) (e :: es) [] pos) (rCall fn ma) := by
  subst hn
  obtain ⟨f, fd, ps, g, m, kp, b⟩ := c.ex
  exact sr_call tk g (C.room.mono hj) C.gd hg m kp b ha hl hdb he hpl
theorem x_len (C : Ct k X) (hg : Gl X "len") (ha : SA W X (e :: es) ma) (he : starEach (e :: es) X.env = (false, eval e X.env) :: starEach es X.env := by rfl) (hpl : (backTo pos (starEach es X.env)).any (·.1) = false := by rfl) :
    SE W X (.Call (.Name "len" p) (e :: es) [] pos) (eN (pu gLen) ma) := se_callB call_lenA okLen hg C.gz.zlen PySem.boot_len ha (by decide) (by decide) he hpl
theorem x_min (C : Ct k X) (hg : Gl X "min") (ha : SA W X (e :: es) ma) (he : starEach (e :: es) X.env = (false, eval e X.env) :: starEach es X.env := by rfl) (hpl : (backTo pos (starEach es X.env)).any (·.1) = false := by rfl) :
    SE W X (.Call (.Name "min" p) (e :: es) [] pos) (eN (pu gMin) ma) := se_callB (call_minA C.cm C.u64) okMin hg C.gz.zmin PyProof.Rows.boot_min ha (by decide) (by decide) he hpl
theorem x_max (C : Ct k X) (hg : Gl X "max") (ha : SA W X (e :: es) ma) (he : starEach (e :: es) X.env = (false, eval e X.env) :: starEach es X.env := by rfl) (hpl : (backTo pos (starEach es X.env)).any (·.1) = false := by rfl) :
    SE W X (.Call (.Name "max" p) (e :: es) [] pos) (eN (pu gMax) ma) := se_callB (call_maxA C.cm C.u64) okMax hg C.gz.zmax PyProof.Rows.boot_max ha (by decide) (by decide) he hpl
theorem x_repr (C : Ct k X) (hg : Gl X "repr") (ha : SA W X (e :: es) ma) (he : starEach (e :: es) X.env = (false, eval e X.env) :: starEach es X.env := by rfl) (hpl : (backTo pos (starEach es X.env)).any (·.1) = false := by rfl) :
    SE W X (.Call (.Name "repr" p) (e :: es) [] pos) (eN (pu gRepr) ma) := se_callB (call_reprD C.gd C.u64) okRepr hg C.gz.zrepr PyProof.Rows.boot_repr ha (by decide) (by decide) he hpl
theorem x_any (C : Ct k X) (hg : Gl X "any") (ha : SA W X (e :: es) ma) (he : starEach (e :: es) X.env = (false, eval e X.env) :: starEach es X.env := by rfl) (hpl : (backTo pos (starEach es X.env)).any (·.1) = false := by rfl) :
    SE W X (.Call (.Name "any" p) (e :: es) [] pos) (eN (pu gAny) ma) := se_callB (cr_any C.cm) okAny hg C.gz.zany PyProof.Rows.boot_any ha (by decide) (by decide) he hpl
theorem x_all (C : Ct k X) (hg : Gl X "all") (ha : SA W X (e :: es) ma) (he : starEach (e :: es) X.env = (false, eval e X.env) :: starEach es X.env := by rfl) (hpl : (backTo pos (starEach es X.env)).any (·.1) = false := by rfl) :
    SE W X (.Call (.Name "all" p) (e :: es) [] pos) (eN (pu gAll) ma) := se_callB (cr_all C.cm) okAll hg C.gz.zall PyProof.Rows.boot_all ha (by decide) (by decide) he hpl
theorem x_sum (C : Ct k X) (hg : Gl X "sum") (ha : SA W X (e :: es) ma) (he : starEach (e :: es) X.env = (false, eval e X.env) :: starEach es X.env := by rfl) (hpl : (backTo pos (starEach es X.env)).any (·.1) = false := by rfl) :
    SE W X (.Call (.Name "sum" p) (e :: es) [] pos) (eN (pu gSum) ma) := se_callB (cr_sum C.cm) okSum hg C.gz.zsum PyProof.Rows.boot_sum ha (by decide) (by decide) he hpl
theorem x_abs (C : Ct k X) (hg : Gl X "abs") (ha : SA W X (e :: es) ma) (he : starEach (e :: es) X.env = (false, eval e X.env) :: starEach es X.env := by rfl) (hpl : (backTo pos (starEach es X.env)).any (·.1) = false := by rfl) :
    SE W X (.Call (.Name "abs" p) (e :: es) [] pos) (eN (pu gAbs) ma) := se_callB call_abs okAbs hg C.gz.zabs PyProof.Rows.boot_abs ha (by decide) (by decide) he hpl
theorem x_int (C : Ct k X) (hg : Gl X "int") (ha : SA W X (e :: es) ma) (he : starEach (e :: es) X.env = (false, eval e X.env) :: starEach es X.env := by rfl) (hpl : (backTo pos (starEach es X.env)).any (·.1) = false := by rfl) :
    SE W X (.Call (.Name "int" p) (e :: es) [] pos) (eN (pu gInt) ma) := se_callTy call_int1 okInt hg C.gz.zint PyProof.Rows.boot_int ha (by decide) (by decide) he hpl
theorem x_tuple (C : Ct k X) (hg : Gl X "tuple") (ha : SA W X (e :: es) ma) (he : starEach (e :: es) X.env = (false, eval e X.env) :: starEach es X.env := by rfl) (hpl : (backTo pos (starEach es X.env)).any (·.1) = false := by rfl) :
    SE W X (.Call (.Name "tuple" p) (e :: es) [] pos) (eN (pu gTuple) ma) := se_callTy call_tuple_of okTuple hg C.gz.ztuple PyProof.Rows.boot_tuple ha (by decide) (by decide) he hpl
theorem x_list (C : Ct k X) (hg : Gl X "list") (ha : SA W X (e :: es) ma) (he : starEach (e :: es) X.env = (false, eval e X.env) :: starEach es X.env := by rfl) (hpl : (backTo pos (starEach es X.env)).any (·.1) = false := by rfl) :
    SR W X (.Call (.Name "list" p) (e :: es) [] pos) (rN (puR gList) ma) := sr_callTy call_list_of okList hg C.gz.zlist PyProof.Rows.boot_list ha (by decide) (by decide) he hpl
theorem x_dict (C : Ct k X) (hg : Gl X "dict") (ha : SA W X (e :: es) ma) (he : starEach (e :: es) X.env = (false, eval e X.env) :: starEach es X.env := by rfl) (hpl : (backTo pos (starEach es X.env)).any (·.1) = false := by rfl) :
    SR W X (.Call (.Name "dict" p) (e :: es) [] pos) (rN (puR gDict) ma) := sr_callTy (call_dictP C.cm) okDict hg C.gz.zdict PyProof.Rows.boot_dict ha (by decide) (by decide) he hpl
theorem x_sorted (C : Ct k X) (hg : Gl X "sorted") (ha : SA W X (e :: es) ma) (he : starEach (e :: es) X.env = (false, eval e X.env) :: starEach es X.env := by rfl) (hpl : (backTo pos (starEach es X.env)).any (·.1) = false := by rfl) :
    SR W X (.Call (.Name "sorted" p) (e :: es) [] pos) (rN (puR gSorted) ma) := sr_callB (call_sortedB C.u64) okSorted hg C.gz.zsorted PyProof.Rows.boot_sorted ha (by decide) (by decide) he hpl
theorem x_append (ho : SE W X o mo) (ha : SA W X (e :: es) ma)
    (hbase : attributeBase o "append" X.env (eval o X.env) = eval o X.env := by rfl)
    (hfew : ((backTo pos (starEach (e :: es) X.env)).all (fun x => !x.1) && (backToKw pos (keywordEach [] X.env)).all (fun x => x.1.isSome)
      && decide ((e :: es).length + ([] : List Keyword).length + (if ([] : List Keyword).isEmpty then 0 else 1) < 30)) = true := by rfl)
    (hline : (apos.endLine == pos.line) = true := by rfl) (hs : starEach (e :: es) X.env = (false, eval e X.env) :: starEach es X.env := by rfl) (hplain : (backTo pos (starEach es X.env)).any (·.1) = false := by rfl) :
    SE W X (.Call (.Attribute o "append" apos) (e :: es) [] pos) (eMtL (mUpd gApp) mo ma) := se_mtL PySem.F.slot_list_append PySem.F.type_list_append mt_append okApp ho ha hbase hfew hline hs hplain
theorem x_extend (ho : SE W X o mo) (ha : SA W X (e :: es) ma)
    (hbase : attributeBase o "extend" X.env (eval o X.env) = eval o X.env := by rfl)
    (hfew : ((backTo pos (starEach (e :: es) X.env)).all (fun x => !x.1) && (backToKw pos (keywordEach [] X.env)).all (fun x => x.1.isSome)
      && decide ((e :: es).length + ([] : List Keyword).length + (if ([] : List Keyword).isEmpty then 0 else 1) < 30)) = true := by rfl)
    (hline : (apos.endLine == pos.line) = true := by rfl) (hs : starEach (e :: es) X.env = (false, eval e X.env) :: starEach es X.env := by rfl) (hplain : (backTo pos (starEach es X.env)).any (·.1) = false := by rfl) :
    SE W X (.Call (.Attribute o "extend" apos) (e :: es) [] pos) (eMtL (mUpd gExt) mo ma) := se_mtL PySem.F.slot_list_extend PySem.F.type_list_extend mt_extend okExt ho ha hbase hfew hline hs hplain
theorem x_popAt (ho : SE W X o mo) (ha : SA W X (e :: es) ma)
    (hbase : attributeBase o "pop" X.env (eval o X.env) = eval o X.env := by rfl)
    (hfew : ((backTo pos (starEach (e :: es) X.env)).all (fun x => !x.1) && (backToKw pos (keywordEach [] X.env)).all (fun x => x.1.isSome)
      && decide ((e :: es).length + ([] : List Keyword).length + (if ([] : List Keyword).isEmpty then 0 else 1) < 30)) = true := by rfl)
    (hline : (apos.endLine == pos.line) = true := by rfl) (hs : starEach (e :: es) X.env = (false, eval e X.env) :: starEach es X.env := by rfl) (hplain : (backTo pos (starEach es X.env)).any (·.1) = false := by rfl) :
    SE W X (.Call (.Attribute o "pop" apos) (e :: es) [] pos) (eMtL (mUpd gPopAt) mo ma) := se_mtL PySem.F.slot_list_pop PySem.F.type_list_pop mt_popAt okPopAt ho ha hbase hfew hline hs hplain
theorem x_index (C : Ct k X) (ho : SE W X o mo) (ha : SA W X (e :: es) ma)
    (hbase : attributeBase o "index" X.env (eval o X.env) = eval o X.env := by rfl)
    (hfew : ((backTo pos (starEach (e :: es) X.env)).all (fun x => !x.1) && (backToKw pos (keywordEach [] X.env)).all (fun x => x.1.isSome)
      && decide ((e :: es).length + ([] : List Keyword).length + (if ([] : List Keyword).isEmpty then 0 else 1) < 30)) = true := by rfl)
    (hline : (apos.endLine == pos.line) = true := by rfl) (hs : starEach (e :: es) X.env = (false, eval e X.env) :: starEach es X.env := by rfl) (hplain : (backTo pos (starEach es X.env)).any (·.1) = false := by rfl) :
    SE W X (.Call (.Attribute o "index" apos) (e :: es) [] pos) (eMtL (pu gIndex) mo ma) := se_mtL PySem.F.slot_list_index PySem.F.type_list_index (mt_indexD C.u65) okIndex ho ha hbase hfew hline hs hplain
theorem x_pop (ho : SE W X o mo) (hbase : attributeBase o "pop" X.env (eval o X.env) = eval o X.env := by rfl) (hline : (apos.endLine == pos.line) = true := by rfl) :
    SE W X (.Call (.Attribute o "pop" apos) [] [] pos) (eMtL0 (mUpd gPop) mo) := se_mtL0 PySem.F.slot_list_pop PySem.F.type_list_pop mt_pop okPop ho hbase hline
theorem x_reverse (ho : SE W X o mo) (hbase : attributeBase o "reverse" X.env (eval o X.env) = eval o X.env := by rfl) (hline : (apos.endLine == pos.line) = true := by rfl) :
    SE W X (.Call (.Attribute o "reverse" apos) [] [] pos) (eMtL0 (mUpd gRvs) mo) := se_mtL0 PySem.F.slot_list_reverse PySem.F.type_list_reverse mt_reverse okRvs ho hbase hline
end
end LW
namespace LW
open PySem PySem.Spec L2
open PyProof.Rows (envOfC)

/-! a result as it is: data, or a new cell -/
def bd (m : M Rs) : M D := bnd m fun r => match r with
  | .d d => ret d
  | .c c => fun s => .ok (.loc s.sto.length) ⟨s.env, s.sto ++ [c]⟩
theorem SR.bd {X : Cx} {W : WX} {e : Expr} {m : M Rs} (h : SR W X e m) : SE W X e (bd m) :=
  SE.of h.pe fun Z ph F s sg H Q r _ q => by
    refine ⟨_, ph, F, s, r, ?_⟩
    unfold LW.bd bnd at q
    cases g : m s with
    | bad => rw [g] at q; exact q
    | exc x s' => rw [g] at q; exact q
    | ok y s' =>
      rw [g] at q
      cases y with
      | d d => exact fun v H' p F' x r' w b _ => q v H' p F' x r' w b
      | c c =>
        intro a H' p F' x r' w b _
        obtain ⟨w2, d2⟩ := w.box r'.w
        exact q (.ref a) H' (p ++ [a]) F' (x.trans extP) ⟨w2, r'.e.up extP⟩ d2 b
theorem x_str {X : Cx} {W : WX} {k : Nat} {p pos : Pos} {e : Expr} {es : List Expr} {ma : M (List D)} (C : Ct k X) (hg : Gl X "str") (ha : SA W X (e :: es) ma) (he : starEach (e :: es) X.env = (false, eval e X.env) :: starEach es X.env := by rfl) (hpl : (backTo pos (starEach es X.env)).any (·.1) = false := by rfl) :
    SE W X (.Call (.Name "str" p) (e :: es) [] pos) (eN (pu gStrI) ma) := se_callTy call_str_int okStrI hg C.gz.zstr PyProof.Rows.boot_str ha (by decide) (by decide) he hpl

/-! evaluation: a comprehension, a loop -/
theorem compL_ok {t : Tg} {env0 : List (Option D)} {tt : M Bool} {te : M D} {sto : List Cell} {p : D → Bool} {g : D → D} : ∀ {ds acc : List D},
    (∀ d ∈ ds, ∃ env', asg t d env0 = some env' ∧ ∃ env1, tt ⟨env', sto⟩ = .ok (p d) ⟨env1, sto⟩ ∧ (p d = true → ∃ env2, te ⟨env1, sto⟩ = .ok (g d) ⟨env2, sto⟩)) →
    compL t env0 tt te ds acc ⟨env0, sto⟩ = .ok (acc ++ (ds.filter p).map g) ⟨env0, sto⟩
  | [], acc, _ => by simp [compL]
  | d :: ds, acc, h => by
    obtain ⟨env', h1, env1, h2, h3⟩ := h d List.mem_cons_self
    have hr : ∀ d ∈ ds, _ := fun d hd => h d (List.mem_cons_of_mem _ hd)
    unfold compL
    rw [h1]
    simp only
    rw [h2]
    by_cases q : p d = true
    · obtain ⟨env2, h4⟩ := h3 q
      simp only [q]
      rw [h4]
      simp only
      rw [compL_ok hr]
      simp [q]
    · simp only [q]
      rw [compL_ok hr]
      simp [q]
theorem cItems_ok {t : Tg} {own : List Nat} {mi : M (List D)} {tt : M Bool} {te : M D} {s : S} {ds : List D} {env1 : List (Option D)} {sto : List Cell} {p : D → Bool} {g : D → D} (hi : mi s = .ok ds ⟨env1, sto⟩)
    (h : ∀ d ∈ ds, ∃ env', asg t d (wipeE env1 own) = some env' ∧ ∃ env1, tt ⟨env', sto⟩ = .ok (p d) ⟨env1, sto⟩ ∧ (p d = true → ∃ env2, te ⟨env1, sto⟩ = .ok (g d) ⟨env2, sto⟩)) :
    cItems t own mi tt te s = .ok ((ds.filter p).map g) ⟨env1, sto⟩ := by
  unfold cItems
  rw [hi]
  simp only
  rw [compL_ok h]
  simp
theorem rLc_ok {t : Tg} {own : List Nat} {mi : M (List D)} {tt : M Bool} {te : M D} {s : S} {ds : List D} {env1 : List (Option D)} {sto : List Cell} {p : D → Bool} {g : D → D} (hi : mi s = .ok ds ⟨env1, sto⟩)
    (h : ∀ d ∈ ds, ∃ env', asg t d (wipeE env1 own) = some env' ∧ ∃ env1, tt ⟨env', sto⟩ = .ok (p d) ⟨env1, sto⟩ ∧ (p d = true → ∃ env2, te ⟨env1, sto⟩ = .ok (g d) ⟨env2, sto⟩)) :
    rLc t own mi tt te s = .ok (.c (.lst ((ds.filter p).map g))) ⟨env1, sto⟩ := by
  unfold rLc bnd
  rw [cItems_ok hi h]
  rfl
/-- a loop by an invariant that tells the state -/
theorem sForL_ok {α : Type} {t : Tg} {body : MS} (enc : α → D) (I : List α → S → Prop) : ∀ (xs : List α) (done : List α) (s : S), I done s →
    (∀ done x s, I done s → x ∈ xs → ∃ env', asg t (enc x) s.env = some env' ∧ ∃ s', body ⟨env', s.sto⟩ = .nx s' ∧ I (done ++ [x]) s') →
    ∃ s', sForL t body (xs.map enc) s = .nx s' ∧ I (done ++ xs) s'
  | [], done, s, h, _ => ⟨s, rfl, by simpa using h⟩
  | x :: xs, done, s, h, hb => by
    obtain ⟨env', h1, s', h2, h3⟩ := hb done x s h List.mem_cons_self
    obtain ⟨s2, h4, h5⟩ := sForL_ok enc I xs (done ++ [x]) s' h3 fun d y s hd hy => hb d y s hd (List.mem_cons_of_mem _ hy)
    refine ⟨s2, ?_, by simpa using h5⟩
    rw [List.map_cons]
    unfold sForL
    rw [h1]
    simp only
    rw [h2]
    exact h4
end LW
namespace LW
open PySem PySem.Spec L2
open PyProof.Rows (envOfC)

section
variable {X : Cx} {W : WX} {k : Nat} {pos p p2 pos2 apos : Pos} {a b e o : Expr} {ma mb mo : M D}
theorem x_dK : SR W X (.Dict [] [] pos) (ret (.c (.dK [] []))) := sr_dK pe_dnewK fun _ _ _ h => h
theorem x_dT : SR W X (.Dict [] [] pos) (ret (.c (.dT [] []))) := sr_dT pe_dnewT fun _ _ _ h => h
/-! list(range(..)) -/
def mkRg (i j : Int) : M Rs := fun s => if -4611686018427387904 ≤ i ∧ i < 4611686018427387904 ∧ -4611686018427387904 ≤ j ∧ j < 4611686018427387904 ∧ j - i ≤ 16777216 then .ok (.c (.lst (rngD (j - i).toNat i))) s else .bad
def rRg1 (m : M D) : M Rs := bnd m fun d => match d with
  | .int j => mkRg 0 j
  | _ => fun _ => .bad
def rRg2 (m n : M D) : M Rs := bnd m fun c => bnd n fun d => match c, d with
  | .int i, .int j => mkRg i j
  | _, _ => fun _ => .bad
theorem drA_rng {K : PySem.W.Frag} {ph : List Addr} {F : Hp} (i j : Int) : DrA K ph F (rgV i j) (rngD (j - i).toNat i) := by
  unfold rgV rngD
  generalize List.range (j - i).toNat = l
  induction l with
  | nil => exact .nil
  | cons x l ih => exact .cons (.int _) ih
theorem mkRg_ok {Z : En} {ph : List Addr} {F : Hp} {s : S} {sg : L2.St} {H : Hp} {Q : V → Hp → Prop} {i j : Int} (r : Rel X.K X.mg Z ph F s sg H) (h : ResR X.K X.mg Z W sg (mkRg i j s) ph F Q) :
    RgOk i j ∧ ∀ q, H q = none → (Bd X.K (upd H q (.lst (rgV i j))) → Q (.ref q) (upd H q (.lst (rgV i j)))) := by
  unfold mkRg at h
  split at h
  · rename_i q
    refine ⟨⟨by omega, by omega, by omega, by omega, by omega⟩, fun p hp b => ?_⟩
    obtain ⟨hF, hZ, hph⟩ := r.w.fresh hp
    exact h p _ ph F .refl (r.new hp) ⟨hF, hph, hZ, ⟨hF, _, upd_same, drA_rng i j⟩, by intro z; cases z⟩ b
  · exact h.elim
theorem x_lrg1 (C : Ct k X) (hg : Gl X "list") (hg2 : Gl X "range") (ha : SE W X a ma) (na : starEach [a] X.env = (false, eval a X.env) :: starEach [] X.env := by rfl)
    (nb : starEach [Expr.Call (.Name "range" p2) [a] [] pos2] X.env = (false, eval (.Call (.Name "range" p2) [a] [] pos2) X.env) :: starEach [] X.env := by rfl) :
    SR W X (.Call (.Name "list" p) [.Call (.Name "range" p2) [a] [] pos2] [] pos) (rRg1 ma) :=
  SR.of (pe_listRg C.cm hg C.gz.zlist (prg_1 hg2 C.gz.zrange ha.pe na) nb) fun Z ph F s sg H Q r bd h => by
    refine tE_bnd kdR r h fun d1 s1 v1 H1 p1 F1 x1 r1 q1 b1 h1 => ?_
    cases d1 with
    | int j => cases q1; exact ⟨j, rfl, mkRg_ok r1 (h1.up x1)⟩
    | _ => exact h1.elim
theorem x_lrg2 (C : Ct k X) (hg : Gl X "list") (hg2 : Gl X "range") (ha : SE W X a ma) (hb : SE W X b mb) (na : starEach [a, b] X.env = (false, eval a X.env) :: starEach [b] X.env := by rfl)
    (nb : starEach [b] X.env = (false, eval b X.env) :: starEach [] X.env := by rfl) (hp : (backTo pos2 (starEach [b] X.env)).any (·.1) = false := by rfl)
    (nc : starEach [Expr.Call (.Name "range" p2) [a, b] [] pos2] X.env = (false, eval (.Call (.Name "range" p2) [a, b] [] pos2) X.env) :: starEach [] X.env := by rfl) :
    SR W X (.Call (.Name "list" p) [.Call (.Name "range" p2) [a, b] [] pos2] [] pos) (rRg2 ma mb) :=
  SR.of (pe_listRg C.cm hg C.gz.zlist (prg_2 hg2 C.gz.zrange ha.pe hb.pe na nb hp) nc) fun Z ph F s sg H Q r bd h => by
    refine tE_bnd kdR r h fun d1 s1 v1 H1 p1 F1 x1 r1 q1 b1 h1 => ?_
    refine tE_bnd kdR r1 (h1.up x1) fun d2 s2 v2 H2 p2 F2 x2 r2 q2 b2 h2 => ?_
    cases d1 with
    | int i =>
      cases d2 with
      | int j => cases q1; cases q2; exact ⟨i, j, rfl, rfl, mkRg_ok r2 (h2.up x2)⟩
      | _ => exact h2.elim
    | _ => cases d2 <;> exact h2.elim
/-! d.get(k) -/
def isDc : D → Bool
  | .dK _ _ => true
  | .dT _ _ => true
  | _ => false
def gGet (_ : List Cell) : List D → Option D
  | [.dK ks ds, y] => (keyOf y).map fun k => (luK ks ds k).getD .non
  | [.dT ks ds, .tup y] => (keysOf y).map fun k => (luK ks ds k).getD .non
  | _ => none
def eGet (mo ma : M D) : M D := bnd mo fun d s => if isDc (drf s.sto d) = true then bnd ma (fun x s => opt (α := D) (pu gGet s [d, x])) s else .bad
theorem isD_ok {K : PySem.W.Frag} {mg : Str → Option Value} {Z : En} {ph : List Addr} {F H : Hp} {sto : List Cell} (w : Wd K mg Z ph F sto H) {v : V} {d : D} (h : Dr K ph F v d) (e : isDc (drf sto d) = true) : ∃ a, v = .ref a ∧ IsD H a := by
  cases q : drf sto d with
  | dK ks ds => obtain ⟨a, kvs, rfl, g, _⟩ := rd_dK w h q; exact ⟨a, rfl, .inl ⟨_, .inl g⟩⟩
  | dT ks ds => obtain ⟨a, kvs, rfl, g, _⟩ := rd_dT w h q; exact ⟨a, rfl, .inr ⟨_, .inl g⟩⟩
  | _ => rw [q] at e; cases e
theorem x_get (C : Ct k X) (ho : SE W X o mo) (ha : SE W X e ma) (hb : attributeBase o "get" X.env (eval o X.env) = eval o X.env := by rfl)
    (hf : ((backTo pos (starEach [e] X.env)).all (fun x => !x.1) && (backToKw pos (keywordEach [] X.env)).all (fun x => x.1.isSome)
      && decide (([e] : List Expr).length + ([] : List Keyword).length + (if ([] : List Keyword).isEmpty then 0 else 1) < 30)) = true := by rfl)
    (hl : (apos.endLine == pos.line) = true := by rfl) (ht : backTo pos (starEach [e] X.env) = [(false, eval e X.env)] := by rfl) : SE W X (.Call (.Attribute o "get" apos) [e] [] pos) (eGet mo ma) :=
  SE.of (pe_dget1 C.u1 ho.pe ha.pe ⟨hb, hf, hl, ht⟩) fun Z ph F s sg H Q r bd h => by
    refine tE_bnd kdE r h fun d1 s1 v1 H1 p1 F1 x1 r1 q1 b1 h1 => ?_
    by_cases hd : isDc (drf s1.sto d1) = true
    · rw [if_pos hd] at h1
      obtain ⟨ad, rfl, isd⟩ := isD_ok r1.w q1 hd
      refine ⟨ad, rfl, isd, ?_⟩
      refine tE_bnd kdE r1 (h1.up x1) fun d2 s2 v2 H2 p2 F2 x2 r2 q2 b2 h2 => ?_
      obtain ⟨d, s', e, k⟩ := opt_res (h2.up x2)
      obtain ⟨e, rfl⟩ := pu_inv e
      have dg := dget_ok r2.w (q1.up x2) q2
      simp only [List.map_cons, List.map_nil] at e
      have fin : ∀ (lu : Option D) (ad2 : Addr) (ov : Option V), V.ref ad = V.ref ad2 → DGet H2 ad2 v2 ov → (∀ d, lu = some d → ∃ u, ov = some u ∧ Dr X.K p2 F2 u d) → (lu = none → ov = none) → d = lu.getD .non →
          ∃ o, DGet H2 ad v2 o ∧ (Bd X.K H2 → Q (o.getD .non) H2) := by
        intro lu ad2 ov e1 g1 g2 g3 hd
        cases e1
        refine ⟨ov, g1, fun b => ?_⟩
        cases lu with
        | none =>
          rw [g3 rfl]
          subst hd
          exact k .non H2 p2 F2 .refl r2 .non b
        | some d' =>
          obtain ⟨u, rfl, g⟩ := g2 d' rfl
          subst hd
          exact k u H2 p2 F2 .refl r2 g b
      cases qa : drf s'.sto d1 with
      | dK ks ds =>
        rw [qa] at e
        cases qk : keyOf (drf s'.sto d2) with
        | none => simp only [gGet, qk] at e; cases e
        | some k' =>
          simp only [gGet, qk, Option.map_some, Option.some.injEq] at e
          obtain ⟨ad2, ov, e1, g1, g2, g3⟩ := dg.1 ks ds k' qa qk
          exact fin _ ad2 ov e1 g1 g2 g3 e.symm
      | dT ks ds =>
        rw [qa] at e
        cases qb : drf s'.sto d2 with
        | tup es =>
          rw [qb] at e
          cases qk : keysOf es with
          | none => simp only [gGet, qk] at e; cases e
          | some k' =>
            simp only [gGet, qk, Option.map_some, Option.some.injEq] at e
            obtain ⟨ad2, ov, e1, g1, g2, g3⟩ := dg.2 ks ds es k' qa qb qk
            exact fin _ ad2 ov e1 g1 g2 g3 e.symm
        | _ => rw [qb] at e; simp only [gGet] at e; cases e
      | _ => rw [qa] at e; simp only [gGet] at e; cases e
    · rw [if_neg hd] at h1; exact h1.elim
end

/-! rows that were changed are let go -/
def frzAll : List D → List Cell → Option (List D × List Cell)
  | [], st => some ([], st)
  | .loc n :: r, st => match st[n]? with
    | some c => (match frz c with
      | some d => (frzAll r (st.set n .dead)).map fun p => (d :: p.1, p.2)
      | none => none)
    | none => none
  | _ :: _, _ => none
def sFrzR (i : Nat) : MS := fun s => match s.env[i]? with
  | some (some (.lst ds)) => (match frzAll ds s.sto with
    | some p => .nx ⟨s.env.set i (some (.lst p.1)), p.2⟩
    | none => .bad)
  | _ => .bad
theorem frzAll_ok {K : PySem.W.Frag} {mg : Str → Option Value} {Z : En} {ph : List Addr} {H : Hp} : ∀ {ds : List D} {F : Hp} {sto : List Cell} {vs : List V} {p : List D × List Cell}, Wd K mg Z ph F sto H → DrA K ph F vs ds → frzAll ds sto = some p →
    ∃ F', Ext ph F ph F' ∧ Wd K mg Z ph F' p.2 H ∧ DrA K ph F' vs p.1
  | [], F, sto, vs, p, w, q, e => by cases e; cases q; exact ⟨F, .refl, w, .nil⟩
  | d :: r, F, sto, vs, p, w, q, e => by
    cases d with
    | loc n =>
      cases q with
      | cons q1 q2 =>
        cases q1 with
        | loc h1 =>
          unfold frzAll at e
          cases hc : sto[n]? with
          | none => rw [hc] at e; cases e
          | some c =>
            rw [hc] at e
            simp only at e
            cases hf : frz c with
            | none => rw [hf] at e; cases e
            | some d' =>
              rw [hf] at e
              simp only at e
              obtain ⟨F1, x1, w1, dr⟩ := w.kill hc h1 hf
              cases hr : frzAll r (sto.set n .dead) with
              | none => rw [hr] at e; cases e
              | some p' =>
                rw [hr] at e
                cases e
                obtain ⟨F2, x2, w2, dr2⟩ := frzAll_ok w1 (q2.up x1) hr
                exact ⟨F2, x1.trans x2, w2, .cons (dr.up x2) dr2⟩
    | _ => cases e
theorem sb_frzR {X : Cx} {W : WX} {sts : List Stmt} {m : MS} (i : Nat) (h : SB W X sts m) : SB W X sts (seq (sFrzR i) m) :=
  SB.of h.ps fun Z ph F s sg H E r bd q => by
    unfold seq sFrzR at q
    cases e : s.env[i]? with
    | none => rw [e] at q; exact q.elim
    | some o =>
      rw [e] at q
      cases o with
      | none => exact q.elim
      | some d =>
        cases d with
        | lst ds =>
          simp only at q
          cases e2 : frzAll ds s.sto with
          | none => rw [e2] at q; exact q.elim
          | some p =>
            rw [e2] at q
            simp only at q
            obtain ⟨v, h1, h2⟩ := r.e.2 i _ e
            cases h2 with
            | @lst a xs _ h3 h4 =>
              obtain ⟨F', x, w2, dr⟩ := frzAll_ok r.w h4 e2
              refine ⟨Z, ph, F', ⟨s.env.set i (some (.lst p.1)), p.2⟩, ⟨w2, ⟨by rw [List.length_set]; exact r.e.1, fun j d' hj => ?_⟩⟩, (ResS.up q x).bd⟩
              by_cases hij : i = j
              · subst hij
                have hl := (List.getElem?_eq_some_iff.mp e).1
                rw [List.getElem?_set_self hl] at hj
                cases hj
                exact ⟨_, h1, .lst (x.f _ _ h3) dr⟩
              · rw [List.getElem?_set_ne hij] at hj
                obtain ⟨v', g1, g2⟩ := r.e.2 j d' hj
                exact ⟨v', g1, g2.up x⟩
        | _ => exact q.elim
theorem sb_frz {X : Cx} {W : WX} {sts : List Stmt} {m : MS} (i : Nat) (h : SB W X sts m) : SB W X sts (seq (sFrz i) m) :=
  SB.of h.ps fun Z ph F s sg H E r bd q => by
    unfold seq sFrz at q
    cases e : s.env[i]? with
    | none => rw [e] at q; exact q.elim
    | some o =>
      rw [e] at q
      cases o with
      | none => exact q.elim
      | some d =>
        cases d with
        | loc n =>
          simp only at q
          cases e2 : s.sto[n]? with
          | none => rw [e2] at q; exact q.elim
          | some c =>
            rw [e2] at q
            simp only at q
            cases e3 : frz c with
            | none => rw [e3] at q; exact q.elim
            | some d =>
              rw [e3] at q
              simp only at q
              obtain ⟨v, h1, h2⟩ := r.e.2 i _ e
              cases h2 with
              | loc h3 =>
                obtain ⟨F', x, w2, dr⟩ := r.w.kill e2 h3 e3
                refine ⟨Z, ph, F', ⟨s.env.set i (some d), s.sto.set n .dead⟩, ⟨w2, ⟨by rw [List.length_set]; exact r.e.1, fun j d' hj => ?_⟩⟩, (ResS.up q x).bd⟩
                by_cases hij : i = j
                · subst hij
                  have hl := (List.getElem?_eq_some_iff.mp e).1
                  rw [List.getElem?_set_self hl] at hj
                  cases hj
                  exact ⟨_, h1, dr⟩
                · rw [List.getElem?_set_ne hij] at hj
                  obtain ⟨v', g1, g2⟩ := r.e.2 j d' hj
                  exact ⟨v', g1, g2.up x⟩
        | _ => exact q.elim

/-! slots wiped, new cells let go -/
def sWp (vs : List Nat) : MS := fun s => .nx ⟨wipeE s.env vs, s.sto⟩
theorem EnvR.wipe1 {K : PySem.W.Frag} {ph : List Addr} {F : Hp} {env : List (Option D)} {sg : L2.St} (h : EnvR K ph F env sg) : ∀ vs, EnvR K ph F (wipeE env vs) sg
  | [] => h
  | v :: vs => by
    have h' := EnvR.wipe1 h vs
    unfold wipeE
    refine ⟨by rw [List.length_set]; exact h'.1, fun i d q => ?_⟩
    by_cases hi : v = i
    · subst hi
      by_cases hl : v < (wipeE env vs).length
      · rw [List.getElem?_set_self hl] at q; cases q
      · rw [List.getElem?_eq_none (by rw [List.length_set]; omega)] at q; cases q
    · rw [List.getElem?_set_ne hi] at q
      exact h'.2 i d q
theorem sb_wp {X : Cx} {W : WX} {sts : List Stmt} {m : MS} (vs : List Nat) (h : SB W X sts m) : SB W X sts (seq m (sWp vs)) :=
  SB.of h.ps fun Z ph F s sg H E r bd q => by
    refine ⟨Z, ph, F, s, r, ?_⟩
    unfold seq sWp at q
    cases e : m s with
    | bad => rw [e] at q; exact q
    | exc x s' => rw [e] at q; exact q
    | rt d s' => rw [e] at q; exact (ResS.bd q)
    | nx s' =>
      rw [e] at q
      have q2 : ResS X.K X.mg Z W E (.nx s') ph F := fun sg' H' p F' x r' => q sg' H' p F' x ⟨r'.w, r'.e.wipe1 vs⟩
      exact ResS.bd q2
open Classical in
noncomputable def sCutN (st : List Cell) (vs : List Nat) : MS := fun s => if CutOk st s.sto ∧ ∀ d, some d ∈ wipeE s.env vs → bel st.length d = true then .nx ⟨wipeE s.env vs, s.sto.take st.length⟩ else .bad
noncomputable def cutS (vs : List Nat) (m : MS) : MS := fun s => seq m (sCutN s.sto vs) s
theorem sb_cut {X : Cx} {W : WX} {sts : List Stmt} {m : MS} (vs : List Nat) (h : SB W X sts m) : SB W X sts (cutS vs m) :=
  SB.of h.ps fun Z ph F s sg H E r bd q => by
    refine ⟨⟨H, F, ph⟩, ph, F, s, r.base, ?_⟩
    unfold cutS seq at q
    cases e : m s with
    | bad => rw [e] at q; exact q
    | exc y s' =>
      rw [e] at q
      exact fun c dd sg2 H' p F' x r' xr => q c dd sg2 H' p F' x (r.back r') xr
    | rt d s' =>
      rw [e] at q
      exact fun v H' p F' x w dr b _ => q v H' p F' x (r.w.back w) dr b
    | nx s' =>
      rw [e] at q
      simp only [sCutN] at q
      split at q
      · rename_i hc
        intro sg' H' p F' x r' b _
        have w2 := r.base.w.cut r'.w hc.1
        have env : EnvR X.K (p.take s.sto.length) F' (wipeE s'.env vs) sg' := by
          have w1 := r'.e.wipe1 vs
          refine ⟨w1.1, fun i d hd => ?_⟩
          obtain ⟨v, g1, g2⟩ := w1.2 i d hd
          exact ⟨v, g1, Dr.cut _ d v (hc.2 d (List.mem_of_getElem? hd)) g2⟩
        exact q sg' H' _ F' w2.ext (r.back ⟨w2, env⟩) b
      · exact q.elim

/-! isinstance of one built-in type -/
def tyD : D → Option String
  | .non => some "NoneType" | .bl _ => some "bool" | .int _ => some "int" | .str _ => some "str" | .tup _ => some "tuple" | .lst _ => some "list" | .dK _ _ => some "dict" | .dT _ _ => some "dict" | .tpz _ => some "tuple" | _ => none
def eIsi (T : String) (m : M D) : M D := bnd m fun d s => match tyD (drf s.sto d) with
  | some t => (match kitB t T with
    | some b => .ok (.bl b) s
    | none => .bad)
  | none => .bad
theorem tyD_ok {K : PySem.W.Frag} {mg : Str → Option Value} {Z : En} {ph : List Addr} {F H : Hp} {sto : List Cell} (w : Wd K mg Z ph F sto H) {v : V} {d : D} (h : Dr K ph F v d) {t : String} (e : tyD (drf sto d) = some t) : TyX K H v (.type t) := by
  cases q : drf sto d with
  | non => rw [q] at e; cases e; cases h with
    | non => exact .base .non
    | @loc n a h1 =>
      simp only [drf] at q
      cases z : sto[n]? with
      | none => rw [z] at q; cases q
      | some c => rw [z] at q; cases c <;> cases q
    | _ => cases q
  | bl x => rw [q] at e; cases e; cases h with
    | bl => exact .base (.bl _)
    | @loc n a h1 =>
      simp only [drf] at q
      cases z : sto[n]? with
      | none => rw [z] at q; cases q
      | some c => rw [z] at q; cases c <;> cases q
    | _ => cases q
  | int x => rw [q] at e; cases e; cases h with
    | int => exact .base (.int _)
    | @loc n a h1 =>
      simp only [drf] at q
      cases z : sto[n]? with
      | none => rw [z] at q; cases q
      | some c => rw [z] at q; cases c <;> cases q
    | _ => cases q
  | str x => rw [q] at e; cases e; cases h with
    | str => exact .base (.str _)
    | @loc n a h1 =>
      simp only [drf] at q
      cases z : sto[n]? with
      | none => rw [z] at q; cases q
      | some c => rw [z] at q; cases c <;> cases q
    | _ => cases q
  | tup ds => rw [q] at e; cases e; obtain ⟨a, xs, rfl, g, _⟩ := rd_tup w h q; exact .base (.tup g)
  | tpz ds => rw [q] at e; cases e; obtain ⟨a, ob, xs, rfl, g, _⟩ := rd_tpz w h q; exact .fTuple g
  | lst ds => rw [q] at e; cases e; obtain ⟨a, xs, rfl, g, _⟩ := rd_lst w h q; exact .base (.lst g)
  | dK ks ds => rw [q] at e; cases e; obtain ⟨a, xs, rfl, g, _⟩ := rd_dK w h q; exact .base (.dK g)
  | dT ks ds => rw [q] at e; cases e; obtain ⟨a, xs, rfl, g, _⟩ := rd_dT w h q; exact .base (.dT g)
  | loc n => rw [q] at e; cases e
  | scr n => rw [q] at e; cases e
  | xcp _ _ _ _ => rw [q] at e; cases e
section
variable {X : Cx} {W : WX} {k : Nat} {pos p p2 : Pos} {e : Expr} {ma : M D}
theorem x_isi (C : Ct k X) {T : String} {x : Str} (hg : Gl X "isinstance") (hgT : Gl X x) (hmT : X.mg x = none) (hv : bootBuiltins x = some (.type T)) (hn : x ≠ "__name__") (hd : (x == ("__debug__" : Str)) = false) (ha : SE W X e ma)
    (s1 : starEach [e, .Name x p2] X.env = (false, eval e X.env) :: starEach [.Name x p2] X.env := by rfl) (s2 : starEach [.Name x p2] X.env = (false, eval (.Name x p2) X.env) :: starEach [] X.env := by rfl)
    (hpl : (backTo pos (starEach [.Name x p2] X.env)).any (·.1) = false := by rfl) :
    SE W X (.Call (.Name "isinstance" p) [e, .Name x p2] [] pos) (eIsi T ma) :=
  SE.of (pe_callB call_isi hg C.gz.zisinstance PyProof.Rows.boot_isinstance (pa_cons ha.pe (pa_cons (pe_bltn hgT hmT hv (show RelV (.ty T) (.type T) from rfl) hn hd) pa_nil s2) s1) (by decide) (by decide) s1 hpl) fun Z ph F s sg H Q r bd h => by
    refine tE_bnd kdE r h fun d1 s1 v1 H1 p1 F1 x1 r1 q1 b1 h1 => ?_
    cases e1 : tyD (drf s1.sto d1) with
    | none => rw [e1] at h1; exact h1.elim
    | some t =>
      rw [e1] at h1
      simp only at h1
      cases e2 : kitB t T with
      | none => rw [e2] at h1; exact h1.elim
      | some b =>
        rw [e2] at h1
        exact ⟨v1, .ty T, .type t, .type T, b, rfl, .ty T, tyD_ok r1.w q1 e1, kit_ty e2, fun bb => h1 (.bl b) H1 p1 F1 x1 r1 (.bl b) bb⟩
/-! a number of the module -/
structure Gi (mg : Str → Option Value) (x : Str) (i : Int) : Prop where
  ex : ∃ t, mg x = some (.int i t)
theorem x_globI {x : Str} {i : Int} (c : Gi X.mg x i) (hg : Gl X x) (hdb : (x == ("__debug__" : Str)) = false := by decide) : SE W X (.Name x pos) (ret (.int i)) := by
  obtain ⟨t, ht⟩ := c.ex
  exact se_glob hg ht (show RelV (.int i) (.int i t) from ⟨t, rfl⟩) (fun _ _ => .int i) hdb
structure Gs (mg : Str → Option Value) (x : Str) (z : Str) : Prop where
  ex : ∃ t, mg x = some (.str z t)
theorem x_globS {x : Str} {z : Str} (c : Gs X.mg x z) (hg : Gl X x) (hdb : (x == ("__debug__" : Str)) = false := by decide) : SE W X (.Name x pos) (ret (.str z)) := by
  obtain ⟨t, ht⟩ := c.ex
  exact se_glob hg ht (show RelV (.str z) (.str z t) from ⟨t, rfl⟩) (fun _ _ => .str z) hdb
end
end LW
namespace LW
open PySem PySem.Spec L2
open PyProof.Rows (envOfC)

/-! sorted(d), d a table whose keys are tuples -/
def kD : Key → D
  | .inl i => .int i
  | .inr x => .str x
def keyD (k : List Key) : D := .tup (k.map kD)
theorem drA_key {K : PySem.W.Frag} {ph : List Addr} {F : Hp} : ∀ k : List Key, DrA K ph F (k.map kV) (k.map kD)
  | [] => .nil
  | .inl i :: r => .cons (.int i) (drA_key r)
  | .inr x :: r => .cons (.str x) (drA_key r)
theorem flt_key (k : List Key) : flt (keyD k) = true := by
  unfold keyD
  simp only [flt]
  induction k with
  | nil => rfl
  | cons a r ih => cases a <;> simp [fltA, kD, flt, ih]
theorem pyA_keys : ∀ ks : List (List Key), pyA (ks.map keyD) = ks.map fun k => py (keyD k)
  | [] => rfl
  | k :: r => by simp only [List.map_cons, pyA, pyA_keys r]
theorem fltA_keys : ∀ ks : List (List Key), fltA (ks.map keyD) = true
  | [] => rfl
  | k :: r => by simp [fltA, flt_key k, fltA_keys r]
section
open PyProof.Rows
variable {X : Cx}
theorem reads_key {pins : List (Addr × Obj)} {s : Shared} {σ : L2.St} {H : Hp} (I : Inv X pins σ H s) {k : List Key} {b : Addr} (h : H b = some (.tup (k.map kV))) : Reads s.heap (.ref b) (py (keyD k)) [] := by
  obtain ⟨_, its, rv, o, h1, h2, n, h3⟩ := (show ObjOk X.prog X.w H s.heap b (.tup (k.map kV)) from I.hok b _ h)
  refine .tuple h1 h2 h3 ?_
  have : ∀ (k : List Key) (its : List Value), Vals (k.map kV) its → ReadsAll s.heap its (pyA (k.map kD)) [] := by
    intro k
    induction k with
    | nil => intro its r; cases r; exact .nil
    | cons a l ih =>
      intro its r
      cases r with
      | cons r1 r2 =>
        cases a with
        | inl i => obtain ⟨t, rfl⟩ := (show ∃ t, _ = Value.int i t from r1); exact .cons (as := []) (.int i t) (ih _ r2)
        | inr x => obtain ⟨t, rfl⟩ := (show ∃ t, _ = Value.str x t from r1); exact .cons (as := []) (.str x t) (ih _ r2)
  exact this k its rv
theorem call_sortedDT (hc : X.calm = true) (hu : X.A.units + 64 < cLine) : CallR X (.builtin "sorted") (fun xs H Q => ∃ d kvs, xs = [V.ref d] ∧ Rd H d (.dT kvs) ∧ okSrt ((kvs.map (·.1)).map keyD) = true ∧
    ∀ (p : Addr) (zs : List (List Key × Addr)), H p = none → zs.map (·.1) = (kvs.map (·.1)).mergeSort (fun a b => leD (keyD a) (keyD b)) → (∀ z ∈ zs, H z.2 = some (.tup (z.1.map kV))) → Q (.ref p) (upd H p (.lst (zs.map fun z => V.ref z.2)))) := by
  intro pins s σ H xs us Q I r h
  obtain ⟨d, kvs, rfl, hd, ok, q⟩ := h
  obtain ⟨u, rfl, rx⟩ := r.one
  cases rx
  obtain ⟨z, hs, ks, pr, o, es, ep, ho, hx, hdt, he, hn⟩ := (show ObjOk X.prog X.w H s.heap d (.dT kvs) from hd.ok I.hok)
  have l1 : es.size = ks.length := size_of_entries he
  have l2 : kvs.length = ks.length := Paired.length pr
  have ok2 : okAl ((kvs.map (·.1)).map keyD) = true := by
    unfold okSrt at ok
    exact (Bool.and_eq_true _ _ ▸ ok).1
  obtain ⟨f1, f2, f3⟩ := okAl_of ok2
  -- the keys with their addresses
  obtain ⟨bs, eb, hb⟩ : ∃ bs : List (List Key × Addr), bs.map (·.1) = kvs.map (·.1) ∧ (bs.map (·.2) = ks.map fun x => x.2.1) ∧ ∀ z ∈ bs, H z.2 = some (.tup (z.1.map kV)) := by
    clear he hdt l1 l2 hd ok ok2 f1 f2 f3 q z hn
    induction pr with
    | nil => exact ⟨[], rfl, rfl, fun _ h => by cases h⟩
    | @cons kv x kvs' xs' h t ih =>
      obtain ⟨bs, e1, e2, e3⟩ := ih
      refine ⟨(kv.1, x.2.1) :: bs, by simp [e1], by simp [e2], fun z hz => ?_⟩
      rcases List.mem_cons.mp hz with rfl | hz
      · exact h.2.1
      · exact e3 z hz
  obtain ⟨eb2, hb⟩ := hb
  have een : (bs.map fun z => py (keyD z.1)) = pyA ((kvs.map (·.1)).map keyD) := by
    rw [pyA_keys, ← eb, List.map_map]; rfl
  refine Calls.call_function_entry PyProof.Rows.kind_sorted PyProof.Rows.plain_sorted PyProof.Rows.entry_sorted (PyProof.Rows.args_sorted1 _) ?_
  unfold Builtin.«sorted»
  refine wpAny_bind (m := checkCount "sorted" 1 1 _) (wpAny_pure ?_)
  refine wpAny_bind (PySem.W.kdu_collect (A := X.A.in1) (kdl_raw hs hx hdt) (I.ok.hd hc) ho (by omega) fun h' tk acc hk it => ?_)
  have ea : acc.toList = bs.map fun z => Value.ref z.2 := by
    have e0 : (bs.map fun z => Value.ref z.2) = ks.map fun x => Value.ref x.2.1 := by
      have := congrArg (List.map Value.ref) eb2
      rw [List.map_map, List.map_map] at this
      exact this
    rw [e0]
    have hl : acc.toList.length = ks.length := by rw [Array.length_toList, it.1]; exact l1
    apply List.ext_getElem?
    intro j
    rw [List.getElem?_map]
    cases hj : acc.toList[j]? with
    | none =>
      have h1 := List.getElem?_eq_none_iff.mp hj
      rw [List.getElem?_eq_none (by omega)]
      all_goals rfl
    | some v =>
      obtain ⟨en, hen, hv⟩ := it.2 j v (by rw [← Array.getElem?_toList]; exact hj)
      have qe := entry_at he j
      rw [hen] at qe
      cases hb : ks[j]? with
      | none =>
        rw [hb] at qe
        exact nomatch (show some en = none from qe)
      | some b =>
        rw [hb] at qe
        have e2 : en = entryOfKey (tupleKind (mixKind X.prog X.w)) b := Option.some.inj qe
        rw [hv, e2]
        all_goals rfl
  have hal : acc.toList.length = bs.length := by rw [ea, List.length_map]
  have lb : bs.length = kvs.length := by have := congrArg List.length eb; simpa using this
  have I1 : Inv X pins σ H { s with heap := h', toks := tk } := I.kept hk
  refine wpAny_bind (wpAny_newList ?_ (by rw [hal, lb]; omega))
  have hoL : (h'.push (seqObj "list" acc.toList.toArray 0)).get? h'.objs.size = some (seqObj "list" acc.toList.toArray 0) := Heap.get?_push_size _ rfl
  show wpAny _ _ _ _ _ { s with heap := h'.push (seqObj "list" acc.toList.toArray 0), toks := tk }
  have each1 : PySem.W.EachIs (fun v (b : List Key × Addr) => v = Value.ref b.2 ∧ b ∈ bs) acc.toList bs := by
    rw [ea]
    have : ∀ l : List (List Key × Addr), (∀ z ∈ l, z ∈ bs) → PySem.W.EachIs (fun v (b : List Key × Addr) => v = Value.ref b.2 ∧ b ∈ bs) (l.map fun z => Value.ref z.2) l := by
      intro l
      induction l with
      | nil => exact fun _ => .nil
      | cons x l ih => exact fun hl => .cons ⟨rfl, hl x List.mem_cons_self⟩ (ih fun z hz => hl z (List.mem_cons_of_mem _ hz))
    exact this bs fun _ h => h
  have keepP : ∀ b o, h'.get? b = some o → (h'.push (seqObj "list" acc.toList.toArray 0)).get? b = some o := fun b o e => Heap.get?_push_of_some _ e
  have each2 : PySem.W.EachIs (fun v (b : List Key × Addr) => ∃ as, Reads (h'.push (seqObj "list" acc.toList.toArray 0)) v (py (keyD b.1)) as ∧ h'.objs.size ∉ as) acc.toList bs :=
    each1.mono fun v b ⟨hv, hm⟩ => ⟨[], hv ▸ PyProof.Rows.Reads.keeps keepP (reads_key I1 (hb b hm)), by simp⟩
  refine wpAny_bind (wpAny_holding (PySem.W.list_sort_data (bs := bs) (enc := fun b => py (keyD b.1)) (s := { s with heap := h'.push (seqObj "list" acc.toList.toArray 0), toks := tk }) hoL each1 each2 ?_ ?_ ?_ ?_ fun out g1 g2 => ?_))
  · rw [een]; exact f2.1
  · rw [een]; exact srt_of ok
  · rw [lb]; exact z
  · intro b hm
    have : py (keyD b.1) ∈ pyA ((kvs.map (·.1)).map keyD) := by rw [← een]; exact List.mem_map_of_mem (f := fun b : List Key × Addr => py (keyD b.1)) hm
    have := depth_le this
    have hu' := hu
    show X.A.in1.units + 1 + (py (keyD b.1)).depth < cLine
    have e1 : X.A.in1.units = X.A.units + 1 := rfl
    omega
  · obtain ⟨e', he'⟩ := PyProof.Rows.sortedHeap_at (vs := acc.toList) (out := out.toArray) hoL
    have hlen : out.length ≤ sizeLine := by rw [g1, lb]; exact z
    have g3 : ∀ (l : List (List Key × Addr)) (us : List Value), PySem.W.EachIs (fun v (b : List Key × Addr) => v = Value.ref b.2 ∧ b ∈ bs) us l → Vals (l.map fun z => V.ref z.2) us := by
      intro l us e
      induction e with
      | nil => exact .nil
      | cons h t ih => obtain ⟨rfl, _⟩ := h; exact .cons rfl ih
    have g4 : ∀ (l : List (List Key × Addr)) (us : List Value), PySem.W.EachIs (fun v (b : List Key × Addr) => v = Value.ref b.2 ∧ b ∈ bs) us l → ∀ z ∈ l, z ∈ bs := by
      intro l us e
      induction e with
      | nil => exact fun _ h => by cases h
      | cons h t ih =>
        intro z hz
        rcases List.mem_cons.mp hz with rfl | hz
        · exact h.2
        · exact ih z hz
    refine wpAny_pure ⟨_, rfl, .ref h'.objs.size, upd H h'.objs.size (.lst ((bs.mergeSort (PySem.W.dataLe false fun b => py (keyD b.1))).map fun z => V.ref z.2)), I1.laid (t' := tk) (fun b u e => ?_) (Nat.le_refl _)
      (show ObjOk X.prog X.w _ _ _ (.lst ((bs.mergeSort (PySem.W.dataLe false fun b => py (keyD b.1))).map fun z => V.ref z.2)) from ⟨?_, out, e', g3 _ _ g2, he'⟩), rfl, q _ _ (I1.hok.fresh (Nat.le_refl _)) ?_ fun z hz => hb z (g4 _ _ g2 z hz)⟩
    · have hb : b < h'.objs.size := Heap.lt_size e
      rw [PyProof.Rows.sortedHeap_old (Nat.ne_of_lt hb) (by rw [size_push']; exact Nat.lt_succ_of_lt hb)]
      exact Heap.get?_push_of_some _ e
    · rw [List.length_map, List.length_mergeSort, lb]; exact z
    · rw [← eb]
      rw [List.map_mergeSort (r := PySem.W.dataLe false fun b : List Key × Addr => py (keyD b.1)) (s := fun a b => leD (keyD a) (keyD b)) (fun a _ b _ => rfl)]
end
theorem Wd.tupF {K : PySem.W.Frag} {mg : Str → Option Value} {Z : En} {ph : List Addr} {F H : Hp} {sto : List Cell} (w : Wd K mg Z ph F sto H) {b : Addr} {xs : List V} (h : H b = some (.tup xs)) : ∃ F', Ext ph F ph F' ∧ Wd K mg Z ph F' sto H ∧ F' b = some (.tup xs) := by
  cases e : F b with
  | some o =>
    have := w.sub b o e
    rw [h] at this
    cases this
    exact ⟨F, .refl, w, e⟩
  | none =>
    have x := extF (ph := ph) (o := HO.tup xs) e
    refine ⟨upd F b (.tup xs), x, ⟨w.fr, fun a u q => ?_, w.ext.trans x, fun a u q => ?_, w.nd, w.nph, w.len, fun n c a h1 h2 => ?_⟩, upd_same⟩
    · by_cases hb : a = b
      · subst hb; rw [upd_same] at q; cases q; exact h
      · rw [upd_ne hb] at q; exact w.sub a u q
    · by_cases hb : a = b
      · subst hb
        cases z : Z.H a with
        | none => exact .inr (.inl rfl)
        | some o' =>
          by_cases hp : a ∈ Z.ph
          · exact .inr (.inr (.inl hp))
          · have := w.fr a o' z hp
            rw [h] at this
            cases this
            exact .inr (.inr (.inr ⟨xs, rfl⟩))
      · rw [upd_ne hb] at q; exact w.new a u q
    · have cr := w.cell n c a h1 h2
      by_cases hb : a = b
      · subst hb
        cases c with
        | dead => exact ⟨_, h⟩
        | lst ds => obtain ⟨_, _, g, _⟩ := cr; rw [h] at g; cases g
        | dK ks ds => obtain ⟨_, _, g, _⟩ := cr; rw [h] at g; cases g
        | dT ks ds => obtain ⟨_, _, g, _⟩ := cr; rw [h] at g; cases g
        | ins c fs => obtain ⟨_, _, _, _, _, g, _⟩ := cr; rw [h] at g; cases g
      · exact cr.up x (fun z => by rw [upd_ne hb]; exact z) fun o z => z
theorem Wd.tupsF {K : PySem.W.Frag} {mg : Str → Option Value} {Z : En} {ph : List Addr} {H : Hp} {sto : List Cell} : ∀ (zs : List (List Key × Addr)) {F : Hp}, Wd K mg Z ph F sto H → (∀ z ∈ zs, H z.2 = some (.tup (z.1.map kV))) → ∃ F', Ext ph F ph F' ∧ Wd K mg Z ph F' sto H ∧ DrA K ph F' (zs.map fun z => V.ref z.2) (zs.map fun z => keyD z.1)
  | [], F, w, _ => ⟨F, .refl, w, .nil⟩
  | z :: zs, F, w, h => by
    obtain ⟨F1, x1, w1, h1⟩ := w.tupF (h z List.mem_cons_self)
    obtain ⟨F2, x2, w2, d2⟩ := Wd.tupsF zs w1 fun y hy => h y (List.mem_cons_of_mem _ hy)
    exact ⟨F2, x1.trans x2, w2, .cons (.tup (x2.f _ _ h1) (drA_key z.1)) d2⟩
def gSortDT (_ : List Cell) : List D → Option Rs
  | [.dT ks ds] => if okSrt (ks.map keyD) = true then some (.c (.lst ((ks.mergeSort fun a b => leD (keyD a) (keyD b)).map keyD))) else none
  | _ => none
theorem x_sortedDT {X : Cx} {W : WX} {k : Nat} {p pos : Pos} {e : Expr} {ma : M D} (C : Ct k X) (hg : Gl X "sorted") (ha : SE W X e ma) (he : starEach [e] X.env = (false, eval e X.env) :: starEach [] X.env := by rfl) (hpl : (backTo pos (starEach [] X.env)).any (·.1) = false := by rfl) :
    SR W X (.Call (.Name "sorted" p) [e] [] pos) (rN (puR gSortDT) (eCons ma (ret []))) :=
  SR.of (pe_callB (call_sortedDT C.cm C.u64) hg C.gz.zsorted PyProof.Rows.boot_sorted (pa_cons ha.pe pa_nil he) (by decide) (by decide) he hpl) fun Z ph F s sg H Q r bd h => by
    have h' : ResR X.K X.mg Z W sg (bnd ma (fun x s => optR (puR gSortDT s [x])) s) ph F Q := by
      have : rN (puR gSortDT) (eCons ma (ret [])) s = bnd ma (fun x s => optR (puR gSortDT s [x])) s := by
        unfold rN eCons bnd
        cases ma s <;> rfl
      rw [← this]
      exact h
    refine tE_bnd kdR r h' fun d1 s1 v1 H1 p1 F1 x1 r1 q1 b1 h1 => ?_
    simp only [puR, List.map_cons, List.map_nil] at h1
    cases qa : drf s1.sto d1 with
    | dT ks ds =>
      rw [qa] at h1
      simp only [gSortDT] at h1
      split at h1
      · rename_i ok
        obtain ⟨a, kvs, rfl, g, rfl, g3⟩ := rd_dT r1.w q1 qa
        refine ⟨a, kvs, rfl, .inl g, ok, fun p zs hp e1 e2 b => ?_⟩
        obtain ⟨F2, x2, w2, d2⟩ := Wd.tupsF zs r1.w e2
        have hF2 : F2 p = none := by
          cases z : F2 p with
          | none => rfl
          | some o => have := w2.sub p o z; rw [hp] at this; cases this
        have r2 : Rel X.K X.mg Z p1 F2 s1 sg H1 := ⟨w2, r1.e.up x2⟩
        obtain ⟨hF, hZ, hph⟩ := r2.w.fresh hp
        have ed : zs.map (fun z => keyD z.1) = ((kvs.map (·.1)).mergeSort fun a b => leD (keyD a) (keyD b)).map keyD := by rw [← e1, List.map_map]; rfl
        exact h1 p _ p1 F2 (x1.trans x2) (r2.new hp) ⟨hF, hph, hZ, ⟨hF, _, upd_same, ed ▸ d2⟩, by intro z; cases z⟩ b
      · exact h1.elim
    | _ => rw [qa] at h1; exact h1.elim
/-! {k: v} -/
def rDisp1 (mk mv : M D) : M Rs := bnd mk fun k => bnd mv fun v s => match keyOf k with
  | some key => .ok (.c (.dK [key] [v])) s
  | none => .bad
theorem keyOf_val {K : PySem.W.Frag} {ph : List Addr} {F : Hp} {v : V} {d : D} {k : Key} (h : Dr K ph F v d) (e : keyOf d = some k) : v = kV k := by
  cases h with
  | int i => cases e; rfl
  | str x => cases e; rfl
  | _ => cases e
theorem x_disp1 {X : Cx} {W : WX} {pos : Pos} {a b : Expr} {mk mv : M D} (ha : SE W X a mk) (hb : SE W X b mv) : SR W X (.Dict [some a] [b] pos) (rDisp1 mk mv) :=
  SR.of (pe_disp (pps_cons ha.pe hb.pe pps_nil) rfl rfl (by simp) (by simp)) fun Z ph F s sg H Q r bd h => by
    intro p hp
    obtain ⟨hF, hZ, hph⟩ := r.w.fresh hp
    have rn := Rel.new r hp (o := .dK [])
    have own1 : Own ph F (upd H p (.dK [])) p (.dK []) := ⟨hF, hph, upd_same⟩
    show tE X.K X.mg W mk sg (upd H p (.dK [])) _
    refine ⟨_, ph, F, s, rn.base, ?_⟩
    unfold rDisp1 bnd at h
    cases e : mk s with
    | bad => rw [e] at h; exact h.elim
    | exc x s' =>
      rw [e] at h
      exact fun c dd sg2 H' p' F' xx r' xr => h c dd sg2 H' p' F' xx (rn.back r') xr
    | ok k s1 =>
      rw [e] at h
      simp only at h
      intro v1 H1 p1 F1 x1 r1 q1 b1
      have own2 := own1.keep r1.w
      have r1' := rn.back r1
      show tE X.K X.mg W mv sg H1 _
      refine ⟨_, p1, F1, s1, r1'.base, ?_⟩
      cases e2 : mv s1 with
      | bad => rw [e2] at h; exact h.elim
      | exc x s' =>
        rw [e2] at h
        exact fun c dd sg2 H' p' F' xx r' xr => h c dd sg2 H' p' F' (x1.trans xx) (r1'.back r') xr
      | ok v s2 =>
        rw [e2] at h
        simp only at h
        intro v2 H2 p2 F2 x2 r2 q2 b2
        have own3 := own2.keep r2.w
        have r2' := r1'.back r2
        cases e3 : keyOf k with
        | none => rw [e3] at h; exact h.elim
        | some key =>
          rw [e3] at h
          refine ⟨own3.h, [(key, v2)], by rw [keyOf_val q1 e3]; rfl, by simp, fun b => ?_⟩
          have r3 : Rel X.K X.mg Z p2 F2 s2 sg (upd H2 p (.dK (mergeK [] [(key, v2)]))) := Rel.poke r2' own3 hZ
          refine h p _ p2 F2 (x1.trans x2) r3 ⟨own3.f, own3.p, hZ, ⟨own3.f, _, upd_same, rfl, .cons q2 .nil⟩, by intro z; cases z⟩ b
end LW
namespace LW
open PySem PySem.Spec L2
open PyProof.Rows (envOfC)
/-! a, b = x, y: no tuple is made; the mirror is that of a tuple taken apart -/
section
variable {X : Cx} {Z : En} {W : WX} {pos : Pos}
theorem ss_par {i j : Nat} {x y : Str} {a b : Expr} {m : M (List D)} {px py pt : Pos} {kt k2 pt2} (hc : X.calm = true) (hN : X.N.Nodup) (hi : X.N[i]? = some x) (hj : X.N[j]? = some y) (hij : i ≠ j)
    (hx : X.env.scope.names.lookup x = some .local) (hy : X.env.scope.names.lookup y = some .local) (ha : SA W X [a, b] m)
    (hw : swappedStores [.Tuple [.Name x px, .Name y py] kt pt] (.Tuple [a, b] k2 pt2) X.env = pure (some [x, y]))
    (hs : swapsWithSole [.Tuple [.Name x px, .Name y py] kt pt] (.Tuple [a, b] k2 pt2) pos.line X.env = pure false := by rfl) :
    SS W X (.Assign [.Tuple [.Name x px, .Name y py] kt pt] (.Tuple [a, b] k2 pt2) pos) (sAsg (.tp [i, j]) (eTup m)) :=
  SS.of (ps_par hc hN hi hj hij hx hy ha.pa hw hs) fun Z ph F s sg H E r bd h => by
    refine ⟨_, ph, F, s, r, ?_⟩
    unfold sAsg bndS eTup bnd at h
    cases e : m s with
    | ok ds s' =>
      rw [e] at h
      intro vs H' p2 F2 e2 r2 q2 b2
      by_cases hl : ds.length ≤ 16777216
      · simp only [if_pos hl, ret, asg] at h
        by_cases h2 : ds.length = 2
        · rw [if_pos (show ds.length = [i, j].length from h2)] at h
          cases q2 with
          | nil => cases h2
          | cons qa q2 =>
            cases q2 with
            | nil => cases h2
            | cons qb q2 =>
              cases q2 with
              | cons _ _ => simp at h2
              | nil =>
                refine ⟨_, _, rfl, ?_⟩
                exact fun b => (h.up e2) _ H' p2 F2 .refl ((r2.set qa i).set qb j) b
        · rw [if_neg (show ¬ ds.length = [i, j].length from h2)] at h
          exact h.elim
      · simp only [if_neg hl] at h
        exact h.elim
    | exc x s' =>
      rw [e] at h
      exact h
    | bad =>
      rw [e] at h
      exact h.elim
end
end LW
namespace LW
open PySem PySem.Spec L2
open PyProof.Rows (envOfC)
/-! what is not reached: nothing is told of it -/
section
variable {X : Cx} {W : WX} {e : Expr} {st : Stmt}
def deadE : M D := fun _ => .bad
def deadS : MS := fun _ => .bad
theorem se_dead : SE W X e deadE := ⟨⟨fun pins s sg H Q I h => by
  obtain ⟨_, _, _, _, _, h⟩ := h
  exact h.elim⟩⟩
theorem ss_dead : SS W X st deadS := ⟨⟨fun pins s sg H D I h => by
  obtain ⟨_, _, _, _, _, h⟩ := h
  exact h.elim⟩⟩
end

/-! a < b < c -/
def eChain (f f' : S → List D → Option (D × S)) (ma mb mc : M D) : M D := bnd ma fun x => bnd mb fun y => bnd (fun s => opt (α := D) (f s [x, y])) fun d => match d with
  | .bl true => bnd mc fun z s => opt (α := D) (f' s [y, z])
  | .bl false => ret (.bl false)
  | _ => fun _ => .bad
section
variable {X : Cx} {Z : En} {W : WX} {pos : Pos} {a b c : Expr} {ma mb mc : M D} {f f' : S → List D → Option (D × S)}
theorem chain_res {r r' : R2} (hf : OkN X (b2 r) f) (hf' : OkN X (b2 r') f') {Z ph F s sg H} {Q : V → Hp → Prop} (rl : Rel X.K X.mg Z ph F s sg H) (bd : Bd X.K H) (h : Res X.K X.mg Z W sg (eChain f f' ma mb mc s) ph F Q) :
    tChain r r' (tE X.K X.mg W ma) (tE X.K X.mg W mb) (tE X.K X.mg W mc) sg H fun v H' => Bd X.K H' → Q v H' := by
  refine tE_bnd kdE rl h fun d1 s1 v1 H1 p1 F1 x1 r1 q1 b1 h1 => ?_
  refine tE_bnd kdE r1 (h1.up x1) fun d2 s2 v2 H2 p2 F2 x2 r2 q2 b2 h2 => ?_
  have h2 := h2.up x2
  cases e : f s2 [d1, d2] with
  | none =>
    unfold bnd opt at h2
    simp only [e] at h2
    exact h2.elim
  | some p =>
    obtain ⟨d, s'⟩ := p
    unfold bnd opt at h2
    simp only [e] at h2
    obtain ⟨k, rfl⟩ : ∃ k, d = .bl k := by
      cases d with
      | bl k => exact ⟨k, rfl⟩
      | _ => exact h2.elim
    have h2 : Res X.K X.mg Z W sg ((match (k : Bool) with | true => bnd mc (fun z s => opt (α := D) (f' s [d2, z])) | false => ret (.bl false) : M D) s') p2 F2 Q := by
      cases k <;> exact h2
    have key := hf.run Z p2 F2 s2 sg H2 [v1, v2] [d1, d2] _ s' (fun z H3 => ∃ k, z = .bl k ∧ (if k = true then tE X.K X.mg W mc sg H3 (fun w' H4 => r' v2 w' H4 fun v H' => Bd X.K H' → Q v H') else Bd X.K H3 → Q (.bl false) H3)) r2 b2 (.cons (q1.up x2) (.cons q2 .nil)) e
    suffices hk : ∀ (z : V) (H3 : Hp) (p3 : List Addr) (F3 : Hp), Ext p2 F2 p3 F3 → Rel X.K X.mg Z p3 F3 s' sg H3 → Dr X.K p3 F3 z (.bl k) → ∃ k, z = .bl k ∧ (if k = true then tE X.K X.mg W mc sg H3 (fun w' H4 => r' v2 w' H4 fun v H' => Bd X.K H' → Q v H') else Bd X.K H3 → Q (.bl false) H3) by
      obtain ⟨x, y, e3, q⟩ := key hk
      cases e3
      exact q
    · intro z H3 p3 F3 x3 r3 q3
      cases q3
      refine ⟨k, rfl, ?_⟩
      cases k with
      | true =>
        rw [if_pos rfl]
        refine tE_bnd kdE r3 (Res.up h2 x3) fun d4 s4 v4 H4 p4 F4 x4 r4 q4 b4 h4 => ?_
        obtain ⟨d5, s5, e5, k5⟩ := opt_res (Res.up h4 x4)
        obtain ⟨x, y, e6, q⟩ := hf'.run Z p4 F4 s4 sg H4 [v2, v4] [d2, d4] d5 s5 (fun v H' => Bd X.K H' → Q v H') r4 b4 (.cons ((q2.up x3).up x4) (.cons q4 .nil)) e5 k5
        cases e6
        exact q
      | false =>
        rw [if_neg (by decide)]
        exact fun b => h2 _ H3 p3 F3 x3 r3 (.bl false) b
theorem se_chain {op op' : CmpOp} {r r' : R2} (ho : OpR X (compareOp op) r) (hf : OkN X (b2 r) f) (ho' : OpR X (compareOp op') r') (hf' : OkN X (b2 r') f') (ha : SE W X a ma) (hb : SE W X b mb) (hc : SE W X c mc)
    (hm : lastMarks [op, op'] [b, c] = false := by with_unfolding_all rfl) : SE W X (.Compare a [op, op'] [b, c] pos) (eChain f f' ma mb mc) :=
  SE.of (pe_chain ho ho' ha.pe hb.pe hc.pe hm) fun Z ph F s sg H Q r bd h => chain_res hf hf' r bd h
end

/-! sorted of tuples whose first items are ints, no two alike -/
section
open SrtO Srt PyProof.Rows
def fstI : D → Option Int
  | .tup (.int i :: _) => some i
  | _ => none
def leF (a b : D) : Bool := decide ((fstI a).getD 0 ≤ (fstI b).getD 0)
def okFst (ds : List D) : Bool := ds.all (fun d => (fstI d).isSome) && decide ((ds.map fun d => (fstI d).getD 0).Nodup)
def gSortedF (_ : List Cell) : List D → Option Rs
  | [.lst ds] => if okFst ds = true then some (.c (.lst (ds.mergeSort leF))) else none
  | _ => none
def IsFst (h : Heap) (v : Value) (x : Int) : Prop := ∃ a o t xs n, v = .ref a ∧ h.get? a = some o ∧ o.cls = .type "tuple" ∧ o.data = .seq xs n ∧ xs[0]? = some (.int x t)
theorem IsFst.keeps {h h' : Heap} {v : Value} {x : Int} (p : IsFst h v x) (k : ∀ b o, h.get? b = some o → o.cls = .type "tuple" → h'.get? b = some o) : IsFst h' v x := by
  obtain ⟨a, o, t, xs, n, e, ho, hc, hd, hx⟩ := p
  exact ⟨a, o, t, xs, n, e, k _ _ ho hc, hc, hd, hx⟩
theorem swo_fst (k : Value → Int) : Swo fun v u => decide (k v < k u) := by
  refine ⟨fun x y h => ?_, fun x y z h1 h2 => ?_⟩
  · simp only [decide_eq_true_eq, decide_eq_false_iff_not] at *; omega
  · simp only [decide_eq_true_eq, decide_eq_false_iff_not] at *; omega
variable {prog : Program} {w : World} {A : Around} {E : Value → Shared → Prop} {s : Shared}
theorem kat_same {b fin : Bool} {Q : Bool → Shared → Prop} (h : Q fin s) : ∀ (l : List (Value × Value)) (i : Nat), (∀ p ∈ l, p.1 = p.2) → PySem.W.KatLex prog w A b fin Q l i s
  | [], i, _ => PySem.W.kat_nil h
  | (p, q) :: r, i, hl => by
    have e : p = q := hl (p, q) List.mem_cons_self
    subst e
    exact PySem.W.kat_cons (SeqAt.EqAt.same p prog w _ _ (PySem.W.kat_yes (kat_same h r (i + 1) fun x hx => hl x (List.mem_cons_of_mem _ hx))))
theorem zip_same {α : Type} : ∀ (l : List α), ∀ p ∈ l.zip l, p.1 = p.2
  | [], p, h => by simp at h
  | x :: r, p, h => by
    rw [List.zip_cons_cons] at h
    rcases List.mem_cons.mp h with rfl | h
    · rfl
    · exact zip_same r p h
theorem fst_cmp {vs : List Value} {k : Value → Int} (hp : ∀ v ∈ vs, IsFst s.heap v (k v)) (hd : ∀ v ∈ vs, ∀ u ∈ vs, k v = k u → v = u) : Cmp prog w A s (tuples' true) (fun p => p.1 ∈ vs) (lt2 fun v u => decide (k v < k u)) := by
  intro p q hm hm'
  have h1 := hp _ hm
  have h2 := hp _ hm'
  have h3 := hd _ hm _ hm'
  show wpAny (model prog w) A (keyLt' (tuples' true) p.1 q.1) (fun r s' => s' = s ∧ r = decide (k p.1 < k q.1)) (fun _ _ => False) s
  obtain ⟨a, o, t, xs, n, e, ho, hc, hdt, hx⟩ := h1
  obtain ⟨a', o', t', xs', n', e', ho', hc', hdt', hx'⟩ := h2
  rw [e, e']
  refine PySem.W.kat_lt ho hdt ho' hdt' ?_
  by_cases hk : k p.1 = k q.1
  · have := h3 hk
    rw [e, e'] at this
    cases this
    rw [ho] at ho'
    cases ho'
    rw [hdt] at hdt'
    injection hdt' with d1 d2
    subst d1
    refine kat_same ⟨rfl, ?_⟩ _ _ (zip_same _)
    simp
  · obtain ⟨r, hr⟩ : ∃ r, xs.toList = .int (k p.1) t :: r := by
      rw [← Array.getElem?_toList] at hx
      cases hq : xs.toList with
      | nil => rw [hq] at hx; cases hx
      | cons y r => rw [hq] at hx; cases hx; exact ⟨r, rfl⟩
    obtain ⟨r', hr'⟩ : ∃ r, xs'.toList = .int (k q.1) t' :: r := by
      rw [← Array.getElem?_toList] at hx'
      cases hq : xs'.toList with
      | nil => rw [hq] at hx'; cases hx'
      | cons y r => rw [hq] at hx'; cases hx'; exact ⟨r, rfl⟩
    rw [hr, hr', List.zip_cons_cons]
    refine PySem.W.kat_cons (SeqAt.EqAt.int_int (k p.1) t (k q.1) t' prog w _ _ ?_)
    refine PySem.W.kat_go (fun e1 => absurd (by simpa using e1) hk) (fun _ => ?_)
    exact PySem.W.kat_no (oneLt_int ⟨rfl, by rw [e, e']⟩)
theorem firstsF {h : Heap} {k : Value → Int} : ∀ {vs : List Value}, (∀ v ∈ vs, IsFst h v (k v)) → ∃ fs : List Value, PySem.W.KatTups h vs fs ∧ fs.length = vs.length ∧ ∀ f ∈ fs, ∃ x t, f = Value.int x t
  | [], _ => ⟨[], PySem.W.KatTups.nil, rfl, fun _ hm => by simp at hm⟩
  | v :: vs, hp => by
    obtain ⟨fs, h1, h2, h3⟩ := firstsF (vs := vs) fun v' hm => hp v' (List.mem_cons_of_mem _ hm)
    obtain ⟨a, o, t, xs, n, e, ho, hc, hd, hx⟩ := hp v List.mem_cons_self
    generalize hkv : k v = kv at hx
    subst e
    refine ⟨.int kv t :: fs, PySem.W.KatTups.cons ho hc hd hx h1, by rw [List.length_cons, List.length_cons, h2], fun f hm => ?_⟩
    rcases List.mem_cons.mp hm with rfl | hm
    · exact ⟨_, t, rfl⟩
    · exact h3 f hm
theorem fst_sortableO {a : Addr} {vs : List Value} {k : Value → Int} (h0 : 0 < vs.length) (hp : ∀ v ∈ vs, IsFst s.heap v (k v)) (hd : ∀ v ∈ vs, ∀ u ∈ vs, k v = k u → v = u) (ha : ∀ o, s.heap.get? a = some o → o.cls ≠ .type "tuple") : SortableO prog w A s a vs fun v u => decide (k v < k u) := by
  intro h' keep
  have hp' : ∀ v ∈ vs, IsFst h' v (k v) := fun v hm => (hp v hm).keeps fun b o e c => keep b o (fun z => by subst z; exact ha o e c) e
  obtain ⟨fs, h1, h2, h3⟩ := firstsF hp'
  refine ⟨tuples' true, fun Q E hq => ?_, fst_cmp hp' hd⟩
  refine PySem.W.kat_kind (T := .type "int") h1 (by omega) (fun f hm => ?_) (by rfl) ?_
  · obtain ⟨x, t, rfl⟩ := h3 f hm
    exact PySem.W.Looks.now
  · have e : (Value.type "int" != Value.type "tuple") = true := by first | decide +kernel | rfl | decide
    rw [e]
    exact hq
theorem sorted_fstO {l : Addr} {vs : List Value} {k : Value → Int} {Q : Value → Shared → Prop} (hl : s.heap.IsList l vs.toArray) (hz : vs.length ≤ sizeLine) (hp : ∀ v ∈ vs, IsFst s.heap v (k v)) (hd : ∀ v ∈ vs, ∀ u ∈ vs, k v = k u → v = u)
    (h : ∀ (out : List Value), Srtd (fun v u => decide (k v < k u)) out → out.Perm vs → Q (.ref (s.heap.objs.size + 1)) { s with heap := sortedAll s.heap vs out.toArray }) :
    wpAny (model prog w) A (call (.builtin "sorted") [.ref l]) Q E s := by
  refine sorted_ord (swo_fst k) hl hz (fun h2 h₁ a ha kk => ?_) fun out hs hb => h out hs hb.perm
  refine fst_sortableO (s := { s with heap := h₁ }) (by omega) (fun v hm => (hp v hm).keeps fun b o e _ => (kk b o e).2) hd fun o e => ?_
  have e' : some o = some (seqObj "list" vs.toArray 0) := e.symm.trans ha
  cases e'
  intro c
  exact absurd (Value.type.inj c) (by decide)

def fstV (h : Heap) : Value → Int
  | .ref a => match h.get? a with
    | some o => match o.data with
      | .seq xs _ => match (xs[0]? : Option Value) with
        | some (Value.int x _) => x
        | _ => 0
      | _ => 0
    | none => 0
  | _ => 0
theorem IsFst.v {h : Heap} {v : Value} {x : Int} (p : IsFst h v x) : fstV h v = x := by
  obtain ⟨a, o, t, xs, n, rfl, ho, hc, hd, hx⟩ := p
  simp only [fstV, ho, hd, hx]
theorem nodup_inj {α : Type} {f : α → Int} : ∀ {L : List α}, (L.map f).Nodup → ∀ a ∈ L, ∀ b ∈ L, f a = f b → a = b
  | [], _, a, h, _, _, _ => by cases h
  | x :: L, hn, a, ha, b, hb, e => by
    rw [List.map_cons, List.nodup_cons] at hn
    rcases List.mem_cons.mp ha with rfl | ha'
    · rcases List.mem_cons.mp hb with rfl | hb'
      · rfl
      · exact absurd (List.mem_map.mpr ⟨b, hb', e.symm⟩) hn.1
    · rcases List.mem_cons.mp hb with rfl | hb'
      · exact absurd (List.mem_map.mpr ⟨a, ha', e⟩) hn.1
      · exact nodup_inj hn.2 a ha' b hb' e
theorem zip3_all {K : PySem.W.Frag} {ph : List Addr} {F : Hp} : ∀ {its : List Value} {ys : List V} {ds : List D}, Vals ys its → DrA K ph F ys ds → (∀ t ∈ its.zip (ys.zip ds), RelV t.2.1 t.1 ∧ Dr K ph F t.2.1 t.2.2) ∧ (its.zip (ys.zip ds)).map (·.1) = its ∧ (its.zip (ys.zip ds)).map (·.2.2) = ds
  | _, _, _, r, .nil => by cases r; exact ⟨fun t h => by simp at h, rfl, rfl⟩
  | _, _, _, r, .cons h t => by
    cases r with
    | cons r1 r2 =>
      obtain ⟨i1, i2, i3⟩ := zip3_all r2 t
      refine ⟨fun p hp => ?_, by simp [i2], by simp [i3]⟩
      simp only [List.zip_cons_cons] at hp
      rcases List.mem_cons.mp hp with rfl | z
      · exact ⟨r1, h⟩
      · exact i1 p z
theorem valsT {L : List (Value × (V × D))} (h : ∀ t ∈ L, RelV t.2.1 t.1) : Vals (L.map (·.2.1)) (L.map (·.1)) := by
  induction L with
  | nil => exact .nil
  | cons t L ih => exact .cons (h t List.mem_cons_self) (ih fun u hu => h u (List.mem_cons_of_mem _ hu))
theorem drsT {K : PySem.W.Frag} {ph : List Addr} {F : Hp} {L : List (Value × (V × D))} (h : ∀ t ∈ L, Dr K ph F t.2.1 t.2.2) : DrA K ph F (L.map (·.2.1)) (L.map (·.2.2)) := by
  induction L with
  | nil => exact .nil
  | cons t L ih => exact .cons (h t List.mem_cons_self) (ih fun u hu => h u (List.mem_cons_of_mem _ hu))
end
section
open SrtO
variable {X : Cx}
abbrev rSortedFA (K : PySem.W.Frag) (ph : List Addr) (F : Hp) : List V → Hp → VK → Prop := fun xs H Q => ∃ a ys ds, xs = [V.ref a] ∧ SqL K H a ys ∧ DrA K ph F ys ds ∧ okFst ds = true ∧ (∀ b o, F b = some o → H b = some o) ∧
  ∀ zs p, DrA K ph F zs (ds.mergeSort leF) → H p = none → Q (.ref p) (upd H p (.lst zs))
abbrev rSortedFB (K : PySem.W.Frag) : List V → Hp → VK → Prop := fun xs H Q => ∃ ph F, rSortedFA K ph F xs H Q
theorem dr_fst {pins : List (Addr × Obj)} {sg : L2.St} {H : Hp} {s : Shared} (I : Inv X pins sg H s) {ph : List Addr} {F : Hp} (sub : ∀ b o, F b = some o → H b = some o) {y : V} {d : D} {v : Value} (r : RelV y v) (q : Dr X.K ph F y d) (hs : (fstI d).isSome = true) : IsFst s.heap v ((fstI d).getD 0) := by
  cases q with
  | @tup a xs ds h1 h2 =>
    cases h2 with
    | nil => cases hs
    | cons g1 g2 =>
      cases g1 with
      | int i =>
        cases (show v = .ref a from r)
        obtain ⟨its, rv, ⟨o, e, hc, n, hd⟩, _⟩ := I.tuple (xs := V.int i :: _) (.inl (.inl (sub _ _ h1)))
        cases rv with
        | cons k1 k2 =>
          obtain ⟨t, rfl⟩ := (show ∃ t, _ = Value.int i t from k1)
          exact ⟨a, o, t, _, n, rfl, e, hc, hd, rfl⟩
      | _ => cases hs
  | _ => cases hs
theorem call_sortedFB : CallR X (.builtin "sorted") (rSortedFB X.K) := by
  intro pins s sg H xs us Q I r h
  obtain ⟨ph, F, a, ys, ds, rfl, hs, dr, ok, sub, q⟩ := h
  obtain ⟨u, rfl, ru⟩ := vals1 r
  cases ru
  obtain ⟨its, rv, pl, hz⟩ := I.list hs
  obtain ⟨z1, z2, z3⟩ := zip3_all rv dr
  generalize hL : its.zip (ys.zip ds) = L at z1 z2 z3
  unfold okFst at ok
  simp only [Bool.and_eq_true, List.all_eq_true, decide_eq_true_eq] at ok
  obtain ⟨ok1, ok2⟩ := ok
  have hf : ∀ t ∈ L, IsFst s.heap t.1 ((fstI t.2.2).getD 0) := fun t ht => dr_fst I sub (z1 t ht).1 (z1 t ht).2 (ok1 _ (by rw [← z3]; exact List.mem_map_of_mem (f := fun t : Value × (V × D) => t.2.2) ht))
  have hn : (L.map fun t => (fstI t.2.2).getD 0).Nodup := by
    rw [← z3, List.map_map] at ok2
    exact ok2
  have hk : ∀ v ∈ its, ∃ t ∈ L, t.1 = v := fun v hv => by
    rw [← z2] at hv
    obtain ⟨t, h1, h2⟩ := List.mem_map.mp hv
    exact ⟨t, h1, h2⟩
  have hinj : ∀ v ∈ its, ∀ u ∈ its, fstV s.heap v = fstV s.heap u → v = u := fun v hv u hu e => by
    obtain ⟨t, h1, rfl⟩ := hk v hv
    obtain ⟨t', h2, rfl⟩ := hk u hu
    rw [(hf t h1).v, (hf t' h2).v] at e
    rw [nodup_inj hn t h1 t' h2 e]
  have hlen := rv.length
  refine sorted_fstO (k := fstV s.heap) pl.isList (by omega) (fun v hv => ?_) hinj fun out ho hp => ?_
  · obtain ⟨t, h1, rfl⟩ := hk v hv
    rw [(hf t h1).v]
    exact hf t h1
  · obtain ⟨ep, he'⟩ := PyProof.Rows.sortedAll_at s.heap its out.toArray
    let L' := L.mergeSort fun t t' => leF t.2.2 t'.2.2
    have hp' : L'.Perm L := List.mergeSort_perm _ _
    have pw : L'.Pairwise fun t t' => leF t.2.2 t'.2.2 = true := List.pairwise_mergeSort (fun a b c => by simp only [leF, decide_eq_true_eq]; omega) (fun a b => by simp only [leF, Bool.or_eq_true, decide_eq_true_eq]; omega) L
    have eo : out = L'.map (·.1) := by
      refine List.Perm.eq_of_pairwise (le := fun v u => fstV s.heap v ≤ fstV s.heap u) (fun v u hv hu h1 h2 => ?_) ?_ ?_ ?_
      · refine hinj v (hp.mem_iff.mp hv) u ?_ (by omega)
        obtain ⟨t, g1, rfl⟩ := List.mem_map.mp hu
        rw [← z2]
        exact List.mem_map_of_mem (f := fun t : Value × (V × D) => t.1) (hp'.mem_iff.mp g1)
      · exact ho.imp fun {v u} h => by simpa using h
      · rw [List.pairwise_map]
        refine pw.imp_of_mem fun {t t'} g1 g2 h => ?_
        rw [(hf t (hp'.mem_iff.mp g1)).v, (hf t' (hp'.mem_iff.mp g2)).v]
        simpa [leF] using h
      · refine hp.trans ?_
        rw [← z2]
        exact (hp'.map _).symm
    have hv : Vals (L'.map (·.2.1)) out := by
      rw [eo]
      exact valsT fun t ht => (z1 t (hp'.mem_iff.mp ht)).1
    have hd : DrA X.K ph F (L'.map (·.2.1)) (ds.mergeSort leF) := by
      have e2 : L'.map (·.2.2) = ds.mergeSort leF := by
        show (L.mergeSort fun t t' => leF t.2.2 t'.2.2).map (fun t => t.2.2) = _
        rw [List.map_mergeSort (s := leF) (f := fun t : Value × (V × D) => t.2.2), z3]
        intro a _ b _
        rfl
      rw [← e2]
      exact drsT fun t ht => (z1 t (hp'.mem_iff.mp ht)).2
    have hlen2 : (L'.map (·.2.1)).length ≤ sizeLine := by
      rw [hd.len, List.length_mergeSort, ← dr.len]
      exact hz
    exact ⟨.ref _, upd H (s.heap.objs.size + 1) (.lst _), I.laid (t' := s.toks) (fun _ _ => PyProof.Rows.sortedAll_old) (Nat.le_succ _) ⟨hlen2, out, ep, hv, he'⟩, rfl, q _ _ hd (I.hok.fresh (Nat.le_succ _))⟩
theorem okSortedF : OkR X (rSortedFB X.K) (puR gSortedF) := OkR.pure fun Z ph F sto H xs ds d Q w bd q e k1 k2 => by
  generalize hm : ds.map (drf sto) = l at e
  unfold gSortedF at e
  split at e
  · split at e
    · rename_i ok
      cases e
      obtain ⟨v, a, rfl, rfl, h1, e1⟩ := dr1 q hm
      obtain ⟨ad, ys, rfl, g1, g2⟩ := rd_lst w h1 e1
      exact ⟨ph, F, ad, ys, _, rfl, SqL.of g1, g2, ok, w.sub, fun zs p hz hp => k2 _ rfl (by intro z; cases z) p _ hp fun hF => ⟨hF, _, upd_same, hz⟩⟩
    · cases e
  · cases e
theorem x_sortedF {W : WX} {k : Nat} {p pos : Pos} {e : Expr} {es : List Expr} {ma : M (List D)} (C : Ct k X) (hg : Gl X "sorted") (ha : SA W X (e :: es) ma) (he : starEach (e :: es) X.env = (false, eval e X.env) :: starEach es X.env := by rfl) (hpl : (backTo pos (starEach es X.env)).any (·.1) = false := by rfl) :
    SR W X (.Call (.Name "sorted" p) (e :: es) [] pos) (rN (puR gSortedF) ma) := sr_callB call_sortedFB okSortedF hg C.gz.zsorted PyProof.Rows.boot_sorted ha (by decide) (by decide) he hpl
end
end LW
/-! sorted of a tuple -/
namespace LWS
open PySem PyProof.Rows PySem.W
open PyProof.Rows (sortedAll)
variable {prog : Program} {w : World} {A : Around} {E : Value → Shared → Prop} {s : Shared}
theorem collect_tup {l : Addr} {o : Obj} {n : Nat} {vs : List Value} {Q : List Value → Shared → Prop} (ho : s.heap.get? l = some o) (hc : o.cls = .type "tuple") (hd : o.data = .seq vs.toArray n)
    (h : Q vs { s with heap := (s.heap.push (seqObj "list" #[] 0)).update s.heap.objs.size (Obj.mapSeq (· ++ vs.toArray)) }) (hsz : vs.length ≤ sizeLine) :
    wpAny (model prog w) A (collect (.ref l)) Q E s := by
  unfold collect
  refine wpAny_bind (wpAny_runValue (codeAny_builtin entry_proto_collect' ?_))
  show wpAny _ _ (do again (.builtin "list.__iadd__" ⟨[← newList [], .ref l], []⟩)) _ _ s
  refine wpAny_bind (wpAny_newList (wpAny_pure ⟨Code.quiet_builtin _ (by decide +kernel), codeAny_builtin entry_list_iadd' ?_⟩))
  show wpAny _ _ (Builtin.List.listExtendWith (.ref s.heap.objs.size) (.ref l) (.ref s.heap.objs.size)) _ _ { s with heap := s.heap.push (seqObj "list" #[] 0) }
  unfold Builtin.List.listExtendWith
  have ho' : (s.heap.push (seqObj "list" #[] 0)).get? l = some o := Heap.get?_push_of_some _ ho
  refine wpAny_bind (wpAny_typeOf (T := "tuple") ⟨o, ho', hc⟩ ?_)
  have ht : (Value.type "tuple" == Value.type "tuple") = true := by rfl
  rw [if_pos (by rw [ht]; simp)]
  refine wpAny_bind (listItems_at ho' hd ?_)
  refine wpAny_bind (listItems_at (xs := #[]) (n := 0) (Heap.get?_push_size _ rfl) rfl ?_)
  rw [if_neg (by simp)]
  refine wpAny_bind (listUpdate_at (xs := #[]) (n := 0) (Heap.get?_push_size _ rfl) rfl ?_ (Nat.zero_le _) (by show (#[] ++ vs.toArray).size ≤ sizeLine + 1; simp only [Array.size_append, List.size_toArray, List.length_nil]; omega))
  refine wpAny_pure ?_
  show wpAny (model prog w) A (do
      let o ← load s.heap.objs.size
      match o.data with
      | .seq xs _ => pure xs.toList
      | _ => unsupported "internal:collect") Q E { s with heap := (s.heap.push (seqObj "list" #[] 0)).update s.heap.objs.size (Obj.mapSeq (· ++ vs.toArray)) }
  refine wpAny_bind (wpAny_load (get?_update_seq (Heap.get?_push_size _ rfl) _) ?_)
  show wpAny _ _ (pure ((#[] : Array Value) ++ vs.toArray).toList) Q E _
  rw [show ((#[] : Array Value) ++ vs.toArray).toList = vs by simp]
  exact wpAny_pure h
theorem sortedT_of_sort {l : Addr} {o : Obj} {n : Nat} {vs : List Value} {Q : Value → Shared → Prop} (ho : s.heap.get? l = some o) (hc : o.cls = .type "tuple") (hd : o.data = .seq vs.toArray n) (hL : vs.length ≤ sizeLine)
    (body : ∀ E' : Value → Shared → Prop, wpAny (model prog w) A.in1.in1 (Builtin.«list.sort» ⟨[.ref (s.heap.objs.size + 1)], []⟩) (fun f s' => f = .done (.ret .none) ∧ Q (.ref (s.heap.objs.size + 1)) s') E' { s with heap := copyHeap s.heap vs }) :
    wpAny (model prog w) A (call (.builtin "sorted") [.ref l] []) Q E s := by
  refine Calls.call_function_entry kind_sorted plain_sorted entry_sorted (args_sorted1 _) ?_
  unfold Builtin.«sorted»
  refine wpAny_bind (m := checkCount "sorted" 1 1 _) (wpAny_pure ?_)
  refine wpAny_bind (collect_tup ho hc hd ?_ hL)
  refine wpAny_bind (wpAny_newList ?_ hL)
  have hsz : ((s.heap.push (seqObj "list" #[] 0)).update s.heap.objs.size (Obj.mapSeq (· ++ vs.toArray))).objs.size = s.heap.objs.size + 1 := by
    rw [Heap.size_update, size_push']
  show wpAny _ _ _ _ _ { s with heap := copyHeap s.heap vs }
  rw [hsz]
  refine wpAny_bind (wpAny_holding (wpAny_call_entry slot_list_sort ⟨_, copyHeap_at s.heap vs, rfl⟩ entry_list_sort ?body (args_list_sort _)))
  case body =>
    show wpAny (model prog w) A.in1.in1 (Builtin.«list.sort» ⟨[.ref (s.heap.objs.size + 1)], []⟩) _ _ _
    refine wpAny_mono (body _) (fun f s' hf => ?_) fun _ _ e => e
    obtain ⟨rfl, hq⟩ := hf
    exact ⟨_, rfl, wpAny_pure ⟨_, rfl, hq⟩⟩
theorem sortedT_data {β : Type} {R : Value → β → Prop} {enc : β → PyData} {vs : List Value} {bs : List β} {l : Addr} {o : Obj} {n : Nat} {Q : Value → Shared → Prop} (ho : s.heap.get? l = some o) (hc : o.cls = .type "tuple") (hd : o.data = .seq vs.toArray n) (e : EachIs R vs bs) (er : EachIs (fun v b => ∃ as, Reads s.heap v (enc b) as) vs bs) (hal : AllAlike (bs.map enc)) (hk : W.Sortable (bs.map enc)) (hL : bs.length ≤ sizeLine)
    (hu : ∀ b, b ∈ bs → A.units + 2 + (enc b).depth < cLine) (h : ∀ out, out.length = bs.length → EachIs R out (bs.mergeSort (dataLe false enc)) → Q (.ref (s.heap.objs.size + 1)) { s with heap := sortedAll s.heap vs (List.toArray out) }) :
    wpAny (model prog w) A (call (.builtin "sorted") [.ref l] []) Q E s := by
  have er' : EachIs (fun v b => ∃ as, Reads (sortingHeap (copyHeap s.heap vs) (s.heap.objs.size + 1) vs) v (enc b) as) vs bs := er.mono fun _ _ ⟨as, r⟩ => ⟨as, PyProof.Rows.Reads.keeps (fun _ _ => sorting_copy_old) r⟩
  refine sortedT_of_sort ho hc hd (by rw [e.length]; exact hL) fun _ => list_sort_vals (s := { s with heap := copyHeap s.heap vs }) (copyHeap_at s.heap vs) (SortsAt.data (s := { s with heap := sortingHeap (copyHeap s.heap vs) (s.heap.objs.size + 1) vs }) (each_map (R := fun v d => ∃ as, Reads (sortingHeap (copyHeap s.heap vs) (s.heap.objs.size + 1) vs) v d as) enc er') hal hk (bound_map hu)) (by rw [e.length]; exact hL) ⟨rfl, ?_⟩
  exact h _ (by rw [sortVals_length false rfl]; exact e.length) (sortVals_data false e er' hal)
end LWS
namespace LW
open PySem PySem.Spec L2
open PyProof.Rows (envOfC)
section
variable {X : Cx}
abbrev rSortedTA (K : PySem.W.Frag) (ph : List Addr) (F : Hp) : List V → Hp → VK → Prop := fun xs H Q => ∃ a ys ds, xs = [V.ref a] ∧ SqT K H a ys ∧ DrA K ph F ys ds ∧ okSrt ds = true ∧ (∀ b o, F b = some o → H b = some o) ∧
  ∀ zs p, DrA K ph F zs (ds.mergeSort leD) → H p = none → Q (.ref p) (upd H p (.lst zs))
abbrev rSortedTB (K : PySem.W.Frag) : List V → Hp → VK → Prop := fun xs H Q => ∃ ph F, rSortedTA K ph F xs H Q
def gSortedT (_ : List Cell) : List D → Option Rs
  | [.tup ds] => if okSrt ds = true then some (.c (.lst (ds.mergeSort leD))) else none
  | [.tpz ds] => if okSrt ds = true then some (.c (.lst (ds.mergeSort leD))) else none
  | _ => none
theorem call_sortedTB (hu : X.A.units + 64 < cLine) : CallR X (.builtin "sorted") (rSortedTB X.K) := by
  intro pins s sg H xs us Q I r h
  obtain ⟨ph, F, a, ys, ds, rfl, hs, dr, ok, sub, q⟩ := h
  obtain ⟨u, rfl, ru⟩ := vals1 r
  cases ru
  obtain ⟨its, rv, ⟨o, ho, hc, n, hd0⟩, hz⟩ := I.tuple hs
  have ok2 : okAl ds = true := by
    unfold okSrt at ok
    exact (Bool.and_eq_true _ _ ▸ ok).1
  obtain ⟨f1, f2, f3⟩ := okAl_of ok2
  obtain ⟨as, rd⟩ := Dp.readsAll I (pyA ds) ys its (DrA.dp sub _ _ f1 dr) rv
  have hlen := dr.len
  obtain ⟨z1, z2, z3⟩ := zip_all dr
  have em : (ys.zip ds).map (fun b => py b.2) = pyA ds := by
    rw [pyA_map, ← z2, List.map_map, z2]
    rfl
  refine LWS.sortedT_data (bs := ys.zip ds) (enc := fun b => py b.2) (R := fun v b => RelV b.1 v) ho hc hd0 (each_zip hlen rv) (each_reads hlen rd) ?_ ?_ ?_ ?_ fun out ho he => ?_
  · rw [em]
    exact f2.1
  · rw [em]
    exact srt_of ok
  · rw [List.length_zip, ← hlen, Nat.min_self]
    exact hz
  · intro b hb
    have : py b.2 ∈ pyA ds := by rw [← em]; exact List.mem_map_of_mem (f := fun b : V × D => py b.2) hb
    have := depth_le this
    omega
  · obtain ⟨ep, he'⟩ := PyProof.Rows.sortedAll_at s.heap its out.toArray
    have hv := each_vals (P := fun _ => True) he
    have hd : DrA X.K ph F (((ys.zip ds).mergeSort (PySem.W.dataLe false fun b => py b.2)).map (·.1)) (ds.mergeSort leD) := by
      have e2 : ((ys.zip ds).mergeSort (PySem.W.dataLe false fun b => py b.2)).map (·.2) = ds.mergeSort leD := by
        rw [List.map_mergeSort (s := leD) (f := fun b : V × D => b.2), z2]
        intro a _ b _
        rfl
      rw [← e2]
      exact drA_of fun p hp => z1 p (List.mem_mergeSort.mp hp)
    have hlen2 : (((ys.zip ds).mergeSort (PySem.W.dataLe false fun b => py b.2)).map (·.1)).length ≤ sizeLine := by
      rw [hd.len, List.length_mergeSort, ← hlen]
      exact hz
    exact ⟨.ref _, upd H (s.heap.objs.size + 1) (.lst _), I.laid (t' := s.toks) (fun _ _ => PyProof.Rows.sortedAll_old) (Nat.le_succ _) ⟨hlen2, out, ep, hv, he'⟩, rfl, q _ _ hd (I.hok.fresh (Nat.le_succ _))⟩
theorem okSortedT : OkR X (rSortedTB X.K) (puR gSortedT) := OkR.pure fun Z ph F sto H xs ds d Q w bd q e k1 k2 => by
  generalize hm : ds.map (drf sto) = l at e
  unfold gSortedT at e
  split at e
  · split at e
    · rename_i ok
      cases e
      obtain ⟨v, a, rfl, rfl, h1, e1⟩ := dr1 q hm
      obtain ⟨ad, ys, rfl, g1, g2⟩ := rd_tup w h1 e1
      exact ⟨ph, F, ad, ys, _, rfl, SqT.of g1, g2, ok, w.sub, fun zs p hz hp => k2 _ rfl (by intro z; cases z) p _ hp fun hF => ⟨hF, _, upd_same, hz⟩⟩
    · cases e
  · split at e
    · rename_i ok
      cases e
      obtain ⟨v, a, rfl, rfl, h1, e1⟩ := dr1 q hm
      obtain ⟨ad, ob, ys, rfl, g1, _, _, g2⟩ := rd_tpz w h1 e1
      exact ⟨ph, F, ad, ys, _, rfl, .inl (.inr ⟨_, g1⟩), g2, ok, w.sub, fun zs p hz hp => k2 _ rfl (by intro z; cases z) p _ hp fun hF => ⟨hF, _, upd_same, hz⟩⟩
    · cases e
  · cases e
theorem x_sortedT {W : WX} {k : Nat} {p pos : Pos} {e : Expr} {es : List Expr} {ma : M (List D)} (C : Ct k X) (hg : Gl X "sorted") (ha : SA W X (e :: es) ma) (he : starEach (e :: es) X.env = (false, eval e X.env) :: starEach es X.env := by rfl) (hpl : (backTo pos (starEach es X.env)).any (·.1) = false := by rfl) :
    SR W X (.Call (.Name "sorted" p) (e :: es) [] pos) (rN (puR gSortedT) ma) := sr_callB (call_sortedTB C.u64) okSortedT hg C.gz.zsorted PyProof.Rows.boot_sorted ha (by decide) (by decide) he hpl

/-! index of a tuple of ints -/
def rIndexT (K : PySem.W.Frag) : V → List V → Hp → VK → Prop := fun x ys H Q => ∃ (a : Addr) (ns : List Int) (k : Int), x = V.ref a ∧ ys = [V.int k] ∧ SqT K H a (ns.map V.int) ∧ k ∈ ns ∧ Q (.int (ns.idxOf k : Nat)) H
theorem intsAre_of : ∀ {ns : List Int} {its : List Value}, Vals (ns.map V.int) its → PyProof.Rows.IntsAre its ns
  | [], _, r => by cases r; exact .nil
  | n :: ns, _, r => by
    cases r with
    | cons r1 r2 =>
      obtain ⟨t, rfl⟩ := (show ∃ t, _ = Value.int n t from r1)
      exact .cons n t (intsAre_of r2)
theorem mt_indexT : MtR X "tuple.index" (rIndexT X.K) := by
  intro pins s σ H x xs v us Q I rx rxs h
  obtain ⟨a, ns, k, rfl, rfl, hs, hk, q⟩ := h
  cases rx
  cases rxs with
  | cons ry rt =>
    cases rt
    obtain ⟨t, rfl⟩ := (show ∃ t, _ = Value.int k t from ry)
    obtain ⟨its, rv, ht, hz⟩ := I.tuple hs
    exact SeqAt.tuple_index_ints ht (intsAre_of rv) hk ⟨.int _, H, I.kept (t' := _) fun b o e => e, ⟨_, rfl⟩, q⟩
def intsD : List D → Option (List Int)
  | [] => some []
  | .int i :: r => (intsD r).map (i :: ·)
  | _ => none
theorem intsD_ok {K : PySem.W.Frag} {ph : List Addr} {F : Hp} : ∀ {ds : List D} {ns : List Int} {xs : List V}, intsD ds = some ns → DrA K ph F xs ds → xs = ns.map V.int
  | [], ns, xs, e, h => by cases e; cases h; rfl
  | .int i :: r, ns, xs, e, h => by
    cases h with
    | cons h1 h2 =>
      cases h1
      unfold intsD at e
      cases g : intsD r with
      | none => rw [g] at e; cases e
      | some m =>
        rw [g] at e
        cases e
        rw [intsD_ok g h2]
        rfl
  | .non :: _, _, _, e, _ => by cases e
  | .bl _ :: _, _, _, e, _ => by cases e
  | .str _ :: _, _, _, e, _ => by cases e
  | .tup _ :: _, _, _, e, _ => by cases e
  | .lst _ :: _, _, _, e, _ => by cases e
  | .dK _ _ :: _, _, _, e, _ => by cases e
  | .dT _ _ :: _, _, _, e, _ => by cases e
  | .loc _ :: _, _, _, e, _ => by cases e
  | .scr _ :: _, _, _, e, _ => by cases e
def gIndexT (_ : List Cell) : List D → Option D
  | [.tup ds, .int k] => (match intsD ds with
    | some ns => if k ∈ ns then some (.int (ns.idxOf k : Nat)) else none
    | none => none)
  | _ => none
theorem okIndexT : OkN X (mR (rIndexT X.K)) (pu gIndexT) := OkN.pure fun Z ph F sto H xs ds d Q w bd q e k1 k2 => by
  generalize hm : ds.map (drf sto) = l at e
  unfold gIndexT at e
  split at e
  · split at e
    · rename_i ns hns
      split at e
      · rename_i hk
        cases e
        obtain ⟨v, u, a, b, rfl, rfl, h1, h2, e1, e2⟩ := dr2 q hm
        rw [int_of h2 e2]
        obtain ⟨ad, ys, rfl, g1, g2⟩ := rd_tup w h1 e1
        have := intsD_ok hns g2
        subst this
        exact ⟨_, _, rfl, ad, ns, _, rfl, rfl, SqT.of g1, hk, k1 _ (.int _)⟩
      · cases e
    · cases e
  · cases e

/-! tuple(list) that is known to be plain -/
abbrev rTupleZ (K : PySem.W.Frag) : List V → Hp → VK → Prop := fun xs H Q => ∃ p ys, xs = [V.ref p] ∧ SqL K H p ys ∧ ∀ (l : Addr) (ob : Obj), H l = none → ob.cls = .type "tuple" → ob.dict = none → Q (.ref l) (upd H l (.frz ob (.tup ys)))
theorem call_tupleZ : CallR X (.type "tuple") (rTupleZ X.K) := by
  intro pins s σ H xs us Q I r h
  obtain ⟨p, ys, rfl, hq, q⟩ := h
  obtain ⟨u, rfl, rx⟩ := vals1 r
  cases rx
  obtain ⟨its, r', pl, hz⟩ := I.list hq
  have hlen := r'.length
  refine call_tuple_list pl.isList (fun h' kp => ?_) (by simp only [List.size_toArray] <;> omega)
  have I1 : Inv X pins σ H { s with heap := h' } := I.kept (t' := s.toks) kp
  have I2 : Inv X pins σ (upd H h'.objs.size (.frz { cls := .type "tuple", data := .seq its.toArray } (.tup ys))) { s with heap := h'.push { cls := .type "tuple", data := .seq its.toArray } } :=
    I1.laid (t' := s.toks) (fun b o e => Heap.get?_push_of_some _ e) (Nat.le_refl _) (show ObjOk X.prog X.w _ _ _ (.frz { cls := .type "tuple", data := .seq its.toArray } (.tup ys)) from ⟨Heap.get?_push_size _ rfl, hz, its, r', PyProof.Rows.IsTup.new _ _⟩)
  exact ⟨.ref h'.objs.size, _, I2, rfl, q _ _ (I1.hok.fresh (Nat.le_refl _)) rfl rfl⟩
def gTupleZ (_ : List Cell) : List D → Option D
  | [.lst ds] => some (.tpz ds)
  | _ => none
theorem okTupleZ : OkN X (rTupleZ X.K) (pu gTupleZ) := OkN.pure fun Z ph F sto H xs ds d Q w bd q e k1 k2 => by
  generalize hm : ds.map (drf sto) = l at e
  unfold gTupleZ at e
  split at e
  · cases e
    obtain ⟨v, a, rfl, rfl, h1, e1⟩ := dr1 q hm
    obtain ⟨ad, ys, rfl, g1, g2⟩ := rd_lst w h1 e1
    refine ⟨ad, ys, rfl, SqL.of g1, fun p ob hp hc hd => ?_⟩
    obtain ⟨hF, hZ, hph⟩ := w.fresh hp
    exact k2 p _ _ hp rfl (w.lay hp) (extF hF) _ (.tpz upd_same hc hd (g2.up (extF hF)))
  · cases e
theorem x_tupleZ {W : WX} {k : Nat} {p pos : Pos} {e : Expr} {es : List Expr} {ma : M (List D)} (C : Ct k X) (hg : Gl X "tuple") (ha : SA W X (e :: es) ma) (he : starEach (e :: es) X.env = (false, eval e X.env) :: starEach es X.env := by rfl) (hpl : (backTo pos (starEach es X.env)).any (·.1) = false := by rfl) :
    SE W X (.Call (.Name "tuple" p) (e :: es) [] pos) (eN (pu gTupleZ) ma) := se_callTy call_tupleZ okTupleZ hg C.gz.ztuple PyProof.Rows.boot_tuple ha (by decide) (by decide) he hpl
/-! t.index(x) of a plain tuple -/
def gIndexZ (_ : List Cell) : List D → Option D
  | [.tpz ds, .int k] => (match intsD ds with
    | some ns => if k ∈ ns then some (.int (ns.idxOf k : Nat)) else none
    | none => none)
  | _ => none
def eIxZ (mo : M D) (ma : M (List D)) : M D := bnd mo fun d s => match d with
  | .tpz ds => bnd ma (fun es s => opt (α := D) (pu gIndexZ s (.tpz ds :: es))) s
  | _ => .bad
theorem pe_ixZ {o e : Expr} {es : List Expr} {apos cpos : Pos} {to : TE} {t : TA} (ho : PE X o to) (ha : PA X (e :: es) t)
    (hbase : attributeBase o "index" X.env (eval o X.env) = eval o X.env := by rfl)
    (hfew : ((backTo cpos (starEach (e :: es) X.env)).all (fun x => !x.1) && (backToKw cpos (keywordEach [] X.env)).all (fun x => x.1.isSome)
      && decide ((e :: es).length + ([] : List Keyword).length + (if ([] : List Keyword).isEmpty then 0 else 1) < 30)) = true := by rfl)
    (hline : (apos.endLine == cpos.line) = true := by rfl) (hs : starEach (e :: es) X.env = (false, eval e X.env) :: starEach es X.env := by rfl) (hplain : (backTo cpos (starEach es X.env)).any (·.1) = false := by rfl) :
    PE X (.Call (.Attribute o "index" apos) (e :: es) [] cpos) (fun σ H Q => to σ H fun x H1 => (∃ a ob xs, x = V.ref a ∧ H1 a = some (.frz ob (.tup xs)) ∧ ob.cls = .type "tuple" ∧ ob.dict = none) ∧ t σ H1 fun ys H2 => rIndexT X.K x ys H2 Q) := by
  refine ⟨fun pins s σ H Q I h => ?_⟩
  refine wpAny_Call_method_late hbase hfew hline rfl (thn (ho.run pins s σ H _ I h) fun v s1 ⟨x, H1, I1, r1, ty, q1⟩ => ?_)
  obtain ⟨a, ob, xs, rfl, hH, hc, hd⟩ := ty
  cases r1
  obtain ⟨hg, _⟩ := (show ObjOk X.prog X.w H1 s1.heap a (.frz ob (.tup xs)) from I1.hok a _ hH)
  refine ⟨"tuple", "tuple.index", PySem.F.plainAttrs_tuple, PySem.F.slot_tuple_index, PySem.F.type_tuple_index, ⟨ob, hg, hc⟩, fun b e => (by cases e; exact ⟨ob, hg, hd⟩), ?_⟩
  have hA := ha.run cpos pins s1 σ H1 _ I1 q1
  rw [hs] at hA ⊢
  refine Calls.callWith_builtin (by show (false || (backTo cpos (starEach es X.env)).any (·.1)) = false; rw [hplain] <;> rfl) (Calls.evalArgs_plain ?_)
  exact thn hA fun us s2 ⟨vs, H2, I2, r2, q2⟩ => mt_indexT pins s2 σ H2 (V.ref a) vs (Value.ref a) us Q I2 (show RelV (V.ref a) (Value.ref a) from rfl) r2 q2
theorem x_indexZ {W : WX} {o e : Expr} {es : List Expr} {apos pos : Pos} {mo : M D} {ma : M (List D)} (ho : SE W X o mo) (ha : SA W X (e :: es) ma)
    (hbase : attributeBase o "index" X.env (eval o X.env) = eval o X.env := by rfl)
    (hfew : ((backTo pos (starEach (e :: es) X.env)).all (fun x => !x.1) && (backToKw pos (keywordEach [] X.env)).all (fun x => x.1.isSome)
      && decide ((e :: es).length + ([] : List Keyword).length + (if ([] : List Keyword).isEmpty then 0 else 1) < 30)) = true := by rfl)
    (hline : (apos.endLine == pos.line) = true := by rfl) (hs : starEach (e :: es) X.env = (false, eval e X.env) :: starEach es X.env := by rfl) (hplain : (backTo pos (starEach es X.env)).any (·.1) = false := by rfl) :
    SE W X (.Call (.Attribute o "index" apos) (e :: es) [] pos) (eIxZ mo ma) :=
  SE.of (pe_ixZ ho.pe ha.pa hbase hfew hline hs hplain) fun Z ph F s sg H Q r bd h => by
    refine tE_bnd kdE r h fun d1 s1 v1 H1 p1 F1 x1 r1 q1 b1 h1 => ?_
    cases d1 with
    | tpz ds =>
      obtain ⟨a, ob, xs, rfl, g1, g2, g3, g4⟩ := rd_tpz r1.w (sto := s1.sto) q1 rfl
      refine ⟨⟨a, ob, xs, rfl, g1, g2, g3⟩, ?_⟩
      refine tA_bnd kdE r1 (h1.up x1) fun d2 s2 v2 H2 p2 F2 x2 r2 q2 b2 h2 => ?_
      obtain ⟨d, s', e, k⟩ := opt_res (h2.up x2)
      obtain ⟨e, rfl⟩ := pu_inv e
      have q3 := q1.up x2
      simp only [List.map_cons] at e
      unfold gIndexZ at e
      split at e
      · rename_i es' kk heq
        split at e
        · rename_i ns hns
          split at e
          · rename_i hk
            cases e
            simp only [List.cons.injEq] at heq
            obtain ⟨he1, he2⟩ := heq
            cases he1
            obtain ⟨v3, d3, rfl, rfl, t1, he3⟩ := dr1 q2 he2
            rw [int_of t1 he3]
            obtain ⟨a', ob', ys, e5, k1, _, _, k2⟩ := rd_tpz r2.w (sto := s'.sto) q3 rfl
            cases e5
            have := intsD_ok hns k2
            subst this
            exact ⟨a, ns, kk, rfl, rfl, .inl (.inr ⟨_, k1⟩), hk, fun b => k _ H2 p2 F2 .refl r2 (.int _) b⟩
          · cases e
        · cases e
      · cases e
    | _ => exact h1.elim
end
end LW
namespace LW
open PySem PySem.Spec L2
open PyProof.Rows (envOfC)
/-! own classes of exceptions -/
/-- made of a text, without an own __init__ -/
structure PX (K : PySem.W.Frag) (mg : Str → Option Value) (x : Str) : Prop where
  ex : ∃ C : Addr, mg x = some (.ref C) ∧ PySem.W.excIn K C [.type "ValueError", .type "Exception", .type "BaseException", .type "object"] "ValueError.__new__" = true ∧ PySem.W.keepIn K (.ref C) = true ∧
    PySem.W.subIn K (.ref C) (.type "BaseException") = some true ∧ PySem.W.typeIn K (.ref C) = some (.type "type")
/-- an exception of the class y is taken by 'except x' -/
structure Ex (K : PySem.W.Frag) (mg : Str → Option Value) (y x : Str) : Prop where
  ex : ∃ C C' : Addr, mg y = some (.ref C) ∧ mg x = some (.ref C') ∧ PySem.W.exmOne K (.ref C) (.ref C') = some true
/-- what an __init__ of two fields does to a new exception of the class at C -/
def spI2 (C : Addr) (f g : Str) : Sp := fun vs H Q _ => ∃ (a : Addr) (y z : V), vs = [.ref a, y, z] ∧ H a = some (exo a C none) ∧
  ∀ dx, H dx = none → dx ≠ a → Q .non (upd (upd (upd H dx (exd dx [(f, y)])) a (exo a C (some dx))) dx (exd dx [(g, z), (f, y)]))
/-- a class with such an __init__ -/
structure IX (P : Program) (w : World) (K : PySem.W.Frag) (mg : Str → Option Value) (base : Heap) (k : Nat) (x f g : Str) : Prop where
  ex : ∃ (C fI : Addr) (fd : FuncData) (ps : List Str), mg x = some (.ref C) ∧ OexC K C ∧ PySem.W.findIn K (.ref C) "__init__" = some (some (.ref fI)) ∧ PySem.W.typeIn K (.ref fI) = some (.type "function") ∧
    FnOk P w K mg base (L2.CX P w) k fI fd ps (spI2 C f g) ∧ Binds K fd ps []
def tInit (K : PySem.W.Frag) (f g t : Str) : TS := tSeq (tDrop (tVeI K (tCons (tVar 0) (tCons (tC (.str t)) tNil)))) (tSeq (tOst K f (tVar 0) (tVar 1)) (tOst K g (tVar 0) (tVar 2)))
theorem init_pure {K : PySem.W.Frag} {C : Addr} {f g t : Str} {N : List Str} (hN : N.length = 3) (T : OexC K C) (nf : PySem.W.findIn K (.ref C) f = some none) (ng : PySem.W.findIn K (.ref C) g = some none) {vs : List V} {H : Hp} {Q : VK} {E : XK} (h : spI2 C f g vs H Q E) :
    tInit K f g t { nx := fun _ H' => Q .non H', rt := Q } (L2.start N vs) H := by
  obtain ⟨a, y, z, rfl, ha, k⟩ := h
  refine ⟨_, rfl, a, C, [.str t], rfl, by simp, T, ha, ?_⟩
  refine ⟨y, rfl, .ref a, rfl, a, C, rfl, T, nf, .inl ⟨ha, fun dx hdx hne => ?_⟩⟩
  refine ⟨z, rfl, .ref a, rfl, a, C, rfl, T, ng, .inr ⟨dx, _, upd_same, by rw [upd_ne hne, upd_same], by simp, k dx hdx hne⟩⟩
/-- the base class: its __init__ is ValueError's -/
structure BX (K : PySem.W.Frag) (mg : Str → Option Value) (x : Str) : Prop where
  ex : ∃ (C : Addr) (mc : Value), mg x = some (.ref C) ∧ PySem.W.specialIn K (.ref C) "__getattribute__" = some (some (.builtin "type.__getattribute__")) ∧ PySem.W.readsIn K C mc = true ∧
    PySem.W.findCls K (.ref C) mc "__init__" = some (.val (.builtin "ValueError.__init__"))
section
variable {X : Cx} {W : WX} {pos pos' : Pos} {x f g : Str} {e : Expr} {es : List Expr} {m : M (List D)} {ta : TA} {p p1 p2 : Pos}
/-- WayError.__init__(self, ..) -/
theorem pe_winit {CW : Addr} {mc : Value} {pl : Sem Bool} (hg : Gl X x) (hm : X.mg x = some (.ref CW)) (ga : PySem.W.specialIn X.K (.ref CW) "__getattribute__" = some (some (.builtin "type.__getattribute__"))) (rd : PySem.W.readsIn X.K CW mc = true)
    (vV : PySem.W.findCls X.K (.ref CW) mc "__init__" = some (.val (.builtin "ValueError.__init__"))) (ha : PA X (e :: es) ta) (hdb : (x == ("__debug__" : Str)) = false := by decide)
    (hc : eval (.Call (.Attribute (.Name x p1) "__init__" p2) (e :: es) [] pos) X.env = (do
      let ov ← eval (.Name x p1) X.env
      standAt p2.atName
      let (f, first) ← holding [ov] (getMethod ov "__init__" pl)
      callWith pos f first (backTo pos (starEach (e :: es) X.env)) (backToKw pos (keywordEach [] X.env))) := by rfl)
    (he : starEach (e :: es) X.env = (false, eval e X.env) :: starEach es X.env := by rfl) (hpl : (backTo pos (starEach es X.env)).any (·.1) = false := by rfl) :
    PE X (.Call (.Attribute (.Name x p1) "__init__" p2) (e :: es) [] pos) (tVeI X.K ta) := by
  refine ⟨fun pins s σ H Q I h => ?_⟩
  refine PySem.W.methodCall_KW (ld_glob I hg hm ?_ hdb) hc
  refine PySem.W.method_cls I.kIn ga (PySem.W.cls_value I.kIn rd vV (by first | rfl | decide | decide +kernel) ?_)
  show wpAny _ _ (callWith pos (Value.builtin "ValueError.__init__") [] (backTo pos (starEach (e :: es) X.env)) []) _ _ _
  refine PyProof.Rows.callWith_method1 (thn (ha.run pos pins _ σ H _ (I.tok _) h) fun us s1 ⟨vs, H1, I1, r1, a, C, ws, ev, hl, T, ea, q⟩ => ?_) he hpl
  subst ev
  cases r1 with
  | @cons _ u0 _ ur ra rw' =>
    obtain rfl : u0 = Value.ref a := ra
    have hlen : ur.length ≤ sizeLine := by
      rw [← Paired.length rw', sizeLine_eq]
      omega
    exact oinit_ok T I1 ea hlen fun s' J => ⟨.non, H1, J, rfl, q⟩
def sRaise0 (x : Str) : MS := fun s => .exc ⟨x, []⟩ s
theorem ss_raise0 {t : Str} {j : Nat} (hc : X.calm = true) (tk : Takes X W) (c : PX X.K X.mg x) (hg : Gl X x) (hdb : (x == ("__debug__" : Str)) = false := by decide) : SS W X (.Raise (some (.Call (.Name x p) [.Constant (.str t) j p2] [] pos)) none pos') (sRaise0 x) := by
  obtain ⟨C, gC, xC, kC, bC, tC⟩ := c.ex
  exact SS.of (ps_raise hc tk (pmk_own PySem.F.excBase_ValueError xC gC kC (raises_own bC tC) hg hdb)) fun Z ph F s sg H E r bd h => h (.ref C) none sg H ph F .refl r ⟨gC, .inl ⟨rfl, rfl⟩⟩
def sRaise2 (x f g : Str) (m : M (List D)) : MS := bndS m fun ds s => match ds with
  | [d1, d2] => .exc ⟨x, [(g, d2), (f, d1)]⟩ s
  | _ => .bad
theorem ss_raise2 {k j : Nat} (C0 : Ct k X) (tk : Takes X W) (c : IX X.prog X.w X.K X.mg X.base j x f g) (hj : j + 1 ≤ k) (hg : Gl X x) (ha : SA W X (e :: es) m) (hdb : (x == ("__debug__" : Str)) = false := by decide)
    (he : starEach (e :: es) X.env = (false, eval e X.env) :: starEach es X.env := by rfl) (hpl : (backTo pos (starEach es X.env)).any (·.1) = false := by rfl) :
    SS W X (.Raise (some (.Call (.Name x p) (e :: es) [] pos)) none pos') (sRaise2 x f g m) := by
  obtain ⟨C, fI, fd, ps, gC, T, iC, tI, F1, b⟩ := c.ex
  refine SS.of (ps_raise C0.cm tk (pmk_oex T iC tI F1 (C0.room.mono hj) b .nil (fun pins σ H s e s' I c => passAt takesW0 σ pins H s e s' I c) hg gC ha.pa hdb he hpl)) fun Z ph F s sg H E r bd h => ?_
  refine tA_bndS r h fun d s' v H1 p1 F1' x1 r1 q1 b1 h1 => ?_
  match d, h1, q1 with
  | [d1, d2], h1, q1 =>
    cases q1 with
    | @cons v1 _ _ _ r1a r1b =>
      cases r1b with
      | @cons v2 _ _ _ r2a r2b =>
        cases r2b
        refine ⟨by simp, fun a ha' => ⟨a, v1, v2, rfl, upd_same, fun dx hdx hne => ?_⟩⟩
        have hd1 : H1 dx = none := by rw [upd_ne hne] at hdx; exact hdx
        refine ⟨rfl, dx, [(g, v2), (f, v1)], by rw [upd_ne (Ne.symm hne), upd_same], upd_same, hd1, ?_⟩
        have eH : upd (del (upd (upd (upd (upd H1 a (exo a C none)) dx (exd dx [(f, v1)])) a (exo a C (some dx))) dx (exd dx [(g, v2), (f, v1)])) a) dx (.xd [(g, v2), (f, v1)]) = upd H1 dx (.xd [(g, v2), (f, v1)]) := by
          funext b
          by_cases hb : b = dx
          · subst hb; rw [upd_same, upd_same]
          · rw [upd_ne hb, upd_ne hb]
            by_cases hba : b = a
            · subst hba; rw [del_same, ha']
            · rw [del_ne hba, upd_ne hb, upd_ne hba, upd_ne hb, upd_ne hba]
        rw [eH]
        exact h1 (.ref C) (some dx) sg _ p1 _ (r1.ext hd1) (r1.lay hd1) ⟨gC, .inr ⟨dx, _, rfl, upd_same, upd_same, .cons (r2a.up (r1.ext hd1)) (.cons (r1a.up (r1.ext hd1)) .nil)⟩⟩
  | [], h1, _ => exact h1.elim
  | [_], h1, _ => exact h1.elim
  | _ :: _ :: _ :: _, h1, _ => exact h1.elim
theorem Ct.t {k : Nat} (C : Ct k X) {pn : List (Addr × Obj)} {xe : Value → Shared → Prop} : Ct k (X.tr pn xe) := ⟨C.room, C.gd, C.cm, C.nd, C.gz⟩
theorem Ex.t {K : PySem.W.Frag} {mg : Str → Option Value} {y : Str} (h : Ex K mg y x) : ∃ c : Addr, mg x = some (.ref c) := by
  obtain ⟨_, c, _, hc, _⟩ := h.ex
  exact ⟨c, hc⟩
theorem ex_nil {K : PySem.W.Frag} {mg : Str → Option Value} : ∀ y, ([] : List Str).contains y = true → Ex K mg y x := fun y h => by simp at h
theorem ex_cons {K : PySem.W.Frag} {mg : Str → Option Value} {c : Str} {cs : List Str} (h : Ex K mg c x) (t : ∀ y, cs.contains y = true → Ex K mg y x) : ∀ y, (c :: cs).contains y = true → Ex K mg y x := fun y hy => by
  rw [List.contains_cons, Bool.or_eq_true, beq_iff_eq] at hy
  rcases hy with rfl | hy
  · exact h
  · exact t y hy
def noX : OutS → OutS
  | .exc _ _ => .bad
  | o => o
/-- try: .. except c: .. (without a name); cs: the classes that are taken -/
def sTry (cs : List Str) (mb ms : MS) : MS := fun s => match mb s with
  | .exc x s' => if cs.contains x.cls = true then noX (ms s') else .bad
  | o => o
theorem ss_try {cs : List Str} {np : Pos} {body suite : List Stmt} {b₀ : Stmt} {mb ms : MS} (hs : X.stack = X.env :: X.outer) (hf : X.env.frame = some X.env.locals) (hx : ∃ c : Addr, X.mg x = some (.ref c)) (hg : Gl X x) (tk : Takes X W)
    (hb : ∀ (W' : WX) (pn : List (Addr × Obj)) (xe : Value → Shared → Prop), Takes (X.tr pn xe) W' → SB W' (X.tr pn xe) body mb)
    (hsu : ∀ (a : Addr) (pn : List (Addr × Obj)), SB W0 (X.suite a pn) (b₀ :: suite) ms)
    (hm : ∀ y, cs.contains y = true → Ex X.K X.mg y x) (hdb : (x == ("__debug__" : Str)) = false := by decide) :
    SS W X (.Try body [.ExceptHandler (some (.Name x np)) none (b₀ :: suite) pos'] [] [] pos) (sTry cs mb ms) := by
  obtain ⟨c, hx⟩ := hx
  refine SS.of (ps_try_only (c := .ref c) (tb := fun W' => tS X.K X.mg W' mb) (ts := fun a cls d => tS X.K X.mg W0 ms) hs hf ⟨hg, hdb, .inl hx⟩ tk (fun W' pn xe tk' _ => (hb W' pn xe tk').ps) (fun a oe cls d pn _ _ => (hsu a _).ps)) fun Z ph F s sg H E r bd h => ⟨Z, ph, F, s, r, ?_⟩
  unfold sTry at h
  cases e : mb s with
  | nx s' => rw [e] at h; exact ResS.bd (o := .nx s') h
  | rt d s' => rw [e] at h; exact ResS.bd (o := .rt d s') h
  | bad => rw [e] at h; exact h.elim
  | exc y s' =>
    rw [e] at h
    simp only at h
    split at h
    · rename_i hy
      intro c' dd sg' H' ph' F' ext rel xr
      obtain ⟨C1, C2, g1, g2, hex⟩ := (hm _ hy).ex
      obtain ⟨xr1, _⟩ := xr
      rw [g1] at xr1
      cases Option.some.inj xr1
      rw [hx] at g2
      cases Option.some.inj g2
      refine ⟨true, hex, fun _ a ha => ⟨Z, ph', F', s', rel, ?_⟩, fun q => nomatch q⟩
      have h := h.up ext
      cases e2 : ms s' with
      | nx s2 => rw [e2] at h; exact ResS.bd (W := W0) (o := .nx s2) h
      | rt d s2 => rw [e2] at h; exact ResS.bd (W := W0) (o := .rt d s2) h
      | bad => rw [e2] at h; exact h.elim
      | exc _ _ => rw [e2] at h; exact h.elim
    · exact h.elim
end

theorem exm_mk {K : PySem.W.Frag} {S c : Addr} (h1 : PySem.W.subIn K (.ref c) (.type "BaseException") = some true) (h2 : PySem.W.isClsIn K c = true) (h3 : PySem.W.typeIn K (.ref c) = some (.type "type")) (h4 : PySem.W.subIn K (.ref S) (.ref c) = some true) :
    PySem.W.exmOne K (.ref S) (.ref c) = some true := by
  have h2' : (PySem.W.clsIn K c).isSome = true := h2
  simp only [PySem.W.exmOne, PySem.W.kitCls, h1, h2', h3, h4, beq_self_eq_true, Bool.and_self, if_true]
/-! an __init__ of two fields -/
section
variable {P : Program} {w : World} {K : PySem.W.Frag} {mg : Str → Option Value} {base : Heap}
theorem ix_mk {x qual f g s1 s2 s3 t : Str} {C fI : Addr} {fd : FuncData} {st : Stmt}
    (gC : mg x = some (.ref C)) (T : OexC K C) (iC : PySem.W.findIn K (.ref C) "__init__" = some (some (.ref fI))) (tI : PySem.W.typeIn K (.ref fI) = some (.type "function"))
    (nf : PySem.W.findIn K (.ref C) f = some none) (ng : PySem.W.findIn K (.ref C) g = some none)
    (F : Fun K "__init__" qual st fI fd) (Sc : FnScope [s1, s2, s3] [s1, s2, s3] (defScope st)) (b : Binds K fd [s1, s2, s3] [])
    (hw : ∀ (cdv : Value) (A : Around) (outer : List Env) (s : Shared) (H : Hp) (E : XK), PSs (cxOf (L2.CX P w) P w K mg base [s1, s2, s3] qual (defScope st) fI cdv A outer s H E) (defBody st) (tInit K f g t)) : IX P w K mg base 1 x f g :=
  ⟨⟨C, fI, fd, _, gC, T, iC, tI, Fun.okX F Sc (fun vs H Q E h => by obtain ⟨a, y, z, rfl, _⟩ := h; rfl) (fun cdv A outer s H vs Q E hr h => ⟨tInit K f g t, hw cdv A outer s H E, init_pure rfl T nf ng h⟩), b⟩⟩
end
end LW
namespace LW
open PySem PySem.Spec L2
open PyProof.Rows (envOfC)
/-! enumerate of a tuple -/
section
theorem enT_new {v : Value} {o : Obj} {P : Heap → Prop} (B : Begins v o P) :
    Meets (Builtin.«enumerate.__new__» ⟨[.type "enumerate", v], []⟩) (fun _ R s => P s.heap ∧
      R (.ok (.ret (.ref (s.heap.push o).objs.size))) { s with heap := (s.heap.push o).push { cls := .type "enumerate", data := .fields #[.none, .bool false, .ref s.heap.objs.size, rawInt 0, .none, .none] } }) :=
  .of_wp fun prog w A R s h => by
    obtain ⟨hp, g, d, tk, os⟩ := s; obtain ⟨h1, h⟩ := h
    have hsub := sub_enumerate
    have q1 : ∀ {A' : Around} {E : Value → Shared → Prop} {Q : Value → Shared → Prop}, Q (.ref hp.objs.size) ⟨hp.push o, g, d, tk, os⟩ → wpAny (model prog w) A' (pyIter v) Q E ⟨hp, g, d, tk, os⟩ :=
      fun q => B.iter prog w _ _ ⟨hp, g, d, tk, os⟩ _ h1 q
    wp_walk using q1
    refine wpAny_stack_any fun st => wpAny_pure ?_
    split
    · rename_i c _ _ _ _ _
      cases (c == Value.type "enumerate")
      · wp_walk using q1
        exact ⟨_, rfl, h⟩
      · wp_walk using q1
        exact ⟨_, rfl, h⟩
    · wp_walk using q1
      exact ⟨_, rfl, h⟩
variable {prog : Program} {w : World} {A : Around} {E : Value → Shared → Prop} {s : Shared}
theorem enT_call {v : Value} {o : Obj} {P : Heap → Prop} {Q : Value → Shared → Prop} (B : Begins v o P) (h1 : P s.heap)
    (h : ∀ h', IsEnum h' (s.heap.objs.size + 1) s.heap.objs.size 0 .none → h'.get? s.heap.objs.size = some o → h'.objs.size = s.heap.objs.size + 2 →
      (∀ b o, s.heap.get? b = some o → h'.get? b = some o) → Q (.ref (s.heap.objs.size + 1)) { s with heap := h' }) :
    wpAny (model prog w) A (call (.type "enumerate") [v]) Q E s := by
  refine callType_new F.called_enumerate (by decide) (F.typeCall_enumerate_1 _) (F.newCall_enumerate_1 _) (fun obj => F.args_object_init_2 obj _) F.entry_enumerate_new (enT_new B) ⟨h1, ?_⟩
  have hz : (s.heap.push o).objs.size = s.heap.objs.size + 1 := Heap.size_push ..
  show _ ∧ _
  rw [hz]
  have he : IsEnum ((s.heap.push o).push { cls := .type "enumerate", data := .fields #[.none, .bool false, .ref s.heap.objs.size, rawInt 0, .none, .none] }) (s.heap.objs.size + 1) s.heap.objs.size 0 .none := by
    have := Heap.get?_push_size (s.heap.push o) (o := { cls := .type "enumerate", data := .fields #[.none, .bool false, .ref s.heap.objs.size, rawInt 0, .none, .none] }) rfl
    rw [hz] at this; exact this
  exact ⟨⟨_, he, rfl⟩, h _ he (Heap.get?_push_of_some _ (Heap.get?_push_size _ B.free)) (by rw [Heap.size_push, hz]) fun b o x => Heap.get?_push_of_some _ (Heap.get?_push_of_some _ x)⟩
end
/-- the tuple at a, each item in a new pair -/
def IteT (K : PySem.W.Frag) (a : Addr) : It :=
  ⟨fun i H => ∃ (xs : List V) (x : V), SqT K H a xs ∧ xs[i]? = some x, fun i H v H' => ∃ T x, v = .ref T ∧ H T = none ∧ H' = upd H T (.tup [.int (i : Nat), x]) ∧ ∀ xs, SqT K H a xs → xs[i]? = some x, fun i H => ∃ xs : List V, SqT K H a xs ∧ xs.length ≤ i⟩
theorem turn_enT {P : Program} {w : World} {K : PySem.W.Frag} {elts : List Expr} {kk : Nat} {tpos : Pos} (a e it : Addr) :
    Turn P w K (.Tuple elts kk tpos) (IteT K a) [e, it] e (fun i h => (∃ old, IsEnum h e it ((i : Nat) : Int) old) ∧ h.IsTupleIter it a i ∧ e ≠ it ∧ e ≠ a ∧ a ≠ it) where
  mem := by simp
  obj := fun i h st b hb => by
    obtain ⟨⟨old, he⟩, ⟨o, ho, hc, hd⟩, _⟩ := st
    have e' : b = e ∨ b = it := by simpa using hb
    rcases e' with z | z
    · rw [z]; exact ⟨_, he, fun v q => nomatch q⟩
    · rw [z]; exact ⟨o, ho, fun v q => by rw [hd] at q; cases q⟩
  keep := fun i h h' st k => let ⟨⟨old, he⟩, hi, hne⟩ := st; ⟨⟨old, k e (by simp) _ he⟩, hi.at fun o q => k it (by simp) o q, hne⟩
  item := by
    intro X hP hw hK hc i pins s σ H E I hf st hg
    subst hP hw hK
    obtain ⟨⟨old, he⟩, hit, hne, hea, hai⟩ := st
    obtain ⟨xs, x, hq, hx⟩ := hg
    obtain ⟨its, rv, p, hz⟩ := I.tuple hq
    obtain ⟨u, hu, ru⟩ := rv.get hx
    have hel : e < s.heap.objs.size := Heap.lt_size he
    have hil : it < s.heap.objs.size := by obtain ⟨_, q, _⟩ := hit; exact Heap.lt_size q
    have hh : X.A.in1.handled = none := I.ok.hd hc
    have p' : s.heap.IsTuple a its.toArray := p
    have D := Draws.tuple (prog := X.prog) (w := X.w) hh it a hai its.toArray
    have hlt : i < its.toArray.size := by
      have := (List.getElem?_eq_some_iff.mp hu).1
      simpa using this
    refine wpAny_pyNext_enum_itemC D he ⟨hit, p'⟩ hlt hne (by simp [hne, hea]) fun x' h' tk hP' ho hst' hT hsz hk => ?_
    have ex : x' = u := by
      have : its.toArray[i]? = some u := by simpa using hu
      rw [this] at hP'
      exact (Option.some.inj hP').symm
    subst ex
    refine ⟨_, rfl, wpAny_letOwnedTupleGo_enum (s := { s with heap := h', toks := tk + 1 }) ho fun h'' he' sb => ?_⟩
    have hT2 : h''.get? s.heap.objs.size = some { cls := .type "tuple", data := .seq #[.int i tk, x'] } := (sb.2 _ (Nat.ne_of_gt hel)).trans hT
    have new : ObjOk X.prog X.w (upd H s.heap.objs.size (.tup [.int (i : Nat), x])) h'' s.heap.objs.size (.tup [.int (i : Nat), x]) :=
      ⟨by show 2 ≤ sizeLine; decide, [.int i tk, x'], .cons ⟨_, rfl⟩ (.cons ru .nil), ⟨_, hT2, rfl, _, rfl⟩⟩
    have I1 : Inv X pins σ (upd H s.heap.objs.size (.tup [.int (i : Nat), x])) { s with heap := h'', toks := tk + 1 } :=
      I.turnedNew (ch := [e, it]) (fun b ob hb q => (sb.2 b (fun z => hb (by simp [z]))).trans (hk b ob (fun z => hb (by simp [z])) (fun z => hb (by simp [z])) q)) hf (Nat.le_refl _) new
    refine ⟨.ref s.heap.objs.size, _, I1, rfl, ⟨_, x, rfl, I.hok.fresh (Nat.le_refl _), rfl, fun ys hy => by rw [I.tuple_inj hy hq]; exact hx⟩, ⟨⟨x', ?_⟩, hst'.1.at fun o q => (sb.2 it (Ne.symm hne)).trans q, hne, hea, hai⟩, fun b hb => ?_⟩
    · have e1 : ((i + 1 : Nat) : Int) = (i : Int) + 1 := by omega
      rw [e1]; exact he'
    · have hb' : b < s.heap.objs.size := by
        have e' : b = e ∨ b = it := by simpa using hb
        rcases e' with z | z
        · rw [z]; exact hel
        · rw [z]; exact hil
      rw [upd_ne (Nat.ne_of_lt hb')]
      exact (hf b hb).1
  done := by
    intro X hP hw hK hc i pins s σ H E I hf st hg
    subst hP hw hK
    obtain ⟨⟨old, he⟩, hit, hne, hea, hai⟩ := st
    obtain ⟨xs, hq, hx⟩ := hg
    obtain ⟨its, rv, p, hz⟩ := I.tuple hq
    obtain ⟨f0, f1, f2, f3, f4, f5⟩ := hf it (by simp)
    have hl := rv.length
    have hh : X.A.in1.handled = none := I.ok.hd hc
    have hls : its.toArray[i]? = none := by simp; omega
    have hT : s.TypeIs (.ref e) "enumerate" := ⟨_, he, rfl⟩
    unfold pyNext
    refine wpAny_bind (wpAny_attempt (wpAny_callSpecial?_slot (name := Str.ofString "__next__") hT F.slot_enumerate_next
      (wpAny_call_entry F.slot_enumerate_next hT F.entry_enumerate_next ?_ (F.args_enumerate_next_1 _))))
    show wpAny _ _ (field (.ref e) 2 >>= _) _ _ _
    refine wpAny_bind (wpAny_field he rfl (x := .ref it) rfl ?_)
    refine wpAny_bind (wpAny_nextOf_tuple_end hh hit p hls fun h' x he' hx' => ?_)
    obtain ⟨o, ho, hc'⟩ := hx'
    refine wpAny_bind (wpAny_isInstance (T := "StopIteration") (b := true) ⟨o, ho, hc'⟩ isSubtype_stop ?_)
    exact wpAny_pure ⟨rfl, I.turned (t' := s.toks) (fun b o hb q => he' b o hb q) f0 f1 f3 f4 f5⟩
  self := fun A i s Q E st h => let ⟨⟨_, he⟩, _⟩ := st; wpAny_pyIter_enum he h
def iEnumT (K : PySem.W.Frag) (ta : TA) : TI := fun σ H R => ta σ H fun vs H1 => ∃ a xs, vs = [.ref a] ∧ SqT K H1 a xs ∧ R (IteT K a) H1
theorem pi_enumT {X : Cx} {e : Expr} {ta : TA} {p pos tpos : Pos} {elts : List Expr} {kk : Nat} (hg : Gl X "enumerate") (hm : X.mg "enumerate" = none) (ha : PA X [e] ta) (hs : starEach [e] X.env = [(false, eval e X.env)] := by rfl) :
    PI X (.Tuple elts kk tpos) (.Call (.Name "enumerate" p) [e] [] pos) (iEnumT X.K ta) := by
  refine ⟨fun pins s σ H R I h => ?_⟩
  refine PyProof.Rows.Call_ (ld_blt I hg hm PyProof.Rows.boot_enumerate (PyProof.Rows.callWith_type1 (thn (ha.run pos pins s σ H _ I h) fun us s1 ⟨vs, H1, I1, r1, q1⟩ => ?_) hs rfl))
  obtain ⟨a, xs, ex, hq, q⟩ := q1
  subst ex
  cases r1 with
  | cons r rr =>
    cases rr
    cases r
    obtain ⟨its, rv, p', hz⟩ := I1.tuple hq
    have hal : a < s1.heap.objs.size := by obtain ⟨o, e1, _⟩ := p'; exact Heap.lt_size e1
    refine enT_call (begins_tuple a its.toArray) p' fun h' he hit hsz hk => wpAny_pyIter_enum he ?_
    have I2 : Inv X pins σ H1 { s1 with heap := h' } := I1.kept (t' := s1.toks) hk
    refine ⟨s1.heap.objs.size + 1, [s1.heap.objs.size + 1, s1.heap.objs.size], _, _, H1, rfl, I2, turn_enT a (s1.heap.objs.size + 1) s1.heap.objs.size, ⟨⟨.none, he⟩, ⟨_, hit, rfl, rfl⟩, Nat.succ_ne_self _, (Nat.ne_of_lt (Nat.lt_succ_of_lt hal)).symm, Nat.ne_of_lt hal⟩, fun b hb => ?_, q⟩
    have e' : b = s1.heap.objs.size + 1 ∨ b = s1.heap.objs.size := by simpa using hb
    have hle : s1.heap.objs.size ≤ b := by
      rcases e' with z | z
      · rw [z]; exact Nat.le_add_right _ _
      · rw [z]; exact Nat.le_refl _
    exact I1.fpOk hle (I1.hok.fresh hle)
/-- the items with their numbers -/
def enF : Nat → List D → List D
  | _, [] => []
  | n, d :: ds => .tup [.int (n : Nat), d] :: enF (n + 1) ds
theorem enF_get : ∀ (ds : List D) (n i : Nat), (enF n ds)[i]? = (ds[i]?).map fun d => .tup [.int ((n + i : Nat) : Int), d]
  | [], _, _ => by simp [enF]
  | d :: ds, n, 0 => by simp [enF]
  | d :: ds, n, i + 1 => by
    show (enF (n + 1) ds)[i]? = _
    rw [enF_get ds (n + 1) i]
    have e : n + 1 + i = n + (i + 1) := by omega
    rw [e]
    rfl
theorem enF_len : ∀ (ds : List D) (n : Nat), (enF n ds).length = ds.length
  | [], _ => rfl
  | d :: ds, n => congrArg (· + 1) (enF_len ds (n + 1))
def iEn (m : M (List D)) : M (List D) := bnd m fun ds => match ds with
  | [.tup xs] => ret (enF 0 xs)
  | _ => fun _ => .bad
section
variable {X : Cx} {W : WX} {tg e : Expr} {ma : M (List D)} {p pos tpos : Pos} {elts : List Expr} {kk : Nat}
theorem walk_enT {K : PySem.W.Frag} {mg : Str → Option Value} {ph : List Addr} {F : Hp} {ad : Addr} {xs : List V} {ds : List D} (h : F ad = some (.tup xs)) (q : DrA K ph F xs ds) : WalkOk K mg (IteT K ad) (enF 0 ds) ph F := by
  refine ⟨fun Z p1 F1 s sg H i x r hi => ?_, fun Z p1 F1 s sg H i v H' x r hy hi => ?_, fun Z p1 F1 s sg H i x r hi => ?_⟩
  · rw [enF_len] at hi
    have h2 : H ad = some (.tup xs) := r.w.sub _ _ (x.f _ _ h)
    obtain ⟨v, e1, _⟩ := q.get (List.getElem?_eq_getElem hi)
    exact ⟨xs, v, SqT.of h2, e1⟩
  · obtain ⟨T, y, rfl, hT, rfl, hv⟩ := hy
    have h2 : H ad = some (.tup xs) := r.w.sub _ _ (x.f _ _ h)
    obtain ⟨d, e1, e2⟩ := (q.up x).getV (hv xs (SqT.of h2))
    refine ⟨_, r.ext hT, r.lay hT, .tup [.int (i : Nat), d], ?_, .tup upd_same (.cons (.int _) (.cons (e2.up (r.ext hT)) .nil))⟩
    rw [enF_get, e1, Nat.zero_add]
    rfl
  · rw [enF_len] at hi
    have h2 : H ad = some (.tup xs) := r.w.sub _ _ (x.f _ _ h)
    exact ⟨xs, SqT.of h2, by rw [q.len]; exact hi⟩
theorem si_enum (hg : Gl X "enumerate") (hm : X.mg "enumerate" = none) (ha : SA W X [e] ma) (hs : starEach [e] X.env = [(false, eval e X.env)] := by rfl) : SI W X (.Tuple elts kk tpos) (.Call (.Name "enumerate" p) [e] [] pos) (iEn ma) :=
  ⟨pi_bd (pi_enumT hg hm ha.pa hs) fun sg H R ⟨Z, ph, F, s, r, q⟩ => by
    unfold iEn bnd at q
    refine ⟨Z, ph, F, s, r, ?_⟩
    cases g : ma s with
    | bad => rw [g] at q; exact q.elim
    | exc x s' => rw [g] at q; exact q
    | ok ds s' =>
      rw [g] at q
      match ds, q with
      | [.tup ds], q =>
        intro vs H1 p1 F1 x1 r1 q1 b1
        cases q1 with
        | cons q1 q2 =>
          cases q2
          cases q1 with
          | @tup ad xs _ h1 h2 =>
            have h3 := r1.w.sub _ _ h1
            exact ⟨ad, xs, rfl, SqT.of h3, fun b => q _ H1 p1 F1 x1 r1 (walk_enT h1 h2) b1 (by rw [enF_len, ← h2.len, ← sizeLine_eq]; exact b1 _ _ (.inr (SqT.of h3)))⟩
      | [], q => exact q.elim
      | [.non], q => exact q.elim
      | [.bl _], q => exact q.elim
      | [.int _], q => exact q.elim
      | [.str _], q => exact q.elim
      | [.lst _], q => exact q.elim
      | [.dK _ _], q => exact q.elim
      | [.dT _ _], q => exact q.elim
      | [.loc _], q => exact q.elim
      | [.scr _], q => exact q.elim
      | [.tpz _], q => exact q.elim
      | [.xcp _ _ _ _], q => exact q.elim
      | a :: b :: c, q => exact (False.elim (by cases a <;> exact q))⟩
end
end LW
namespace LW
open PySem PySem.Spec L2
open PyProof.Rows (envOfC)
/-! isinstance of two built-in types -/
def eIsi2 (T T' : String) (m : M D) : M D := bnd m fun d s => match tyD (drf s.sto d) with
  | some t => (match kitB t T, kitB t T' with
    | some b, some b' => .ok (.bl (b || b')) s
    | _, _ => .bad)
  | none => .bad
theorem kit_any2 {K : PySem.W.Frag} {t T T' : String} {b b' : Bool} (h : kitB t T = some b) (h' : kitB t T' = some b') : PySem.W.kitAny K (.type t) [.type T, .type T'] = some (b || b') := by
  refine kitAny_cons (kit_ty h) (fun e => ?_) (fun e => by rw [e]; rfl)
  subst e
  refine kitAny_cons (kit_ty h') (fun e => by subst e; rfl) (fun e => by rw [e]; rfl)
section
variable {X : Cx} {W : WX} {k : Nat} {pos p p2 p3 p4 : Pos} {e : Expr} {ma : M D} {kk : Nat}
theorem x_isi2 (C : Ct k X) {T T' : String} {x x' : Str} (hg : Gl X "isinstance") (hgT : Gl X x) (hgT' : Gl X x') (hmT : X.mg x = none) (hmT' : X.mg x' = none) (hv : bootBuiltins x = some (.type T)) (hv' : bootBuiltins x' = some (.type T')) (hn : x ≠ "__name__") (hn' : x' ≠ "__name__") (hd : (x == ("__debug__" : Str)) = false) (hd' : (x' == ("__debug__" : Str)) = false) (ha : SE W X e ma)
    (s0 : starEach [.Name x p2, .Name x' p3] X.env = (false, eval (.Name x p2) X.env) :: starEach [.Name x' p3] X.env := by rfl) (s3 : starEach [.Name x' p3] X.env = (false, eval (.Name x' p3) X.env) :: starEach [] X.env := by rfl)
    (s1 : starEach [e, .Tuple [.Name x p2, .Name x' p3] kk p4] X.env = (false, eval e X.env) :: starEach [.Tuple [.Name x p2, .Name x' p3] kk p4] X.env := by rfl) (s2 : starEach [.Tuple [.Name x p2, .Name x' p3] kk p4] X.env = (false, eval (.Tuple [.Name x p2, .Name x' p3] kk p4) X.env) :: starEach [] X.env := by rfl)
    (hpl : (backTo pos (starEach [.Tuple [.Name x p2, .Name x' p3] kk p4] X.env)).any (·.1) = false := by rfl) :
    SE W X (.Call (.Name "isinstance" p) [e, .Tuple [.Name x p2, .Name x' p3] kk p4] [] pos) (eIsi2 T T' ma) :=
  SE.of (pe_callB call_isiT hg C.gz.zisinstance PyProof.Rows.boot_isinstance (pa_cons ha.pe (pa_cons (pe_tup (pa_cons (pe_bltn hgT hmT hv (show RelV (.ty T) (.type T) from rfl) hn hd) (pa_cons (pe_bltn hgT' hmT' hv' (show RelV (.ty T') (.type T') from rfl) hn' hd') pa_nil s3) s0)) pa_nil s2) s1) (by decide) (by decide) s1 hpl) fun Z ph F s sg H Q r bd h => by
    refine tE_bnd kdE r h fun d1 s1 v1 H1 p1 F1 x1 r1 q1 b1 h1 => ?_
    cases e1 : tyD (drf s1.sto d1) with
    | none => rw [e1] at h1; exact h1.elim
    | some t =>
      rw [e1] at h1
      simp only at h1
      cases e2 : kitB t T with
      | none => rw [e2] at h1; exact h1.elim
      | some b =>
        cases e3 : kitB t T' with
        | none => rw [e2, e3] at h1; exact h1.elim
        | some b' =>
          rw [e2, e3] at h1
          refine ⟨by show 2 ≤ sizeLine; rw [sizeLine_eq]; omega, fun tp htp => ?_⟩
          exact ⟨v1, tp, [.ty T, .ty T'], .type t, [.type T, .type T'], b || b', rfl, upd_same, .cons (.ty T) (.cons (.ty T') .nil), tyD_ok (r1.lay htp).w (q1.up (r1.ext htp)) e1, kit_any2 e2 e3, fun bb => h1 (.bl (b || b')) _ p1 _ (x1.trans (r1.ext htp)) (r1.lay htp) (.bl _) bb⟩
end
end LW
namespace LW
open PySem PySem.Spec L2
open PyProof.Rows (envOfC)
open PySem.W (alike AlikeAll dataLt iter_listW iter_tupleW moved_old cmpIn_lt cmpIn_gt)
/-! dict(t), t a plain tuple of pairs -/
section
variable {X : Cx}
theorem pairs_ofV {pins : List (Addr × Obj)} {σ : L2.St} {H : Hp} {s : Shared} (I : Inv X pins σ H s) : ∀ {ps : List Addr} {kvs : List (Key × V)}, Paired (fun p kv => SqT X.K H p [kV kv.1, kv.2]) ps kvs →
    ∃ (prs : List (Key × Value)) (vps : List (Value × Value)), KV kvs prs ∧ prs.length = ps.length ∧ vps.length = ps.length ∧ (∀ (j : Nat) (u y : Value), vps[j]? = some (u, y) → ∃ b, ps[j]? = some b ∧ s.heap.IsTuple b #[u, y]) ∧
      ∀ (j : Nat) (u y : Value), vps[j]? = some (u, y) → ∃ k, prs[j]? = some (k, y) ∧ (mixKind X.prog X.w).is k u = true
  | _, _, .nil => ⟨[], [], .nil, rfl, rfl, fun j u y e => by simp at e, fun j u y e => by simp at e⟩
  | _, _, .cons (a := p) (b := kv) h t => by
    obtain ⟨prs, vps, r, hl, hl2, hp, hk⟩ := pairs_ofV I t
    obtain ⟨its, rv, ht, _⟩ := I.tuple h
    obtain ⟨u, y, ei, ru, ry⟩ := vals2 rv
    subst ei
    refine ⟨(kv.1, y) :: prs, (u, y) :: vps, .cons ⟨rfl, ry⟩ r, by rw [List.length_cons, List.length_cons, hl], by rw [List.length_cons, List.length_cons, hl2], fun j u' y' e => ?_, fun j u' y' e => ?_⟩
    · cases j with
      | zero =>
        cases (Option.some.inj e)
        exact ⟨p, rfl, ht⟩
      | succ j =>
        obtain ⟨b, e1, e2⟩ := hp j u' y' (by simpa using e)
        exact ⟨b, by simpa using e1, e2⟩
    · cases j with
      | zero =>
        cases (Option.some.inj e)
        exact ⟨kv.1, rfl, kV_is (P := X.prog) (w := X.w) ru⟩
      | succ j =>
        obtain ⟨k, e1, e2⟩ := hk j u' y' (by simpa using e)
        exact ⟨k, by simpa using e1, e2⟩
abbrev rDictZ (K : PySem.W.Frag) : List V → Hp → VK → Prop := fun xs H Q => ∃ (a : Addr) (ob : Obj) (ps : List Addr) (kvs : List (Key × V)), xs = [V.ref a] ∧ H a = some (.frz ob (.tup (ps.map V.ref))) ∧ ob.cls = .type "tuple" ∧ ob.dict = none ∧ Paired (fun p kv => SqT K H p [kV kv.1, kv.2]) ps kvs ∧
    ∀ p, H p = none → Q (.ref p) (upd H p (.dK (mergeK [] kvs)))
theorem call_dictZ (hcalm : X.calm = true) : CallR X (.type "dict") (rDictZ X.K) := by
  intro pins s σ H xs us Q I r q
  obtain ⟨a, ob, ps, kvs, ex, hq, hcl, hdc, hp, q⟩ := q
  subst ex
  obtain ⟨u, eu, rx⟩ := vals1 r
  subst eu
  cases rx
  obtain ⟨hget, hz, its, rv, o, e1, hc, n, hdat⟩ := (show ObjOk X.prog X.w H s.heap a (.frz ob (.tup (ps.map V.ref))) from I.hok a _ hq)
  rw [hget] at e1
  cases e1
  have ei := refs_at rv
  subst ei
  rw [List.length_map] at hz
  obtain ⟨prs, vps, rel, hl, hl2, hpt, hpk⟩ := pairs_ofV I hp
  have P := PairArg.tuple (prog := X.prog) (w := X.w) a (ps.map Value.ref).toArray (fun j => ps.getD j 0) vps
  refine PySem.call_dict_pairs (knd := mixKind X.prog X.w) (kvs := prs) P (I.ok.hd hcalm) ⟨⟨ob, n, hget, hcl, hdc, hdat⟩, by simp [hl2], fun j k v e => ?_⟩ ⟨by rw [hl, hl2], fun i key v e => hpk i key v e⟩ (by rw [hl2]; exact hz) fun h' tk hd' k => ?_
  · obtain ⟨b, g1, g2⟩ := hpt j k v e
    have eb : ps.getD j 0 = b := by rw [List.getD_eq_getElem?_getD, g1]; rfl
    exact ⟨by simp [g1, eb], .inl (by show s.heap.IsTuple (ps.getD j 0) #[k, v]; rw [eb]; exact g2)⟩
  · have hm : (s.heap.objs.size == sysModules) = false := beq_eq_false_iff_ne.mpr (Nat.ne_of_gt I.big)
    have hlen : (mergeK [] kvs).length ≤ sizeLine := by
      refine Nat.le_trans (length_mergeK kvs []) ?_
      rw [List.length_nil, Nat.zero_add, rel.length, hl]
      exact hz
    exact ⟨.ref s.heap.objs.size, upd H s.heap.objs.size (.dK (mergeK [] kvs)), I.laid (t' := tk) (fun b o e => k b o (by simp) e) (Nat.le_refl _) (show ObjOk X.prog X.w _ _ _ (.dK (mergeK [] kvs)) from ⟨hlen, hm, merged [] prs, KV.merge rel .nil, hd'⟩), rfl, q _ (I.hok.fresh (Nat.le_refl _))⟩
def gDictZ (_ : List Cell) : List D → Option Rs
  | [.tpz ds] => match prsOf ds with
    | some ps => some (.c (.dK (mrgD ([], []) ps).1 (mrgD ([], []) ps).2))
    | none => none
  | _ => none
theorem okDictZ : OkR X (rDictZ X.K) (puR gDictZ) := OkR.pure fun Z ph F sto H xs ds d Q w bd q e k1 k2 => by
  generalize hm : ds.map (drf sto) = l at e
  unfold gDictZ at e
  split at e
  · split at e
    · rename_i es ps hp
      cases e
      obtain ⟨v, a, rfl, rfl, h1, e1⟩ := dr1 q hm
      obtain ⟨ad, ob, ys, rfl, g1, c1, c2, g2⟩ := rd_tpz w h1 e1
      obtain ⟨as, kvs, rfl, i1, i2, i3⟩ := prs_ok w g2 hp
      refine ⟨ad, ob, as, kvs, rfl, g1, c1, c2, i1, fun p hp' => k2 _ rfl (by intro z; cases z) p _ hp' fun hF => ?_⟩
      obtain ⟨j1, j2⟩ := mrg_ok kvs ps [] [] i2 i3 .nil
      exact ⟨hF, _, upd_same, j1, j2⟩
    · cases e
  · cases e
theorem x_dictZ {W : WX} {k : Nat} {p pos : Pos} {e : Expr} {es : List Expr} {ma : M (List D)} (C : Ct k X) (hg : Gl X "dict") (ha : SA W X (e :: es) ma) (he : starEach (e :: es) X.env = (false, eval e X.env) :: starEach es X.env := by rfl) (hpl : (backTo pos (starEach es X.env)).any (·.1) = false := by rfl) :
    SR W X (.Call (.Name "dict" p) (e :: es) [] pos) (rN (puR gDictZ) ma) := sr_callTy (call_dictZ C.cm) okDictZ hg C.gz.zdict PyProof.Rows.boot_dict ha (by decide) (by decide) he hpl
/-! min(xs, default=None), xs a list -/
abbrev rMinD (K : PySem.W.Frag) : List V → List V → Hp → VK → Prop := fun xs zs H Q => ∃ a ys ds, xs = [V.ref a] ∧ zs = [V.non] ∧ SqL K H a ys ∧ DpAll K H ys ds ∧ AlikeAll ds ∧ PyData.depthAll ds < 50 ∧
  (ys = [] → Q .non H) ∧ ∀ v, ys[argBest (fun i j => dataLt (ds.getD i .none) (ds.getD j .none)) (ds.length - 1)]? = some v → Q v H
theorem call_minD (hc : X.calm = true) (hu : X.A.units + 64 < cLine) : CallRK X (.builtin "min") [Str.ofString "default"] (rMinD X.K) := by
  intro pins s sg H xs zs us ws Q I r rz h
  obtain ⟨a, ys, ds, rfl, rfl, hs, dp, al, dep, q0, q⟩ := h
  obtain ⟨u, rfl, ru⟩ := vals1 r
  cases ru
  obtain ⟨w1, rfl, e1⟩ := vals1 rz
  obtain rfl : w1 = Value.none := e1
  have hld := dpAll_len dp
  obtain ⟨its, rv, pl, hz⟩ := I.list hs
  obtain ⟨as, rd⟩ := Dp.readsAll I ds ys its dp rv
  have hlen := rv.length
  refine call_min_walkD (iter_listW (A := X.A.in1) (I.ok.hd hc) pl.isList fun s₂ e W st hfp hw hk => ?_)
  refine ⟨_, _, _, _, _, _, _, s.heap, _, rfl, W, st, hfp, hw, hk, fun hz0 s' m => ?_, fun hp => ⟨cmpIn_lt (A := X.A.in1) rd al (by show X.A.units + 1 + _ < _; omega), fun v s' hP m => ?_⟩⟩
  · obtain ⟨h', tk, rfl, hk'⟩ := moved_old e rfl m
    have : ys = [] := List.eq_nil_of_length_eq_zero (by have hz1 : its.toArray.size = 0 := hz0; rw [List.size_toArray] at hz1; omega)
    exact ⟨.non, H, I.kept hk', rfl, q0 this⟩
  · obtain ⟨h', tk, rfl, hk'⟩ := moved_old e rfl m
    have e2 : its.toArray.size - 1 = ds.length - 1 := by simp; omega
    rw [e2] at hP
    have hP' : its[argBest (fun i j => dataLt (ds.getD i .none) (ds.getD j .none)) (ds.length - 1)]? = some v := by simpa using hP
    obtain ⟨x, hx⟩ : ∃ x, ys[argBest (fun i j => dataLt (ds.getD i .none) (ds.getD j .none)) (ds.length - 1)]? = some x := by
      have := (List.getElem?_eq_some_iff.mp hP').1
      exact ⟨_, List.getElem?_eq_getElem (by omega)⟩
    obtain ⟨u', g1, g2⟩ := rv.get hx
    rw [hP'] at g1
    cases g1
    exact ⟨x, H, I.kept hk', g2, q x hx⟩
def gMinD : D → Option D
  | .lst ds => if ds = [] then some .non else if okAl ds = true then ds[minAt ds]? else none
  | _ => none
def eMinD (m : M D) : M D := bnd m fun d s => match gMinD (drf s.sto d) with
  | some v => .ok v s
  | none => .bad
theorem x_minD {W : WX} {k : Nat} {p pos kpos cpos : Pos} {e : Expr} {ma : M D} {j : Nat} (C : Ct k X) (hg : Gl X "min") (ha : SE W X e ma)
    (h1 : starEach [e] X.env = (false, eval e X.env) :: starEach [] X.env := by rfl)
    (he : backTo pos (starEach [e] X.env) = (false, eval e X.env) :: backTo pos (starEach [] X.env) := by rfl) (hpl : (backTo pos (starEach [e] X.env)).any (·.1) = false := by rfl)
    (hall : (backToKw pos (keywordEach [⟨some "default", .Constant .none j cpos, kpos⟩] X.env)).all (·.1.isSome) = true := by rfl) (hnone : (backToKw pos (keywordEach [⟨some "default", .Constant .none j cpos, kpos⟩] X.env)).any (·.1.isNone) = false := by rfl) (hks : (backToKw pos (keywordEach [⟨some "default", .Constant .none j cpos, kpos⟩] X.env)).filterMap (·.1) = [Str.ofString "default"] := by rfl) :
    SE W X (.Call (.Name "min" p) [e] [⟨some "default", .Constant .none j cpos, kpos⟩] pos) (eMinD ma) :=
  SE.of (pe_callBK (call_minD C.cm C.u64) hg C.gz.zmin PyProof.Rows.boot_min (pa_cons ha.pe pa_nil h1) (pk_cons pe_non pk_nil) (by decide) (by decide) he hpl hall hnone hks) fun Z ph F s sg H Q r bd h => by
    refine tE_bnd kdE r h fun d1 s1 v1 H1 p1 F1 x1 r1 q1 b1 h1 => ?_
    cases g : drf s1.sto d1 with
    | lst ds =>
      rw [g] at h1
      obtain ⟨a, ys, rfl, g1, g2⟩ := rd_lst r1.w q1 g
      simp only [gMinD] at h1
      by_cases hd : ds = []
      · subst hd
        simp only [if_true] at h1
        cases g2
        exact ⟨a, [], [], rfl, rfl, SqL.of g1, .nil, ⟨fun x hx => (by cases hx), fun x hx => (by cases hx)⟩, by decide, fun _ b => h1 .non H1 p1 F1 x1 r1 .non b, fun v hv => (by cases hv)⟩
      · rw [if_neg hd] at h1
        by_cases ho : okAl ds = true
        · rw [if_pos ho] at h1
          cases em : ds[minAt ds]? with
          | none => rw [em] at h1; exact h1.elim
          | some d2 =>
            rw [em] at h1
            obtain ⟨f1, f2, f3⟩ := okAl_of ho
            refine ⟨a, ys, pyA ds, rfl, rfl, SqL.of g1, DrA.dp r1.w.sub _ _ f1 g2, f2, f3, fun z => ?_, fun v hv b => ?_⟩
            · subst z
              cases g2
              exact absurd rfl hd
            · rw [pyA_len] at hv
              obtain ⟨d3, g3, g4⟩ := g2.getV (show ys[minAt ds]? = some v from hv)
              rw [em] at g3
              cases g3
              exact h1 v H1 p1 F1 x1 r1 g4 b
        · rw [if_neg ho] at h1
          exact h1.elim
    | _ => rw [g] at h1; exact h1.elim
end
/-! x or y, x a list -/
def eOrL (ma mb : M D) : M D := bnd ma fun d s => match drf s.sto d with
  | .lst [] => mb s
  | .lst (_ :: _) => .ok d s
  | _ => .bad
section
variable {X : Cx} {W : WX} {a b : Expr} {ma mb : M D} {pos : Pos}
theorem se_orL (ha : SE W X a ma) (hb : SE W X b mb) : SE W X (.BoolOp .Or [a, b] pos) (eOrL ma mb) :=
  SE.of (pe_orT ha.pe (pe_one hb.pe)) fun Z ph F s sg H Q r bd h => by
    refine tE_bnd kdE r h fun d1 s1 v1 H1 p1 F1 x1 r1 q1 b1 h1 => ?_
    cases g : drf s1.sto d1 with
    | lst ds =>
      rw [g] at h1
      obtain ⟨ad, ys, rfl, g1, g2⟩ := rd_lst r1.w q1 g
      cases ds with
      | nil =>
        cases g2
        refine ⟨false, .inl ⟨_, SqL.of g1, rfl⟩, ?_⟩
        rw [if_neg (by decide)]
        exact ⟨_, p1, F1, s1, r1, (h1.up x1).bd⟩
      | cons d ds =>
        cases g2 with
        | @cons y ys _ _ h2 t2 =>
          refine ⟨true, .inl ⟨_, SqL.of g1, rfl⟩, ?_⟩
          rw [if_pos rfl]
          exact fun b => h1 _ H1 p1 F1 x1 r1 q1 b
    | _ => rw [g] at h1; exact h1.elim
end
end LW
namespace LW
open PySem PySem.Spec L2
open PyProof.Rows (envOfC)
/-! sorted(d), d a table whose keys are plain -/
theorem flt_kD (k : Key) : flt (kD k) = true := by cases k <;> rfl
theorem pyA_kD : ∀ ks : List Key, pyA (ks.map kD) = ks.map fun k => py (kD k)
  | [] => rfl
  | k :: r => by simp only [List.map_cons, pyA, pyA_kD r]
section
open PyProof.Rows
variable {X : Cx}
theorem reads_kD {h : Heap} {k : Key} {v : Value} (e : RelV (kV k) v) : Reads h v (py (kD k)) [] := by
  cases k with
  | inl i => obtain ⟨t, rfl⟩ := (show ∃ t, v = Value.int i t from e); exact .int i t
  | inr x => obtain ⟨t, rfl⟩ := (show ∃ t, v = Value.str x t from e); exact .str x t
theorem rel_is {P : Program} {w : World} {k : Key} {v : Value} (h : (mixKind P w).is k v = true) : RelV (kV k) v := by
  rcases keyIs_shape h with ⟨i, t, e1, e2⟩ | ⟨x, t, e1, e2⟩
  · subst e1; subst e2; exact ⟨t, rfl⟩
  · subst e1; subst e2; exact ⟨t, rfl⟩
theorem kv_map {kvs : List (Key × V)} {vs : List (Key × Value)} (h : KV kvs vs) : vs.map (·.1) = kvs.map (·.1) := by
  induction h with
  | nil => rfl
  | cons a b ih => rw [List.map_cons, List.map_cons, ih, a.1]
theorem call_sortedDK (hc : X.calm = true) (hu : X.A.units + 64 < cLine) : CallR X (.builtin "sorted") (fun xs H Q => ∃ d kvs, xs = [V.ref d] ∧ Rd H d (.dK kvs) ∧ okSrt ((kvs.map (·.1)).map kD) = true ∧
    ∀ (p : Addr), H p = none → Q (.ref p) (upd H p (.lst (((kvs.map (·.1)).mergeSort fun a b => leD (kD a) (kD b)).map kV)))) := by
  intro pins s σ H xs us Q I r h
  obtain ⟨d, kvs, rfl, hd, ok, q⟩ := h
  obtain ⟨u, rfl, rx⟩ := r.one
  cases rx
  obtain ⟨z, hs, vs, kv, o, es, ep, ho, hx, hdt, hk, hp, hn⟩ := (show ObjOk X.prog X.w H s.heap d (.dK kvs) from hd.ok I.hok)
  have hD : s.heap.DictAt (mixKind X.prog X.w) d vs ep := ⟨o, es, ho, hx, hdt, hk, hp, hn⟩
  have ek := kv_map kv
  have ok2 : okAl ((kvs.map (·.1)).map kD) = true := by
    unfold okSrt at ok
    exact (Bool.and_eq_true _ _ ▸ ok).1
  obtain ⟨f1, f2, f3⟩ := okAl_of ok2
  have lb : vs.length = kvs.length := by have := congrArg List.length ek; simpa using this
  have een : ((kvs.map (·.1)).map fun b => py (kD b)) = pyA ((kvs.map (·.1)).map kD) := (pyA_kD _).symm
  refine Calls.call_function_entry PyProof.Rows.kind_sorted PyProof.Rows.plain_sorted PyProof.Rows.entry_sorted (PyProof.Rows.args_sorted1 _) ?_
  unfold Builtin.«sorted»
  refine wpAny_bind (m := checkCount "sorted" 1 1 _) (wpAny_pure ?_)
  refine wpAny_bind (PySem.W.kdu_collect (A := X.A.in1) (PySem.W.kdl_dict hs) (I.ok.hd hc) hD (by omega) fun h' tk acc hkp it => ?_)
  have hal : acc.toList.length = kvs.length := by rw [Array.length_toList, it.1, lb]
  have I1 : Inv X pins σ H { s with heap := h', toks := tk } := I.kept hkp
  refine wpAny_bind (wpAny_newList ?_ (by rw [hal]; omega))
  have hoL : (h'.push (seqObj "list" acc.toList.toArray 0)).get? h'.objs.size = some (seqObj "list" acc.toList.toArray 0) := Heap.get?_push_size _ rfl
  show wpAny _ _ _ _ _ { s with heap := h'.push (seqObj "list" acc.toList.toArray 0), toks := tk }
  have each1 : PySem.W.EachIs (fun v (b : Key) => RelV (kV b) v) acc.toList (kvs.map (·.1)) := by
    have hat : ∀ (j : Nat) (v : Value), acc.toList[j]? = some v → ∃ k, (kvs.map (·.1))[j]? = some k ∧ RelV (kV k) v := by
      intro j v hv
      obtain ⟨k, x, e1, e2⟩ := it.2 j v (by rw [← Array.getElem?_toList]; exact hv)
      exact ⟨k, by rw [← ek, List.getElem?_map, e1]; rfl, rel_is e2⟩
    have hlen : acc.toList.length = (kvs.map (·.1)).length := by rw [hal, List.length_map]
    have gen : ∀ (l : List Value) (m : List Key), l.length = m.length → (∀ (j : Nat) (v : Value), l[j]? = some v → ∃ k, m[j]? = some k ∧ RelV (kV k) v) → PySem.W.EachIs (fun v (b : Key) => RelV (kV b) v) l m := by
      intro l
      induction l with
      | nil => intro m hl _; rw [List.eq_nil_of_length_eq_zero hl.symm]; exact .nil
      | cons v l ih =>
        intro m hl ht
        cases m with
        | nil => simp at hl
        | cons k m =>
          obtain ⟨k', e1, e2⟩ := ht 0 v rfl
          cases e1
          exact .cons e2 (ih m (by simpa using hl) fun j v hv => ht (j + 1) v hv)
    exact gen _ _ hlen hat
  have each2 : PySem.W.EachIs (fun v (b : Key) => ∃ as, Reads (h'.push (seqObj "list" acc.toList.toArray 0)) v (py (kD b)) as ∧ h'.objs.size ∉ as) acc.toList (kvs.map (·.1)) :=
    each1.mono fun v b hv => ⟨[], reads_kD hv, by simp⟩
  refine wpAny_bind (wpAny_holding (PySem.W.list_sort_data (bs := kvs.map (·.1)) (enc := fun b => py (kD b)) (s := { s with heap := h'.push (seqObj "list" acc.toList.toArray 0), toks := tk }) hoL each1 each2 ?_ ?_ ?_ ?_ fun out g1 g2 => ?_))
  · rw [een]; exact f2.1
  · rw [een]; exact srt_of ok
  · rw [List.length_map]; exact z
  · intro b hm
    have : py (kD b) ∈ pyA ((kvs.map (·.1)).map kD) := by rw [← een]; exact List.mem_map_of_mem (f := fun b : Key => py (kD b)) hm
    have := depth_le this
    have hu' := hu
    show X.A.in1.units + 1 + (py (kD b)).depth < cLine
    have e1 : X.A.in1.units = X.A.units + 1 := rfl
    omega
  · obtain ⟨e', he'⟩ := PyProof.Rows.sortedHeap_at (vs := acc.toList) (out := out.toArray) hoL
    have g3 : ∀ (l : List Key) (us : List Value), PySem.W.EachIs (fun v (b : Key) => RelV (kV b) v) us l → Vals (l.map kV) us := by
      intro l us e
      induction e with
      | nil => exact .nil
      | cons h t ih => exact .cons h ih
    refine wpAny_pure ⟨_, rfl, .ref h'.objs.size, upd H h'.objs.size (.lst (((kvs.map (·.1)).mergeSort (PySem.W.dataLe false fun b => py (kD b))).map kV)), I1.laid (t' := tk) (fun b u e => ?_) (Nat.le_refl _)
      (show ObjOk X.prog X.w _ _ _ (.lst (((kvs.map (·.1)).mergeSort (PySem.W.dataLe false fun b => py (kD b))).map kV)) from ⟨?_, out, e', g3 _ _ g2, he'⟩), rfl, q _ (I1.hok.fresh (Nat.le_refl _))⟩
    · have hb : b < h'.objs.size := Heap.lt_size e
      rw [PyProof.Rows.sortedHeap_old (Nat.ne_of_lt hb) (by rw [size_push']; exact Nat.lt_succ_of_lt hb)]
      exact Heap.get?_push_of_some _ e
    · rw [List.length_map, List.length_mergeSort, List.length_map]; exact z
end
def gSortDK (_ : List Cell) : List D → Option Rs
  | [.dK ks _] => if okSrt (ks.map kD) = true then some (.c (.lst ((ks.mergeSort fun a b => leD (kD a) (kD b)).map kD))) else none
  | _ => none
theorem okSortDK {X : Cx} : OkR X (fun xs H Q => ∃ d kvs, xs = [V.ref d] ∧ Rd H d (.dK kvs) ∧ okSrt ((kvs.map (·.1)).map kD) = true ∧
    ∀ (p : Addr), H p = none → Q (.ref p) (upd H p (.lst (((kvs.map (·.1)).mergeSort fun a b => leD (kD a) (kD b)).map kV)))) (puR gSortDK) := OkR.pure fun Z ph F sto H xs ds d Q w bd q e k1 k2 => by
  generalize hm : ds.map (drf sto) = l at e
  unfold gSortDK at e
  split at e
  · split at e
    · rename_i ks es ok
      cases e
      obtain ⟨v, a, rfl, rfl, h1, e1⟩ := dr1 q hm
      obtain ⟨ad, kvs, rfl, g1, rfl, g3⟩ := rd_dK w h1 e1
      exact ⟨ad, kvs, rfl, .inl g1, ok, fun p hp => k2 _ rfl (by intro z; cases z) p _ hp fun hF => ⟨hF, _, upd_same, drA_key _⟩⟩
    · cases e
  · cases e
theorem x_sortedDK {X : Cx} {W : WX} {k : Nat} {p pos : Pos} {e : Expr} {es : List Expr} {ma : M (List D)} (C : Ct k X) (hg : Gl X "sorted") (ha : SA W X (e :: es) ma) (he : starEach (e :: es) X.env = (false, eval e X.env) :: starEach es X.env := by rfl) (hpl : (backTo pos (starEach es X.env)).any (·.1) = false := by rfl) :
    SR W X (.Call (.Name "sorted" p) (e :: es) [] pos) (rN (puR gSortDK) ma) := sr_callB (call_sortedDK C.cm C.u64) okSortDK hg C.gz.zsorted PyProof.Rows.boot_sorted ha (by decide) (by decide) he hpl
/-! zip of two tuples -/
def zpD : List D → List D → List D
  | d :: ds, e :: es => .tup [d, e] :: zpD ds es
  | _, _ => []
theorem zpD_get : ∀ (ds es : List D) (i : Nat), (zpD ds es)[i]? = (match ds[i]?, es[i]? with | some d, some e => some (.tup [d, e]) | _, _ => none)
  | [], es, i => by simp [zpD]
  | d :: ds, [], i => by simp only [zpD]; cases (d :: ds)[i]? <;> simp
  | d :: ds, e :: es, 0 => by simp [zpD]
  | d :: ds, e :: es, i + 1 => by
    show (zpD ds es)[i]? = _
    rw [zpD_get ds es i]
    simp
theorem zpD_len : ∀ (ds es : List D), (zpD ds es).length = min ds.length es.length
  | [], es => by simp [zpD]
  | d :: ds, [] => by simp [zpD]
  | d :: ds, e :: es => by simp [zpD, zpD_len ds es]
def iZp (m : M (List D)) : M (List D) := bnd m fun ds => match ds with
  | [.tup xs, .tup ys] => ret (zpD xs ys)
  | _ => fun _ => .bad
section
variable {X : Cx} {W : WX} {tg e e2 : Expr} {ma : M (List D)} {p pos tpos : Pos} {elts : List Expr} {kk : Nat}
theorem walk_zpT {K : PySem.W.Frag} {mg : Str → Option Value} {ph : List Addr} {F : Hp} {a b : Addr} {xs ys : List V} {ds es : List D} (h : F a = some (.tup xs)) (g : F b = some (.tup ys)) (q : DrA K ph F xs ds) (u : DrA K ph F ys es) : WalkOk K mg (RZ.ItzT K a b) (zpD ds es) ph F := by
  refine ⟨fun Z p1 F1 s sg H i x r hi => ?_, fun Z p1 F1 s sg H i v H' x r hy hi => ?_, fun Z p1 F1 s sg H i x r hi => ?_⟩
  · rw [zpD_len] at hi
    have h2 : H a = some (.tup xs) := r.w.sub _ _ (x.f _ _ h)
    have g2 : H b = some (.tup ys) := r.w.sub _ _ (x.f _ _ g)
    obtain ⟨v, e1, _⟩ := q.get (List.getElem?_eq_getElem (show i < ds.length by omega))
    obtain ⟨v2, e2, _⟩ := u.get (List.getElem?_eq_getElem (show i < es.length by omega))
    exact ⟨xs, ys, v, v2, SqT.of h2, SqT.of g2, e1, e2⟩
  · obtain ⟨T, y, y2, rfl, hT, rfl, hv, hv2⟩ := hy
    have h2 : H a = some (.tup xs) := r.w.sub _ _ (x.f _ _ h)
    have g2 : H b = some (.tup ys) := r.w.sub _ _ (x.f _ _ g)
    obtain ⟨d, e1, e2⟩ := (q.up x).getV (hv xs (SqT.of h2))
    obtain ⟨d2, e3, e4⟩ := (u.up x).getV (hv2 ys (SqT.of g2))
    refine ⟨_, r.ext hT, r.lay hT, .tup [d, d2], ?_, .tup upd_same (.cons (e2.up (r.ext hT)) (.cons (e4.up (r.ext hT)) .nil))⟩
    rw [zpD_get, e1, e3]
  · rw [zpD_len] at hi
    have h2 : H a = some (.tup xs) := r.w.sub _ _ (x.f _ _ h)
    have g2 : H b = some (.tup ys) := r.w.sub _ _ (x.f _ _ g)
    exact ⟨xs, ys, SqT.of h2, SqT.of g2, by rw [q.len, u.len]; omega⟩
theorem si_zip (hg : Gl X "zip") (hm : X.mg "zip" = none) (ha : SA W X [e, e2] ma) (hs : starEach [e, e2] X.env = (false, eval e X.env) :: starEach [e2] X.env := by rfl) (hpl : (backTo pos (starEach [e2] X.env)).any (·.1) = false := by rfl) : SI W X (.Tuple elts kk tpos) (.Call (.Name "zip" p) [e, e2] [] pos) (iZp ma) :=
  ⟨pi_bd (RZ.pi_zipA hg hm ha.pa hs hpl) fun sg H R ⟨Z, ph, F, s, r, q⟩ => by
    unfold iZp bnd at q
    refine ⟨Z, ph, F, s, r, ?_⟩
    cases g : ma s with
    | bad => rw [g] at q; exact q.elim
    | exc x s' => rw [g] at q; exact q
    | ok ds s' =>
      rw [g] at q
      simp only at q
      split at q
      · rename_i xs ys
        intro vs H1 p1 F1 x1 r1 q1 b1
        cases q1 with
        | cons qa q2 =>
          cases q2 with
          | cons qb q3 =>
            cases q3
            cases qa with
            | @tup ad us _ h1 h2 =>
              cases qb with
              | @tup bd ws _ h3 h4 =>
                have h5 := r1.w.sub _ _ h1
                have h6 := r1.w.sub _ _ h3
                exact ⟨ad, bd, us, ws, rfl, .inr ⟨SqT.of h5, SqT.of h6, fun b => q _ H1 p1 F1 x1 r1 (walk_zpT h1 h3 h2 h4) b1 (by
                  rw [zpD_len, ← h2.len, ← sizeLine_eq]
                  exact Nat.le_trans (Nat.min_le_left _ _) (b1 _ _ (.inr (SqT.of h5))))⟩⟩
      · exact q.elim⟩
/-! a[i], b[j] = x, y -/
def sPut2 (mv mo mi mo2 mi2 : M D) : MS := bndS mv fun v s => match v with
  | .tup [d1, d2] => (match sPutL (ret d1) mo mi s with
    | .nx s' => sPutL (ret d2) mo2 mi2 s'
    | _ => .bad)
  | _ => .bad
end
section
variable {X : Cx} {W : WX} {e o i o2 i2 : Expr} {mv mo mi mo2 mi2 : M D} {pos pt p1 p2 : Pos} {kt : Nat}
theorem Bd.setL {K : PySem.W.Frag} {H : Hp} {p : Addr} {xs : List V} {j : Nat} {v : V} (b : Bd K H) (hp : H p = some (.lst xs)) : Bd K (upd H p (.lst (xs.set j v))) := by
  intro a ys h
  by_cases e : a = p
  · subst e
    rcases h with (h | ⟨o, h⟩) | h
    · rcases h with h | h
      · rw [upd_same] at h
        cases h
        rw [List.length_set]
        exact b a xs (.inl (.inl (.inl hp)))
      · obtain ⟨o, h⟩ := h
        rw [upd_same] at h
        cases h
    · obtain ⟨its, n, h1, h2, h3, h4, h5, h6⟩ := h
      have e2 : ys.length = its.toList.length := h6.length
      rw [e2, Array.length_toList]
      assumption
    · rcases h with h | ⟨o, its, n, h1, h2, h4, h5, h6⟩
      · rcases h with h | ⟨o, h⟩
        · rw [upd_same] at h; cases h
        · rw [upd_same] at h; cases h
      · have e2 : ys.length = its.toList.length := h6.length
        rw [e2, Array.length_toList]
        assumption
  · refine b a ys ?_
    rcases h with h | h
    · left
      rcases h with h | h
      · left
        rcases h with h | ⟨o, h⟩
        · rw [upd_ne e] at h; exact .inl h
        · rw [upd_ne e] at h; exact .inr ⟨o, h⟩
      · exact .inr h
    · right
      rcases h with h | h
      · left
        rcases h with h | ⟨o, h⟩
        · rw [upd_ne e] at h; exact .inl h
        · rw [upd_ne e] at h; exact .inr ⟨o, h⟩
      · exact .inr h
theorem sputL_nrt {mv mo mi : M D} {s s' : S} {x : D} : sPutL mv mo mi s ≠ .rt x s' := by
  unfold sPutL bndS
  intro h
  repeat' (first | (cases h; done) | split at h | (dsimp only at h))
theorem put_ok {K : PySem.W.Frag} {mg : Str → Option Value} {Z : En} {sg : L2.St} {ph : List Addr} {F H : Hp} {s : S} {d : D} {v : V} {Q : L2.St → Hp → Prop} (r : Rel K mg Z ph F s sg H) (qv : Dr K ph F v d) (b0 : Bd K H)
    (hk : ∀ s', sPutL (ret d) mo mi s = .nx s' → ∀ H' ph' F', Ext ph F ph' F' → Rel K mg Z ph' F' s' sg H' → Bd K H' → Q sg H')
    (hx : ∀ x s', sPutL (ret d) mo mi s = .exc x s' → ResX K mg Z W x s' ph F) (hb : sPutL (ret d) mo mi s ≠ .bad) (hr : ∀ x s', sPutL (ret d) mo mi s ≠ .rt x s') :
    L2.gSub (tE K mg W mo) (tE K mg W mi) rSetL v sg H Q := by
  have h : ResS K mg Z W ⟨fun sg' H' => sg' = sg → Q sg H', fun _ _ => True, fun _ _ => True, fun _ _ => True⟩ (bndS mo (fun o => bndS mi fun i s => match o, i with
    | .loc n, .int k => (match s.sto[n]? with
      | some (.lst ds) => (match ixN ds.length k with
        | some j => OutS.nx ⟨s.env, s.sto.set n (.lst (ds.set j d))⟩
        | none => .bad)
      | _ => .bad)
    | _, _ => .bad) s) ph F := by
    have e : sPutL (ret d) mo mi s = bndS mo (fun o => bndS mi fun i s => match o, i with
    | .loc n, .int k => (match s.sto[n]? with
      | some (.lst ds) => (match ixN ds.length k with
        | some j => OutS.nx ⟨s.env, s.sto.set n (.lst (ds.set j d))⟩
        | none => .bad)
      | _ => .bad)
    | _, _ => .bad) s := rfl
    rw [← e]
    cases g : sPutL (ret d) mo mi s with
    | nx s' =>
      intro sg' H' ph' F' x r' b' es
      subst es
      exact hk s' g H' ph' F' x r' b'
    | rt x s' => exact (hr _ _ g).elim
    | exc x s' => exact hx x s' g
    | bad => exact hb g
  refine tE_bndS r h fun d2 s2 v2 H2 p2 F2 x2 r2 q2 b2 h2 => ?_
  refine tE_bndS r2 h2 fun d3 s3 v3 H3 p3 F3 x3 r3 q3 b3 h3 => ?_
  have q1 := (qv.up x2).up x3
  have q2 := q2.up x3
  cases d2 with
  | loc n =>
    cases d3 with
    | int k =>
      simp only at h3
      cases g : s3.sto[n]? with
      | none => simp only [g] at h3; exact h3.elim
      | some c =>
        cases c with
        | lst ds =>
          simp only [g] at h3
          cases g2 : ixN ds.length k with
          | none => simp only [g2] at h3; exact h3.elim
          | some j =>
            simp only [g2] at h3
            cases q3
            obtain ⟨a, rfl, ha⟩ := loc_of q2
            obtain ⟨hF, xs, hx, dx⟩ := r3.w.cell n _ a g ha
            refine ⟨a, xs, k, j, rfl, rfl, hx, by rw [dx.len]; exact g2, ?_⟩
            exact h3 sg _ p3 F3 .refl (r3.put g ha hF ⟨hF, _, upd_same, dx.set q1 j⟩) (b3.setL hx) rfl
        | _ => simp only [g] at h3; exact h3.elim
    | _ => exact h3.elim
  | _ => exact h3.elim
theorem ss_put2 (hc : X.calm = true) (hv : SE W X e mv) (ho : SE W X o mo) (hi : SE W X i mi) (ho2 : SE W X o2 mo2) (hi2 : SE W X i2 mi2)
    (hs : swapsWithSole [.Tuple [.Subscript o i p1, .Subscript o2 i2 p2] kt pt] e pos.line X.env = pure false := by rfl) (hw : swappedStores [.Tuple [.Subscript o i p1, .Subscript o2 i2 p2] kt pt] e X.env = pure none := by rfl)
    (h1 : (assignEach [.Tuple [.Subscript o i p1, .Subscript o2 i2 p2] kt pt] X.env).map (·.2) = [assign (.Tuple [.Subscript o i p1, .Subscript o2 i2 p2] kt pt) X.env] := by rfl)
    (ha : ∀ v, assign (.Subscript o i p1) X.env v = (do
      let ov ← holding [v] (eval o X.env)
      let iv ← holding [v, ov] (eval i X.env)
      standAt p1
      holding [v, ov, iv] (setItem ov iv v)
      release [v, ov, iv] []) := by intro _; rfl)
    (hb : ∀ v, assign (.Subscript o2 i2 p2) X.env v = (do
      let ov ← holding [v] (eval o2 X.env)
      let iv ← holding [v, ov] (eval i2 X.env)
      standAt p2
      holding [v, ov, iv] (setItem ov iv v)
      release [v, ov, iv] []) := by intro _; rfl)
    (hs2 : (assignEach [.Subscript o i p1, .Subscript o2 i2 p2] X.env).map (·.2) = assign (.Subscript o i p1) X.env :: (assignEach [.Subscript o2 i2 p2] X.env).map (·.2) := by rfl)
    (hs3 : (assignEach [.Subscript o2 i2 p2] X.env).map (·.2) = assign (.Subscript o2 i2 p2) X.env :: (assignEach [] X.env).map (·.2) := by rfl)
    (hn : (assignEach [.Subscript o i p1, .Subscript o2 i2 p2] X.env).length = 2 := by rfl) (hst : (assignEach [.Subscript o i p1, .Subscript o2 i2 p2] X.env).findIdx? (·.1) = none := by rfl) :
    SS W X (.Assign [.Tuple [.Subscript o i p1, .Subscript o2 i2 p2] kt pt] e pos) (sPut2 mv mo mi mo2 mi2) :=
  SS.of (ps_asg hv.pe (pg_tup hc (pgs_cons (pg_sub ho.pe hi.pe set_list ha) (pgs_cons (pg_sub ho2.pe hi2.pe set_list hb) pgs_nil hs3) hs2) hn hst) hs hw h1) fun Z ph F s sg H E r bd h => by
    refine tE_bndS r h fun d1 s1 v1 H1 p1 F1 x1 r1 q1 b1 h1 => ?_
    split at h1
    · rename_i da db
      cases q1 with
      | @tup ad xs _ g1 g2 =>
        cases g2 with
        | cons qa g2 =>
          cases g2 with
          | cons qb g2 =>
            cases g2
            refine ⟨ad, _, rfl, .inl (.inl (r1.w.sub _ _ g1)), rfl, _, _, rfl, ?_⟩
            cases e1 : sPutL (ret da) mo mi s1 with
            | bad => rw [e1] at h1; exact h1.elim
            | rt x s' => rw [e1] at h1; exact h1.elim
            | exc x s' => rw [e1] at h1; exact h1.elim
            | nx s2 =>
              rw [e1] at h1
              simp only at h1
              refine put_ok (Z := Z) r1 qa b1 (fun s' e2 H' ph' F' x' r' b' => ?_) (fun x s' e2 => by rw [e1] at e2; cases e2) (by rw [e1]; intro z; cases z) (fun x s' e2 => by rw [e1] at e2; cases e2)
              rw [e1] at e2
              cases e2
              have h2 := h1.up x'
              refine ⟨_, _, rfl, put_ok (Z := Z) r' (qb.up x') b' (fun s3 e3 H3 ph3 F3 x3 r3 b3 => ?_) (fun x s3 e3 => ?_) (fun z => ?_) (fun x s3 e3 => ?_)⟩
              · rw [e3] at h2
                exact ⟨rfl, fun b => h2 sg H3 ph3 F3 x3 r3 b⟩
              · rw [e3] at h2
                exact h2
              · rw [z] at h2
                exact h2.elim
              · exact sputL_nrt e3
    · exact h1.elim
end
end LW
namespace LW
open PySem PySem.Spec L2
open PyProof.Rows (envOfC)
/-! sorted of a tuple of tuples whose first items are ints, no two alike -/
section
open SrtO Srt PyProof.Rows
variable {prog : Program} {w : World} {A : Around} {E : Value → Shared → Prop} {s : Shared}
theorem sortedT_fst {l : Addr} {o : Obj} {n : Nat} {vs : List Value} {k : Value → Int} {Q : Value → Shared → Prop} (ho : s.heap.get? l = some o) (hc : o.cls = .type "tuple") (hd : o.data = .seq vs.toArray n) (hz : vs.length ≤ sizeLine) (hp : ∀ v ∈ vs, IsFst s.heap v (k v)) (hi : ∀ v ∈ vs, ∀ u ∈ vs, k v = k u → v = u)
    (h : ∀ (out : List Value), Srtd (fun v u => decide (k v < k u)) out → out.Perm vs → Q (.ref (s.heap.objs.size + 1)) { s with heap := sortedAll s.heap vs out.toArray }) :
    wpAny (model prog w) A (call (.builtin "sorted") [.ref l] []) Q E s := by
  refine LWS.sortedT_of_sort ho hc hd hz fun _ => list_sort_ord (s := { s with heap := PySem.W.copyHeap s.heap vs }) (swo_fst k) (PySem.W.copyHeap_at s.heap vs) hz (fun h2 => ?_) fun out hs hb => ⟨rfl, h out hs hb.perm⟩
  refine fst_sortableO (s := { s with heap := PySem.W.copyHeap s.heap vs }) (by omega) (fun v hm => (hp v hm).keeps fun b o e _ => ?_) hi fun o e => ?_
  · exact PySem.W.copyHeap_old e
  · have e' : some o = some (seqObj "list" vs.toArray 0) := e.symm.trans (PySem.W.copyHeap_at s.heap vs)
    cases e'
    intro c
    exact absurd (Value.type.inj c) (by decide)
end
section
open SrtO
variable {X : Cx}
abbrev rSortedFTA (K : PySem.W.Frag) (ph : List Addr) (F : Hp) : List V → Hp → VK → Prop := fun xs H Q => ∃ a ys ds, xs = [V.ref a] ∧ SqT K H a ys ∧ DrA K ph F ys ds ∧ okFst ds = true ∧ (∀ b o, F b = some o → H b = some o) ∧
  ∀ zs p, DrA K ph F zs (ds.mergeSort leF) → H p = none → Q (.ref p) (upd H p (.lst zs))
abbrev rSortedFTB (K : PySem.W.Frag) : List V → Hp → VK → Prop := fun xs H Q => ∃ ph F, rSortedFTA K ph F xs H Q
def gSortedFT (_ : List Cell) : List D → Option Rs
  | [.tup ds] => if okFst ds = true then some (.c (.lst (ds.mergeSort leF))) else none
  | _ => none
theorem call_sortedFTB : CallR X (.builtin "sorted") (rSortedFTB X.K) := by
  intro pins s sg H xs us Q I r h
  obtain ⟨ph, F, a, ys, ds, rfl, hs, dr, ok, sub, q⟩ := h
  obtain ⟨u, rfl, ru⟩ := vals1 r
  cases ru
  obtain ⟨its, rv, ⟨o, ho, hc, n, hd0⟩, hz⟩ := I.tuple hs
  obtain ⟨z1, z2, z3⟩ := zip3_all rv dr
  generalize hL : its.zip (ys.zip ds) = L at z1 z2 z3
  unfold okFst at ok
  simp only [Bool.and_eq_true, List.all_eq_true, decide_eq_true_eq] at ok
  obtain ⟨ok1, ok2⟩ := ok
  have hf : ∀ t ∈ L, IsFst s.heap t.1 ((fstI t.2.2).getD 0) := fun t ht => dr_fst I sub (z1 t ht).1 (z1 t ht).2 (ok1 _ (by rw [← z3]; exact List.mem_map_of_mem (f := fun t : Value × (V × D) => t.2.2) ht))
  have hn : (L.map fun t => (fstI t.2.2).getD 0).Nodup := by
    rw [← z3, List.map_map] at ok2
    exact ok2
  have hk : ∀ v ∈ its, ∃ t ∈ L, t.1 = v := fun v hv => by
    rw [← z2] at hv
    obtain ⟨t, h1, h2⟩ := List.mem_map.mp hv
    exact ⟨t, h1, h2⟩
  have hinj : ∀ v ∈ its, ∀ u ∈ its, fstV s.heap v = fstV s.heap u → v = u := fun v hv u hu e => by
    obtain ⟨t, h1, rfl⟩ := hk v hv
    obtain ⟨t', h2, rfl⟩ := hk u hu
    rw [(hf t h1).v, (hf t' h2).v] at e
    rw [nodup_inj hn t h1 t' h2 e]
  have hlen := rv.length
  refine sortedT_fst (k := fstV s.heap) ho hc hd0 (by omega) (fun v hv => ?_) hinj fun out ho hp => ?_
  · obtain ⟨t, h1, rfl⟩ := hk v hv
    rw [(hf t h1).v]
    exact hf t h1
  · obtain ⟨ep, he'⟩ := PyProof.Rows.sortedAll_at s.heap its out.toArray
    let L' := L.mergeSort fun t t' => leF t.2.2 t'.2.2
    have hp' : L'.Perm L := List.mergeSort_perm _ _
    have pw : L'.Pairwise fun t t' => leF t.2.2 t'.2.2 = true := List.pairwise_mergeSort (fun a b c => by simp only [leF, decide_eq_true_eq]; omega) (fun a b => by simp only [leF, Bool.or_eq_true, decide_eq_true_eq]; omega) L
    have eo : out = L'.map (·.1) := by
      refine List.Perm.eq_of_pairwise (le := fun v u => fstV s.heap v ≤ fstV s.heap u) (fun v u hv hu h1 h2 => ?_) ?_ ?_ ?_
      · refine hinj v (hp.mem_iff.mp hv) u ?_ (by omega)
        obtain ⟨t, g1, rfl⟩ := List.mem_map.mp hu
        rw [← z2]
        exact List.mem_map_of_mem (f := fun t : Value × (V × D) => t.1) (hp'.mem_iff.mp g1)
      · exact ho.imp fun {v u} h => by simpa using h
      · rw [List.pairwise_map]
        refine pw.imp_of_mem fun {t t'} g1 g2 h => ?_
        rw [(hf t (hp'.mem_iff.mp g1)).v, (hf t' (hp'.mem_iff.mp g2)).v]
        simpa [leF] using h
      · refine hp.trans ?_
        rw [← z2]
        exact (hp'.map _).symm
    have hv : Vals (L'.map (·.2.1)) out := by
      rw [eo]
      exact valsT fun t ht => (z1 t (hp'.mem_iff.mp ht)).1
    have hd : DrA X.K ph F (L'.map (·.2.1)) (ds.mergeSort leF) := by
      have e2 : L'.map (·.2.2) = ds.mergeSort leF := by
        show (L.mergeSort fun t t' => leF t.2.2 t'.2.2).map (fun t => t.2.2) = _
        rw [List.map_mergeSort (s := leF) (f := fun t : Value × (V × D) => t.2.2), z3]
        intro a _ b _
        rfl
      rw [← e2]
      exact drsT fun t ht => (z1 t (hp'.mem_iff.mp ht)).2
    have hlen2 : (L'.map (·.2.1)).length ≤ sizeLine := by
      rw [hd.len, List.length_mergeSort, ← dr.len]
      exact hz
    exact ⟨.ref _, upd H (s.heap.objs.size + 1) (.lst _), I.laid (t' := s.toks) (fun _ _ => PyProof.Rows.sortedAll_old) (Nat.le_succ _) ⟨hlen2, out, ep, hv, he'⟩, rfl, q _ _ hd (I.hok.fresh (Nat.le_succ _))⟩
theorem okSortedFT : OkR X (rSortedFTB X.K) (puR gSortedFT) := OkR.pure fun Z ph F sto H xs ds d Q w bd q e k1 k2 => by
  generalize hm : ds.map (drf sto) = l at e
  unfold gSortedFT at e
  split at e
  · split at e
    · rename_i ok
      cases e
      obtain ⟨v, a, rfl, rfl, h1, e1⟩ := dr1 q hm
      obtain ⟨ad, ys, rfl, g1, g2⟩ := rd_tup w h1 e1
      exact ⟨ph, F, ad, ys, _, rfl, SqT.of g1, g2, ok, w.sub, fun zs p hz hp => k2 _ rfl (by intro z; cases z) p _ hp fun hF => ⟨hF, _, upd_same, hz⟩⟩
    · cases e
  · cases e
theorem x_sortedFT {W : WX} {k : Nat} {p pos : Pos} {e : Expr} {es : List Expr} {ma : M (List D)} (C : Ct k X) (hg : Gl X "sorted") (ha : SA W X (e :: es) ma) (he : starEach (e :: es) X.env = (false, eval e X.env) :: starEach es X.env := by rfl) (hpl : (backTo pos (starEach es X.env)).any (·.1) = false := by rfl) :
    SR W X (.Call (.Name "sorted" p) (e :: es) [] pos) (rN (puR gSortedFT) ma) := sr_callB call_sortedFTB okSortedFT hg C.gz.zsorted PyProof.Rows.boot_sorted ha (by decide) (by decide) he hpl
end
end LW
namespace LW
open PySem PySem.Spec L2
open PyProof.Rows (envOfC)
/-! a def that calls itself: what is never reached -/
theorem cal_bad {P : Program} {w : World} {K : PySem.W.Frag} {mg : Str → Option Value} {base : Heap} {k n : Nat} {x : Str} {f : Addr} {fd : FuncData} {ps : List Str} {st : Stmt} (F : Fun K x x st f fd) (hm : mg x = some (.ref f)) (b : Binds K fd ps []) (hl : n = ps.length) : Cal P w K mg base k x n (fun _ _ => .bad) :=
  ⟨⟨f, fd, ps, ⟨fun vs H Q E h => by rw [spF_len h, hl], fun A out s H args us vs Q E _ _ _ _ _ h => by
    obtain ⟨_, _, _, _, _, _, _, z⟩ := h
    exact z.elim⟩, hm, F.kp, b⟩⟩
end LW
/-! isinstance of a caught error that has a dict -/
namespace LWX
open PySem PySem.Spec PySem.Calls PyProof.Rows PySem.W
section
variable {prog : Program} {w : World} {A : Around} {E : Value → Shared → Prop} {s : Shared} {K : Frag} {x D : Addr} {ox : Obj} {od : Option Obj}
theorem findObj_any {C : Addr} {name : Str} {a g : Value} (hc : (clsIn K C).isSome = true) (ha : findIn K (.ref C) name = some (some a)) (hg : specialIn K a "__get__" = some (some g)) (ht : takesIn K a = some true) : findObj K C od name = some (.bind g a) := by
  cases od with
  | none => exact findObj_dataN hc ha hg ht
  | some o => exact findObj_data hc ha hg ht
theorem kin_classG {Q : Option Value → Shared → Prop} (hga : findIn K (.ref D) "__getattribute__" = some (some (.builtin "BaseException.__getattribute__"))) (hgt : findIn K (.ref D) "__getattr__" = some none) (hsub : subIn K (.ref D) (.type "BaseException") = some true)
    (hdct : hasDictIn K D = true) (ha : findIn K (.ref D) "__class__" = some (some (.builtin "object.__class__")))
    (hn : specialIn K (.builtin "object.__class__") "__get__" = some (some (.builtin "getset_descriptor.__get__"))) (htk : takesIn K (.builtin "object.__class__") = some true) (hm : mroIn K D (.type "object") = some true)
    (X : K.In s.heap) (I : InstAt s.heap x ox D od) (h : Q (some (.ref D)) { s with toks := s.toks + 1 }) : wpAny (model prog w) A (getAttr? (.ref x) "__class__") Q E s := by
  have hf : findObj K D od "__class__" = some (.bind (.builtin "getset_descriptor.__get__") (.builtin "object.__class__")) := findObj_any (by obtain ⟨cd, hc, _⟩ := any_some hdct; rw [hc]; rfl) ha hn htk
  obtain ⟨hp, g, d, t, os⟩ := s
  have L0 := I.type (M := model prog w)
  have L1 := looks_findIn (M := model prog w) X hga
  have L2 := looks_findIn (M := model prog w) X hgt
  have L3 := looks_find (M := model prog w) X I hf
  have sub : Looks (model prog w) hp (isInstance (.ref x) (.type "BaseException")) true := L0.andThen (looks_subIn X hsub)
  have hx0 : (false && onTheHeap (Value.builtin "BaseException.__getattribute__")) = false := rfl
  have hx2 : (Value.builtin "BaseException.__getattribute__" == Value.builtin "object.__getattribute__") = false := by decide +kernel
  have hx1 : (onTheHeap (Value.ref D) && Value.builtin "BaseException.__getattribute__" == Value.builtin "object.__getattribute__") = false := by rw [hx2]; rfl
  unfold getAttr? getAttrBy? getAttrBy
  refine wpAny_bind (wpAny_mkText (wpAny_bind (wpAny_attempt (wpAny_holding (wpAny_bind (L0.at (wpAny_bind (L1.at ?_))))))))
  show wpAny _ _ (if (onTheHeap (Value.ref D) && Value.builtin "BaseException.__getattribute__" == Value.builtin "object.__getattribute__") = true then _ else _) _ _ _
  rw [hx1, if_neg Bool.false_ne_true]
  unfold getAttrByItsOwn hookBefore
  refine wpAny_bind ?_
  rw [if_pos (show onTheHeap (Value.ref D) = true from rfl)]
  refine L2.at ?_
  refine wpAny_bind (wpAny_attempt (wpAny_holding ?_))
  unfold callGetattribute
  rw [hx0, if_neg Bool.false_ne_true]
  unfold boundAndCalled
  rw [PySem.F.excAttr_ValueError.ga.bind (.ref x)]
  refine wpAny_bind (wpAny_pure ?_)
  show wpAny _ _ (call (.builtin "BaseException.__getattribute__") [.ref x, .str "__class__" t]) _ _ _
  refine wpAny_call (codeAny_call_builtin PySem.F.excAttr_ValueError.ga.plain PySem.F.entry_bexc_ga ?_)
  refine @check_slot (model prog w) _ _ ⟨hp, g, d, t + 1, os⟩ "BaseException.__getattribute__" "BaseException" "__getattribute__" (.ref x) [.str "__class__" t] [] _ (by decide +kernel) (by decide +kernel) sub (PySem.F.args_bexc_ga (.ref x) (.str "__class__" t)) ?_
  unfold Builtin.«object.__getattribute__»
  refine wpAny_bind (wpAny_of_eq (a := ((Value.ref x : Value), [Value.str "__class__" t])) (by first | rfl | (simp only [slotArgs]; rfl)) ?_)
  refine wpAny_bind (wpAny_pure (wpAny_bind (L0.at (wpAny_bind (L3.at ?_)))))
  show wpAny _ _ (holding [Value.builtin "object.__class__"] (call (.builtin "getset_descriptor.__get__") [.builtin "object.__class__", .ref x, .ref D]) >>= ret) _ _ _
  refine wpAny_bind (wpAny_holding (wpAny_call (class_get (s := ⟨hp, g, d, t + 1, os⟩) (ox := ox) (od := od) X I hm ?_)))
  refine wpAny_pure ?_
  show wpAny _ _ (handedOut (.ref D)) _ _ _
  rw [handedOut_of (v := .ref D) rfl]
  first
    | exact wpAny_pure (wpAny_pure h)
    | exact wpAny_pure h
    | exact wpAny_pure (wpAny_bind (wpAny_pure (wpAny_pure h)))
theorem kitx_excG (hga : findIn K (.ref D) "__getattribute__" = some (some (.builtin "BaseException.__getattribute__"))) (hgt : findIn K (.ref D) "__getattr__" = some none) (hsub : subIn K (.ref D) (.type "BaseException") = some true) (hdct : hasDictIn K D = true) (ha : findIn K (.ref D) "__class__" = some (some (.builtin "object.__class__")))
    (hn : specialIn K (.builtin "object.__class__") "__get__" = some (some (.builtin "getset_descriptor.__get__"))) (htk : takesIn K (.builtin "object.__class__") = some true) (hm : mroIn K D (.type "object") = some true) :
    KitX K (.ref x) (.ref D) (fun h => InstAt h x ox D od) where
  ty := fun _ _ _ I => I.type
  it := fun _ _ X _ => by
    obtain ⟨cdD, hcD, _⟩ := any_some hdct
    unfold clsIn at hcD
    split at hcD
    · rename_i c' d' cd' sl' ho
      intro A' Q' E' s' k q
      unfold isType loadHead
      exact wpAny_bind (wpAny_loadPart (k _ _ (X _ _ ho)) (wpAny_pure q))
    · cases hcD
  ne := fun h tp dd its n sl X htp => by
    obtain ⟨cdD, hcD, _⟩ := any_some hdct
    refine Bool.eq_false_iff.mpr fun q => ?_
    have e : D = tp := Value.ref.inj (beq_iff_eq.mp q)
    subst e
    unfold clsIn at hcD
    split at hcD
    · rename_i c' d' cd' sl' ho
      have z := (X _ _ ho).symm.trans htp
      cases z
    · cases hcD
  ca := fun X I k => kin_classG hga hgt hsub hdct ha hn htk hm X I k
end
end LWX
namespace LW
open PySem PySem.Spec L2
open PyProof.Rows (envOfC)
/-- isinstance(e, c) or isinstance(e, (c, ..)), e the exception that the suite holds -/
def rIsE1 (K : PySem.W.Frag) (D a : Addr) (d : Option Addr) : List V → Hp → VK → Prop := fun xs H Q => ∃ (c : V) (cv : Value) (b : Bool), xs = [.ref a, c] ∧ (∀ u, RelV c u → u = cv) ∧ PySem.W.kitOne K (.ref D) cv = some b ∧ (d = none ∨ ∃ dx vs, d = some dx ∧ H dx = some (.xd vs)) ∧ Q (.bl b) H
def rIsET (K : PySem.W.Frag) (D a : Addr) (d : Option Addr) : List V → Hp → VK → Prop := fun xs H Q => ∃ (tp : Addr) (cs : List V) (us : List Value) (b : Bool), xs = [.ref a, .ref tp] ∧ H tp = some (.tup cs) ∧ Paired (fun c cv => ∀ u, RelV c u → u = cv) cs us ∧ PySem.W.kitAny K (.ref D) us = some b ∧ (d = none ∨ ∃ dx vs, d = some dx ∧ H dx = some (.xd vs)) ∧ Q (.bl b) H
theorem paired_all : ∀ {cs : List V} {us ws : List Value}, Paired (fun c cv => ∀ u, RelV c u → u = cv) cs us → Vals cs ws → ws = us
  | _, _, _, .nil, r => by cases r; rfl
  | _, _, _, .cons h t, r => by
    cases r with
    | cons r1 r2 => rw [h _ r1, paired_all t r2]
theorem inst_of {X : Cx} {a D : Addr} {oe : Obj} {d : Option Addr} {pn pins : List (Addr × Obj)} {s : Shared} {σ : L2.St} {H : Hp} (I : Inv (X.suite a ((a, oe) :: pn)) pins σ H s) (hz : Zc (.ref D) d oe) (hf : ∃ vs, oe.data = .fields vs) (hd : d = none ∨ ∃ dx vs, d = some dx ∧ H dx = some (.xd vs)) : ∃ od, PySem.W.InstAt s.heap a oe D od := by
  obtain ⟨hget, _⟩ := I.pin (a, oe) (List.mem_append.mpr (.inl List.mem_cons_self))
  obtain ⟨vs, hv⟩ := hf
  rcases hd with rfl | ⟨dx, fs, rfl, hx⟩
  · refine ⟨none, ?_⟩
    obtain ⟨oc, oda, odt, osl⟩ := oe
    obtain ⟨h1, h2⟩ := hz
    dsimp only at h1 h2 hv
    subst h1 h2 hv
    exact ⟨hget, rfl, rfl, trivial⟩
  · have hx : ObjOk X.prog X.w H s.heap dx (.xd fs) := I.hok dx _ hx
    obtain ⟨mA, hns, hr⟩ := hx
    obtain ⟨od, ho, hl⟩ := lookIn_ns hns
    exact ⟨some od, hget, hz.1, by unfold PySem.W.notCls; rw [hv] <;> rfl, by rw [hz.2]; exact ho⟩
theorem call_isE1 {X : Cx} {a D : Addr} {oe : Obj} {d : Option Addr} {pn : List (Addr × Obj)} (C : ExcC X.K D) (hz : Zc (.ref D) d oe) (hf : ∃ vs, oe.data = .fields vs) : CallR (X.suite a ((a, oe) :: pn)) (.builtin "isinstance") (rIsE1 X.K D a d) := by
  intro pins s σ H xs us Q I r h
  obtain ⟨c, cv, b, rfl, hcv, e, hd, q⟩ := h
  obtain ⟨u1, u2, rfl, r1, r2⟩ := vals2 r
  cases (show u1 = Value.ref a from r1)
  have ec := hcv _ r2
  subst ec
  obtain ⟨od, J⟩ := inst_of I hz hf hd
  exact PySem.W.kia_one (LWX.kitx_excG C.hg C.hk C.hs C.hd C.ha C.hn C.ht C.hm) I.kIn J e (fun z => nomatch z) fun tk => ⟨.bl b, H, I.kept (t' := tk) fun _ _ z => z, rfl, q⟩
theorem call_isET {X : Cx} {a D : Addr} {oe : Obj} {d : Option Addr} {pn : List (Addr × Obj)} (C : ExcC X.K D) (hz : Zc (.ref D) d oe) (hf : ∃ vs, oe.data = .fields vs) : CallR (X.suite a ((a, oe) :: pn)) (.builtin "isinstance") (rIsET X.K D a d) := by
  intro pins s σ H xs us Q I r h
  obtain ⟨tp, cs, ws, b, rfl, hT, k, e, hd, q⟩ := h
  obtain ⟨u1, u2, rfl, r1, r2⟩ := vals2 r
  cases (show u1 = Value.ref a from r1)
  cases (show u2 = Value.ref tp from r2)
  obtain ⟨od, J⟩ := inst_of I hz hf hd
  obtain ⟨_, its, rv, o, h1, h2, n, h3⟩ := (show ObjOk X.prog X.w H s.heap tp (.tup cs) from I.hok tp _ hT)
  have e3 := paired_all k rv
  subst e3
  obtain ⟨oc, od', dt, sl⟩ := o
  simp only at h2 h3
  subst h2 h3
  exact PySem.W.kia_tup (LWX.kitx_excG C.hg C.hk C.hs C.hd C.ha C.hn C.ht C.hm) I.kIn J h1 e (fun z => nomatch z) fun tk => ⟨.bl b, H, I.kept (t' := tk) fun _ _ z => z, rfl, q⟩
end LW
namespace LW
open PySem PySem.Spec L2
open PyProof.Rows (envOfC)
/-! except x as e -/
structure XCl (K : PySem.W.Frag) (mg : Str → Option Value) (c : Str) : Prop where
  ex : ∃ D : Addr, mg c = some (.ref D) ∧ ExcC K D
structure IsF (K : PySem.W.Frag) (mg : Str → Option Value) (c C : Str) (b : Bool) : Prop where
  ex : ∃ (D : Addr) (v : V) (cv : Value), mg c = some (.ref D) ∧ (∀ u, RelV v u → u = cv) ∧ ((mg C = some cv ∧ RelV v cv) ∨ (mg C = none ∧ bootBuiltins C = some cv ∧ RelV v cv)) ∧ PySem.W.kitOne K (.ref D) cv = some b
structure FlE (K : PySem.W.Frag) (mg : Str → Option Value) (c f : Str) : Prop where
  ex : ∃ D : Addr, mg c = some (.ref D) ∧ PySem.W.findIn K (.ref D) f = some none
theorem isf_own {K : PySem.W.Frag} {mg : Str → Option Value} {c C : Str} {b : Bool} {D D' : Addr} (h1 : mg c = some (.ref D)) (h2 : mg C = some (.ref D')) (h3 : PySem.W.kitOne K (.ref D) (.ref D') = some b) : IsF K mg c C b := ⟨⟨D, .ref D', .ref D', h1, fun _ r => r, .inl ⟨h2, rfl⟩, h3⟩⟩
theorem isf_VE {K : PySem.W.Frag} {mg : Str → Option Value} {c : Str} {b : Bool} {D : Addr} (h1 : mg c = some (.ref D)) (h2 : mg "ValueError" = none) (h3 : PySem.W.kitOne K (.ref D) (.type "ValueError") = some b) : IsF K mg c "ValueError" b := ⟨⟨D, .ty "ValueError", .type "ValueError", h1, fun _ r => r, .inr ⟨h2, by first | rfl | exact PyProof.Rows.boot_ValueError, rfl⟩, h3⟩⟩
def eIsE (a : Addr) (d : Option Addr) (b : Bool) (m : M D) : M D := bnd m fun x s => match x with
  | .xcp a' d' _ _ => if a' = a ∧ d' = d then .ok (.bl b) s else .bad
  | _ => .bad
def eFldE (a : Addr) (d : Option Addr) (f : Str) (m : M D) : M D := bnd m fun x s => match x with
  | .xcp a' d' ks ds => if a' = a ∧ d' = d then (match (ks.zip ds).lookup f with
    | some v => .ok v s
    | none => .bad) else .bad
  | _ => .bad
theorem dr_xcp {K : PySem.W.Frag} {ph : List Addr} {F H : Hp} {v : V} {a : Addr} {d : Option Addr} {ks : List Str} {ds : List D} (h : Dr K ph F v (.xcp a d ks ds)) (sub : ∀ b o, F b = some o → H b = some o) :
    v = .ref a ∧ ((d = none ∧ ks = [] ∧ ds = []) ∨ ∃ dx vs, d = some dx ∧ H dx = some (.xd vs) ∧ ks = vs.map (·.1) ∧ DrA K ph F (vs.map (·.2)) ds) := by
  cases h with
  | xc0 => exact ⟨rfl, .inl ⟨rfl, rfl, rfl⟩⟩
  | @xcp a dx vs ds h1 h2 => exact ⟨rfl, .inr ⟨dx, vs, rfl, sub _ _ h1, rfl, h2⟩⟩
theorem lookup_dr {K : PySem.W.Frag} {ph : List Addr} {F : Hp} {f : Str} : ∀ {vs : List (Str × V)} {ds : List D} {dv : D}, DrA K ph F (vs.map (·.2)) ds → ((vs.map (·.1)).zip ds).lookup f = some dv → ∃ v, vs.lookup f = some v ∧ Dr K ph F v dv
  | [], _, _, h, e => by cases h; cases e
  | (k, v) :: vs, ds, dv, h, e => by
    cases h with
    | @cons _ _ d ds' h1 h2 =>
      simp only [List.map_cons, List.zip_cons_cons, List.lookup_cons] at e ⊢
      by_cases q : f = k
      · subst q
        simp only [beq_self_eq_true] at e ⊢
        cases e
        exact ⟨v, rfl, h1⟩
      · have : (f == k) = false := by simpa using q
        simp only [this] at e ⊢
        exact lookup_dr h2 e
section
variable {X : Cx} {W : WX} {a : Addr} {oe : Obj} {cls : Value} {d : Option Addr} {pn : List (Addr × Obj)} {c C f : Str} {b b' : Bool} {e : Expr} {ma : M D} {p p2 p4 pos : Pos} {es : List Expr}
theorem x_isE1 (hz : Zc cls d oe) (hf : ∃ vs, oe.data = .fields vs) (hc : X.mg c = some cls) (xc : XCl X.K X.mg c) (ia : IsF X.K X.mg c C b) (zi : X.mg "isinstance" = none) (hg : Gl (X.suite a ((a, oe) :: pn)) "isinstance") (hgC : Gl (X.suite a ((a, oe) :: pn)) C) (ha : SE W (X.suite a ((a, oe) :: pn)) e ma)
    (hn : C ≠ "__name__" := by decide) (hd : (C == ("__debug__" : Str)) = false := by decide)
    (s1 : starEach [e, .Name C p2] (X.suite a ((a, oe) :: pn)).env = (false, eval e (X.suite a ((a, oe) :: pn)).env) :: starEach [.Name C p2] (X.suite a ((a, oe) :: pn)).env := by rfl) (s2 : starEach [.Name C p2] (X.suite a ((a, oe) :: pn)).env = (false, eval (.Name C p2) (X.suite a ((a, oe) :: pn)).env) :: starEach [] (X.suite a ((a, oe) :: pn)).env := by rfl)
    (hpl : (backTo pos (starEach [.Name C p2] (X.suite a ((a, oe) :: pn)).env)).any (·.1) = false := by rfl) :
    SE W (X.suite a ((a, oe) :: pn)) (.Call (.Name "isinstance" p) [e, .Name C p2] [] pos) (eIsE a d b ma) := by
  obtain ⟨D, hD, EC⟩ := xc.ex
  rw [hc] at hD
  cases hD
  obtain ⟨D', v, cv, h1, h2, h3, h4⟩ := ia.ex
  rw [hc] at h1
  cases h1
  have pC : PE (X.suite a ((a, oe) :: pn)) (.Name C p2) (tC v) := by
    rcases h3 with ⟨k1, k2⟩ | ⟨k1, k2, k3⟩
    · exact pe_glob hgC k1 k2 hd
    · exact pe_bltn hgC k1 k2 k3 hn hd
  refine SE.of (pe_callB (call_isE1 EC hz hf) hg zi PyProof.Rows.boot_isinstance (pa_cons ha.pe (pa_cons pC pa_nil s2) s1) (by decide) (by decide) s1 hpl) fun Z ph F s sg H Q r bd h => ?_
  refine tE_bnd kdE r h fun d1 s1 v1 H1 p1 F1 x1 r1 q1 b1 h1 => ?_
  cases d1 with
  | xcp a' d' ks ds =>
    simp only at h1
    split at h1
    · rename_i hh
      obtain ⟨rfl, rfl⟩ := hh
      obtain ⟨rfl, hx⟩ := dr_xcp q1 r1.w.sub
      refine ⟨v, cv, b, rfl, h2, h4, ?_, fun bb => h1 (.bl b) H1 p1 F1 x1 r1 (.bl b) bb⟩
      rcases hx with ⟨z, _⟩ | ⟨dx, vs, z, hv, _⟩
      · exact .inl z
      · exact .inr ⟨dx, vs, z, hv⟩
    · exact h1.elim
  | _ => exact h1.elim
def tCl (vs : List V) : TA := fun _ H Q => Q vs H
/-- classes in a tuple -/
structure TupE (X : Cx) (c : Str) (es : List Expr) (b : Bool) : Prop where
  ex : ∀ D : Addr, X.mg c = some (.ref D) → ∃ (vs : List V) (cvs : List Value), vs.length ≤ 100 - (100 - es.length) ∧ PA X es (tCl vs) ∧ Paired (fun v cv => ∀ u, RelV v u → u = cv) vs cvs ∧ PySem.W.kitAny X.K (.ref D) cvs = some b
theorem te_nil : TupE X c [] false := ⟨fun D _ => ⟨[], [], Nat.zero_le _, pa_nil, .nil, rfl⟩⟩
theorem te_cons (ia : IsF X.K X.mg c C b) (hgC : Gl X C) (t : TupE X c es b') (hl : es.length < 90 := by decide) (hn : C ≠ "__name__" := by decide) (hd : (C == ("__debug__" : Str)) = false := by decide)
    (s2 : starEach (.Name C p2 :: es) X.env = (false, eval (.Name C p2) X.env) :: starEach es X.env := by rfl) : TupE X c (.Name C p2 :: es) (b || b') := ⟨fun D hD => by
  obtain ⟨vs, cvs, k0, k1, k2, k3⟩ := t.ex D hD
  obtain ⟨D', v, cv, h1, h2, h3, h4⟩ := ia.ex
  rw [hD] at h1
  cases h1
  have pC : PE X (.Name C p2) (tC v) := by
    rcases h3 with ⟨k1, k2⟩ | ⟨k1, k2, k3⟩
    · exact pe_glob hgC k1 k2 hd
    · exact pe_bltn hgC k1 k2 k3 hn hd
  refine ⟨v :: vs, cv :: cvs, by simp only [List.length_cons] at k0 ⊢; omega, pa_cons pC k1 s2, .cons h2 k2, ?_⟩
  unfold PySem.W.kitAny
  rw [h4]
  cases b with
  | true => rfl
  | false => exact k3⟩
theorem x_isET {kk : Nat} (hz : Zc cls d oe) (hf : ∃ vs, oe.data = .fields vs) (hc : X.mg c = some cls) (xc : XCl X.K X.mg c) (te : TupE (X.suite a ((a, oe) :: pn)) c es b) (zi : X.mg "isinstance" = none) (hg : Gl (X.suite a ((a, oe) :: pn)) "isinstance") (ha : SE W (X.suite a ((a, oe) :: pn)) e ma)
    (s1 : starEach [e, .Tuple es kk p4] (X.suite a ((a, oe) :: pn)).env = (false, eval e (X.suite a ((a, oe) :: pn)).env) :: starEach [.Tuple es kk p4] (X.suite a ((a, oe) :: pn)).env := by rfl) (s2 : starEach [.Tuple es kk p4] (X.suite a ((a, oe) :: pn)).env = (false, eval (.Tuple es kk p4) (X.suite a ((a, oe) :: pn)).env) :: starEach [] (X.suite a ((a, oe) :: pn)).env := by rfl)
    (hpl : (backTo pos (starEach [.Tuple es kk p4] (X.suite a ((a, oe) :: pn)).env)).any (·.1) = false := by rfl) :
    SE W (X.suite a ((a, oe) :: pn)) (.Call (.Name "isinstance" p) [e, .Tuple es kk p4] [] pos) (eIsE a d b ma) := by
  obtain ⟨D, hD, EC⟩ := xc.ex
  rw [hc] at hD
  cases hD
  obtain ⟨vs, cvs, k0, k1, k2, k3⟩ := te.ex D hc
  refine SE.of (pe_callB (call_isET EC hz hf) hg zi PyProof.Rows.boot_isinstance (pa_cons ha.pe (pa_cons (pe_tup k1) pa_nil s2) s1) (by decide) (by decide) s1 hpl) fun Z ph F s sg H Q r bd h => ?_
  refine tE_bnd kdE r h fun d1 s1 v1 H1 p1 F1 x1 r1 q1 b1 h1 => ?_
  cases d1 with
  | xcp a' d' ks ds =>
    simp only at h1
    split at h1
    · rename_i hh
      obtain ⟨rfl, rfl⟩ := hh
      obtain ⟨rfl, hx⟩ := dr_xcp q1 r1.w.sub
      refine ⟨by rw [sizeLine_eq]; omega, fun tp htp => ?_⟩
      refine ⟨tp, vs, cvs, b, rfl, upd_same, k2, k3, ?_, fun bb => h1 (.bl b) _ p1 _ (x1.trans (r1.ext htp)) (r1.lay htp) (.bl b) bb⟩
      rcases hx with ⟨z, _⟩ | ⟨dx, vs', z, hv, _⟩
      · exact .inl z
      · refine .inr ⟨dx, vs', z, ?_⟩
        rw [upd_ne (fun q => by rw [q, htp] at hv; cases hv)]
        exact hv
    · exact h1.elim
  | _ => exact h1.elim
theorem x_fldE (hz : Zc cls d oe) (hf : ∃ vs, oe.data = .fields vs) (hc : X.mg c = some cls) (xc : XCl X.K X.mg c) (fl : FlE X.K X.mg c f) (ha : SE W (X.suite a ((a, oe) :: pn)) e ma) (hb : attributeBase e f (X.suite a ((a, oe) :: pn)).env (eval e (X.suite a ((a, oe) :: pn)).env) = eval e (X.suite a ((a, oe) :: pn)).env := by rfl) :
    SE W (X.suite a ((a, oe) :: pn)) (.Attribute e f pos) (eFldE a d f ma) := by
  obtain ⟨D, hD, EC⟩ := xc.ex
  rw [hc] at hD
  cases hD
  obtain ⟨D', h1, h2⟩ := fl.ex
  rw [hc] at h1
  cases h1
  refine SE.of (pe_xf ⟨EC.hg, EC.hk, EC.hs, EC.hd⟩ h2 hz hf ha.pe hb) fun Z ph F s sg H Q r bd h => ?_
  refine tE_bnd kdE r h fun d1 s1 v1 H1 p1 F1 x1 r1 q1 b1 h1 => ?_
  cases d1 with
  | xcp a' d' ks ds =>
    simp only at h1
    split at h1
    · rename_i hh
      obtain ⟨rfl, rfl⟩ := hh
      obtain ⟨rfl, hx⟩ := dr_xcp q1 r1.w.sub
      cases hl : (ks.zip ds).lookup f with
      | none => rw [hl] at h1; exact h1.elim
      | some dv =>
        rw [hl] at h1
        rcases hx with ⟨_, z, _⟩ | ⟨dx, vs, z, hv, rfl, hda⟩
        · subst z
          cases hl
        · obtain ⟨v, g1, g2⟩ := lookup_dr hda hl
          exact ⟨rfl, rfl, dx, vs, v, z, hv, g1, fun bb => h1 v H1 p1 F1 x1 r1 g2 bb⟩
    · exact h1.elim
  | _ => exact h1.elim
end
/-- the suite, whatever the exception's place -/
def wipI (i : Nat) : OutS → OutS
  | .nx s => .nx ⟨s.env.set i none, s.sto⟩
  | _ => .bad
def setX (i : Nat) (a : Addr) (d : Option Addr) (x : Exc) (s : S) : S := ⟨s.env.set i (some (.xcp a d (x.fs.map (·.1)) (x.fs.map (·.2)))), s.sto⟩
open Classical in
noncomputable def asT (i : Nat) (ms : Addr → Option Addr → MS) (x : Exc) (s : S) : OutS := if h : ∃ s2, ∀ a d, wipI i (ms a d (setX i a d x s)) = .nx s2 then .nx (Classical.choose h) else .bad
noncomputable def sTryAs (i : Nat) (l : List (Str × (Addr → Option Addr → MS))) (mb : MS) : MS := fun s => match mb s with
  | .exc x s' => (match l.lookup x.cls with
    | some ms => asT i ms x s'
    | none => .bad)
  | o => o
theorem fsr_dr {K : PySem.W.Frag} {ph : List Addr} {F : Hp} : ∀ {vs : List (Str × V)} {fs : List (Str × D)}, FsR K ph F vs fs → vs.map (·.1) = fs.map (·.1) ∧ DrA K ph F (vs.map (·.2)) (fs.map (·.2))
  | _, _, .nil => ⟨rfl, .nil⟩
  | _, _, .cons h t => by
    obtain ⟨e1, e2⟩ := fsr_dr t
    exact ⟨by simp only [List.map_cons, e1], .cons h e2⟩
section
variable {X : Cx} {W : WX} {x n : Str} {i : Nat} {np pos pos' : Pos} {body suite : List Stmt} {b₀ : Stmt} {mb : MS} {l : List (Str × (Addr → Option Addr → MS))}
/-- what is asked of each class that is caught -/
structure SuA (X : Cx) (x : Str) (suite : List Stmt) (l : List (Str × (Addr → Option Addr → MS))) : Prop where
  ex : ∀ c ms, l.lookup c = some ms → Ex X.K X.mg c x ∧ ∀ (a : Addr) (oe : Obj) (cls : Value) (d : Option Addr) (pn : List (Addr × Obj)), X.mg c = some cls → Zc cls d oe → (∃ vs, oe.data = .fields vs) → SB W0 (X.suite a ((a, oe) :: pn)) suite (ms a d)
theorem su_nil : SuA X x suite [] := ⟨fun c ms h => by cases h⟩
theorem su_cons {c : Str} {ms : Addr → Option Addr → MS} (h : Ex X.K X.mg c x) (k : ∀ (a : Addr) (oe : Obj) (cls : Value) (d : Option Addr) (pn : List (Addr × Obj)), X.mg c = some cls → Zc cls d oe → (∃ vs, oe.data = .fields vs) → SB W0 (X.suite a ((a, oe) :: pn)) suite (ms a d)) (t : SuA X x suite l) : SuA X x suite ((c, ms) :: l) := ⟨fun c' ms' e => by
  rw [List.lookup_cons] at e
  by_cases q : c' = c
  · subst q
    rw [beq_self_eq_true] at e
    cases e
    exact ⟨h, k⟩
  · have : (c' == c) = false := by simpa using q
    rw [this] at e
    exact t.ex c' ms' e⟩
theorem ss_try_as (hs : X.stack = X.env :: X.outer) (hf : X.env.frame = some X.env.locals) (hN : X.N.Nodup) (hi : X.N[i]? = some n) (hln : X.env.kindOf n = some .local) (hx : ∃ c : Addr, X.mg x = some (.ref c)) (hg : Gl X x) (tk : Takes X W)
    (hb : ∀ (W' : WX) (pn : List (Addr × Obj)) (xe : Value → Shared → Prop), Takes (X.tr pn xe) W' → SB W' (X.tr pn xe) body mb)
    (su : SuA X x (b₀ :: suite) l) (hdb : (x == ("__debug__" : Str)) = false := by decide) :
    SS W X (.Try body [.ExceptHandler (some (.Name x np)) (some n) (b₀ :: suite) pos'] [] [] pos) (sTryAs i l mb) := by
  obtain ⟨c, hx⟩ := hx
  classical
  refine SS.of (ps_try_as (i := i) (c := .ref c) (tb := fun W' => tS X.K X.mg W' mb) (ts := fun a cls d => fun E sg H => ∃ c' ms, l.lookup c' = some ms ∧ X.mg c' = some cls ∧ tS X.K X.mg W0 (ms a d) E sg H) hs hf hN hi hln ⟨hg, hdb, .inl hx⟩ tk (fun W' pn xe tk' _ => (hb W' pn xe tk').ps) (fun a oe cls d pn hz hfd => ⟨fun pins s σ H E I hh => by
    obtain ⟨c', ms, h1, h2, h3⟩ := hh
    exact (((su.ex c' ms h1).2 a oe cls d pn h2 hz hfd).ps).run pins s σ H E I h3⟩)) fun Z ph F s sg H E r bd h => ⟨Z, ph, F, s, r, ?_⟩
  unfold sTryAs at h
  cases e : mb s with
  | nx s' => rw [e] at h; exact ResS.bd (o := .nx s') h
  | rt d s' => rw [e] at h; exact ResS.bd (o := .rt d s') h
  | bad => rw [e] at h; exact h.elim
  | exc y s' =>
    rw [e] at h
    simp only at h
    cases hl : l.lookup y.cls with
    | none => rw [hl] at h; exact h.elim
    | some ms =>
      rw [hl] at h
      simp only at h
      unfold asT at h
      split at h
      case isFalse => exact h.elim
      rename_i hex
      have hch := Classical.choose_spec hex
      generalize Classical.choose hex = s2 at h hch
      intro c' dd sg' H' ph' F' ext rel xr
      obtain ⟨C1, C2, g1, g2, hexm⟩ := (su.ex _ _ hl).1.ex
      obtain ⟨xr1, xr2⟩ := xr
      rw [g1] at xr1
      cases Option.some.inj xr1
      rw [hx] at g2
      cases Option.some.inj g2
      refine ⟨true, hexm, fun _ a ha => ⟨y.cls, ms, hl, g1, Z, ph', F', setX i a dd y s', ⟨rel.w, rel.e.set ?_ i⟩, ?_⟩, fun q => nomatch q⟩
      · rcases xr2 with ⟨q1, q2⟩ | ⟨dx, vs, q1, q2, q3, q4⟩
        · rw [q1, q2]; exact .xc0
        · obtain ⟨k1, k2⟩ := fsr_dr q4
          rw [q1, ← k1]
          exact .xcp q3 k2
      · have h := h.up ext
        have hq := hch a dd
        cases e2 : ms a dd (setX i a dd y s') with
        | nx s3 =>
          rw [e2] at hq
          cases hq
          intro sg2 H2 p2 F2 x2 r2 b2
          exact fun bb => h (sg2.set i none) H2 p2 F2 x2 ⟨r2.w, r2.e.unset i⟩ bb
        | rt d s3 => rw [e2] at hq; cases hq
        | bad => rw [e2] at hq; cases hq
        | exc _ _ => rw [e2] at hq; cases hq
end
end LW
namespace LWR
open PySem PySem.Spec PySem.Calls PyProof.Rows PySem.W HT
section
variable {prog : Program} {w : World} {A : Around} {E : Value → Shared → Prop} {s : Shared}
theorem sliceApplied_rev {sl : Addr} {vl vu vs : Value} {n : Nat} {Q : Int × Int × Nat → Shared → Prop} (hs : s.heap.IsSliceOf sl vl vu vs) (pl : IsPart vl none) (pu : IsPart vu none) (ps : IsPart vs (some (-1)))
    (h : Q ((n : Int) - 1, -1, n) s) : wpAny (model prog w) A (Builtin.Slice.sliceApplied (.ref sl) (pure (n : Int))) Q E s := by
  obtain ⟨os, hos, hcs, hds⟩ := id hs
  unfold Builtin.Slice.sliceApplied Builtin.Slice.sliceFields
  refine wpAny_bind (wpAny_bind (wpAny_field hos hds (x := vl) rfl (wpAny_bind (wpAny_field hos hds (x := vu) rfl (wpAny_bind (wpAny_field hos hds (x := vs) rfl (wpAny_pure ?_)))))))
  refine wpAny_bind (slicePart_ ps ?_)
  show wpAny _ _ (if ((-1 : Int) == 0) = true then _ else _) _ _ s
  rw [if_neg (by decide)]
  refine wpAny_bind (slicePart_ pl (wpAny_bind (slicePart_ pu (wpAny_bind (wpAny_pure ?_)))))
  have e : Builtin.Slice.slicePlaces ((n : Int) - 1) (-1) (-1) = n := by
    unfold Builtin.Slice.slicePlaces
    have h1 : ¬ ((-1 : Int) > 0) := by omega
    simp only [h1, if_false]
    split
    · rw [show (-(-1) : Int) = 1 by decide, Int.ediv_one]; omega
    · show (0 : Int).toNat = n
      omega
  show wpAny _ _ (pure ((n : Int) - 1, (-1 : Int), Builtin.Slice.slicePlaces ((n : Int) - 1) (-1) (-1))) _ _ s
  rw [e]
  exact wpAny_pure h
theorem pick_rev (xs : Array Value) : ((List.range xs.size).filterMap fun (m : Nat) => xs[((xs.size : Int) - 1 + (m : Int) * -1).toNat]?).toArray = xs.toList.reverse.toArray := by
  have e : (List.range xs.size).filterMap (fun (m : Nat) => xs[((xs.size : Int) - 1 + (m : Int) * -1).toNat]?) = ((List.range xs.size).map fun k => xs.size - 1 - k).filterMap (xs[·]?) := by
    rw [List.filterMap_map]
    congr 1
    funext m
    have : ((xs.size : Int) - 1 + (m : Int) * -1).toNat = xs.size - 1 - m := by omega
    rw [this]; rfl
  rw [e, krv_range, List.filterMap_reverse, krv_all]
theorem getItem_tuple_rev {t sl : Addr} {items : Array Value} {vl vu vs : Value} {Q : Value → Shared → Prop} (ht : IsTup s.heap t items) (hs : s.heap.IsSliceOf sl vl vu vs) (pl : IsPart vl none) (pu : IsPart vu none) (ps : IsPart vs (some (-1)))
    (h : Q (.ref s.heap.objs.size) { s with heap := s.heap.push { cls := .type "tuple", data := .seq items.toList.reverse.toArray } })
    (hsz : items.size ≤ sizeLine) : wpAny (model prog w) A (getItem (.ref t) (.ref sl)) Q E s := by
  have htake : sizeOk (.seq items.toList.reverse.toArray) := by
    show items.toList.reverse.toArray.size ≤ sizeLine
    rw [List.size_toArray, List.length_reverse, Array.length_toList]
    exact hsz
  obtain ⟨os, hos, hcs, hds⟩ := id hs
  have hTs : s.TypeIs (.ref sl) "slice" := ⟨os, hos, hcs⟩
  unfold getItem
  try with_reducible refine wpAny_holding ?_
  first | refine wpAny_bind (wpAny_pure ?_) | skip
  refine wpAny_bind (wpAny_sequenceKey ht.typeIs (by decide) ?_)
  refine wpAny_bind (wpAny_callSpecial?_slot (name := Str.ofString "__getitem__") ht.typeIs PyProof.Rows.slot_tuple_getitem
    (wpAny_call_entry PyProof.Rows.slot_tuple_getitem ht.typeIs entry_tuple_getitem ?_ (args_tuple_getitem _ _)))
  show wpAny _ _ (Builtin.Tuple.tupleItemsOf (.ref t) >>= _) _ _ s
  refine wpAny_bind (tupleItemsOf_ ht ?_)
  refine wpAny_bind (wpAny_typeOf hTs ?_)
  rw [if_pos (by decide)]
  refine wpAny_bind (sliceApplied_rev hs pl pu ps ?_)
  have hno : ¬ (((items.size : Int) - 1 == 0 && (-1 : Int) == 1 && items.size == items.size) = true) := by
    intro q
    rw [Bool.and_eq_true, Bool.and_eq_true] at q
    exact absurd (eq_of_beq q.1.2) (by decide)
  show wpAny _ _ (if ((items.size : Int) - 1 == 0 && (-1 : Int) == 1 && items.size == items.size) = true then _ else _) _ _ s
  rw [if_neg hno, pick_rev]
  first
    | exact wpAny_bind (m := Builtin.Tuple.tupleExact _) (wpAny_newObj_type (wpAny_pure ⟨_, rfl, wpAny_pure h⟩) htake)
    | exact wpAny_bind (m := Builtin.Tuple.tupleExact _) (wpAny_newObj_type (wpAny_bind (wpAny_pure (wpAny_pure ⟨_, rfl, wpAny_pure h⟩))) htake)
    | exact wpAny_bind (wpAny_bind (m := Builtin.Tuple.tupleExact _) (wpAny_newObj_type (wpAny_pure (wpAny_pure ⟨_, rfl, wpAny_pure h⟩)) htake))
    | exact wpAny_bind (wpAny_bind (m := Builtin.Tuple.tupleExact _) (wpAny_newObj_type (wpAny_pure ⟨_, rfl, wpAny_pure h⟩) htake))
/-- xs[:0:-1] -/
theorem pick_rev0 (items : Array Value) : slicePick items none (some 0) (some (-1)) = (items.toList.drop 1).reverse.toArray := by
  unfold slicePick
  have hb : sliceBounds none (some 0) (some (-1)) items.size = ((items.size : Int) - 1, min 0 ((items.size : Int) - 1), -1) := by
    show ((items.size : Int) - 1, max (-1) (min (if (0 : Int) < 0 then (0 : Int) + items.size else 0) ((items.size : Int) - 1)), (-1 : Int)) = _
    rw [if_neg (by decide)]
    congr 2
    omega
  rw [hb]
  show ((sliceRange ((items.size : Int) - 1) (min 0 ((items.size : Int) - 1)) (-1)).filterMap (items[·]?)).toArray = _
  have hr : sliceRange ((items.size : Int) - 1) (min 0 ((items.size : Int) - 1)) (-1) = (List.range (items.size - 1)).map fun k => items.size - 1 - k := by
    unfold sliceRange
    have h1 : ¬ ((-1 : Int) > 0) := by decide
    by_cases h : (items.size : Int) - 1 > min 0 ((items.size : Int) - 1)
    · have e : (((items.size : Int) - 1 - min 0 ((items.size : Int) - 1) - -1 - 1) / (- -1)) = ((items.size - 1 : Nat) : Int) := by
        rw [show (- -1 : Int) = 1 by decide, Int.ediv_one]
        omega
      simp only [h1, if_false, h, if_true, e, Int.toNat_natCast]
      apply List.map_congr_left
      intro k hk
      have := List.mem_range.mp hk
      omega
    · have e : items.size - 1 = 0 := by omega
      rw [e]
      simp only [h1, if_false, h]
      rfl
  rw [hr]
  congr 1
  have e2 : ((List.range (items.size - 1)).map fun k => items.size - 1 - k) = ((List.range (items.size - 1)).map (1 + ·)).reverse := by
    apply List.ext_getElem
    · simp
    · intro i h1 h2
      simp only [List.length_map, List.length_range] at h1
      rw [List.getElem_map, List.getElem_range, List.getElem_reverse, List.getElem_map, List.getElem_range]
      simp only [List.length_map, List.length_range]
      omega
  rw [e2, List.filterMap_reverse, pick_run items 1 (items.size - 1), List.take_of_length_le (by rw [List.length_drop, Array.length_toList]; exact Nat.le_refl _)]
end
end LWR
namespace L2
open PySem PySem.Spec PyProof.Rows
section
variable {X : Cx}
def tRevT' (K : PySem.W.Frag) (te : TE) : TE := fun σ H Q => te σ H fun x H1 => ∃ a xs, x = .ref a ∧ SqT K H1 a xs ∧ ∀ p, H1 p = none → Q (.ref p) (upd H1 p (.tup xs.reverse))
theorem pe_revT' {e : Expr} {te : TE} {k : Nat} {p1 p2 p3 pos : Pos} (he : PE X e te) : PE X (.Subscript e (.Slice none none (some (.UnaryOp .USub (.Constant (.int 1) k p1) p2)) p3) pos) (tRevT' X.K te) := by
  refine ⟨fun pins s σ H Q I h => ?_⟩
  refine Subscript_ (thn (he.run pins s σ H _ I h) fun v s1 ⟨x, H1, I1, r1, q1⟩ => ?_)
  obtain ⟨a, xs, ex, hx, q⟩ := q1
  subst ex
  cases r1
  have hst : PO X (some (.UnaryOp .USub (.Constant (.int 1) k p1) p2)) (tPart (tUn (rU fun i => .int (-i)) (tC (.int 1)))) := po_some (pe_un un_neg pe_int)
  refine wpAny_Slice (thn (po_none.run pins s1 σ H1 (fun o H2 => o = none ∧ H2 = H1) I1 ⟨rfl, rfl⟩) fun vl s2 ⟨l, H2, I2, pl, el, e2⟩ => ?_)
  subst el e2
  refine thn (po_none.run pins s2 σ H2 (fun o H3 => o = none ∧ H3 = H2) I2 ⟨rfl, rfl⟩) fun vu s3 ⟨u, H3, I3, pu, eu, e3⟩ => ?_
  subst eu e3
  refine thn (hst.run pins s3 σ H3 (fun o H4 => o = some (-1) ∧ H4 = H3) I3 ⟨1, rfl, -1, rfl, rfl, rfl⟩) fun vs s4 ⟨o, H4, I4, ps, eo, e4⟩ => ?_
  subst eo e4
  have I5 : Inv X pins σ H4 { s4 with heap := s4.heap.push { cls := .type "slice", data := .fields #[vl, vu, vs] } } := I4.kept (t' := s4.toks) fun b ob q => Heap.get?_push_of_some _ q
  obtain ⟨its, r, ht, hz⟩ := I5.tuple hx
  have hlen := r.length
  show wpAny (model X.prog X.w) X.A (subscriptTail e (.Slice none none (some (.UnaryOp .USub (.Constant (.int 1) k p1) p2)) p3) (.ref a) (.ref s4.heap.objs.size)) (EP X pins σ Q) X.xe { s4 with heap := s4.heap.push { cls := .type "slice", data := .fields #[vl, vu, vs] } }
  refine tail_any (ops := [.ref a, .ref s4.heap.objs.size]) ht.typeIs (PyProof.Rows.slot_tuple_getitem.lookup) ?_ (by with_unfolding_all rfl)
  refine LWR.getItem_tuple_rev ht (Heap.IsSliceOf.new _ vl vu vs) pl pu ps ?_ (by rw [List.size_toArray]; omega)
  refine ⟨.ref _, _, I5.laid (t' := s4.toks) (o := .tup xs.reverse) (fun b ob q => Heap.get?_push_of_some _ q) (Nat.le_refl _) ?_, rfl, q _ (I5.hok.fresh (Nat.le_refl _))⟩
  exact ⟨by rw [List.length_reverse]; exact hz, _, r.reverse, _, Heap.get?_push_size _ rfl, rfl, 0, rfl⟩
def tRev0 (K : PySem.W.Frag) (te : TE) : TE := fun σ H Q => te σ H fun x H1 => ∃ a xs, x = .ref a ∧ SqL K H1 a xs ∧ ∀ p, H1 p = none → Q (.ref p) (upd H1 p (.lst (xs.drop 1).reverse))
theorem pe_rev0 {e : Expr} {te : TE} {k k2 : Nat} {p0 p1 p2 p3 pos : Pos} (he : PE X e te) : PE X (.Subscript e (.Slice none (some (.Constant (.int 0) k2 p0)) (some (.UnaryOp .USub (.Constant (.int 1) k p1) p2)) p3) pos) (tRev0 X.K te) := by
  refine ⟨fun pins s σ H Q I h => ?_⟩
  refine Subscript_ (thn (he.run pins s σ H _ I h) fun v s1 ⟨x, H1, I1, r1, q1⟩ => ?_)
  obtain ⟨a, xs, ex, hx, q⟩ := q1
  subst ex
  cases r1
  have hst : PO X (some (.UnaryOp .USub (.Constant (.int 1) k p1) p2)) (tPart (tUn (rU fun i => .int (-i)) (tC (.int 1)))) := po_some (pe_un un_neg pe_int)
  have h0 : PO X (some (.Constant (.int 0) k2 p0)) (tPart (tC (.int 0))) := po_some pe_int
  refine wpAny_Slice (thn (po_none.run pins s1 σ H1 (fun o H2 => o = none ∧ H2 = H1) I1 ⟨rfl, rfl⟩) fun vl s2 ⟨l, H2, I2, pl, el, e2⟩ => ?_)
  subst el e2
  refine thn (h0.run pins s2 σ H2 (fun o H3 => o = some 0 ∧ H3 = H2) I2 ⟨0, rfl, rfl, rfl⟩) fun vu s3 ⟨u, H3, I3, pu, eu, e3⟩ => ?_
  subst eu e3
  refine thn (hst.run pins s3 σ H3 (fun o H4 => o = some (-1) ∧ H4 = H3) I3 ⟨1, rfl, -1, rfl, rfl, rfl⟩) fun vs s4 ⟨o, H4, I4, ps, eo, e4⟩ => ?_
  subst eo e4
  have I5 : Inv X pins σ H4 { s4 with heap := s4.heap.push { cls := .type "slice", data := .fields #[vl, vu, vs] } } := I4.kept (t' := s4.toks) fun b ob q => Heap.get?_push_of_some _ q
  obtain ⟨its, r, ht, hz⟩ := I5.list hx
  have hlen := r.length
  show wpAny (model X.prog X.w) X.A (subscriptTail e (.Slice none (some (.Constant (.int 0) k2 p0)) (some (.UnaryOp .USub (.Constant (.int 1) k p1) p2)) p3) (.ref a) (.ref s4.heap.objs.size)) (EP X pins σ Q) X.xe { s4 with heap := s4.heap.push { cls := .type "slice", data := .fields #[vl, vu, vs] } }
  refine tail_any (ops := [.ref a, .ref s4.heap.objs.size]) ht.isList.typeIs (PySem.slot_list_getitem.lookup) ?_ (by with_unfolding_all rfl)
  refine wpAny_getItem_list_slice ht.isList (Heap.IsSliceOf.new _ vl vu vs) pl pu ps (by decide) ?_ (by rw [List.size_toArray]; omega)
  rw [LWR.pick_rev0]
  have rr : Vals (xs.drop 1).reverse (its.drop 1).reverse := (r.drop 1).reverse
  refine ⟨.ref _, _, I5.laid (t' := s4.toks) (o := .lst (xs.drop 1).reverse) (fun b ob q => Heap.get?_push_of_some _ q) (Nat.le_refl _) ?_, rfl, q _ (I5.hok.fresh (Nat.le_refl _))⟩
  exact ⟨by rw [List.length_reverse, List.length_drop]; omega, _, 0, rr, Heap.get?_push_size _ rfl⟩
end
end L2
namespace LW
open PySem PySem.Spec L2
section
variable {X : Cx} {W : WX} {e : Expr} {me : M D}
def rRevT (me : M D) : M Rs := bnd me fun d s => match drf s.sto d with
  | .tup ds => .ok (.d (.tup ds.reverse)) s
  | _ => .bad
theorem sr_revT {k : Nat} {p1 p2 p3 pos : Pos} (he : SE W X e me) : SR W X (.Subscript e (.Slice none none (some (.UnaryOp .USub (.Constant (.int 1) k p1) p2)) p3) pos) (rRevT me) :=
  SR.of (pe_revT' he.pe) fun Z ph F s sg H Q r bd h => by
    refine tE_bnd kdR r h fun d1 s1 v1 H1 p1 F1 x1 r1 q1 b1 h1 => ?_
    replace h1 := h1.up x1
    cases g : drf s1.sto d1 with
    | tup ds =>
      simp only [g] at h1
      have e1 := drf_sc g rfl
      obtain ⟨a, xs, rfl, g1, g2⟩ := rd_tup r1.w q1 g
      refine ⟨a, xs, rfl, SqT.of g1, fun p hp b => ?_⟩
      obtain ⟨hF, hZ, hph⟩ := r1.w.fresh hp
      exact h1 _ _ p1 _ (r1.ext hp) (r1.lay hp) (.tup upd_same (g2.rev.up (extF hF))) b
    | _ => simp only [g] at h1; exact h1.elim
def rRev0 (me : M D) : M Rs := bnd me fun d s => match drf s.sto d with
  | .lst ds => .ok (.c (.lst (ds.drop 1).reverse)) s
  | _ => .bad
theorem sr_rev0 {k k2 : Nat} {p0 p1 p2 p3 pos : Pos} (he : SE W X e me) : SR W X (.Subscript e (.Slice none (some (.Constant (.int 0) k2 p0)) (some (.UnaryOp .USub (.Constant (.int 1) k p1) p2)) p3) pos) (rRev0 me) :=
  SR.of (pe_rev0 he.pe) fun Z ph F s sg H Q r bd h => by
    refine tE_bnd kdR r h fun d1 s1 v1 H1 p1 F1 x1 r1 q1 b1 h1 => ?_
    replace h1 := h1.up x1
    cases g : drf s1.sto d1 with
    | lst ds =>
      simp only [g] at h1
      obtain ⟨a, xs, rfl, g1, g2⟩ := rd_lst r1.w q1 g
      refine ⟨a, xs, rfl, SqL.of g1, fun p hp b => ?_⟩
      obtain ⟨hF, hZ, hph⟩ := r1.w.fresh hp
      exact h1 p _ p1 F1 .refl (r1.new hp) ⟨hF, hph, hZ, ⟨hF, _, upd_same, (DrA.drop 1 g2).rev⟩, by intro z; cases z⟩ b
    | _ => simp only [g] at h1; exact h1.elim
end
end LW
namespace LWS
open PySem PySem.Spec PyProof.Rows L2
/-! set(xs), xs a list of ints: as set(t) of a tuple (HandS.SetFor), over the list's walk -/
section
variable {P : Program} {w : World} {A : Around} {E : Value → Shared → Prop} {s : Shared}
abbrev bare (w : World) : Obj := { cls := .type "set", dict := none, data := .set #[] 0 (.fresh 0 0 (!w.params.followText "set-order")) }
theorem set_of_list {l : Addr} {items : Array Value} (ns : List Int) {Q : Value → Shared → Prop} (hh : A.handled = none) (hl : s.heap.IsList l items) (hit : IntsAre items.toList ns) (hb : ns.length + 1 < scanBound)
    (h : ∀ (h' : Heap) (tk c : Nat), SetR w h' s.heap.objs.size (fun j => decide (j ∈ ns)) c → c ≤ ns.length → (∀ b o, s.heap.get? b = some o → h'.get? b = some o) → Q (.ref s.heap.objs.size) { s with heap := h', toks := tk }) :
    wpAny (model P w) A (call (.type "set") [.ref l]) Q E s := by
  have hisz : items.size = ns.length := by
    have q := IntsAre.length hit
    rwa [Array.length_toList] at q
  obtain ⟨c, tl, hmro⟩ := F.called_set.mro
  have hmade := F.called_set.made
  have hsub := F.called_set.sub
  refine wpAny_call (codeAny_of_tree ?_)
  show wpAny _ _ (callAny (.type "set") _) _ _ _
  refine wpAny_pure ⟨Code.quiet_builtin _ (by decide +kernel), codeAny_builtin F.entry_type_call ?_⟩
  rw [Around.under_plain (weight_type_call_type "set" [.ref l] []) rfl]
  have h1 := F.called_set.notType
  have h2 := F.called_set.canCreate
  have hct := F.typeCall_set_1 (.ref l)
  repeat (any_goals (first | assumption | wp_step))

  refine codeAny_mono (code_set_led1 (.ref l) (E := E) (Q₁ := fun obj s₁ => obj = .ref s.heap.objs.size ∧ s₁ = { s with heap := s.heap.push (bare w) }) ⟨rfl, rfl⟩) fun r s₁ hr => ?_
  cases r with
  | error e => exact hr
  | ok fl =>
    cases fl with
    | ret obj =>
      obtain ⟨rfl, rfl⟩ := hr
      have hS : (s.heap.push (bare w)).get? s.heap.objs.size = some (bare w) := Heap.get?_push_size _ rfl
      have hT : Shared.TypeIs { s with heap := s.heap.push (bare w) } (.ref s.heap.objs.size) "set" := ⟨_, hS, rfl⟩
      have hli := F.called_set.init.lookup
      have hbi := F.called_set.init.bind (.ref s.heap.objs.size)
      repeat (any_goals (first | assumption | wp_step))

      refine codeAny_mono (codeAny_call_builtin (R := wants (fun r s₂ => r = .none ∧ ∃ h' tk c, s₂ = { s with heap := h', toks := tk } ∧ SetR w h' s.heap.objs.size (fun j => decide (j ∈ ns)) c ∧ c ≤ ns.length ∧
          (∀ b o, s.heap.get? b = some o → h'.get? b = some o)) E) F.called_set.init.plain F.entry_set_init (check_set_init_1 hT ?_)) fun r₂ s₂ hr₂ => ?_
      · obtain ⟨ol, hol, hcl, nl, hdl⟩ := hl
        obtain ⟨ocls, odict, odata, oslots⟩ := ol
        simp only at hcl hdl
        subst hcl; subst hdl
        have hol' : (s.heap.push (bare w)).get? l = some { cls := .type "list", dict := odict, data := .seq items nl, slots := oslots } := Heap.get?_push_of_some _ hol
        have hsls := F.sub_list_set
        have hslf := F.sub_list_frozenset
        have hne : (Value.type "list" == Value.type "dict") = false := by decide
        have hl1 : (s.heap.push (bare w)).IsList l items := ⟨_, hol', rfl, nl, rfl⟩
        unfold Builtin.«set.__init__» noKeywords Builtin.Frozenset.updateFrom
        generalize hPI : pyIter = PI
        wp_walk
        subst hPI
        refine wpAny_pyIter_list hl1 ?_
        refine wpAny_bind (wpAny_runValue ?_)
        have hlS : l < s.heap.objs.size := Heap.lt_size hol
        have hh3 : A.in1.in1.in1.handled = none := by simp [hh]
        have hneI : l ≠ (s.heap.push (bare w)).objs.size := by
          rw [Heap.size_push]; exact Nat.ne_of_lt (Nat.lt_succ_of_lt hlS)
        have hSf : s.heap.objs.size ∉ [(s.heap.push (bare w)).objs.size, l] := by
          rw [Heap.size_push]; simp only [List.mem_cons, List.mem_singleton, List.not_mem_nil, or_false, not_or]
          exact ⟨Nat.ne_of_lt (Nat.lt_succ_self _), Nat.ne_of_gt hlS⟩
        have hval : ∀ (i : Nat) (v : Value), items[i]? = some v → ∃ k t, ns[i]? = some k ∧ v = .int k t := fun i v hv => by
          have hi : i < ns.length := by rw [← hisz]; exact (Array.getElem?_eq_some_iff.mp hv).1
          obtain ⟨t, e⟩ := PyProof.Rows.IntsAre.int_at hit i v (by rw [Array.getElem?_toList]; exact hv)
          refine ⟨ns[i], t, List.getElem?_eq_getElem hi, ?_⟩
          rw [e, List.getD_eq_getElem?_getD, List.getElem?_eq_getElem hi] <;> rfl
        refine set_update_ints ((Walks.list hh3 _ l hneI items).toS) s.heap.objs.size
          hSf ns hisz hb hval (items.size - 0) 0 _ (by omega) (Nat.zero_le _)
          ⟨⟨_, Heap.get?_push_size _ rfl, rfl, rfl⟩, (hl1.push _)⟩ ?hS0 ?hR
        case hS0 => exact ⟨0, Nat.le_refl 0, setR_new_at (Heap.get?_push_of_some _ hS)⟩
        case hR =>
          intro s' c' hm hc' hS'
          obtain ⟨h', g2, d', tk', os'⟩ := s'
          have eg : g2 = s.gens := hm.gens
          have ed : d' = s.drawn := hm.drawn
          have eo : os' = s.os := hm.os
          subst eg; subst ed; subst eo
          show wpAny _ _ _ _ _ _
          refine wpAny_pure ?_
          show wpAny _ _ (ret Value.none) _ _ _
          rw [hisz] at hc'
          refine wpAny_pure ⟨rfl, h', tk', c', rfl, hS', hc', fun b o e => ?_⟩
          have hb0 : b < s.heap.objs.size := Heap.lt_size e
          have hb1 : b ≠ s.heap.objs.size := Nat.ne_of_lt hb0
          have hb2 : b ≠ (s.heap.push (bare w)).objs.size := by
            rw [Heap.size_push]; exact Nat.ne_of_lt (Nat.lt_succ_of_lt hb0)
          exact hm.heap b o (by simp only [List.mem_cons, List.mem_singleton, List.not_mem_nil, or_false, not_or]; exact ⟨hb1, hb2⟩) (Heap.get?_push_of_some _ (Heap.get?_push_of_some _ e))
      · cases r₂ with
        | error e => exact hr₂
        | ok fl₂ =>
          cases fl₂ with
          | ret r =>
            obtain ⟨rfl, h', tk, c', rfl, hS', hc', hk'⟩ := hr₂
            repeat (any_goals (first | assumption | wp_step))
            exact h _ _ _ hS' hc' hk'
          | _ => exact hr₂.elim
    | _ => exact hr.elim
end
end LWS
namespace LW
open PySem PySem.Spec L2
open PyProof.Rows (envOfC)
section
variable {X : Cx}
/-- sorted(set(xs)), fewer than 64 ints -/
theorem nodup_dups : ∀ (n : Nat) (ns : List Int), ns.length ≤ n → ns.eraseDups.Nodup
  | _, [], _ => by simp
  | n + 1, a :: as, h => by
    rw [List.eraseDups_cons]
    refine List.nodup_cons.mpr ⟨fun z => ?_, nodup_dups n _ ?_⟩
    · have := List.mem_eraseDups.mp z
      simp at this
    · have := List.length_filter_le (fun b => !b == a) as
      simp only [List.length_cons] at h
      omega
def dups (ns : List Int) : List Int := ns.eraseDups.mergeSort fun a b => decide (a ≤ b)
theorem dups_eq {ns ms : List Int} (h1 : ms.Pairwise (· < ·)) (h2 : ∀ k, k ∈ ms ↔ k ∈ ns) : ms = dups ns := by
  have nd : ns.eraseDups.Nodup := nodup_dups _ ns (Nat.le_refl _)
  have p : (dups ns).Perm ns.eraseDups := List.mergeSort_perm _ _
  have pw : (dups ns).Pairwise (· ≤ ·) := by
    have := List.pairwise_mergeSort (le := fun a b : Int => decide (a ≤ b)) (fun a b c => by simp only [decide_eq_true_eq]; omega) (fun a b => by simp only [Bool.or_eq_true, decide_eq_true_eq]; omega) ns.eraseDups
    exact this.imp fun h => by simpa using h
  have nd2 : (dups ns).Nodup := p.nodup_iff.mpr nd
  have pw2 : (dups ns).Pairwise (· < ·) := (pw.and nd2).imp fun h => by omega
  have n1 : ms.Nodup := h1.imp fun h => by omega
  exact List.Perm.eq_of_pairwise (le := fun a b : Int => a < b) (fun a b _ _ h h' => by omega) h1 pw2 ((List.perm_ext_iff_of_nodup n1 nd2).mpr fun a => by
    rw [h2, p.mem_iff, List.mem_eraseDups])
abbrev rSSet (K : PySem.W.Frag) : List V → Hp → VK → Prop := fun xs H Q => ∃ (a : Addr) (ns : List Int), xs = [V.ref a] ∧ (SqL K H a (ns.map V.int) ∨ SqT K H a (ns.map V.int)) ∧ ns.length < 64 ∧
  ∀ p, H p = none → Q (.ref p) (upd H p (.lst ((dups ns).map V.int)))
theorem pe_sset {t : TA} {e : Expr} {p p2 pos q : Pos} (hc : X.calm = true) (hg : Gl X "sorted") (hm : X.mg "sorted" = none) (hg2 : Gl X "set") (hm2 : X.mg "set" = none) (ha : PA X [e] t)
    (he : starEach [e] X.env = (false, eval e X.env) :: starEach [] X.env := by rfl) (hpl : (backTo q (starEach [] X.env)).any (·.1) = false := by rfl) (hd1 : ("sorted" : Str) ≠ "__name__" := by decide) (hd2 : ("set" : Str) ≠ "__name__" := by decide)
    (hd3 : (("sorted" : Str) == ("__debug__" : Str)) = false := by decide) (hd4 : (("set" : Str) == ("__debug__" : Str)) = false := by decide) : PE X (.Call (.Name "sorted" p) [.Call (.Name "set" p2) [e] [] q] [] pos) (tCB (rSSet X.K) t) := by
  refine ⟨fun pins s σ H Q I h => ?_⟩
  refine wpAny_Call_Name_kw (ld_blt I hg hm PyProof.Rows.boot_sorted ?_ hd1 hd3)
  refine PyProof.Rows.callWith_builtin1 (PyProof.Rows.args_cons ?_ rfl) rfl rfl
  refine wpAny_Call_Name_kw (ld_blt I hg2 hm2 PyProof.Rows.boot_set ?_ hd2 hd4)
  refine PyProof.Rows.callWith_type1 (thn (ha.run q pins s σ H _ I h) fun us s1 ⟨vs, H1, I1, r1, q1⟩ => ?_) he hpl
  obtain ⟨a, ns, rfl, hs, h64, q1⟩ := q1
  rw [Vals.ref1 r1]
  have fin : ∀ (h' : Heap) (tk c : Nat), SetR X.w h' s1.heap.objs.size (fun j => decide (j ∈ ns)) c → c ≤ ns.length → (∀ b o, s1.heap.get? b = some o → h'.get? b = some o) →
      wpAny (model X.prog X.w) X.A (call (.builtin "sorted") [.ref s1.heap.objs.size]) (EP X pins σ Q) X.xe { s1 with heap := h', toks := tk } := fun h' tk c hS hc' hk => by
    have I2 : Inv X pins σ H1 { s1 with heap := h', toks := tk } := I1.kept hk
    refine sorted_set (s := { s1 with heap := h', toks := tk }) hS (I2.ok.hd hc) (by omega) fun s' p out c2 ks k g o hp hg hi hs hm hl => ?_
    have ek : ks = dups ns := dups_eq hs fun k => by rw [hm]; simp
    subst ek
    have hlen : ((dups ns).map V.int).length ≤ sizeLine := by rw [List.length_map, hl, sizeLine_eq]; omega
    have hn : H1 p = none := I2.hok.fresh hp
    have J : Inv X pins σ (upd H1 p (.lst ((dups ns).map V.int))) { s1 with heap := s'.heap, gens := s'.gens, drawn := s'.drawn, toks := s'.toks } :=
      I2.call (s := { s1 with heap := h', toks := tk }) (ch := []) (Un.laid k hp hn) (I2.hok.laid k hp ⟨hlen, out.toList, c2, vals_of_ints hi, hg⟩) (by rw [g]; exact I1.bare) (fun _ z => nomatch z)
    have e : s' = { s1 with heap := s'.heap, gens := s'.gens, drawn := s'.drawn, toks := s'.toks } := by
      cases s'
      cases s1
      cases o
      rfl
    rw [e]
    exact ⟨.ref p, _, J, rfl, q1 p hn⟩
  rcases hs with hs | hs
  · obtain ⟨its, r, pl, hz⟩ := I1.list hs
    exact LWS.set_of_list ns (I1.ok.hd hc) pl.isList (by simpa using r.ints) (by unfold scanBound; omega) fun h' tk c hS hc' hk => PyProof.Rows.args_nil (fin h' tk c hS hc' hk)
  · obtain ⟨its, rv, ⟨o, ho, hcl, n, hd0⟩, hz⟩ := I1.tuple hs
    exact call_set_tupI ns (I1.ok.hd hc) ⟨o, ho, hcl, n, hd0⟩ (by simpa using rv.ints) (by unfold scanBound; omega) fun h' tk c hS hc' hk => PyProof.Rows.args_nil (fin h' tk c hS hc' hk)
def gSSet (_ : List Cell) : List D → Option Rs
  | [.lst ds] => (match intsD ds with
    | some ns => if ns.length < 64 then some (.c (.lst ((dups ns).map D.int))) else none
    | none => none)
  | [.tup ds] => (match intsD ds with
    | some ns => if ns.length < 64 then some (.c (.lst ((dups ns).map D.int))) else none
    | none => none)
  | [.tpz ds] => (match intsD ds with
    | some ns => if ns.length < 64 then some (.c (.lst ((dups ns).map D.int))) else none
    | none => none)
  | _ => none
theorem drA_ints {K : PySem.W.Frag} {ph : List Addr} {F : Hp} : ∀ ns : List Int, DrA K ph F (ns.map V.int) (ns.map D.int)
  | [] => .nil
  | n :: r => .cons (.int n) (drA_ints r)
theorem okSSet : OkR X (rSSet X.K) (puR gSSet) := OkR.pure fun Z ph F sto H xs ds d Q w bd q e k1 k2 => by
  generalize hm : ds.map (drf sto) = l at e
  have fin : ∀ {ns : List Int} {a : Addr}, xs = [V.ref a] → (SqL X.K H a (ns.map V.int) ∨ SqT X.K H a (ns.map V.int)) → ns.length < 64 → d = .c (.lst ((dups ns).map D.int)) → rSSet X.K xs H Q := fun {ns a} e1 e2 e3 e4 => by
    subst e4
    exact ⟨a, ns, e1, e2, e3, fun p hp => k2 _ rfl (by intro z; cases z) p _ hp fun hF => ⟨hF, _, upd_same, drA_ints _⟩⟩
  unfold gSSet at e
  split at e
  · split at e
    · rename_i ns hi
      split at e
      · rename_i h64
        cases e
        obtain ⟨v, a, rfl, rfl, h1, e1⟩ := dr1 q hm
        obtain ⟨ad, ys, rfl, g1, g2⟩ := rd_lst w h1 e1
        rw [intsD_ok hi g2] at g1
        exact fin rfl (.inl (SqL.of g1)) h64 rfl
      · cases e
    · cases e
  · split at e
    · rename_i ns hi
      split at e
      · rename_i h64
        cases e
        obtain ⟨v, a, rfl, rfl, h1, e1⟩ := dr1 q hm
        obtain ⟨ad, ys, rfl, g1, g2⟩ := rd_tup w h1 e1
        rw [intsD_ok hi g2] at g1
        exact fin rfl (.inr (SqT.of g1)) h64 rfl
      · cases e
    · cases e
  · split at e
    · rename_i ns hi
      split at e
      · rename_i h64
        cases e
        obtain ⟨v, a, rfl, rfl, h1, e1⟩ := dr1 q hm
        obtain ⟨ad, ob, ys, rfl, g1, _, _, g2⟩ := rd_tpz w h1 e1
        rw [intsD_ok hi g2] at g1
        exact fin rfl (.inr (.inl (.inr ⟨_, g1⟩))) h64 rfl
      · cases e
    · cases e
  · cases e
theorem x_sset {W : WX} {k : Nat} {p p2 pos q : Pos} {e : Expr} {ma : M (List D)} (C : Ct k X) (hg : Gl X "sorted") (hg2 : Gl X "set") (ha : SA W X [e] ma) (he : starEach [e] X.env = (false, eval e X.env) :: starEach [] X.env := by rfl) (hpl : (backTo q (starEach [] X.env)).any (·.1) = false := by rfl) :
    SR W X (.Call (.Name "sorted" p) [.Call (.Name "set" p2) [e] [] q] [] pos) (rN (puR gSSet) ma) :=
  SR.of (pe_sset C.cm hg C.gz.zsorted hg2 C.gz.zset ha.pa he hpl) fun Z ph F s sg H Q r bd h => rN_ok okSSet r h
end
end LW
namespace LW
open PySem PySem.Spec L2
open PyProof.Rows (envOfC)
section
variable {X : Cx}
/-! xs.count(k), xs a list of ints -/
def gCount (_ : List Cell) : List D → Option D
  | [.lst ds, .int k] => (intsD ds).map fun ns => .int (ns.count k : Nat)
  | _ => none
theorem rd_int {K : PySem.W.Frag} {mg : Str → Option Value} {Z : En} {ph : List Addr} {F H : Hp} {sto : List Cell} {v : V} {d : D} {k : Int} (h : Dr K ph F v d) (e : drf sto d = .int k) : v = .int k := by
  cases h with
  | int i => cases e; rfl
  | @loc n a h1 =>
    simp only [drf] at e
    cases q : sto[n]? with
    | none => rw [q] at e; cases e
    | some c => rw [q] at e; cases c <;> cases e
  | _ => cases e
theorem okCount : OkN X (mR (rCntI X.K)) (pu gCount) := OkN.pure fun Z ph F sto H xs ds d Q w bd q e k1 k2 => by
  generalize hm : ds.map (drf sto) = l at e
  unfold gCount at e
  split at e
  · rename_i es k
    obtain ⟨v, u, a, b, rfl, rfl, h1, h2, e1, e2⟩ := dr2 q hm
    cases g : intsD es with
    | none => rw [g] at e; cases e
    | some ns =>
      rw [g] at e
      cases e
      obtain ⟨ad, ys, rfl, g4, g5⟩ := rd_lst w h1 e1
      rw [intsD_ok g g5] at g4
      have eu := rd_int (mg := X.mg) (Z := Z) (H := H) h2 e2
      subst eu
      exact ⟨_, _, rfl, ad, ns, k, rfl, rfl, SqL.of g4, k1 _ (.int _)⟩
  · cases e
theorem x_count {W : WX} {pos apos : Pos} {o e : Expr} {es : List Expr} {mo : M D} {ma : M (List D)} (ho : SE W X o mo) (ha : SA W X (e :: es) ma)
    (hbase : attributeBase o "count" X.env (eval o X.env) = eval o X.env := by rfl)
    (hfew : ((backTo pos (starEach (e :: es) X.env)).all (fun x => !x.1) && (backToKw pos (keywordEach [] X.env)).all (fun x => x.1.isSome)
      && decide ((e :: es).length + ([] : List Keyword).length + (if ([] : List Keyword).isEmpty then 0 else 1) < 30)) = true := by rfl)
    (hline : (apos.endLine == pos.line) = true := by rfl) (hs : starEach (e :: es) X.env = (false, eval e X.env) :: starEach es X.env := by rfl) (hplain : (backTo pos (starEach es X.env)).any (·.1) = false := by rfl) :
    SE W X (.Call (.Attribute o "count" apos) (e :: es) [] pos) (eMtL (pu gCount) mo ma) := se_mtL PySem.F.slot_list_count PySem.F.type_list_count mt_lcount okCount ho ha hbase hfew hline hs hplain
end
end LW
namespace LW
open PySem PySem.Spec L2
open PyProof.Rows (envOfC)
open PySem.W (alike AlikeAll dataLt iter_listW iter_tupleW moved_old cmpIn_lt cmpIn_gt)
/-! max(xs, default=k), xs a list, k a whole number -/
section
variable {X : Cx}
abbrev rMaxD (K : PySem.W.Frag) (k : Int) : List V → List V → Hp → VK → Prop := fun xs zs H Q => ∃ a ys ds, xs = [V.ref a] ∧ zs = [V.int k] ∧ SqL K H a ys ∧ DpAll K H ys ds ∧ AlikeAll ds ∧ PyData.depthAll ds < 50 ∧
  (ys = [] → Q (.int k) H) ∧ ∀ v, ys[argBest (fun i j => dataLt (ds.getD j .none) (ds.getD i .none)) (ds.length - 1)]? = some v → Q v H
theorem call_maxD (k : Int) (hc : X.calm = true) (hu : X.A.units + 64 < cLine) : CallRK X (.builtin "max") [Str.ofString "default"] (rMaxD X.K k) := by
  intro pins s sg H xs zs us ws Q I r rz h
  obtain ⟨a, ys, ds, rfl, rfl, hs, dp, al, dep, q0, q⟩ := h
  obtain ⟨u, rfl, ru⟩ := vals1 r
  cases ru
  obtain ⟨w1, rfl, e1⟩ := vals1 rz
  have hld := dpAll_len dp
  obtain ⟨its, rv, pl, hz⟩ := I.list hs
  obtain ⟨as, rd⟩ := Dp.readsAll I ds ys its dp rv
  have hlen := rv.length
  refine call_max_walkD (iter_listW (A := X.A.in1) (I.ok.hd hc) pl.isList fun s₂ e W st hfp hw hk => ?_)
  refine ⟨_, _, _, _, _, _, _, s.heap, _, rfl, W, st, hfp, hw, hk, fun hz0 s' m => ?_, fun hp => ⟨cmpIn_gt (A := X.A.in1) rd al (by show X.A.units + 1 + _ < _; omega), fun v s' hP m => ?_⟩⟩
  · obtain ⟨h', tk, rfl, hk'⟩ := moved_old e rfl m
    have : ys = [] := List.eq_nil_of_length_eq_zero (by have hz1 : its.toArray.size = 0 := hz0; rw [List.size_toArray] at hz1; omega)
    exact ⟨.int k, H, I.kept hk', e1, q0 this⟩
  · obtain ⟨h', tk, rfl, hk'⟩ := moved_old e rfl m
    have e2 : its.toArray.size - 1 = ds.length - 1 := by simp; omega
    rw [e2] at hP
    have hP' : its[argBest (fun i j => dataLt (ds.getD j .none) (ds.getD i .none)) (ds.length - 1)]? = some v := by simpa using hP
    obtain ⟨x, hx⟩ : ∃ x, ys[argBest (fun i j => dataLt (ds.getD j .none) (ds.getD i .none)) (ds.length - 1)]? = some x := by
      have := (List.getElem?_eq_some_iff.mp hP').1
      exact ⟨_, List.getElem?_eq_getElem (by omega)⟩
    obtain ⟨u', g1, g2⟩ := rv.get hx
    rw [hP'] at g1
    cases g1
    exact ⟨x, H, I.kept hk', g2, q x hx⟩
def gMaxD (k : Int) : D → Option D
  | .lst ds => if ds = [] then some (.int k) else if okAl ds = true then ds[maxAt ds]? else none
  | _ => none
def eMaxD (k : Int) (m : M D) : M D := bnd m fun d s => match gMaxD k (drf s.sto d) with
  | some v => .ok v s
  | none => .bad
theorem x_maxD {W : WX} {k : Nat} {p pos kpos cpos : Pos} {e : Expr} {ma : M D} {j : Nat} {i : Int} (C : Ct k X) (hg : Gl X "max") (ha : SE W X e ma)
    (h1 : starEach [e] X.env = (false, eval e X.env) :: starEach [] X.env := by rfl)
    (he : backTo pos (starEach [e] X.env) = (false, eval e X.env) :: backTo pos (starEach [] X.env) := by rfl) (hpl : (backTo pos (starEach [e] X.env)).any (·.1) = false := by rfl)
    (hall : (backToKw pos (keywordEach [⟨some "default", .Constant (.int i) j cpos, kpos⟩] X.env)).all (·.1.isSome) = true := by rfl) (hnone : (backToKw pos (keywordEach [⟨some "default", .Constant (.int i) j cpos, kpos⟩] X.env)).any (·.1.isNone) = false := by rfl) (hks : (backToKw pos (keywordEach [⟨some "default", .Constant (.int i) j cpos, kpos⟩] X.env)).filterMap (·.1) = [Str.ofString "default"] := by rfl) :
    SE W X (.Call (.Name "max" p) [e] [⟨some "default", .Constant (.int i) j cpos, kpos⟩] pos) (eMaxD i ma) :=
  SE.of (pe_callBK (call_maxD i C.cm C.u64) hg C.gz.zmax PyProof.Rows.boot_max (pa_cons ha.pe pa_nil h1) (pk_cons pe_int pk_nil) (by decide) (by decide) he hpl hall hnone hks) fun Z ph F s sg H Q r bd h => by
    refine tE_bnd kdE r h fun d1 s1 v1 H1 p1 F1 x1 r1 q1 b1 h1 => ?_
    cases g : drf s1.sto d1 with
    | lst ds =>
      rw [g] at h1
      obtain ⟨a, ys, rfl, g1, g2⟩ := rd_lst r1.w q1 g
      simp only [gMaxD] at h1
      by_cases hd : ds = []
      · subst hd
        simp only [if_true] at h1
        cases g2
        exact ⟨a, [], [], rfl, rfl, SqL.of g1, .nil, ⟨fun x hx => (by cases hx), fun x hx => (by cases hx)⟩, by decide, fun _ b => h1 (.int i) H1 p1 F1 x1 r1 (.int i) b, fun v hv => (by cases hv)⟩
      · rw [if_neg hd] at h1
        by_cases ho : okAl ds = true
        · rw [if_pos ho] at h1
          cases em : ds[maxAt ds]? with
          | none => rw [em] at h1; exact h1.elim
          | some d2 =>
            rw [em] at h1
            obtain ⟨f1, f2, f3⟩ := okAl_of ho
            refine ⟨a, ys, pyA ds, rfl, rfl, SqL.of g1, DrA.dp r1.w.sub _ _ f1 g2, f2, f3, fun z => ?_, fun v hv b => ?_⟩
            · subst z
              cases g2
              exact absurd rfl hd
            · rw [pyA_len] at hv
              obtain ⟨d3, g3, g4⟩ := g2.getV (show ys[maxAt ds]? = some v from hv)
              rw [em] at g3
              cases g3
              exact h1 v H1 p1 F1 x1 r1 g4 b
        · rw [if_neg ho] at h1
          exact h1.elim
    | _ => rw [g] at h1; exact h1.elim
end
end LW
namespace LW
open PySem PySem.Spec L2
open PyProof.Rows (envOfC)

/-! types by their signs -/
def eZ (_ : Unit) : D := .non
def eI (i : Int) : D := .int i
def eB (b : Bool) : D := .bl b
def eS (x : Str) : D := .str x
section
variable {α β γ δ ε : Type}
def eO (e : α → D) : Option α → D
  | none => .non
  | some a => e a
def eL (e : α → D) (xs : List α) : D := .lst (xs.map e)
def eV (e : α → D) (xs : List α) : D := .tup (xs.map e)
def eW (e : α → D) (xs : List α) : D := .tpz (xs.map e)
def eP1 (e1 : α → D) (p : α) : D := .tup [e1 p]
def eP2 (e1 : α → D) (e2 : β → D) (p : α × β) : D := .tup [e1 p.1, e2 p.2]
def eP3 (e1 : α → D) (e2 : β → D) (e3 : γ → D) (p : α × β × γ) : D := .tup [e1 p.1, e2 p.2.1, e3 p.2.2]
def eP4 (e1 : α → D) (e2 : β → D) (e3 : γ → D) (e4 : δ → D) (p : α × β × γ × δ) : D := .tup [e1 p.1, e2 p.2.1, e3 p.2.2.1, e4 p.2.2.2]
def eP5 (e1 : α → D) (e2 : β → D) (e3 : γ → D) (e4 : δ → D) (e5 : ε → D) (p : α × β × γ × δ × ε) : D := .tup [e1 p.1, e2 p.2.1, e3 p.2.2.1, e4 p.2.2.2.1, e5 p.2.2.2.2]
def eDI (e : α → D) (kvs : List (Int × α)) : D := .dK (kvs.map fun p => .inl p.1) (kvs.map fun p => e p.2)
def eDT (e : α → D) (kvs : List ((Int × Int) × α)) : D := .dT (kvs.map fun p => [.inl p.1.1, .inl p.1.2]) (kvs.map fun p => e p.2)
def cL (e : α → D) (xs : List α) : Cell := .lst (xs.map e)
def cDI (e : α → D) (kvs : List (Int × α)) : Cell := .dK (kvs.map fun p => .inl p.1) (kvs.map fun p => e p.2)
def cDT (e : α → D) (kvs : List ((Int × Int) × α)) : Cell := .dT (kvs.map fun p => [.inl p.1.1, .inl p.1.2]) (kvs.map fun p => e p.2)
end

/-! closed data -/
mutual
def clo : D → Bool
  | .loc _ => false
  | .tup ds => cloA ds
  | .lst ds => cloA ds
  | .dK _ ds => cloA ds
  | .dT _ ds => cloA ds
  | .tpz ds => cloA ds
  | .xcp _ _ _ _ => false
  | .non => true | .bl _ => true | .int _ => true | .str _ => true | .scr _ => true
def cloA : List D → Bool
  | [] => true
  | d :: ds => clo d && cloA ds
end
theorem cloA_map {α : Type} {f : α → D} (h : ∀ a, clo (f a) = true) : ∀ xs : List α, cloA (xs.map f) = true
  | [] => rfl
  | x :: xs => by simp [cloA, h x, cloA_map h xs]
class EncOk {α : Type} (e : α → D) : Prop where
  clo : ∀ a, clo (e a) = true
class EncNN {α : Type} (e : α → D) : Prop where
  nn : ∀ a, isNon (e a) = false
section
variable {α β γ δ ε : Type} {e e1 : α → D} {e2 : β → D} {e3 : γ → D} {e4 : δ → D} {e5 : ε → D}
instance : EncOk eZ := ⟨fun _ => rfl⟩
instance : EncOk eI := ⟨fun _ => rfl⟩
instance : EncOk eB := ⟨fun _ => rfl⟩
instance : EncOk eS := ⟨fun _ => rfl⟩
instance [h : EncOk e] : EncOk (eO e) := ⟨fun a => by cases a with | none => rfl | some a => exact h.clo a⟩
instance [h : EncOk e] : EncOk (eL e) := ⟨fun a => cloA_map h.clo a⟩
instance [h : EncOk e] : EncOk (eV e) := ⟨fun a => cloA_map h.clo a⟩
instance [h : EncOk e] : EncOk (eW e) := ⟨fun a => cloA_map h.clo a⟩
instance [h1 : EncOk e1] : EncOk (eP1 e1) := ⟨fun a => by simp [eP1, clo, cloA, h1.clo]⟩
instance [h1 : EncOk e1] [h2 : EncOk e2] : EncOk (eP2 e1 e2) := ⟨fun a => by simp [eP2, clo, cloA, h1.clo, h2.clo]⟩
instance [h1 : EncOk e1] [h2 : EncOk e2] [h3 : EncOk e3] : EncOk (eP3 e1 e2 e3) := ⟨fun a => by simp [eP3, clo, cloA, h1.clo, h2.clo, h3.clo]⟩
instance [h1 : EncOk e1] [h2 : EncOk e2] [h3 : EncOk e3] [h4 : EncOk e4] : EncOk (eP4 e1 e2 e3 e4) := ⟨fun a => by simp [eP4, clo, cloA, h1.clo, h2.clo, h3.clo, h4.clo]⟩
instance [h1 : EncOk e1] [h2 : EncOk e2] [h3 : EncOk e3] [h4 : EncOk e4] [h5 : EncOk e5] : EncOk (eP5 e1 e2 e3 e4 e5) := ⟨fun a => by simp [eP5, clo, cloA, h1.clo, h2.clo, h3.clo, h4.clo, h5.clo]⟩
theorem cloA_map2 {κ : Type} {f : α → D} (h : ∀ a, clo (f a) = true) : ∀ xs : List (κ × α), cloA (xs.map fun p => f p.2) = true
  | [] => rfl
  | x :: xs => by simp [cloA, h x.2, cloA_map2 h xs]
instance [h : EncOk e] : EncOk (eDI e) := ⟨fun a => cloA_map2 h.clo a⟩
instance [h : EncOk e] : EncOk (eDT e) := ⟨fun a => cloA_map2 h.clo a⟩
instance : EncNN eI := ⟨fun _ => rfl⟩
instance : EncNN eB := ⟨fun _ => rfl⟩
instance : EncNN eS := ⟨fun _ => rfl⟩
instance : EncNN (eL e) := ⟨fun a => rfl⟩
instance : EncNN (eV e) := ⟨fun a => rfl⟩
instance : EncNN (eW e) := ⟨fun a => rfl⟩
instance : EncNN (eP1 e1) := ⟨fun a => rfl⟩
instance : EncNN (eP2 e1 e2) := ⟨fun a => rfl⟩
instance : EncNN (eP3 e1 e2 e3) := ⟨fun a => rfl⟩
instance : EncNN (eP4 e1 e2 e3 e4) := ⟨fun a => rfl⟩
instance : EncNN (eP5 e1 e2 e3 e4 e5) := ⟨fun a => rfl⟩
instance : EncNN (eDI e) := ⟨fun a => rfl⟩
instance : EncNN (eDT e) := ⟨fun a => rfl⟩
theorem drf_clo {st : List Cell} : ∀ {d : D}, clo d = true → drf st d = d
  | .loc _, h => by cases h
  | .non, _ => rfl | .bl _, _ => rfl | .int _, _ => rfl | .str _, _ => rfl | .tup _, _ => rfl | .lst _, _ => rfl | .dK _ _, _ => rfl | .dT _ _, _ => rfl | .scr _, _ => rfl | .tpz _, _ => rfl | .xcp _ _ _ _, h => by cases h
theorem drE [EncOk e] {st : List Cell} {a : α} : drf st (e a) = e a := drf_clo (EncOk.clo a)
theorem drL {st : List Cell} {n : Nat} {xs : List α} (h : st[n]? = some (cL e xs)) : drf st (.loc n) = eL e xs := by simp only [drf, h, cL, cDI, cDT]; rfl
theorem drDI {st : List Cell} {n : Nat} {xs : List (Int × α)} (h : st[n]? = some (cDI e xs)) : drf st (.loc n) = eDI e xs := by simp only [drf, h, cL, cDI, cDT]; rfl
theorem drDT {st : List Cell} {n : Nat} {xs : List ((Int × Int) × α)} (h : st[n]? = some (cDT e xs)) : drf st (.loc n) = eDT e xs := by simp only [drf, h, cL, cDI, cDT]; rfl
end
def cloC : Cell → Bool
  | .lst ds => cloA ds
  | .dK _ ds => cloA ds
  | .dT _ ds => cloA ds
  | .ins _ _ => false
  | .dead => true
theorem cloC_L {α : Type} {e : α → D} [h : EncOk e] {xs : List α} : cloC (cL e xs) = true := cloA_map h.clo xs
theorem cloC_DI {α : Type} {e : α → D} [h : EncOk e] {xs : List (Int × α)} : cloC (cDI e xs) = true := cloA_map2 h.clo xs
theorem cloC_DT {α : Type} {e : α → D} [h : EncOk e] {xs : List ((Int × Int) × α)} : cloC (cDT e xs) = true := cloA_map2 h.clo xs
mutual
theorem clo_bel (n : Nat) : ∀ d : D, clo d = true → bel n d = true
  | .non, _ => rfl | .bl _, _ => rfl | .int _, _ => rfl | .str _, _ => rfl | .scr _, _ => rfl
  | .loc _, h => by simp [clo] at h
  | .tup ds, h => by simpa [bel] using cloA_bel n ds (by simpa [clo] using h)
  | .lst ds, h => by simpa [bel] using cloA_bel n ds (by simpa [clo] using h)
  | .dK _ ds, h => by simpa [bel] using cloA_bel n ds (by simpa [clo] using h)
  | .dT _ ds, h => by simpa [bel] using cloA_bel n ds (by simpa [clo] using h)
  | .tpz ds, h => by simpa [bel] using cloA_bel n ds (by simpa [clo] using h)
  | .xcp _ _ _ _, h => by simp [clo] at h
theorem cloA_bel (n : Nat) : ∀ ds : List D, cloA ds = true → belA n ds = true
  | [], _ => rfl
  | d :: ds, h => by
    have h' : clo d = true ∧ cloA ds = true := by simpa [cloA] using h
    simp [belA, clo_bel n d h'.1, cloA_bel n ds h'.2]
end
theorem cloC_bel (n : Nat) {c : Cell} (h : cloC c = true) : belC n c = true := by
  cases c with
  | lst ds => exact cloA_bel n ds h
  | dK _ ds => exact cloA_bel n ds h
  | dT _ ds => exact cloA_bel n ds h
  | ins _ _ => cases h
  | dead => rfl
/-- from sto to sto': as many cells, those that are other ones hold closed data -/
def Kept (sto sto' : List Cell) : Prop := sto'.length = sto.length ∧ ∀ (j : Nat) (c : Cell), sto'[j]? = some c → sto[j]? = some c ∨ cloC c = true
theorem Kept.refl (sto : List Cell) : Kept sto sto := ⟨rfl, fun _ _ h => .inl h⟩
theorem kept_head {c c' : Cell} {rest : List Cell} (h : cloC c' = true) : Kept (c :: rest) (c' :: rest) := ⟨rfl, fun j x e => by
  cases j with
  | zero => cases e; exact .inr h
  | succ j => exact .inl e⟩
theorem Kept.cut {sto sto' ex : List Cell} (k : Kept sto sto') : CutOk sto (sto' ++ ex) := by
  refine ⟨by rw [List.length_append, k.1]; omega, fun j c hj e => ?_⟩
  rw [List.getElem?_append_left (by rw [k.1]; exact hj)] at e
  rcases k.2 j c e with z | z
  · exact .inl z
  · exact .inr (cloC_bel _ z)
theorem take_ap {sto sto' ex : List Cell} (k : Kept sto sto') : (sto' ++ ex).take sto.length = sto' := by
  rw [← k.1]; simp
theorem tr_d {f : Fn} {ds : List D} {sto sto' ex : List Cell} {d : D} (e : f ds sto = .ok (.d d) (sto' ++ ex)) (k : Kept sto sto') (h : clo d = true) : trF f ds sto = .ok (.d d) sto' := by
  unfold trF
  rw [e]
  simp only
  rw [if_pos k.cut, take_ap k]
  cases d with
  | loc n => cases h
  | _ => simp only [clo_bel _ _ h, if_true]
theorem tr_c {f : Fn} {ds : List D} {sto sto' ex : List Cell} {c : Cell} {m : Nat} (e : f ds sto = .ok (.d (.loc m)) (sto' ++ ex)) (k : Kept sto sto') (hm : sto'.length ≤ m) (hc : (sto' ++ ex)[m]? = some c) (h : cloC c = true) (hd : c ≠ .dead) : trF f ds sto = .ok (.c c) sto' := by
  unfold trF
  rw [e]
  simp only
  rw [if_pos k.cut, take_ap k, if_neg (by have := k.1; omega), hc]
  simp only
  rw [if_pos ⟨hd, cloC_bel _ h⟩]
def cloF : List (Str × D) → Bool
  | [] => true
  | p :: r => clo p.2 && cloF r
theorem cloF_bel (n : Nat) : ∀ fs : List (Str × D), cloF fs = true → belF n fs = true
  | [], _ => rfl
  | p :: r, h => by
    unfold cloF at h
    simp only [Bool.and_eq_true] at h
    unfold belF
    simp only [Bool.and_eq_true]
    exact ⟨clo_bel _ _ h.1, cloF_bel n r h.2⟩
theorem tr_x {f : Fn} {ds : List D} {sto sto' ex : List Cell} {x : Exc} (e : f ds sto = .exc x (sto' ++ ex)) (k : Kept sto sto') (h : cloF x.fs = true) : trF f ds sto = .exc x sto' := by
  unfold trF
  rw [e]
  simp only
  rw [if_pos ⟨k.cut, cloF_bel _ _ h⟩, take_ap k]
theorem body_exc {n : Nat} {m : MS} {ds : List D} {sto sto' : List Cell} {env : List (Option D)} {x : Exc} (h : m ⟨envF n ds, sto⟩ = .exc x ⟨env, sto'⟩) : bodyF n m ds sto = .exc x sto' := by
  unfold bodyF
  rw [h]
theorem body_rt {n : Nat} {m : MS} {ds : List D} {sto sto' : List Cell} {env : List (Option D)} {d : D} (h : m ⟨envF n ds, sto⟩ = .rt d ⟨env, sto'⟩) : bodyF n m ds sto = .ok (.d d) sto' := by
  unfold bodyF
  rw [h]
theorem body_nx {n : Nat} {m : MS} {ds : List D} {sto sto' : List Cell} {env : List (Option D)} (h : m ⟨envF n ds, sto⟩ = .nx ⟨env, sto'⟩) : bodyF n m ds sto = .ok (.d .non) sto' := by
  unfold bodyF
  rw [h]

/-! what a block gives -/
/-- what comes out of a def: data, a new cell, an exception -/
inductive Rx where
  | d (d : D) | c (c : Cell) | x (x : Exc)
def ofRx : Rx → List Cell → OutF
  | .d d, s => .ok (.d d) s
  | .c c, s => .ok (.c c) s
  | .x x, s => .exc x s
def RTR (m : MS) (s : S) (r : Rx) (sto' : List Cell) : Prop := match r with
  | .x x => cloF x.fs = true ∧ ∃ env L, m s = .exc x ⟨env, sto' ++ L⟩
  | .d d => clo d = true ∧ ∃ env L, m s = .rt d ⟨env, sto' ++ L⟩
  | .c c => cloC c = true ∧ c ≠ .dead ∧ ∃ env L k, m s = .rt (.loc k) ⟨env, sto' ++ L⟩ ∧ sto'.length ≤ k ∧ (sto' ++ L)[k]? = some c
def CJ {σ ρ : Type} (F : σ → S) (R : ρ → Rx × List Cell) (m : MS) (s : S) : σ ⊕ ρ → Prop
  | .inl x => m s = .nx (F x)
  | .inr r => RTR m s (R r).1 (R r).2
/-- a def's value -/
theorem fn_R {σ ρ : Type} {F : σ → S} {R : ρ → Rx × List Cell} {n : Nat} {m : MS} {ds : List D} {sto : List Cell} {r : ρ} (h : CJ F R m ⟨envF n ds, sto ++ []⟩ (.inr r)) (k : Kept sto (R r).2) : trF (bodyF n m) ds sto = ofRx (R r).1 (R r).2 := by
  rw [List.append_nil] at h
  unfold CJ RTR at h
  cases q : (R r).1 with
  | x x =>
    simp only [q] at h
    obtain ⟨hc, env, L, e⟩ := h
    exact tr_x (body_exc e) k hc
  | d d =>
    simp only [q] at h
    obtain ⟨hc, env, L, e⟩ := h
    exact tr_d (body_rt e) k hc
  | c c =>
    simp only [q] at h
    obtain ⟨hc, hd, env, L, j, e, h1, h2⟩ := h
    exact tr_c (body_rt e) k h1 h2 hc hd
section
variable {σ ρ α β γ τ : Type} {F : σ → S} {F1 : τ → S} {R : ρ → Rx × List Cell} {m n a b : MS} {s s1 s2 s3 : S} {z : σ ⊕ ρ} {ma mb mo : M D} {mr : M (List D)} {mi : M (List D)} {mR : M Rs} {t u : M Bool} {env env' : List (Option D)} {sto sto' : List Cell} {d x y : D} {i : Nat}
/-! binds -/
theorem bindI {q : Option α} {f : α → Option β} {r : β} (H : q.bind f = some r) : ∃ v, q = some v ∧ f v = some r := by
  cases q with
  | none => cases H
  | some v => exact ⟨v, rfl, H⟩
theorem bindE {q : Option α} {f : α → Option β} {r : β} {C : Prop} (H : q.bind f = some r) (k : ∀ v, q = some v → f v = some r → C) : C := by
  obtain ⟨v, h1, h2⟩ := bindI H
  exact k v h1 h2
def lq (p : α) (f : α → Option β) : Option β := f p
@[simp] theorem lq_eq (p : α) (f : α → Option β) : lq p f = f p := by cases h : f p <;> exact h
theorem letI' {p : α} {f : α → Option β} {r : β} (H : lq p f = some r) : ∃ v, p = v ∧ f v = some r := ⟨p, rfl, H⟩
theorem iteI {c : Bool} {q1 q2 : Option α} {r : α} (H : (if c = true then q1 else q2) = some r) : (c = true ∧ q1 = some r) ∨ (c = false ∧ q2 = some r) := by
  cases c with
  | true => exact .inl ⟨rfl, H⟩
  | false => exact .inr ⟨rfl, H⟩
/-! blocks -/
theorem w_seq (h : m s = .nx s1) (k : CJ F R n s1 z) : CJ F R (seq m n) s z := by
  have e : seq m n s = n s1 := by unfold seq; rw [h]
  cases z with
  | inl x => exact e.trans k
  | inr r =>
    unfold CJ RTR at k ⊢
    rw [e]
    exact k
theorem rtr_seq {r : Rx} {st : List Cell} (h : RTR m s r st) : RTR (seq m n) s r st := by
  cases r with
  | d d => obtain ⟨hc, env, L, e⟩ := h; exact ⟨hc, env, L, by unfold seq; rw [e]⟩
  | x x => obtain ⟨hc, env, L, e⟩ := h; exact ⟨hc, env, L, by unfold seq; rw [e]⟩
  | c c => obtain ⟨hc, hd, env, L, k, e, q⟩ := h; exact ⟨hc, hd, env, L, k, by unfold seq; rw [e], q⟩
theorem rtr_eq {r : Rx} {st : List Cell} (e : n s1 = m s) (h : RTR m s r st) : RTR n s1 r st := by
  cases r with
  | d d => obtain ⟨hc, env, L, q⟩ := h; exact ⟨hc, env, L, e.trans q⟩
  | x x => obtain ⟨hc, env, L, q⟩ := h; exact ⟨hc, env, L, e.trans q⟩
  | c c => obtain ⟨hc, hd, env, L, k, q, q2⟩ := h; exact ⟨hc, hd, env, L, k, e.trans q, q2⟩
theorem cj_eq (e : n s1 = m s) (h : CJ F R m s z) : CJ F R n s1 z := by
  cases z with
  | inl x => exact e.trans h
  | inr r => exact rtr_eq e h
theorem w_seqZ {z1 : τ ⊕ ρ} (h : CJ F1 R m s z1) (k1 : ∀ v, z1 = .inl v → CJ F R n (F1 v) z) (k2 : ∀ r, z1 = .inr r → z = .inr r) : CJ F R (seq m n) s z := by
  cases z1 with
  | inl v => exact w_seq (s1 := F1 v) h (k1 v rfl)
  | inr r => rw [k2 r rfl]; exact rtr_seq h
theorem w_assoc (h : CJ F R (seq m (seq n a)) s z) : CJ F R (seq (seq m n) a) s z :=
  cj_eq (by unfold seq; cases m s <;> rfl) h
theorem w_if_t (h : t s = .ok true s1) (k : CJ F R a s1 z) : CJ F R (sIf t a b) s z := cj_eq (by unfold sIf bndS; rw [h]; rfl) k
theorem w_if_f (h : t s = .ok false s1) (k : CJ F R b s1 z) : CJ F R (sIf t a b) s z := cj_eq (by unfold sIf bndS; rw [h]; rfl) k
theorem w_seqif_t (h : t s = .ok true s1) (k : CJ F R (seq a n) s1 z) : CJ F R (seq (sIf t a b) n) s z := cj_eq (by unfold seq sIf bndS; rw [h]; rfl) k
theorem w_seqif_f (h : t s = .ok false s1) (k : CJ F R (seq b n) s1 z) : CJ F R (seq (sIf t a b) n) s z := cj_eq (by unfold seq sIf bndS; rw [h]; rfl) k
theorem w_seqdone (k : CJ F R n s z) : CJ F R (seq done n) s z := w_seq rfl k
theorem w_done {x : σ} (h : F x = s) : CJ F R done s (.inl x) := by show OutS.nx s = .nx (F x); rw [h]
theorem w_end {x : σ} (h : m s = .nx (F x)) : CJ F R m s (.inl x) := h
theorem w_retD {r : ρ} {sto' L : List Cell} (h : ma s = .ok d ⟨env, sto' ++ L⟩) (hc : clo d = true) (hr : R r = (.d d, sto')) : CJ F R (sRet ma) s (.inr r) := by
  show RTR _ _ (R r).1 (R r).2
  rw [hr]
  exact ⟨hc, env, L, by unfold sRet bndS; rw [h]⟩
theorem w_retC {r : ρ} {sto' L : List Cell} {c : Cell} {k : Nat} (h : ma s = .ok (.loc k) ⟨env, sto' ++ L⟩) (hk : sto'.length ≤ k) (hc : (sto' ++ L)[k]? = some c) (hd : cloC c = true) (hl : c ≠ .dead) (hr : R r = (.c c, sto')) : CJ F R (sRet ma) s (.inr r) := by
  show RTR _ _ (R r).1 (R r).2
  rw [hr]
  exact ⟨hd, hl, env, L, k, by unfold sRet bndS; rw [h], hk, hc⟩
/-- return of a result: data or new -/
theorem w_retBc {r : ρ} {sto' L : List Cell} {c : Cell} (h : mR s = .ok (.c c) ⟨env, sto' ++ L⟩) (hd : cloC c = true) (hl : c ≠ .dead) (hr : R r = (.c c, sto')) : CJ F R (sRet (LW.bd mR)) s (.inr r) := by
  refine w_retC (env := env) (L := L ++ [c]) (k := (sto' ++ L).length) (c := c) (sto' := sto') ?_ (by rw [List.length_append]; omega) (by rw [← List.append_assoc]; exact List.getElem?_concat_length) hd hl hr
  unfold LW.bd bnd
  rw [h, ← List.append_assoc]
theorem w_retBd {r : ρ} {sto' L : List Cell} (h : mR s = .ok (.d d) ⟨env, sto' ++ L⟩) (hc : clo d = true) (hr : R r = (.d d, sto')) : CJ F R (sRet (LW.bd mR)) s (.inr r) := by
  refine w_retD (env := env) (L := L) (d := d) (sto' := sto') ?_ hc hr
  unfold LW.bd bnd
  rw [h]
  rfl
theorem w_set (h : ma s = .ok d ⟨env, sto⟩) (he : env.set i (some d) = env') : sSet i ma s = .nx ⟨env', sto⟩ := by unfold sSet bndS; rw [h]; simp only [he]
theorem w_asg {tg : Tg} (h : ma s = .ok d ⟨env, sto⟩) (he : asg tg d env = some env') : sAsg tg ma s = .nx ⟨env', sto⟩ := by unfold sAsg bndS; rw [h]; simp only [he]
theorem w_drop (h : ma s = .ok d s1) : sDrop ma s = .nx s1 := by unfold sDrop bndS done; rw [h]
theorem w_wp {vs : List Nat} {x : σ} (h : ⟨wipeE env vs, sto⟩ = F x) : CJ F R (sWp vs) ⟨env, sto⟩ (.inl x) := by show OutS.nx _ = .nx _; rw [← h]
theorem w_frz {n : Nat} {c : Cell} (h : env[i]? = some (some (.loc n))) (hc : sto[n]? = some c) (hf : frz c = some d) (he : env.set i (some d) = env') (hs : sto.set n .dead = sto') : sFrz i ⟨env, sto⟩ = .nx ⟨env', sto'⟩ := by
  subst he; subst hs
  simp only [sFrz, h, hc, hf]
/-! expressions -/
theorem j_var (h : s.env[i]? = some (some d)) : eVar i s = .ok d s := by unfold eVar; rw [h]
theorem j_ret {a : α} : ret a s = .ok a s := rfl
theorem j_cons {ds : List D} (h1 : ma s = .ok d s1) (h2 : mr s1 = .ok ds s2) : eCons ma mr s = .ok (d :: ds) s2 := by unfold eCons bnd; rw [h1]; simp only [h2]; rfl
theorem j_tup {ds : List D} (h : mr s = .ok ds s1) (hl : ds.length ≤ 16777216) : eTup mr s = .ok (.tup ds) s1 := by unfold eTup bnd; rw [h]; simp only [if_pos hl]; rfl
theorem j_lst {ds : List D} (h : mr s = .ok ds s1) (hl : ds.length ≤ 16777216) : rLst mr s = .ok (.c (.lst ds)) s1 := by unfold rLst bnd; rw [h]; simp only [if_pos hl]; rfl
theorem j_fzc {c : Cell} (h : mR s = .ok (.c c) s1) (e : frz c = some d) : fz mR s = .ok d s1 := by unfold fz bnd; rw [h]; simp only [e]; rfl
theorem j_fzd (h : mR s = .ok (.d d) s1) : fz mR s = .ok d s1 := by unfold fz bnd; rw [h]; rfl
theorem j_bx {c : Cell} (h : mR s = .ok (.c c) ⟨env, sto⟩) {k : Nat} (hk : sto.length = k) (hs : sto ++ [c] = sto') : bx mR s = .ok (.loc k) ⟨env, sto'⟩ := by subst hk; subst hs; unfold bx bnd; rw [h]
theorem j_e2 {g : List Cell → List D → Option D} {d1 d2 : D} (h1 : ma s = .ok x s1) (h2 : mb s1 = .ok y s2) (hx : drf s2.sto x = d1) (hy : drf s2.sto y = d2) (hg : g s2.sto [d1, d2] = some d) : e2 (pu g) ma mb s = .ok d s2 := by
  unfold e2 bnd
  rw [h1]
  simp only [h2]
  unfold pu
  simp only [List.map_cons, List.map_nil, hx, hy, hg]
  rfl
theorem j_e2o {g g' : List Cell → List D → Option D} {d1 d2 : D} (h1 : ma s = .ok x s1) (h2 : mb s1 = .ok y s2) (hx : drf s2.sto x = d1) (hy : drf s2.sto y = d2) (hg : (g s2.sto [d1, d2]).or (g' s2.sto [d1, d2]) = some d) : e2 (orF (pu g) (pu g')) ma mb s = .ok d s2 := by
  unfold e2 bnd
  rw [h1]
  simp only [h2]
  unfold orF pu
  simp only [List.map_cons, List.map_nil, hx, hy]
  cases q : g s2.sto [d1, d2] with
  | some v => rw [q] at hg; cases hg; rfl
  | none => rw [q] at hg; have hg2 : g' s2.sto [d1, d2] = some d := hg; rw [hg2]; rfl
theorem j_eN1 {g : List Cell → List D → Option D} {d1 : D} (h : mr s = .ok [x] s1) (hx : drf s1.sto x = d1) (hg : g s1.sto [d1] = some d) : LW.eN (pu g) mr s = .ok d s1 := by
  unfold LW.eN bnd
  rw [h]
  unfold pu
  simp only [List.map_cons, List.map_nil, hx, hg]
  rfl
end
end LW
namespace LW
open PySem PySem.Spec L2
open PyProof.Rows (envOfC)

/-! data that may be compared: depth at most n, equality as it should be -/
class EncPy {α : Type} (e : α → D) (n : outParam Nat) : Prop where
  fl : ∀ a, flt (e a) = true
  can : ∀ a, PyData.canLay0 (py (e a)) = true
  dep : ∀ a, PyData.depth (py (e a)) ≤ n
  inj : ∀ a b, eqD (e a) (e b) = true ↔ a = b
section
variable {α β γ δ ε : Type} {e e1 : α → D} {e2 : β → D} {e3 : γ → D} {e4 : δ → D} {e5 : ε → D} {n n1 n2 n3 n4 n5 : Nat}
theorem fltA_map (h : ∀ a, flt (e a) = true) : ∀ xs : List α, fltA (xs.map e) = true
  | [] => rfl
  | x :: xs => by simp [fltA, h x, fltA_map h xs]
theorem canA_map (h : ∀ a, PyData.canLay0 (py (e a)) = true) : ∀ xs : List α, PyData.canLayAll0 (pyA (xs.map e)) = true
  | [] => rfl
  | x :: xs => by simp [pyA, PyData.canLayAll0, h x, canA_map h xs]
theorem depA_map (h : ∀ a, PyData.depth (py (e a)) ≤ n) : ∀ xs : List α, PyData.depthAll (pyA (xs.map e)) ≤ n
  | [] => by simp [pyA, PyData.depthAll]
  | x :: xs => by
    simp only [pyA, List.map_cons, PyData.depthAll]
    have := h x
    have := depA_map h xs
    omega
theorem injA_map (h : ∀ a b, eqD (e a) (e b) = true ↔ a = b) : ∀ xs ys : List α, PyData.eqvAll (pyA (xs.map e)) (pyA (ys.map e)) = true ↔ xs = ys
  | [], [] => by simp [pyA, PyData.eqvAll]
  | [], y :: ys => by simp [pyA, PyData.eqvAll]
  | x :: xs, [] => by simp [pyA, PyData.eqvAll]
  | x :: xs, y :: ys => by
    have h1 := h x y
    unfold eqD at h1
    simp only [pyA, List.map_cons, PyData.eqvAll, Bool.and_eq_true, h1, injA_map h xs ys, List.cons.injEq]
instance : EncPy eZ 0 := ⟨fun _ => rfl, fun _ => rfl, fun _ => Nat.le_refl _, fun a b => by simp [eqD, eZ, py, PyData.eqv]⟩
instance : EncPy eI 0 := ⟨fun _ => rfl, fun _ => rfl, fun _ => Nat.le_refl _, fun a b => by simp [eqD, eI, py, PyData.eqv]⟩
instance : EncPy eB 0 := ⟨fun _ => rfl, fun _ => rfl, fun _ => Nat.le_refl _, fun a b => by simp [eqD, eB, py, PyData.eqv]⟩
theorem eqv_none {d : D} (h : flt d = true) (hn : isNon d = false) : PyData.eqv .none (py d) = false ∧ PyData.eqv (py d) .none = false := by
  cases d with
  | non => cases hn
  | dK _ _ => cases h
  | dT _ _ => cases h
  | loc _ => cases h
  | scr _ => exact ⟨by simp [py, PyData.eqv], by simp [py, PyData.eqv]⟩
  | tpz _ => cases h
  | xcp _ _ _ _ => cases h
  | _ => simp [py, PyData.eqv]
instance [h : EncPy e n] [q : EncNN e] : EncPy (eO e) n :=
  ⟨fun a => by cases a with | none => rfl | some a => exact h.fl a,
   fun a => by cases a with | none => rfl | some a => exact h.can a,
   fun a => by cases a with | none => exact Nat.zero_le _ | some a => exact h.dep a,
   fun a b => by
    cases a with
    | none => cases b with
      | none => simp [eqD, eO, py, PyData.eqv]
      | some b => simp [eqD, eO, py, (eqv_none (h.fl b) (q.nn b)).1]
    | some a => cases b with
      | none => simp [eqD, eO, py, (eqv_none (h.fl a) (q.nn a)).2]
      | some b => simpa [eO] using h.inj a b⟩
instance [h : EncPy e n] : EncPy (eL e) (n + 1) :=
  ⟨fun a => fltA_map h.fl a, fun a => canA_map h.can a, fun a => Nat.succ_le_succ (depA_map h.dep a), fun a b => by simpa [eqD, eL, py, PyData.eqv] using injA_map h.inj a b⟩
instance [h : EncPy e n] : EncPy (eV e) (n + 1) :=
  ⟨fun a => fltA_map h.fl a, fun a => canA_map h.can a, fun a => Nat.succ_le_succ (depA_map h.dep a), fun a b => by simpa [eqD, eV, py, PyData.eqv] using injA_map h.inj a b⟩
instance [h1 : EncPy e1 n1] : EncPy (eP1 e1) (n1 + 1) :=
  ⟨fun a => by simp [eP1, flt, fltA, h1.fl], fun a => by simp [eP1, py, pyA, PyData.canLay0, PyData.canLayAll0, h1.can],
   fun a => by have := h1.dep a; simp only [eP1, py, pyA, PyData.depth, PyData.depthAll]; omega,
   fun a b => by have i1 := h1.inj a b; simp only [eqD] at i1; simp [eqD, eP1, py, pyA, PyData.eqv, PyData.eqvAll, i1]⟩
instance [h1 : EncPy e1 n1] [h2 : EncPy e2 n2] : EncPy (eP2 e1 e2) (max n1 n2 + 1) :=
  ⟨fun a => by simp [eP2, flt, fltA, h1.fl, h2.fl], fun a => by simp [eP2, py, pyA, PyData.canLay0, PyData.canLayAll0, h1.can, h2.can],
   fun a => by have := h1.dep a.1; have := h2.dep a.2; simp only [eP2, py, pyA, PyData.depth, PyData.depthAll]; omega,
   fun a b => by
    have i1 := h1.inj a.1 b.1; have i2 := h2.inj a.2 b.2; simp only [eqD] at i1 i2; simp [eqD, eP2, py, pyA, PyData.eqv, PyData.eqvAll, i1, i2, Prod.ext_iff]⟩
instance [h1 : EncPy e1 n1] [h2 : EncPy e2 n2] [h3 : EncPy e3 n3] : EncPy (eP3 e1 e2 e3) (max n1 (max n2 n3) + 1) :=
  ⟨fun a => by simp [eP3, flt, fltA, h1.fl, h2.fl, h3.fl], fun a => by simp [eP3, py, pyA, PyData.canLay0, PyData.canLayAll0, h1.can, h2.can, h3.can],
   fun a => by have := h1.dep a.1; have := h2.dep a.2.1; have := h3.dep a.2.2; simp only [eP3, py, pyA, PyData.depth, PyData.depthAll]; omega,
   fun a b => by
    have i1 := h1.inj a.1 b.1; have i2 := h2.inj a.2.1 b.2.1; have i3 := h3.inj a.2.2 b.2.2; simp only [eqD] at i1 i2 i3; simp [eqD, eP3, py, pyA, PyData.eqv, PyData.eqvAll, i1, i2, i3, Prod.ext_iff]⟩
instance [h1 : EncPy e1 n1] [h2 : EncPy e2 n2] [h3 : EncPy e3 n3] [h4 : EncPy e4 n4] : EncPy (eP4 e1 e2 e3 e4) (max n1 (max n2 (max n3 n4)) + 1) :=
  ⟨fun a => by simp [eP4, flt, fltA, h1.fl, h2.fl, h3.fl, h4.fl], fun a => by simp [eP4, py, pyA, PyData.canLay0, PyData.canLayAll0, h1.can, h2.can, h3.can, h4.can],
   fun a => by have := h1.dep a.1; have := h2.dep a.2.1; have := h3.dep a.2.2.1; have := h4.dep a.2.2.2; simp only [eP4, py, pyA, PyData.depth, PyData.depthAll]; omega,
   fun a b => by
    have i1 := h1.inj a.1 b.1; have i2 := h2.inj a.2.1 b.2.1; have i3 := h3.inj a.2.2.1 b.2.2.1; have i4 := h4.inj a.2.2.2 b.2.2.2; simp only [eqD] at i1 i2 i3 i4; simp [eqD, eP4, py, pyA, PyData.eqv, PyData.eqvAll, i1, i2, i3, i4, Prod.ext_iff]⟩
theorem okd_enc [h : EncPy e n] (hn : n ≤ 64) (a : α) : okd (e a) = true := by
  unfold okd SeqAt.shaped
  simp only [h.fl a, h.can a, Bool.true_and, decide_eq_true_eq]
  exact Nat.le_trans (h.dep a) hn
theorem gEq_okd {st : List Cell} {x y : D} (hx : okd x = true) (hy : okd y = true) : gEq st [x, y] = some (.bl (eqD x y)) := by
  unfold gEq
  split
  · rename_i h; cases h; simp [eqD, py, PyData.eqv, BEq.beq]
  · rename_i h; cases h; simp [eqD, py, PyData.eqv, BEq.beq]
  · rename_i h; cases h; simp [eqD, py, PyData.eqv, BEq.beq]
  · rename_i h; cases h; rw [if_pos ⟨hx, hy⟩]
  · rename_i h; exact (h _ _ rfl).elim
theorem gNe_okd {st : List Cell} {x y : D} (hx : okd x = true) (hy : okd y = true) : gNe st [x, y] = some (.bl (!eqD x y)) := by
  unfold gNe
  split
  · rename_i h; cases h; simp [eqD, py, PyData.eqv, BEq.beq]
  · rename_i h; cases h; simp [eqD, py, PyData.eqv, BEq.beq]
  · rename_i h; cases h; simp [eqD, py, PyData.eqv, BEq.beq]
  · rename_i h; cases h; rw [if_pos ⟨hx, hy⟩]
  · rename_i h; exact (h _ _ rfl).elim
theorem gEq_enc [h : EncPy e n] [DecidableEq α] (hn : n ≤ 64) {st : List Cell} (a b : α) : gEq st [e a, e b] = some (.bl (decide (a = b))) := by
  rw [gEq_okd (okd_enc hn a) (okd_enc hn b)]
  congr 2
  by_cases q : a = b
  · simp [q, (h.inj b b).mpr rfl]
  · have : eqD (e a) (e b) = false := by
      cases z : eqD (e a) (e b) with
      | false => rfl
      | true => exact absurd ((h.inj a b).mp z) q
    simp [q, this]
theorem gNe_enc [h : EncPy e n] [DecidableEq α] (hn : n ≤ 64) {st : List Cell} (a b : α) : gNe st [e a, e b] = some (.bl (!decide (a = b))) := by
  have h1 := gEq_enc (e := e) hn (st := st) a b
  rw [gEq_okd (okd_enc hn a) (okd_enc hn b)] at h1
  rw [gNe_okd (okd_enc hn a) (okd_enc hn b), D.bl.inj (Option.some.inj h1)]
end
/-- data at large -/
def eqQ (x y : D) : Option Bool := if okd x = true ∧ okd y = true then some (eqD x y) else none
theorem gEq_Q {st : List Cell} {x y : D} {b : Bool} (h : eqQ x y = some b) : gEq st [x, y] = some (.bl b) := by
  unfold eqQ at h
  split at h
  · rename_i q; cases h; exact gEq_okd q.1 q.2
  · cases h
theorem gNe_Q {st : List Cell} {x y : D} {b : Bool} (h : eqQ x y = some b) : gNe st [x, y] = some (.bl (!b)) := by
  unfold eqQ at h
  split at h
  · rename_i q; cases h; exact gNe_okd q.1 q.2
  · cases h

/-! partial operations on values -/
def mulQ (i j : Int) : Option Int := if (-18446744073709551616 < i ∧ i < 18446744073709551616) ∨ (-18446744073709551616 < j ∧ j < 18446744073709551616) then some (i * j) else none
def modQ (i j : Int) : Option Int := if 0 < j then some (i % j) else none
def divQ (i j : Int) : Option Int := if 0 < j ∧ j < 1073741824 then some (i / j) else none
def powQ (i j : Int) : Option Int := if 0 ≤ j ∧ j ≤ 1000000 ∧ i.natAbs < 18446744073709551616 then some (i ^ j.toNat) else none
def shlQ (i j : Int) : Option Int := if 0 ≤ j ∧ j ≤ 1000000 ∧ i.natAbs < 18446744073709551616 then some (i * 2 ^ j.toNat) else none
def shrQ (i j : Int) : Option Int := if 0 ≤ j then some (i / 2 ^ j.toNat) else none
section
variable {α β : Type}
def catQ (xs ys : List α) : Option (List α) := if xs.length + ys.length ≤ 16777216 then some (xs ++ ys) else none
def appQ (xs : List α) (y : α) : Option (List α) := if xs.length < 16777216 then some (xs ++ [y]) else none
def ixQ (xs : List α) (i : Int) : Option α := atI xs i
def setQ (xs : List α) (i : Int) (v : α) : Option (List α) := (ixN xs.length i).map fun j => xs.set j v
def popQ (xs : List α) : Option (α × List α) := (xs[xs.length - 1]?).map fun d => (d, xs.dropLast)
def popAtQ (xs : List α) (i : Int) : Option (α × List α) := (ixN xs.length i).bind fun j => (xs[j]?).map fun d => (d, xs.eraseIdx j)
def luQ {κ : Type} [DecidableEq κ] : List (κ × α) → κ → Option α
  | [], _ => none
  | p :: r, k => if p.1 = k then some p.2 else luQ r k
def putV {κ : Type} [DecidableEq κ] : List (κ × α) → κ → α → List (κ × α)
  | [], _, _ => []
  | p :: r, k, v => (if p.1 = k then (p.1, v) else p) :: putV r k v
def putL {κ : Type} [DecidableEq κ] (kvs : List (κ × α)) (k : κ) (v : α) : List (κ × α) := if k ∈ kvs.map (·.1) then putV kvs k v else kvs ++ [(k, v)]
def putQ {κ : Type} [DecidableEq κ] (kvs : List (κ × α)) (k : κ) (v : α) : Option (List (κ × α)) := if kvs.length < 16777216 then some (putL kvs k v) else none
def dictL {κ : Type} [DecidableEq κ] : List (κ × α) → List (κ × α) → List (κ × α)
  | kvs, [] => kvs
  | kvs, p :: r => dictL (putL kvs p.1 p.2) r
def rngI (lo hi : Int) : List Int := (List.range (hi - lo).toNat).map fun k => lo + (k : Nat)
def rngQ (lo hi : Int) : Option (List Int) := if -4611686018427387904 ≤ lo ∧ lo < 4611686018427387904 ∧ -4611686018427387904 ≤ hi ∧ hi < 4611686018427387904 ∧ hi - lo ≤ 16777216 then some (rngI lo hi) else none
def minQ (e : α → D) (xs : List α) : Option α := if okAl (xs.map e) = true then xs[minAt (xs.map e)]? else none
def maxQ (e : α → D) (xs : List α) : Option α := if okAl (xs.map e) = true then xs[maxAt (xs.map e)]? else none
def sortedQ (e : α → D) (xs : List α) : Option (List α) := if okSrt (xs.map e) = true then some (xs.mergeSort fun a b => leD (e a) (e b)) else none
def reprQ (d : D) : Option Str := if flt d = true ∧ okShow (py d) = true then some (py d).shown else none
def strQ (i : Int) : Option Str := if i.natAbs.log2 < 1920 then some (toString i) else none
def cutL (xs : List α) (lo hi : Option Int) : List α := (xs.drop (HT.sIx xs.length 0 lo)).take (HT.sIx xs.length xs.length hi - HT.sIx xs.length 0 lo)
def inQ (x y : D) : Option Bool := match gIn [] [x, y] with
  | some (.bl b) => some b
  | _ => none
def forQ {σ : Type} (f : σ → α → Option σ) : List α → σ → Option σ
  | [], s => some s
  | x :: xs, s => (f s x).bind fun s' => forQ f xs s'
def forR {σ ρ : Type} (f : σ → α → Option (σ ⊕ ρ)) : List α → σ → Option (σ ⊕ ρ)
  | [], s => some (.inl s)
  | x :: xs, s => (f s x).bind fun z => match z with
    | .inl s' => forR f xs s'
    | .inr r => some (.inr r)
def whileQ {σ : Type} (c : σ → Option Bool) (f : σ → Option σ) : Nat → σ → Option σ
  | 0, _ => none
  | n + 1, s => (c s).bind fun b => if b = true then (f s).bind fun s' => whileQ c f n s' else some s
def compQ (f : α → Option (Option β)) : List α → Option (List β)
  | [] => some []
  | x :: xs => (f x).bind fun o => (compQ f xs).bind fun r => some (match o with
    | none => r
    | some y => y :: r)
def compT {τ : Type} (f : τ → α → Option (Option β × τ)) : List α → τ → Option (List β × τ)
  | [], t => some ([], t)
  | x :: xs, t => (f t x).bind fun o => (compT f xs o.2).bind fun r => some (match o.1 with
    | none => r
    | some y => (y :: r.1, r.2))
end

section
variable {σ ρ α β γ δ ε κ : Type} {F : σ → S} {s s1 s2 s3 : S} {ma mb mo : M D} {mr : M (List D)} {mi : M (List D)} {mR : M Rs} {t u : M Bool} {env env' : List (Option D)} {sto sto' base L : List Cell} {d x y : D} {i : Nat}
variable {e : α → D} {e2' : β → D} {n : Nat} {a b v : Int}
/-! numbers -/
theorem j_int {i : Int} : ret (D.int i) s = .ok (eI i) s := rfl
theorem j_bl {i : Bool} : ret (D.bl i) s = .ok (eB i) s := rfl
theorem j_str {i : Str} : ret (D.str i) s = .ok (eS i) s := rfl
theorem j_non : ret D.non s = .ok (eO e none) s := rfl
theorem j_nonZ : ret D.non s = .ok (eZ ()) s := rfl
theorem j_addI (h1 : ma s = .ok (eI a) s1) (h2 : mb s1 = .ok (eI b) s2) : e2 (pu gAdd) ma mb s = .ok (eI (a + b)) s2 := j_e2 h1 h2 rfl rfl rfl
theorem j_subI (h1 : ma s = .ok (eI a) s1) (h2 : mb s1 = .ok (eI b) s2) : e2 (pu gSub) ma mb s = .ok (eI (a - b)) s2 := j_e2 h1 h2 rfl rfl rfl
theorem j_mulI (h1 : ma s = .ok (eI a) s1) (h2 : mb s1 = .ok (eI b) s2) (h : mulQ a b = some v) : e2 (pu gMul) ma mb s = .ok (eI v) s2 := j_e2 h1 h2 rfl rfl (by
  unfold mulQ at h
  split at h
  · rename_i q; cases h; exact if_pos q
  · cases h)
theorem j_mulL (h1 : ma s = .ok (eI a) s1) (h2 : mb s1 = .ok (eI b) s2) (h : -18446744073709551616 < a ∧ a < 18446744073709551616) : e2 (pu gMul) ma mb s = .ok (eI (a * b)) s2 := j_e2 h1 h2 rfl rfl (if_pos (.inl h))
theorem j_mulR (h1 : ma s = .ok (eI a) s1) (h2 : mb s1 = .ok (eI b) s2) (h : -18446744073709551616 < b ∧ b < 18446744073709551616) : e2 (pu gMul) ma mb s = .ok (eI (a * b)) s2 := j_e2 h1 h2 rfl rfl (if_pos (.inr h))
theorem j_modI (h1 : ma s = .ok (eI a) s1) (h2 : mb s1 = .ok (eI b) s2) (h : modQ a b = some v) : e2 (pu gMod) ma mb s = .ok (eI v) s2 := j_e2 h1 h2 rfl rfl (by
  unfold modQ at h
  split at h
  · rename_i q; cases h; exact if_pos q
  · cases h)
theorem j_modC (h1 : ma s = .ok (eI a) s1) (h2 : mb s1 = .ok (eI b) s2) (h : 0 < b) : e2 (pu gMod) ma mb s = .ok (eI (a % b)) s2 := j_e2 h1 h2 rfl rfl (if_pos h)
theorem j_divI (h1 : ma s = .ok (eI a) s1) (h2 : mb s1 = .ok (eI b) s2) (h : divQ a b = some v) : e2 (pu gDiv) ma mb s = .ok (eI v) s2 := j_e2 h1 h2 rfl rfl (by
  unfold divQ at h
  split at h
  · rename_i q; cases h; exact if_pos q
  · cases h)
theorem j_divC (h1 : ma s = .ok (eI a) s1) (h2 : mb s1 = .ok (eI b) s2) (h : 0 < b ∧ b < 1073741824) : e2 (pu gDiv) ma mb s = .ok (eI (a / b)) s2 := j_e2 h1 h2 rfl rfl (if_pos h)
theorem j_powI (h1 : ma s = .ok (eI a) s1) (h2 : mb s1 = .ok (eI b) s2) (h : powQ a b = some v) : e2 (pu gPow) ma mb s = .ok (eI v) s2 := j_e2 h1 h2 rfl rfl (by
  unfold powQ at h
  split at h
  · rename_i q; cases h; exact if_pos q
  · cases h)
theorem j_shlI (h1 : ma s = .ok (eI a) s1) (h2 : mb s1 = .ok (eI b) s2) (h : shlQ a b = some v) : e2 (pu gShl) ma mb s = .ok (eI v) s2 := j_e2 h1 h2 rfl rfl (by
  unfold shlQ at h
  split at h
  · rename_i q; cases h; exact if_pos q
  · cases h)
theorem j_shrI (h1 : ma s = .ok (eI a) s1) (h2 : mb s1 = .ok (eI b) s2) (h : shrQ a b = some v) : e2 (pu gShr) ma mb s = .ok (eI v) s2 := j_e2 h1 h2 rfl rfl (by
  unfold shrQ at h
  split at h
  · rename_i q; cases h; exact if_pos q
  · cases h)
theorem j_bandI (h1 : ma s = .ok (eI a) s1) (h2 : mb s1 = .ok (eI b) s2) : e2 (pu gBand) ma mb s = .ok (eI (Builtin.bitAnd a b)) s2 := j_e2 h1 h2 rfl rfl rfl
theorem j_neg (h1 : ma s = .ok (eI a) s1) : eNeg ma s = .ok (eI (-a)) s1 := by unfold eNeg bnd; rw [h1]; rfl
theorem j_catL {xs ys zs : List α} (h1 : ma s = .ok x s1) (h2 : mb s1 = .ok y s2) (hx : drf s2.sto x = eL e xs) (hy : drf s2.sto y = eL e ys) (h : catQ xs ys = some zs) : e2 (pu gAdd) ma mb s = .ok (eL e zs) s2 := j_e2 h1 h2 hx hy (by
  unfold catQ at h
  split at h
  · rename_i q; cases h; simp only [eL, gAdd, List.length_map, if_pos q, List.map_append]
  · cases h)
theorem j_catV {xs ys zs : List α} (h1 : ma s = .ok x s1) (h2 : mb s1 = .ok y s2) (hx : drf s2.sto x = eV e xs) (hy : drf s2.sto y = eV e ys) (h : catQ xs ys = some zs) : e2 (pu gAdd) ma mb s = .ok (eV e zs) s2 := j_e2 h1 h2 hx hy (by
  unfold catQ at h
  split at h
  · rename_i q; cases h; simp only [eV, gAdd, List.length_map, if_pos q, List.map_append]
  · cases h)
theorem j_cat21 {e1 : α → D} {e2' : β → D} {e3 : γ → D} {p : α × β} {q : γ} (h1 : ma s = .ok (eP2 e1 e2' p) s1) (h2 : mb s1 = .ok (eP1 e3 q) s2) : e2 (pu gAdd) ma mb s = .ok (eP3 e1 e2' e3 (p.1, p.2, q)) s2 := j_e2 h1 h2 rfl rfl rfl
theorem j_cat22 {e1 : α → D} {e2' : β → D} {e3 : γ → D} {e4 : δ → D} {p : α × β} {q : γ × δ} (h1 : ma s = .ok (eP2 e1 e2' p) s1) (h2 : mb s1 = .ok (eP2 e3 e4 q) s2) : e2 (pu gAdd) ma mb s = .ok (eP4 e1 e2' e3 e4 (p.1, p.2, q)) s2 := j_e2 h1 h2 rfl rfl rfl
/-! comparisons -/
theorem j_ltI (h1 : ma s = .ok (eI a) s1) (h2 : mb s1 = .ok (eI b) s2) : e2 (pu gLt) ma mb s = .ok (eB (decide (a < b))) s2 := j_e2 h1 h2 rfl rfl rfl
theorem j_leI (h1 : ma s = .ok (eI a) s1) (h2 : mb s1 = .ok (eI b) s2) : e2 (pu gLe) ma mb s = .ok (eB (decide (a ≤ b))) s2 := j_e2 h1 h2 rfl rfl rfl
theorem j_gtI (h1 : ma s = .ok (eI a) s1) (h2 : mb s1 = .ok (eI b) s2) : e2 (pu gGt) ma mb s = .ok (eB (decide (b < a))) s2 := j_e2 h1 h2 rfl rfl rfl
theorem j_geI (h1 : ma s = .ok (eI a) s1) (h2 : mb s1 = .ok (eI b) s2) : e2 (pu gGe) ma mb s = .ok (eB (decide (b ≤ a))) s2 := j_e2 h1 h2 rfl rfl rfl
theorem j_eqI (h1 : ma s = .ok (eI a) s1) (h2 : mb s1 = .ok (eI b) s2) : e2 (pu gEq) ma mb s = .ok (eB (decide (a = b))) s2 := j_e2 h1 h2 rfl rfl rfl
theorem j_neI (h1 : ma s = .ok (eI a) s1) (h2 : mb s1 = .ok (eI b) s2) : e2 (pu gNe) ma mb s = .ok (eB (!decide (a = b))) s2 := j_e2 h1 h2 rfl rfl rfl
theorem j_eqS {a b : Str} (h1 : ma s = .ok (eS a) s1) (h2 : mb s1 = .ok (eS b) s2) : e2 (pu gEq) ma mb s = .ok (eB (decide (a = b))) s2 := j_e2 h1 h2 rfl rfl rfl
theorem j_neS {a b : Str} (h1 : ma s = .ok (eS a) s1) (h2 : mb s1 = .ok (eS b) s2) : e2 (pu gNe) ma mb s = .ok (eB (!decide (a = b))) s2 := j_e2 h1 h2 rfl rfl rfl
theorem j_eqB {a b : Bool} (h1 : ma s = .ok (eB a) s1) (h2 : mb s1 = .ok (eB b) s2) : e2 (pu gEq) ma mb s = .ok (eB (decide (a = b))) s2 := j_e2 h1 h2 rfl rfl rfl
theorem j_neB {a b : Bool} (h1 : ma s = .ok (eB a) s1) (h2 : mb s1 = .ok (eB b) s2) : e2 (pu gNe) ma mb s = .ok (eB (!decide (a = b))) s2 := j_e2 h1 h2 rfl rfl rfl
theorem j_eq [EncPy e n] [DecidableEq α] {a b : α} (hn : n ≤ 64) (h1 : ma s = .ok x s1) (h2 : mb s1 = .ok y s2) (hx : drf s2.sto x = e a) (hy : drf s2.sto y = e b) : e2 (pu gEq) ma mb s = .ok (eB (decide (a = b))) s2 := j_e2 h1 h2 hx hy (gEq_enc hn a b)
theorem j_ne [EncPy e n] [DecidableEq α] {a b : α} (hn : n ≤ 64) (h1 : ma s = .ok x s1) (h2 : mb s1 = .ok y s2) (hx : drf s2.sto x = e a) (hy : drf s2.sto y = e b) : e2 (pu gNe) ma mb s = .ok (eB (!decide (a = b))) s2 := j_e2 h1 h2 hx hy (gNe_enc hn a b)
theorem j_eqQ {d1 d2 : D} {b : Bool} (h1 : ma s = .ok x s1) (h2 : mb s1 = .ok y s2) (hx : drf s2.sto x = d1) (hy : drf s2.sto y = d2) (h : eqQ d1 d2 = some b) : e2 (pu gEq) ma mb s = .ok (eB b) s2 := j_e2 h1 h2 hx hy (gEq_Q h)
theorem j_neQ {d1 d2 : D} {b : Bool} (h1 : ma s = .ok x s1) (h2 : mb s1 = .ok y s2) (hx : drf s2.sto x = d1) (hy : drf s2.sto y = d2) (h : eqQ d1 d2 = some b) : e2 (pu gNe) ma mb s = .ok (eB (!b)) s2 := j_e2 h1 h2 hx hy (gNe_Q h)
def ltP (p q : Int × Int) : Bool := decide (p.1 < q.1 ∨ (p.1 = q.1 ∧ p.2 < q.2))
theorem j_ltP {p q : Int × Int} (h1 : ma s = .ok (eP2 eI eI p) s1) (h2 : mb s1 = .ok (eP2 eI eI q) s2) : e2 (pu gLt) ma mb s = .ok (eB (ltP p q)) s2 := j_e2 (d1 := eP2 eI eI p) (d2 := eP2 eI eI q) h1 h2 rfl rfl (by
  simp only [eP2, eI, gLt, intsOf, Option.map_some, HT.lexLt, eB, ltP, Option.some.injEq, D.bl.injEq]
  by_cases h : p.1 = q.1
  · by_cases h' : p.2 = q.2
    · simp [h, h']
    · simp [h, h']
  · simp [h])
theorem isNon_O [h : EncNN e] {o : Option α} : isNon (eO e o) = o.isNone := by
  cases o with
  | none => rfl
  | some a => exact h.nn a
theorem gIs_non {st : List Cell} : gIs st [x, .non] = some (.bl (isNon x)) := by cases x <;> rfl
theorem gIsNot_non {st : List Cell} : gIsNot st [x, .non] = some (.bl (!isNon x)) := by cases x <;> rfl
theorem j_isO [EncOk e] [EncNN e] {o : Option α} (h1 : ma s = .ok (eO e o) s1) (h2 : mb s1 = .ok .non s2) : e2 (pu gIs) ma mb s = .ok (eB o.isNone) s2 := j_e2 (d1 := eO e o) (d2 := .non) h1 h2 drE rfl (by rw [gIs_non, isNon_O]; rfl)
theorem j_isnO [EncOk e] [EncNN e] {o : Option α} (h1 : ma s = .ok (eO e o) s1) (h2 : mb s1 = .ok .non s2) : e2 (pu gIsNot) ma mb s = .ok (eB o.isSome) s2 := j_e2 (d1 := eO e o) (d2 := .non) h1 h2 drE rfl (by rw [gIsNot_non, isNon_O]; cases o <;> rfl)
theorem j_isBt {b c : Bool} (h1 : ma s = .ok (eB b) s1) (h2 : mb s1 = .ok (eB c) s2) : e2 (pu gIs) ma mb s = .ok (eB (decide (b = c))) s2 := j_e2 h1 h2 rfl rfl rfl
/-! what an option holds -/
theorem j_unw {o : Option α} {v : α} (h1 : ma s = .ok (eO e o) s1) (h : o = some v) : ma s = .ok (e v) s1 := by rw [h1, h]; rfl
/-! tests -/
theorem t_toB {c : Bool} (h : ma s = .ok (eB c) s1) : toB ma s = .ok c s1 := by unfold toB bnd; rw [h]; rfl
theorem t_not {c : Bool} (h : t s = .ok c s1) : bNot t s = .ok (!c) s1 := by unfold bNot bnd; rw [h]; rfl
theorem t_and {c c' : Bool} (h : t s = .ok c s1) (h' : u s1 = .ok c' s1) : bAnd t u s = .ok (c && c') s1 := by
  unfold bAnd bnd; rw [h]; cases c with
  | true => exact h'
  | false => rfl
theorem t_or {c c' : Bool} (h : t s = .ok c s1) (h' : u s1 = .ok c' s1) : bOr t u s = .ok (c || c') s1 := by
  unfold bOr bnd; rw [h]; cases c with
  | true => rfl
  | false => exact h'
theorem t_andQ {c r : Bool} {q : Option Bool} (h : t s = .ok c s1) (H : (if c = true then q else some false) = some r) (k : ∀ v, q = some v → u s1 = .ok v s1) : bAnd t u s = .ok r s1 := by
  unfold bAnd bnd; rw [h]; cases c with
  | true => exact k _ H
  | false => cases H; rfl
theorem t_orQ {c r : Bool} {q : Option Bool} (h : t s = .ok c s1) (H : (if c = true then some true else q) = some r) (k : ∀ v, q = some v → u s1 = .ok v s1) : bOr t u s = .ok r s1 := by
  unfold bOr bnd; rw [h]; cases c with
  | true => cases H; rfl
  | false => exact k _ H
theorem t_andT {τ : Type} {G : τ → S} {T : τ} {c : Bool} {r : Bool × τ} {q : Option (Bool × τ)} (h : t s = .ok c (G T)) (H : (if c = true then q else some (false, T)) = some r) (k : ∀ v, q = some v → u (G T) = .ok v.1 (G v.2)) : bAnd t u s = .ok r.1 (G r.2) := by
  unfold bAnd bnd; rw [h]; cases c with
  | true => exact k _ H
  | false => cases H; rfl
theorem t_orT {τ : Type} {G : τ → S} {T : τ} {c : Bool} {r : Bool × τ} {q : Option (Bool × τ)} (h : t s = .ok c (G T)) (H : (if c = true then some (true, T) else q) = some r) (k : ∀ v, q = some v → u (G T) = .ok v.1 (G v.2)) : bOr t u s = .ok r.1 (G r.2) := by
  unfold bOr bnd; rw [h]; cases c with
  | true => cases H; rfl
  | false => exact k _ H
/-- the same as values -/
theorem j_not {c : Bool} (h : ma s = .ok (eB c) s1) : eNot ma s = .ok (eB (!c)) s1 := by unfold eNot bnd; rw [t_toB h]; rfl
theorem j_and {c c' : Bool} (h : ma s = .ok (eB c) s1) (h' : mb s1 = .ok (eB c') s1) : eAnd ma mb s = .ok (eB (c && c')) s1 := by
  unfold eAnd bnd; rw [t_toB h]; cases c with
  | true => exact h'
  | false => rfl
theorem j_or {c c' : Bool} (h : ma s = .ok (eB c) s1) (h' : mb s1 = .ok (eB c') s1) : eOr ma mb s = .ok (eB (c || c')) s1 := by
  unfold eOr bnd; rw [t_toB h]; cases c with
  | true => rfl
  | false => exact h'
theorem j_andQ {c r : Bool} {q : Option Bool} (h : ma s = .ok (eB c) s1) (H : (if c = true then q else some false) = some r) (k : ∀ v, q = some v → mb s1 = .ok (eB v) s1) : eAnd ma mb s = .ok (eB r) s1 := by
  unfold eAnd bnd; rw [t_toB h]; cases c with
  | true => exact k _ H
  | false => cases H; rfl
theorem j_orQ {c r : Bool} {q : Option Bool} (h : ma s = .ok (eB c) s1) (H : (if c = true then some true else q) = some r) (k : ∀ v, q = some v → mb s1 = .ok (eB v) s1) : eOr ma mb s = .ok (eB r) s1 := by
  unfold eOr bnd; rw [t_toB h]; cases c with
  | true => cases H; rfl
  | false => exact k _ H
theorem j_andT {τ : Type} {G : τ → S} {T : τ} {c : Bool} {r : Bool × τ} {q : Option (Bool × τ)} (h : ma s = .ok (eB c) (G T)) (H : (if c = true then q else some (false, T)) = some r) (k : ∀ v, q = some v → mb (G T) = .ok (eB v.1) (G v.2)) : eAnd ma mb s = .ok (eB r.1) (G r.2) := by
  unfold eAnd bnd; rw [t_toB h]; cases c with
  | true => exact k _ H
  | false => cases H; rfl
theorem j_orT {τ : Type} {G : τ → S} {T : τ} {c : Bool} {r : Bool × τ} {q : Option (Bool × τ)} (h : ma s = .ok (eB c) (G T)) (H : (if c = true then some (true, T) else q) = some r) (k : ∀ v, q = some v → mb (G T) = .ok (eB v.1) (G v.2)) : eOr ma mb s = .ok (eB r.1) (G r.2) := by
  unfold eOr bnd; rw [t_toB h]; cases c with
  | true => cases H; rfl
  | false => exact k _ H
theorem j_if {a b : α} {c : Bool} (h : t s = .ok c s1) (h1 : ma s1 = .ok (e a) s1) (h2 : mb s1 = .ok (e b) s1) : eIf t ma mb s = .ok (e (if c = true then a else b)) s1 := by
  unfold eIf bnd; rw [h]; cases c with
  | true => exact h1
  | false => exact h2
theorem j_ifQ {c : Bool} {r : α} {q1 q2 : Option α} (h : t s = .ok c s1) (H : (if c = true then q1 else q2) = some r) (k1 : ∀ v, q1 = some v → ma s1 = .ok (e v) s1) (k2 : ∀ v, q2 = some v → mb s1 = .ok (e v) s1) : eIf t ma mb s = .ok (e r) s1 := by
  unfold eIf bnd; rw [h]; cases c with
  | true => exact k1 _ H
  | false => exact k2 _ H
theorem j_ifT {τ : Type} {G : τ → S} {T : τ} {c : Bool} {r : α × τ} {q1 q2 : Option (α × τ)} (h : t s = .ok c (G T)) (H : (if c = true then q1 else q2) = some r) (k1 : ∀ v, q1 = some v → ma (G T) = .ok (e v.1) (G v.2)) (k2 : ∀ v, q2 = some v → mb (G T) = .ok (e v.1) (G v.2)) : eIf t ma mb s = .ok (e r.1) (G r.2) := by
  unfold eIf bnd; rw [h]; cases c with
  | true => exact k1 _ H
  | false => exact k2 _ H
theorem j_conv {p r : α} (h : ma s = .ok (e p) s1) (hp : some p = some r) : ma s = .ok (e r) s1 := by cases hp; exact h
theorem j_convT {τ : Type} {G : τ → S} {p : α} {T : τ} {r : α × τ} (h : ma s = .ok (e p) (G T)) (hp : some (p, T) = some r) : ma s = .ok (e r.1) (G r.2) := by cases hp; exact h
theorem t_conv {p r : Bool} (h : t s = .ok p s1) (hp : some p = some r) : t s = .ok r s1 := by cases hp; exact h
theorem t_convT {τ : Type} {G : τ → S} {p : Bool} {T : τ} {r : Bool × τ} (h : t s = .ok p (G T)) (hp : some (p, T) = some r) : t s = .ok r.1 (G r.2) := by cases hp; exact h
theorem t_eq {p r : Bool} (h : t s = .ok p s1) (hp : p = r) : t s = .ok r s1 := by cases hp; exact h
theorem j_eqv {p r : α} (h : ma s = .ok (e p) s1) (hp : p = r) : ma s = .ok (e r) s1 := by cases hp; exact h
/-! calls -/
theorem j_call {f : Fn} {ds : List D} {r : Rs} (h : mr s = .ok ds ⟨env, sto⟩) (hf : f ds sto = .ok r sto') : rCall f mr s = .ok r ⟨env, sto'⟩ := by unfold rCall bnd; rw [h]; simp only [hf]
/-! stores -/
theorem sto_get {j : Nat} : (base ++ L)[base.length + j]? = L[j]? := by rw [List.getElem?_append_right (by omega)]; congr 1; omega
theorem sto_set {j : Nat} {c : Cell} : (base ++ L).set (base.length + j) c = base ++ L.set j c := by
  rw [List.set_append]
  split
  · omega
  · congr 2; omega
theorem drLb {j : Nat} {xs : List α} (h : L[j]? = some (cL e xs)) : drf (base ++ L) (.loc (base.length + j)) = eL e xs := drL (sto_get.trans h)
theorem drDIb {j : Nat} {xs : List (Int × α)} (h : L[j]? = some (cDI e xs)) : drf (base ++ L) (.loc (base.length + j)) = eDI e xs := drDI (sto_get.trans h)
theorem drDTb {j : Nat} {xs : List ((Int × Int) × α)} (h : L[j]? = some (cDT e xs)) : drf (base ++ L) (.loc (base.length + j)) = eDT e xs := drDT (sto_get.trans h)
end
end LW
namespace LW
open PySem PySem.Spec L2
open PyProof.Rows (envOfC)

section
variable {α β κ : Type} {e : α → D}
theorem map_eraseIdx : ∀ (xs : List α) (i : Nat), (xs.map e).eraseIdx i = (xs.eraseIdx i).map e
  | [], _ => rfl
  | x :: xs, 0 => rfl
  | x :: xs, i + 1 => congrArg (e x :: ·) (map_eraseIdx xs i)
theorem atI_map {xs : List α} {i : Int} : atI (xs.map e) i = (atI xs i).map e := by
  unfold atI
  rw [List.length_map]
  cases ixN xs.length i with
  | none => rfl
  | some j => simp
theorem luK_map [DecidableEq κ] {κ' : Type} [DecidableEq κ'] {f : κ' → κ} (hf : ∀ a b, f a = f b → a = b) {k : κ'} : ∀ kvs : List (κ' × α), luK (kvs.map fun p => f p.1) (kvs.map fun p => e p.2) (f k) = (luQ kvs k).map e
  | [] => rfl
  | p :: r => by
    simp only [List.map_cons, luK, luQ]
    by_cases h : p.1 = k
    · rw [if_pos (by rw [h]), if_pos h]; rfl
    · rw [if_neg (fun q => h (hf _ _ q)), if_neg h, luK_map hf r]
theorem puV_map [DecidableEq κ] {κ' : Type} [DecidableEq κ'] {f : κ' → κ} (hf : ∀ a b, f a = f b → a = b) {k : κ'} {v : α} : ∀ kvs : List (κ' × α), puV (kvs.map fun p => f p.1) (kvs.map fun p => e p.2) (f k) (e v) = (putV kvs k v).map fun p => e p.2
  | [] => rfl
  | p :: r => by
    simp only [List.map_cons, puV, putV]
    rw [puV_map hf r]
    by_cases h : p.1 = k
    · rw [if_pos (by rw [h]), if_pos h]
    · rw [if_neg (fun q => h (hf _ _ q)), if_neg h]
theorem putV_keys [DecidableEq κ] {k : κ} {v : α} : ∀ kvs : List (κ × α), (putV kvs k v).map (·.1) = kvs.map (·.1)
  | [] => rfl
  | p :: r => by
    simp only [putV, List.map_cons, putV_keys r]
    split <;> rfl
theorem puK_map [DecidableEq κ] {κ' : Type} [DecidableEq κ'] {f : κ' → κ} (hf : ∀ a b, f a = f b → a = b) {k : κ'} {v : α} {kvs : List (κ' × α)} :
    puK (kvs.map fun p => f p.1) (kvs.map fun p => e p.2) (f k) (e v) = ((putL kvs k v).map (fun p => f p.1), (putL kvs k v).map fun p => e p.2) := by
  unfold puK putL
  have hm : f k ∈ kvs.map (fun p => f p.1) ↔ k ∈ kvs.map (·.1) := by
    constructor
    · intro h
      obtain ⟨p, h1, h2⟩ := List.mem_map.mp h
      exact List.mem_map.mpr ⟨p, h1, hf _ _ h2⟩
    · intro h
      obtain ⟨p, h1, h2⟩ := List.mem_map.mp h
      exact List.mem_map.mpr ⟨p, h1, by rw [h2]⟩
  by_cases h : k ∈ kvs.map (·.1)
  · rw [if_pos (hm.mpr h), if_pos h, puV_map hf]
    congr 1
    have := congrArg (List.map f) (putV_keys (v := v) (k := k) kvs)
    rw [List.map_map, List.map_map] at this
    exact this.symm
  · rw [if_neg (fun q => h (hm.mp q)), if_neg h]
    simp
theorem inlI : ∀ a b : Int, (Sum.inl a : Key) = Sum.inl b → a = b := fun a b h => Sum.inl.inj h
theorem inlP : ∀ a b : Int × Int, ([Sum.inl a.1, Sum.inl a.2] : List Key) = [Sum.inl b.1, Sum.inl b.2] → a = b := fun a b h => by
  simp only [List.cons.injEq, Sum.inl.injEq, and_true] at h
  exact Prod.ext h.1 h.2
theorem mrgD_map : ∀ (ps kvs : List (Int × α)), mrgD (kvs.map (fun p => (Sum.inl p.1 : Key)), kvs.map fun p => e p.2) (ps.map fun p => (Sum.inl p.1, e p.2)) = ((dictL kvs ps).map (fun p => Sum.inl p.1), (dictL kvs ps).map fun p => e p.2)
  | [], kvs => rfl
  | p :: r, kvs => by
    simp only [List.map_cons, mrgD, dictL]
    rw [puK_map (f := fun a => (Sum.inl a : Key)) inlI]
    exact mrgD_map r _
theorem prsOf_map : ∀ ps : List (Int × α), prsOf (ps.map (eP2 eI e)) = some (ps.map fun p => (Sum.inl p.1, e p.2))
  | [] => rfl
  | p :: r => by
    rw [List.map_cons]
    show (match some (Sum.inl p.1 : Key), prsOf (r.map (eP2 eI e)) with | some k, some ps => some ((k, e p.2) :: ps) | _, _ => none) = _
    rw [prsOf_map r]
    rfl
theorem intsOf_eI : ∀ ns : List Int, intsOf (ns.map eI) = some ns
  | [] => rfl
  | n :: r => by
    rw [List.map_cons]
    show (intsOf (r.map eI)).map (n :: ·) = _
    rw [intsOf_eI r]; rfl
theorem blsOf_eB : ∀ ns : List Bool, blsOf (ns.map eB) = some ns
  | [] => rfl
  | n :: r => by
    rw [List.map_cons]
    show (blsOf (r.map eB)).map (n :: ·) = _
    rw [blsOf_eB r]; rfl
theorem scA_ints : ∀ ns : List Int, scA (ns.map eI) = some (ns.map V.int)
  | [] => rfl
  | n :: r => by
    rw [List.map_cons]
    show (match some (V.int n), scA (r.map eI) with | some v, some vs => some (v :: vs) | _, _ => none) = _
    rw [scA_ints r]; rfl
theorem inV_ints (a : Int) (ns : List Int) : inV (.int a) (ns.map V.int) = decide (a ∈ ns) := by
  unfold inV
  induction ns with
  | nil => rfl
  | cons n r ih =>
    simp only [List.map_cons, List.any_cons, ih]
    by_cases h : n = a
    · subst h; simp [eqV]
    · have h' : ¬ a = n := fun z => h z.symm
      simp [eqV, h, h']
end

section
variable {σ ρ α β γ δ ε κ : Type} {F : σ → S} {R : ρ → Rx × List Cell} {s s1 s2 s3 : S} {ma mb mo mv : M D} {mr : M (List D)} {mi : M (List D)} {mR : M Rs} {tt : M Bool} {te : M D} {tg : Tg} {own : List Nat} {env env' : List (Option D)} {sto sto' base base1 L L' : List Cell} {d x y : D} {i : Nat}
variable {e : α → D} {e2' : β → D} {e3 : γ → D} {e4 : δ → D} {e5 : ε → D} {n : Nat} {a b v : Int}
/-! built-in functions -/
theorem j_lenL {xs : List α} (h : ma s = .ok x s1) (hx : drf s1.sto x = eL e xs) : LW.eN (pu gLen) (eCons ma (ret [])) s = .ok (eI (xs.length : Nat)) s1 := j_eN1 (j_cons h j_ret) hx (by simp [eL, gLen, eI])
theorem j_lenV {xs : List α} (h : ma s = .ok x s1) (hx : drf s1.sto x = eV e xs) : LW.eN (pu gLen) (eCons ma (ret [])) s = .ok (eI (xs.length : Nat)) s1 := j_eN1 (j_cons h j_ret) hx (by simp [eV, gLen, eI])
theorem j_lenDI {xs : List (Int × α)} (h : ma s = .ok x s1) (hx : drf s1.sto x = eDI e xs) : LW.eN (pu gLen) (eCons ma (ret [])) s = .ok (eI (xs.length : Nat)) s1 := j_eN1 (j_cons h j_ret) hx (by simp [eDI, gLen, eI])
theorem j_lenS {xs : Str} (h : ma s = .ok (eS xs) s1) (hl : xs.length ≤ 16777216) : LW.eN (pu gLen) (eCons ma (ret [])) s = .ok (eI (xs.length : Nat)) s1 := j_eN1 (j_cons h j_ret) rfl (if_pos hl)
theorem j_tupleL {xs : List α} (h : ma s = .ok x s1) (hx : drf s1.sto x = eL e xs) : LW.eN (pu gTuple) (eCons ma (ret [])) s = .ok (eV e xs) s1 := j_eN1 (j_cons h j_ret) hx rfl
theorem j_tupleV {xs : List α} (h : ma s = .ok x s1) (hx : drf s1.sto x = eV e xs) : LW.eN (pu gTuple) (eCons ma (ret [])) s = .ok (eV e xs) s1 := j_eN1 (j_cons h j_ret) hx rfl
theorem j_min2 (h1 : ma s = .ok (eI a) s1) (h2 : mb s1 = .ok (eI b) s2) : LW.eN (pu gMin) (eCons ma (eCons mb (ret []))) s = .ok (eI (if b < a then b else a)) s2 := by
  unfold LW.eN bnd
  rw [j_cons h1 (j_cons h2 j_ret)]
  rfl
theorem j_max2 (h1 : ma s = .ok (eI a) s1) (h2 : mb s1 = .ok (eI b) s2) : LW.eN (pu gMax) (eCons ma (eCons mb (ret []))) s = .ok (eI (if b > a then b else a)) s2 := by
  unfold LW.eN bnd
  rw [j_cons h1 (j_cons h2 j_ret)]
  rfl
theorem j_minL {xs : List α} {v : α} (h : ma s = .ok x s1) (hx : drf s1.sto x = eL e xs) (hq : minQ e xs = some v) : LW.eN (pu gMin) (eCons ma (ret [])) s = .ok (e v) s1 := j_eN1 (j_cons h j_ret) hx (by
  unfold minQ at hq
  split at hq
  · rename_i q
    show (match seqOfA (D.lst (xs.map e)) with | some ds => if okAl ds = true then ds[minAt ds]? else none | none => none) = _
    simp only [seqOfA, if_pos q, List.getElem?_map, hq, Option.map_some]
  · cases hq)
theorem j_maxL {xs : List α} {v : α} (h : ma s = .ok x s1) (hx : drf s1.sto x = eL e xs) (hq : maxQ e xs = some v) : LW.eN (pu gMax) (eCons ma (ret [])) s = .ok (e v) s1 := j_eN1 (j_cons h j_ret) hx (by
  unfold maxQ at hq
  split at hq
  · rename_i q
    show (match seqOfA (D.lst (xs.map e)) with | some ds => if okAl ds = true then ds[maxAt ds]? else none | none => none) = _
    simp only [seqOfA, if_pos q, List.getElem?_map, hq, Option.map_some]
  · cases hq)
theorem j_any {xs : List Bool} (h : ma s = .ok x s1) (hx : drf s1.sto x = eL eB xs) : LW.eN (pu gAny) (eCons ma (ret [])) s = .ok (eB (xs.any id)) s1 := j_eN1 (j_cons h j_ret) hx (by show (blsOf (xs.map eB)).map (fun bs => D.bl (bs.any id)) = _; rw [blsOf_eB]; rfl)
theorem j_all {xs : List Bool} (h : ma s = .ok x s1) (hx : drf s1.sto x = eL eB xs) : LW.eN (pu gAll) (eCons ma (ret [])) s = .ok (eB (xs.all id)) s1 := j_eN1 (j_cons h j_ret) hx (by show (blsOf (xs.map eB)).map (fun bs => D.bl (bs.all id)) = _; rw [blsOf_eB]; rfl)
theorem j_sum {xs : List Int} (h : ma s = .ok x s1) (hx : drf s1.sto x = eL eI xs) : LW.eN (pu gSum) (eCons ma (ret [])) s = .ok (eI xs.sum) s1 := j_eN1 (j_cons h j_ret) hx (by show (intsOf (xs.map eI)).map (fun ns => D.int ns.sum) = _; rw [intsOf_eI]; rfl)
theorem j_abs (h : ma s = .ok (eI a) s1) : LW.eN (pu gAbs) (eCons ma (ret [])) s = .ok (eI (if a < 0 then -a else a)) s1 := j_eN1 (j_cons h j_ret) rfl rfl
theorem j_intB {c : Bool} (h : ma s = .ok (eB c) s1) : LW.eN (pu gInt) (eCons ma (ret [])) s = .ok (eI (if c = true then 1 else 0)) s1 := j_eN1 (j_cons h j_ret) rfl rfl
theorem j_strI {z : Str} (h : ma s = .ok (eI a) s1) (hq : strQ a = some z) : LW.eN (pu gStrI) (eCons ma (ret [])) s = .ok (eS z) s1 := j_eN1 (j_cons h j_ret) rfl (by
  unfold strQ at hq
  split at hq
  · rename_i q; cases hq; exact if_pos q
  · cases hq)
theorem j_repr {z : Str} (h : ma s = .ok x s1) (hx : drf s1.sto x = d) (hq : reprQ d = some z) : LW.eN (pu gRepr) (eCons ma (ret [])) s = .ok (eS z) s1 := j_eN1 (j_cons h j_ret) hx (by
  unfold reprQ at hq
  split at hq
  · rename_i q; cases hq; exact if_pos q
  · cases hq)
theorem j_rN1 {g : List Cell → List D → Option Rs} {r : Rs} {d1 : D} (h : ma s = .ok x s1) (hx : drf s1.sto x = d1) (hg : g s1.sto [d1] = some r) : rN (puR g) (eCons ma (ret [])) s = .ok r s1 := by
  unfold rN bnd
  rw [j_cons h j_ret]
  simp only [puR, List.map_cons, List.map_nil, hx, hg]
  rfl
theorem r_listL {xs : List α} (h : ma s = .ok x s1) (hx : drf s1.sto x = eL e xs) : rN (puR gList) (eCons ma (ret [])) s = .ok (.c (cL e xs)) s1 := j_rN1 h hx rfl
theorem r_listV {xs : List α} (h : ma s = .ok x s1) (hx : drf s1.sto x = eV e xs) : rN (puR gList) (eCons ma (ret [])) s = .ok (.c (cL e xs)) s1 := j_rN1 h hx rfl
theorem r_dict {ps : List (Int × α)} (h : ma s = .ok x s1) (hx : drf s1.sto x = eL (eP2 eI e) ps) : rN (puR gDict) (eCons ma (ret [])) s = .ok (.c (cDI e (dictL [] ps))) s1 := j_rN1 h hx (by
  show gDict _ [D.lst (ps.map (eP2 eI e))] = _
  unfold gDict
  simp only [prsOf_map]
  have := mrgD_map (e := e) ps []
  simp only [List.map_nil] at this
  rw [this]
  rfl)
theorem r_sortedL {xs zs : List α} (h : ma s = .ok x s1) (hx : drf s1.sto x = eL e xs) (hq : sortedQ e xs = some zs) : rN (puR gSorted) (eCons ma (ret [])) s = .ok (.c (cL e zs)) s1 := j_rN1 h hx (by
  unfold sortedQ at hq
  split at hq
  · rename_i q
    cases hq
    show (if okSrt (xs.map e) = true then some (Rs.c (Cell.lst ((xs.map e).mergeSort leD))) else none) = _
    rw [if_pos q]
    unfold cL
    rw [List.map_mergeSort (s := leD) (fun a _ b _ => rfl)]
  · cases hq)
/-! membership -/
theorem j_inI {xs : List Int} (h1 : ma s = .ok (eI a) s1) (h2 : mb s1 = .ok y s2) (hy : drf s2.sto y = eL eI xs) : LW.e2 gInAll ma mb s = .ok (eB (decide (a ∈ xs))) s2 := j_e2o h1 h2 rfl hy (by
  rw [show drf s2.sto (eI a) = D.int a from rfl]
  simp only [eL, eV, gNotIn, gIn, sc, scA_ints, inV_ints]
  rfl)
theorem j_inIV {xs : List Int} (h1 : ma s = .ok (eI a) s1) (h2 : mb s1 = .ok y s2) (hy : drf s2.sto y = eV eI xs) : LW.e2 gInAll ma mb s = .ok (eB (decide (a ∈ xs))) s2 := j_e2o h1 h2 rfl hy (by
  rw [show drf s2.sto (eI a) = D.int a from rfl]
  simp only [eL, eV, gNotIn, gIn, sc, scA_ints, inV_ints]
  rfl)
theorem j_ninI {xs : List Int} (h1 : ma s = .ok (eI a) s1) (h2 : mb s1 = .ok y s2) (hy : drf s2.sto y = eL eI xs) : LW.e2 gNotInAll ma mb s = .ok (eB (!decide (a ∈ xs))) s2 := j_e2o h1 h2 rfl hy (by
  rw [show drf s2.sto (eI a) = D.int a from rfl]
  simp only [eL, eV, gNotIn, gIn, sc, scA_ints, inV_ints]
  rfl)
theorem j_ninIV {xs : List Int} (h1 : ma s = .ok (eI a) s1) (h2 : mb s1 = .ok y s2) (hy : drf s2.sto y = eV eI xs) : LW.e2 gNotInAll ma mb s = .ok (eB (!decide (a ∈ xs))) s2 := j_e2o h1 h2 rfl hy (by
  rw [show drf s2.sto (eI a) = D.int a from rfl]
  simp only [eL, eV, gNotIn, gIn, sc, scA_ints, inV_ints]
  rfl)
theorem isSome_map {f : α → β} {o : Option α} : (o.map f).isSome = o.isSome := by cases o <;> rfl
theorem j_inDI {kvs : List (Int × α)} (h1 : ma s = .ok (eI a) s1) (h2 : mb s1 = .ok y s2) (hy : drf s2.sto y = eDI e kvs) : LW.e2 gInAll ma mb s = .ok (eB (luQ kvs a).isSome) s2 := j_e2o h1 h2 rfl hy (by
  show Option.or none (some (D.bl (luK (kvs.map fun p => (Sum.inl p.1 : Key)) (kvs.map fun p => e p.2) (Sum.inl a)).isSome)) = _
  rw [luK_map (f := fun a => (Sum.inl a : Key)) inlI, isSome_map]
  rfl)
theorem j_ninDI {kvs : List (Int × α)} (h1 : ma s = .ok (eI a) s1) (h2 : mb s1 = .ok y s2) (hy : drf s2.sto y = eDI e kvs) : LW.e2 gNotInAll ma mb s = .ok (eB (!(luQ kvs a).isSome)) s2 := j_e2o h1 h2 rfl hy (by
  show Option.or none (some (D.bl (!(luK (kvs.map fun p => (Sum.inl p.1 : Key)) (kvs.map fun p => e p.2) (Sum.inl a)).isSome))) = _
  rw [luK_map (f := fun a => (Sum.inl a : Key)) inlI, isSome_map]
  rfl)
theorem j_inDT {kvs : List ((Int × Int) × α)} {p : Int × Int} (h1 : ma s = .ok (eP2 eI eI p) s1) (h2 : mb s1 = .ok y s2) (hy : drf s2.sto y = eDT e kvs) : LW.e2 gInAll ma mb s = .ok (eB (luQ kvs p).isSome) s2 := j_e2o h1 h2 rfl hy (by
  show Option.or none (some (D.bl (luK (kvs.map fun p => ([Sum.inl p.1.1, Sum.inl p.1.2] : List Key)) (kvs.map fun p => e p.2) [Sum.inl p.1, Sum.inl p.2]).isSome)) = _
  rw [luK_map (f := fun p : Int × Int => ([Sum.inl p.1, Sum.inl p.2] : List Key)) inlP, isSome_map]
  rfl)
theorem j_ninDT {kvs : List ((Int × Int) × α)} {p : Int × Int} (h1 : ma s = .ok (eP2 eI eI p) s1) (h2 : mb s1 = .ok y s2) (hy : drf s2.sto y = eDT e kvs) : LW.e2 gNotInAll ma mb s = .ok (eB (!(luQ kvs p).isSome)) s2 := j_e2o h1 h2 rfl hy (by
  show Option.or none (some (D.bl (!(luK (kvs.map fun p => ([Sum.inl p.1.1, Sum.inl p.1.2] : List Key)) (kvs.map fun p => e p.2) [Sum.inl p.1, Sum.inl p.2]).isSome))) = _
  rw [luK_map (f := fun p : Int × Int => ([Sum.inl p.1, Sum.inl p.2] : List Key)) inlP, isSome_map]
  rfl)
/-! subscripts -/
theorem j_ixL {xs : List α} {v : α} (h1 : ma s = .ok x s1) (h2 : mb s1 = .ok (eI a) s2) (hx : drf s2.sto x = eL e xs) (hq : ixQ xs a = some v) : LW.e2 gIx ma mb s = .ok (e v) s2 := j_e2o h1 h2 hx rfl (by
  show Option.or (atI (xs.map e) a) _ = _
  rw [atI_map, show atI xs a = some v from hq]
  rfl)
theorem j_ixV {xs : List α} {v : α} (h1 : ma s = .ok x s1) (h2 : mb s1 = .ok (eI a) s2) (hx : drf s2.sto x = eV e xs) (hq : ixQ xs a = some v) : LW.e2 gIx ma mb s = .ok (e v) s2 := j_e2o h1 h2 hx rfl (by
  show Option.or (atI (xs.map e) a) _ = _
  rw [atI_map, show atI xs a = some v from hq]
  rfl)
theorem j_ixDI {kvs : List (Int × α)} {v : α} (h1 : ma s = .ok x s1) (h2 : mb s1 = .ok (eI a) s2) (hx : drf s2.sto x = eDI e kvs) (hq : luQ kvs a = some v) : LW.e2 gIx ma mb s = .ok (e v) s2 := j_e2o h1 h2 hx rfl (by
  show Option.or none (luK (kvs.map fun p => (Sum.inl p.1 : Key)) (kvs.map fun p => e p.2) (Sum.inl a)) = _
  rw [luK_map (f := fun a => (Sum.inl a : Key)) inlI, hq]
  rfl)
theorem j_ixDT {kvs : List ((Int × Int) × α)} {p : Int × Int} {v : α} (h1 : ma s = .ok x s1) (h2 : mb s1 = .ok (eP2 eI eI p) s2) (hx : drf s2.sto x = eDT e kvs) (hq : luQ kvs p = some v) : LW.e2 gIx ma mb s = .ok (e v) s2 := j_e2o h1 h2 hx rfl (by
  show Option.or none (luK (kvs.map fun p => ([Sum.inl p.1.1, Sum.inl p.1.2] : List Key)) (kvs.map fun p => e p.2) [Sum.inl p.1, Sum.inl p.2]) = _
  rw [luK_map (f := fun p : Int × Int => ([Sum.inl p.1, Sum.inl p.2] : List Key)) inlP, hq]
  rfl)
theorem j_p1_0 {p : α} (h1 : ma s = .ok (eP1 e p) s1) (h2 : mb s1 = .ok (eI 0) s2) : LW.e2 gIx ma mb s = .ok (e p) s2 := j_e2o h1 h2 rfl rfl rfl
theorem j_p2_0 {p : α × β} (h1 : ma s = .ok (eP2 e e2' p) s1) (h2 : mb s1 = .ok (eI 0) s2) : LW.e2 gIx ma mb s = .ok (e p.1) s2 := j_e2o h1 h2 rfl rfl rfl
theorem j_p2_1 {p : α × β} (h1 : ma s = .ok (eP2 e e2' p) s1) (h2 : mb s1 = .ok (eI 1) s2) : LW.e2 gIx ma mb s = .ok (e2' p.2) s2 := j_e2o h1 h2 rfl rfl rfl
theorem j_p3_0 {p : α × β × γ} (h1 : ma s = .ok (eP3 e e2' e3 p) s1) (h2 : mb s1 = .ok (eI 0) s2) : LW.e2 gIx ma mb s = .ok (e p.1) s2 := j_e2o h1 h2 rfl rfl rfl
theorem j_p3_1 {p : α × β × γ} (h1 : ma s = .ok (eP3 e e2' e3 p) s1) (h2 : mb s1 = .ok (eI 1) s2) : LW.e2 gIx ma mb s = .ok (e2' p.2.1) s2 := j_e2o h1 h2 rfl rfl rfl
theorem j_p3_2 {p : α × β × γ} (h1 : ma s = .ok (eP3 e e2' e3 p) s1) (h2 : mb s1 = .ok (eI 2) s2) : LW.e2 gIx ma mb s = .ok (e3 p.2.2) s2 := j_e2o h1 h2 rfl rfl rfl
theorem j_p4_0 {p : α × β × γ × δ} (h1 : ma s = .ok (eP4 e e2' e3 e4 p) s1) (h2 : mb s1 = .ok (eI 0) s2) : LW.e2 gIx ma mb s = .ok (e p.1) s2 := j_e2o h1 h2 rfl rfl rfl
theorem j_p4_1 {p : α × β × γ × δ} (h1 : ma s = .ok (eP4 e e2' e3 e4 p) s1) (h2 : mb s1 = .ok (eI 1) s2) : LW.e2 gIx ma mb s = .ok (e2' p.2.1) s2 := j_e2o h1 h2 rfl rfl rfl
theorem j_p4_2 {p : α × β × γ × δ} (h1 : ma s = .ok (eP4 e e2' e3 e4 p) s1) (h2 : mb s1 = .ok (eI 2) s2) : LW.e2 gIx ma mb s = .ok (e3 p.2.2.1) s2 := j_e2o h1 h2 rfl rfl rfl
theorem j_p4_3 {p : α × β × γ × δ} (h1 : ma s = .ok (eP4 e e2' e3 e4 p) s1) (h2 : mb s1 = .ok (eI 3) s2) : LW.e2 gIx ma mb s = .ok (e4 p.2.2.2) s2 := j_e2o h1 h2 rfl rfl rfl
/-! slices -/
theorem j_pI (h : ma s = .ok (eI a) s1) : pI ma s = .ok (some a) s1 := by unfold pI bnd; rw [h]; rfl
theorem r_slL {ml mh : M (Option Int)} {lo hi : Option Int} {xs : List α} (h1 : ma s = .ok x s1) (h2 : ml s1 = .ok lo s2) (h3 : mh s2 = .ok hi s3) (hx : drf s3.sto x = eL e xs) : rSlc ma ml mh s = .ok (.c (cL e (cutL xs lo hi))) s3 := by
  unfold rSlc bnd
  rw [h1]
  simp only [h2, h3, hx, eL, cutD, List.length_map, cL, cutL, List.map_take, List.map_drop]
theorem r_slV {ml mh : M (Option Int)} {lo hi : Option Int} {xs : List α} (h1 : ma s = .ok x s1) (h2 : ml s1 = .ok lo s2) (h3 : mh s2 = .ok hi s3) (hx : drf s3.sto x = eV e xs) : rSlc ma ml mh s = .ok (.d (eV e (cutL xs lo hi))) s3 := by
  unfold rSlc bnd
  rw [h1]
  simp only [h2, h3, hx, eV, cutD, List.length_map, cutL, List.map_take, List.map_drop]
theorem r_sl3_2 {ml mh : M (Option Int)} {p : α × β × γ} (h1 : ma s = .ok (eP3 e e2' e3 p) s1) (h2 : ml s1 = .ok none s2) (h3 : mh s2 = .ok (some 2) s3) : rSlc ma ml mh s = .ok (.d (eP2 e e2' (p.1, p.2.1))) s3 := by
  unfold rSlc bnd
  rw [h1]
  simp only [h2, h3]
  rfl
theorem r_rev {xs : List α} (h1 : ma s = .ok x s1) (hx : drf s1.sto x = eL e xs) : rRev ma s = .ok (.c (cL e xs.reverse)) s1 := by
  unfold rRev bnd
  rw [h1]
  simp only [hx, eL, cL, List.map_reverse]
/-! what is gone through -/
theorem i_seqL {xs : List α} (h : ma s = .ok (eL e xs) s1) : iSeq ma s = .ok (xs.map e) s1 := by unfold iSeq bnd; rw [h]; rfl
theorem i_seqV {xs : List α} (h : ma s = .ok (eV e xs) s1) : iSeq ma s = .ok (xs.map e) s1 := by unfold iSeq bnd; rw [h]; rfl
theorem i_rng1 {ns : List Int} (h : ma s = .ok (eI a) s1) (hq : rngQ 0 a = some ns) : iR1 (eCons ma (ret [])) s = .ok (ns.map eI) s1 := by
  unfold rngQ at hq
  split at hq
  · rename_i q
    cases hq
    unfold iR1 bnd
    rw [j_cons h j_ret]
    simp only [eI]
    rw [if_pos (by omega)]
    simp only [ret, rngD, rngI, List.map_map, Int.sub_zero]
    rfl
  · cases hq
theorem i_rng2 {ns : List Int} (h : ma s = .ok (eI a) s1) (h2 : mb s1 = .ok (eI b) s2) (hq : rngQ a b = some ns) : iR2 (eCons ma (eCons mb (ret []))) s = .ok (ns.map eI) s2 := by
  unfold rngQ at hq
  split at hq
  · rename_i q
    cases hq
    unfold iR2 bnd
    rw [j_cons h (j_cons h2 j_ret)]
    simp only [eI]
    rw [if_pos q]
    simp only [ret, rngD, rngI, List.map_map]
    rfl
  · cases hq
/-! comprehensions -/
theorem compL_P {A : α → List (Option D)} {env0 : List (Option D)} {p : α → Bool} {g : α → β} (ha : ∀ x, asg tg (e x) env0 = some (A x)) (ht : ∀ x, tt ⟨A x, sto⟩ = .ok (p x) ⟨A x, sto⟩) (he : ∀ x, p x = true → te ⟨A x, sto⟩ = .ok (e2' (g x)) ⟨A x, sto⟩) :
    ∀ (xs : List α) (acc : List D), compL tg env0 tt te (xs.map e) acc ⟨env0, sto⟩ = .ok (acc ++ ((xs.filter p).map g).map e2') ⟨env0, sto⟩
  | [], acc => by simp [compL]
  | x :: xs, acc => by
    rw [List.map_cons]
    unfold compL
    simp only [ha x, ht x]
    cases q : p x with
    | true =>
      simp only [he x q]
      rw [compL_P ha ht he xs]
      simp [q]
    | false =>
      simp only
      rw [compL_P ha ht he xs]
      simp [q]
theorem r_compF {A : α → List (Option D)} {xs : List α} {p : α → Bool} {g : α → β} (hi : mi s = .ok (xs.map e) ⟨env, sto⟩) (ha : ∀ x, asg tg (e x) (wipeE env own) = some (A x)) (ht : ∀ x, tt ⟨A x, sto⟩ = .ok (p x) ⟨A x, sto⟩) (he : ∀ x, p x = true → te ⟨A x, sto⟩ = .ok (e2' (g x)) ⟨A x, sto⟩) :
    rLc tg own mi tt te s = .ok (.c (cL e2' ((xs.filter p).map g))) ⟨env, sto⟩ := by
  unfold rLc bnd cItems
  rw [hi]
  simp only
  rw [compL_P ha ht he]
  simp [cL, ret]
theorem r_compM {A : α → List (Option D)} {xs : List α} {g : α → β} (hi : mi s = .ok (xs.map e) ⟨env, sto⟩) (ha : ∀ x, asg tg (e x) (wipeE env own) = some (A x)) (he : ∀ x, te ⟨A x, sto⟩ = .ok (e2' (g x)) ⟨A x, sto⟩) :
    rLc tg own mi (ret true) te s = .ok (.c (cL e2' (xs.map g))) ⟨env, sto⟩ := by
  have := r_compF (tt := ret true) (p := fun _ => true) hi ha (fun _ => rfl) (fun x _ => he x)
  rw [this]
  simp [List.filter_eq_self.mpr]
/-- one turn of a comprehension -/
def CE (tt : M Bool) (te : M D) (s : S) (e : β → D) (st' : List Cell) : Option β → Prop
  | none => ∃ en, tt s = .ok false ⟨en, st'⟩
  | some y => ∃ s1 en, tt s = .ok true s1 ∧ te s1 = .ok (e y) ⟨en, st'⟩
theorem ceE {q1 : Option Bool} {q2 : Option β} {o : Option β} (H : (q1.bind fun c => if c = true then q2.bind fun y => some (some y) else some none) = some o)
    (k1 : ∀ c, q1 = some c → tt ⟨env, sto⟩ = .ok c ⟨env, sto⟩) (k2 : ∀ y, q2 = some y → te ⟨env, sto⟩ = .ok (e2' y) ⟨env, sto⟩) : CE tt te ⟨env, sto⟩ e2' sto o := by
  obtain ⟨c, h1, H⟩ := bindI H
  cases c with
  | false => cases H; exact ⟨_, k1 _ h1⟩
  | true =>
    obtain ⟨y, h2, H⟩ := bindI H
    cases H
    exact ⟨_, _, k1 _ h1, k2 _ h2⟩
/-- .. without a condition -/
theorem ceM {q2 : Option β} {o : Option β} (H : (q2.bind fun y => some (some y)) = some o) (k2 : ∀ y, q2 = some y → te ⟨env, sto⟩ = .ok (e2' y) ⟨env, sto⟩) : CE (ret true) te ⟨env, sto⟩ e2' sto o := by
  obtain ⟨y, h2, H⟩ := bindI H
  cases H
  exact ⟨_, _, rfl, k2 _ h2⟩
theorem compL_Q {A : α → List (Option D)} {env0 : List (Option D)} {f : α → Option (Option β)} (ha : ∀ x, asg tg (e x) env0 = some (A x)) (hb : ∀ x o, f x = some o → CE tt te ⟨A x, sto⟩ e2' sto o) :
    ∀ (xs : List α) (acc : List D) (ys : List β), compQ f xs = some ys → compL tg env0 tt te (xs.map e) acc ⟨env0, sto⟩ = .ok (acc ++ ys.map e2') ⟨env0, sto⟩
  | [], acc, ys, H => by cases H; simp [compL]
  | x :: xs, acc, ys, H => by
    unfold compQ at H
    obtain ⟨o, h1, H⟩ := bindI H
    obtain ⟨r, h2, H⟩ := bindI H
    have c := hb x o h1
    rw [List.map_cons]
    unfold compL
    simp only [ha x]
    cases o with
    | none =>
      obtain ⟨en, c⟩ := c
      cases H
      simp only [c]
      exact compL_Q ha hb xs acc _ h2
    | some y =>
      obtain ⟨s1, en, c1, c2⟩ := c
      cases H
      simp only [c1, c2]
      rw [compL_Q ha hb xs _ _ h2]
      simp
theorem r_compQ {A : α → List (Option D)} {xs : List α} {ys : List β} {f : α → Option (Option β)} (hi : mi s = .ok (xs.map e) ⟨env, sto⟩) (H : compQ f xs = some ys) (ha : ∀ x, asg tg (e x) (wipeE env own) = some (A x)) (hb : ∀ x o, f x = some o → CE tt te ⟨A x, sto⟩ e2' sto o) :
    rLc tg own mi tt te s = .ok (.c (cL e2' ys)) ⟨env, sto⟩ := by
  unfold rLc bnd cItems
  rw [hi]
  simp only
  rw [compL_Q ha hb _ _ _ H]
  simp [cL, ret]
theorem compL_T {τ : Type} {G : τ → List Cell} {A : α → List (Option D)} {env0 : List (Option D)} {f : τ → α → Option (Option β × τ)} (ha : ∀ x, asg tg (e x) env0 = some (A x)) (hb : ∀ T x o, f T x = some o → CE tt te ⟨A x, G T⟩ e2' (G o.2) o.1) :
    ∀ (xs : List α) (acc : List D) (T : τ) (r : List β × τ), compT f xs T = some r → compL tg env0 tt te (xs.map e) acc ⟨env0, G T⟩ = .ok (acc ++ r.1.map e2') ⟨env0, G r.2⟩
  | [], acc, T, r, H => by cases H; simp [compL]
  | x :: xs, acc, T, r, H => by
    unfold compT at H
    obtain ⟨o, h1, H⟩ := bindI H
    obtain ⟨r', h2, H⟩ := bindI H
    have c := hb T x o h1
    obtain ⟨o1, o2⟩ := o
    rw [List.map_cons]
    unfold compL
    simp only [ha x]
    cases o1 with
    | none =>
      obtain ⟨en, c⟩ := c
      cases H
      simp only at c h2
      simp only [c]
      exact compL_T ha hb xs acc _ _ h2
    | some y =>
      obtain ⟨s1, en, c1, c2⟩ := c
      cases H
      simp only at c1 c2 h2
      simp only [c1, c2]
      rw [compL_T ha hb xs _ _ _ h2]
      simp
theorem r_compT {τ : Type} {G : τ → List Cell} {A : α → List (Option D)} {xs : List α} {T : τ} {r : List β × τ} {f : τ → α → Option (Option β × τ)} (hi : mi s = .ok (xs.map e) ⟨env, G T⟩) (H : compT f xs T = some r) (ha : ∀ x, asg tg (e x) (wipeE env own) = some (A x)) (hb : ∀ T x o, f T x = some o → CE tt te ⟨A x, G T⟩ e2' (G o.2) o.1) :
    rLc tg own mi tt te s = .ok (.c (cL e2' r.1)) ⟨env, G r.2⟩ := by
  unfold rLc bnd cItems
  rw [hi]
  simp only
  rw [compL_T ha hb _ _ _ _ H]
  simp [cL, ret]
/-! loops -/
def R0 : Unit → Rx × List Cell := fun _ => (.d .non, [])
theorem w_for {A : σ → α → List (Option D)} {xs : List α} {x0 x1 : σ} {f : σ → α → Option σ} {body : MS} (hi : mi s = .ok (xs.map e) (F x0)) (H : forQ f xs x0 = some x1) (ha : ∀ v x, asg tg (e x) (F v).env = some (A v x)) (hb : ∀ v x v', f v x = some v' → CJ F R0 body ⟨A v x, (F v).sto⟩ (.inl v')) :
    sFor tg mi body s = .nx (F x1) := by
  unfold sFor bndS
  rw [hi]
  simp only
  clear hi
  induction xs generalizing x0 with
  | nil => cases H; rfl
  | cons x xs ih =>
    unfold forQ at H
    obtain ⟨v', h1, H⟩ := bindI H
    rw [List.map_cons]
    unfold sForL
    simp only [ha x0 x]
    have c : body ⟨A x0 x, (F x0).sto⟩ = .nx (F v') := hb x0 x v' h1
    simp only [c]
    exact ih H
theorem w_forR {A : σ → α → List (Option D)} {xs : List α} {x0 : σ} {z : σ ⊕ ρ} {f : σ → α → Option (σ ⊕ ρ)} {body : MS} (hi : mi s = .ok (xs.map e) (F x0)) (H : forR f xs x0 = some z) (ha : ∀ v x, asg tg (e x) (F v).env = some (A v x)) (hb : ∀ v x z, f v x = some z → CJ F R body ⟨A v x, (F v).sto⟩ z) :
    CJ F R (sFor tg mi body) s z := by
  refine cj_eq (m := sForL tg body (xs.map e)) (s := F x0) (by unfold sFor bndS; rw [hi]) ?_
  clear hi
  induction xs generalizing x0 with
  | nil => cases H; exact rfl
  | cons x xs ih =>
    unfold forR at H
    obtain ⟨z', h1, H⟩ := bindI H
    rw [List.map_cons]
    have c := hb x0 x z' h1
    cases z' with
    | inl v' =>
      have c' : body ⟨A x0 x, (F x0).sto⟩ = .nx (F v') := c
      refine cj_eq ?_ (ih H)
      conv => lhs; unfold sForL
      simp only [ha x0 x, c']
    | inr r =>
      cases H
      have c' : RTR body ⟨A x0 x, (F x0).sto⟩ (R r).1 (R r).2 := c
      refine (?_ : RTR _ _ _ _)
      revert c'
      cases (R r).1 with
      | d d => rintro ⟨hc, en, L, q⟩; exact ⟨hc, en, L, by unfold sForL; simp only [ha x0 x, q]⟩
      | x d => rintro ⟨hc, en, L, q⟩; exact ⟨hc, en, L, by unfold sForL; simp only [ha x0 x, q]⟩
      | c c => rintro ⟨hc, hd, en, L, k, q, q2⟩; exact ⟨hc, hd, en, L, k, by unfold sForL; simp only [ha x0 x, q], q2⟩
theorem w_while {x0 x1 : σ} {c : σ → Option Bool} {f : σ → Option σ} {mt : M Bool} {body : MS} (n : Nat) (H : whileQ c f n x0 = some x1) (hc : ∀ v b, c v = some b → mt (F v) = .ok b (F v)) (hb : ∀ v v', f v = some v' → CJ F R0 body (F v) (.inl v')) : sWhile mt body n (F x0) = .nx (F x1) := by
  induction n generalizing x0 with
  | zero => cases H
  | succ n ih =>
    unfold whileQ at H
    obtain ⟨b, h1, H⟩ := bindI H
    unfold sWhile
    rw [hc x0 b h1]
    cases b with
    | false => cases H; rfl
    | true =>
      obtain ⟨v', h2, H⟩ := bindI H
      have c' : body (F x0) = .nx (F v') := hb x0 v' h2
      simp only [c']
      exact ih H
/-! cells that change -/
theorem j_app {j : Nat} {xs zs : List α} {y : α} (ho : mo s = .ok (.loc (base.length + j)) s1) (hc1 : drf s1.sto (.loc (base.length + j)) = eL e xs) (ha : ma s1 = .ok (e y) ⟨env, base ++ L⟩) (hc : L[j]? = some (cL e xs)) (hq : appQ xs y = some zs) (hL : L.set j (cL e zs) = L') :
    eMtL (mUpd gApp) mo (eCons ma (ret [])) s = .ok .non ⟨env, base ++ L'⟩ := by
  unfold appQ at hq
  split at hq
  · rename_i q
    cases hq
    subst hL
    unfold eMtL bnd
    rw [ho]
    simp only
    rw [if_pos (by rw [hc1]; rfl), j_cons ha j_ret]
    simp only [mUpd, sto_get, hc, cL, gApp, List.length_map, if_pos q, opt]
    rw [sto_set]
    simp
  · cases hq
theorem j_ext {j : Nat} {xs ys zs : List α} {y : D} (ho : mo s = .ok (.loc (base.length + j)) s1) (hc1 : drf s1.sto (.loc (base.length + j)) = eL e xs) (ha : ma s1 = .ok y ⟨env, base ++ L⟩) (hy : drf (base ++ L) y = eL e ys) (hc : L[j]? = some (cL e xs)) (hq : catQ xs ys = some zs) (hL : L.set j (cL e zs) = L') :
    eMtL (mUpd gExt) mo (eCons ma (ret [])) s = .ok .non ⟨env, base ++ L'⟩ := by
  unfold catQ at hq
  split at hq
  · rename_i q
    cases hq
    subst hL
    unfold eMtL bnd
    rw [ho]
    simp only
    rw [if_pos (by rw [hc1]; rfl), j_cons ha j_ret]
    simp only [mUpd, sto_get, hc, cL, gExt, hy, eL, List.length_map, if_pos q, opt]
    rw [sto_set]
    simp
  · cases hq
theorem j_pop {j : Nat} {xs zs : List α} {y : α} (ho : mo s = .ok (.loc (base.length + j)) ⟨env, base ++ L⟩) (hc : L[j]? = some (cL e xs)) (hq : popQ xs = some (y, zs)) (hL : L.set j (cL e zs) = L') :
    eMtL0 (mUpd gPop) mo s = .ok (e y) ⟨env, base ++ L'⟩ := by
  unfold popQ at hq
  cases q : xs[xs.length - 1]? with
  | none => rw [q] at hq; cases hq
  | some v =>
    rw [q] at hq
    cases hq
    subst hL
    unfold eMtL0 bnd
    rw [ho]
    simp only
    rw [if_pos (by rw [drLb hc]; rfl)]
    simp only [mUpd, sto_get, hc, cL, gPop, List.length_map, List.getElem?_map, q, Option.map_some, opt]
    rw [sto_set]
    simp
theorem j_popAt {j : Nat} {xs zs : List α} {y : α} (ho : mo s = .ok (.loc (base.length + j)) s1) (hc1 : drf s1.sto (.loc (base.length + j)) = eL e xs) (ha : ma s1 = .ok (eI a) ⟨env, base ++ L⟩) (hc : L[j]? = some (cL e xs)) (hq : popAtQ xs a = some (y, zs)) (hL : L.set j (cL e zs) = L') :
    eMtL (mUpd gPopAt) mo (eCons ma (ret [])) s = .ok (e y) ⟨env, base ++ L'⟩ := by
  unfold popAtQ at hq
  obtain ⟨i, h1, hq⟩ := bindI hq
  cases q : xs[i]? with
  | none => rw [q] at hq; cases hq
  | some v =>
    rw [q] at hq
    cases hq
    subst hL
    unfold eMtL bnd
    rw [ho]
    simp only
    rw [if_pos (by rw [hc1]; rfl), j_cons ha j_ret]
    simp only [mUpd, sto_get, hc, cL, gPopAt, eI, List.length_map, h1, List.getElem?_map, q, Option.map_some, opt]
    rw [sto_set]
    simp [map_eraseIdx]
theorem w_putL {j : Nat} {xs zs : List α} {v : α} (hv : mv s = .ok (e v) s1) (ho : mo s1 = .ok (.loc (base.length + j)) s2) (hi : ma s2 = .ok (eI a) ⟨env, base ++ L⟩) (hc : L[j]? = some (cL e xs)) (hq : setQ xs a v = some zs) (hL : L.set j (cL e zs) = L') :
    sPutL mv mo ma s = .nx ⟨env, base ++ L'⟩ := by
  unfold setQ at hq
  cases q : ixN xs.length a with
  | none => rw [q] at hq; cases hq
  | some k =>
    rw [q] at hq
    cases hq
    subst hL
    unfold sPutL bndS
    rw [hv]
    simp only [ho, hi, eI, sto_get, hc, cL, List.length_map, q]
    rw [sto_set]
    simp
theorem w_putDI {j : Nat} {kvs kvs' : List (Int × α)} {v : α} (hv : mv s = .ok (e v) s1) (ho : mo s1 = .ok (.loc (base.length + j)) s2) (hi : ma s2 = .ok (eI a) ⟨env, base ++ L⟩) (hc : L[j]? = some (cDI e kvs)) (hq : putQ kvs a v = some kvs') (hL : L.set j (cDI e kvs') = L') :
    sPutD mv mo ma s = .nx ⟨env, base ++ L'⟩ := by
  unfold putQ at hq
  split at hq
  · rename_i q
    cases hq
    subst hL
    unfold sPutD bndS
    rw [hv]
    simp only [ho, hi, eI, sto_get, hc, cDI, keyOf, List.length_map, if_pos q]
    rw [sto_set, puK_map (f := fun a => (Sum.inl a : Key)) inlI]
  · cases hq
theorem w_putDT {j : Nat} {kvs kvs' : List ((Int × Int) × α)} {v : α} {p : Int × Int} (hv : mv s = .ok (e v) s1) (ho : mo s1 = .ok (.loc (base.length + j)) s2) (hi : ma s2 = .ok (eP2 eI eI p) ⟨env, base ++ L⟩) (hc : L[j]? = some (cDT e kvs)) (hq : putQ kvs p v = some kvs') (hL : L.set j (cDT e kvs') = L') :
    sPutD mv mo ma s = .nx ⟨env, base ++ L'⟩ := by
  unfold putQ at hq
  split at hq
  · rename_i q
    cases hq
    subst hL
    unfold sPutD bndS
    rw [hv]
    simp only [ho, hi, eP2, eI, sto_get, hc, cDT, keysOf, keyOf, List.length_map, if_pos q]
    rw [sto_set, puK_map (f := fun p : Int × Int => ([Sum.inl p.1, Sum.inl p.2] : List Key)) inlP]
  · cases hq
end

/-! the tape -/
structure TT where
  xs : List Int
  sp : Int
  r : Int
def TT.cell (T : TT) : Cell := .lst [.lst (T.xs.map .int), .int T.sp, .int T.r]
theorem tt_clo (T : TT) : cloC T.cell = true := by
  have : cloA (T.xs.map D.int) = true := cloA_map (fun _ => rfl) _
  simp [TT.cell, cloC, cloA, clo, this]
theorem kept_T {T T' : TT} {rest : List Cell} : Kept (T.cell :: rest) (T'.cell :: rest) := kept_head (tt_clo T')
end LW
namespace LW
open PySem PySem.Spec L2
section
variable {σ ρ α β γ τ : Type} {F : σ → S} {F1 : τ → S} {R : ρ → Rx × List Cell} {m n : MS} {s s1 : S} {z : σ ⊕ ρ} {ma mb : M D} {mr : M (List D)} {te : M D} {tt : M Bool} {env env' : List (Option D)} {sto sto' base L rest : List Cell} {d : D} {e2' : β → D}
def sumQ (z : α ⊕ β) (f : α → Option γ) (g : β → Option γ) : Option γ := match z with
  | .inl a => f a
  | .inr b => g b
@[simp] theorem sumQ_l (a : α) (f : α → Option γ) (g : β → Option γ) : sumQ (.inl a) f g = f a := by cases h : f a <;> exact h
@[simp] theorem sumQ_r (a : β) (f : α → Option γ) (g : β → Option γ) : sumQ (.inr a) f g = g a := by cases h : g a <;> exact h
theorem sumQ_inl {a : α} {f : α → Option γ} {g : β → Option γ} {r : γ} (h : sumQ (.inl a) f g = some r) : f a = some r := h
theorem sumQ_inr {a : β} {f : α → Option γ} {g : β → Option γ} {r : γ} (h : sumQ (.inr a) f g = some r) : g a = some r := h
theorem w_last {x : σ} (h : m s = .nx s1) (hx : F x = s1) : CJ F R m s (.inl x) := by subst hx; exact h
theorem w_seqR {r : ρ} (h : CJ F R m s (.inr r)) : CJ F R (seq m n) s (.inr r) := rtr_seq h
/-- a join -/
theorem w_join {F' : τ → S} {x : τ} (h : CJ F' R0 m s (.inl x)) (k : CJ F R n (F' x) z) : CJ F R (seq m n) s z := w_seq h k
theorem j_callP {f : Fn} {ds : List D} {r : Rs} (h : mr s = .ok ds s1) (hf : ∀ sto, f ds sto = .ok r sto) : rCall f mr s = .ok r s1 := by
  obtain ⟨env, sto⟩ := s1
  exact j_call h (hf _)
theorem j_callT {f : Fn} {ds : List D} {r : Rs} {T T' : TT} (h : mr s = .ok ds ⟨env, (T.cell :: rest) ++ L⟩) (hf : ∀ rest, f ds (T.cell :: rest) = .ok r (T'.cell :: rest)) : rCall f mr s = .ok r ⟨env, (T'.cell :: rest) ++ L⟩ := j_call h (hf _)
theorem ceMT {G : τ → List Cell} {T : τ} {q : Option (β × τ)} {o : Option β × τ} (H : (q.bind fun y => some (some y.1, y.2)) = some o) (k : ∀ y, q = some y → te ⟨env, G T⟩ = .ok (e2' y.1) ⟨env, G y.2⟩) : CE (ret true) te ⟨env, G T⟩ e2' (G o.2) o.1 := by
  obtain ⟨y, h2, H⟩ := bindI H
  cases H
  exact ⟨_, _, rfl, k _ h2⟩
theorem asg2 {i j : Nat} {a b : D} : asg (.tp [i, j]) (.tup [a, b]) env = some ((env.set i (some a)).set j (some b)) := by simp [asg, setAll]
theorem asg3 {i j k : Nat} {a b c : D} : asg (.tp [i, j, k]) (.tup [a, b, c]) env = some (((env.set i (some a)).set j (some b)).set k (some c)) := by simp [asg, setAll]
theorem asg4 {i j k l : Nat} {a b c d : D} : asg (.tp [i, j, k, l]) (.tup [a, b, c, d]) env = some ((((env.set i (some a)).set j (some b)).set k (some c)).set l (some d)) := by simp [asg, setAll]
end
end LW
namespace LW
open PySem PySem.Spec L2
section
variable {α : Type} {s s1 : S} {mR : M Rs} {env : List (Option D)} {base L L' : List Cell}
theorem r_eqv {C : α → Cell} {p r : α} (h : mR s = .ok (.c (C p)) s1) (hp : p = r) : mR s = .ok (.c (C r)) s1 := by cases hp; exact h
theorem j_bxB {c : Cell} {j : Nat} (h : mR s = .ok (.c c) ⟨env, base ++ L⟩) (hj : L.length = j) (hL : L ++ [c] = L') : bx mR s = .ok (.loc (base.length + j)) ⟨env, base ++ L'⟩ :=
  j_bx h (by rw [List.length_append, hj]) (by rw [← hL, List.append_assoc])
theorem law_end {N : Nat} {m : MS} {ds : List D} {r : Bool × TT} {F : Unit → S} {R : Bool × TT → Rx × List Cell} (h : CJ F R m ⟨envF N ds, []⟩ (.inr r)) (hR : R r = (.d (eB r.1), [r.2.cell])) : ∃ sto, bodyF N m ds [] = .ok (.d (.bl r.1)) sto := by
  have h' : RTR m ⟨envF N ds, []⟩ (R r).1 (R r).2 := h
  rw [hR] at h'
  obtain ⟨_, env, L, q⟩ := h'
  exact ⟨_, body_rt q⟩
theorem fn_true {fn : Fn} {ds : List D} {sto : List Cell} {b : Bool} (h : ∃ sto', fn ds sto = .ok (.d (.bl b)) sto') (hb : b = true) : ∃ sto', fn ds sto = .ok (.d (.bl true)) sto' := by subst hb; exact h
end
end LW
namespace LW
open PySem PySem.Spec L2
section
variable {s s1 : S} {ma mb mv mo : M D} {env : List (Option D)} {rest L : List Cell} {T : TT} {v : Int}
theorem tt_dr : drf ((T.cell :: rest) ++ L) (.loc 0) = .lst [eL eI T.xs, eI T.sp, eI T.r] := rfl
theorem j_t0 (h : ma s = .ok (.loc 0) s1) (h2 : mb s1 = .ok (eI 0) ⟨env, (T.cell :: rest) ++ L⟩) : LW.e2 gIx ma mb s = .ok (eL eI T.xs) ⟨env, (T.cell :: rest) ++ L⟩ := j_e2o h h2 tt_dr rfl rfl
theorem j_t1 (h : ma s = .ok (.loc 0) s1) (h2 : mb s1 = .ok (eI 1) ⟨env, (T.cell :: rest) ++ L⟩) : LW.e2 gIx ma mb s = .ok (eI T.sp) ⟨env, (T.cell :: rest) ++ L⟩ := j_e2o h h2 tt_dr rfl rfl
theorem j_t2 (h : ma s = .ok (.loc 0) s1) (h2 : mb s1 = .ok (eI 2) ⟨env, (T.cell :: rest) ++ L⟩) : LW.e2 gIx ma mb s = .ok (eI T.r) ⟨env, (T.cell :: rest) ++ L⟩ := j_e2o h h2 tt_dr rfl rfl
theorem w_tput1 (hv : mv s = .ok (eI v) s1) {s2 : S} (ho : mo s1 = .ok (.loc 0) s2) (hi : ma s2 = .ok (eI 1) ⟨env, (T.cell :: rest) ++ L⟩) : sPutL mv mo ma s = .nx ⟨env, ((⟨T.xs, v, T.r⟩ : TT).cell :: rest) ++ L⟩ := by
  unfold sPutL bndS
  rw [hv]
  simp only [ho, hi]
  rfl
theorem w_tput2 (hv : mv s = .ok (eI v) s1) {s2 : S} (ho : mo s1 = .ok (.loc 0) s2) (hi : ma s2 = .ok (eI 2) ⟨env, (T.cell :: rest) ++ L⟩) : sPutL mv mo ma s = .nx ⟨env, ((⟨T.xs, T.sp, v⟩ : TT).cell :: rest) ++ L⟩ := by
  unfold sPutL bndS
  rw [hv]
  simp only [ho, hi]
  rfl
theorem r_scr {ml mh : M (Option Int)} {ns : List Int} {k : Int} {s2 s3 : S} (h1 : ma s = .ok (.scr ns) s1) (h2 : ml s1 = .ok none s2) (h3 : mh s2 = .ok (some k) s3) : rSlc ma ml mh s = .ok (.c (cL eI (cutL ns none (some k)))) s3 := by
  unfold rSlc bnd
  rw [h1]
  simp only [h2, h3]
  show Out.ok (Rs.c (.lst (cutD (ns.map D.int) none (some k)))) s3 = _
  simp only [cutD, List.length_map, cL, cutL, List.map_take, List.map_drop]
  rfl
end
end LW
namespace LW
open PySem PySem.Spec L2
open PyProof.Rows (envOfC)

section
variable {α β σ ρ : Type} {e : α → D} {e2' : β → D} {F : σ → S} {R : ρ → Rx × List Cell} {m : MS} {s s1 s2 s3 : S} {z : σ ⊕ ρ} {ma mb mo mv : M D} {mi : M (List D)} {tt : M Bool} {te : M D} {tg : Tg} {own vs : List Nat} {env env' : List (Option D)} {base base0 base1 L0 L1 Lf : List Cell} {a b n : Int} {i k : Nat} {x : D}
theorem r_dK : ret (Rs.c (.dK [] [])) s = .ok (.c (cDI e [])) s := rfl
theorem r_dT : ret (Rs.c (.dT [] [])) s = .ok (.c (cDT e [])) s := rfl
theorem r_lrg1 {ns : List Int} (h : ma s = .ok (eI a) s1) (hq : rngQ 0 a = some ns) : rRg1 ma s = .ok (.c (cL eI ns)) s1 := by
  unfold rngQ at hq
  split at hq
  · rename_i q
    cases hq
    unfold rRg1 bnd
    rw [h]
    simp only [eI, mkRg, if_pos q, cL, rngD, rngI, List.map_map]
    rfl
  · cases hq
theorem r_lrg2 {ns : List Int} (h : ma s = .ok (eI a) s1) (h2 : mb s1 = .ok (eI b) s2) (hq : rngQ a b = some ns) : rRg2 ma mb s = .ok (.c (cL eI ns)) s2 := by
  unfold rngQ at hq
  split at hq
  · rename_i q
    cases hq
    unfold rRg2 bnd
    rw [h]
    simp only [h2, eI, mkRg, if_pos q, cL, rngD, rngI, List.map_map]
    rfl
  · cases hq
theorem getD_map {o : Option α} : (o.map e).getD .non = eO e o := by cases o <;> rfl
theorem j_getDI {kvs : List (Int × α)} (h1 : mo s = .ok x s1) (hx1 : drf s1.sto x = eDI e kvs) (h2 : ma s1 = .ok (eI a) s2) (hx : drf s2.sto x = eDI e kvs) : eGet mo ma s = .ok (eO e (luQ kvs a)) s2 := by
  unfold eGet bnd
  rw [h1]
  simp only
  rw [if_pos (by rw [hx1]; rfl), h2]
  simp only [pu, List.map_cons, List.map_nil, hx]
  show opt (α := D) (Option.map (fun d => (d, s2)) (some ((luK (kvs.map fun p => (Sum.inl p.1 : Key)) (kvs.map fun p => e p.2) (Sum.inl a)).getD .non))) = _
  rw [luK_map (f := fun a => (Sum.inl a : Key)) inlI, getD_map]
  rfl
theorem j_getDT {kvs : List ((Int × Int) × α)} {p : Int × Int} (h1 : mo s = .ok x s1) (hx1 : drf s1.sto x = eDT e kvs) (h2 : ma s1 = .ok (eP2 eI eI p) s2) (hx : drf s2.sto x = eDT e kvs) : eGet mo ma s = .ok (eO e (luQ kvs p)) s2 := by
  unfold eGet bnd
  rw [h1]
  simp only
  rw [if_pos (by rw [hx1]; rfl), h2]
  simp only [pu, List.map_cons, List.map_nil, hx]
  show opt (α := D) (Option.map (fun d => (d, s2)) (some ((luK (kvs.map fun p => ([Sum.inl p.1.1, Sum.inl p.1.2] : List Key)) (kvs.map fun p => e p.2) [Sum.inl p.1, Sum.inl p.2]).getD .non))) = _
  rw [luK_map (f := fun p : Int × Int => ([Sum.inl p.1, Sum.inl p.2] : List Key)) inlP, getD_map]
  rfl
/-! new cells of a turn are let go -/
def cloL (L : List Cell) : Prop := ∀ c ∈ L, cloC c = true
theorem cloL_nil : cloL [] := fun _ h => by cases h
theorem cloL_cons {c : Cell} {L : List Cell} (h : cloC c = true) (t : cloL L) : cloL (c :: L) := fun x hx => by
  rcases List.mem_cons.mp hx with rfl | hx
  · exact h
  · exact t _ hx
theorem cloL_app {L L' : List Cell} (h : cloL L) (t : cloL L') : cloL (L ++ L') := fun x hx => by
  rcases List.mem_append.mp hx with hx | hx
  · exact h _ hx
  · exact t _ hx
theorem cloL_map [h : EncOk e] {rows : List (List α)} : cloL (rows.map (cL e)) := fun x hx => by
  obtain ⟨r, _, rfl⟩ := List.mem_map.mp hx
  exact cloC_L
theorem cloC_dead : cloC .dead = true := rfl
def BelE (n : Nat) (env : List (Option D)) : Prop := ∀ d, some d ∈ env → bel n d = true
theorem be_nil {n : Nat} : BelE n [] := fun _ h => by cases h
theorem be_n {n : Nat} {env : List (Option D)} (t : BelE n env) : BelE n (none :: env) := fun d h => by
  rcases List.mem_cons.mp h with h | h
  · cases h
  · exact t _ h
theorem be_c {n : Nat} {d : D} {env : List (Option D)} (h : clo d = true) (t : BelE n env) : BelE n (some d :: env) := fun x hx => by
  rcases List.mem_cons.mp hx with hx | hx
  · cases hx; exact clo_bel n d h
  · exact t _ hx
theorem be_l {n j : Nat} {env : List (Option D)} (h : j < n) (t : BelE n env) : BelE n (some (.loc j) :: env) := fun x hx => by
  rcases List.mem_cons.mp hx with hx | hx
  · cases hx; simpa [bel] using h
  · exact t _ hx
theorem w_cut (h : CJ F R (seq m (sCutN s.sto vs)) s z) : CJ F R (cutS vs m) s z := cj_eq rfl h
theorem w_cutN {x : σ} (hk : Kept base0 base1) (hl : L0.length ≤ L1.length) (hc : cloL (L1.take L0.length)) (he : BelE (base0 ++ L0).length (wipeE env vs)) (hF : F x = ⟨wipeE env vs, base1 ++ L1.take L0.length⟩) : CJ F R (sCutN (base0 ++ L0) vs) ⟨env, base1 ++ L1⟩ (.inl x) := by
  have hb := hk.1
  have c : CutOk (base0 ++ L0) (base1 ++ L1) := by
    refine ⟨by simp; omega, fun j c hj e => ?_⟩
    by_cases h : j < base0.length
    · rw [List.getElem?_append_left (by omega)] at e
      rw [List.getElem?_append_left h]
      rcases hk.2 j c e with z | z
      · exact .inl z
      · exact .inr (cloC_bel _ z)
    · rw [List.getElem?_append_right (by omega)] at e
      rw [List.length_append] at hj
      refine .inr (cloC_bel _ (hc c ?_))
      have : (L1.take L0.length)[j - base1.length]? = some c := by
        rw [List.getElem?_take_of_lt (by omega)]; exact e
      exact List.mem_of_getElem? this
  show sCutN (base0 ++ L0) vs ⟨env, base1 ++ L1⟩ = .nx (F x)
  unfold sCutN
  rw [if_pos ⟨c, he⟩, hF]
  congr 2
  show List.take (base0 ++ L0).length (base1 ++ L1) = _
  rw [List.length_append, ← hb, List.take_length_add_append]
/-! rows that change -/
def locs (b n : Nat) : List D := (List.range n).map fun r => .loc (b + r)
theorem locs_get {b n r : Nat} (h : r < n) : (locs b n)[r]? = some (.loc (b + r)) := by simp [locs, h]
theorem be_m {N b n : Nat} {env : List (Option D)} (h : b + n ≤ N) (t : BelE N env) : BelE N (some (.lst (locs b n)) :: env) := fun x hx => by
  rcases List.mem_cons.mp hx with hx | hx
  · cases hx
    have key : ∀ l : List Nat, (∀ r ∈ l, r < n) → belA N (l.map fun r => D.loc (b + r)) = true := by
      intro l
      induction l with
      | nil => exact fun _ => rfl
      | cons r l ih =>
        intro hl
        have h1 := hl r List.mem_cons_self
        simp only [List.map_cons, belA, bel, ih fun r hr => hl r (List.mem_cons_of_mem _ hr), Bool.and_true, decide_eq_true_eq]
        omega
    exact key _ fun r hr => by simpa using hr
  · exact t _ hx
theorem sto_m {rows : List (List α)} {r : Nat} (hk : Lf.length = k) : (base ++ (Lf ++ rows.map (cL e)))[base.length + k + r]? = (rows[r]?).map (cL e) := by
  rw [Nat.add_assoc, sto_get, List.getElem?_append_right (by omega), List.getElem?_map]
  congr 2; omega
theorem set_m {rows : List (List α)} {r : Nat} {row : List α} (hk : Lf.length = k) : (base ++ (Lf ++ rows.map (cL e))).set (base.length + k + r) (cL e row) = base ++ (Lf ++ (rows.set r row).map (cL e)) := by
  rw [Nat.add_assoc, sto_set]
  congr 1
  rw [List.set_append]
  split
  · omega
  · congr 1
    rw [show k + r - Lf.length = r by omega, List.map_set]
def rowN (rows : List (List α)) (a : Int) : Nat := (ixN rows.length a).getD 0
theorem row_of {rows : List (List α)} {row : List α} (h : ixQ rows a = some row) : ixN rows.length a = some (rowN rows a) ∧ rows[rowN rows a]? = some row ∧ rowN rows a < rows.length := by
  unfold ixQ atI at h
  unfold rowN
  cases q : ixN rows.length a with
  | none => rw [q] at h; cases h
  | some r =>
    rw [q] at h
    have h' : rows[r]? = some row := h
    exact ⟨rfl, h', (List.getElem?_eq_some_iff.mp h').1⟩
theorem drm {rows : List (List α)} {r : Nat} {row : List α} (hk : Lf.length = k) (h : rows[r]? = some row) : drf (base ++ (Lf ++ rows.map (cL e))) (.loc (base.length + k + r)) = eL e row := drL (by rw [sto_m hk, h]; rfl)
theorem drmx {rows : List (List α)} {row : List α} (hk : Lf.length = k) (h : ixQ rows a = some row) : drf (base ++ (Lf ++ rows.map (cL e))) (.loc (base.length + k + rowN rows a)) = eL e row := drm hk (row_of h).2.1
theorem j_ixm {b : Nat} {rows : List (List α)} {row : List α} (h1 : ma s = .ok (.lst (locs b rows.length)) s1) (h2 : mb s1 = .ok (eI a) s2) (hq : ixQ rows a = some row) : LW.e2 gIx ma mb s = .ok (.loc (b + rowN rows a)) s2 := by
  obtain ⟨g1, g2, g3⟩ := row_of hq
  refine j_e2o (d1 := .lst (locs b rows.length)) (d2 := eI a) h1 h2 rfl rfl ?_
  show Option.or (atI (locs b rows.length) a) _ = _
  have : atI (locs b rows.length) a = some (.loc (b + rowN rows a)) := by
    unfold atI
    rw [show (locs b rows.length).length = rows.length by simp [locs], g1]
    exact locs_get g3
  rw [this]
  rfl
def set2Q (rows : List (List α)) (a b : Int) (v : α) : Option (List (List α)) := (ixQ rows a).bind fun row => (setQ row b v).map fun row' => rows.set (rowN rows a) row'
def app2Q (rows : List (List α)) (a : Int) (v : α) : Option (List (List α)) := (ixQ rows a).bind fun row => (appQ row v).map fun row' => rows.set (rowN rows a) row'
theorem w_putm {rows rows' : List (List α)} {row : List α} {v : α} (hk : Lf.length = k) (hv : mv s = .ok (e v) s1) (ho : mo s1 = .ok (.loc (base.length + k + rowN rows a)) s2) (hi : ma s2 = .ok (eI b) ⟨env, base ++ (Lf ++ rows.map (cL e))⟩)
    (hr : ixQ rows a = some row) (hq : set2Q rows a b v = some rows') (he : rows'.length = rows.length → env = env') : sPutL mv mo ma s = .nx ⟨env', base ++ (Lf ++ rows'.map (cL e))⟩ := by
  unfold set2Q at hq
  rw [hr] at hq
  simp only [Option.bind_some] at hq
  cases q : setQ row b v with
  | none => rw [q] at hq; cases hq
  | some row' =>
    rw [q] at hq
    cases hq
    rw [← he (by simp)]
    unfold setQ at q
    cases q2 : ixN row.length b with
    | none => rw [q2] at q; cases q
    | some j =>
      rw [q2] at q
      cases q
      obtain ⟨_, g2, _⟩ := row_of hr
      unfold sPutL bndS
      rw [hv]
      simp only [ho, hi, eI, sto_m hk, g2, Option.map_some, cL, List.length_map, q2]
      have := set_m (e := e) (base := base) (rows := rows) (r := rowN rows a) (row := row.set j v) hk
      simp only [cL, List.map_set] at this
      rw [this, List.map_set]
      simp only [cL, List.map_set]
theorem j_appm {rows rows' : List (List α)} {row : List α} {v : α} (hk : Lf.length = k) (ho : mo s = .ok (.loc (base.length + k + rowN rows a)) s1) (hc1 : drf s1.sto (.loc (base.length + k + rowN rows a)) = eL e row) (ha : ma s1 = .ok (e v) ⟨env, base ++ (Lf ++ rows.map (cL e))⟩)
    (hr : ixQ rows a = some row) (hq : app2Q rows a v = some rows') (he : rows'.length = rows.length → env = env') : eMtL (mUpd gApp) mo (eCons ma (ret [])) s = .ok .non ⟨env', base ++ (Lf ++ rows'.map (cL e))⟩ := by
  unfold app2Q at hq
  rw [hr] at hq
  simp only [Option.bind_some] at hq
  unfold appQ at hq
  split at hq
  · rename_i q
    cases hq
    rw [← he (by simp)]
    obtain ⟨_, g2, _⟩ := row_of hr
    unfold eMtL bnd
    rw [ho]
    simp only
    rw [if_pos (by rw [hc1]; rfl), j_cons ha j_ret]
    simp only [mUpd, sto_m hk, g2, Option.map_some, cL, gApp, List.length_map, if_pos q, opt]
    have := set_m (e := e) (base := base) (rows := rows) (r := rowN rows a) (row := row ++ [v]) hk
    simp only [cL, List.map_append, List.map_cons, List.map_nil] at this
    rw [this]
  · cases hq
/-- new rows -/
theorem compL_2 {A : β → List (Option D)} {env0 : List (Option D)} {te0 : M Rs} {f : β → Option (List α)} (ha : ∀ x, asg tg (e2' x) env0 = some (A x)) (hb : ∀ x row st, f x = some row → te0 ⟨A x, st⟩ = .ok (.c (cL e row)) ⟨A x, st⟩) :
    ∀ (xs : List β) (b : Nat) (st : List Cell) (rows0 rows : List (List α)), compQ (fun x => (f x).bind fun y => some (some y)) xs = some rows → st.length = b + rows0.length →
      compL tg env0 (ret true) (bx te0) (xs.map e2') (locs b rows0.length) ⟨env0, st⟩ = .ok (locs b (rows0.length + rows.length)) ⟨env0, st ++ rows.map (cL e)⟩
  | [], b, st, rows0, rows, H, _ => by cases H; simp [compL]
  | x :: xs, b, st, rows0, rows, H, hl => by
    unfold compQ at H
    obtain ⟨o, h1, H⟩ := bindI H
    obtain ⟨r, h2, H⟩ := bindI H
    obtain ⟨y, h3, h4⟩ := bindI h1
    cases h4
    cases H
    rw [List.map_cons]
    unfold compL
    simp only [ha x, ret]
    rw [j_bx (hb x y st h3) hl rfl]
    simp only
    have el : locs b rows0.length ++ [D.loc (b + rows0.length)] = locs b (rows0 ++ [y]).length := by
      simp [locs, List.range_succ]
    rw [el]
    have := compL_2 ha hb xs b (st ++ [cL e y]) (rows0 ++ [y]) r h2 (by simp; omega)
    rw [this]
    simp [Nat.add_comm, Nat.add_left_comm, Nat.add_assoc]
theorem r_comp2 {A : β → List (Option D)} {xs : List β} {te0 : M Rs} {f : β → Option (List α)} {rows : List (List α)} (hk : Lf.length = k) (hi : mi s = .ok (xs.map e2') ⟨env, base ++ Lf⟩) (H : compQ (fun x => (f x).bind fun y => some (some y)) xs = some rows)
    (ha : ∀ x, asg tg (e2' x) (wipeE env own) = some (A x)) (hb : ∀ x row st, f x = some row → te0 ⟨A x, st⟩ = .ok (.c (cL e row)) ⟨A x, st⟩) :
    rLc tg own mi (ret true) (bx te0) s = .ok (.c (.lst (locs (base.length + k) rows.length))) ⟨env, base ++ (Lf ++ rows.map (cL e))⟩ := by
  unfold rLc bnd cItems
  rw [hi]
  simp only
  have := compL_2 (e := e) ha hb xs (base.length + k) (base ++ Lf) [] rows H (by simp [hk])
  simp only [List.length_nil, Nat.zero_add] at this
  rw [show locs (base.length + k) 0 = [] from rfl] at this
  rw [this]
  simp [ret]
/-- the rows, gone through -/
theorem compL_m {A : D → List (Option D)} {env0 : List (Option D)} {b : Nat} {sto : List Cell} {f : List α → Option (Option β)} {rows : List (List α)} (ha : ∀ d, asg tg d env0 = some (A d)) (hb : ∀ r row o, rows[r]? = some row → f row = some o → CE tt te ⟨A (.loc (b + r)), sto⟩ e2' sto o) :
    ∀ (l : List (List α)) (j : Nat) (acc : List D) (ys : List β), (∀ r, rows[j + r]? = l[r]?) → compQ f l = some ys → compL tg env0 tt te ((List.range l.length).map fun r => D.loc (b + (j + r))) acc ⟨env0, sto⟩ = .ok (acc ++ ys.map e2') ⟨env0, sto⟩
  | [], j, acc, ys, _, H => by cases H; simp [compL]
  | row :: l, j, acc, ys, hl, H => by
    unfold compQ at H
    obtain ⟨o, h1, H⟩ := bindI H
    obtain ⟨r, h2, H⟩ := bindI H
    have c := hb j row o (by simpa using hl 0) h1
    have hl' : ∀ r, rows[j + 1 + r]? = l[r]? := fun r => by
      have := hl (r + 1)
      rw [show j + (r + 1) = j + 1 + r by omega] at this
      simpa using this
    have er : (List.range (row :: l).length).map (fun r => D.loc (b + (j + r))) = D.loc (b + j) :: (List.range l.length).map (fun r => D.loc (b + (j + 1 + r))) := by
      rw [List.length_cons, List.range_succ_eq_map]
      simp only [List.map_cons, List.map_map, Nat.add_zero]
      congr 1
      apply List.map_congr_left
      intro r _
      simp only [Function.comp]
      congr 1
      omega
    rw [er]
    unfold compL
    simp only [ha]
    cases o with
    | none =>
      obtain ⟨en, c⟩ := c
      cases H
      simp only [c]
      exact compL_m ha hb l (j + 1) acc _ hl' h2
    | some y =>
      obtain ⟨s1, en, c1, c2⟩ := c
      cases H
      simp only [c1, c2]
      rw [compL_m ha hb l (j + 1) _ _ hl' h2]
      simp
theorem r_compm {A : D → List (Option D)} {rows : List (List α)} {ys : List β} {sto : List Cell} {b : Nat} {f : List α → Option (Option β)} (hi : ma s = .ok (.lst (locs b rows.length)) ⟨env, sto⟩) (H : compQ f rows = some ys) (ha : ∀ d, asg tg d (wipeE env own) = some (A d))
    (hb : ∀ r row o, rows[r]? = some row → f row = some o → CE tt te ⟨A (.loc (b + r)), sto⟩ e2' sto o) : rLc tg own (iSeq ma) tt te s = .ok (.c (cL e2' ys)) ⟨env, sto⟩ := by
  have h1 : iSeq ma s = .ok (locs b rows.length) ⟨env, sto⟩ := by unfold iSeq bnd; rw [hi]; rfl
  unfold rLc bnd cItems
  rw [h1]
  simp only
  have := compL_m ha hb rows 0 [] ys (fun r => by simp) H
  simp only [Nat.zero_add] at this
  unfold locs
  rw [this]
  simp [cL, ret]
theorem frzAll_rows : ∀ (rows : List (List α)) (pre post : List Cell), frzAll (locs pre.length rows.length) (pre ++ rows.map (cL e) ++ post) = some (rows.map (eL e), pre ++ List.replicate rows.length .dead ++ post)
  | [], pre, post => by simp [locs, frzAll]
  | row :: l, pre, post => by
    have er : locs pre.length (row :: l).length = D.loc pre.length :: locs (pre ++ [Cell.dead]).length l.length := by
      unfold locs
      rw [List.length_cons, List.range_succ_eq_map]
      simp only [List.map_cons, List.map_map, Nat.add_zero, List.length_append, List.length_singleton]
      congr 1
      apply List.map_congr_left
      intro r _
      simp only [Function.comp]
      congr 1
      omega
    rw [er]
    unfold frzAll
    have g : (pre ++ (row :: l).map (cL e) ++ post)[pre.length]? = some (cL e row) := by
      rw [List.append_assoc, List.getElem?_append_right (Nat.le_refl _)]
      simp
    rw [g]
    have g2 : (pre ++ (row :: l).map (cL e) ++ post).set pre.length .dead = (pre ++ [Cell.dead]) ++ l.map (cL e) ++ post := by
      rw [List.append_assoc, List.set_append, if_neg (by omega), Nat.sub_self]
      simp
    have hf : frz (cL e row) = some (eL e row) := rfl
    simp only [hf]
    rw [g2, frzAll_rows l (pre ++ [Cell.dead]) post]
    simp [eL, List.replicate_succ]
theorem w_frzm {rows : List (List α)} (hk : Lf.length = k) (h : env[i]? = some (some (.lst (locs (base.length + k) rows.length)))) (he : env.set i (some (eL (eL e) rows)) = env') :
    sFrzR i ⟨env, base ++ (Lf ++ rows.map (cL e))⟩ = .nx ⟨env', base ++ (Lf ++ List.replicate rows.length .dead)⟩ := by
  have := frzAll_rows (e := e) rows (base ++ Lf) []
  simp only [List.append_nil, List.append_assoc, List.length_append, hk] at this
  unfold sFrzR
  simp only [h, this]
  rw [← he]
  rfl
end
theorem r_conv {α : Type} {s s1 : S} {mR : M Rs} {C : α → Cell} {p r : α} (h : mR s = .ok (.c (C p)) s1) (hp : some p = some r) : mR s = .ok (.c (C r)) s1 := by cases hp; exact h
def keyP (p : Int × Int) : List Key := [.inl p.1, .inl p.2]
theorem r_sortedDT {α : Type} {e : α → D} {s s1 : S} {ma : M D} {x : D} {kvs : List ((Int × Int) × α)} {zs : List (Int × Int)} (h : ma s = .ok x s1) (hx : drf s1.sto x = eDT e kvs) (hq : sortedQ (eP2 eI eI) (kvs.map fun p => p.1) = some zs) : rN (puR gSortDT) (eCons ma (ret [])) s = .ok (.c (cL (eP2 eI eI) zs)) s1 := j_rN1 h hx (by
  unfold sortedQ at hq
  have e1 : (kvs.map fun p => ([Sum.inl p.1.1, Sum.inl p.1.2] : List Key)) = (kvs.map fun p => p.1).map keyP := by rw [List.map_map]; rfl
  have e2 : ((kvs.map fun p => p.1).map keyP).map keyD = (kvs.map fun p => p.1).map (eP2 eI eI) := by rw [List.map_map]; rfl
  show (if okSrt ((kvs.map fun p => ([Sum.inl p.1.1, Sum.inl p.1.2] : List Key)).map keyD) = true then some (Rs.c (Cell.lst (((kvs.map fun p => ([Sum.inl p.1.1, Sum.inl p.1.2] : List Key)).mergeSort fun a b => leD (keyD a) (keyD b)).map keyD))) else none) = _
  rw [e1, e2]
  split at hq
  · rename_i q
    cases hq
    rw [if_pos q]
    unfold cL
    rw [← List.map_mergeSort (r := fun a b => leD (eP2 eI eI a) (eP2 eI eI b)) (f := keyP) (fun a _ b _ => rfl), List.map_map]
    rfl
  · cases hq)
theorem r_disp1 {α : Type} {e : α → D} {s s1 s2 : S} {mk mv : M D} {i : Int} {v : α} (h1 : mk s = .ok (eI i) s1) (h2 : mv s1 = .ok (e v) s2) : rDisp1 mk mv s = .ok (.c (cDI e [(i, v)])) s2 := by
  unfold rDisp1 bnd
  rw [h1]
  simp only [h2]
  rfl
end LW
namespace LW
open PySem PySem.Spec L2
open PyProof.Rows (envOfC)
section
variable {α : Type} {e : α → D} {s s1 s2 : S} {ma mb mc : M D} {x d : D} {a b c : Int}
/-! isinstance of what has a type -/
theorem j_isi {T t : String} {k : Bool} (h : ma s = .ok d s1) (ht : tyD (drf s1.sto d) = some t) (hk : kitB t T = some k) : eIsi T ma s = .ok (eB k) s1 := by
  unfold eIsi bnd
  rw [h]
  simp only [ht, hk]
  rfl
theorem tyD_O [EncOk e] {o : Option α} {st : List Cell} {t : String} (h : ∀ v, tyD (drf st (e v)) = some t) : tyD (drf st (eO e o)) = some (if o.isSome = true then t else "NoneType") := by
  cases o with
  | none => rfl
  | some v => exact h v
theorem j_isiO [EncOk e] {T t : String} {o : Option α} (h : ma s = .ok (eO e o) s1) (ht : ∀ v, tyD (drf s1.sto (e v)) = some t) (hk : kitB t T = some false) (hn : kitB "NoneType" T = some false) : eIsi T ma s = .ok (eB false) s1 := by
  refine j_isi h (tyD_O ht) ?_
  cases o with
  | none => exact hn
  | some v => exact hk
theorem j_isiO1 [EncOk e] {T t : String} {o : Option α} (h : ma s = .ok (eO e o) s1) (ht : ∀ v, tyD (drf s1.sto (e v)) = some t) (hk : kitB t T = some true) (hn : kitB "NoneType" T = some false) : eIsi T ma s = .ok (eB o.isSome) s1 := by
  refine j_isi h (tyD_O ht) ?_
  cases o with
  | none => exact hn
  | some v => exact hk
/-! chains of ints -/
theorem j_chainI {g g' : List Cell → List D → Option D} {f f' : Int → Int → Bool} (h1 : ma s = .ok (eI a) s1) (h2 : mb s1 = .ok (eI b) s2) (h3 : mc s2 = .ok (eI c) s2) (hg : ∀ st a b, g st [eI a, eI b] = some (.bl (f a b))) (hg' : ∀ st a b, g' st [eI a, eI b] = some (.bl (f' a b))) :
    eChain (pu g) (pu g') ma mb mc s = .ok (eB (f a b && f' b c)) s2 := by
  have e1 : pu g s2 [eI a, eI b] = some (.bl (f a b), s2) := by
    unfold pu
    rw [show [eI a, eI b].map (drf s2.sto) = [eI a, eI b] from rfl, hg]
    rfl
  have e2 : pu g' s2 [eI b, eI c] = some (.bl (f' b c), s2) := by
    unfold pu
    rw [show [eI b, eI c].map (drf s2.sto) = [eI b, eI c] from rfl, hg']
    rfl
  unfold eChain bnd
  simp only [h1, h2, e1, opt]
  cases f a b with
  | false => rfl
  | true =>
    simp only [h3, e2, Bool.true_and]
    rfl
theorem j_isnBt {b c : Bool} (h1 : ma s = .ok (eB b) s1) (h2 : mb s1 = .ok (eB c) s2) : e2 (pu gIsNot) ma mb s = .ok (eB (!decide (b = c))) s2 := j_e2 h1 h2 rfl rfl rfl
/-! sorted by unlike first ints -/
def sortedFQ (f : α → Int) (xs : List α) : Option (List α) := if (xs.map f).Nodup then some (xs.mergeSort fun a b => decide (f a ≤ f b)) else none
theorem r_sortedF {f : α → Int} {xs zs : List α} (h : ma s = .ok x s1) (hx : drf s1.sto x = eL e xs) (he : ∀ v, fstI (e v) = some (f v)) (hq : sortedFQ f xs = some zs) : rN (puR gSortedF) (eCons ma (ret [])) s = .ok (.c (cL e zs)) s1 := j_rN1 h hx (by
  unfold sortedFQ at hq
  split at hq
  · rename_i q
    cases hq
    have e1 : okFst (xs.map e) = true := by
      unfold okFst
      simp only [List.all_map, Bool.and_eq_true, List.all_eq_true, Function.comp, he, decide_eq_true_eq, List.map_map]
      refine ⟨fun _ _ => rfl, ?_⟩
      have : (fun d => (fstI d).getD 0) ∘ e = f := by funext v; simp [he]
      rw [this]
      exact q
    show (if okFst (xs.map e) = true then some (Rs.c (Cell.lst ((xs.map e).mergeSort leF))) else none) = _
    rw [if_pos e1]
    unfold cL
    rw [List.map_mergeSort (s := leF) (fun a _ b _ => by unfold leF; rw [he, he]; rfl)]
  · cases hq)
/-! len of a tuple of known length -/
theorem j_lenP {ds : List D} (h : ma s = .ok (.tup ds) s1) : LW.eN (pu gLen) (eCons ma (ret [])) s = .ok (eI (ds.length : Int)) s1 := j_eN1 (j_cons h j_ret) rfl rfl

theorem r_sortedT {xs zs : List α} (h : ma s = .ok x s1) (hx : drf s1.sto x = eV e xs) (hq : sortedQ e xs = some zs) : rN (puR gSortedT) (eCons ma (ret [])) s = .ok (.c (cL e zs)) s1 := j_rN1 h hx (by
  unfold sortedQ at hq
  split at hq
  · rename_i q
    cases hq
    show (if okSrt (xs.map e) = true then some (Rs.c (Cell.lst ((xs.map e).mergeSort leD))) else none) = _
    rw [if_pos q]
    unfold cL
    rw [List.map_mergeSort (s := leD) (fun a _ b _ => rfl)]
  · cases hq)
theorem ceET {β τ : Type} {e2' : β → D} {env : List (Option D)} {tt : M Bool} {te : M D} {G : τ → List Cell} {T : τ} {q1 : Option (Bool × τ)} {q2 : Bool × τ → Option (β × τ)} {o : Option β × τ} (H : (q1.bind fun c => if c.1 = true then (q2 c).bind fun y => some (some y.1, y.2) else some (none, c.2)) = some o)
    (k1 : ∀ c, q1 = some c → tt ⟨env, G T⟩ = .ok c.1 ⟨env, G c.2⟩) (k2 : ∀ c y, q2 c = some y → te ⟨env, G c.2⟩ = .ok (e2' y.1) ⟨env, G y.2⟩) : CE tt te ⟨env, G T⟩ e2' (G o.2) o.1 := by
  obtain ⟨c, h1, H⟩ := bindI H
  have k1 := k1 c h1
  obtain ⟨c1, c2⟩ := c
  cases c1 with
  | false => cases H; exact ⟨_, k1⟩
  | true =>
    obtain ⟨y, h2, H⟩ := bindI H
    cases H
    exact ⟨_, _, k1, k2 _ _ h2⟩

theorem j_isiC {T t : String} {k : Bool} {d' : D} (h : ma s = .ok d s1) (hx : drf s1.sto d = d') (ht : tyD d' = some t) (hk : kitB t T = some k) : eIsi T ma s = .ok (eB k) s1 := j_isi h (by rw [hx]; exact ht) hk
/-! while, with a return -/
def whileR {σ ρ : Type} (c : σ → Option Bool) (f : σ → Option (σ ⊕ ρ)) : Nat → σ → Option (σ ⊕ ρ)
  | 0, _ => none
  | n + 1, s => (c s).bind fun b => if b = true then (f s).bind fun z => (match z with
    | .inl s' => whileR c f n s'
    | .inr r => some (.inr r)) else some (.inl s)
theorem w_whileR {σ ρ : Type} {F : σ → S} {R : ρ → Rx × List Cell} {x0 : σ} {z : σ ⊕ ρ} {c : σ → Option Bool} {f : σ → Option (σ ⊕ ρ)} {mt : M Bool} {body : MS} (n : Nat) (H : whileR c f n x0 = some z) (hc : ∀ v b, c v = some b → mt (F v) = .ok b (F v)) (hb : ∀ v z, f v = some z → CJ F R body (F v) z) : CJ F R (sWhile mt body n) (F x0) z := by
  induction n generalizing x0 with
  | zero => cases H
  | succ n ih =>
    unfold whileR at H
    obtain ⟨b, h1, H⟩ := bindI H
    cases b with
    | false =>
      cases H
      show sWhile mt body (n + 1) (F x0) = .nx (F x0)
      unfold sWhile
      rw [hc x0 false h1]
    | true =>
      obtain ⟨z', h2, H⟩ := bindI H
      have c := hb x0 z' h2
      cases z' with
      | inl v' =>
        have c' : body (F x0) = .nx (F v') := c
        refine cj_eq ?_ (ih H)
        conv => lhs; unfold sWhile
        rw [hc x0 true h1]
        simp only [c']
      | inr r =>
        cases H
        have c' : RTR body (F x0) (R r).1 (R r).2 := c
        refine (?_ : RTR _ _ _ _)
        revert c'
        cases (R r).1 with
        | d d => rintro ⟨hc', en, L, q⟩; exact ⟨hc', en, L, by unfold sWhile; rw [hc x0 true h1]; simp only [q]⟩
        | x d => rintro ⟨hc', en, L, q⟩; exact ⟨hc', en, L, by unfold sWhile; rw [hc x0 true h1]; simp only [q]⟩
        | c c => rintro ⟨hc', hd, en, L, k, q, q2⟩; exact ⟨hc', hd, en, L, k, by unfold sWhile; rw [hc x0 true h1]; simp only [q], q2⟩

/-! plain tuples -/
theorem i_seqW {xs : List α} (h : ma s = .ok (eW e xs) s1) : iSeq ma s = .ok (xs.map e) s1 := by unfold iSeq bnd; rw [h]; rfl
theorem j_ixW {xs : List α} {v : α} (h1 : ma s = .ok (eW e xs) s1) (h2 : mb s1 = .ok (eI a) s2) (hq : ixQ xs a = some v) : LW.e2 gIx ma mb s = .ok (e v) s2 := j_e2o h1 h2 rfl rfl (by
  show Option.or (atI (xs.map e) a) _ = _
  rw [atI_map, show atI xs a = some v from hq]
  rfl)
def cutWQ (xs : List α) (lo hi : Option Int) : Option (List α) := if (cutL xs lo hi).length < xs.length then some (cutL xs lo hi) else none
theorem r_slW {ml mh : M (Option Int)} {lo hi : Option Int} {xs ys : List α} {s3 : S} (h1 : ma s = .ok (eW e xs) s1) (h2 : ml s1 = .ok lo s2) (h3 : mh s2 = .ok hi s3) (hq : cutWQ xs lo hi = some ys) : rSlc ma ml mh s = .ok (.d (eV e ys)) s3 := by
  unfold cutWQ at hq
  split at hq
  · rename_i hl
    cases hq
    unfold rSlc bnd
    rw [h1]
    have e1 : cutD (xs.map e) lo hi = (cutL xs lo hi).map e := by simp only [cutD, List.length_map, cutL, List.map_take, List.map_drop]
    have e2 : drf s3.sto (eW e xs) = .tpz (xs.map e) := rfl
    simp only [h2, h3, e2, e1, List.length_map, if_pos hl]
    rfl
  · cases hq
theorem r_sortedW {xs zs : List α} (h : ma s = .ok (eW e xs) s1) (hq : sortedQ e xs = some zs) : rN (puR gSortedT) (eCons ma (ret [])) s = .ok (.c (cL e zs)) s1 := j_rN1 h rfl (by
  unfold sortedQ at hq
  split at hq
  · rename_i q
    cases hq
    show (if okSrt (xs.map e) = true then some (Rs.c (Cell.lst ((xs.map e).mergeSort leD))) else none) = _
    rw [if_pos q]
    unfold cL
    rw [List.map_mergeSort (s := leD) (fun a _ b _ => rfl)]
  · cases hq)
theorem j_tupleZ {xs : List α} (h : ma s = .ok x s1) (hx : drf s1.sto x = eL e xs) : LW.eN (pu gTupleZ) (eCons ma (ret [])) s = .ok (eW e xs) s1 := j_eN1 (j_cons h j_ret) hx rfl
def indexQ (xs : List Int) (a : Int) : Option Int := if a ∈ xs then some (xs.idxOf a : Nat) else none
theorem intsD_map : ∀ xs : List Int, intsD (xs.map eI) = some xs
  | [] => rfl
  | x :: xs => by
    show (intsD (xs.map eI)).map (x :: ·) = _
    rw [intsD_map xs]; rfl
theorem j_indexW {xs : List Int} {k : Int} (h1 : ma s = .ok (eW eI xs) s1) (h2 : mb s1 = .ok (eI a) s2) (hq : indexQ xs a = some k) : eIxZ ma (eCons mb (ret [])) s = .ok (eI k) s2 := by
  unfold indexQ at hq
  split at hq
  · rename_i hm
    cases hq
    unfold eIxZ bnd
    rw [h1]
    have e1 : eW eI xs = .tpz (xs.map eI) := rfl
    simp only [e1, j_cons h2 j_ret]
    have e3 : pu gIndexZ s2 [.tpz (xs.map eI), eI a] = some (.int (xs.idxOf a : Nat), s2) := by
      unfold pu
      show (gIndexZ s2.sto [.tpz (xs.map eI), .int a]).map _ = _
      simp only [gIndexZ, intsD_map, if_pos hm]
      rfl
    rw [e3]
    rfl
  · cases hq
end
end LW
namespace LW
open PySem PySem.Spec L2
/-! exceptions, by value -/
structure XC where
  e : Exc
  ok : cloF e.fs = true
def xc0 (x : Str) : XC := ⟨⟨x, []⟩, rfl⟩
def xc2 (x f g : Str) (d1 d2 : D) (h1 : clo d1 = true) (h2 : clo d2 = true) : XC := ⟨⟨x, [(g, d2), (f, d1)]⟩, by simp only [cloF, h1, h2, Bool.and_self]⟩
def rxD {α : Type} (e : α → D) : XC ⊕ α → Rx
  | .inl x => .x x.e
  | .inr v => .d (e v)
def rxC {α : Type} (e : α → Cell) : XC ⊕ α → Rx
  | .inl x => .x x.e
  | .inr v => .c (e v)
def sRetN : MS := fun s => .rt .non s
section
variable {σ ρ α β γ τ : Type} {F : σ → S} {F1 : τ → S} {R : ρ → Rx × List Cell} {m n : MS} {s s1 s2 : S} {z : σ ⊕ ρ} {ma mb : M D} {mr : M (List D)} {mR : M Rs} {env env' : List (Option D)} {sto sto' base L rest : List Cell} {d d1 d2 : D} {x : Exc}
theorem w_raise0 {c : Str} {r : ρ} (hr : R r = (.x (xc0 c).e, sto')) : CJ F R (sRaise0 c) ⟨env, sto' ++ L⟩ (.inr r) := by
  show RTR _ _ (R r).1 (R r).2
  rw [hr]
  exact ⟨rfl, env, L, rfl⟩
theorem w_raise2 {c f g : Str} {r : ρ} {h1 : clo d1 = true} {h2 : clo d2 = true} (h : mr s = .ok [d1, d2] ⟨env, sto' ++ L⟩) (hr : R r = (.x (xc2 c f g d1 d2 h1 h2).e, sto')) : CJ F R (sRaise2 c f g mr) s (.inr r) := by
  show RTR _ _ (R r).1 (R r).2
  rw [hr]
  exact ⟨(xc2 c f g d1 d2 h1 h2).ok, env, L, by unfold sRaise2 bndS; rw [h]; rfl⟩
theorem w_exc {y : XC} {r : ρ} (h : m s = .exc y.e ⟨env, sto' ++ L⟩) (hr : R r = (.x y.e, sto')) : CJ F R m s (.inr r) := by
  show RTR _ _ (R r).1 (R r).2
  rw [hr]
  exact ⟨y.ok, env, L, h⟩
theorem px_fz (h : mR s = .exc x s1) : fz mR s = .exc x s1 := by unfold fz bnd; rw [h]
theorem px_bx (h : mR s = .exc x s1) : bx mR s = .exc x s1 := by unfold bx bnd; rw [h]
theorem px_e2l {g : S → List D → Option (D × S)} (h : ma s = .exc x s1) : e2 g ma mb s = .exc x s1 := by unfold e2 bnd; rw [h]
theorem px_set {i : Nat} (h : ma s = .exc x s1) : sSet i ma s = .exc x s1 := by unfold sSet bndS; rw [h]
theorem px_drop (h : ma s = .exc x s1) : sDrop ma s = .exc x s1 := by unfold sDrop bndS; rw [h]
theorem px_callP {f : Fn} {ds : List D} (h : mr s = .ok ds s1) (hf : ∀ sto, f ds sto = .exc x sto) : rCall f mr s = .exc x s1 := by
  unfold rCall bnd; rw [h]; simp only [hf]
theorem w_retN {r : ρ} (hr : R r = (.d .non, sto')) : CJ F R sRetN ⟨env, sto' ++ L⟩ (.inr r) := by
  show RTR _ _ (R r).1 (R r).2
  rw [hr]
  exact ⟨rfl, env, L, rfl⟩
theorem fn_RN {N : Nat} {ds : List D} {r : ρ} (h : CJ F R (seq m sRetN) ⟨envF N ds, sto ++ []⟩ (.inr r)) (k : Kept sto (R r).2) : trF (bodyF N m) ds sto = ofRx (R r).1 (R r).2 := by
  have e : bodyF N m = bodyF N (seq m sRetN) := by
    funext ds sto
    unfold bodyF seq sRetN
    cases q : m ⟨envF N ds, sto⟩ <;> rfl
  rw [e]
  exact fn_R h k
theorem sumX {z : α ⊕ β} {f : α → Option γ} {g : β → Option γ} {r : γ} (h : sumQ z f g = some r) : (∃ y, z = .inl y ∧ f y = some r) ∨ (∃ y, z = .inr y ∧ g y = some r) := by
  cases z with
  | inl y => exact .inl ⟨y, rfl, h⟩
  | inr y => exact .inr ⟨y, rfl, h⟩
theorem w_tryV {R : Unit → Rx × List Cell} {F' : τ → S} {cs : List Str} {x : τ} (h : CJ F' R m s (.inl x)) : CJ F' R (sTry cs m n) s (.inl x) := by
  show sTry cs m n s = .nx (F' x)
  have h' : m s = .nx (F' x) := h
  unfold sTry
  rw [h']
theorem w_tryX {R : Unit → Rx × List Cell} {F' : τ → S} {cs : List Str} {v : τ} (h : m s = .exc x s1) (hc : cs.contains x.cls = true) (k : CJ F' R n s1 (.inl v)) : CJ F' R (sTry cs m n) s (.inl v) := by
  show sTry cs m n s = .nx (F' v)
  have h' : n s1 = .nx (F' v) := k
  unfold sTry
  rw [h]
  simp only [hc, if_true, h', noX]
end
end LW
namespace LW
open PySem PySem.Spec L2
/-! enumerate -/
def enQ {α : Type} : Nat → List α → List (Int × α)
  | _, [] => []
  | n, x :: xs => ((n : Nat), x) :: enQ (n + 1) xs
def enumQ {α : Type} (xs : List α) : List (Int × α) := enQ 0 xs
section
variable {α : Type} {e : α → D} {s s1 s2 : S} {ma mb : M D} {d : D}
theorem enF_map : ∀ (xs : List α) (n : Nat), enF n (xs.map e) = (enQ n xs).map (eP2 eI e)
  | [], _ => rfl
  | x :: xs, n => by
    show _ :: enF (n + 1) (xs.map e) = _ :: (enQ (n + 1) xs).map (eP2 eI e)
    rw [enF_map xs (n + 1)]
    rfl
theorem i_enum {xs : List α} (h : ma s = .ok (eV e xs) s1) : iEn (eCons ma (ret [])) s = .ok ((enumQ xs).map (eP2 eI e)) s1 := by
  unfold iEn bnd
  rw [j_cons h j_ret]
  show ret (enF 0 (xs.map e)) s1 = _
  rw [enF_map]
  rfl
/-! isinstance of two types -/
theorem j_isi2 {T T' t : String} {k k' : Bool} (h : ma s = .ok d s1) (ht : tyD (drf s1.sto d) = some t) (hk : kitB t T = some k) (hk' : kitB t T' = some k') : eIsi2 T T' ma s = .ok (eB (k || k')) s1 := by
  unfold eIsi2 bnd
  rw [h]
  simp only [ht, hk, hk']
  rfl
theorem j_isi2O [EncOk e] {T T' t : String} {o : Option α} (h : ma s = .ok (eO e o) s1) (ht : ∀ v, tyD (drf s1.sto (e v)) = some t) (hk : kitB t T = some false) (hk' : kitB t T' = some false) (hn : kitB "NoneType" T = some false) (hn' : kitB "NoneType" T' = some false) : eIsi2 T T' ma s = .ok (eB false) s1 := by
  refine j_isi2 (k := false) (k' := false) h (tyD_O ht) ?_ ?_
  · cases o with
    | none => exact hn
    | some v => exact hk
  · cases o with
    | none => exact hn'
    | some v => exact hk'
end
/-! the other tape -/
def feedT (ns : List Int) : TT := ⟨ns.take 63 ++ (if ns = [] then [0] else []), 0, 0⟩
theorem cutL_63 (ns : List Int) : cutL ns none (some 63) = ns.take 63 := by
  show (ns.drop 0).take (min 63 ns.length - 0) = _
  rw [List.drop_zero, Nat.sub_zero]
  by_cases h : ns.length ≤ 63
  · rw [Nat.min_eq_right h, List.take_length, List.take_of_length_le h]
  · rw [Nat.min_eq_left (by omega)]
theorem pyA_ints : ∀ ns : List Int, pyA (ns.map eI) = ns.map PyData.int
  | [] => rfl
  | n :: ns => by
    show PyData.int n :: pyA (ns.map eI) = _
    rw [pyA_ints ns]
    rfl
theorem py_scr (ns : List Int) : py (.scr ns) = py (eL eI ns) := by
  show PyData.list _ = PyData.list _
  rw [pyA_ints]
theorem okd_scr (ns : List Int) : okd (.scr ns) = true := by
  have h : okd (eL eI ns) = true := okd_enc (n := 1) (e := eL eI) (by decide) ns
  unfold okd at h ⊢
  rw [py_scr]
  simp only [Bool.and_eq_true] at h ⊢
  exact ⟨rfl, h.2⟩
theorem gEq_scr {st : List Cell} (ns : List Int) : gEq st [.scr ns, .lst []] = some (.bl (decide (ns = []))) := by
  have h := gEq_enc (e := eL eI) (n := 1) (by decide) (st := st) ns []
  have h2 : okd (.lst []) = true := by decide
  rw [gEq_okd (okd_scr ns) h2]
  rw [gEq_okd (okd_enc (n := 1) (e := eL eI) (by decide) ns) (okd_enc (n := 1) (e := eL eI) (by decide) [])] at h
  have e : eqD (.scr ns) (.lst []) = eqD (eL eI ns) (eL eI []) := by
    unfold eqD
    rw [py_scr]
    rfl
  rw [e]
  exact h
theorem j_feed {s : S} {ns : List Int} {mv : M D} (hv : mv s = .ok (.scr ns) s) :
    e2 (pu gAdd) (fz (rSlc mv (ret none) (pI (ret (.int 63))))) (e2 (pu gMul) (fz (rLst (eCons (ret (.int 0)) (ret [])))) (LW.eN (pu gInt) (eCons (e2 (pu gEq) mv (fz (rLst (ret [])))) (ret [])))) s = .ok (eL eI (feedT ns).xs) s := by
  have h1 : fz (rSlc mv (ret none) (pI (ret (.int 63)))) s = .ok (eL eI (ns.take 63)) s := by
    have := j_fzc (d := eL eI (cutL ns none (some 63))) (r_scr (k := 63) hv j_ret (j_pI (s := s) j_int)) rfl
    rw [cutL_63] at this
    exact this
  have h2 : e2 (pu gEq) mv (fz (rLst (ret []))) s = .ok (eB (decide (ns = []))) s := j_e2 (d1 := .scr ns) (d2 := .lst []) hv (j_fzc (d := .lst []) (j_lst j_ret (Nat.le_of_ble_eq_true rfl)) rfl) rfl rfl (gEq_scr ns)
  have h3 := j_intB h2
  have h4 : e2 (pu gMul) (fz (rLst (eCons (ret (.int 0)) (ret [])))) (LW.eN (pu gInt) (eCons (e2 (pu gEq) mv (fz (rLst (ret [])))) (ret []))) s = .ok (eL eI (if ns = [] then [0] else [])) s := by
    refine j_e2 (d1 := .lst [.int 0]) (d2 := eI (if decide (ns = []) = true then 1 else 0)) (j_fzc (d := .lst [.int 0]) (j_lst (j_cons j_int j_ret) (Nat.le_of_ble_eq_true rfl)) rfl) h3 rfl rfl ?_
    by_cases h : ns = []
    · simp [h, gMul, eI, eL]
    · simp [h, gMul, eI, eL]
  refine j_catL (xs := ns.take 63) (ys := if ns = [] then [0] else []) h1 h4 rfl rfl ?_
  unfold catQ
  rw [if_pos]
  · rfl
  · have : (ns.take 63).length ≤ 63 := by rw [List.length_take]; omega
    have h2 : (if ns = [] then [(0 : Int)] else []).length ≤ 1 := by split <;> simp
    omega
/-! dict of a plain tuple, min with a default, x or y -/
def minDQ {α : Type} (e : α → D) (xs : List α) : Option (Option α) := if xs.length = 0 then some none else (minQ e xs).map some
section
variable {α : Type} {e : α → D} {s s1 s2 : S} {ma mb : M D} {x d : D}
theorem r_dictZ {ps : List (Int × α)} (h : ma s = .ok (eW (eP2 eI e) ps) s1) : rN (puR gDictZ) (eCons ma (ret [])) s = .ok (.c (cDI e (dictL [] ps))) s1 := j_rN1 (d1 := eW (eP2 eI e) ps) h rfl (by
  show gDictZ _ [D.tpz (ps.map (eP2 eI e))] = _
  unfold gDictZ
  simp only [prsOf_map]
  have := mrgD_map (e := e) ps []
  simp only [List.map_nil] at this
  rw [this]
  rfl)
theorem j_minDL {xs : List α} {v : Option α} (h : ma s = .ok x s1) (hx : drf s1.sto x = eL e xs) (hq : minDQ e xs = some v) : eMinD ma s = .ok (eO e v) s1 := by
  unfold eMinD bnd
  rw [h]
  show (match gMinD (drf s1.sto x) with | some v => Out.ok v s1 | none => .bad) = _
  rw [hx]
  show (match gMinD (D.lst (xs.map e)) with | some v => Out.ok v s1 | none => .bad) = _
  unfold minDQ at hq
  unfold gMinD
  cases xs with
  | nil => cases hq; rfl
  | cons y ys =>
    rw [if_neg (by simp)] at hq
    show (match (if (y :: ys).map e = [] then some D.non else if okAl ((y :: ys).map e) = true then ((y :: ys).map e)[minAt ((y :: ys).map e)]? else none) with | some v => Out.ok v s1 | none => Out.bad) = _
    rw [if_neg (by simp)]
    unfold minQ at hq
    by_cases q : okAl ((y :: ys).map e) = true
    · rw [if_pos q] at hq ⊢
      cases z : (y :: ys)[minAt ((y :: ys).map e)]? with
      | none => rw [z] at hq; cases hq
      | some w =>
        rw [z] at hq
        cases hq
        rw [List.getElem?_map, z]
        rfl
    · rw [if_neg q] at hq
      cases hq
theorem j_orL {τ : Type} {G : τ → S} {T : τ} {xs : List α} {q : Option (List α × τ)} {r : List α × τ} (h : ma s = .ok (eL e xs) (G T)) (H : (if xs.length = 0 then q else some (xs, T)) = some r) (k : ∀ v, q = some v → mb (G T) = .ok (eL e v.1) (G v.2)) : eOrL ma mb s = .ok (eL e r.1) (G r.2) := by
  unfold eOrL bnd
  rw [h]
  show (match drf (G T).sto (D.lst (xs.map e)) with | .lst [] => mb (G T) | .lst (_ :: _) => Out.ok (D.lst (xs.map e)) (G T) | _ => .bad) = _
  cases xs with
  | nil => exact k _ H
  | cons y ys => cases H; rfl
end
end LW
namespace LW
open PySem PySem.Spec L2
/-! zip; sorted tables; rows that are tables -/
section
variable {α β σ ρ : Type} {e : α → D} {e2' : β → D} {F : σ → S} {R : ρ → Rx × List Cell} {m : MS} {s s1 s2 s3 : S} {ma mb mo mv : M D} {mi : M (List D)} {tg : Tg} {own vs : List Nat} {env env' : List (Option D)} {base Lf : List Cell} {a b n : Int} {i k : Nat} {x : D}
theorem zpD_map : ∀ (xs : List α) (ys : List β), zpD (xs.map e) (ys.map e2') = (xs.zip ys).map (eP2 e e2')
  | [], _ => by simp [zpD]
  | x :: xs, [] => by simp [zpD]
  | x :: xs, y :: ys => by
    show _ :: zpD (xs.map e) (ys.map e2') = _
    rw [zpD_map xs ys]
    rfl
theorem i_zip {xs : List α} {ys : List β} (h : ma s = .ok (eV e xs) s1) (h2 : mb s1 = .ok (eV e2' ys) s2) : iZp (eCons ma (eCons mb (ret []))) s = .ok ((xs.zip ys).map (eP2 e e2')) s2 := by
  unfold iZp bnd
  rw [j_cons h (j_cons h2 j_ret)]
  show ret (zpD (xs.map e) (ys.map e2')) s2 = _
  rw [zpD_map]
  rfl
theorem r_sortedDI {kvs : List (Int × α)} {zs : List Int} (h : ma s = .ok x s1) (hx : drf s1.sto x = eDI e kvs) (hq : sortedQ eI (kvs.map fun p => p.1) = some zs) : rN (puR gSortDK) (eCons ma (ret [])) s = .ok (.c (cL eI zs)) s1 := j_rN1 h hx (by
  unfold sortedQ at hq
  have e1 : (kvs.map fun p => (Sum.inl p.1 : Key)) = (kvs.map fun p => p.1).map Sum.inl := by rw [List.map_map]; rfl
  have e2 : ((kvs.map fun p => p.1).map (Sum.inl : Int → Key)).map kD = (kvs.map fun p => p.1).map eI := by rw [List.map_map]; rfl
  show (if okSrt ((kvs.map fun p => (Sum.inl p.1 : Key)).map kD) = true then some (Rs.c (Cell.lst (((kvs.map fun p => (Sum.inl p.1 : Key)).mergeSort fun a b => leD (kD a) (kD b)).map kD))) else none) = _
  rw [e1, e2]
  split at hq
  · rename_i q
    cases hq
    rw [if_pos q]
    unfold cL
    rw [← List.map_mergeSort (r := fun a b => leD (eI a) (eI b)) (f := (Sum.inl : Int → Key)) (fun a _ b _ => rfl), List.map_map]
    rfl
  · cases hq)
theorem sto_mC {C : α → Cell} {rows : List α} {r : Nat} (hk : Lf.length = k) : (base ++ (Lf ++ rows.map C))[base.length + k + r]? = (rows[r]?).map C := by
  rw [Nat.add_assoc, sto_get, List.getElem?_append_right (by omega), List.getElem?_map]
  congr 2; omega
theorem set_mC {C : α → Cell} {rows : List α} {r : Nat} {row : α} (hk : Lf.length = k) : (base ++ (Lf ++ rows.map C)).set (base.length + k + r) (C row) = base ++ (Lf ++ (rows.set r row).map C) := by
  rw [Nat.add_assoc, sto_set]
  congr 1
  rw [List.set_append]
  split
  · omega
  · congr 1
    rw [show k + r - Lf.length = r by omega, List.map_set]
theorem drmD {rows : List (List (Int × α))} {r : Nat} {row : List (Int × α)} (hk : Lf.length = k) (h : rows[r]? = some row) : drf (base ++ (Lf ++ rows.map (cDI e))) (.loc (base.length + k + r)) = eDI e row := drDI (by rw [sto_mC hk, h]; rfl)
theorem drmxD {rows : List (List (Int × α))} {row : List (Int × α)} (hk : Lf.length = k) (h : ixQ rows a = some row) : drf (base ++ (Lf ++ rows.map (cDI e))) (.loc (base.length + k + rowN rows a)) = eDI e row := drmD hk (row_of h).2.1
def setD2Q (rows : List (List (Int × α))) (a b : Int) (v : α) : Option (List (List (Int × α))) := (ixQ rows a).bind fun row => (putQ row b v).map fun row' => rows.set (rowN rows a) row'
theorem w_putmD {rows rows' : List (List (Int × α))} {row : List (Int × α)} {v : α} (hk : Lf.length = k) (hv : mv s = .ok (e v) s1) (ho : mo s1 = .ok (.loc (base.length + k + rowN rows a)) s2) (hi : ma s2 = .ok (eI b) ⟨env, base ++ (Lf ++ rows.map (cDI e))⟩)
    (hr : ixQ rows a = some row) (hq : setD2Q rows a b v = some rows') (he : rows'.length = rows.length → env = env') : sPutD mv mo ma s = .nx ⟨env', base ++ (Lf ++ rows'.map (cDI e))⟩ := by
  unfold setD2Q at hq
  rw [hr] at hq
  simp only [Option.bind_some] at hq
  cases q : putQ row b v with
  | none => rw [q] at hq; cases hq
  | some row' =>
    rw [q] at hq
    cases hq
    rw [← he (by simp)]
    unfold putQ at q
    split at q
    · rename_i q2
      cases q
      obtain ⟨_, g2, _⟩ := row_of hr
      unfold sPutD bndS
      rw [hv]
      simp only [ho, hi, eI, sto_mC hk, g2, Option.map_some, cDI, keyOf, List.length_map, if_pos q2]
      rw [puK_map (f := fun a => (Sum.inl a : Key)) inlI]
      have := set_mC (C := cDI e) (base := base) (rows := rows) (r := rowN rows a) (row := putL row b v) hk
      simp only [cDI] at this
      rw [this]
    · cases q
theorem compL_2C {C : α → Cell} {A : β → List (Option D)} {env0 : List (Option D)} {te0 : M Rs} {f : β → Option α} (ha : ∀ x, asg tg (e2' x) env0 = some (A x)) (hb : ∀ x row st, f x = some row → te0 ⟨A x, st⟩ = .ok (.c (C row)) ⟨A x, st⟩) :
    ∀ (xs : List β) (b : Nat) (st : List Cell) (rows0 rows : List α), compQ (fun x => (f x).bind fun y => some (some y)) xs = some rows → st.length = b + rows0.length →
      compL tg env0 (ret true) (bx te0) (xs.map e2') (locs b rows0.length) ⟨env0, st⟩ = .ok (locs b (rows0.length + rows.length)) ⟨env0, st ++ rows.map C⟩
  | [], b, st, rows0, rows, H, _ => by cases H; simp [compL]
  | x :: xs, b, st, rows0, rows, H, hl => by
    unfold compQ at H
    obtain ⟨o, h1, H⟩ := bindI H
    obtain ⟨r, h2, H⟩ := bindI H
    obtain ⟨y, h3, h4⟩ := bindI h1
    cases h4
    cases H
    rw [List.map_cons]
    unfold compL
    simp only [ha x, ret]
    rw [j_bx (hb x y st h3) hl rfl]
    simp only
    have el : locs b rows0.length ++ [D.loc (b + rows0.length)] = locs b (rows0 ++ [y]).length := by
      simp [locs, List.range_succ]
    rw [el]
    have := compL_2C ha hb xs b (st ++ [C y]) (rows0 ++ [y]) r h2 (by simp; omega)
    rw [this]
    simp [Nat.add_comm, Nat.add_left_comm, Nat.add_assoc]
theorem r_comp2C {C : α → Cell} {A : β → List (Option D)} {xs : List β} {te0 : M Rs} {f : β → Option α} {rows : List α} (hk : Lf.length = k) (hi : mi s = .ok (xs.map e2') ⟨env, base ++ Lf⟩) (H : compQ (fun x => (f x).bind fun y => some (some y)) xs = some rows)
    (ha : ∀ x, asg tg (e2' x) (wipeE env own) = some (A x)) (hb : ∀ x row st, f x = some row → te0 ⟨A x, st⟩ = .ok (.c (C row)) ⟨A x, st⟩) :
    rLc tg own mi (ret true) (bx te0) s = .ok (.c (.lst (locs (base.length + k) rows.length))) ⟨env, base ++ (Lf ++ rows.map C)⟩ := by
  unfold rLc bnd cItems
  rw [hi]
  simp only
  have := compL_2C (C := C) ha hb xs (base.length + k) (base ++ Lf) [] rows H (by simp [hk])
  simp only [List.length_nil, Nat.zero_add] at this
  rw [show locs (base.length + k) 0 = [] from rfl] at this
  rw [this]
  simp [ret]
theorem cloL_mapD [h : EncOk e] {rows : List (List (Int × α))} : cloL (rows.map (cDI e)) := fun x hx => by
  obtain ⟨r, _, rfl⟩ := List.mem_map.mp hx
  exact cloC_DI
/-! a[i], b[j] = x, y -/
theorem w_put2 {s' : S} {d1 d2 : D} {mo2 mi2 : M D} (hv : mv s = .ok (.tup [d1, d2]) s1) (h1 : sPutL (ret d1) mo ma s1 = .nx s2) (h2 : sPutL (ret d2) mo2 mi2 s2 = .nx s') : sPut2 mv mo ma mo2 mi2 s = .nx s' := by
  unfold sPut2 bndS
  rw [hv]
  simp only [h1, h2]
end
end LW
namespace LW
open PySem PySem.Spec L2
section
variable {α : Type} {e : α → D} {ma : M D} {s s1 : S} {x : D}
theorem r_sortedFT {f : α → Int} {xs zs : List α} (h : ma s = .ok x s1) (hx : drf s1.sto x = eV e xs) (he : ∀ v, fstI (e v) = some (f v)) (hq : sortedFQ f xs = some zs) : rN (puR gSortedFT) (eCons ma (ret [])) s = .ok (.c (cL e zs)) s1 := j_rN1 h hx (by
  unfold sortedFQ at hq
  split at hq
  · rename_i q
    cases hq
    have e1 : okFst (xs.map e) = true := by
      unfold okFst
      simp only [List.all_map, Bool.and_eq_true, List.all_eq_true, Function.comp, he, decide_eq_true_eq, List.map_map]
      refine ⟨fun _ _ => rfl, ?_⟩
      have : (fun d => (fstI d).getD 0) ∘ e = f := by funext v; simp [he]
      rw [this]
      exact q
    show (if okFst (xs.map e) = true then some (Rs.c (Cell.lst ((xs.map e).mergeSort leF))) else none) = _
    rw [if_pos e1]
    unfold cL
    rw [List.map_mergeSort (s := leF) (fun a _ b _ => by unfold leF; rw [he, he]; rfl)]
  · cases hq)
end
end LW
namespace LW
open PySem PySem.Spec L2
/-! plain things of any shape -/
inductive U where
  | non | bl (b : Bool) | int (i : Int) | str (x : Str) | tup (us : List U) | lst (us : List U)
instance : Inhabited U := ⟨.non⟩
mutual
def eU : U → D
  | .non => .non | .bl b => .bl b | .int i => .int i | .str x => .str x | .tup us => .tup (eUA us) | .lst us => .lst (eUA us)
def eUA : List U → List D
  | [] => []
  | u :: us => eU u :: eUA us
end
theorem eUA_map : ∀ us : List U, eUA us = us.map eU
  | [] => rfl
  | u :: us => by rw [eUA, List.map_cons, eUA_map us]
mutual
theorem clo_U : ∀ u : U, clo (eU u) = true
  | .non => rfl | .bl _ => rfl | .int _ => rfl | .str _ => rfl
  | .tup us => by simpa [eU, clo] using clo_UA us
  | .lst us => by simpa [eU, clo] using clo_UA us
theorem clo_UA : ∀ us : List U, cloA (eUA us) = true
  | [] => rfl
  | u :: us => by simp [eUA, cloA, clo_U u, clo_UA us]
end
instance : EncOk eU := ⟨clo_U⟩
mutual
theorem flt_U : ∀ u : U, flt (eU u) = true
  | .non => rfl | .bl _ => rfl | .int _ => rfl | .str _ => rfl
  | .tup us => by simpa [eU, flt] using flt_UA us
  | .lst us => by simpa [eU, flt] using flt_UA us
theorem flt_UA : ∀ us : List U, fltA (eUA us) = true
  | [] => rfl
  | u :: us => by simp [eUA, fltA, flt_U u, flt_UA us]
end
/-! typed values as such things -/
def uZ (_ : Unit) : U := .non
def uI (i : Int) : U := .int i
def uB (b : Bool) : U := .bl b
def uS (x : Str) : U := .str x
section
variable {α β γ δ : Type}
def uO (f : α → U) : Option α → U
  | none => .non
  | some a => f a
def uL (f : α → U) (xs : List α) : U := .lst (xs.map f)
def uV (f : α → U) (xs : List α) : U := .tup (xs.map f)
def uP1 (f : α → U) (a : α) : U := .tup [f a]
def uP2 (f : α → U) (g : β → U) (p : α × β) : U := .tup [f p.1, g p.2]
def uP3 (f : α → U) (g : β → U) (h : γ → U) (p : α × β × γ) : U := .tup [f p.1, g p.2.1, h p.2.2]
def uP4 (f : α → U) (g : β → U) (h : γ → U) (k : δ → U) (p : α × β × γ × δ) : U := .tup [f p.1, g p.2.1, h p.2.2.1, k p.2.2.2]
variable {f : α → U} {g : β → U} {h : γ → U} {k : δ → U} {e : α → D} {e2' : β → D} {e3 : γ → D} {e4 : δ → D}
theorem ok_Z (u : Unit) : eU (uZ u) = eZ u := rfl
theorem ok_I (i : Int) : eU (uI i) = eI i := rfl
theorem ok_B (b : Bool) : eU (uB b) = eB b := rfl
theorem ok_S (x : Str) : eU (uS x) = eS x := rfl
theorem ok_id (u : U) : eU (id u) = eU u := rfl
theorem ok_O (hf : ∀ a, eU (f a) = e a) (o : Option α) : eU (uO f o) = eO e o := by
  cases o with
  | none => rfl
  | some a => exact hf a
theorem eUA_of (hf : ∀ a, eU (f a) = e a) (xs : List α) : eUA (xs.map f) = xs.map e := by
  rw [eUA_map, List.map_map]
  congr 1
  funext a
  exact hf a
theorem ok_L (hf : ∀ a, eU (f a) = e a) (xs : List α) : eU (uL f xs) = eL e xs := by
  show D.lst (eUA _) = _
  rw [eUA_of hf]; rfl
theorem ok_V (hf : ∀ a, eU (f a) = e a) (xs : List α) : eU (uV f xs) = eV e xs := by
  show D.tup (eUA _) = _
  rw [eUA_of hf]; rfl
theorem ok_P1 (hf : ∀ a, eU (f a) = e a) (p : α) : eU (uP1 f p) = eP1 e p := by
  show D.tup [eU _] = _
  rw [hf]; rfl
theorem ok_P2 (hf : ∀ a, eU (f a) = e a) (hg : ∀ a, eU (g a) = e2' a) (p : α × β) : eU (uP2 f g p) = eP2 e e2' p := by
  show D.tup [eU _, eU _] = _
  rw [hf, hg]; rfl
theorem ok_P3 (hf : ∀ a, eU (f a) = e a) (hg : ∀ a, eU (g a) = e2' a) (hh : ∀ a, eU (h a) = e3 a) (p : α × β × γ) : eU (uP3 f g h p) = eP3 e e2' e3 p := by
  show D.tup [eU _, eU _, eU _] = _
  rw [hf, hg, hh]; rfl
theorem ok_P4 (hf : ∀ a, eU (f a) = e a) (hg : ∀ a, eU (g a) = e2' a) (hh : ∀ a, eU (h a) = e3 a) (hk : ∀ a, eU (k a) = e4 a) (p : α × β × γ × δ) : eU (uP4 f g h k p) = eP4 e e2' e3 e4 p := by
  show D.tup [eU _, eU _, eU _, eU _] = _
  rw [hf, hg, hh, hk]; rfl
end
/-! what such a thing is -/
def tupU : U → Option (List U)
  | .tup us => some us
  | _ => none
def lstU : U → Option (List U)
  | .lst us => some us
  | _ => none
def seqU : U → Option (List U)
  | .tup us => some us
  | .lst us => some us
  | _ => none
def intU : U → Option Int
  | .int i => some i
  | _ => none
def blU : U → Option Bool
  | .bl i => some i
  | _ => none
def strU : U → Option Str
  | .str i => some i
  | _ => none
def nonU : U → Bool
  | .non => true
  | _ => false
def nmU : U → String
  | .non => "NoneType" | .bl _ => "bool" | .int _ => "int" | .str _ => "str" | .tup _ => "tuple" | .lst _ => "list"
def isaU (T : String) (u : U) : Bool := (kitB (nmU u) T).getD false
section
variable {α : Type} {e : α → D} {ma mb : M D} {ml mh : M (Option Int)} {s s1 s2 s3 : S} {x y : D} {u v : U}
theorem j_toU {p : U} (h : ma s = .ok x s1) (hp : eU p = x) : ma s = .ok (eU p) s1 := by rw [hp]; exact h
theorem j_tupU {us : List U} (h : ma s = .ok (eU u) s1) (hq : tupU u = some us) : ma s = .ok (eV eU us) s1 := by
  cases u <;> cases hq
  rw [h]
  show Out.ok (D.tup (eUA us)) s1 = .ok (D.tup (us.map eU)) s1
  rw [eUA_map]
theorem j_lstU {us : List U} (h : ma s = .ok (eU u) s1) (hq : lstU u = some us) : ma s = .ok (eL eU us) s1 := by
  cases u <;> cases hq
  rw [h]
  show Out.ok (D.lst (eUA us)) s1 = .ok (D.lst (us.map eU)) s1
  rw [eUA_map]
theorem j_intU {i : Int} (h : ma s = .ok (eU u) s1) (hq : intU u = some i) : ma s = .ok (eI i) s1 := by
  cases u <;> cases hq
  exact h
theorem j_blU {i : Bool} (h : ma s = .ok (eU u) s1) (hq : blU u = some i) : ma s = .ok (eB i) s1 := by
  cases u <;> cases hq
  exact h
theorem j_strU {i : Str} (h : ma s = .ok (eU u) s1) (hq : strU u = some i) : ma s = .ok (eS i) s1 := by
  cases u <;> cases hq
  exact h
theorem j_isaU {T : String} (h : ma s = .ok (eU u) s1) (hk : (["NoneType", "bool", "int", "str", "tuple", "list"].all fun t => (kitB t T).isSome) = true) : eIsi T ma s = .ok (eB (isaU T u)) s1 := by
  have hk := List.all_eq_true.mp hk
  have key : ∀ t, tyD (drf s1.sto (eU u)) = some t → (kitB t T).isSome = true → eIsi T ma s = .ok (eB ((kitB t T).getD false)) s1 := fun t ht hs => by
    obtain ⟨k, e⟩ := Option.isSome_iff_exists.mp hs
    rw [e]
    exact j_isi h ht e
  cases u with
  | non => exact key "NoneType" rfl (hk _ (by simp))
  | bl b => exact key "bool" rfl (hk _ (by simp))
  | int b => exact key "int" rfl (hk _ (by simp))
  | str b => exact key "str" rfl (hk _ (by simp))
  | tup b => exact key "tuple" rfl (hk _ (by simp))
  | lst b => exact key "list" rfl (hk _ (by simp))
theorem j_isa2U {T T' : String} (h : ma s = .ok (eU u) s1) (hk : (["NoneType", "bool", "int", "str", "tuple", "list"].all fun t => (kitB t T).isSome) = true) (hk' : (["NoneType", "bool", "int", "str", "tuple", "list"].all fun t => (kitB t T').isSome) = true) : eIsi2 T T' ma s = .ok (eB (isaU T u || isaU T' u)) s1 := by
  have hk := List.all_eq_true.mp hk
  have hk' := List.all_eq_true.mp hk'
  have key : ∀ t, tyD (drf s1.sto (eU u)) = some t → (kitB t T).isSome = true → (kitB t T').isSome = true → eIsi2 T T' ma s = .ok (eB ((kitB t T).getD false || (kitB t T').getD false)) s1 := fun t ht hs hs' => by
    obtain ⟨k, e⟩ := Option.isSome_iff_exists.mp hs
    obtain ⟨k', e'⟩ := Option.isSome_iff_exists.mp hs'
    rw [e, e']
    exact j_isi2 h ht e e'
  cases u with
  | non => exact key "NoneType" rfl (hk _ (by simp)) (hk' _ (by simp))
  | bl b => exact key "bool" rfl (hk _ (by simp)) (hk' _ (by simp))
  | int b => exact key "int" rfl (hk _ (by simp)) (hk' _ (by simp))
  | str b => exact key "str" rfl (hk _ (by simp)) (hk' _ (by simp))
  | tup b => exact key "tuple" rfl (hk _ (by simp)) (hk' _ (by simp))
  | lst b => exact key "list" rfl (hk _ (by simp)) (hk' _ (by simp))
theorem j_lenU {us : List U} (h : ma s = .ok (eU u) s1) (hq : seqU u = some us) : LW.eN (pu gLen) (eCons ma (ret [])) s = .ok (eI (us.length : Nat)) s1 := by
  cases u <;> cases hq
  · exact j_eN1 (j_cons h j_ret) rfl (by simp [gLen, eI, drf, eU, eUA_map])
  · exact j_eN1 (j_cons h j_ret) rfl (by simp [gLen, eI, drf, eU, eUA_map])
theorem i_seqU {us : List U} (h : ma s = .ok (eU u) s1) (hq : seqU u = some us) : iSeq ma s = .ok (us.map eU) s1 := by
  cases u <;> cases hq
  · rw [← eUA_map]; unfold iSeq bnd; rw [h]; rfl
  · rw [← eUA_map]; unfold iSeq bnd; rw [h]; rfl
theorem isNon_U : isNon (eU u) = nonU u := by cases u <;> rfl
theorem j_isU (h1 : ma s = .ok (eU u) s1) (h2 : mb s1 = .ok .non s2) : e2 (pu gIs) ma mb s = .ok (eB (nonU u)) s2 := j_e2 (d1 := eU u) (d2 := .non) h1 h2 drE rfl (by rw [gIs_non, isNon_U]; rfl)
theorem j_isnU (h1 : ma s = .ok (eU u) s1) (h2 : mb s1 = .ok .non s2) : e2 (pu gIsNot) ma mb s = .ok (eB (!nonU u)) s2 := j_e2 (d1 := eU u) (d2 := .non) h1 h2 drE rfl (by rw [gIsNot_non, isNon_U]; rfl)
/-! < and <= of any data -/
def ltQ (x y : D) : Option Bool := match gLt [] [x, y] with
  | some (.bl b) => some b
  | _ => none
def leQ (x y : D) : Option Bool := match gLe [] [x, y] with
  | some (.bl b) => some b
  | _ => none
theorem j_ltQ {d1 d2 : D} {b : Bool} (h1 : ma s = .ok x s1) (h2 : mb s1 = .ok y s2) (hx : drf s2.sto x = d1) (hy : drf s2.sto y = d2) (h : ltQ d1 d2 = some b) : e2 (pu gLt) ma mb s = .ok (eB b) s2 := j_e2 h1 h2 hx hy (by
  unfold ltQ at h
  show gLt [] [d1, d2] = _
  cases q : gLt [] [d1, d2] with
  | none => rw [q] at h; cases h
  | some z =>
    rw [q] at h
    cases z <;> cases h
    rfl)
theorem j_leQ {d1 d2 : D} {b : Bool} (h1 : ma s = .ok x s1) (h2 : mb s1 = .ok y s2) (hx : drf s2.sto x = d1) (hy : drf s2.sto y = d2) (h : leQ d1 d2 = some b) : e2 (pu gLe) ma mb s = .ok (eB b) s2 := j_e2 h1 h2 hx hy (by
  unfold leQ at h
  show gLe [] [d1, d2] = _
  cases q : gLe [] [d1, d2] with
  | none => rw [q] at h; cases h
  | some z =>
    rw [q] at h
    cases z <;> cases h
    rfl)
/-! in a list of truths -/
theorem scA_bools : ∀ ns : List Bool, scA (ns.map eB) = some (ns.map V.bl)
  | [] => rfl
  | n :: r => by
    rw [List.map_cons]
    show (match some (V.bl n), scA (r.map eB) with | some v, some vs => some (v :: vs) | _, _ => none) = _
    rw [scA_bools r]; rfl
theorem inV_bools (a : Bool) (ns : List Bool) : inV (.bl a) (ns.map V.bl) = decide (a ∈ ns) := by
  unfold inV
  induction ns with
  | nil => rfl
  | cons n r ih =>
    simp only [List.map_cons, List.any_cons, ih]
    cases a <;> cases n <;> simp [eqV]
theorem j_inB {a : Bool} {xs : List Bool} (h1 : ma s = .ok (eB a) s1) (h2 : mb s1 = .ok y s2) (hy : drf s2.sto y = eL eB xs) : LW.e2 gInAll ma mb s = .ok (eB (decide (a ∈ xs))) s2 := j_e2o h1 h2 rfl hy (by
  rw [show drf s2.sto (eB a) = D.bl a from rfl]
  simp only [eL, eV, gNotIn, gIn, sc, scA_bools, inV_bools]
  rfl)
theorem j_ninB {a : Bool} {xs : List Bool} (h1 : ma s = .ok (eB a) s1) (h2 : mb s1 = .ok y s2) (hy : drf s2.sto y = eL eB xs) : LW.e2 gNotInAll ma mb s = .ok (eB (!decide (a ∈ xs))) s2 := j_e2o h1 h2 rfl hy (by
  rw [show drf s2.sto (eB a) = D.bl a from rfl]
  simp only [eL, eV, gNotIn, gIn, sc, scA_bools, inV_bools]
  rfl)
theorem i_zipU {us vs : List U} (h : ma s = .ok (eU u) s1) (h2 : mb s1 = .ok (eU v) s2) (hu : tupU u = some us) (hv : tupU v = some vs) : iZp (eCons ma (eCons mb (ret []))) s = .ok ((us.zip vs).map (eP2 eU eU)) s2 := i_zip (j_tupU h hu) (j_tupU h2 hv)
end
end LW
namespace LW
open PySem PySem.Spec L2
/-! what a caught exception tells -/
mutual
def asU : D → Option U
  | .non => some .non | .bl b => some (.bl b) | .int i => some (.int i) | .str x => some (.str x)
  | .tup ds => (asUA ds).map .tup
  | .lst ds => (asUA ds).map .lst
  | _ => none
def asUA : List D → Option (List U)
  | [] => some []
  | d :: ds => (asU d).bind fun u => (asUA ds).map fun us => u :: us
end
mutual
theorem asU_eU : ∀ u : U, asU (eU u) = some u
  | .non => rfl | .bl _ => rfl | .int _ => rfl | .str _ => rfl
  | .tup us => by rw [eU, asU, asUA_eUA us]; rfl
  | .lst us => by rw [eU, asU, asUA_eUA us]; rfl
theorem asUA_eUA : ∀ us : List U, asUA (eUA us) = some us
  | [] => rfl
  | u :: us => by rw [eUA, asUA, asU_eU u, asUA_eUA us]; rfl
end
mutual
theorem asU_ok : ∀ (d : D) (u : U), asU d = some u → d = eU u
  | .non, u, h => by cases h; rfl
  | .bl _, u, h => by cases h; rfl
  | .int _, u, h => by cases h; rfl
  | .str _, u, h => by cases h; rfl
  | .tup ds, u, h => by
    rw [asU] at h
    obtain ⟨us, h1, rfl⟩ := Option.map_eq_some_iff.mp h
    rw [eU, asUA_ok ds us h1]
  | .lst ds, u, h => by
    rw [asU] at h
    obtain ⟨us, h1, rfl⟩ := Option.map_eq_some_iff.mp h
    rw [eU, asUA_ok ds us h1]
  | .loc _, u, h => by cases h
  | .dK _ _, u, h => by cases h
  | .dT _ _, u, h => by cases h
  | .scr _, u, h => by cases h
  | .tpz _, u, h => by cases h
  | .xcp _ _ _ _, u, h => by cases h
theorem asUA_ok : ∀ (ds : List D) (us : List U), asUA ds = some us → ds = eUA us
  | [], us, h => by cases h; rfl
  | d :: ds, us, h => by
    rw [asUA] at h
    obtain ⟨u, h1, h2⟩ := Option.bind_eq_some_iff.mp h
    obtain ⟨us', h3, rfl⟩ := Option.map_eq_some_iff.mp h2
    rw [eUA, ← asU_ok d u h1, ← asUA_ok ds us' h3]
end
/-- what is told where nothing is raised -/
def getR {α : Type} : XC ⊕ α → Option α
  | .inr v => some v
  | .inl _ => none
theorem getR_ok {α : Type} {q : Option (XC ⊕ α)} {v : α} (h : q.bind getR = some v) : q = some (.inr v) := by
  obtain ⟨z, h1, h2⟩ := Option.bind_eq_some_iff.mp h
  cases z with
  | inl x => cases h2
  | inr y => cases h2; exact h1
/-- a field of an exception -/
def fldU (y : XC) (f : Str) : Option U := (y.e.fs.lookup f).bind asU
theorem zip_lookup {f : Str} : ∀ fs : List (Str × D), ((fs.map (·.1)).zip (fs.map (·.2))).lookup f = fs.lookup f
  | [] => rfl
  | (k, v) :: fs => by
    simp only [List.map_cons, List.zip_cons_cons, List.lookup_cons]
    cases f == k
    · exact zip_lookup fs
    · rfl
section
variable {a : Addr} {d : Option Addr} {i : Nat} {s s1 : S} {y : XC} {b : Bool} {f : Str} {u : U}
theorem j_isE (h : s.env[i]? = some (some (.xcp a d (y.e.fs.map (·.1)) (y.e.fs.map (·.2))))) : eIsE a d b (eVar i) s = .ok (eB b) s := by
  have e : eVar i s = .ok (.xcp a d (y.e.fs.map (·.1)) (y.e.fs.map (·.2))) s := by unfold eVar; rw [h]
  unfold eIsE bnd
  rw [e]
  simp only [and_self, if_true]
  rfl
theorem j_fldU (h : s.env[i]? = some (some (.xcp a d (y.e.fs.map (·.1)) (y.e.fs.map (·.2))))) (hq : fldU y f = some u) : eFldE a d f (eVar i) s = .ok (eU u) s := by
  unfold fldU at hq
  obtain ⟨v, h1, h2⟩ := Option.bind_eq_some_iff.mp hq
  have e : eVar i s = .ok (.xcp a d (y.e.fs.map (·.1)) (y.e.fs.map (·.2))) s := by unfold eVar; rw [h]
  unfold eFldE bnd
  rw [e]
  simp only [and_self, if_true, zip_lookup, h1, asU_ok v u h2]
theorem w_tryAs {τ : Type} {R : Unit → Rx × List Cell} {F' : τ → S} {l : List (Str × (Addr → Option Addr → MS))} {ms : Addr → Option Addr → MS} {m : MS} {v : τ} (h : m s = .exc y.e s1) (hc : l.lookup y.e.cls = some ms)
    (k : ∀ a d, ∃ env' sto', ms a d ⟨s1.env.set i (some (.xcp a d (y.e.fs.map (·.1)) (y.e.fs.map (·.2)))), s1.sto⟩ = .nx ⟨env', sto'⟩ ∧ (⟨env'.set i none, sto'⟩ : S) = F' v) : CJ F' R (sTryAs i l m) s (.inl v) := by
  show sTryAs i l m s = .nx (F' v)
  unfold sTryAs
  rw [h]
  simp only [hc]
  have hex : ∃ s2, ∀ a d, wipI i (ms a d (setX i a d y.e s1)) = .nx s2 := ⟨F' v, fun a d => by
    obtain ⟨env', sto', h1, h2⟩ := k a d
    unfold setX
    rw [h1]
    show OutS.nx _ = _
    rw [← h2]⟩
  unfold asT
  rw [dif_pos hex]
  have hch := Classical.choose_spec hex
  generalize Classical.choose hex = s2 at hch
  obtain ⟨env', sto', h1, h2⟩ := k 0 none
  have := hch 0 none
  unfold setX at this
  rw [h1] at this
  have e : OutS.nx (⟨env'.set i none, sto'⟩ : S) = .nx s2 := this
  rw [h2] at e
  exact e.symm
theorem w_tryVA {R : Unit → Rx × List Cell} {τ : Type} {F' : τ → S} {l : List (Str × (Addr → Option Addr → MS))} {m : MS} {x : τ} (h : CJ F' R m s (.inl x)) : CJ F' R (sTryAs i l m) s (.inl x) := by
  show sTryAs i l m s = .nx (F' x)
  have h' : m s = .nx (F' x) := h
  unfold sTryAs
  rw [h']
theorem k_as2 {τ : Type} {F' F2 : τ → S} {m : MS} {s2 : S} {v : τ} (h : CJ F2 (fun _ : Unit => ((.d .non, []) : Rx × List Cell)) m s2 (.inl v)) (e : (⟨(F2 v).env.set i none, (F2 v).sto⟩ : S) = F' v) : ∃ env' sto', m s2 = .nx ⟨env', sto'⟩ ∧ (⟨env'.set i none, sto'⟩ : S) = F' v := ⟨(F2 v).env, (F2 v).sto, h, e⟩
theorem k_as {τ : Type} {F' : τ → S} {m : MS} {s2 : S} {v : τ} {R : Unit → Rx × List Cell} {G : Unit → S} (h : CJ G R m s2 (.inl ())) (e : (⟨(G ()).env.set i none, (G ()).sto⟩ : S) = F' v) : ∃ env' sto', m s2 = .nx ⟨env', sto'⟩ ∧ (⟨env'.set i none, sto'⟩ : S) = F' v := ⟨(G ()).env, (G ()).sto, h, e⟩
end
end LW
namespace LW
open PySem PySem.Spec L2
section
variable {α : Type} {e : α → D} {ma mo : M D} {s s1 s2 : S} {x y : D} {a : Int}
theorem r_revV {xs : List α} (h1 : ma s = .ok x s1) (hx : drf s1.sto x = eV e xs) : rRevT ma s = .ok (.d (eV e xs.reverse)) s1 := by
  unfold rRevT bnd
  rw [h1]
  simp only [hx, eV, List.map_reverse]
theorem r_rev0 {xs : List α} (h1 : ma s = .ok x s1) (hx : drf s1.sto x = eL e xs) : rRev0 ma s = .ok (.c (cL e (xs.drop 1).reverse)) s1 := by
  unfold rRev0 bnd
  rw [h1]
  simp only [hx, eL, cL, List.map_reverse, List.map_drop]
theorem fstD_ints (a : Int) : ∀ (xs : List Int) (i : Nat), fstD (fun z => eqD z (eI a)) (xs.map eI) i = if a ∈ xs then some (i + xs.idxOf a) else none
  | [], i => rfl
  | x :: xs, i => by
    simp only [List.map_cons, fstD]
    have e1 : eqD (eI x) (eI a) = decide (x = a) := by
      rw [Bool.eq_iff_iff, EncPy.inj (e := eI), decide_eq_true_eq]
    rw [e1]
    by_cases h : x = a
    · subst h
      simp
    · rw [if_neg (by simpa using h), fstD_ints a xs (i + 1)]
      have h' : a ≠ x := fun z => h z.symm
      simp only [List.mem_cons, h', false_or]
      split
      · rw [List.idxOf_cons, beq_eq_false_iff_ne.mpr h]
        simp only [cond_false]
        congr 1; omega
      · rfl
theorem j_indexL {xs : List Int} {k : Int} (h1 : mo s = .ok x s1) (hx : drf s1.sto x = eL eI xs) (h2 : ma s1 = .ok (eI a) s2) (hx2 : drf s2.sto x = eL eI xs) (hq : indexQ xs a = some k) : eMtL (pu gIndex) mo (eCons ma (ret [])) s = .ok (eI k) s2 := by
  unfold indexQ at hq
  split at hq
  · rename_i hm
    cases hq
    unfold eMtL bnd
    rw [h1]
    have e1 : isLst (drf s1.sto x) = true := by rw [hx]; rfl
    simp only [e1, if_true]
    rw [j_cons h2 j_ret]
    have e2 : gIndex s2.sto [eL eI xs, eI a] = some (.int (xs.idxOf a : Nat)) := by
      show (if okd (D.lst (xs.map eI)) = true ∧ okd (eI a) = true then (fstD (fun z => eqD z (eI a)) (xs.map eI) 0).map fun j => D.int (j : Nat) else none) = _
      have k1 : okd (D.lst (xs.map eI)) = true := okd_enc (e := eL eI) (n := 1) (by decide) xs
      have k2 : okd (eI a) = true := okd_enc (e := eI) (n := 0) (by decide) a
      rw [if_pos ⟨k1, k2⟩, fstD_ints, if_pos hm, Option.map_some, Nat.zero_add]
    have e3 : pu gIndex s2 [x, eI a] = some (.int (xs.idxOf a : Nat), s2) := by
      unfold pu
      simp only [List.map_cons, List.map_nil, hx2]
      rw [show drf s2.sto (eI a) = eI a from rfl, e2]
      rfl
    simp only [e3]
    rfl
  · cases hq
end
end LW
namespace LW
open PySem PySem.Spec L2
section
variable {α : Type} {e : α → D} {ma mo : M D} {s s1 s2 : S} {x y : D} {a : Int}
/-- sorted(set(xs)) -/
def ssetQ (xs : List Int) : Option (List Int) := if xs.length < 64 then some (dups xs) else none
theorem r_ssetL {xs zs : List Int} (h : ma s = .ok x s1) (hx : drf s1.sto x = eL eI xs) (hq : ssetQ xs = some zs) : rN (puR gSSet) (eCons ma (ret [])) s = .ok (.c (cL eI zs)) s1 := j_rN1 h hx (by
  unfold ssetQ at hq
  split at hq
  · rename_i q
    cases hq
    show (match intsD (xs.map eI) with
      | some ns => if ns.length < 64 then some (Rs.c (.lst ((dups ns).map D.int))) else none
      | none => none) = _
    rw [intsD_map]
    simp only [if_pos q]
    rfl
  · cases hq)
theorem r_ssetV {xs zs : List Int} (h : ma s = .ok x s1) (hx : drf s1.sto x = eV eI xs) (hq : ssetQ xs = some zs) : rN (puR gSSet) (eCons ma (ret [])) s = .ok (.c (cL eI zs)) s1 := j_rN1 h hx (by
  unfold ssetQ at hq
  split at hq
  · rename_i q
    cases hq
    show (match intsD (xs.map eI) with
      | some ns => if ns.length < 64 then some (Rs.c (.lst ((dups ns).map D.int))) else none
      | none => none) = _
    rw [intsD_map]
    simp only [if_pos q]
    rfl
  · cases hq)
theorem j_countL {xs : List Int} (h1 : mo s = .ok x s1) (hx : drf s1.sto x = eL eI xs) (h2 : ma s1 = .ok (eI a) s2) (hx2 : drf s2.sto x = eL eI xs) : eMtL (pu gCount) mo (eCons ma (ret [])) s = .ok (eI (xs.count a : Nat)) s2 := by
  unfold eMtL bnd
  rw [h1]
  have e1 : isLst (drf s1.sto x) = true := by rw [hx]; rfl
  simp only [e1, if_true]
  rw [j_cons h2 j_ret]
  have e2 : gCount s2.sto [eL eI xs, eI a] = some (.int (xs.count a : Nat)) := by
    show (intsD (xs.map eI)).map (fun ns => D.int (ns.count a : Nat)) = _
    rw [intsD_map]
    rfl
  have e3 : pu gCount s2 [x, eI a] = some (.int (xs.count a : Nat), s2) := by
    unfold pu
    simp only [List.map_cons, List.map_nil, hx2]
    rw [show drf s2.sto (eI a) = eI a from rfl, e2]
    rfl
  simp only [e3]
  rfl
/-! typed values out of things of any shape -/
def intsU : List U → Option (List Int)
  | [] => some []
  | .int i :: r => (intsU r).map (i :: ·)
  | _ => none
theorem intsU_map : ∀ {us : List U} {ns : List Int}, intsU us = some ns → eUA us = ns.map eI
  | [], ns, h => by cases h; rfl
  | .int i :: r, ns, h => by
    unfold intsU at h
    cases q : intsU r with
    | none => rw [q] at h; cases h
    | some m =>
      rw [q] at h
      cases h
      show eU (.int i) :: eUA r = eI i :: m.map eI
      rw [intsU_map q]
      rfl
  | .non :: _, _, h => by cases h
  | .bl _ :: _, _, h => by cases h
  | .str _ :: _, _, h => by cases h
  | .tup _ :: _, _, h => by cases h
  | .lst _ :: _, _, h => by cases h
def vintU : U → Option (List Int)
  | .tup us => intsU us
  | _ => none
theorem j_vintU {u : U} {ns : List Int} (h : ma s = .ok (eU u) s1) (hq : vintU u = some ns) : ma s = .ok (eV eI ns) s1 := by
  cases u <;> try cases hq
  rename_i us
  rw [h]
  show Out.ok (D.tup (eUA us)) s1 = .ok (D.tup (ns.map eI)) s1
  rw [intsU_map hq]
end
section
variable {α β γ δ : Type} {f : U → Option α} {g : U → Option β} {h : U → Option γ} {k : U → Option δ} {e : α → D} {e2' : β → D} {e3 : γ → D} {e4 : δ → D}
/-- f reads what e writes -/
def RdU (f : U → Option α) (e : α → D) : Prop := ∀ u a, f u = some a → eU u = e a
theorem rd_I : RdU intU eI := fun u a q => by cases u <;> cases q; rfl
theorem rd_B : RdU blU eB := fun u a q => by cases u <;> cases q; rfl
theorem rd_S : RdU strU eS := fun u a q => by cases u <;> cases q; rfl
theorem rd_id : RdU (some ·) eU := fun u a q => by cases q; rfl
def xO (f : U → Option α) : U → Option (Option α)
  | .non => some none
  | u => (f u).map some
theorem rd_O (hf : RdU f e) : RdU (xO f) (eO e) := fun u a q => by
  cases u with
  | non => cases q; rfl
  | _ =>
    unfold xO at q
    simp only [Option.map_eq_some_iff] at q
    obtain ⟨b, q1, rfl⟩ := q
    exact hf _ _ q1
def xA (f : U → Option α) : List U → Option (List α)
  | [] => some []
  | u :: us => (f u).bind fun a => (xA f us).map (a :: ·)
theorem rd_A (hf : RdU f e) : ∀ us xs, xA f us = some xs → eUA us = xs.map e
  | [], xs, q => by cases q; rfl
  | u :: us, xs, q => by
    unfold xA at q
    obtain ⟨a, q1, q2⟩ := Option.bind_eq_some_iff.mp q
    obtain ⟨b, q3, rfl⟩ := Option.map_eq_some_iff.mp q2
    show eU u :: eUA us = e a :: b.map e
    rw [hf _ _ q1, rd_A hf us b q3]
def xV (f : U → Option α) : U → Option (List α)
  | .tup us => xA f us
  | _ => none
theorem rd_V (hf : RdU f e) : RdU (xV f) (eV e) := fun u a q => by
  cases u <;> try cases q
  rename_i us
  show D.tup (eUA us) = .tup (a.map e)
  rw [rd_A hf us a q]
def xL (f : U → Option α) : U → Option (List α)
  | .lst us => xA f us
  | _ => none
theorem rd_L (hf : RdU f e) : RdU (xL f) (eL e) := fun u a q => by
  cases u <;> try cases q
  rename_i us
  show D.lst (eUA us) = .lst (a.map e)
  rw [rd_A hf us a q]
def xP2 (f : U → Option α) (g : U → Option β) : U → Option (α × β)
  | .tup [a, b] => (f a).bind fun x => (g b).map fun y => (x, y)
  | _ => none
theorem rd_P2 (hf : RdU f e) (hg : RdU g e2') : RdU (xP2 f g) (eP2 e e2') := fun u a q => by
  unfold xP2 at q
  split at q
  · obtain ⟨x, q1, q⟩ := Option.bind_eq_some_iff.mp q
    obtain ⟨y, q2, rfl⟩ := Option.map_eq_some_iff.mp q
    show D.tup [eU _, eU _] = .tup [e x, e2' y]
    rw [hf _ _ q1, hg _ _ q2]
  · cases q
def xP3 (f : U → Option α) (g : U → Option β) (h : U → Option γ) : U → Option (α × β × γ)
  | .tup [a, b, c] => (f a).bind fun x => (g b).bind fun y => (h c).map fun z => (x, y, z)
  | _ => none
theorem rd_P3 (hf : RdU f e) (hg : RdU g e2') (hh : RdU h e3) : RdU (xP3 f g h) (eP3 e e2' e3) := fun u a q => by
  unfold xP3 at q
  split at q
  · obtain ⟨x, q1, q⟩ := Option.bind_eq_some_iff.mp q
    obtain ⟨y, q2, q⟩ := Option.bind_eq_some_iff.mp q
    obtain ⟨z, q3, rfl⟩ := Option.map_eq_some_iff.mp q
    show D.tup [eU _, eU _, eU _] = .tup [e x, e2' y, e3 z]
    rw [hf _ _ q1, hg _ _ q2, hh _ _ q3]
  · cases q
def xP4 (f : U → Option α) (g : U → Option β) (h : U → Option γ) (k : U → Option δ) : U → Option (α × β × γ × δ)
  | .tup [a, b, c, d] => (f a).bind fun x => (g b).bind fun y => (h c).bind fun z => (k d).map fun v => (x, y, z, v)
  | _ => none
theorem rd_P4 (hf : RdU f e) (hg : RdU g e2') (hh : RdU h e3) (hk : RdU k e4) : RdU (xP4 f g h k) (eP4 e e2' e3 e4) := fun u a q => by
  unfold xP4 at q
  split at q
  · obtain ⟨x, q1, q⟩ := Option.bind_eq_some_iff.mp q
    obtain ⟨y, q2, q⟩ := Option.bind_eq_some_iff.mp q
    obtain ⟨z, q3, q⟩ := Option.bind_eq_some_iff.mp q
    obtain ⟨v, q4, rfl⟩ := Option.map_eq_some_iff.mp q
    show D.tup [eU _, eU _, eU _, eU _] = .tup [e x, e2' y, e3 z, e4 v]
    rw [hf _ _ q1, hg _ _ q2, hh _ _ q3, hk _ _ q4]
  · cases q
theorem j_frU {ma : M D} {s s1 : S} {u : U} {a : α} (hr : RdU f e) (hm : ma s = .ok (eU u) s1) (hq : f u = some a) : ma s = .ok (e a) s1 := by rw [hm, hr _ _ hq]
/-! what was written is read again -/
theorem xA_map {p : α → U} (hf : ∀ a, f (p a) = some a) : ∀ xs : List α, xA f (xs.map p) = some xs
  | [] => rfl
  | x :: xs => by
    show (f (p x)).bind (fun a => (xA f (xs.map p)).map (a :: ·)) = _
    rw [hf, xA_map hf xs]; rfl
theorem xV_u {p : α → U} (hf : ∀ a, f (p a) = some a) (xs : List α) : xV f (uV p xs) = some xs := xA_map hf xs
theorem xL_u {p : α → U} (hf : ∀ a, f (p a) = some a) (xs : List α) : xL f (uL p xs) = some xs := xA_map hf xs
theorem xP4_u {p : α → U} {q : β → U} {r : γ → U} {t : δ → U} (hf : ∀ a, f (p a) = some a) (hg : ∀ a, g (q a) = some a) (hh : ∀ a, h (r a) = some a) (hk : ∀ a, k (t a) = some a) (a : α × β × γ × δ) : xP4 f g h k (uP4 p q r t a) = some a := by
  show (f (p a.1)).bind (fun x => (g (q a.2.1)).bind fun y => (h (r a.2.2.1)).bind fun z => (k (t a.2.2.2)).map fun v => (x, y, z, v)) = _
  rw [hf, hg, hh, hk]; rfl
theorem xO_uI (o : Option Int) : xO intU (uO uI o) = some o := by cases o <;> rfl
end
end LW
namespace LW
open PySem PySem.Spec L2
/-! max with a default; lists and tuples of things of any shape -/
def maxDQ (k : Int) (xs : List Int) : Option Int := if xs.length = 0 then some k else maxQ eI xs
section
variable {α : Type} {e : α → D} {f : α → U} {ma : M D} {s s1 : S} {x : D}
theorem j_maxDL {k : Int} {xs : List Int} {v : Int} (h : ma s = .ok x s1) (hx : drf s1.sto x = eL eI xs) (hq : maxDQ k xs = some v) : eMaxD k ma s = .ok (eI v) s1 := by
  unfold eMaxD bnd
  rw [h]
  show (match gMaxD k (drf s1.sto x) with | some v => Out.ok v s1 | none => .bad) = _
  rw [hx]
  show (match gMaxD k (D.lst (xs.map eI)) with | some v => Out.ok v s1 | none => .bad) = _
  unfold maxDQ at hq
  unfold gMaxD
  cases xs with
  | nil => cases hq; rfl
  | cons y ys =>
    rw [if_neg (by simp)] at hq
    show (match (if (y :: ys).map eI = [] then some (D.int k) else if okAl ((y :: ys).map eI) = true then ((y :: ys).map eI)[maxAt ((y :: ys).map eI)]? else none) with | some v => Out.ok v s1 | none => Out.bad) = _
    rw [if_neg (by simp)]
    unfold maxQ at hq
    by_cases q : okAl ((y :: ys).map eI) = true
    · rw [if_pos q] at hq ⊢
      rw [List.getElem?_map, hq]
      rfl
    · rw [if_neg q] at hq
      cases hq
theorem j_mapV {xs : List α} (h : ma s = .ok (eV e xs) s1) (hf : ∀ a, eU (f a) = e a) : ma s = .ok (eV eU (xs.map f)) s1 := by
  rw [h]
  show Out.ok (D.tup (xs.map e)) s1 = .ok (D.tup ((xs.map f).map eU)) s1
  rw [← eUA_of hf, eUA_map]
theorem j_mapL {xs : List α} (h : ma s = .ok (eL e xs) s1) (hf : ∀ a, eU (f a) = e a) : ma s = .ok (eL eU (xs.map f)) s1 := by
  rw [h]
  show Out.ok (D.lst (xs.map e)) s1 = .ok (D.lst ((xs.map f).map eU)) s1
  rw [← eUA_of hf, eUA_map]
end
end LW
namespace LW
open PySem PySem.Spec L2

/-! what can be shown -/
structure Sh (n k : Nat) (d : D) : Prop where
  fl : flt d = true
  lf : (py d).leavesShort 64 = true
  bk : (py d).bulk ≤ n
  sw : (py d).showable = true
  hd : (py d).hasDict = false
  dp : (py d).depth ≤ k
structure ShA (n k : Nat) (ds : List D) : Prop where
  fl : fltA ds = true
  lf : PyData.leavesShortAll 64 (pyA ds) = true
  bk : PyData.bulkAll (pyA ds) ≤ n
  sw : PyData.showableAll (pyA ds) = true
  hd : PyData.hasDictAll (pyA ds) = false
  dp : PyData.depthAll (pyA ds) ≤ k
theorem reprQ_ok {n k : Nat} {d : D} (h : Sh n k d) (hn : n ≤ 250000 := by omega) (hk : k < 60 := by omega) : ∃ s, reprQ d = some s := by
  have h1 := PyData.shown_le_bulk 64 (by omega) (py d) h.lf
  have h2 := h.bk
  have h3 := h.dp
  have e1 : decide ((py d).depth < 60) = true := decide_eq_true (by omega)
  have e2 : decide ((py d).shown.length ≤ 16777216) = true := decide_eq_true (by omega)
  have key : okShow (py d) = true := by
    unfold okShow
    rw [h.sw, h.hd, e1, e2]
    rfl
  exact ⟨(py d).shown, if_pos ⟨h.fl, key⟩⟩
theorem Sh.mono {n k n' k' : Nat} {d : D} (h : Sh n k d) (hn : n ≤ n' := by omega) (hk : k ≤ k' := by omega) : Sh n' k' d := ⟨h.fl, h.lf, Nat.le_trans h.bk hn, h.sw, h.hd, Nat.le_trans h.dp hk⟩
theorem shA_nil {k : Nat} : ShA 0 k [] := ⟨rfl, rfl, Nat.le_refl _, rfl, rfl, Nat.zero_le _⟩
theorem shA_cons {n m k : Nat} {d : D} {ds : List D} (h : Sh n k d) (t : ShA m k ds) : ShA (n + 1 + m) k (d :: ds) :=
  ⟨by simp [fltA, h.fl, t.fl], by simp [pyA, PyData.leavesShortAll, h.lf, t.lf], by have := h.bk; have := t.bk; simp only [pyA, PyData.bulkAll]; omega, by simp [pyA, PyData.showableAll, h.sw, t.sw], by simp [pyA, PyData.hasDictAll, h.hd, t.hd],
   by have := h.dp; have := t.dp; simp only [pyA, PyData.depthAll]; omega⟩
theorem sh_lst {n k : Nat} {ds : List D} (h : ShA n k ds) : Sh n (k + 1) (.lst ds) := ⟨h.fl, by simpa [py, PyData.leavesShort] using h.lf, by simpa [py, PyData.bulk] using h.bk, by simpa [py, PyData.showable] using h.sw, by simpa [py, PyData.hasDict] using h.hd, by have := h.dp; simp only [py, PyData.depth]; omega⟩
theorem sh_tup {n k : Nat} {ds : List D} (h : ShA n k ds) : Sh n (k + 1) (.tup ds) := ⟨h.fl, by simpa [py, PyData.leavesShort] using h.lf, by simpa [py, PyData.bulk] using h.bk, by simpa [py, PyData.showable] using h.sw, by simpa [py, PyData.hasDict] using h.hd, by have := h.dp; simp only [py, PyData.depth]; omega⟩
theorem sh_non {k : Nat} : Sh 0 k .non := ⟨rfl, rfl, Nat.le_refl _, rfl, rfl, Nat.zero_le _⟩
theorem sh_Z {k : Nat} {u : Unit} : Sh 0 k (eZ u) := sh_non
theorem sh_B {k : Nat} {b : Bool} : Sh 0 k (eB b) := ⟨rfl, rfl, Nat.le_refl _, rfl, rfl, Nat.zero_le _⟩
theorem sh_I {k : Nat} {i : Int} (h : i.natAbs < 10 ^ 63) : Sh 0 k (eI i) := by
  refine ⟨rfl, ?_, Nat.le_refl _, ?_, rfl, Nat.zero_le _⟩
  · have q : (PyData.shown (.int i)).length ≤ 64 := by
      have e := int_text_length_le10 (a := i) (k := 63) (by omega) h
      show (Str.ofString (toString i)).length ≤ 64
      rw [PySem.ofString_length]; exact e
    simp only [eI, py, PyData.leavesShort, decide_eq_true_eq]
    exact q
  · simp only [eI, py, PyData.showable, decide_eq_true_eq]
    by_cases h0 : i.natAbs = 0
    · rw [h0]; decide
    · rw [Nat.log2_lt h0]
      exact Nat.lt_trans h (by decide +kernel)
theorem sh_I' {k : Nat} {i : Int} {b : Int} (h0 : 0 ≤ i) (h : i ≤ b) (hb : b < 10 ^ 63 := by decide) : Sh 0 k (eI i) := sh_I (by
  have : i < 10 ^ 63 := Int.lt_of_le_of_lt h hb
  omega)
section
variable {α β γ δ : Type} {e : α → D} {e1 : α → D} {e2' : β → D} {e3 : γ → D} {e4 : δ → D} {n k m n1 n2 n3 n4 : Nat}
theorem sh_O {o : Option α} (h : ∀ a, o = some a → Sh n k (e a)) : Sh n k (eO e o) := by
  cases o with
  | none => exact (sh_non (k := k)).mono (by omega) (by omega)
  | some a => exact h a rfl
theorem shA_map : ∀ {xs : List α} {m : Nat}, xs.length ≤ m → (∀ a ∈ xs, Sh n k (e a)) → ShA (m * (n + 1)) k (xs.map e)
  | [], m, _, _ => ⟨rfl, rfl, Nat.zero_le _, rfl, rfl, Nat.zero_le _⟩
  | x :: xs, 0, hm, _ => by simp at hm
  | x :: xs, m + 1, hm, h => by
    have t := shA_map (m := m) (xs := xs) (by simpa using hm) fun a ha => h a (List.mem_cons_of_mem _ ha)
    have c := shA_cons (h x List.mem_cons_self) t
    rw [Nat.succ_mul, Nat.add_comm]
    exact c
theorem sh_L {xs : List α} (hm : xs.length ≤ m) (h : ∀ a ∈ xs, Sh n k (e a)) : Sh (m * (n + 1)) (k + 1) (eL e xs) := sh_lst (shA_map hm h)
theorem sh_V {xs : List α} (hm : xs.length ≤ m) (h : ∀ a ∈ xs, Sh n k (e a)) : Sh (m * (n + 1)) (k + 1) (eV e xs) := sh_tup (shA_map hm h)
theorem sh_P1 {a : α} (h1 : Sh n1 k (e1 a)) : Sh (n1 + 1) (k + 1) (eP1 e1 a) := sh_tup (shA_cons h1 shA_nil)
theorem sh_P2 {a : α} {b : β} (h1 : Sh n1 k (e1 a)) (h2 : Sh n2 k (e2' b)) : Sh (n1 + 1 + (n2 + 1)) (k + 1) (eP2 e1 e2' (a, b)) := sh_tup (shA_cons h1 (shA_cons h2 shA_nil))
theorem sh_P3 {a : α} {b : β} {c : γ} (h1 : Sh n1 k (e1 a)) (h2 : Sh n2 k (e2' b)) (h3 : Sh n3 k (e3 c)) : Sh (n1 + 1 + (n2 + 1 + (n3 + 1))) (k + 1) (eP3 e1 e2' e3 (a, b, c)) := sh_tup (shA_cons h1 (shA_cons h2 (shA_cons h3 shA_nil)))
theorem sh_P4 {a : α} {b : β} {c : γ} {d : δ} (h1 : Sh n1 k (e1 a)) (h2 : Sh n2 k (e2' b)) (h3 : Sh n3 k (e3 c)) (h4 : Sh n4 k (e4 d)) : Sh (n1 + 1 + (n2 + 1 + (n3 + 1 + (n4 + 1)))) (k + 1) (eP4 e1 e2' e3 e4 (a, b, c, d)) := sh_tup (shA_cons h1 (shA_cons h2 (shA_cons h3 (shA_cons h4 shA_nil))))
end

/-! loops -/
section
variable {σ ρ α β τ : Type}
theorem forQ_ok {f : σ → α → Option σ} (I : Nat → σ → Prop) {xs : List α} {s : σ} (h0 : I 0 s) (h : ∀ k x s, xs[k]? = some x → I k s → ∃ s', f s x = some s' ∧ I (k + 1) s') : ∃ s', forQ f xs s = some s' ∧ I xs.length s' := by
  induction xs generalizing s I with
  | nil => exact ⟨s, rfl, h0⟩
  | cons x xs ih =>
    obtain ⟨s1, h1, h2⟩ := h 0 x s rfl h0
    obtain ⟨s2, h3, h4⟩ := ih (fun k => I (k + 1)) h2 fun k y s hk hs => h (k + 1) y s (by simpa using hk) hs
    exact ⟨s2, by unfold forQ; rw [h1]; exact h3, h4⟩
theorem forR_ok {f : σ → α → Option (σ ⊕ ρ)} (I : Nat → σ → Prop) {xs : List α} {s : σ} (h0 : I 0 s) (h : ∀ k x s, xs[k]? = some x → I k s → ∃ s', f s x = some (.inl s') ∧ I (k + 1) s') : ∃ s', forR f xs s = some (.inl s') ∧ I xs.length s' := by
  induction xs generalizing s I with
  | nil => exact ⟨s, rfl, h0⟩
  | cons x xs ih =>
    obtain ⟨s1, h1, h2⟩ := h 0 x s rfl h0
    obtain ⟨s2, h3, h4⟩ := ih (fun k => I (k + 1)) h2 fun k y s hk hs => h (k + 1) y s (by simpa using hk) hs
    exact ⟨s2, by unfold forR; rw [h1]; exact h3, h4⟩
/-- a pure loop is a fold -/
theorem forQ_fold {f : σ → α → Option σ} {g : σ → α → σ} {xs : List α} {s : σ} (h : ∀ s x, x ∈ xs → f s x = some (g s x)) : forQ f xs s = some (xs.foldl g s) := by
  induction xs generalizing s with
  | nil => rfl
  | cons x xs ih =>
    unfold forQ
    rw [h s x List.mem_cons_self]
    exact ih fun s y hy => h s y (List.mem_cons_of_mem _ hy)
theorem compQ_eq {f : α → Option (Option β)} {g : α → Option β} {xs : List α} (h : ∀ x ∈ xs, f x = some (g x)) : compQ f xs = some (xs.filterMap g) := by
  induction xs with
  | nil => rfl
  | cons x xs ih =>
    unfold compQ
    rw [h x List.mem_cons_self, ih fun y hy => h y (List.mem_cons_of_mem _ hy)]
    simp only [Option.bind_some, List.filterMap_cons]
    cases g x <;> rfl
theorem compT_ok {f : τ → α → Option (Option β × τ)} (I : Nat → List β → τ → Prop) {xs : List α} {T : τ} (h0 : I 0 [] T) (h : ∀ k x ys T, xs[k]? = some x → I k ys T → ∃ y T', f T x = some (some y, T') ∧ I (k + 1) (ys ++ [y]) T') : ∃ ys T', compT f xs T = some (ys, T') ∧ I xs.length ys T' := by
  have gen : ∀ (xs : List α) (J : Nat → List β → τ → Prop) (acc : List β) (T : τ), J 0 acc T → (∀ k x ys T, xs[k]? = some x → J k ys T → ∃ y T', f T x = some (some y, T') ∧ J (k + 1) (ys ++ [y]) T') → ∃ ys T', compT f xs T = some (ys, T') ∧ J xs.length (acc ++ ys) T' := by
    intro xs
    induction xs with
    | nil => exact fun J acc T h0 _ => ⟨[], T, rfl, by simpa using h0⟩
    | cons x xs ih =>
      intro J acc T h0 h
      obtain ⟨y, T1, h1, h2⟩ := h 0 x acc T rfl h0
      obtain ⟨ys, T2, h3, h4⟩ := ih (fun k => J (k + 1)) (acc ++ [y]) T1 h2 fun k z ys T hk hs => h (k + 1) z ys T (by simpa using hk) hs
      refine ⟨y :: ys, T2, ?_, by simpa using h4⟩
      unfold compT
      rw [h1]
      simp only [Option.bind_some, h3]
  obtain ⟨ys, T', h1, h2⟩ := gen xs I [] T h0 h
  exact ⟨ys, T', h1, by simpa using h2⟩
theorem rngQ_ok {lo hi : Int} (h1 : -1000000 ≤ lo := by omega) (h2 : lo ≤ 1000000 := by omega) (h3 : -1000000 ≤ hi := by omega) (h4 : hi ≤ 1000000 := by omega) : rngQ lo hi = some (rngI lo hi) := by
  unfold rngQ
  rw [if_pos (by omega)]
theorem rngI_len {lo hi : Int} : (rngI lo hi).length = (hi - lo).toNat := by simp [rngI]
theorem rngI_get {lo hi : Int} {k : Nat} {x : Int} (h : (rngI lo hi)[k]? = some x) : x = lo + k ∧ lo ≤ x ∧ x < hi := by
  unfold rngI at h
  rw [List.getElem?_map] at h
  cases q : (List.range (hi - lo).toNat)[k]? with
  | none => rw [q] at h; cases h
  | some j =>
    rw [q] at h
    have hj := List.getElem?_eq_some_iff.mp q
    obtain ⟨h1, h2⟩ := hj
    simp at h1 h2
    subst h2
    simp at h
    omega
theorem mem_rngI {lo hi x : Int} : x ∈ rngI lo hi ↔ lo ≤ x ∧ x < hi := by
  unfold rngI
  simp only [List.mem_map, List.mem_range]
  constructor
  · rintro ⟨k, h1, h2⟩; omega
  · rintro ⟨h1, h2⟩; exact ⟨(x - lo).toNat, by omega, by omega⟩
end

/-! lists and tables -/
section
variable {α β κ : Type}
theorem ixQ_ok {xs : List α} {i : Int} (h0 : 0 ≤ i) (h1 : i < xs.length) : ∃ v, ixQ xs i = some v ∧ xs[i.toNat]? = some v := by
  have h : i.toNat < xs.length := by omega
  refine ⟨xs[i.toNat], ?_, List.getElem?_eq_getElem h⟩
  unfold ixQ atI ixN
  rw [if_pos h0, if_pos h1]
  simp [h]
theorem ixQ_nat {xs : List α} {i : Nat} : ixQ xs (i : Int) = xs[i]? := by
  unfold ixQ atI ixN
  rw [if_pos (by omega)]
  by_cases h : i < xs.length
  · rw [if_pos (by omega)]; simp
  · rw [if_neg (by omega)]
    rw [List.getElem?_eq_none (by omega)]; rfl
theorem ixQ_zero {xs : List α} : ixQ xs 0 = xs.head? := by
  have h := ixQ_nat (xs := xs) (i := 0)
  rw [List.head?_eq_getElem?]
  exact h
theorem appQ_ok {xs : List α} {y : α} (h : xs.length < 16777216) : appQ xs y = some (xs ++ [y]) := if_pos h
theorem catQ_ok {xs ys : List α} (h : xs.length + ys.length ≤ 16777216) : catQ xs ys = some (xs ++ ys) := if_pos h
theorem mulQ_ok {i j : Int} (h : -18446744073709551616 < i ∧ i < 18446744073709551616) : mulQ i j = some (i * j) := if_pos (.inl h)
theorem mulQ_ok' {i j : Int} (h : -18446744073709551616 < j ∧ j < 18446744073709551616) : mulQ i j = some (i * j) := if_pos (.inr h)
theorem modQ_ok {i j : Int} (h : 0 < j) : modQ i j = some (i % j) := if_pos h
theorem divQ_ok {i j : Int} (h : 0 < j) (h2 : j < 1073741824) : divQ i j = some (i / j) := if_pos ⟨h, h2⟩
variable [DecidableEq κ]
theorem luQ_putV {kvs : List (κ × α)} {k k' : κ} {v : α} (h : k ∈ kvs.map (·.1)) : luQ (putV kvs k v) k' = if k = k' then some v else luQ kvs k' := by
  induction kvs with
  | nil => simp at h
  | cons p r ih =>
    simp only [putV, luQ]
    by_cases h1 : p.1 = k
    · rw [if_pos h1]
      by_cases h2 : p.1 = k'
      · rw [if_pos h2, if_pos (h1.symm.trans h2)]
      · rw [if_neg h2, if_neg (fun z => h2 (h1.trans z)), if_neg h2]
        clear ih h
        -- the rest may be changed at k alone
        have : ∀ r : List (κ × α), luQ (putV r k v) k' = luQ r k' := fun r => by
          induction r with
          | nil => rfl
          | cons q r ih =>
            simp only [putV, luQ]
            by_cases h3 : q.1 = k
            · rw [if_pos h3, if_neg (fun z : q.1 = k' => h2 (h1.trans (h3.symm.trans z))), if_neg (fun z : q.1 = k' => h2 (h1.trans (h3.symm.trans z))), ih]
            · rw [if_neg h3, ih]
        exact this r
    · rw [if_neg h1]
      have h' : k ∈ r.map (·.1) := by
        rcases List.mem_cons.mp h with z | z
        · exact absurd z.symm h1
        · exact z
      by_cases h2 : p.1 = k'
      · rw [if_pos h2, if_pos h2, if_neg (fun z => h1 (h2.trans z.symm))]
      · rw [if_neg h2, if_neg h2, ih h']
theorem luQ_none {kvs : List (κ × α)} {k : κ} : luQ kvs k = none ↔ k ∉ kvs.map (·.1) := by
  induction kvs with
  | nil => simp [luQ]
  | cons p r ih =>
    simp only [luQ, List.map_cons, List.mem_cons, not_or]
    by_cases h : p.1 = k
    · simp [h]
    · rw [if_neg h, ih]
      exact ⟨fun z => ⟨fun w => h w.symm, z⟩, fun z => z.2⟩
theorem luQ_app {kvs l : List (κ × α)} {k : κ} : luQ (kvs ++ l) k = (luQ kvs k).or (luQ l k) := by
  induction kvs with
  | nil => simp [luQ]
  | cons p r ih =>
    simp only [List.cons_append, luQ]
    split
    · simp
    · exact ih
theorem luQ_putL {kvs : List (κ × α)} {k k' : κ} {v : α} : luQ (putL kvs k v) k' = if k = k' then some v else luQ kvs k' := by
  unfold putL
  by_cases h : k ∈ kvs.map (·.1)
  · rw [if_pos h, luQ_putV h]
  · rw [if_neg h, luQ_app]
    by_cases h2 : k = k'
    · subst h2
      rw [luQ_none.mpr h]
      simp [luQ]
    · simp [luQ, h2]
theorem luQ_dictL {ps : List (κ × α)} {k : κ} : ∀ {kvs : List (κ × α)}, (ps.map (·.1)).Nodup → luQ (dictL kvs ps) k = (luQ ps k).or (luQ kvs k) := by
  induction ps with
  | nil => intro kvs _; simp [dictL, luQ]
  | cons p r ih =>
    intro kvs h
    have h' : p.1 ∉ r.map (·.1) ∧ (r.map (·.1)).Nodup := List.nodup_cons.mp h
    unfold dictL
    rw [ih h'.2, luQ_putL]
    simp only [luQ]
    by_cases h2 : p.1 = k
    · rw [if_pos h2, if_pos h2]
      have : luQ r k = none := luQ_none.mpr (by rw [← h2]; exact h'.1)
      rw [this]; rfl
    · rw [if_neg h2, if_neg h2]
theorem luQ_map {f : α → κ} {g : α → β} {xs : List α} {k : κ} : luQ (xs.map fun x => (f x, g x)) k = (xs.find? fun x => decide (f x = k)).map g := by
  induction xs with
  | nil => rfl
  | cons x xs ih =>
    simp only [List.map_cons, luQ, List.find?_cons]
    by_cases h : f x = k
    · simp [h]
    · simp [h, ih]
end

/-! the least of a list -/
theorem eI_py (i : Int) : py (eI i) = .int i := rfl
theorem okAl_pairs (xs : List (Int × Int)) : okAl (xs.map (eP2 eI eI)) = true := by
  have hp : ∀ xs : List (Int × Int), pyA (xs.map (eP2 eI eI)) = xs.map fun p => PyData.tuple [.int p.1, .int p.2] := fun xs => by
    induction xs with
    | nil => rfl
    | cons p r ih => simp only [List.map_cons, pyA, ih]; rfl
  unfold okAl
  rw [hp]
  have hf : fltA (xs.map (eP2 eI eI)) = true := fltA_map (fun a => rfl) xs
  have hd : PyData.depthAll (xs.map fun p => PyData.tuple [.int p.1, .int p.2]) ≤ 1 := by
    induction xs with
    | nil => simp [PyData.depthAll]
    | cons p r ih =>
      simp only [List.map_cons, PyData.depthAll, PyData.depth]
      have := ih (fltA_map (fun a => rfl) r)
      omega
  rw [hf]
  simp only [Bool.true_and, Bool.and_eq_true, List.all_eq_true, List.mem_map, decide_eq_true_eq]
  refine ⟨⟨?_, ?_⟩, by omega⟩
  · rintro x ⟨p, _, rfl⟩ y ⟨q, _, rfl⟩
    simp [PySem.W.alike, PySem.W.alikeAll]
  · rintro x ⟨p, _, rfl⟩
    rfl
theorem pyA_getD {α : Type} {e : α → D} : ∀ {xs : List α} {i : Nat} {a : α}, xs[i]? = some a → (pyA (xs.map e)).getD i .none = py (e a)
  | [], _, _, h => by simp at h
  | x :: xs, 0, a, h => by simp at h; subst h; rfl
  | x :: xs, i + 1, a, h => by
    have := pyA_getD (e := e) (xs := xs) (i := i) (a := a) (by simpa using h)
    simpa [pyA] using this
theorem minQ_pairs {xs : List (Int × Int)} (h : xs ≠ []) : ∃ m, minQ (eP2 eI eI) xs = some m ∧ m ∈ xs ∧ ∀ x ∈ xs, m.1 < x.1 ∨ (m.1 = x.1 ∧ m.2 ≤ x.2) := by
  cases xs with
  | nil => exact absurd rfl h
  | cons x xs =>
    have key : ∀ k, k < (x :: xs).length → ∃ m, (x :: xs)[argBest (fun i j => PySem.W.dataLt ((pyA ((x :: xs).map (eP2 eI eI))).getD i .none) ((pyA ((x :: xs).map (eP2 eI eI))).getD j .none)) k]? = some m ∧ ∀ j y, j ≤ k → (x :: xs)[j]? = some y → m.1 < y.1 ∨ (m.1 = y.1 ∧ m.2 ≤ y.2) := by
      intro k
      induction k with
      | zero =>
        intro _
        refine ⟨x, rfl, fun j y hj hy => ?_⟩
        have : j = 0 := by omega
        subst this
        cases hy
        exact .inr ⟨rfl, Int.le_refl _⟩
      | succ k ih =>
        intro hk
        obtain ⟨m, h1, h2⟩ := ih (by omega)
        have hy : (x :: xs)[k + 1]? = some ((x :: xs)[k + 1]) := List.getElem?_eq_getElem hk
        unfold argBest
        rw [pyA_getD hy, pyA_getD h1]
        have e : ∀ a b : Int × Int, PySem.W.dataLt (py (eP2 eI eI a)) (py (eP2 eI eI b)) = decide (a.1 < b.1 ∨ (a.1 = b.1 ∧ a.2 < b.2)) := fun a b => PySem.W.dataLt_ii _ _ _ _
        rw [e]
        generalize (x :: xs)[k + 1] = y at hy ⊢
        by_cases hl : y.1 < m.1 ∨ (y.1 = m.1 ∧ y.2 < m.2)
        · rw [if_pos (by simpa using hl)]
          refine ⟨y, hy, fun j z hj hz => ?_⟩
          by_cases hjk : j ≤ k
          · have := h2 j z hjk hz; omega
          · have : j = k + 1 := by omega
            subst this
            rw [hy] at hz; cases hz
            exact .inr ⟨rfl, Int.le_refl _⟩
        · rw [if_neg (by simpa using hl)]
          refine ⟨m, h1, fun j z hj hz => ?_⟩
          by_cases hjk : j ≤ k
          · exact h2 j z hjk hz
          · have : j = k + 1 := by omega
            subst this
            rw [hy] at hz; cases hz
            omega
    obtain ⟨m, h1, h2⟩ := key ((x :: xs).length - 1) (by simp)
    refine ⟨m, ?_, List.mem_of_getElem? h1, fun y hy => ?_⟩
    · unfold minQ
      rw [if_pos (okAl_pairs _)]
      unfold minAt
      rw [List.length_map]
      exact h1
    · obtain ⟨j, hj, e⟩ := List.getElem_of_mem hy
      exact h2 j y (by omega) (by rw [List.getElem?_eq_getElem hj, e])

/-! the tape -/
structure Tk (b : Int) (T : TT) : Prop where
  s0 : 0 ≤ T.sp
  sb : T.sp ≤ b
  r0 : 0 ≤ T.r
theorem Tk.mono {b c : Int} {T : TT} (h : Tk b T) (hb : b ≤ c) : Tk c T := ⟨h.s0, by have := h.sb; omega, h.r0⟩

/-! what holds of an outcome -/
section
variable {α β γ σ ρ τ : Type}
def Sat (q : Option α) (P : α → Prop) : Prop := ∃ v, q = some v ∧ P v
theorem Sat.ret {v : α} {P : α → Prop} (h : P v) : Sat (some v) P := ⟨v, rfl, h⟩
theorem Sat.imp {q : Option α} {P Q : α → Prop} (h : Sat q P) (k : ∀ v, P v → Q v) : Sat q Q := let ⟨v, e, p⟩ := h; ⟨v, e, k v p⟩
theorem Sat.bind {q : Option α} {f : α → Option β} {P : α → Prop} {Q : β → Prop} (h : Sat q P) (k : ∀ v, P v → Sat (f v) Q) : Sat (q.bind f) Q := by
  obtain ⟨v, e, p⟩ := h
  rw [e]
  exact k v p
theorem Sat.bindE {q : Option α} {v : α} {f : α → Option β} {Q : β → Prop} (h : q = some v) (k : Sat (f v) Q) : Sat (q.bind f) Q := by rw [h]; exact k
theorem Sat.lq {p : α} {f : α → Option β} {Q : β → Prop} (k : Sat (f p) Q) : Sat (LW.lq p f) Q := k
theorem Sat.ite {c : Bool} {a b : Option α} {Q : α → Prop} (h1 : c = true → Sat a Q) (h2 : c = false → Sat b Q) : Sat (if c = true then a else b) Q := by
  cases c with
  | true => exact h1 rfl
  | false => exact h2 rfl
theorem Sat.t {c : Bool} {a b : Option α} {Q : α → Prop} (hc : c = true) (h1 : Sat a Q) : Sat (if c = true then a else b) Q := by rw [if_pos hc]; exact h1
theorem Sat.f {c : Bool} {a b : Option α} {Q : α → Prop} (hc : c = false) (h1 : Sat b Q) : Sat (if c = true then a else b) Q := by rw [if_neg (by rw [hc]; decide)]; exact h1
theorem Sat.forQ {f : σ → α → Option σ} {xs : List α} {s : σ} (I : Nat → σ → Prop) (h0 : I 0 s) (h : ∀ k x s, xs[k]? = some x → I k s → Sat (f s x) (I (k + 1))) : Sat (LW.forQ f xs s) (I xs.length) := forQ_ok I h0 h
theorem Sat.forR {f : σ → α → Option (σ ⊕ ρ)} {xs : List α} {s : σ} (I : Nat → σ → Prop) (h0 : I 0 s) (h : ∀ k x s, xs[k]? = some x → I k s → Sat (f s x) fun z => ∃ s', z = .inl s' ∧ I (k + 1) s') : Sat (LW.forR f xs s) fun z => ∃ s', z = .inl s' ∧ I xs.length s' := by
  obtain ⟨s', h1, h2⟩ := forR_ok (f := f) I h0 fun k x s hx hs => by
    obtain ⟨z, h3, s', rfl, h4⟩ := h k x s hx hs
    exact ⟨s', h3, h4⟩
  exact ⟨_, h1, s', rfl, h2⟩
theorem Sat.sumL {f : σ → Option β} {g : ρ → Option β} {s : σ} {Q : β → Prop} (h : Sat (f s) Q) : Sat (sumQ (.inl s) f g) Q := h
theorem Sat.rng {lo hi : Int} {f : List Int → Option β} {Q : β → Prop} (k : Sat (f (rngI lo hi)) Q) (h1 : -1000000 ≤ lo := by omega) (h2 : lo ≤ 1000000 := by omega) (h3 : -1000000 ≤ hi := by omega) (h4 : hi ≤ 1000000 := by omega) : Sat ((rngQ lo hi).bind f) Q := by
  rw [rngQ_ok h1 h2 h3 h4]; exact k
theorem Sat.app {xs : List α} {y : α} {f : List α → Option β} {Q : β → Prop} (h : xs.length < 16777216) (k : Sat (f (xs ++ [y])) Q) : Sat ((appQ xs y).bind f) Q := by rw [appQ_ok h]; exact k
theorem Sat.compT {f : τ → α → Option (Option β × τ)} {xs : List α} {T : τ} (I : Nat → List β → τ → Prop) (h0 : I 0 [] T) (h : ∀ k x ys T, xs[k]? = some x → I k ys T → Sat (f T x) fun r => ∃ y, r.1 = some y ∧ I (k + 1) (ys ++ [y]) r.2) : Sat (LW.compT f xs T) fun r => I xs.length r.1 r.2 := by
  obtain ⟨ys, T', h1, h2⟩ := compT_ok (f := f) I h0 fun k x ys T hx hs => by
    obtain ⟨⟨o, T'⟩, h3, y, h4, h5⟩ := h k x ys T hx hs
    simp only at h4 h5
    subst h4
    exact ⟨y, T', h3, h5⟩
  exact ⟨_, h1, h2⟩
theorem Sat.eq {q : Option α} {v : α} (h : Sat q fun x => x = v) : q = some v := by obtain ⟨_, h, rfl⟩ := h; exact h
theorem Sat.of {q : Option α} {v : α} {P : α → Prop} (h : q = some v) (p : P v) : Sat q P := ⟨v, h, p⟩
end
theorem dT {p : Prop} [Decidable p] (h : p) : decide p = true := decide_eq_true h
theorem dF {p : Prop} [Decidable p] (h : ¬ p) : decide p = false := decide_eq_false h
theorem ofT {p : Prop} [Decidable p] (h : decide p = true) : p := of_decide_eq_true h
theorem ofF {p : Prop} [Decidable p] (h : decide p = false) : ¬ p := of_decide_eq_false h
theorem snocInd {α : Type} {P : List α → Prop} (h0 : P []) (h1 : ∀ l a, P l → P (l ++ [a])) : ∀ l, P l := by
  intro l
  rw [← List.reverse_reverse l]
  generalize l.reverse = r
  induction r with
  | nil => exact h0
  | cons a r ih => rw [List.reverse_cons]; exact h1 _ _ ih
theorem pwInj {α : Type} {f : α → Int} : ∀ {l : List α}, l.Pairwise (fun a b => f a < f b) → ∀ {a b : α}, a ∈ l → b ∈ l → f a = f b → a = b
  | [], _, _, _, h, _, _ => by cases h
  | x :: l, hp, a, b, ha, hb, e => by
    have hp' := List.pairwise_cons.mp hp
    rcases List.mem_cons.mp ha with h1 | h1
    · rcases List.mem_cons.mp hb with h2 | h2
      · rw [h1, h2]
      · have := hp'.1 _ h2; rw [h1] at e; omega
    · rcases List.mem_cons.mp hb with h2 | h2
      · have := hp'.1 _ h1; rw [h2] at e; omega
      · exact pwInj hp'.2 h1 h2 e
end LW
namespace LW
open PySem PySem.Spec L2

/-! sorting -/
theorem fltA_I (xs : List Int) : fltA (xs.map eI) = true := fltA_map (fun _ => rfl) xs
theorem pyA_I : ∀ xs : List Int, pyA (xs.map eI) = xs.map PyData.int
  | [] => rfl
  | x :: xs => by simp only [List.map_cons, pyA, pyA_I xs]; rfl
theorem depA_I : ∀ xs : List Int, PyData.depthAll (xs.map PyData.int) = 0
  | [] => rfl
  | x :: xs => by simp only [List.map_cons, PyData.depthAll, PyData.depth, depA_I xs]; rfl
theorem okAl_I (xs : List Int) : okAl (xs.map eI) = true := by
  unfold okAl
  rw [pyA_I, fltA_I, depA_I]
  simp only [Bool.true_and, Bool.and_eq_true, List.all_eq_true, List.mem_map, decide_eq_true_eq]
  refine ⟨⟨?_, ?_⟩, by omega⟩
  · rintro x ⟨p, _, rfl⟩ y ⟨q, _, rfl⟩; rfl
  · rintro x ⟨p, _, rfl⟩; rfl
theorem okSrt_I (xs : List Int) : okSrt (xs.map eI) = true := by
  unfold okSrt
  rw [okAl_I, pyA_I]
  simp only [Bool.true_and, Bool.or_eq_true]
  right
  simp [notTup]
theorem leD_I (a b : Int) : leD (eI a) (eI b) = decide (a ≤ b) := by
  unfold leD
  show (!PySem.W.dataLt (.int b) (.int a)) = _
  rw [PySem.W.dataLt_int]
  by_cases h : b < a
  · have : ¬ a ≤ b := by omega
    simp [h, this]
  · have : a ≤ b := by omega
    simp [h, this]
theorem sortedQ_I (xs : List Int) : ∃ ys, sortedQ eI xs = some ys ∧ ys.Perm xs ∧ ys.Pairwise (· ≤ ·) := by
  refine ⟨xs.mergeSort fun a b => leD (eI a) (eI b), if_pos (okSrt_I xs), List.mergeSort_perm _ _, ?_⟩
  have := List.pairwise_mergeSort (le := fun a b : Int => leD (eI a) (eI b)) (fun a b c => by simp only [leD_I, decide_eq_true_eq]; omega) (fun a b => by simp only [leD_I, Bool.or_eq_true, decide_eq_true_eq]; omega) xs
  exact this.imp fun h => by simpa only [leD_I, decide_eq_true_eq] using h
def leP (p q : Int × Int) : Prop := p.1 < q.1 ∨ (p.1 = q.1 ∧ p.2 ≤ q.2)
def ltPP (p q : Int × Int) : Prop := p.1 < q.1 ∨ (p.1 = q.1 ∧ p.2 < q.2)
theorem leD_P (a b : Int × Int) : leD (eP2 eI eI a) (eP2 eI eI b) = true ↔ leP a b := by
  unfold leD leP
  have e : PySem.W.dataLt (py (eP2 eI eI b)) (py (eP2 eI eI a)) = decide (b.1 < a.1 ∨ (b.1 = a.1 ∧ b.2 < a.2)) := PySem.W.dataLt_ii _ _ _ _
  rw [e]
  simp only [Bool.not_eq_true', decide_eq_false_iff_not]
  omega
theorem okSrt_P (xs : List (Int × Int)) : okSrt (xs.map (eP2 eI eI)) = true := by
  unfold okSrt
  rw [okAl_pairs]
  simp only [Bool.true_and, Bool.or_eq_true]
  left
  have hp : ∀ xs : List (Int × Int), pyA (xs.map (eP2 eI eI)) = xs.map fun p => PyData.tuple [.int p.1, .int p.2] := fun xs => by
    induction xs with
    | nil => rfl
    | cons p r ih => simp only [List.map_cons, pyA, ih]; rfl
  rw [hp]
  simp [isTup1]
theorem sortedQ_P (xs : List (Int × Int)) : ∃ ys, sortedQ (eP2 eI eI) xs = some ys ∧ ys.Perm xs ∧ ys.Pairwise leP := by
  refine ⟨xs.mergeSort fun a b => leD (eP2 eI eI a) (eP2 eI eI b), if_pos (okSrt_P xs), List.mergeSort_perm _ _, ?_⟩
  have := List.pairwise_mergeSort (le := fun a b : Int × Int => leD (eP2 eI eI a) (eP2 eI eI b)) (fun a b c => by simp only [leD_P, leP]; omega) (fun a b => by simp only [Bool.or_eq_true, leD_P, leP]; omega) xs
  exact this.imp fun h => (leD_P _ _).mp h
/-- two rising lists with the same members -/
theorem rise_eq {xs ys : List Int} (h1 : xs.Pairwise (· < ·)) (h2 : ys.Pairwise (· < ·)) (h : ∀ a, a ∈ xs ↔ a ∈ ys) : xs = ys := by
  have n1 : xs.Nodup := h1.imp fun h => by omega
  have n2 : ys.Nodup := h2.imp fun h => by omega
  exact List.Perm.eq_of_pairwise (le := fun a b : Int => a < b) (fun a b _ _ h h' => by omega) h1 h2 ((List.perm_ext_iff_of_nodup n1 n2).mpr h)
theorem rise_of {xs : List Int} (h1 : xs.Pairwise (· ≤ ·)) (h2 : xs.Nodup) : xs.Pairwise (· < ·) := (h1.and h2).imp fun h => by omega
theorem rngI_rise {lo hi : Int} : (rngI lo hi).Pairwise (· < ·) := by
  unfold rngI
  rw [List.pairwise_map]
  exact List.pairwise_lt_range.imp fun h => by omega
theorem rngI_nodup {lo hi : Int} : (rngI lo hi).Nodup := rngI_rise.imp fun h => by omega
theorem len_of_mem {xs ys : List Int} (h1 : xs.Nodup) (h2 : ys.Nodup) (h : ∀ a, a ∈ xs ↔ a ∈ ys) : xs.length = ys.length := ((List.perm_ext_iff_of_nodup h1 h2).mpr h).length_eq
theorem len_le_rng {xs : List Int} {n : Int} (h1 : xs.Nodup) (h : ∀ a ∈ xs, 0 ≤ a ∧ a < n) : (xs.length : Int) ≤ n ∨ xs = [] := by
  have := List.Nodup.length_le_of_subset h1 (l₂ := rngI 0 n) (fun a ha => mem_rngI.mpr (h a ha))
  rw [rngI_len] at this
  cases xs with
  | nil => exact .inr rfl
  | cons x xs => left; have := h x (by simp); omega

/-! webs -/
abbrev Tie := Int × Int × Int
abbrev Web := Int × List Tie
structure WebOk (w : Web) : Prop where
  n1 : 1 ≤ w.1
  n24 : w.1 ≤ 24
  rise : w.2.Pairwise fun a b => ltPP (a.1, a.2.1) (b.1, b.2.1)
  tie : ∀ t ∈ w.2, 0 ≤ t.1 ∧ t.1 < t.2.1 ∧ t.2.1 < w.1 ∧ 1 ≤ t.2.2 ∧ t.2.2 ≤ 99
  few : w.2.length ≤ 60
/-- the long of the tie between two places -/
def tieL (w : Web) (a b : Int) : Option Int := (w.2.find? fun t => decide ((t.1, t.2.1) = (if b < a then b else a, if b > a then b else a))).map (·.2.2)
theorem tieL_comm (w : Web) (a b : Int) : tieL w a b = tieL w b a := by
  unfold tieL
  have e : ((if b < a then b else a, if b > a then b else a) : Int × Int) = (if a < b then a else b, if a > b then a else b) := by
    by_cases h1 : b < a
    · have h2 : ¬ a < b := by omega
      have h3 : ¬ b > a := by omega
      have h4 : a > b := h1
      rw [if_pos h1, if_neg h3, if_neg h2, if_pos h4]
    · by_cases h2 : a < b
      · have h3 : b > a := h2
        have h4 : ¬ a > b := by omega
        rw [if_neg h1, if_pos h3, if_pos h2, if_neg h4]
      · have : a = b := by omega
        subst this
        rfl
  rw [e]
theorem pair_ord {a b x y : Int} (h : x < y) : ((x, y) = ((if b < a then b else a, if b > a then b else a) : Int × Int)) ↔ (x = a ∧ y = b) ∨ (x = b ∧ y = a) := by
  simp only [Prod.mk.injEq]
  by_cases h1 : b < a
  · have h3 : ¬ b > a := by omega
    rw [if_pos h1, if_neg h3]
    omega
  · by_cases h2 : a < b
    · have h3 : b > a := h2
      rw [if_neg h1, if_pos h3]
      omega
    · rw [if_neg h1, if_neg (by omega)]
      omega
section
variable {w : Web} (W : WebOk w)
include W
theorem WebOk.uniq {s t : Tie} (hs : s ∈ w.2) (ht : t ∈ w.2) (h1 : s.1 = t.1) (h2 : s.2.1 = t.2.1) : s = t := by
  by_cases e : s = t
  · exact e
  · exfalso
    have : ∀ l : List Tie, l.Pairwise (fun a b => ltPP (a.1, a.2.1) (b.1, b.2.1)) → s ∈ l → t ∈ l → False := by
      intro l
      induction l with
      | nil => intro _ h; cases h
      | cons x l ih =>
        intro hp a1 b1
        have hp' := List.pairwise_cons.mp hp
        rcases List.mem_cons.mp a1 with a2 | a2
        · rcases List.mem_cons.mp b1 with b2 | b2
          · exact e (a2.trans b2.symm)
          · have := hp'.1 t b2; rw [← a2] at this; unfold ltPP at this; simp only at this; omega
        · rcases List.mem_cons.mp b1 with b2 | b2
          · have := hp'.1 s a2; rw [← b2] at this; unfold ltPP at this; simp only at this; omega
          · exact ih hp'.2 a2 b2
    exact this _ W.rise hs ht
theorem WebOk.tieL_some {a b l : Int} : tieL w a b = some l ↔ (a, b, l) ∈ w.2 ∨ (b, a, l) ∈ w.2 := by
  unfold tieL
  constructor
  · intro h
    cases q : w.2.find? (fun t => decide ((t.1, t.2.1) = (if b < a then b else a, if b > a then b else a))) with
    | none => rw [q] at h; cases h
    | some t =>
      rw [q] at h
      cases h
      have hm := List.mem_of_find?_eq_some q
      have hp := ofT (List.find?_some (p := fun t : Tie => decide ((t.1, t.2.1) = (if b < a then b else a, if b > a then b else a))) q)
      obtain ⟨t1, t2, t3⟩ := t
      rcases (pair_ord (W.tie _ hm).2.1).mp hp with ⟨h1, h2⟩ | ⟨h1, h2⟩
      · simp only at h1 h2; subst h1; subst h2; exact .inl hm
      · simp only at h1 h2; subst h1; subst h2; exact .inr hm
  · intro h
    have key : ∀ t : Tie, t ∈ w.2 → t.2.2 = l → ((t.1 = a ∧ t.2.1 = b) ∨ (t.1 = b ∧ t.2.1 = a)) → (w.2.find? (fun t => decide ((t.1, t.2.1) = (if b < a then b else a, if b > a then b else a)))).map (·.2.2) = some l := by
      intro t ht hl hp
      have hp2 := (pair_ord (W.tie t ht).2.1).mpr hp
      cases q : w.2.find? (fun t => decide ((t.1, t.2.1) = (if b < a then b else a, if b > a then b else a))) with
      | none =>
        have := List.find?_eq_none.mp q t ht
        simp only [hp2, decide_true, not_true_eq_false] at this
      | some s =>
        have hm := List.mem_of_find?_eq_some q
        have hq := ofT (List.find?_some (p := fun t : Tie => decide ((t.1, t.2.1) = (if b < a then b else a, if b > a then b else a))) q)
        rw [← hp2] at hq
        simp only [Prod.mk.injEq] at hq
        rw [W.uniq hm ht hq.1 hq.2]
        simp [hl]
    rcases h with h | h
    · exact key _ h rfl (.inl ⟨rfl, rfl⟩)
    · exact key _ h rfl (.inr ⟨rfl, rfl⟩)
theorem WebOk.tieL_pos {a b l : Int} (h : tieL w a b = some l) : 1 ≤ l ∧ l ≤ 99 ∧ 0 ≤ a ∧ a < w.1 ∧ 0 ≤ b ∧ b < w.1 ∧ a ≠ b := by
  rcases W.tieL_some.mp h with h | h
  · have := W.tie _ h; simp only at this; omega
  · have := W.tie _ h; simp only at this; omega
end

/-! ways -/
inductive Way (w : Web) : Int → Int → Int → Prop
  | nil {a : Int} (h0 : 0 ≤ a) (h1 : a < w.1) : Way w a a 0
  | snoc {a b c d l : Int} : Way w a b d → tieL w b c = some l → Way w a c (d + l)
section
variable {w : Web} (W : WebOk w)
include W
theorem Way.ok {a b d : Int} (h : Way w a b d) : 0 ≤ a ∧ a < w.1 ∧ 0 ≤ b ∧ b < w.1 ∧ 0 ≤ d := by
  induction h with
  | nil h0 h1 => exact ⟨h0, h1, h0, h1, Int.le_refl _⟩
  | snoc h t ih => have := W.tieL_pos t; omega
end

/-! more of loops -/
section
variable {α β σ ρ : Type}
theorem forR_find {p : α → Bool} {g : α → ρ} {f : Unit → α → Option (Unit ⊕ ρ)} {xs : List α} (h : ∀ x, f () x = if p x = true then some (.inr (g x)) else some (.inl ())) : forR f xs () = some (match xs.find? p with
    | some x => .inr (g x)
    | none => .inl ()) := by
  induction xs with
  | nil => rfl
  | cons x xs ih =>
    unfold forR
    rw [h x, List.find?_cons]
    cases q : p x with
    | true => rfl
    | false => exact ih
theorem Sat.while {c : σ → Option Bool} {f : σ → Option σ} (I : σ → Prop) (m : σ → Nat) : ∀ {n : Nat} {s : σ}, I s → m s < n → (∀ s, I s → ∃ b, c s = some b ∧ (b = true → Sat (f s) fun s' => I s' ∧ m s' < m s)) → Sat (whileQ c f n s) fun s => I s ∧ c s = some false
  | 0, s, _, h, _ => by omega
  | n + 1, s, hI, hm, h => by
    obtain ⟨b, hb, hf⟩ := h s hI
    unfold whileQ
    rw [hb]
    cases b with
    | false => exact ⟨s, rfl, hI, hb⟩
    | true =>
      obtain ⟨s', e, hI', hm'⟩ := hf rfl
      show Sat ((f s).bind fun s' => whileQ c f n s') _
      rw [e]
      exact Sat.while I m hI' (by omega) h
theorem Sat.repr2 {A B : D} {n k : Nat} {f : Str → Str → Option β} {Q : β → Prop} (hAB : A = B) (hs : Sh n k A) (h : ∀ s, Sat (f s s) Q) (hn : n ≤ 250000 := by omega) (hk : k < 60 := by omega) : Sat ((reprQ A).bind fun a => (reprQ B).bind fun b => f a b) Q := by
  subst hAB
  obtain ⟨s, e⟩ := reprQ_ok hs hn hk
  rw [e]
  exact h s
theorem Sat.repr {A : D} {n k : Nat} {f : Str → Option β} {Q : β → Prop} (hs : Sh n k A) (h : ∀ s, reprQ A = some s → Sat (f s) Q) (hn : n ≤ 250000 := by omega) (hk : k < 60 := by omega) : Sat ((reprQ A).bind f) Q := by
  obtain ⟨s, e⟩ := reprQ_ok hs hn hk
  rw [e]
  exact h s e
theorem popQ_ok {xs : List α} (h : xs ≠ []) : ∃ x r, popQ xs = some (x, r) ∧ xs = r ++ [x] := by
  refine ⟨xs.getLast h, xs.dropLast, ?_, (List.dropLast_concat_getLast h).symm⟩
  unfold popQ
  have : xs[xs.length - 1]? = some (xs.getLast h) := by rw [List.getLast_eq_getElem]; exact List.getElem?_eq_getElem _
  rw [this]
  rfl
theorem putQ_ok {κ : Type} [DecidableEq κ] {kvs : List (κ × α)} {k : κ} {v : α} (h : kvs.length < 16777216) : putQ kvs k v = some (putL kvs k v) := if_pos h
theorem putL_new {κ : Type} [DecidableEq κ] {kvs : List (κ × α)} {k : κ} {v : α} (h : k ∉ kvs.map (·.1)) : putL kvs k v = kvs ++ [(k, v)] := if_neg h
theorem putL_len {κ : Type} [DecidableEq κ] {kvs : List (κ × α)} {k : κ} {v : α} : (putL kvs k v).length ≤ kvs.length + 1 := by
  unfold putL
  split
  · have := congrArg List.length (putV_keys (k := k) (v := v) kvs)
    simp at this
    omega
  · simp
theorem putL_keys {κ : Type} [DecidableEq κ] {kvs : List (κ × α)} {k : κ} {v : α} : (putL kvs k v).map (·.1) = if k ∈ kvs.map (·.1) then kvs.map (·.1) else kvs.map (·.1) ++ [k] := by
  unfold putL
  split
  · exact putV_keys kvs
  · simp
theorem putL_nodup {κ : Type} [DecidableEq κ] {kvs : List (κ × α)} {k : κ} {v : α} (h : (kvs.map (·.1)).Nodup) : ((putL kvs k v).map (·.1)).Nodup := by
  rw [putL_keys]
  split
  · exact h
  · rename_i q
    rw [List.nodup_append]
    exact ⟨h, by simp, fun a ha b hb e => by simp at hb; subst hb; subst e; exact q ha⟩
theorem putL_mem {κ : Type} [DecidableEq κ] {kvs : List (κ × α)} {k k' : κ} {v : α} : k' ∈ (putL kvs k v).map (·.1) ↔ k' = k ∨ k' ∈ kvs.map (·.1) := by
  rw [putL_keys]
  split
  · rename_i q
    exact ⟨.inr, fun h => h.elim (fun e => e ▸ q) id⟩
  · simp only [List.mem_append, List.mem_singleton]; exact ⟨fun h => h.elim .inr .inl, fun h => h.elim .inr .inl⟩
theorem luQ_some_iff {κ : Type} [DecidableEq κ] {kvs : List (κ × α)} {k : κ} : (luQ kvs k).isSome = true ↔ k ∈ kvs.map (·.1) := by
  cases h : luQ kvs k with
  | none => simp [luQ_none.mp h]
  | some v =>
    simp only [Option.isSome_some, true_iff]
    by_cases q : k ∈ kvs.map (·.1)
    · exact q
    · rw [luQ_none.mpr q] at h; cases h
end
end LW
namespace LW
open PySem PySem.Spec L2

/-! lengths of ways -/
section
variable {w : Web}
theorem Way.trans {a b c d e : Int} (h : Way w a b d) (g : Way w b c e) : Way w a c (d + e) := by
  induction g with
  | nil _ _ => rw [Int.add_zero]; exact h
  | snoc _ t ih => rw [← Int.add_assoc]; exact ih.snoc t
theorem Way.one (W : WebOk w) {a b l : Int} (t : tieL w a b = some l) : Way w a b l := by
  have p := W.tieL_pos t
  have := (Way.nil (w := w) (a := a) p.2.2.1 p.2.2.2.1).snoc t
  rwa [Int.zero_add] at this
theorem Way.symm (W : WebOk w) {a b d : Int} (h : Way w a b d) : Way w b a d := by
  induction h with
  | nil h0 h1 => exact .nil h0 h1
  | @snoc b c d l h t ih =>
    have := (Way.one W (by rw [tieL_comm]; exact t : tieL w c b = some l)).trans ih
    rwa [Int.add_comm] at this
def IsDist (w : Web) (a b : Int) : Option Int → Prop
  | some d => Way w a b d ∧ ∀ d', Way w a b d' → d ≤ d'
  | none => ∀ d, ¬ Way w a b d
theorem dist_ex (W : WebOk w) (a b : Int) : ∃ o, IsDist w a b o := by
  by_cases h : ∃ d, Way w a b d
  · obtain ⟨d, hd⟩ := h
    have key : ∀ n : Nat, ∀ d, Way w a b d → d.toNat ≤ n → ∃ d, Way w a b d ∧ ∀ d', Way w a b d' → d ≤ d' := by
      intro n
      induction n with
      | zero =>
        intro d hd hn
        refine ⟨d, hd, fun d' hd' => ?_⟩
        have := (Way.ok W hd).2.2.2.2
        have := (Way.ok W hd').2.2.2.2
        omega
      | succ n ih =>
        intro d hd hn
        by_cases q : ∃ d', Way w a b d' ∧ d' < d
        · obtain ⟨d', h1, h2⟩ := q
          have := (Way.ok W h1).2.2.2.2
          exact ih d' h1 (by omega)
        · exact ⟨d, hd, fun d' hd' => by
            by_cases z : d ≤ d'
            · exact z
            · exact absurd ⟨d', hd', by omega⟩ q⟩
    obtain ⟨d, h1, h2⟩ := key d.toNat d hd (Nat.le_refl _)
    exact ⟨some d, h1, h2⟩
  · exact ⟨none, fun d hd => h ⟨d, hd⟩⟩
theorem IsDist.uniq {a b : Int} {o p : Option Int} (h : IsDist w a b o) (g : IsDist w a b p) : o = p := by
  cases o with
  | none => cases p with
    | none => rfl
    | some e => exact absurd g.1 (h e)
  | some d => cases p with
    | none => exact absurd h.1 (g d)
    | some e =>
      have := h.2 e g.1
      have := g.2 d h.1
      congr 1; omega
open Classical in
/-- the length of a shortest way -/
noncomputable def dist (w : Web) (a b : Int) : Option Int := if h : ∃ o, IsDist w a b o then Classical.choose h else none
variable (W : WebOk w)
include W
theorem dist_is (a b : Int) : IsDist w a b (dist w a b) := by
  have h := dist_ex W a b
  unfold dist
  rw [dif_pos h]
  exact Classical.choose_spec h
theorem dist_eq {a b : Int} {o : Option Int} (h : IsDist w a b o) : dist w a b = o := (dist_is W a b).uniq h
theorem dist_way {a b d : Int} (h : dist w a b = some d) : Way w a b d := by have := dist_is W a b; rw [h] at this; exact this.1
theorem dist_le {a b d : Int} (h : Way w a b d) : ∃ e, dist w a b = some e ∧ e ≤ d := by
  have := dist_is W a b
  cases q : dist w a b with
  | none => rw [q] at this; exact absurd h (this d)
  | some e => rw [q] at this; exact ⟨e, rfl, this.2 d h⟩
theorem dist_self {a : Int} (h0 : 0 ≤ a) (h1 : a < w.1) : dist w a a = some 0 := dist_eq W ⟨.nil h0 h1, fun d h => (Way.ok W h).2.2.2.2⟩
theorem dist_symm (a b : Int) : dist w a b = dist w b a := by
  have h := dist_is W b a
  refine dist_eq W ?_
  cases q : dist w b a with
  | none => rw [q] at h; exact fun d hd => h d (hd.symm W)
  | some d => rw [q] at h; exact ⟨h.1.symm W, fun e he => h.2 e (he.symm W)⟩
theorem dist_rng {a b d : Int} (h : dist w a b = some d) : 0 ≤ a ∧ a < w.1 ∧ 0 ≤ b ∧ b < w.1 ∧ 0 ≤ d := Way.ok W (dist_way W h)
theorem dist_tri {a b c d e : Int} (h : dist w a b = some d) (g : dist w b c = some e) : ∃ f, dist w a c = some f ∧ f ≤ d + e := dist_le W ((dist_way W h).trans (dist_way W g))
theorem dist_tie {a b c d l : Int} (h : dist w a b = some d) (t : tieL w b c = some l) : ∃ f, dist w a c = some f ∧ f ≤ d + l := dist_le W ((dist_way W h).snoc t)
/-- the place ahead of the last one -/
theorem dist_pred {a c d : Int} (h : dist w a c = some d) (hne : a ≠ c) : ∃ b l e, tieL w b c = some l ∧ dist w a b = some e ∧ d = e + l := by
  have hw := dist_way W h
  cases hw with
  | nil _ _ => exact absurd rfl hne
  | @snoc b _ d0 l h0 t =>
    obtain ⟨e, he, hle⟩ := dist_le W h0
    obtain ⟨f, hf, hle2⟩ := dist_tie W he t
    rw [h] at hf
    cases hf
    exact ⟨b, l, e, t, he, by omega⟩
/-- the place behind the first one -/
theorem dist_succ {a c d : Int} (h : dist w a c = some d) (hne : a ≠ c) : ∃ b l e, tieL w a b = some l ∧ dist w b c = some e ∧ d = l + e := by
  obtain ⟨b, l, e, h1, h2, h3⟩ := dist_pred W (by rw [dist_symm W]; exact h : dist w c a = some d) (Ne.symm hne)
  exact ⟨b, l, e, by rw [tieL_comm]; exact h1, by rw [dist_symm W]; exact h2, by omega⟩
theorem dist_zero {a b : Int} (h : dist w a b = some 0) : a = b := by
  by_cases q : a = b
  · exact q
  · obtain ⟨c, l, e, h1, h2, h3⟩ := dist_pred W h q
    have := W.tieL_pos h1
    have := dist_rng W h2
    omega
end
def dlt (o p : Option Int) : Bool := match o, p with
  | some x, some y => decide (x < y)
  | _, _ => false
/-- how many places are nearer -/
noncomputable def rank (w : Web) (a x : Int) : Nat := ((rngI 0 w.1).filter fun z => dlt (dist w a z) (dist w a x)).length
section
variable {w : Web} (W : WebOk w)
include W
theorem rank_lt {a x y d e : Int} (hx : dist w a x = some d) (hy : dist w a y = some e) (h : e < d) : rank w a y < rank w a x := by
  unfold rank
  have sub : ((rngI 0 w.1).filter fun z => dlt (dist w a z) (dist w a y)) ++ [y] ⊆ (rngI 0 w.1).filter fun z => dlt (dist w a z) (dist w a x) := by
    intro z hz
    rcases List.mem_append.mp hz with hz | hz
    · obtain ⟨h1, h2⟩ := List.mem_filter.mp hz
      refine List.mem_filter.mpr ⟨h1, ?_⟩
      rw [hx]
      rw [hy] at h2
      cases q : dist w a z with
      | none => rw [q] at h2; cases h2
      | some f => rw [q] at h2; have := ofT h2; exact dT (by omega)
    · simp at hz
      subst hz
      have := dist_rng W hy
      refine List.mem_filter.mpr ⟨mem_rngI.mpr ⟨this.2.2.1, this.2.2.2.1⟩, ?_⟩
      rw [hx, hy]
      exact dT h
  have nd : (((rngI 0 w.1).filter fun z => dlt (dist w a z) (dist w a y)) ++ [y]).Nodup := by
    rw [List.nodup_append]
    refine ⟨rngI_nodup.filter _, by simp, fun p hp q hq e2 => ?_⟩
    simp at hq
    subst hq
    subst e2
    have := (List.mem_filter.mp hp).2
    rw [hy] at this
    have := ofT this
    omega
  have := List.Nodup.length_le_of_subset nd sub
  simp at this
  omega
theorem rank_le (a x : Int) : rank w a x ≤ 24 := by
  unfold rank
  have := List.length_filter_le (fun z => dlt (dist w a z) (dist w a x)) (rngI 0 w.1)
  rw [rngI_len] at this
  have := W.n24
  omega
theorem rank_le_n (a x : Int) : (rank w a x : Int) ≤ w.1 := by
  unfold rank
  have := List.length_filter_le (fun z => dlt (dist w a z) (dist w a x)) (rngI 0 w.1)
  rw [rngI_len] at this
  have := W.n1
  omega
/-- lengths are no more than what simple ways can have -/
theorem dist_bound {a x d : Int} (h : dist w a x = some d) : d ≤ 99 * rank w a x := by
  have key : ∀ n : Nat, ∀ x d, dist w a x = some d → rank w a x ≤ n → d ≤ 99 * (rank w a x : Int) := by
    intro n
    induction n with
    | zero =>
      intro x d hx hr
      by_cases q : a = x
      · subst q
        have := dist_rng W hx
        rw [dist_self W this.1 this.2.1] at hx
        cases hx
        omega
      · obtain ⟨b, l, e, h1, h2, h3⟩ := dist_pred W hx q
        have := W.tieL_pos h1
        have := rank_lt W hx h2 (by omega)
        omega
    | succ n ih =>
      intro x d hx hr
      by_cases q : a = x
      · subst q
        have := dist_rng W hx
        rw [dist_self W this.1 this.2.1] at hx
        cases hx
        omega
      · obtain ⟨b, l, e, h1, h2, h3⟩ := dist_pred W hx q
        have := W.tieL_pos h1
        have := rank_lt W hx h2 (by omega)
        have := ih b e h2 (by omega)
        omega
  exact key _ x d h (Nat.le_refl _)
theorem dist_2376 {a x d : Int} (h : dist w a x = some d) : d ≤ 2376 := by
  have := dist_bound W h
  have := rank_le W a x
  omega
end
noncomputable def distRow (w : Web) (a : Int) : List (Option Int) := (rngI 0 w.1).map (dist w a)
noncomputable def dists (w : Web) : List (List (Option Int)) := (rngI 0 w.1).map (distRow w)
theorem rngI_at {n : Int} {k : Nat} (h : (k : Int) < n) : (rngI 0 n)[k]? = some (k : Int) := by
  unfold rngI
  have : k < (n - 0).toNat := by omega
  rw [List.getElem?_map, List.getElem?_range this]
  simp
theorem distRow_ix {w : Web} {a b : Int} (h0 : 0 ≤ b) (h1 : b < w.1) : ixQ (distRow w a) b = some (dist w a b) := by
  obtain ⟨k, rfl⟩ := Int.eq_ofNat_of_zero_le h0
  rw [ixQ_nat]
  unfold distRow
  rw [List.getElem?_map, rngI_at h1]
  rfl
theorem dists_ix {w : Web} {a : Int} (h0 : 0 ≤ a) (h1 : a < w.1) : ixQ (dists w) a = some (distRow w a) := by
  obtain ⟨k, rfl⟩ := Int.eq_ofNat_of_zero_le h0
  rw [ixQ_nat]
  unfold dists
  rw [List.getElem?_map, rngI_at h1]
  rfl
theorem distRow_len {w : Web} {a : Int} : (distRow w a).length = (w.1 - 0).toNat := by unfold distRow; rw [List.length_map, rngI_len]
theorem dists_len {w : Web} : (dists w).length = (w.1 - 0).toNat := by unfold dists; rw [List.length_map, rngI_len]
theorem sh_distO {w : Web} (W : WebOk w) (a b : Int) {k : Nat} : Sh 0 k (eO eI (dist w a b)) := sh_O fun d hd => by
  have := dist_2376 W hd
  have := dist_rng W hd
  exact sh_I' (b := 2376) (by omega) (by omega)
theorem sh_dists {w : Web} (W : WebOk w) : Sh 600 2 (eV (eV (eO eI)) (dists w)) := by
  have h1 := W.n24
  refine (sh_V (m := 24) (n := 24) (k := 1) (by rw [dists_len]; omega) fun r hr => ?_).mono (by omega) (by omega)
  unfold dists at hr
  obtain ⟨a, _, rfl⟩ := List.mem_map.mp hr
  refine (sh_V (m := 24) (n := 0) (k := 0) (by rw [distRow_len]; omega) fun o ho => ?_).mono (by omega) (by omega)
  unfold distRow at ho
  obtain ⟨b, _, rfl⟩ := List.mem_map.mp ho
  exact sh_distO W a b

/-! rows of rows as functions -/
structure Mat (n : Int) (rows : List (List (Option Int))) (M : Int → Int → Option Int) : Prop where
  len : rows.length = n.toNat
  row : ∀ a : Nat, (a : Int) < n → ∃ r, rows[a]? = some r ∧ r.length = n.toNat ∧ ∀ b : Nat, (b : Int) < n → r[b]? = some (M a b)
def updM (M : Int → Int → Option Int) (a b : Int) (v : Option Int) : Int → Int → Option Int := fun x y => if x = a ∧ y = b then v else M x y
theorem Mat.get {n : Int} {rows : List (List (Option Int))} {M : Int → Int → Option Int} (h : Mat n rows M) {a b : Int} (a0 : 0 ≤ a) (a1 : a < n) (b0 : 0 ≤ b) (b1 : b < n) : ∃ r, ixQ rows a = some r ∧ ixQ r b = some (M a b) := by
  obtain ⟨i, rfl⟩ := Int.eq_ofNat_of_zero_le a0
  obtain ⟨j, rfl⟩ := Int.eq_ofNat_of_zero_le b0
  obtain ⟨r, h1, h2, h3⟩ := h.row i a1
  exact ⟨r, by rw [ixQ_nat]; exact h1, by rw [ixQ_nat]; exact h3 j b1⟩
theorem ixN_nat {n j : Nat} (h : j < n) : ixN n (j : Int) = some j := by
  unfold ixN
  rw [if_pos (by omega), if_pos (by omega)]
  rfl
theorem Mat.set {n : Int} {rows : List (List (Option Int))} {M : Int → Int → Option Int} (h : Mat n rows M) {a b : Int} (v : Option Int) (a0 : 0 ≤ a) (a1 : a < n) (b0 : 0 ≤ b) (b1 : b < n) : ∃ rows', set2Q rows a b v = some rows' ∧ Mat n rows' (updM M a b v) := by
  obtain ⟨i, rfl⟩ := Int.eq_ofNat_of_zero_le a0
  obtain ⟨j, rfl⟩ := Int.eq_ofNat_of_zero_le b0
  obtain ⟨r, h1, h2, h3⟩ := h.row i a1
  have hi : i < rows.length := by rw [h.len]; omega
  have hj : j < r.length := by rw [h2]; omega
  refine ⟨rows.set i (r.set j v), ?_, ?_⟩
  · unfold set2Q setQ rowN
    rw [ixQ_nat, h1, ixN_nat hi]
    simp only [Option.bind_some, ixN_nat hj, Option.map_some, Option.getD_some]
  · refine ⟨by rw [List.length_set]; exact h.len, fun x hx => ?_⟩
    by_cases e : i = x
    · subst e
      refine ⟨r.set j v, List.getElem?_set_self hi, by rw [List.length_set]; exact h2, fun y hy => ?_⟩
      by_cases e2 : j = y
      · subst e2
        rw [List.getElem?_set_self hj]
        unfold updM
        rw [if_pos ⟨rfl, rfl⟩]
      · rw [List.getElem?_set_ne e2, h3 y hy]
        unfold updM
        rw [if_neg (fun z => e2 (by omega))]
    · obtain ⟨r', g1, g2, g3⟩ := h.row x hx
      refine ⟨r', by rw [List.getElem?_set_ne e]; exact g1, g2, fun y hy => ?_⟩
      rw [g3 y hy]
      unfold updM
      rw [if_neg (fun z => e (by omega))]
/-- the rows tell the lengths -/
theorem Mat.dists {w : Web} {rows : List (List (Option Int))} {M : Int → Int → Option Int} (h : Mat w.1 rows M) (hM : ∀ a b, 0 ≤ a → a < w.1 → 0 ≤ b → b < w.1 → M a b = dist w a b) : rows = LW.dists w := by
  apply List.ext_getElem?
  intro i
  by_cases hi : (i : Int) < w.1
  · obtain ⟨r, h1, h2, h3⟩ := h.row i hi
    rw [h1]
    unfold LW.dists
    rw [List.getElem?_map, rngI_at hi]
    simp only [Option.map_some, Option.some.injEq]
    apply List.ext_getElem?
    intro j
    by_cases hj : (j : Int) < w.1
    · rw [h3 j hj]
      unfold distRow
      rw [List.getElem?_map, rngI_at hj, hM i j (by omega) hi (by omega) hj]
      rfl
    · rw [List.getElem?_eq_none (by omega), List.getElem?_eq_none (by rw [distRow_len]; omega)]
  · rw [List.getElem?_eq_none (by rw [h.len]; omega), List.getElem?_eq_none (by rw [dists_len]; omega)]
/-! ways with what is between below k -/
inductive WayI (w : Web) (k : Int) : Int → Int → Int → Prop
  | nil {a : Int} (h0 : 0 ≤ a) (h1 : a < w.1) : WayI w k a a 0
  | one {a b l : Int} : tieL w a b = some l → WayI w k a b l
  | via {a c b d e : Int} : WayI w k a c d → 0 ≤ c → c < k → WayI w k c b e → WayI w k a b (d + e)
theorem WayI.ok {w : Web} (W : WebOk w) {k a b d : Int} (h : WayI w k a b d) : 0 ≤ d := by
  induction h with
  | nil _ _ => exact Int.le_refl _
  | one t => have := W.tieL_pos t; omega
  | via _ _ _ _ i1 i2 => omega
theorem Way.toI {w : Web} (W : WebOk w) {a b d : Int} (h : Way w a b d) : WayI w w.1 a b d := by
  induction h with
  | nil h0 h1 => exact .nil h0 h1
  | snoc h t ih =>
    have := W.tieL_pos t
    exact .via ih this.2.2.1 this.2.2.2.1 (.one t)
theorem WayI.cut {w : Web} (W : WebOk w) {k a b d : Int} (h : WayI w (k + 1) a b d) : (∃ e, e ≤ d ∧ WayI w k a b e) ∨ ∃ d1 d2, WayI w k a k d1 ∧ WayI w k k b d2 ∧ d1 + d2 ≤ d := by
  induction h with
  | nil h0 h1 => exact .inl ⟨0, Int.le_refl _, .nil h0 h1⟩
  | one t => exact .inl ⟨_, Int.le_refl _, .one t⟩
  | @via a c b d e h1 c0 c1 h2 i1 i2 =>
    by_cases hc : c < k
    · rcases i1 with ⟨e1, l1, g1⟩ | ⟨x1, x2, g1, g2, l1⟩
      · rcases i2 with ⟨e2, l2, g3⟩ | ⟨y1, y2, g3, g4, l2⟩
        · exact .inl ⟨e1 + e2, by omega, .via g1 c0 hc g3⟩
        · exact .inr ⟨e1 + y1, y2, .via g1 c0 hc g3, g4, by omega⟩
      · rcases i2 with ⟨e2, l2, g3⟩ | ⟨y1, y2, g3, g4, l2⟩
        · exact .inr ⟨x1, x2 + e2, g1, .via g2 c0 hc g3, by omega⟩
        · have := g2.ok W; have := g3.ok W; exact .inr ⟨x1, y2, g1, g4, by omega⟩
    · have : c = k := by omega
      subst this
      rcases i1 with ⟨e1, l1, g1⟩ | ⟨x1, x2, g1, g2, l1⟩
      · rcases i2 with ⟨e2, l2, g3⟩ | ⟨y1, y2, g3, g4, l2⟩
        · exact .inr ⟨e1, e2, g1, g3, by omega⟩
        · have := g3.ok W; exact .inr ⟨e1, y2, g1, g4, by omega⟩
      · rcases i2 with ⟨e2, l2, g3⟩ | ⟨y1, y2, g3, g4, l2⟩
        · have := g2.ok W; exact .inr ⟨x1, e2, g1, g3, by omega⟩
        · have := g2.ok W; have := g3.ok W; exact .inr ⟨x1, y2, g1, g4, by omega⟩
end LW
namespace LW
open PySem PySem.Spec L2
theorem py_P3 (t : Tie) : py (eP3 eI eI eI t) = .tuple [.int t.1, .int t.2.1, .int t.2.2] := rfl
theorem pyA_T : ∀ xs : List Tie, pyA (xs.map (eP3 eI eI eI)) = xs.map fun p => PyData.tuple [.int p.1, .int p.2.1, .int p.2.2]
  | [] => rfl
  | x :: xs => by simp only [List.map_cons, pyA, pyA_T xs]; rfl
theorem okSrt_T (xs : List Tie) : okSrt (xs.map (eP3 eI eI eI)) = true := by
  have hf : fltA (xs.map (eP3 eI eI eI)) = true := fltA_map (fun a => rfl) xs
  have hd : ∀ xs : List Tie, PyData.depthAll (xs.map fun p => PyData.tuple [.int p.1, .int p.2.1, .int p.2.2]) ≤ 1 := fun xs => by
    induction xs with
    | nil => simp [PyData.depthAll]
    | cons p r ih => simp only [List.map_cons, PyData.depthAll, PyData.depth]; omega
  have hd := hd xs
  unfold okSrt okAl
  rw [pyA_T, hf]
  simp only [Bool.true_and, Bool.and_eq_true, Bool.or_eq_true, List.all_eq_true, List.mem_map, decide_eq_true_eq]
  refine ⟨⟨⟨?_, ?_⟩, by omega⟩, .inl ?_⟩
  · rintro x ⟨p, _, rfl⟩ y ⟨q, _, rfl⟩; simp [PySem.W.alike, PySem.W.alikeAll]
  · rintro x ⟨p, _, rfl⟩; rfl
  · rintro x ⟨p, _, rfl⟩; rfl
def leT (p q : Tie) : Prop := p.1 < q.1 ∨ (p.1 = q.1 ∧ (p.2.1 < q.2.1 ∨ (p.2.1 = q.2.1 ∧ p.2.2 ≤ q.2.2)))
theorem dataLt_T (a b : Tie) : PySem.W.dataLt (py (eP3 eI eI eI a)) (py (eP3 eI eI eI b)) = decide (a.1 < b.1 ∨ (a.1 = b.1 ∧ (a.2.1 < b.2.1 ∨ (a.2.1 = b.2.1 ∧ a.2.2 < b.2.2)))) := by
  rw [py_P3, py_P3, PySem.W.dataLt_tuple, PySem.W.dataLt_cons (by simp [PySem.W.alike]), PySem.W.dataLt_cons (by simp [PySem.W.alike]), PySem.W.dataLt_cons (by simp [PySem.W.alike])]
  rw [PySem.W.dataLt_int, PySem.W.dataLt_int, PySem.W.dataLt_int]
  simp only [PyData.eqv, beq_iff_eq]
  have e : PyProof.Rows.lexLt PyProof.Rows.itemOrd (PySem.W.keyToksAll []) (PySem.W.keyToksAll []) = false := PyProof.Rows.lex_irrefl _
  rw [e]
  by_cases h1 : a.1 = b.1 <;> by_cases h2 : a.2.1 = b.2.1 <;> by_cases h3 : a.2.2 = b.2.2 <;> simp [h1, h2, h3]
theorem leD_T (a b : Tie) : leD (eP3 eI eI eI a) (eP3 eI eI eI b) = true ↔ leT a b := by
  unfold leD leT
  rw [dataLt_T]
  simp only [Bool.not_eq_true', decide_eq_false_iff_not]
  omega
theorem sortedQ_T (xs : List Tie) : ∃ ys, sortedQ (eP3 eI eI eI) xs = some ys ∧ ys.Perm xs ∧ ys.Pairwise leT := by
  refine ⟨xs.mergeSort fun a b => leD (eP3 eI eI eI a) (eP3 eI eI eI b), if_pos (okSrt_T xs), List.mergeSort_perm _ _, ?_⟩
  have := List.pairwise_mergeSort (le := fun a b : Tie => leD (eP3 eI eI eI a) (eP3 eI eI eI b)) (fun a b c => by simp only [leD_T, leT]; omega) (fun a b => by simp only [Bool.or_eq_true, leD_T, leT]; omega) xs
  exact this.imp fun h => (leD_T _ _).mp h
theorem eraseIdx_perm {α : Type} : ∀ {xs : List α} {i : Nat} {x : α}, xs[i]? = some x → xs.Perm (x :: xs.eraseIdx i)
  | [], _, _, h => by simp at h
  | y :: ys, 0, x, h => by simp at h; subst h; exact .refl _
  | y :: ys, i + 1, x, h => by
    have := eraseIdx_perm (xs := ys) (i := i) (x := x) (by simpa using h)
    exact (this.cons y).trans (.swap _ _ _)
theorem popAtQ_ok {α : Type} {xs : List α} {i : Int} (h0 : 0 ≤ i) (h1 : i < xs.length) : ∃ x r, popAtQ xs i = some (x, r) ∧ xs.Perm (x :: r) := by
  obtain ⟨j, rfl⟩ := Int.eq_ofNat_of_zero_le h0
  have hj : j < xs.length := by omega
  refine ⟨xs[j], xs.eraseIdx j, ?_, eraseIdx_perm (List.getElem?_eq_getElem hj)⟩
  unfold popAtQ
  rw [ixN_nat hj]
  simp [hj]
theorem ixQ_last {α : Type} {xs : List α} (h : xs ≠ []) : ixQ xs (-1) = some (xs.getLast h) := by
  have hl : 0 < xs.length := List.length_pos_iff.mpr h
  unfold ixQ atI ixN
  rw [if_neg (by omega), if_pos (by omega)]
  have e : ((-1 : Int) + (xs.length : Nat)).toNat = xs.length - 1 := by omega
  simp only [Option.bind_some, e]
  rw [List.getLast_eq_getElem]
  exact List.getElem?_eq_getElem _
theorem cutL_two {xs : List Int} {k : Nat} (h : k + 1 < xs.length) : cutL xs (some (k : Int)) (some ((k : Int) + 2)) = [xs[k], xs[k + 1]] := by
  unfold cutL HT.sIx
  simp only
  rw [if_neg (by omega), if_neg (by omega)]
  have e1 : min (k : Int).toNat xs.length = k := by omega
  have e2 : min ((k : Int) + 2).toNat xs.length = k + 2 := by omega
  rw [e1, e2, show k + 2 - k = 2 by omega]
  rw [List.drop_eq_getElem_cons (by omega), List.drop_eq_getElem_cons h]
  rfl
theorem sort_two {a b : Int} (h : a ≠ b) : sortedQ eI [a, b] = some [if b < a then b else a, if b < a then a else b] := by
  obtain ⟨ys, h1, h2, h3⟩ := sortedQ_I [a, b]
  rw [h1]
  congr 1
  have n : ([a, b] : List Int).Nodup := by simp [h]
  refine rise_eq (rise_of h3 (h2.nodup_iff.mpr n)) ?_ fun x => ?_
  · by_cases q : b < a
    · simp [q]
    · have : a < b := by omega
      simp [q, this]
  · rw [h2.mem_iff]
    by_cases q : b < a
    · simp only [q, if_true, List.mem_cons, List.not_mem_nil, or_false]; exact ⟨Or.symm, Or.symm⟩
    · simp only [q, if_false]
/-- a sum that may stop -/
def sumO : List (Option Int) → Option Int
  | [] => some 0
  | none :: _ => none
  | some l :: r => (sumO r).map (l + ·)
theorem forR_sum {α : Type} {f : Int → α → Option (Int ⊕ Option Int)} {g : α → Option Int} : ∀ {xs : List α} {s : Int}, (∀ s x, x ∈ xs → f s x = some (match g x with
    | none => .inr none
    | some l => .inl (s + l))) → forR f xs s = some (match sumO (xs.map g) with
    | some t => .inl (s + t)
    | none => .inr none)
  | [], s, _ => by simp [forR, sumO]
  | x :: xs, s, h => by
    unfold forR
    rw [h s x List.mem_cons_self, List.map_cons]
    cases q : g x with
    | none => rfl
    | some l =>
      show forR f xs (s + l) = _
      rw [forR_sum fun s y hy => h s y (List.mem_cons_of_mem _ hy)]
      simp only [sumO]
      cases sumO (xs.map g) with
      | none => rfl
      | some t => simp only [Option.map_some]; congr 2; omega
theorem sumO_all : ∀ {xs : List (Option Int)}, (∀ o ∈ xs, o.isSome = true) → sumO xs = some (xs.map fun o => o.getD 0).sum
  | [], _ => rfl
  | none :: r, h => by have := h none List.mem_cons_self; cases this
  | some l :: r, h => by
    simp only [sumO, sumO_all fun o ho => h o (List.mem_cons_of_mem _ ho), Option.map_some, List.map_cons, Option.getD_some, List.sum_cons]
theorem sumO_none : ∀ {xs : List (Option Int)}, none ∈ xs → sumO xs = none
  | [], h => by cases h
  | none :: r, _ => rfl
  | some l :: r, h => by
    simp only [sumO, sumO_none (by simpa using h : none ∈ r), Option.map_none]
theorem sumO_bound {b : Int} (hb : 0 ≤ b) : ∀ {xs : List (Option Int)} {t : Int}, (∀ l, some l ∈ xs → 0 ≤ l ∧ l ≤ b) → sumO xs = some t → 0 ≤ t ∧ t ≤ b * xs.length
  | [], t, _, h => by cases h; simp
  | none :: r, t, _, h => by cases h
  | some l :: r, t, hl, h => by
    simp only [sumO] at h
    cases q : sumO r with
    | none => rw [q] at h; cases h
    | some u =>
      rw [q] at h
      cases h
      have h1 := hl l List.mem_cons_self
      have h2 := sumO_bound hb (fun l hl' => hl l (List.mem_cons_of_mem _ hl')) q
      rw [List.length_cons]
      push_cast
      rw [Int.mul_add]
      omega
end LW
namespace LW
open PySem PySem.Spec L2
/-! the best one of ints -/
theorem argBest_ok {r : Nat → Nat → Bool} {f : Nat → Int} : ∀ k, (∀ i j, i ≤ k → j ≤ k → r i j = decide (f i < f j)) → argBest r k ≤ k ∧ ∀ j, j ≤ k → f (argBest r k) ≤ f j
  | 0, h => ⟨Nat.le_refl _, fun j hj => by have : j = 0 := by omega
                                           subst this; exact Int.le_refl _⟩
  | k + 1, h => by
    obtain ⟨h1, h2⟩ := argBest_ok (r := r) (f := f) k fun i j hi hj => h i j (by omega) (by omega)
    unfold argBest
    rw [h (k + 1) (argBest r k) (by omega) (by omega)]
    by_cases q : f (k + 1) < f (argBest r k)
    · rw [if_pos (by simpa using q)]
      refine ⟨Nat.le_refl _, fun j hj => ?_⟩
      by_cases e : j = k + 1
      · subst e; exact Int.le_refl _
      · have := h2 j (by omega); omega
    · rw [if_neg (by simpa using q)]
      refine ⟨by omega, fun j hj => ?_⟩
      by_cases e : j = k + 1
      · subst e; omega
      · exact h2 j (by omega)
theorem dataLt_I (a b : Int) : PySem.W.dataLt (py (eI a)) (py (eI b)) = decide (a < b) := PySem.W.dataLt_int a b
theorem minQ_I {xs : List Int} (h : xs ≠ []) : ∃ m, minQ eI xs = some m ∧ m ∈ xs ∧ ∀ x ∈ xs, m ≤ x := by
  have hl : 0 < xs.length := List.length_pos_iff.mpr h
  obtain ⟨h1, h2⟩ := argBest_ok (r := fun i j => PySem.W.dataLt ((pyA (xs.map eI)).getD i .none) ((pyA (xs.map eI)).getD j .none)) (f := fun i => xs.getD i 0) (xs.length - 1) fun i j hi hj => by
    have e1 : xs[i]? = some xs[i] := List.getElem?_eq_getElem (by omega)
    have e2 : xs[j]? = some xs[j] := List.getElem?_eq_getElem (by omega)
    rw [pyA_getD e1, pyA_getD e2, dataLt_I, List.getD_eq_getElem?_getD, List.getD_eq_getElem?_getD, e1, e2]; rfl
  generalize hk : argBest (fun i j => PySem.W.dataLt ((pyA (xs.map eI)).getD i .none) ((pyA (xs.map eI)).getD j .none)) (xs.length - 1) = k at h1 h2
  have e : xs[k]? = some xs[k] := List.getElem?_eq_getElem (by omega)
  refine ⟨xs[k], ?_, List.mem_of_getElem? e, fun x hx => ?_⟩
  · unfold minQ minAt
    rw [if_pos (okAl_I _), List.length_map, hk, e]
  · obtain ⟨j, hj, rfl⟩ := List.getElem_of_mem hx
    have := h2 j (by omega)
    simp only [List.getD_eq_getElem?_getD, e, List.getElem?_eq_getElem hj] at this
    exact this
theorem maxQ_I {xs : List Int} (h : xs ≠ []) : ∃ m, maxQ eI xs = some m ∧ m ∈ xs ∧ ∀ x ∈ xs, x ≤ m := by
  have hl : 0 < xs.length := List.length_pos_iff.mpr h
  obtain ⟨h1, h2⟩ := argBest_ok (r := fun i j => PySem.W.dataLt ((pyA (xs.map eI)).getD j .none) ((pyA (xs.map eI)).getD i .none)) (f := fun i => -xs.getD i 0) (xs.length - 1) fun i j hi hj => by
    have e1 : xs[i]? = some xs[i] := List.getElem?_eq_getElem (by omega)
    have e2 : xs[j]? = some xs[j] := List.getElem?_eq_getElem (by omega)
    rw [pyA_getD e1, pyA_getD e2, dataLt_I, List.getD_eq_getElem?_getD, List.getD_eq_getElem?_getD, e1, e2]
    simp only [Option.getD_some, decide_eq_decide]; omega
  generalize hk : argBest (fun i j => PySem.W.dataLt ((pyA (xs.map eI)).getD j .none) ((pyA (xs.map eI)).getD i .none)) (xs.length - 1) = k at h1 h2
  have e : xs[k]? = some xs[k] := List.getElem?_eq_getElem (by omega)
  refine ⟨xs[k], ?_, List.mem_of_getElem? e, fun x hx => ?_⟩
  · unfold maxQ maxAt
    rw [if_pos (okAl_I _), List.length_map, hk, e]
  · obtain ⟨j, hj, rfl⟩ := List.getElem_of_mem hx
    have := h2 j (by omega)
    simp only [List.getD_eq_getElem?_getD, e, List.getElem?_eq_getElem hj, Option.getD_some] at this
    omega
/-- the least of a rising list is its head -/
theorem minQ_rise {x : Int} {xs : List Int} (h : (x :: xs).Pairwise (· < ·)) : minQ eI (x :: xs) = some x := by
  obtain ⟨m, h1, h2, h3⟩ := minQ_I (xs := x :: xs) (by simp)
  rw [h1]
  have := h3 x List.mem_cons_self
  rcases List.mem_cons.mp h2 with e | e
  · rw [e]
  · have := (List.pairwise_cons.mp h).1 m e
    omega
/-! rows -/
theorem app2Q_ok {α : Type} {rows : List (List α)} {i : Nat} {row : List α} {v : α} (h : rows[i]? = some row) (hl : row.length < 16777216) : app2Q rows (i : Int) v = some (rows.set i (row ++ [v])) := by
  have hi : i < rows.length := by
    rcases Nat.lt_or_ge i rows.length with h' | h'
    · exact h'
    · rw [List.getElem?_eq_none h'] at h; cases h
  unfold app2Q rowN
  rw [ixQ_nat, h, ixN_nat hi]
  simp only [Option.bind_some, appQ_ok hl, Option.map_some, Option.getD_some]
/-! sorted by unlike ints -/
theorem sortedFQ_eq {α : Type} {f : α → Int} {xs ys : List α} (hp : ys.Perm xs) (hy : ys.Pairwise fun a b => f a < f b) : sortedFQ f xs = some ys := by
  have hn : (xs.map f).Nodup := by
    have : (ys.map f).Nodup := by
      rw [List.Nodup, List.pairwise_map]
      exact hy.imp fun h => by omega
    exact (hp.map f).nodup_iff.mp this
  unfold sortedFQ
  rw [if_pos hn]
  congr 1
  have hm : (xs.mergeSort fun a b => decide (f a ≤ f b)).Perm xs := List.mergeSort_perm _ _
  refine List.Perm.eq_of_pairwise (le := fun a b => f a ≤ f b) (fun a b ha hb h1 h2 => ?_) ?_ (hy.imp fun h => by omega) (hm.trans hp.symm)
  · exact pwInj hy (hp.mem_iff.mpr (hm.mem_iff.mp ha)) hb (by omega)
  · exact (List.pairwise_mergeSort (le := fun a b => decide (f a ≤ f b)) (fun a b c => by simp only [decide_eq_true_eq]; omega) (fun a b => by simp only [Bool.or_eq_true, decide_eq_true_eq]; omega) xs).imp fun h => by simpa using h
/-! sorted of rows of four ints -/
abbrev I4 : Type := Int × Int × Int × Int
theorem pyA_4 : ∀ xs : List I4, pyA (xs.map (eP4 eI eI eI eI)) = xs.map fun p => PyData.tuple [.int p.1, .int p.2.1, .int p.2.2.1, .int p.2.2.2]
  | [] => rfl
  | x :: xs => by simp only [List.map_cons, pyA, pyA_4 xs]; rfl
theorem okSrt_4 (xs : List I4) : okSrt (xs.map (eP4 eI eI eI eI)) = true := by
  have hf : fltA (xs.map (eP4 eI eI eI eI)) = true := fltA_map (fun a => rfl) xs
  have hd : ∀ xs : List I4, PyData.depthAll (xs.map fun p => PyData.tuple [.int p.1, .int p.2.1, .int p.2.2.1, .int p.2.2.2]) ≤ 1 := fun xs => by
    induction xs with
    | nil => simp [PyData.depthAll]
    | cons p r ih => simp only [List.map_cons, PyData.depthAll, PyData.depth]; omega
  have hd := hd xs
  unfold okSrt okAl
  rw [pyA_4, hf]
  simp only [Bool.true_and, Bool.and_eq_true, Bool.or_eq_true, List.all_eq_true, List.mem_map, decide_eq_true_eq]
  refine ⟨⟨⟨?_, ?_⟩, by omega⟩, .inl ?_⟩
  · rintro x ⟨p, _, rfl⟩ y ⟨q, _, rfl⟩; simp [PySem.W.alike, PySem.W.alikeAll]
  · rintro x ⟨p, _, rfl⟩; rfl
  · rintro x ⟨p, _, rfl⟩; rfl
theorem sortedQ_4 (xs : List I4) : ∃ ys, sortedQ (eP4 eI eI eI eI) xs = some ys ∧ ys.Perm xs := ⟨_, if_pos (okSrt_4 xs), List.mergeSort_perm _ _⟩
theorem cutL_take {α : Type} {xs : List α} {k : Nat} (h : k ≤ xs.length) : cutL xs none (some (k : Int)) = xs.take k := by
  show (xs.drop 0).take (HT.sIx xs.length xs.length (some (k : Int)) - 0) = _
  have : HT.sIx xs.length xs.length (some (k : Int)) = k := by
    rw [HT.sIx_nat]
    omega
  rw [this, List.drop_zero, Nat.sub_zero]
/-- a comprehension that draws and leaves out -/
theorem compT_some {α β τ : Type} {f : τ → α → Option (Option β × τ)} (I : Nat → List β → τ → Prop) {xs : List α} {T : τ} (h0 : I 0 [] T) (h : ∀ k x ys T, xs[k]? = some x → I k ys T → Sat (f T x) fun r => I (k + 1) (ys ++ r.1.toList) r.2) : Sat (compT f xs T) fun r => I xs.length r.1 r.2 := by
  have gen : ∀ (l : List α) (k : Nat) (ys : List β) (T : τ), (∀ j, l[j]? = xs[k + j]?) → I k ys T → Sat (compT f l T) fun r => I (k + l.length) (ys ++ r.1) r.2 := by
    intro l
    induction l with
    | nil => intro k ys T _ hi; exact ⟨_, rfl, by simpa using hi⟩
    | cons x l ih =>
      intro k ys T hl hi
      obtain ⟨⟨o, T1⟩, h1, h2⟩ := h k x ys T (by have := hl 0; simpa using this.symm) hi
      obtain ⟨⟨zs, T2⟩, h3, h4⟩ := ih (k + 1) (ys ++ o.toList) T1 (fun j => by have := hl (j + 1); rw [List.getElem?_cons_succ] at this; rw [this]; congr 1; omega) h2
      refine ⟨(o.toList ++ zs, T2), ?_, ?_⟩
      · unfold compT
        rw [h1]
        simp only [Option.bind_some, h3]
        cases o <;> rfl
      · simp only at h4 ⊢
        rw [List.append_assoc] at h4
        rw [show k + (x :: l).length = k + 1 + l.length by simp; omega]
        exact h4
  have := gen xs 0 [] T (fun j => by rw [Nat.zero_add]) h0
  simpa using this
theorem Sat.whileR {σ ρ : Type} {c : σ → Option Bool} {f : σ → Option (σ ⊕ ρ)} {Q : ρ → Prop} (I : σ → Prop) (m : σ → Nat) : ∀ {n : Nat} {s : σ}, I s → m s < n → (∀ s, I s → ∃ b, c s = some b ∧ (b = true → Sat (f s) fun z => match z with | .inl s' => I s' ∧ m s' < m s | .inr r => Q r)) → Sat (LW.whileR c f n s) fun z => match z with | .inl s => I s ∧ c s = some false | .inr r => Q r
  | 0, s, _, h, _ => absurd h (Nat.not_lt_zero _)
  | n + 1, s, hi, hm, h => by
    obtain ⟨b, h1, h2⟩ := h s hi
    unfold LW.whileR
    rw [h1]
    cases b with
    | false => exact ⟨.inl s, rfl, hi, h1⟩
    | true =>
      obtain ⟨z, h3, h4⟩ := h2 rfl
      simp only [Option.bind_some, if_true, h3]
      cases z with
      | inl s' =>
        simp only at h4 ⊢
        exact Sat.whileR I m h4.1 (by omega) h
      | inr r => exact ⟨.inr r, rfl, h4⟩
end LW
namespace LW
open PySem PySem.Spec L2
open PyProof.Rows (envOfC)
def topS (i : Nat) : Stmt := PySem.Challenge.pw_labelways_k38_plans_by_kind.main.body.getD i (.Pass ⟨0, 0, 0, 0⟩)
abbrev s__law_tape : Stmt := topS 9
theorem sc__law_tape : FnScope ["_law_script"] ["_law_script"] (defScope s__law_tape) := ⟨rfl, rfl, rfl, by decide +kernel, rfl, by decide +kernel, by decide +kernel⟩
theorem bd__law_tape (kV doc pm : Value) (an : Option Addr) (cdv ct : Value) (us : List Value) (hl : us.length = (["_law_script"] : List Str).length) : bindArgs (PySem.W.fnOf "_law_tape" "_law_tape" (defArgs s__law_tape) (defBody s__law_tape) (defScope s__law_tape) .none kV doc pm an cdv ct) ⟨us, []⟩ = pure ((["_law_script"] : List Str).zip us) := match us, hl with | [_], _ => rfl
noncomputable def b__law_tape : MS := (sRet (bd (rLst (eCons (fz (rSlc (eVar 0) (ret none) (pI (ret (.int 63))))) (eCons (ret (.int 0)) (eCons (ret (.int 0)) (ret [])))))))
noncomputable def m__law_tape : Fn := trF (bodyF 1 b__law_tape)
theorem cal__law_tape {P : Program} {w : World} {K : PySem.W.Frag} {mg : Str → Option Value} {base : Heap} {f : Addr} {fd : FuncData} (G : Gz mg) (d : Df K mg "_law_tape" s__law_tape ["_law_script"] f fd) :
    Cal P w K mg base 1 "_law_tape" 1 m__law_tape :=
  cal_mk (okF d.F sc__law_tape rfl rfl fun cdv A out s H E hr hg tk => by
    have C : Ct 0 (cxOf (L2.CX P w) P w K mg base ["_law_script"] "_law_tape" (defScope s__law_tape) f cdv A out s H E) := ⟨hr, hg, rfl, sc__law_tape.nd, G⟩
    exact (sb_one (ss_ret (SR.bd (sr_lst (sa_cons (SR.fz (sr_slc (se_var (i := 0) rfl (.inl rfl)) so_none (so_some se_int))) (sa_cons se_int (sa_cons se_int sa_nil)))))))) d.F d.m d.b
abbrev s__law_draw : Stmt := topS 10
theorem sc__law_draw : FnScope ["_law_tape_here", "_law_many", "_law_found", "_law_spot", "_law_cell", "_law_mixed"] ["_law_tape_here", "_law_many"] (defScope s__law_draw) := ⟨rfl, rfl, rfl, by decide +kernel, rfl, by decide +kernel, by decide +kernel⟩
theorem bd__law_draw (kV doc pm : Value) (an : Option Addr) (cdv ct : Value) (us : List Value) (hl : us.length = (["_law_tape_here", "_law_many"] : List Str).length) : bindArgs (PySem.W.fnOf "_law_draw" "_law_draw" (defArgs s__law_draw) (defBody s__law_draw) (defScope s__law_draw) .none kV doc pm an cdv ct) ⟨us, []⟩ = pure ((["_law_tape_here", "_law_many"] : List Str).zip us) := match us, hl with | [_, _], _ => rfl
noncomputable def b__law_draw : MS := (seq (sIf (toB (e2 (pu gGt) (e2 gIx (eVar 0) (ret (.int 2))) (ret (.int 0)))) (seq (sSet 2 (e2 (pu gMod) (e2 gIx (eVar 0) (ret (.int 2))) (eVar 1))) (seq (sPutL (e2 (pu gDiv) (e2 gIx (eVar 0) (ret (.int 2))) (eVar 1)) (eVar 0) (ret (.int 2))) (sRet (eVar 2)))) done) (seq (sSet 3 (e2 gIx (eVar 0) (ret (.int 1)))) (seq (sPutL (e2 (pu gAdd) (eVar 3) (ret (.int 1))) (eVar 0) (ret (.int 1))) (seq (sSet 4 (eIf (toB (e2 (pu gGt) (eN (pu gLen) (eCons (e2 gIx (eVar 0) (ret (.int 0))) (ret []))) (ret (.int 0)))) (e2 gIx (e2 gIx (eVar 0) (ret (.int 0))) (e2 (pu gMod) (eVar 3) (eN (pu gLen) (eCons (e2 gIx (eVar 0) (ret (.int 0))) (ret []))))) (ret (.int 7)))) (seq (sIf (bAnd (toB (e2 (pu gGe) (eVar 4) (e2 (pu gPow) (ret (.int 10)) (ret (.int 18))))) (toB (e2 (pu gLt) (eVar 3) (eN (pu gLen) (eCons (e2 gIx (eVar 0) (ret (.int 0))) (ret [])))))) (seq (sPutL (e2 (pu gDiv) (eVar 4) (eVar 1)) (eVar 0) (ret (.int 2))) (sRet (e2 (pu gMod) (eVar 4) (eVar 1)))) done) (seq (sSet 5 (e2 (pu gMod) (e2 (pu gMul) (e2 (pu gAdd) (e2 (pu gMod) (eVar 4) (ret (.int 998244353))) (ret (.int 1))) (e2 (pu gAdd) (ret (.int 48271)) (e2 (pu gMul) (ret (.int 2)) (eVar 3)))) (ret (.int 2147483647)))) (sRet (e2 (pu gMod) (e2 (pu gDiv) (e2 (pu gMod) (e2 (pu gMul) (e2 (pu gAdd) (eVar 5) (e2 (pu gMul) (e2 (pu gMul) (ret (.int 7919)) (eVar 3)) (eVar 3))) (ret (.int 69621))) (ret (.int 2147483629))) (ret (.int 5))) (eVar 1)))))))))
noncomputable def m__law_draw : Fn := trF (bodyF 6 b__law_draw)
theorem cal__law_draw {P : Program} {w : World} {K : PySem.W.Frag} {mg : Str → Option Value} {base : Heap} {f : Addr} {fd : FuncData} (G : Gz mg) (d : Df K mg "_law_draw" s__law_draw ["_law_tape_here", "_law_many"] f fd) :
    Cal P w K mg base 1 "_law_draw" 2 m__law_draw :=
  cal_mk (okF d.F sc__law_draw rfl rfl fun cdv A out s H E hr hg tk => by
    have C : Ct 0 (cxOf (L2.CX P w) P w K mg base ["_law_tape_here", "_law_many", "_law_found", "_law_spot", "_law_cell", "_law_mixed"] "_law_draw" (defScope s__law_draw) f cdv A out s H E) := ⟨hr, hg, rfl, sc__law_draw.nd, G⟩
    exact (sb_cons (ss_if (SC.st (sc_R op_gt okGt (se_ix (C).u1 (se_var (i := 0) rfl (.inl rfl)) se_int (fun _ _ => rfl)) se_int) (nomark _)) (sb_cons (ss_set (i := 2) (C).nd rfl (.inl rfl) (se_bin op_mod okMod (se_ix (C).u1 (se_var (i := 0) rfl (.inl rfl)) se_int (fun _ _ => rfl)) (se_var (i := 1) rfl (.inl rfl)))) (sb_cons (ss_putL (se_bin op_fdiv okDiv (se_ix (C).u1 (se_var (i := 0) rfl (.inl rfl)) se_int (fun _ _ => rfl)) (se_var (i := 1) rfl (.inl rfl))) (se_var (i := 0) rfl (.inl rfl)) se_int) (sb_one (ss_ret (se_var (i := 2) rfl (.inl rfl)))))) sb_nil) (sb_cons (ss_set (i := 3) (C).nd rfl (.inl rfl) (se_ix (C).u1 (se_var (i := 0) rfl (.inl rfl)) se_int (fun _ _ => rfl))) (sb_cons (ss_putL (se_bin op_addA okAdd (se_var (i := 3) rfl (.inl rfl)) se_int) (se_var (i := 0) rfl (.inl rfl)) se_int) (sb_cons (ss_set (i := 4) (C).nd rfl (.inl rfl) (se_ifE (SC.st (sc_R op_gt okGt (x_len (C) rfl (sa_cons (se_ix (C).u1 (se_var (i := 0) rfl (.inl rfl)) se_int (fun _ _ => rfl)) sa_nil)) se_int) (nomark _)) (se_ix (C).u1 (se_ix (C).u1 (se_var (i := 0) rfl (.inl rfl)) se_int (fun _ _ => rfl)) (se_bin op_mod okMod (se_var (i := 3) rfl (.inl rfl)) (x_len (C) rfl (sa_cons (se_ix (C).u1 (se_var (i := 0) rfl (.inl rfl)) se_int (fun _ _ => rfl)) sa_nil))) (fun _ _ => rfl)) se_int)) (sb_cons (ss_if (SW.st (sw_and (SC.st (sc_R op_ge okGe (se_var (i := 4) rfl (.inl rfl)) (se_bin op_pow okPow se_int se_int)) (nomark _)) (sw_and1 (SC.st (sc_R (op_ltA (C).u0) okLt (se_var (i := 3) rfl (.inl rfl)) (x_len (C) rfl (sa_cons (se_ix (C).u1 (se_var (i := 0) rfl (.inl rfl)) se_int (fun _ _ => rfl)) sa_nil))) (nomark _))))) (sb_cons (ss_putL (se_bin op_fdiv okDiv (se_var (i := 4) rfl (.inl rfl)) (se_var (i := 1) rfl (.inl rfl))) (se_var (i := 0) rfl (.inl rfl)) se_int) (sb_one (ss_ret (se_bin op_mod okMod (se_var (i := 4) rfl (.inl rfl)) (se_var (i := 1) rfl (.inl rfl)))))) sb_nil) (sb_cons (ss_set (i := 5) (C).nd rfl (.inl rfl) (se_bin op_mod okMod (se_bin op_mulA okMul (se_bin op_addA okAdd (se_bin op_mod okMod (se_var (i := 4) rfl (.inl rfl)) se_int) se_int) (se_bin op_addA okAdd se_int (se_bin op_mulA okMul se_int (se_var (i := 3) rfl (.inl rfl))))) se_int)) (sb_one (ss_ret (se_bin op_mod okMod (se_bin op_fdiv okDiv (se_bin op_mod okMod (se_bin op_mulA okMul (se_bin op_addA okAdd (se_var (i := 5) rfl (.inl rfl)) (se_bin op_mulA okMul (se_bin op_mulA okMul se_int (se_var (i := 3) rfl (.inl rfl))) (se_var (i := 3) rfl (.inl rfl)))) se_int) se_int) se_int) (se_var (i := 1) rfl (.inl rfl)))))))))))) d.F d.m d.b
abbrev s__law_plan : Stmt := topS 13
theorem sc__law_plan : FnScope ["_law_tape_here", "_law_pool", "_law_many", "_law_rest", "_law_plans", "_law_cut"] ["_law_tape_here", "_law_pool"] (defScope s__law_plan) := ⟨rfl, rfl, rfl, by decide +kernel, rfl, by decide +kernel, by decide +kernel⟩
theorem bd__law_plan (kV doc pm : Value) (an : Option Addr) (cdv ct : Value) (us : List Value) (hl : us.length = (["_law_tape_here", "_law_pool"] : List Str).length) : bindArgs (PySem.W.fnOf "_law_plan" "_law_plan" (defArgs s__law_plan) (defBody s__law_plan) (defScope s__law_plan) .none kV doc pm an cdv ct) ⟨us, []⟩ = pure ((["_law_tape_here", "_law_pool"] : List Str).zip us) := match us, hl with | [_, _], _ => rfl
noncomputable def b__law_plan (m__law_plan : Fn) : MS := (seq (sSet 2 (e2 (pu gAdd) (ret (.int 1)) (fz (rCall m__law_draw (eCons (eVar 0) (eCons (eN (pu gMin) (eCons (ret (.int 3)) (eCons (eN (pu gLen) (eCons (eVar 1) (ret []))) (ret [])))) (ret []))))))) (seq (sSet 3 (fz (rSlc (eVar 1) (pI (eVar 2)) (ret none)))) (seq (sSet 4 (bx (rLst (ret [])))) (seq (sWhile (toB (e2 (pu gNe) (eVar 3) (fz (rLst (ret []))))) (seq (sSet 5 (e2 (pu gAdd) (ret (.int 1)) (fz (rCall m__law_draw (eCons (eVar 0) (eCons (eN (pu gLen) (eCons (eVar 3) (ret []))) (ret []))))))) (seq (sDrop (eMtL (mUpd gApp) (eVar 4) (eCons (fz (rCall m__law_plan (eCons (eVar 0) (eCons (fz (rSlc (eVar 3) (ret none) (pI (eVar 5)))) (ret []))))) (ret [])))) (seq (sSet 3 (fz (rSlc (eVar 3) (pI (eVar 5)) (ret none)))) (sWp [5])))) 100000) (sRet (eTup (eCons (eN (pu gTuple) (eCons (fz (rN (puR gSorted) (eCons (fz (rSlc (eVar 1) (ret none) (pI (eVar 2)))) (ret [])))) (ret []))) (eCons (eN (pu gTuple) (eCons (eVar 4) (ret []))) (ret [])))))))))
noncomputable def mR__law_plan : Nat → Fn
  | 0 => fun _ _ => .bad
  | rr0 + 1 => trF (bodyF 6 (b__law_plan (mR__law_plan rr0)))
noncomputable def m__law_plan : Fn := mR__law_plan 14
theorem calR__law_plan {P : Program} {w : World} {K : PySem.W.Frag} {mg : Str → Option Value} {base : Heap} {f : Addr} {fd : FuncData} (G : Gz mg) (d : Df K mg "_law_plan" s__law_plan ["_law_tape_here", "_law_pool"] f fd) (h__law_draw : Cal P w K mg base 1 "_law_draw" 2 m__law_draw) : ∀ rr0 : Nat, Cal P w K mg base (2 + rr0) "_law_plan" 2 (mR__law_plan rr0)
  | 0 => cal_bad d.F d.m d.b rfl
  | rr0 + 1 => by
    have h__law_plan := calR__law_plan (P := P) (w := w) (base := base) G d h__law_draw rr0
    exact cal_mk (okF d.F sc__law_plan rfl rfl fun cdv A out s H E hr hg tk => by
      have C : Ct (2 + rr0) (cxOf (L2.CX P w) P w K mg base ["_law_tape_here", "_law_pool", "_law_many", "_law_rest", "_law_plans", "_law_cut"] "_law_plan" (defScope s__law_plan) f cdv A out s H E) := ⟨hr, hg, rfl, sc__law_plan.nd, G⟩
      exact (sb_cons (ss_set (i := 2) (C).nd rfl (.inl rfl) (se_bin op_addA okAdd se_int (SR.fz (x_call (C) tk h__law_draw (by omega) rfl (sa_cons (se_var (i := 0) rfl (.inl rfl)) (sa_cons (x_min (C) rfl (sa_cons se_int (sa_cons (x_len (C) rfl (sa_cons (se_var (i := 1) rfl (.inl rfl)) sa_nil)) sa_nil))) sa_nil)) rfl (lenC (lenC lenN)))))) (sb_cons (ss_set (i := 3) (C).nd rfl (.inl rfl) (SR.fz (sr_slc (se_var (i := 1) rfl (.inl rfl)) (so_some (se_var (i := 2) rfl (.inl rfl))) so_none))) (sb_cons (ss_set (i := 4) (C).nd rfl (.inl rfl) (SR.bx (sr_lst sa_nil))) (sb_cons (ss_while 100000 (passes_of rfl) (SC.st (sc_R (op_neA (C).u64) okNe (se_var (i := 3) rfl (.inl rfl)) (SR.fz (sr_lst sa_nil))) (nomark _)) (sb_cons (ss_set (i := 5) (C).nd rfl (.inl rfl) (se_bin op_addA okAdd se_int (SR.fz (x_call (C) tk h__law_draw (by omega) rfl (sa_cons (se_var (i := 0) rfl (.inl rfl)) (sa_cons (x_len (C) rfl (sa_cons (se_var (i := 3) rfl (.inl rfl)) sa_nil)) sa_nil)) rfl (lenC (lenC lenN)))))) (sb_cons (ss_expr (x_append (se_var (i := 4) rfl (.inl rfl)) (sa_cons (SR.fz (x_call (C) tk h__law_plan (by omega) rfl (sa_cons (se_var (i := 0) rfl (.inl rfl)) (sa_cons (SR.fz (sr_slc (se_var (i := 3) rfl (.inl rfl)) so_none (so_some (se_var (i := 5) rfl (.inl rfl))))) sa_nil)) rfl (lenC (lenC lenN)))) sa_nil))) (sb_wp [5] (sb_one (ss_set (i := 3) (C).nd rfl (.inl rfl) (SR.fz (sr_slc (se_var (i := 3) rfl (.inl rfl)) (so_some (se_var (i := 5) rfl (.inl rfl))) so_none)))))))) (sb_one (ss_ret (se_tup (sa_cons (x_tuple (C) rfl (sa_cons (SR.fz (x_sorted (C) rfl (sa_cons (SR.fz (sr_slc (se_var (i := 1) rfl (.inl rfl)) so_none (so_some (se_var (i := 2) rfl (.inl rfl))))) sa_nil))) sa_nil)) (sa_cons (x_tuple (C) rfl (sa_cons (se_var (i := 4) rfl (.inl rfl)) sa_nil)) sa_nil)))))))))) d.F d.m d.b
theorem cal__law_plan {P : Program} {w : World} {K : PySem.W.Frag} {mg : Str → Option Value} {base : Heap} {f : Addr} {fd : FuncData} (G : Gz mg) (d : Df K mg "_law_plan" s__law_plan ["_law_tape_here", "_law_pool"] f fd) (h__law_draw : Cal P w K mg base 1 "_law_draw" 2 m__law_draw) : Cal P w K mg base 16 "_law_plan" 2 m__law_plan := calR__law_plan (P := P) (w := w) (base := base) G d h__law_draw 14
abbrev s_are_places : Stmt := topS 2
theorem sc_are_places : FnScope ["thing", "one", "k"] ["thing"] (defScope s_are_places) := ⟨rfl, rfl, rfl, by decide +kernel, rfl, by decide +kernel, by decide +kernel⟩
theorem bd_are_places (kV doc pm : Value) (an : Option Addr) (cdv ct : Value) (us : List Value) (hl : us.length = (["thing"] : List Str).length) : bindArgs (PySem.W.fnOf "are_places" "are_places" (defArgs s_are_places) (defBody s_are_places) (defScope s_are_places) .none kV doc pm an cdv ct) ⟨us, []⟩ = pure ((["thing"] : List Str).zip us) := match us, hl with | [_], _ => rfl
noncomputable def b_are_places : MS := (seq (sIf (bOr (bNot (toB (eIsi "tuple" (eVar 0)))) (toB (e2 (pu gEq) (eN (pu gLen) (eCons (eVar 0) (ret []))) (ret (.int 0))))) (sRet (ret (.bl false))) done) (seq (sIf (bNot (toB (eN (pu gAll) (eCons (fz (rLc (.nm 1) [1] (iSeq (eVar 0)) (ret true) ((eAnd (eIsi "int" (eVar 1)) (eAnd (eNot (eIsi "bool" (eVar 1))) (e2 (pu gGe) (eVar 1) (ret (.int 0)))))))) (ret []))))) (sRet (ret (.bl false))) done) (sRet (eN (pu gAll) (eCons (fz (rLc (.nm 2) [2] (iR2 (eCons (ret (.int 1)) (eCons (eN (pu gLen) (eCons (eVar 0) (ret []))) (ret [])))) (ret true) ((e2 (pu gLt) (e2 gIx (eVar 0) (e2 (pu gSub) (eVar 2) (ret (.int 1)))) (e2 gIx (eVar 0) (eVar 2)))))) (ret []))))))
noncomputable def m_are_places : Fn := trF (bodyF 3 b_are_places)
theorem cal_are_places {P : Program} {w : World} {K : PySem.W.Frag} {mg : Str → Option Value} {base : Heap} {f : Addr} {fd : FuncData} (G : Gz mg) (d : Df K mg "are_places" s_are_places ["thing"] f fd) :
    Cal P w K mg base 1 "are_places" 1 m_are_places :=
  cal_mk (okF d.F sc_are_places rfl rfl fun cdv A out s H E hr hg tk => by
    have C : Ct 0 (cxOf (L2.CX P w) P w K mg base ["thing", "one", "k"] "are_places" (defScope s_are_places) f cdv A out s H E) := ⟨hr, hg, rfl, sc_are_places.nd, G⟩
    exact (sb_cons (ss_if (SW.st (sw_or (st_not (st_val (x_isi (C) rfl rfl (C).gz.ztuple PyProof.Rows.boot_tuple (by decide) (by decide) (se_var (i := 0) rfl (.inr (.inl rfl)))))) (sw_or1 (SC.st (sc_R (op_eqA (C).u64) okEq (x_len (C) rfl (sa_cons (se_var (i := 0) rfl (.inr (.inl rfl))) sa_nil)) se_int) (nomark _))))) (sb_one (ss_ret se_bl)) sb_nil) (sb_cons (ss_if (st_not (st_val (x_all (C) rfl (sa_cons (SR.fz (sr_lc (t := (.nm 1)) (C).cm (C).nd (si_seq (se_var (i := 0) rfl (.inr (.inl rfl)))) (blkOk_by (own := [("one", 1)]) rfl) (by decide) (fun _ _ _ _ _ => (pg_name (i := 1) ((C).b).nd rfl (.inl rfl))) (fun _ _ _ _ _ => spt_nil) (fun _ _ _ _ _ => (se_and (x_isi ((C).b) (by rfl) (by rfl) ((C).b).gz.zint PyProof.Rows.boot_int (by decide) (by decide) (se_var (i := 1) rfl (.inl rfl))) (se_and (se_not (x_isi ((C).b) (by rfl) (by rfl) ((C).b).gz.zbool PyProof.Rows.boot_bool (by decide) (by decide) (se_var (i := 1) rfl (.inl rfl)))) (se_one (SC.se (sc_R op_ge okGe (se_var (i := 1) rfl (.inl rfl)) se_int) (nomark _)))))))) sa_nil)))) (sb_one (ss_ret se_bl)) sb_nil) (sb_one (ss_ret (x_all (C) rfl (sa_cons (SR.fz (sr_lc (t := (.nm 2)) (C).cm (C).nd (si_range2 rfl (C).gz.zrange (sa_cons se_int (sa_cons (x_len (C) rfl (sa_cons (se_var (i := 0) rfl (.inr (.inl rfl))) sa_nil)) sa_nil))) (blkOk_by (own := [("k", 2)]) rfl) (by decide) (fun _ _ _ _ _ => (pg_name (i := 2) ((C).b).nd rfl (.inl rfl))) (fun _ _ _ _ _ => spt_nil) (fun _ _ _ _ _ => (SC.se (sc_R (op_ltA ((C).b).u0) okLt (se_ix ((C).b).u1 (se_var (i := 0) rfl (.inr (.inl rfl))) (se_bin op_sub okSub (se_var (i := 2) rfl (.inl rfl)) se_int) (fun _ _ => rfl)) (se_ix ((C).b).u1 (se_var (i := 0) rfl (.inr (.inl rfl))) (se_var (i := 2) rfl (.inl rfl)) (fun _ _ => rfl))) (nomark _))))) sa_nil))))))) d.F d.m d.b
abbrev s_is_plan_so_deep : Stmt := topS 3
theorem sc_is_plan_so_deep : FnScope ["thing", "room", "one"] ["thing", "room"] (defScope s_is_plan_so_deep) := ⟨rfl, rfl, rfl, by decide +kernel, rfl, by decide +kernel, by decide +kernel⟩
theorem bd_is_plan_so_deep (kV doc pm : Value) (an : Option Addr) (cdv ct : Value) (us : List Value) (hl : us.length = (["thing", "room"] : List Str).length) : bindArgs (PySem.W.fnOf "is_plan_so_deep" "is_plan_so_deep" (defArgs s_is_plan_so_deep) (defBody s_is_plan_so_deep) (defScope s_is_plan_so_deep) .none kV doc pm an cdv ct) ⟨us, []⟩ = pure ((["thing", "room"] : List Str).zip us) := match us, hl with | [_, _], _ => rfl
noncomputable def b_is_plan_so_deep (m_is_plan_so_deep : Fn) : MS := (seq (sIf (bOr (toB (e2 (pu gEq) (eVar 1) (ret (.int 0)))) (bOr (bNot (toB (eIsi "tuple" (eVar 0)))) (toB (e2 (pu gNe) (eN (pu gLen) (eCons (eVar 0) (ret []))) (ret (.int 2)))))) (sRet (ret (.bl false))) done) (seq (sIf (bOr (bNot (toB (fz (rCall m_are_places (eCons (e2 gIx (eVar 0) (ret (.int 0))) (ret [])))))) (bNot (toB (eIsi "tuple" (e2 gIx (eVar 0) (ret (.int 1))))))) (sRet (ret (.bl false))) done) (sRet (eN (pu gAll) (eCons (fz (rLc (.nm 2) [2] (iSeq (e2 gIx (eVar 0) (ret (.int 1)))) (ret true) ((fz (rCall m_is_plan_so_deep (eCons (eVar 2) (eCons (e2 (pu gSub) (eVar 1) (ret (.int 1))) (ret [])))))))) (ret []))))))
noncomputable def mR_is_plan_so_deep : Nat → Fn
  | 0 => fun _ _ => .bad
  | rr0 + 1 => trF (bodyF 3 (b_is_plan_so_deep (mR_is_plan_so_deep rr0)))
noncomputable def m_is_plan_so_deep : Fn := mR_is_plan_so_deep 26
theorem calR_is_plan_so_deep {P : Program} {w : World} {K : PySem.W.Frag} {mg : Str → Option Value} {base : Heap} {f : Addr} {fd : FuncData} (G : Gz mg) (d : Df K mg "is_plan_so_deep" s_is_plan_so_deep ["thing", "room"] f fd) (h_are_places : Cal P w K mg base 1 "are_places" 1 m_are_places) : ∀ rr0 : Nat, Cal P w K mg base (2 + rr0) "is_plan_so_deep" 2 (mR_is_plan_so_deep rr0)
  | 0 => cal_bad d.F d.m d.b rfl
  | rr0 + 1 => by
    have h_is_plan_so_deep := calR_is_plan_so_deep (P := P) (w := w) (base := base) G d h_are_places rr0
    exact cal_mk (okF d.F sc_is_plan_so_deep rfl rfl fun cdv A out s H E hr hg tk => by
      have C : Ct (2 + rr0) (cxOf (L2.CX P w) P w K mg base ["thing", "room", "one"] "is_plan_so_deep" (defScope s_is_plan_so_deep) f cdv A out s H E) := ⟨hr, hg, rfl, sc_is_plan_so_deep.nd, G⟩
      exact (sb_cons (ss_if (SW.st (sw_or (SC.st (sc_R (op_eqA (C).u64) okEq (se_var (i := 1) rfl (.inr (.inl rfl))) se_int) (nomark _)) (sw_or (st_not (st_val (x_isi (C) rfl rfl (C).gz.ztuple PyProof.Rows.boot_tuple (by decide) (by decide) (se_var (i := 0) rfl (.inl rfl))))) (sw_or1 (SC.st (sc_R (op_neA (C).u64) okNe (x_len (C) rfl (sa_cons (se_var (i := 0) rfl (.inl rfl)) sa_nil)) se_int) (nomark _)))))) (sb_one (ss_ret se_bl)) sb_nil) (sb_cons (ss_if (SW.st (sw_or (st_not (st_val (SR.fz (x_call (C) tk h_are_places (by omega) rfl (sa_cons (se_ix (C).u1 (se_var (i := 0) rfl (.inl rfl)) se_int (fun _ _ => rfl)) sa_nil) rfl (lenC lenN))))) (sw_or1 (st_not (st_val (x_isi (C) rfl rfl (C).gz.ztuple PyProof.Rows.boot_tuple (by decide) (by decide) (se_ix (C).u1 (se_var (i := 0) rfl (.inl rfl)) se_int (fun _ _ => rfl)))))))) (sb_one (ss_ret se_bl)) sb_nil) (sb_one (ss_ret (x_all (C) rfl (sa_cons (SR.fz (sr_lc (t := (.nm 2)) (C).cm (C).nd (si_seq (se_ix (C).u1 (se_var (i := 0) rfl (.inl rfl)) se_int (fun _ _ => rfl))) (blkOk_by (own := [("one", 2)]) rfl) (by decide) (fun _ _ _ _ _ => (pg_name (i := 2) ((C).b).nd rfl (.inl rfl))) (fun _ _ _ _ _ => spt_nil) (fun _ _ _ _ _ => (SR.fz (x_call ((C).b) takesW0 h_is_plan_so_deep (by omega) (by rfl) (sa_cons (se_var (i := 2) rfl (.inl rfl)) (sa_cons (se_bin op_sub okSub (se_var (i := 1) rfl (.inr (.inl rfl))) se_int) sa_nil)) rfl (lenC (lenC lenN))))))) sa_nil))))))) d.F d.m d.b
theorem cal_is_plan_so_deep {P : Program} {w : World} {K : PySem.W.Frag} {mg : Str → Option Value} {base : Heap} {f : Addr} {fd : FuncData} (G : Gz mg) (d : Df K mg "is_plan_so_deep" s_is_plan_so_deep ["thing", "room"] f fd) (h_are_places : Cal P w K mg base 1 "are_places" 1 m_are_places) : Cal P w K mg base 28 "is_plan_so_deep" 2 m_is_plan_so_deep := calR_is_plan_so_deep (P := P) (w := w) (base := base) G d h_are_places 26
abbrev s_is_plan : Stmt := topS 4
theorem sc_is_plan : FnScope ["thing"] ["thing"] (defScope s_is_plan) := ⟨rfl, rfl, rfl, by decide +kernel, rfl, by decide +kernel, by decide +kernel⟩
theorem bd_is_plan (kV doc pm : Value) (an : Option Addr) (cdv ct : Value) (us : List Value) (hl : us.length = (["thing"] : List Str).length) : bindArgs (PySem.W.fnOf "is_plan" "is_plan" (defArgs s_is_plan) (defBody s_is_plan) (defScope s_is_plan) .none kV doc pm an cdv ct) ⟨us, []⟩ = pure ((["thing"] : List Str).zip us) := match us, hl with | [_], _ => rfl
noncomputable def b_is_plan : MS := (sRet (bd (rCall m_is_plan_so_deep (eCons (eVar 0) (eCons (ret (.int 24)) (ret []))))))
noncomputable def m_is_plan : Fn := trF (bodyF 1 b_is_plan)
theorem cal_is_plan {P : Program} {w : World} {K : PySem.W.Frag} {mg : Str → Option Value} {base : Heap} {f : Addr} {fd : FuncData} (G : Gz mg) (d : Df K mg "is_plan" s_is_plan ["thing"] f fd) (h_is_plan_so_deep : Cal P w K mg base 28 "is_plan_so_deep" 2 m_is_plan_so_deep) (c_MOST_DEEP : Gi mg "MOST_DEEP" 24) :
    Cal P w K mg base 29 "is_plan" 1 m_is_plan :=
  cal_mk (okF d.F sc_is_plan rfl rfl fun cdv A out s H E hr hg tk => by
    have C : Ct 28 (cxOf (L2.CX P w) P w K mg base ["thing"] "is_plan" (defScope s_is_plan) f cdv A out s H E) := ⟨hr, hg, rfl, sc_is_plan.nd, G⟩
    exact (sb_one (ss_ret (SR.bd (x_call (C) tk h_is_plan_so_deep (by decide) rfl (sa_cons (se_var (i := 0) rfl (.inl rfl)) (sa_cons (x_globI c_MOST_DEEP rfl) sa_nil)) rfl (lenC (lenC lenN))))))) d.F d.m d.b
abbrev s__law_is_places : Stmt := topS 14
theorem sc__law_is_places : FnScope ["_law_thing", "_law_one"] ["_law_thing"] (defScope s__law_is_places) := ⟨rfl, rfl, rfl, by decide +kernel, rfl, by decide +kernel, by decide +kernel⟩
theorem bd__law_is_places (kV doc pm : Value) (an : Option Addr) (cdv ct : Value) (us : List Value) (hl : us.length = (["_law_thing"] : List Str).length) : bindArgs (PySem.W.fnOf "_law_is_places" "_law_is_places" (defArgs s__law_is_places) (defBody s__law_is_places) (defScope s__law_is_places) .none kV doc pm an cdv ct) ⟨us, []⟩ = pure ((["_law_thing"] : List Str).zip us) := match us, hl with | [_], _ => rfl
noncomputable def b__law_is_places : MS := (seq (sIf (bOr (bNot (toB (eIsi "tuple" (eVar 0)))) (toB (e2 (pu gEq) (eN (pu gLen) (eCons (eVar 0) (ret []))) (ret (.int 0))))) (sRet (ret (.bl false))) done) (seq (sIf (toB (e2 (pu gNe) (fz (rLc (.nm 1) [1] (iSeq (eVar 0)) ((bOr (bNot (toB (eIsi "int" (eVar 1)))) (toB (eIsi "bool" (eVar 1))))) ((eVar 1)))) (fz (rLst (ret []))))) (sRet (ret (.bl false))) done) (sRet (eAnd (e2 (pu gGe) (e2 gIx (eVar 0) (ret (.int 0))) (ret (.int 0))) (e2 (pu gEq) (eVar 0) (eN (pu gTuple) (eCons (fz (rN (puR gSSet) (eCons (eVar 0) (ret [])))) (ret []))))))))
noncomputable def m__law_is_places : Fn := trF (bodyF 2 b__law_is_places)
theorem cal__law_is_places {P : Program} {w : World} {K : PySem.W.Frag} {mg : Str → Option Value} {base : Heap} {f : Addr} {fd : FuncData} (G : Gz mg) (d : Df K mg "_law_is_places" s__law_is_places ["_law_thing"] f fd) :
    Cal P w K mg base 1 "_law_is_places" 1 m__law_is_places :=
  cal_mk (okF d.F sc__law_is_places rfl rfl fun cdv A out s H E hr hg tk => by
    have C : Ct 0 (cxOf (L2.CX P w) P w K mg base ["_law_thing", "_law_one"] "_law_is_places" (defScope s__law_is_places) f cdv A out s H E) := ⟨hr, hg, rfl, sc__law_is_places.nd, G⟩
    exact (sb_cons (ss_if (SW.st (sw_or (st_not (st_val (x_isi (C) rfl rfl (C).gz.ztuple PyProof.Rows.boot_tuple (by decide) (by decide) (se_var (i := 0) rfl (.inl rfl))))) (sw_or1 (SC.st (sc_R (op_eqA (C).u64) okEq (x_len (C) rfl (sa_cons (se_var (i := 0) rfl (.inl rfl)) sa_nil)) se_int) (nomark _))))) (sb_one (ss_ret se_bl)) sb_nil) (sb_cons (ss_if (SC.st (sc_R (op_neA (C).u64) okNe (SR.fz (sr_lc (t := (.nm 1)) (C).cm (C).nd (si_seq (se_var (i := 0) rfl (.inl rfl))) (blkOk_by (own := [("_law_one", 1)]) rfl) (by decide) (fun _ _ _ _ _ => (pg_name (i := 1) ((C).b).nd rfl (.inl rfl))) (fun _ _ _ _ _ => (spt_one (SW.st (sw_or (st_not (st_val (x_isi ((C).b) (by rfl) (by rfl) ((C).b).gz.zint PyProof.Rows.boot_int (by decide) (by decide) (se_var (i := 1) rfl (.inl rfl))))) (sw_or1 (st_val (x_isi ((C).b) (by rfl) (by rfl) ((C).b).gz.zbool PyProof.Rows.boot_bool (by decide) (by decide) (se_var (i := 1) rfl (.inl rfl))))))))) (fun _ _ _ _ _ => (se_var (i := 1) rfl (.inl rfl))))) (SR.fz (sr_lst sa_nil))) (nomark _)) (sb_one (ss_ret se_bl)) sb_nil) (sb_one (ss_ret (se_and (SC.se (sc_R op_ge okGe (se_ix (C).u1 (se_var (i := 0) rfl (.inl rfl)) se_int (fun _ _ => rfl)) se_int) (nomark _)) (se_one (SC.se (sc_R (op_eqA (C).u64) okEq (se_var (i := 0) rfl (.inl rfl)) (x_tuple (C) rfl (sa_cons (SR.fz (x_sset (C) rfl rfl (sa_cons (se_var (i := 0) rfl (.inl rfl)) sa_nil))) sa_nil))) (nomark _))))))))) d.F d.m d.b
abbrev s__law_is_plan : Stmt := topS 15
theorem sc__law_is_plan : FnScope ["_law_thing", "_law_deep_here", "_law_one"] ["_law_thing", "_law_deep_here"] (defScope s__law_is_plan) := ⟨rfl, rfl, rfl, by decide +kernel, rfl, by decide +kernel, by decide +kernel⟩
theorem bd__law_is_plan (kV doc pm : Value) (an : Option Addr) (cdv ct : Value) (us : List Value) (hl : us.length = (["_law_thing", "_law_deep_here"] : List Str).length) : bindArgs (PySem.W.fnOf "_law_is_plan" "_law_is_plan" (defArgs s__law_is_plan) (defBody s__law_is_plan) (defScope s__law_is_plan) .none kV doc pm an cdv ct) ⟨us, []⟩ = pure ((["_law_thing", "_law_deep_here"] : List Str).zip us) := match us, hl with | [_, _], _ => rfl
noncomputable def b__law_is_plan (m__law_is_plan : Fn) : MS := (seq (sIf (bOr (toB (e2 (pu gGt) (eVar 1) (ret (.int 24)))) (bOr (bNot (toB (eIsi "tuple" (eVar 0)))) (bOr (toB (e2 (pu gNe) (eN (pu gLen) (eCons (eVar 0) (ret []))) (ret (.int 2)))) (bNot (toB (fz (rCall m__law_is_places (eCons (e2 gIx (eVar 0) (ret (.int 0))) (ret []))))))))) (sRet (ret (.bl false))) done) (sRet (eAnd (eIsi "tuple" (e2 gIx (eVar 0) (ret (.int 1)))) (e2 gNotInAll (ret (.bl false)) (fz (rLc (.nm 2) [2] (iSeq (e2 gIx (eVar 0) (ret (.int 1)))) (ret true) ((fz (rCall m__law_is_plan (eCons (eVar 2) (eCons (e2 (pu gAdd) (eVar 1) (ret (.int 1))) (ret []))))))))))))
noncomputable def mR__law_is_plan : Nat → Fn
  | 0 => fun _ _ => .bad
  | rr0 + 1 => trF (bodyF 3 (b__law_is_plan (mR__law_is_plan rr0)))
noncomputable def m__law_is_plan : Fn := mR__law_is_plan 28
theorem calR__law_is_plan {P : Program} {w : World} {K : PySem.W.Frag} {mg : Str → Option Value} {base : Heap} {f : Addr} {fd : FuncData} (G : Gz mg) (d : Df K mg "_law_is_plan" s__law_is_plan ["_law_thing", "_law_deep_here"] f fd) (h__law_is_places : Cal P w K mg base 1 "_law_is_places" 1 m__law_is_places) : ∀ rr0 : Nat, Cal P w K mg base (2 + rr0) "_law_is_plan" 2 (mR__law_is_plan rr0)
  | 0 => cal_bad d.F d.m d.b rfl
  | rr0 + 1 => by
    have h__law_is_plan := calR__law_is_plan (P := P) (w := w) (base := base) G d h__law_is_places rr0
    exact cal_mk (okF d.F sc__law_is_plan rfl rfl fun cdv A out s H E hr hg tk => by
      have C : Ct (2 + rr0) (cxOf (L2.CX P w) P w K mg base ["_law_thing", "_law_deep_here", "_law_one"] "_law_is_plan" (defScope s__law_is_plan) f cdv A out s H E) := ⟨hr, hg, rfl, sc__law_is_plan.nd, G⟩
      exact (sb_cons (ss_if (SW.st (sw_or (SC.st (sc_R op_gt okGt (se_var (i := 1) rfl (.inr (.inl rfl))) se_int) (nomark _)) (sw_or (st_not (st_val (x_isi (C) rfl rfl (C).gz.ztuple PyProof.Rows.boot_tuple (by decide) (by decide) (se_var (i := 0) rfl (.inl rfl))))) (sw_or (SC.st (sc_R (op_neA (C).u64) okNe (x_len (C) rfl (sa_cons (se_var (i := 0) rfl (.inl rfl)) sa_nil)) se_int) (nomark _)) (sw_or1 (st_not (st_val (SR.fz (x_call (C) tk h__law_is_places (by omega) rfl (sa_cons (se_ix (C).u1 (se_var (i := 0) rfl (.inl rfl)) se_int (fun _ _ => rfl)) sa_nil) rfl (lenC lenN)))))))))) (sb_one (ss_ret se_bl)) sb_nil) (sb_one (ss_ret (se_and (x_isi (C) rfl rfl (C).gz.ztuple PyProof.Rows.boot_tuple (by decide) (by decide) (se_ix (C).u1 (se_var (i := 0) rfl (.inl rfl)) se_int (fun _ _ => rfl))) (se_one (SC.se (sc_notin (C).u65 se_bl (SR.fz (sr_lc (t := (.nm 2)) (C).cm (C).nd (si_seq (se_ix (C).u1 (se_var (i := 0) rfl (.inl rfl)) se_int (fun _ _ => rfl))) (blkOk_by (own := [("_law_one", 2)]) rfl) (by decide) (fun _ _ _ _ _ => (pg_name (i := 2) ((C).b).nd rfl (.inl rfl))) (fun _ _ _ _ _ => spt_nil) (fun _ _ _ _ _ => (SR.fz (x_call ((C).b) takesW0 h__law_is_plan (by omega) (by rfl) (sa_cons (se_var (i := 2) rfl (.inl rfl)) (sa_cons (se_bin op_addA okAdd (se_var (i := 1) rfl (.inr (.inl rfl))) se_int) sa_nil)) rfl (lenC (lenC lenN)))))))) (by with_unfolding_all rfl)))))))) d.F d.m d.b
theorem cal__law_is_plan {P : Program} {w : World} {K : PySem.W.Frag} {mg : Str → Option Value} {base : Heap} {f : Addr} {fd : FuncData} (G : Gz mg) (d : Df K mg "_law_is_plan" s__law_is_plan ["_law_thing", "_law_deep_here"] f fd) (h__law_is_places : Cal P w K mg base 1 "_law_is_places" 1 m__law_is_places) : Cal P w K mg base 30 "_law_is_plan" 2 m__law_is_plan := calR__law_is_plan (P := P) (w := w) (base := base) G d h__law_is_places 28
abbrev s__law_right : Stmt := topS 18
theorem sc__law_right : FnScope ["_law_thing", "_law_kept"] ["_law_thing"] (defScope s__law_right) := ⟨rfl, rfl, rfl, by decide +kernel, rfl, by decide +kernel, by decide +kernel⟩
theorem bd__law_right (kV doc pm : Value) (an : Option Addr) (cdv ct : Value) (us : List Value) (hl : us.length = (["_law_thing"] : List Str).length) : bindArgs (PySem.W.fnOf "_law_right" "_law_right" (defArgs s__law_right) (defBody s__law_right) (defScope s__law_right) .none kV doc pm an cdv ct) ⟨us, []⟩ = pure ((["_law_thing"] : List Str).zip us) := match us, hl with | [_], _ => rfl
noncomputable def b__law_right : MS := (seq (sSet 1 (eN (pu gRepr) (eCons (eVar 0) (ret [])))) (sRet (eAnd (e2 (pu gEq) (eN (pu gRepr) (eCons (fz (rCall m_is_plan (eCons (eVar 0) (ret [])))) (ret []))) (eN (pu gRepr) (eCons (fz (rCall m__law_is_plan (eCons (eVar 0) (eCons (ret (.int 1)) (ret []))))) (ret [])))) (e2 (pu gEq) (eN (pu gRepr) (eCons (eVar 0) (ret []))) (eVar 1)))))
noncomputable def m__law_right : Fn := trF (bodyF 2 b__law_right)
theorem cal__law_right {P : Program} {w : World} {K : PySem.W.Frag} {mg : Str → Option Value} {base : Heap} {f : Addr} {fd : FuncData} (G : Gz mg) (d : Df K mg "_law_right" s__law_right ["_law_thing"] f fd) (h_is_plan : Cal P w K mg base 29 "is_plan" 1 m_is_plan) (h__law_is_plan : Cal P w K mg base 30 "_law_is_plan" 2 m__law_is_plan) :
    Cal P w K mg base 31 "_law_right" 1 m__law_right :=
  cal_mk (okF d.F sc__law_right rfl rfl fun cdv A out s H E hr hg tk => by
    have C : Ct 30 (cxOf (L2.CX P w) P w K mg base ["_law_thing", "_law_kept"] "_law_right" (defScope s__law_right) f cdv A out s H E) := ⟨hr, hg, rfl, sc__law_right.nd, G⟩
    exact (sb_cons (ss_set (i := 1) (C).nd rfl (.inl rfl) (x_repr (C) rfl (sa_cons (se_var (i := 0) rfl (.inl rfl)) sa_nil))) (sb_one (ss_ret (se_and (SC.se (sc_R (op_eqA (C).u64) okEq (x_repr (C) rfl (sa_cons (SR.fz (x_call (C) tk h_is_plan (by decide) rfl (sa_cons (se_var (i := 0) rfl (.inl rfl)) sa_nil) rfl (lenC lenN))) sa_nil)) (x_repr (C) rfl (sa_cons (SR.fz (x_call (C) tk h__law_is_plan (by decide) rfl (sa_cons (se_var (i := 0) rfl (.inl rfl)) (sa_cons se_int sa_nil)) rfl (lenC (lenC lenN)))) sa_nil))) (nomark _)) (se_one (SC.se (sc_R (op_eqA (C).u64) okEq (x_repr (C) rfl (sa_cons (se_var (i := 0) rfl (.inl rfl)) sa_nil)) (se_var (i := 1) rfl (.inl rfl))) (nomark _)))))))) d.F d.m d.b
abbrev s__law_flat : Stmt := topS 16
theorem sc__law_flat : FnScope ["_law_plan_here", "_law_found", "_law_one"] ["_law_plan_here"] (defScope s__law_flat) := ⟨rfl, rfl, rfl, by decide +kernel, rfl, by decide +kernel, by decide +kernel⟩
theorem bd__law_flat (kV doc pm : Value) (an : Option Addr) (cdv ct : Value) (us : List Value) (hl : us.length = (["_law_plan_here"] : List Str).length) : bindArgs (PySem.W.fnOf "_law_flat" "_law_flat" (defArgs s__law_flat) (defBody s__law_flat) (defScope s__law_flat) .none kV doc pm an cdv ct) ⟨us, []⟩ = pure ((["_law_plan_here"] : List Str).zip us) := match us, hl with | [_], _ => rfl
noncomputable def b__law_flat (m__law_flat : Fn) : MS := (seq (sSet 1 (fz (rN (puR gList) (eCons (e2 gIx (eVar 0) (ret (.int 0))) (ret []))))) (seq (sFor (.nm 2) (iSeq (e2 gIx (eVar 0) (ret (.int 1)))) (seq (sSet 1 (e2 (pu gAdd) (eVar 1) (fz (rCall m__law_flat (eCons (eVar 2) (ret [])))))) (sWp [2]))) (sRet (eVar 1))))
noncomputable def mR__law_flat : Nat → Fn
  | 0 => fun _ _ => .bad
  | rr0 + 1 => trF (bodyF 3 (b__law_flat (mR__law_flat rr0)))
noncomputable def m__law_flat : Fn := mR__law_flat 26
theorem calR__law_flat {P : Program} {w : World} {K : PySem.W.Frag} {mg : Str → Option Value} {base : Heap} {f : Addr} {fd : FuncData} (G : Gz mg) (d : Df K mg "_law_flat" s__law_flat ["_law_plan_here"] f fd) : ∀ rr0 : Nat, Cal P w K mg base (1 + rr0) "_law_flat" 1 (mR__law_flat rr0)
  | 0 => cal_bad d.F d.m d.b rfl
  | rr0 + 1 => by
    have h__law_flat := calR__law_flat (P := P) (w := w) (base := base) G d rr0
    exact cal_mk (okF d.F sc__law_flat rfl rfl fun cdv A out s H E hr hg tk => by
      have C : Ct (1 + rr0) (cxOf (L2.CX P w) P w K mg base ["_law_plan_here", "_law_found", "_law_one"] "_law_flat" (defScope s__law_flat) f cdv A out s H E) := ⟨hr, hg, rfl, sc__law_flat.nd, G⟩
      exact (sb_cons (ss_set (i := 1) (C).nd rfl (.inl rfl) (SR.fz (x_list (C) rfl (sa_cons (se_ix (C).u1 (se_var (i := 0) rfl (.inl rfl)) se_int (fun _ _ => rfl)) sa_nil)))) (sb_cons (ss_for (t := (.nm 2)) (passes_of rfl) (C).cm (si_seq (se_ix (C).u1 (se_var (i := 0) rfl (.inl rfl)) se_int (fun _ _ => rfl))) (pg_name (i := 2) (C).nd rfl (.inl rfl)) (sb_wp [2] (sb_one (ss_set (i := 1) (C).nd rfl (.inl rfl) (se_bin op_addA okAdd (se_var (i := 1) rfl (.inl rfl)) (SR.fz (x_call (C) tk h__law_flat (by omega) rfl (sa_cons (se_var (i := 2) rfl (.inl rfl)) sa_nil) rfl (lenC lenN)))))))) (sb_one (ss_ret (se_var (i := 1) rfl (.inl rfl))))))) d.F d.m d.b
theorem cal__law_flat {P : Program} {w : World} {K : PySem.W.Frag} {mg : Str → Option Value} {base : Heap} {f : Addr} {fd : FuncData} (G : Gz mg) (d : Df K mg "_law_flat" s__law_flat ["_law_plan_here"] f fd) : Cal P w K mg base 27 "_law_flat" 1 m__law_flat := calR__law_flat (P := P) (w := w) (base := base) G d 26
abbrev s__law_chain : Stmt := topS 17
theorem sc__law_chain : FnScope ["_law_plan_here", "_law_place", "_law_found", "_law_some", "_law_here", "_law_one"] ["_law_plan_here", "_law_place"] (defScope s__law_chain) := ⟨rfl, rfl, rfl, by decide +kernel, rfl, by decide +kernel, by decide +kernel⟩
theorem bd__law_chain (kV doc pm : Value) (an : Option Addr) (cdv ct : Value) (us : List Value) (hl : us.length = (["_law_plan_here", "_law_place"] : List Str).length) : bindArgs (PySem.W.fnOf "_law_chain" "_law_chain" (defArgs s__law_chain) (defBody s__law_chain) (defScope s__law_chain) .none kV doc pm an cdv ct) ⟨us, []⟩ = pure ((["_law_plan_here", "_law_place"] : List Str).zip us) := match us, hl with | [_, _], _ => rfl
noncomputable def b__law_chain : MS := (seq (sSet 2 (fz (rLst (ret [])))) (seq (sSet 3 (fz (rLst (eCons (eVar 0) (ret []))))) (seq (sWhile (toB (e2 (pu gNe) (eVar 3) (fz (rLst (ret []))))) (seq (sSet 4 (e2 gIx (eVar 3) (ret (.int 0)))) (seq (sSet 2 (e2 (pu gAdd) (eVar 2) (fz (rN (puR gList) (eCons (e2 gIx (eVar 4) (ret (.int 0))) (ret [])))))) (seq (sSet 3 (fz (rLc (.nm 5) [5] (iSeq (e2 gIx (eVar 4) (ret (.int 1)))) ((bAnd (toB (e2 gNotInAll (eVar 1) (e2 gIx (eVar 4) (ret (.int 0))))) (toB (e2 gInAll (eVar 1) (fz (rCall m__law_flat (eCons (eVar 5) (ret [])))))))) ((eVar 5))))) (sWp [4])))) 100000) (sRet (eN (pu gTuple) (eCons (fz (rN (puR gSorted) (eCons (eVar 2) (ret [])))) (ret [])))))))
noncomputable def m__law_chain : Fn := trF (bodyF 6 b__law_chain)
theorem cal__law_chain {P : Program} {w : World} {K : PySem.W.Frag} {mg : Str → Option Value} {base : Heap} {f : Addr} {fd : FuncData} (G : Gz mg) (d : Df K mg "_law_chain" s__law_chain ["_law_plan_here", "_law_place"] f fd) (h__law_flat : Cal P w K mg base 27 "_law_flat" 1 m__law_flat) :
    Cal P w K mg base 28 "_law_chain" 2 m__law_chain :=
  cal_mk (okF d.F sc__law_chain rfl rfl fun cdv A out s H E hr hg tk => by
    have C : Ct 27 (cxOf (L2.CX P w) P w K mg base ["_law_plan_here", "_law_place", "_law_found", "_law_some", "_law_here", "_law_one"] "_law_chain" (defScope s__law_chain) f cdv A out s H E) := ⟨hr, hg, rfl, sc__law_chain.nd, G⟩
    exact (sb_cons (ss_set (i := 2) (C).nd rfl (.inl rfl) (SR.fz (sr_lst sa_nil))) (sb_cons (ss_set (i := 3) (C).nd rfl (.inl rfl) (SR.fz (sr_lst (sa_cons (se_var (i := 0) rfl (.inl rfl)) sa_nil)))) (sb_cons (ss_while 100000 (passes_of rfl) (SC.st (sc_R (op_neA (C).u64) okNe (se_var (i := 3) rfl (.inl rfl)) (SR.fz (sr_lst sa_nil))) (nomark _)) (sb_cons (ss_set (i := 4) (C).nd rfl (.inr rfl) (se_ix (C).u1 (se_var (i := 3) rfl (.inl rfl)) se_int (fun _ _ => rfl))) (sb_cons (ss_set (i := 2) (C).nd rfl (.inl rfl) (se_bin op_addA okAdd (se_var (i := 2) rfl (.inl rfl)) (SR.fz (x_list (C) rfl (sa_cons (se_ix (C).u1 (se_var (i := 4) rfl (.inr (.inl rfl))) se_int (fun _ _ => rfl)) sa_nil))))) (sb_wp [4] (sb_one (ss_setLc (t := (.nm 5)) (i := 3) (C).cm (C).nd rfl rfl (sw_true rfl rfl rfl rfl) (si_seq (se_ix (C).u1 (se_var (i := 4) rfl (.inr (.inl rfl))) se_int (fun _ _ => rfl))) (blkOk_by (own := [("_law_one", 5)]) rfl) (by decide) (fun _ _ _ _ _ => (pg_name (i := 5) ((C).b).nd rfl (.inl rfl))) (fun _ _ _ _ _ => (spt_one (SW.st (sw_and (SC.st (sc_notin ((C).b).u65 (se_var (i := 1) rfl (.inr (.inl rfl))) (se_ix ((C).b).u1 (se_var (i := 4) rfl (.inr (.inl rfl))) se_int (fun _ _ => rfl))) (by with_unfolding_all rfl)) (sw_and1 (SC.st (sc_in ((C).b).u65 (se_var (i := 1) rfl (.inr (.inl rfl))) (SR.fz (x_call ((C).b) takesW0 h__law_flat (by decide) (by rfl) (sa_cons (se_var (i := 5) rfl (.inl rfl)) sa_nil) rfl (lenC lenN)))) (by with_unfolding_all rfl))))))) (fun _ _ _ _ _ => (se_var (i := 5) rfl (.inl rfl))))))))) (sb_one (ss_ret (x_tuple (C) rfl (sa_cons (SR.fz (x_sorted (C) rfl (sa_cons (se_var (i := 2) rfl (.inl rfl)) sa_nil))) sa_nil)))))))) d.F d.m d.b
abbrev s_plan_order : Stmt := topS 5
theorem sc_plan_order : FnScope ["plan", "found", "one"] ["plan"] (defScope s_plan_order) := ⟨rfl, rfl, rfl, by decide +kernel, rfl, by decide +kernel, by decide +kernel⟩
theorem bd_plan_order (kV doc pm : Value) (an : Option Addr) (cdv ct : Value) (us : List Value) (hl : us.length = (["plan"] : List Str).length) : bindArgs (PySem.W.fnOf "plan_order" "plan_order" (defArgs s_plan_order) (defBody s_plan_order) (defScope s_plan_order) .none kV doc pm an cdv ct) ⟨us, []⟩ = pure ((["plan"] : List Str).zip us) := match us, hl with | [_], _ => rfl
noncomputable def b_plan_order (m_plan_order : Fn) : MS := (seq (sSet 1 (e2 gIx (eVar 0) (ret (.int 0)))) (seq (sFor (.nm 2) (iSeq (e2 gIx (eVar 0) (ret (.int 1)))) (seq (sSet 1 (e2 (pu gAdd) (eVar 1) (fz (rCall m_plan_order (eCons (eVar 2) (ret [])))))) (sWp [2]))) (sRet (eVar 1))))
noncomputable def mR_plan_order : Nat → Fn
  | 0 => fun _ _ => .bad
  | rr0 + 1 => trF (bodyF 3 (b_plan_order (mR_plan_order rr0)))
noncomputable def m_plan_order : Fn := mR_plan_order 26
theorem calR_plan_order {P : Program} {w : World} {K : PySem.W.Frag} {mg : Str → Option Value} {base : Heap} {f : Addr} {fd : FuncData} (G : Gz mg) (d : Df K mg "plan_order" s_plan_order ["plan"] f fd) : ∀ rr0 : Nat, Cal P w K mg base (1 + rr0) "plan_order" 1 (mR_plan_order rr0)
  | 0 => cal_bad d.F d.m d.b rfl
  | rr0 + 1 => by
    have h_plan_order := calR_plan_order (P := P) (w := w) (base := base) G d rr0
    exact cal_mk (okF d.F sc_plan_order rfl rfl fun cdv A out s H E hr hg tk => by
      have C : Ct (1 + rr0) (cxOf (L2.CX P w) P w K mg base ["plan", "found", "one"] "plan_order" (defScope s_plan_order) f cdv A out s H E) := ⟨hr, hg, rfl, sc_plan_order.nd, G⟩
      exact (sb_cons (ss_set (i := 1) (C).nd rfl (.inl rfl) (se_ix (C).u1 (se_var (i := 0) rfl (.inl rfl)) se_int (fun _ _ => rfl))) (sb_cons (ss_for (t := (.nm 2)) (passes_of rfl) (C).cm (si_seq (se_ix (C).u1 (se_var (i := 0) rfl (.inl rfl)) se_int (fun _ _ => rfl))) (pg_name (i := 2) (C).nd rfl (.inl rfl)) (sb_wp [2] (sb_one (ss_set (i := 1) (C).nd rfl (.inl rfl) (se_bin op_addA okAdd (se_var (i := 1) rfl (.inl rfl)) (SR.fz (x_call (C) tk h_plan_order (by omega) rfl (sa_cons (se_var (i := 2) rfl (.inl rfl)) sa_nil) rfl (lenC lenN)))))))) (sb_one (ss_ret (se_var (i := 1) rfl (.inl rfl))))))) d.F d.m d.b
theorem cal_plan_order {P : Program} {w : World} {K : PySem.W.Frag} {mg : Str → Option Value} {base : Heap} {f : Addr} {fd : FuncData} (G : Gz mg) (d : Df K mg "plan_order" s_plan_order ["plan"] f fd) : Cal P w K mg base 27 "plan_order" 1 m_plan_order := calR_plan_order (P := P) (w := w) (base := base) G d 26
abbrev s_chain : Stmt := topS 6
theorem sc_chain : FnScope ["plan", "place", "found", "one"] ["plan", "place"] (defScope s_chain) := ⟨rfl, rfl, rfl, by decide +kernel, rfl, by decide +kernel, by decide +kernel⟩
theorem bd_chain (kV doc pm : Value) (an : Option Addr) (cdv ct : Value) (us : List Value) (hl : us.length = (["plan", "place"] : List Str).length) : bindArgs (PySem.W.fnOf "chain" "chain" (defArgs s_chain) (defBody s_chain) (defScope s_chain) .none kV doc pm an cdv ct) ⟨us, []⟩ = pure ((["plan", "place"] : List Str).zip us) := match us, hl with | [_, _], _ => rfl
noncomputable def b_chain (m_chain : Fn) : MS := (seq (sIf (toB (e2 gInAll (eVar 1) (e2 gIx (eVar 0) (ret (.int 0))))) (sRet (e2 gIx (eVar 0) (ret (.int 0)))) done) (seq (sSet 2 (e2 gIx (eVar 0) (ret (.int 0)))) (seq (sFor (.nm 3) (iSeq (e2 gIx (eVar 0) (ret (.int 1)))) (seq (sIf (toB (e2 gInAll (eVar 1) (fz (rCall m_plan_order (eCons (eVar 3) (ret [])))))) (sSet 2 (e2 (pu gAdd) (eVar 2) (fz (rCall m_chain (eCons (eVar 3) (eCons (eVar 1) (ret []))))))) done) (sWp [3]))) (sRet (eN (pu gTuple) (eCons (fz (rN (puR gSortedT) (eCons (eVar 2) (ret [])))) (ret [])))))))
noncomputable def mR_chain : Nat → Fn
  | 0 => fun _ _ => .bad
  | rr0 + 1 => trF (bodyF 4 (b_chain (mR_chain rr0)))
noncomputable def m_chain : Fn := mR_chain 26
theorem calR_chain {P : Program} {w : World} {K : PySem.W.Frag} {mg : Str → Option Value} {base : Heap} {f : Addr} {fd : FuncData} (G : Gz mg) (d : Df K mg "chain" s_chain ["plan", "place"] f fd) (h_plan_order : Cal P w K mg base 27 "plan_order" 1 m_plan_order) : ∀ rr0 : Nat, Cal P w K mg base (28 + rr0) "chain" 2 (mR_chain rr0)
  | 0 => cal_bad d.F d.m d.b rfl
  | rr0 + 1 => by
    have h_chain := calR_chain (P := P) (w := w) (base := base) G d h_plan_order rr0
    exact cal_mk (okF d.F sc_chain rfl rfl fun cdv A out s H E hr hg tk => by
      have C : Ct (28 + rr0) (cxOf (L2.CX P w) P w K mg base ["plan", "place", "found", "one"] "chain" (defScope s_chain) f cdv A out s H E) := ⟨hr, hg, rfl, sc_chain.nd, G⟩
      exact (sb_cons (ss_if (SC.st (sc_in (C).u65 (se_var (i := 1) rfl (.inl rfl)) (se_ix (C).u1 (se_var (i := 0) rfl (.inl rfl)) se_int (fun _ _ => rfl))) (by with_unfolding_all rfl)) (sb_one (ss_ret (se_ix (C).u1 (se_var (i := 0) rfl (.inl rfl)) se_int (fun _ _ => rfl)))) sb_nil) (sb_cons (ss_set (i := 2) (C).nd rfl (.inl rfl) (se_ix (C).u1 (se_var (i := 0) rfl (.inl rfl)) se_int (fun _ _ => rfl))) (sb_cons (ss_for (t := (.nm 3)) (passes_of rfl) (C).cm (si_seq (se_ix (C).u1 (se_var (i := 0) rfl (.inl rfl)) se_int (fun _ _ => rfl))) (pg_name (i := 3) (C).nd rfl (.inl rfl)) (sb_wp [3] (sb_one (ss_if (SC.st (sc_in (C).u65 (se_var (i := 1) rfl (.inl rfl)) (SR.fz (x_call (C) tk h_plan_order (by omega) rfl (sa_cons (se_var (i := 3) rfl (.inl rfl)) sa_nil) rfl (lenC lenN)))) (by with_unfolding_all rfl)) (sb_one (ss_set (i := 2) (C).nd rfl (.inl rfl) (se_bin op_addA okAdd (se_var (i := 2) rfl (.inl rfl)) (SR.fz (x_call (C) tk h_chain (by omega) rfl (sa_cons (se_var (i := 3) rfl (.inl rfl)) (sa_cons (se_var (i := 1) rfl (.inl rfl)) sa_nil)) rfl (lenC (lenC lenN))))))) sb_nil)))) (sb_one (ss_ret (x_tuple (C) rfl (sa_cons (SR.fz (x_sortedT (C) rfl (sa_cons (se_var (i := 2) rfl (.inl rfl)) sa_nil))) sa_nil)))))))) d.F d.m d.b
theorem cal_chain {P : Program} {w : World} {K : PySem.W.Frag} {mg : Str → Option Value} {base : Heap} {f : Addr} {fd : FuncData} (G : Gz mg) (d : Df K mg "chain" s_chain ["plan", "place"] f fd) (h_plan_order : Cal P w K mg base 27 "plan_order" 1 m_plan_order) : Cal P w K mg base 54 "chain" 2 m_chain := calR_chain (P := P) (w := w) (base := base) G d h_plan_order 26
abbrev s_deepest : Stmt := topS 7
theorem sc_deepest : FnScope ["plan", "one"] ["plan"] (defScope s_deepest) := ⟨rfl, rfl, rfl, by decide +kernel, rfl, by decide +kernel, by decide +kernel⟩
theorem bd_deepest (kV doc pm : Value) (an : Option Addr) (cdv ct : Value) (us : List Value) (hl : us.length = (["plan"] : List Str).length) : bindArgs (PySem.W.fnOf "deepest" "deepest" (defArgs s_deepest) (defBody s_deepest) (defScope s_deepest) .none kV doc pm an cdv ct) ⟨us, []⟩ = pure ((["plan"] : List Str).zip us) := match us, hl with | [_], _ => rfl
noncomputable def b_deepest (m_deepest : Fn) : MS := (sRet (e2 (pu gAdd) (eN (pu gLen) (eCons (e2 gIx (eVar 0) (ret (.int 0))) (ret []))) (eMaxD 0 (fz (rLc (.nm 1) [1] (iSeq (e2 gIx (eVar 0) (ret (.int 1)))) (ret true) ((fz (rCall m_deepest (eCons (eVar 1) (ret []))))))))))
noncomputable def mR_deepest : Nat → Fn
  | 0 => fun _ _ => .bad
  | rr0 + 1 => trF (bodyF 2 (b_deepest (mR_deepest rr0)))
noncomputable def m_deepest : Fn := mR_deepest 26
theorem calR_deepest {P : Program} {w : World} {K : PySem.W.Frag} {mg : Str → Option Value} {base : Heap} {f : Addr} {fd : FuncData} (G : Gz mg) (d : Df K mg "deepest" s_deepest ["plan"] f fd) : ∀ rr0 : Nat, Cal P w K mg base (1 + rr0) "deepest" 1 (mR_deepest rr0)
  | 0 => cal_bad d.F d.m d.b rfl
  | rr0 + 1 => by
    have h_deepest := calR_deepest (P := P) (w := w) (base := base) G d rr0
    exact cal_mk (okF d.F sc_deepest rfl rfl fun cdv A out s H E hr hg tk => by
      have C : Ct (1 + rr0) (cxOf (L2.CX P w) P w K mg base ["plan", "one"] "deepest" (defScope s_deepest) f cdv A out s H E) := ⟨hr, hg, rfl, sc_deepest.nd, G⟩
      exact (sb_one (ss_ret (se_bin op_addA okAdd (x_len (C) rfl (sa_cons (se_ix (C).u1 (se_var (i := 0) rfl (.inl rfl)) se_int (fun _ _ => rfl)) sa_nil)) (x_maxD (C) rfl (SR.fz (sr_lc (t := (.nm 1)) (C).cm (C).nd (si_seq (se_ix (C).u1 (se_var (i := 0) rfl (.inl rfl)) se_int (fun _ _ => rfl))) (blkOk_by (own := [("one", 1)]) rfl) (by decide) (fun _ _ _ _ _ => (pg_name (i := 1) ((C).b).nd rfl (.inl rfl))) (fun _ _ _ _ _ => spt_nil) (fun _ _ _ _ _ => (SR.fz (x_call ((C).b) takesW0 h_deepest (by omega) (by rfl) (sa_cons (se_var (i := 1) rfl (.inl rfl)) sa_nil) rfl (lenC lenN))))))))))) d.F d.m d.b
theorem cal_deepest {P : Program} {w : World} {K : PySem.W.Frag} {mg : Str → Option Value} {base : Heap} {f : Addr} {fd : FuncData} (G : Gz mg) (d : Df K mg "deepest" s_deepest ["plan"] f fd) : Cal P w K mg base 27 "deepest" 1 m_deepest := calR_deepest (P := P) (w := w) (base := base) G d 26
abbrev s__law_plan_right : Stmt := topS 20
theorem sc__law_plan_right : FnScope ["_law_plan_here", "_law_kept", "_law_order_here", "_law_chains", "_law_place", "_law_one"] ["_law_plan_here"] (defScope s__law_plan_right) := ⟨rfl, rfl, rfl, by decide +kernel, rfl, by decide +kernel, by decide +kernel⟩
theorem bd__law_plan_right (kV doc pm : Value) (an : Option Addr) (cdv ct : Value) (us : List Value) (hl : us.length = (["_law_plan_here"] : List Str).length) : bindArgs (PySem.W.fnOf "_law_plan_right" "_law_plan_right" (defArgs s__law_plan_right) (defBody s__law_plan_right) (defScope s__law_plan_right) .none kV doc pm an cdv ct) ⟨us, []⟩ = pure ((["_law_plan_here"] : List Str).zip us) := match us, hl with | [_], _ => rfl
noncomputable def b__law_plan_right : MS := (seq (sSet 1 (eN (pu gRepr) (eCons (eVar 0) (ret [])))) (seq (sSet 2 (fz (rCall m__law_flat (eCons (eVar 0) (ret []))))) (seq (sIf (toB (e2 (pu gNe) (eN (pu gRepr) (eCons (fz (rCall m_plan_order (eCons (eVar 0) (ret [])))) (ret []))) (eN (pu gRepr) (eCons (eN (pu gTuple) (eCons (eVar 2) (ret []))) (ret []))))) (sRet (ret (.bl false))) done) (seq (sSet 3 (fz (rLc (.nm 4) [4] (iSeq (eVar 2)) (ret true) ((fz (rCall m__law_chain (eCons (eVar 0) (eCons (eVar 4) (ret []))))))))) (seq (sIf (bOr (toB (e2 (pu gNe) (fz (rLc (.nm 4) [4] (iSeq (eVar 2)) (ret true) ((fz (rCall m_chain (eCons (eVar 0) (eCons (eVar 4) (ret [])))))))) (eVar 3))) (toB (eIsi "list" (fz (rCall m_chain (eCons (eVar 0) (eCons (e2 gIx (eVar 2) (ret (.int 0))) (ret [])))))))) (sRet (ret (.bl false))) done) (sRet (eAnd (e2 (pu gEq) (eN (pu gRepr) (eCons (fz (rCall m_deepest (eCons (eVar 0) (ret [])))) (ret []))) (eN (pu gRepr) (eCons (eN (pu gMax) (eCons (fz (rLc (.nm 5) [5] (iSeq (eVar 3)) (ret true) ((eN (pu gLen) (eCons (eVar 5) (ret [])))))) (ret []))) (ret [])))) (e2 (pu gEq) (eN (pu gRepr) (eCons (eVar 0) (ret []))) (eVar 1)))))))))
noncomputable def m__law_plan_right : Fn := trF (bodyF 6 b__law_plan_right)
theorem cal__law_plan_right {P : Program} {w : World} {K : PySem.W.Frag} {mg : Str → Option Value} {base : Heap} {f : Addr} {fd : FuncData} (G : Gz mg) (d : Df K mg "_law_plan_right" s__law_plan_right ["_law_plan_here"] f fd) (h__law_flat : Cal P w K mg base 27 "_law_flat" 1 m__law_flat) (h_plan_order : Cal P w K mg base 27 "plan_order" 1 m_plan_order) (h__law_chain : Cal P w K mg base 28 "_law_chain" 2 m__law_chain) (h_chain : Cal P w K mg base 54 "chain" 2 m_chain) (h_deepest : Cal P w K mg base 27 "deepest" 1 m_deepest) :
    Cal P w K mg base 55 "_law_plan_right" 1 m__law_plan_right :=
  cal_mk (okF d.F sc__law_plan_right rfl rfl fun cdv A out s H E hr hg tk => by
    have C : Ct 54 (cxOf (L2.CX P w) P w K mg base ["_law_plan_here", "_law_kept", "_law_order_here", "_law_chains", "_law_place", "_law_one"] "_law_plan_right" (defScope s__law_plan_right) f cdv A out s H E) := ⟨hr, hg, rfl, sc__law_plan_right.nd, G⟩
    exact (sb_cons (ss_set (i := 1) (C).nd rfl (.inl rfl) (x_repr (C) rfl (sa_cons (se_var (i := 0) rfl (.inr (.inl rfl))) sa_nil))) (sb_cons (ss_set (i := 2) (C).nd rfl (.inl rfl) (SR.fz (x_call (C) tk h__law_flat (by decide) rfl (sa_cons (se_var (i := 0) rfl (.inr (.inl rfl))) sa_nil) rfl (lenC lenN)))) (sb_cons (ss_if (SC.st (sc_R (op_neA (C).u64) okNe (x_repr (C) rfl (sa_cons (SR.fz (x_call (C) tk h_plan_order (by decide) rfl (sa_cons (se_var (i := 0) rfl (.inr (.inl rfl))) sa_nil) rfl (lenC lenN))) sa_nil)) (x_repr (C) rfl (sa_cons (x_tuple (C) rfl (sa_cons (se_var (i := 2) rfl (.inl rfl)) sa_nil)) sa_nil))) (nomark _)) (sb_one (ss_ret se_bl)) sb_nil) (sb_cons (ss_setLc (t := (.nm 4)) (i := 3) (C).cm (C).nd rfl rfl (sw_true rfl rfl rfl rfl) (si_seq (se_var (i := 2) rfl (.inl rfl))) (blkOk_by (own := [("_law_place", 4)]) rfl) (by decide) (fun _ _ _ _ _ => (pg_name (i := 4) ((C).b).nd rfl (.inl rfl))) (fun _ _ _ _ _ => spt_nil) (fun _ _ _ _ _ => (SR.fz (x_call ((C).b) takesW0 h__law_chain (by decide) (by rfl) (sa_cons (se_var (i := 0) rfl (.inr (.inl rfl))) (sa_cons (se_var (i := 4) rfl (.inl rfl)) sa_nil)) rfl (lenC (lenC lenN)))))) (sb_cons (ss_if (SW.st (sw_or (SC.st (sc_R (op_neA (C).u64) okNe (SR.fz (sr_lc (t := (.nm 4)) (C).cm (C).nd (si_seq (se_var (i := 2) rfl (.inl rfl))) (blkOk_by (own := [("_law_place", 4)]) rfl) (by decide) (fun _ _ _ _ _ => (pg_name (i := 4) ((C).b).nd rfl (.inl rfl))) (fun _ _ _ _ _ => spt_nil) (fun _ _ _ _ _ => (SR.fz (x_call ((C).b) takesW0 h_chain (by decide) (by rfl) (sa_cons (se_var (i := 0) rfl (.inr (.inl rfl))) (sa_cons (se_var (i := 4) rfl (.inl rfl)) sa_nil)) rfl (lenC (lenC lenN))))))) (se_var (i := 3) rfl (.inl rfl))) (nomark _)) (sw_or1 (st_val (x_isi (C) rfl rfl (C).gz.zlist PyProof.Rows.boot_list (by decide) (by decide) (SR.fz (x_call (C) tk h_chain (by decide) rfl (sa_cons (se_var (i := 0) rfl (.inr (.inl rfl))) (sa_cons (se_ix (C).u1 (se_var (i := 2) rfl (.inl rfl)) se_int (fun _ _ => rfl)) sa_nil)) rfl (lenC (lenC lenN))))))))) (sb_one (ss_ret se_bl)) sb_nil) (sb_one (ss_ret (se_and (SC.se (sc_R (op_eqA (C).u64) okEq (x_repr (C) rfl (sa_cons (SR.fz (x_call (C) tk h_deepest (by decide) rfl (sa_cons (se_var (i := 0) rfl (.inr (.inl rfl))) sa_nil) rfl (lenC lenN))) sa_nil)) (x_repr (C) rfl (sa_cons (x_max (C) rfl (sa_cons (SR.fz (sr_lc (t := (.nm 5)) (C).cm (C).nd (si_seq (se_var (i := 3) rfl (.inl rfl))) (blkOk_by (own := [("_law_one", 5)]) rfl) (by decide) (fun _ _ _ _ _ => (pg_name (i := 5) ((C).b).nd rfl (.inl rfl))) (fun _ _ _ _ _ => spt_nil) (fun _ _ _ _ _ => (x_len ((C).b) (by rfl) (sa_cons (se_var (i := 5) rfl (.inl rfl)) sa_nil))))) sa_nil)) sa_nil))) (nomark _)) (se_one (SC.se (sc_R (op_eqA (C).u64) okEq (x_repr (C) rfl (sa_cons (se_var (i := 0) rfl (.inr (.inl rfl))) sa_nil)) (se_var (i := 1) rfl (.inl rfl))) (nomark _)))))))))))) d.F d.m d.b
abbrev s__law_bent : Stmt := topS 12
theorem sc__law_bent : FnScope ["_law_tape_here", "_law_thing", "_law_at", "_law_some"] ["_law_tape_here", "_law_thing"] (defScope s__law_bent) := ⟨rfl, rfl, rfl, by decide +kernel, rfl, by decide +kernel, by decide +kernel⟩
theorem bd__law_bent (kV doc pm : Value) (an : Option Addr) (cdv ct : Value) (us : List Value) (hl : us.length = (["_law_tape_here", "_law_thing"] : List Str).length) : bindArgs (PySem.W.fnOf "_law_bent" "_law_bent" (defArgs s__law_bent) (defBody s__law_bent) (defScope s__law_bent) .none kV doc pm an cdv ct) ⟨us, []⟩ = pure ((["_law_tape_here", "_law_thing"] : List Str).zip us) := match us, hl with | [_, _], _ => rfl
noncomputable def b__law_bent (m__law_bent : Fn) : MS := (seq (sIf (bAnd (toB (eIsi "tuple" (eVar 1))) (bAnd (toB (e2 (pu gNe) (eVar 1) (eTup (ret [])))) (toB (e2 (pu gGt) (fz (rCall m__law_draw (eCons (eVar 0) (eCons (ret (.int 4)) (ret []))))) (ret (.int 0)))))) (seq (sSet 2 (fz (rCall m__law_draw (eCons (eVar 0) (eCons (eN (pu gLen) (eCons (eVar 1) (ret []))) (ret [])))))) (sRet (e2 (pu gAdd) (e2 (pu gAdd) (fz (rSlc (eVar 1) (ret none) (pI (eVar 2)))) (eTup (eCons (fz (rCall m__law_bent (eCons (eVar 0) (eCons (e2 gIx (eVar 1) (eVar 2)) (ret []))))) (ret [])))) (fz (rSlc (eVar 1) (pI (e2 (pu gAdd) (eVar 2) (ret (.int 1)))) (ret none)))))) done) (seq (sIf (toB (eIsi "tuple" (eVar 1))) (seq (sSet 2 (fz (rCall m__law_draw (eCons (eVar 0) (eCons (e2 (pu gAdd) (eN (pu gLen) (eCons (eVar 1) (ret []))) (ret (.int 1))) (ret [])))))) (seq (sSet 3 (fz (rLst (eCons (fz (rN (puR gList) (eCons (eVar 1) (ret [])))) (eCons (e2 (pu gAdd) (fz (rSlc (eVar 1) (ret none) (pI (eVar 2)))) (fz (rSlc (eVar 1) (pI (e2 (pu gAdd) (eVar 2) (ret (.int 1)))) (ret none)))) (eCons (e2 (pu gAdd) (eVar 1) (fz (rSlc (eVar 1) (ret none) (pI (ret (.int 1)))))) (eCons (fz (rRevT (eVar 1))) (eCons (e2 (pu gAdd) (eVar 1) (eTup (eCons (ret (.int 0)) (ret [])))) (ret []))))))))) (sRet (e2 gIx (eVar 3) (fz (rCall m__law_draw (eCons (eVar 0) (eCons (ret (.int 5)) (ret []))))))))) done) (seq (sIf (bAnd (toB (eIsi "int" (eVar 1))) (bNot (toB (eIsi "bool" (eVar 1))))) (seq (sSet 3 (fz (rLst (eCons (e2 (pu gAdd) (eVar 1) (ret (.int 1))) (eCons (e2 (pu gSub) (eVar 1) (ret (.int 1))) (eCons (e2 (pu gEq) (eVar 1) (ret (.int 1))) (eCons (ret .non) (eCons (ret (.int 0)) (eCons (ret (.int 24)) (eCons (ret (.int 25)) (eCons (ret (.int 99)) (eCons (ret (.int 100)) (eCons (eN (pu gStrI) (eCons (eVar 1) (ret []))) (ret [])))))))))))))) (sRet (e2 gIx (eVar 3) (fz (rCall m__law_draw (eCons (eVar 0) (eCons (ret (.int 10)) (ret [])))))))) done) (sRet (e2 gIx (fz (rLst (eCons (ret .non) (eCons (ret (.bl true)) (eCons (ret (.bl false)) (eCons (ret (.int 0)) (eCons (ret (.int 1)) (eCons (ret (.str "a")) (eCons (eTup (ret [])) (eCons (fz (rLst (ret []))) (eCons (eTup (eCons (ret (.int 0)) (ret []))) (ret [])))))))))))) (fz (rCall m__law_draw (eCons (eVar 0) (eCons (ret (.int 9)) (ret []))))))))))
noncomputable def mR__law_bent : Nat → Fn
  | 0 => fun _ _ => .bad
  | rr0 + 1 => trF (bodyF 4 (b__law_bent (mR__law_bent rr0)))
noncomputable def m__law_bent : Fn := mR__law_bent 40
theorem calR__law_bent {P : Program} {w : World} {K : PySem.W.Frag} {mg : Str → Option Value} {base : Heap} {f : Addr} {fd : FuncData} (G : Gz mg) (d : Df K mg "_law_bent" s__law_bent ["_law_tape_here", "_law_thing"] f fd) (h__law_draw : Cal P w K mg base 1 "_law_draw" 2 m__law_draw) : ∀ rr0 : Nat, Cal P w K mg base (2 + rr0) "_law_bent" 2 (mR__law_bent rr0)
  | 0 => cal_bad d.F d.m d.b rfl
  | rr0 + 1 => by
    have h__law_bent := calR__law_bent (P := P) (w := w) (base := base) G d h__law_draw rr0
    exact cal_mk (okF d.F sc__law_bent rfl rfl fun cdv A out s H E hr hg tk => by
      have C : Ct (2 + rr0) (cxOf (L2.CX P w) P w K mg base ["_law_tape_here", "_law_thing", "_law_at", "_law_some"] "_law_bent" (defScope s__law_bent) f cdv A out s H E) := ⟨hr, hg, rfl, sc__law_bent.nd, G⟩
      exact (sb_cons (ss_if (SW.st (sw_and (st_val (x_isi (C) rfl rfl (C).gz.ztuple PyProof.Rows.boot_tuple (by decide) (by decide) (se_var (i := 1) rfl (.inl rfl)))) (sw_and (SC.st (sc_R (op_neA (C).u64) okNe (se_var (i := 1) rfl (.inl rfl)) (se_tup sa_nil)) (nomark _)) (sw_and1 (SC.st (sc_R op_gt okGt (SR.fz (x_call (C) tk h__law_draw (by omega) rfl (sa_cons (se_var (i := 0) rfl (.inl rfl)) (sa_cons se_int sa_nil)) rfl (lenC (lenC lenN)))) se_int) (nomark _)))))) (sb_cons (ss_set (i := 2) (C).nd rfl (.inl rfl) (SR.fz (x_call (C) tk h__law_draw (by omega) rfl (sa_cons (se_var (i := 0) rfl (.inl rfl)) (sa_cons (x_len (C) rfl (sa_cons (se_var (i := 1) rfl (.inl rfl)) sa_nil)) sa_nil)) rfl (lenC (lenC lenN))))) (sb_one (ss_ret (se_bin op_addA okAdd (se_bin op_addA okAdd (SR.fz (sr_slc (se_var (i := 1) rfl (.inl rfl)) so_none (so_some (se_var (i := 2) rfl (.inl rfl))))) (se_tup (sa_cons (SR.fz (x_call (C) tk h__law_bent (by omega) rfl (sa_cons (se_var (i := 0) rfl (.inl rfl)) (sa_cons (se_ix (C).u1 (se_var (i := 1) rfl (.inl rfl)) (se_var (i := 2) rfl (.inl rfl)) (fun _ _ => rfl)) sa_nil)) rfl (lenC (lenC lenN)))) sa_nil))) (SR.fz (sr_slc (se_var (i := 1) rfl (.inl rfl)) (so_some (se_bin op_addA okAdd (se_var (i := 2) rfl (.inl rfl)) se_int)) so_none)))))) sb_nil) (sb_cons (ss_if (st_val (x_isi (C) rfl rfl (C).gz.ztuple PyProof.Rows.boot_tuple (by decide) (by decide) (se_var (i := 1) rfl (.inl rfl)))) (sb_cons (ss_set (i := 2) (C).nd rfl (.inl rfl) (SR.fz (x_call (C) tk h__law_draw (by omega) rfl (sa_cons (se_var (i := 0) rfl (.inl rfl)) (sa_cons (se_bin op_addA okAdd (x_len (C) rfl (sa_cons (se_var (i := 1) rfl (.inl rfl)) sa_nil)) se_int) sa_nil)) rfl (lenC (lenC lenN))))) (sb_cons (ss_set (i := 3) (C).nd rfl (.inl rfl) (SR.fz (sr_lst (sa_cons (SR.fz (x_list (C) rfl (sa_cons (se_var (i := 1) rfl (.inl rfl)) sa_nil))) (sa_cons (se_bin op_addA okAdd (SR.fz (sr_slc (se_var (i := 1) rfl (.inl rfl)) so_none (so_some (se_var (i := 2) rfl (.inl rfl))))) (SR.fz (sr_slc (se_var (i := 1) rfl (.inl rfl)) (so_some (se_bin op_addA okAdd (se_var (i := 2) rfl (.inl rfl)) se_int)) so_none))) (sa_cons (se_bin op_addA okAdd (se_var (i := 1) rfl (.inl rfl)) (SR.fz (sr_slc (se_var (i := 1) rfl (.inl rfl)) so_none (so_some se_int)))) (sa_cons (SR.fz (sr_revT (se_var (i := 1) rfl (.inl rfl)))) (sa_cons (se_bin op_addA okAdd (se_var (i := 1) rfl (.inl rfl)) (se_tup (sa_cons se_int sa_nil))) sa_nil)))))))) (sb_one (ss_ret (se_ix (C).u1 (se_var (i := 3) rfl (.inl rfl)) (SR.fz (x_call (C) tk h__law_draw (by omega) rfl (sa_cons (se_var (i := 0) rfl (.inl rfl)) (sa_cons se_int sa_nil)) rfl (lenC (lenC lenN)))) (fun _ _ => rfl)))))) sb_nil) (sb_cons (ss_if (SW.st (sw_and (st_val (x_isi (C) rfl rfl (C).gz.zint PyProof.Rows.boot_int (by decide) (by decide) (se_var (i := 1) rfl (.inl rfl)))) (sw_and1 (st_not (st_val (x_isi (C) rfl rfl (C).gz.zbool PyProof.Rows.boot_bool (by decide) (by decide) (se_var (i := 1) rfl (.inl rfl)))))))) (sb_cons (ss_set (i := 3) (C).nd rfl (.inl rfl) (SR.fz (sr_lst (sa_cons (se_bin op_addA okAdd (se_var (i := 1) rfl (.inl rfl)) se_int) (sa_cons (se_bin op_sub okSub (se_var (i := 1) rfl (.inl rfl)) se_int) (sa_cons (SC.se (sc_R (op_eqA (C).u64) okEq (se_var (i := 1) rfl (.inl rfl)) se_int) (nomark _)) (sa_cons se_non (sa_cons se_int (sa_cons se_int (sa_cons se_int (sa_cons se_int (sa_cons se_int (sa_cons (x_str (C) rfl (sa_cons (se_var (i := 1) rfl (.inl rfl)) sa_nil)) sa_nil))))))))))))) (sb_one (ss_ret (se_ix (C).u1 (se_var (i := 3) rfl (.inl rfl)) (SR.fz (x_call (C) tk h__law_draw (by omega) rfl (sa_cons (se_var (i := 0) rfl (.inl rfl)) (sa_cons se_int sa_nil)) rfl (lenC (lenC lenN)))) (fun _ _ => rfl))))) sb_nil) (sb_one (ss_ret (se_ix (C).u1 (SR.fz (sr_lst (sa_cons se_non (sa_cons se_bl (sa_cons se_bl (sa_cons se_int (sa_cons se_int (sa_cons se_str (sa_cons (se_tup sa_nil) (sa_cons (SR.fz (sr_lst sa_nil)) (sa_cons (se_tup (sa_cons se_int sa_nil)) sa_nil))))))))))) (SR.fz (x_call (C) tk h__law_draw (by omega) rfl (sa_cons (se_var (i := 0) rfl (.inl rfl)) (sa_cons se_int sa_nil)) rfl (lenC (lenC lenN)))) (fun _ _ => rfl)))))))) d.F d.m d.b
theorem cal__law_bent {P : Program} {w : World} {K : PySem.W.Frag} {mg : Str → Option Value} {base : Heap} {f : Addr} {fd : FuncData} (G : Gz mg) (d : Df K mg "_law_bent" s__law_bent ["_law_tape_here", "_law_thing"] f fd) (h__law_draw : Cal P w K mg base 1 "_law_draw" 2 m__law_draw) : Cal P w K mg base 42 "_law_bent" 2 m__law_bent := calR__law_bent (P := P) (w := w) (base := base) G d h__law_draw 40
abbrev s__law_deep : Stmt := topS 19
theorem sc__law_deep : FnScope ["_law_many", "_law_plan_here", "_law_k"] ["_law_many"] (defScope s__law_deep) := ⟨rfl, rfl, rfl, by decide +kernel, rfl, by decide +kernel, by decide +kernel⟩
theorem bd__law_deep (kV doc pm : Value) (an : Option Addr) (cdv ct : Value) (us : List Value) (hl : us.length = (["_law_many"] : List Str).length) : bindArgs (PySem.W.fnOf "_law_deep" "_law_deep" (defArgs s__law_deep) (defBody s__law_deep) (defScope s__law_deep) .none kV doc pm an cdv ct) ⟨us, []⟩ = pure ((["_law_many"] : List Str).zip us) := match us, hl with | [_], _ => rfl
noncomputable def b__law_deep : MS := (seq (sSet 1 (eTup (eCons (eTup (eCons (eVar 0) (ret []))) (eCons (eTup (ret [])) (ret []))))) (seq (sFor (.nm 2) (iR1 (eCons (e2 (pu gSub) (eVar 0) (ret (.int 1))) (ret []))) (seq (sSet 1 (eTup (eCons (eTup (eCons (eVar 2) (ret []))) (eCons (eTup (eCons (eVar 1) (ret []))) (ret []))))) (sWp [2]))) (sRet (eVar 1))))
noncomputable def m__law_deep : Fn := trF (bodyF 3 b__law_deep)
theorem cal__law_deep {P : Program} {w : World} {K : PySem.W.Frag} {mg : Str → Option Value} {base : Heap} {f : Addr} {fd : FuncData} (G : Gz mg) (d : Df K mg "_law_deep" s__law_deep ["_law_many"] f fd) :
    Cal P w K mg base 1 "_law_deep" 1 m__law_deep :=
  cal_mk (okF d.F sc__law_deep rfl rfl fun cdv A out s H E hr hg tk => by
    have C : Ct 0 (cxOf (L2.CX P w) P w K mg base ["_law_many", "_law_plan_here", "_law_k"] "_law_deep" (defScope s__law_deep) f cdv A out s H E) := ⟨hr, hg, rfl, sc__law_deep.nd, G⟩
    exact (sb_cons (ss_set (i := 1) (C).nd rfl (.inl rfl) (se_tup (sa_cons (se_tup (sa_cons (se_var (i := 0) rfl (.inl rfl)) sa_nil)) (sa_cons (se_tup sa_nil) sa_nil)))) (sb_cons (ss_for (t := (.nm 2)) (passes_of rfl) (C).cm (si_range1 rfl (C).gz.zrange (sa_cons (se_bin op_sub okSub (se_var (i := 0) rfl (.inl rfl)) se_int) sa_nil)) (pg_name (i := 2) (C).nd rfl (.inl rfl)) (sb_wp [2] (sb_one (ss_set (i := 1) (C).nd rfl (.inl rfl) (se_tup (sa_cons (se_tup (sa_cons (se_var (i := 2) rfl (.inl rfl)) sa_nil)) (sa_cons (se_tup (sa_cons (se_var (i := 1) rfl (.inl rfl)) sa_nil)) sa_nil))))))) (sb_one (ss_ret (se_var (i := 1) rfl (.inl rfl))))))) d.F d.m d.b
abbrev s__law_order : Stmt := topS 11
theorem sc__law_order : FnScope ["_law_tape_here", "_law_n", "_law_left", "_law_found", "_law_k"] ["_law_tape_here", "_law_n"] (defScope s__law_order) := ⟨rfl, rfl, rfl, by decide +kernel, rfl, by decide +kernel, by decide +kernel⟩
theorem bd__law_order (kV doc pm : Value) (an : Option Addr) (cdv ct : Value) (us : List Value) (hl : us.length = (["_law_tape_here", "_law_n"] : List Str).length) : bindArgs (PySem.W.fnOf "_law_order" "_law_order" (defArgs s__law_order) (defBody s__law_order) (defScope s__law_order) .none kV doc pm an cdv ct) ⟨us, []⟩ = pure ((["_law_tape_here", "_law_n"] : List Str).zip us) := match us, hl with | [_, _], _ => rfl
noncomputable def b__law_order : MS := (seq (sSet 2 (bx (rRg1 (eVar 1)))) (seq (sSet 3 (bx (rLst (ret [])))) (seq (sFor (.nm 4) (iR1 (eCons (eVar 1) (ret []))) (seq (sDrop (eMtL (mUpd gApp) (eVar 3) (eCons (eMtL (mUpd gPopAt) (eVar 2) (eCons (fz (rCall m__law_draw (eCons (eVar 0) (eCons (eN (pu gLen) (eCons (eVar 2) (ret []))) (ret []))))) (ret []))) (ret [])))) (sWp [4]))) (sRet (eN (pu gTuple) (eCons (eVar 3) (ret [])))))))
noncomputable def m__law_order : Fn := trF (bodyF 5 b__law_order)
theorem cal__law_order {P : Program} {w : World} {K : PySem.W.Frag} {mg : Str → Option Value} {base : Heap} {f : Addr} {fd : FuncData} (G : Gz mg) (d : Df K mg "_law_order" s__law_order ["_law_tape_here", "_law_n"] f fd) (h__law_draw : Cal P w K mg base 1 "_law_draw" 2 m__law_draw) :
    Cal P w K mg base 2 "_law_order" 2 m__law_order :=
  cal_mk (okF d.F sc__law_order rfl rfl fun cdv A out s H E hr hg tk => by
    have C : Ct 1 (cxOf (L2.CX P w) P w K mg base ["_law_tape_here", "_law_n", "_law_left", "_law_found", "_law_k"] "_law_order" (defScope s__law_order) f cdv A out s H E) := ⟨hr, hg, rfl, sc__law_order.nd, G⟩
    exact (sb_cons (ss_set (i := 2) (C).nd rfl (.inl rfl) (SR.bx (x_lrg1 (C) rfl rfl (se_var (i := 1) rfl (.inl rfl))))) (sb_cons (ss_set (i := 3) (C).nd rfl (.inl rfl) (SR.bx (sr_lst sa_nil))) (sb_cons (ss_for (t := (.nm 4)) (passes_of rfl) (C).cm (si_range1 rfl (C).gz.zrange (sa_cons (se_var (i := 1) rfl (.inl rfl)) sa_nil)) (pg_name (i := 4) (C).nd rfl (.inl rfl)) (sb_wp [4] (sb_one (ss_expr (x_append (se_var (i := 3) rfl (.inl rfl)) (sa_cons (x_popAt (se_var (i := 2) rfl (.inl rfl)) (sa_cons (SR.fz (x_call (C) tk h__law_draw (by decide) rfl (sa_cons (se_var (i := 0) rfl (.inl rfl)) (sa_cons (x_len (C) rfl (sa_cons (se_var (i := 2) rfl (.inl rfl)) sa_nil)) sa_nil)) rfl (lenC (lenC lenN)))) sa_nil)) sa_nil)))))) (sb_one (ss_ret (x_tuple (C) rfl (sa_cons (se_var (i := 3) rfl (.inl rfl)) sa_nil)))))))) d.F d.m d.b
abbrev s_law : Stmt := topS 21
theorem sc_law : FnScope ["_law_script", "_law_tape_here", "_law_thing", "_law_k", "_law_step", "_law_pool", "_law_plan_here", "_law_bends", "_law_many", "_law_one"] ["_law_script"] (defScope s_law) := ⟨rfl, rfl, rfl, by decide +kernel, rfl, by decide +kernel, by decide +kernel⟩
theorem bd_law (kV doc pm : Value) (an : Option Addr) (cdv ct : Value) (us : List Value) (hl : us.length = (["_law_script"] : List Str).length) : bindArgs (PySem.W.fnOf "law" "law" (defArgs s_law) (defBody s_law) (defScope s_law) .none kV doc pm an cdv ct) ⟨us, []⟩ = pure ((["_law_script"] : List Str).zip us) := match us, hl with | [_], _ => rfl
noncomputable def b_law : MS := (seq (sSet 1 (bx (rCall m__law_tape (eCons (eVar 0) (ret []))))) (seq (sFor (.nm 2) (iSeq (fz (rLst (eCons (ret .non) (eCons (ret (.bl true)) (eCons (ret (.int 0)) (eCons (eTup (ret [])) (eCons (fz (rLst (ret []))) (eCons (eTup (eCons (eTup (eCons (ret (.int 0)) (ret []))) (ret []))) (eCons (eTup (eCons (eTup (eCons (ret (.int 0)) (ret []))) (eCons (eTup (ret [])) (ret [])))) (eCons (fz (rLst (eCons (eTup (eCons (ret (.int 0)) (ret []))) (eCons (eTup (ret [])) (ret []))))) (eCons (eTup (eCons (eTup (eCons (ret (.int 0)) (ret []))) (eCons (fz (rLst (ret []))) (ret [])))) (eCons (eTup (eCons (eTup (ret [])) (eCons (eTup (ret [])) (ret [])))) (eCons (eTup (eCons (eTup (eCons (ret (.int 0)) (ret []))) (eCons (eTup (eCons (eTup (ret [])) (ret []))) (ret [])))) (eCons (eTup (eCons (ret (.int 0)) (eCons (eTup (ret [])) (ret [])))) (ret [])))))))))))))))) (seq (sIf (bNot (toB (fz (rCall m__law_right (eCons (eVar 2) (ret [])))))) (sRet (ret (.bl false))) done) (sWp [2]))) (seq (sFor (.nm 3) (iR1 (eCons (ret (.int 4)) (ret []))) (seq (sSet 4 (e2 (pu gAdd) (ret (.int 1)) (fz (rCall m__law_draw (eCons (eVar 1) (eCons (ret (.int 3)) (ret []))))))) (seq (sSet 5 (fz (rLc (.nm 9) [9] (iSeq (fz (rCall m__law_order (eCons (eVar 1) (eCons (e2 (pu gAdd) (ret (.int 1)) (fz (rCall m__law_draw (eCons (eVar 1) (eCons (ret (.int 12)) (ret [])))))) (ret [])))))) (ret true) ((e2 (pu gSub) (e2 (pu gAdd) (e2 (pu gMul) (eVar 9) (eVar 4)) (eVar 4)) (ret (.int 1))))))) (seq (sSet 6 (fz (rCall m__law_plan (eCons (eVar 1) (eCons (eVar 5) (ret [])))))) (seq (sIf (bNot (toB (fz (rCall m__law_plan_right (eCons (eVar 6) (ret [])))))) (sRet (ret (.bl false))) done) (seq (sSet 2 (eVar 6)) (seq (sFor (.nm 7) (iR1 (eCons (ret (.int 4)) (ret []))) (seq (sIf (bNot (toB (fz (rCall m__law_right (eCons (eVar 2) (ret [])))))) (sRet (ret (.bl false))) done) (seq (sSet 2 (fz (rCall m__law_bent (eCons (eVar 1) (eCons (eVar 2) (ret [])))))) (sWp [7])))) (sWp [2, 3, 4, 5, 6, 7])))))))) (seq (sSet 8 (e2 (pu gAdd) (ret (.int 23)) (fz (rCall m__law_draw (eCons (eVar 1) (eCons (ret (.int 4)) (ret []))))))) (seq (sIf (bAnd (toB (e2 (pu gLt) (eVar 8) (ret (.int 25)))) (bNot (toB (fz (rCall m__law_plan_right (eCons (fz (rCall m__law_deep (eCons (eVar 8) (ret [])))) (ret []))))))) (sRet (ret (.bl false))) done) (sRet (eAnd (fz (rCall m__law_right (eCons (fz (rCall m__law_deep (eCons (eVar 8) (ret [])))) (ret [])))) (fz (rCall m__law_right (eCons (eTup (eCons (eTup (eCons (ret (.int 0)) (eCons (ret (.int 2)) (ret [])))) (eCons (eTup (eCons (fz (rCall m__law_deep (eCons (e2 (pu gSub) (eVar 8) (ret (.int 1))) (ret [])))) (eCons (eTup (eCons (eTup (eCons (ret (.int 1)) (ret []))) (eCons (eTup (ret [])) (ret [])))) (ret [])))) (ret [])))) (ret [])))))))))))
theorem cal_law {P : Program} {w : World} {K : PySem.W.Frag} {mg : Str → Option Value} {base : Heap} {f : Addr} {fd : FuncData} (G : Gz mg) (d : Df K mg "law" s_law ["_law_script"] f fd) (h__law_tape : Cal P w K mg base 1 "_law_tape" 1 m__law_tape) (h__law_right : Cal P w K mg base 31 "_law_right" 1 m__law_right) (h__law_draw : Cal P w K mg base 1 "_law_draw" 2 m__law_draw) (h__law_order : Cal P w K mg base 2 "_law_order" 2 m__law_order) (h__law_plan : Cal P w K mg base 16 "_law_plan" 2 m__law_plan) (h__law_plan_right : Cal P w K mg base 55 "_law_plan_right" 1 m__law_plan_right) (h__law_bent : Cal P w K mg base 42 "_law_bent" 2 m__law_bent) (h__law_deep : Cal P w K mg base 1 "_law_deep" 1 m__law_deep) :
    FnG P w K mg base 56 f fd ["_law_script"] (spF K mg 1 (bodyF 10 b_law)) :=
  okF d.F sc_law rfl rfl fun cdv A out s H E hr hg tk => by
    have C : Ct 55 (cxOf (L2.CX P w) P w K mg base ["_law_script", "_law_tape_here", "_law_thing", "_law_k", "_law_step", "_law_pool", "_law_plan_here", "_law_bends", "_law_many", "_law_one"] "law" (defScope s_law) f cdv A out s H E) := ⟨hr, hg, rfl, sc_law.nd, G⟩
    exact (sb_cons (ss_set (i := 1) (C).nd rfl (.inl rfl) (SR.bx (x_call (C) tk h__law_tape (by decide) rfl (sa_cons (se_var (i := 0) rfl (.inl rfl)) sa_nil) rfl (lenC lenN)))) (sb_cons (ss_for (t := (.nm 2)) (passes_of rfl) (C).cm (si_seq (SR.fz (sr_lst (sa_cons se_non (sa_cons se_bl (sa_cons se_int (sa_cons (se_tup sa_nil) (sa_cons (SR.fz (sr_lst sa_nil)) (sa_cons (se_tup (sa_cons (se_tup (sa_cons se_int sa_nil)) sa_nil)) (sa_cons (se_tup (sa_cons (se_tup (sa_cons se_int sa_nil)) (sa_cons (se_tup sa_nil) sa_nil))) (sa_cons (SR.fz (sr_lst (sa_cons (se_tup (sa_cons se_int sa_nil)) (sa_cons (se_tup sa_nil) sa_nil)))) (sa_cons (se_tup (sa_cons (se_tup (sa_cons se_int sa_nil)) (sa_cons (SR.fz (sr_lst sa_nil)) sa_nil))) (sa_cons (se_tup (sa_cons (se_tup sa_nil) (sa_cons (se_tup sa_nil) sa_nil))) (sa_cons (se_tup (sa_cons (se_tup (sa_cons se_int sa_nil)) (sa_cons (se_tup (sa_cons (se_tup sa_nil) sa_nil)) sa_nil))) (sa_cons (se_tup (sa_cons se_int (sa_cons (se_tup sa_nil) sa_nil))) sa_nil))))))))))))))) (pg_name (i := 2) (C).nd rfl (.inl rfl)) (sb_wp [2] (sb_one (ss_if (st_not (st_val (SR.fz (x_call (C) tk h__law_right (by decide) rfl (sa_cons (se_var (i := 2) rfl (.inl rfl)) sa_nil) rfl (lenC lenN))))) (sb_one (ss_ret se_bl)) sb_nil)))) (sb_cons (ss_for (t := (.nm 3)) (passes_of rfl) (C).cm (si_range1 rfl (C).gz.zrange (sa_cons se_int sa_nil)) (pg_name (i := 3) (C).nd rfl (.inl rfl)) (sb_cons (ss_set (i := 4) (C).nd rfl (.inr rfl) (se_bin op_addA okAdd se_int (SR.fz (x_call (C) tk h__law_draw (by decide) rfl (sa_cons (se_var (i := 1) rfl (.inl rfl)) (sa_cons se_int sa_nil)) rfl (lenC (lenC lenN)))))) (sb_cons (ss_setLc (t := (.nm 9)) (i := 5) (C).cm (C).nd rfl rfl (sw_true rfl rfl rfl rfl) (si_seq (SR.fz (x_call (C) tk h__law_order (by decide) rfl (sa_cons (se_var (i := 1) rfl (.inl rfl)) (sa_cons (se_bin op_addA okAdd se_int (SR.fz (x_call (C) tk h__law_draw (by decide) rfl (sa_cons (se_var (i := 1) rfl (.inl rfl)) (sa_cons se_int sa_nil)) rfl (lenC (lenC lenN))))) sa_nil)) rfl (lenC (lenC lenN))))) (blkOk_by (own := [("_law_one", 9)]) rfl) (by decide) (fun _ _ _ _ _ => (pg_name (i := 9) ((C).b).nd rfl (.inl rfl))) (fun _ _ _ _ _ => spt_nil) (fun _ _ _ _ _ => (se_bin op_sub okSub (se_bin op_addA okAdd (se_bin op_mulA okMul (se_var (i := 9) rfl (.inl rfl)) (se_var (i := 4) rfl (.inr (.inl rfl)))) (se_var (i := 4) rfl (.inr (.inl rfl)))) se_int))) (sb_cons (ss_set (i := 6) (C).nd rfl (.inl rfl) (SR.fz (x_call (C) tk h__law_plan (by decide) rfl (sa_cons (se_var (i := 1) rfl (.inl rfl)) (sa_cons (se_var (i := 5) rfl (.inl rfl)) sa_nil)) rfl (lenC (lenC lenN))))) (sb_cons (ss_if (st_not (st_val (SR.fz (x_call (C) tk h__law_plan_right (by decide) rfl (sa_cons (se_var (i := 6) rfl (.inl rfl)) sa_nil) rfl (lenC lenN))))) (sb_one (ss_ret se_bl)) sb_nil) (sb_cons (ss_set (i := 2) (C).nd rfl (.inl rfl) (se_var (i := 6) rfl (.inl rfl))) (sb_wp [2, 3, 4, 5, 6, 7] (sb_one (ss_for (t := (.nm 7)) (passes_of rfl) (C).cm (si_range1 rfl (C).gz.zrange (sa_cons se_int sa_nil)) (pg_name (i := 7) (C).nd rfl (.inl rfl)) (sb_cons (ss_if (st_not (st_val (SR.fz (x_call (C) tk h__law_right (by decide) rfl (sa_cons (se_var (i := 2) rfl (.inl rfl)) sa_nil) rfl (lenC lenN))))) (sb_one (ss_ret se_bl)) sb_nil) (sb_wp [7] (sb_one (ss_set (i := 2) (C).nd rfl (.inl rfl) (SR.fz (x_call (C) tk h__law_bent (by decide) rfl (sa_cons (se_var (i := 1) rfl (.inl rfl)) (sa_cons (se_var (i := 2) rfl (.inl rfl)) sa_nil)) rfl (lenC (lenC lenN))))))))))))))))) (sb_cons (ss_set (i := 8) (C).nd rfl (.inl rfl) (se_bin op_addA okAdd se_int (SR.fz (x_call (C) tk h__law_draw (by decide) rfl (sa_cons (se_var (i := 1) rfl (.inl rfl)) (sa_cons se_int sa_nil)) rfl (lenC (lenC lenN)))))) (sb_cons (ss_if (SW.st (sw_and (SC.st (sc_R (op_ltA (C).u0) okLt (se_var (i := 8) rfl (.inl rfl)) se_int) (nomark _)) (sw_and1 (st_not (st_val (SR.fz (x_call (C) tk h__law_plan_right (by decide) rfl (sa_cons (SR.fz (x_call (C) tk h__law_deep (by decide) rfl (sa_cons (se_var (i := 8) rfl (.inl rfl)) sa_nil) rfl (lenC lenN))) sa_nil) rfl (lenC lenN)))))))) (sb_one (ss_ret se_bl)) sb_nil) (sb_one (ss_ret (se_and (SR.fz (x_call (C) tk h__law_right (by decide) rfl (sa_cons (SR.fz (x_call (C) tk h__law_deep (by decide) rfl (sa_cons (se_var (i := 8) rfl (.inl rfl)) sa_nil) rfl (lenC lenN))) sa_nil) rfl (lenC lenN))) (se_one (SR.fz (x_call (C) tk h__law_right (by decide) rfl (sa_cons (se_tup (sa_cons (se_tup (sa_cons se_int (sa_cons se_int sa_nil))) (sa_cons (se_tup (sa_cons (SR.fz (x_call (C) tk h__law_deep (by decide) rfl (sa_cons (se_bin op_sub okSub (se_var (i := 8) rfl (.inl rfl)) se_int) sa_nil) rfl (lenC lenN))) (sa_cons (se_tup (sa_cons (se_tup (sa_cons se_int sa_nil)) (sa_cons (se_tup sa_nil) sa_nil))) sa_nil))) sa_nil))) sa_nil) rfl (lenC lenN))))))))))))
theorem all_mk {l : PySem.W.OpenLaw} {w : World} {K : PySem.W.Frag} {h : Heap} {mg : Str → Option Value} {fa : Addr} (X : K.In h) (G : h.Ns mainGlobals mg) (hfa : mg "law" = some (.ref fa))
    {f0 : Addr} {od0 an0 : Option Addr} {sl0 : Array (Option Value)} {oc0 kV0 dc0 pm0 cd0 ct0 : Value}
    {f1 : Addr} {od1 an1 : Option Addr} {sl1 : Array (Option Value)} {oc1 kV1 dc1 pm1 cd1 ct1 : Value}
    {f2 : Addr} {od2 an2 : Option Addr} {sl2 : Array (Option Value)} {oc2 kV2 dc2 pm2 cd2 ct2 : Value}
    {f3 : Addr} {od3 an3 : Option Addr} {sl3 : Array (Option Value)} {oc3 kV3 dc3 pm3 cd3 ct3 : Value}
    {f4 : Addr} {od4 an4 : Option Addr} {sl4 : Array (Option Value)} {oc4 kV4 dc4 pm4 cd4 ct4 : Value}
    {f5 : Addr} {od5 an5 : Option Addr} {sl5 : Array (Option Value)} {oc5 kV5 dc5 pm5 cd5 ct5 : Value}
    {f6 : Addr} {od6 an6 : Option Addr} {sl6 : Array (Option Value)} {oc6 kV6 dc6 pm6 cd6 ct6 : Value}
    {f7 : Addr} {od7 an7 : Option Addr} {sl7 : Array (Option Value)} {oc7 kV7 dc7 pm7 cd7 ct7 : Value}
    {f8 : Addr} {od8 an8 : Option Addr} {sl8 : Array (Option Value)} {oc8 kV8 dc8 pm8 cd8 ct8 : Value}
    {f9 : Addr} {od9 an9 : Option Addr} {sl9 : Array (Option Value)} {oc9 kV9 dc9 pm9 cd9 ct9 : Value}
    {f10 : Addr} {od10 an10 : Option Addr} {sl10 : Array (Option Value)} {oc10 kV10 dc10 pm10 cd10 ct10 : Value}
    {f11 : Addr} {od11 an11 : Option Addr} {sl11 : Array (Option Value)} {oc11 kV11 dc11 pm11 cd11 ct11 : Value}
    {f12 : Addr} {od12 an12 : Option Addr} {sl12 : Array (Option Value)} {oc12 kV12 dc12 pm12 cd12 ct12 : Value}
    {f13 : Addr} {od13 an13 : Option Addr} {sl13 : Array (Option Value)} {oc13 kV13 dc13 pm13 cd13 ct13 : Value}
    {f14 : Addr} {od14 an14 : Option Addr} {sl14 : Array (Option Value)} {oc14 kV14 dc14 pm14 cd14 ct14 : Value}
    {f15 : Addr} {od15 an15 : Option Addr} {sl15 : Array (Option Value)} {oc15 kV15 dc15 pm15 cd15 ct15 : Value}
    {f16 : Addr} {od16 an16 : Option Addr} {sl16 : Array (Option Value)} {oc16 kV16 dc16 pm16 cd16 ct16 : Value}
    {f17 : Addr} {od17 an17 : Option Addr} {sl17 : Array (Option Value)} {oc17 kV17 dc17 pm17 cd17 ct17 : Value}
    {f18 : Addr} {od18 an18 : Option Addr} {sl18 : Array (Option Value)} {oc18 kV18 dc18 pm18 cd18 ct18 : Value}
    {ti_MOST_DEEP : Tok}
    (a0 : PySem.W.nsIn K mainGlobals "_law_tape" = some (some (.ref f0))) (l0 : K.lookup f0 = some ⟨oc0, od0, .func (PySem.W.fnOf "_law_tape" "_law_tape" (defArgs s__law_tape) (defBody s__law_tape) (defScope s__law_tape) .none kV0 dc0 pm0 an0 cd0 ct0), sl0⟩) (c0 : PySem.W.codeIn K cd0 "_law_tape" = true) (k0 : PySem.W.keepIn K (.ref f0) = true)
    (a1 : PySem.W.nsIn K mainGlobals "_law_draw" = some (some (.ref f1))) (l1 : K.lookup f1 = some ⟨oc1, od1, .func (PySem.W.fnOf "_law_draw" "_law_draw" (defArgs s__law_draw) (defBody s__law_draw) (defScope s__law_draw) .none kV1 dc1 pm1 an1 cd1 ct1), sl1⟩) (c1 : PySem.W.codeIn K cd1 "_law_draw" = true) (k1 : PySem.W.keepIn K (.ref f1) = true)
    (a2 : PySem.W.nsIn K mainGlobals "_law_plan" = some (some (.ref f2))) (l2 : K.lookup f2 = some ⟨oc2, od2, .func (PySem.W.fnOf "_law_plan" "_law_plan" (defArgs s__law_plan) (defBody s__law_plan) (defScope s__law_plan) .none kV2 dc2 pm2 an2 cd2 ct2), sl2⟩) (c2 : PySem.W.codeIn K cd2 "_law_plan" = true) (k2 : PySem.W.keepIn K (.ref f2) = true)
    (a3 : PySem.W.nsIn K mainGlobals "are_places" = some (some (.ref f3))) (l3 : K.lookup f3 = some ⟨oc3, od3, .func (PySem.W.fnOf "are_places" "are_places" (defArgs s_are_places) (defBody s_are_places) (defScope s_are_places) .none kV3 dc3 pm3 an3 cd3 ct3), sl3⟩) (c3 : PySem.W.codeIn K cd3 "are_places" = true) (k3 : PySem.W.keepIn K (.ref f3) = true)
    (a4 : PySem.W.nsIn K mainGlobals "is_plan_so_deep" = some (some (.ref f4))) (l4 : K.lookup f4 = some ⟨oc4, od4, .func (PySem.W.fnOf "is_plan_so_deep" "is_plan_so_deep" (defArgs s_is_plan_so_deep) (defBody s_is_plan_so_deep) (defScope s_is_plan_so_deep) .none kV4 dc4 pm4 an4 cd4 ct4), sl4⟩) (c4 : PySem.W.codeIn K cd4 "is_plan_so_deep" = true) (k4 : PySem.W.keepIn K (.ref f4) = true)
    (a5 : PySem.W.nsIn K mainGlobals "is_plan" = some (some (.ref f5))) (l5 : K.lookup f5 = some ⟨oc5, od5, .func (PySem.W.fnOf "is_plan" "is_plan" (defArgs s_is_plan) (defBody s_is_plan) (defScope s_is_plan) .none kV5 dc5 pm5 an5 cd5 ct5), sl5⟩) (c5 : PySem.W.codeIn K cd5 "is_plan" = true) (k5 : PySem.W.keepIn K (.ref f5) = true)
    (a6 : PySem.W.nsIn K mainGlobals "_law_is_places" = some (some (.ref f6))) (l6 : K.lookup f6 = some ⟨oc6, od6, .func (PySem.W.fnOf "_law_is_places" "_law_is_places" (defArgs s__law_is_places) (defBody s__law_is_places) (defScope s__law_is_places) .none kV6 dc6 pm6 an6 cd6 ct6), sl6⟩) (c6 : PySem.W.codeIn K cd6 "_law_is_places" = true) (k6 : PySem.W.keepIn K (.ref f6) = true)
    (a7 : PySem.W.nsIn K mainGlobals "_law_is_plan" = some (some (.ref f7))) (l7 : K.lookup f7 = some ⟨oc7, od7, .func (PySem.W.fnOf "_law_is_plan" "_law_is_plan" (defArgs s__law_is_plan) (defBody s__law_is_plan) (defScope s__law_is_plan) .none kV7 dc7 pm7 an7 cd7 ct7), sl7⟩) (c7 : PySem.W.codeIn K cd7 "_law_is_plan" = true) (k7 : PySem.W.keepIn K (.ref f7) = true)
    (a8 : PySem.W.nsIn K mainGlobals "_law_right" = some (some (.ref f8))) (l8 : K.lookup f8 = some ⟨oc8, od8, .func (PySem.W.fnOf "_law_right" "_law_right" (defArgs s__law_right) (defBody s__law_right) (defScope s__law_right) .none kV8 dc8 pm8 an8 cd8 ct8), sl8⟩) (c8 : PySem.W.codeIn K cd8 "_law_right" = true) (k8 : PySem.W.keepIn K (.ref f8) = true)
    (a9 : PySem.W.nsIn K mainGlobals "_law_flat" = some (some (.ref f9))) (l9 : K.lookup f9 = some ⟨oc9, od9, .func (PySem.W.fnOf "_law_flat" "_law_flat" (defArgs s__law_flat) (defBody s__law_flat) (defScope s__law_flat) .none kV9 dc9 pm9 an9 cd9 ct9), sl9⟩) (c9 : PySem.W.codeIn K cd9 "_law_flat" = true) (k9 : PySem.W.keepIn K (.ref f9) = true)
    (a10 : PySem.W.nsIn K mainGlobals "_law_chain" = some (some (.ref f10))) (l10 : K.lookup f10 = some ⟨oc10, od10, .func (PySem.W.fnOf "_law_chain" "_law_chain" (defArgs s__law_chain) (defBody s__law_chain) (defScope s__law_chain) .none kV10 dc10 pm10 an10 cd10 ct10), sl10⟩) (c10 : PySem.W.codeIn K cd10 "_law_chain" = true) (k10 : PySem.W.keepIn K (.ref f10) = true)
    (a11 : PySem.W.nsIn K mainGlobals "plan_order" = some (some (.ref f11))) (l11 : K.lookup f11 = some ⟨oc11, od11, .func (PySem.W.fnOf "plan_order" "plan_order" (defArgs s_plan_order) (defBody s_plan_order) (defScope s_plan_order) .none kV11 dc11 pm11 an11 cd11 ct11), sl11⟩) (c11 : PySem.W.codeIn K cd11 "plan_order" = true) (k11 : PySem.W.keepIn K (.ref f11) = true)
    (a12 : PySem.W.nsIn K mainGlobals "chain" = some (some (.ref f12))) (l12 : K.lookup f12 = some ⟨oc12, od12, .func (PySem.W.fnOf "chain" "chain" (defArgs s_chain) (defBody s_chain) (defScope s_chain) .none kV12 dc12 pm12 an12 cd12 ct12), sl12⟩) (c12 : PySem.W.codeIn K cd12 "chain" = true) (k12 : PySem.W.keepIn K (.ref f12) = true)
    (a13 : PySem.W.nsIn K mainGlobals "deepest" = some (some (.ref f13))) (l13 : K.lookup f13 = some ⟨oc13, od13, .func (PySem.W.fnOf "deepest" "deepest" (defArgs s_deepest) (defBody s_deepest) (defScope s_deepest) .none kV13 dc13 pm13 an13 cd13 ct13), sl13⟩) (c13 : PySem.W.codeIn K cd13 "deepest" = true) (k13 : PySem.W.keepIn K (.ref f13) = true)
    (a14 : PySem.W.nsIn K mainGlobals "_law_plan_right" = some (some (.ref f14))) (l14 : K.lookup f14 = some ⟨oc14, od14, .func (PySem.W.fnOf "_law_plan_right" "_law_plan_right" (defArgs s__law_plan_right) (defBody s__law_plan_right) (defScope s__law_plan_right) .none kV14 dc14 pm14 an14 cd14 ct14), sl14⟩) (c14 : PySem.W.codeIn K cd14 "_law_plan_right" = true) (k14 : PySem.W.keepIn K (.ref f14) = true)
    (a15 : PySem.W.nsIn K mainGlobals "_law_bent" = some (some (.ref f15))) (l15 : K.lookup f15 = some ⟨oc15, od15, .func (PySem.W.fnOf "_law_bent" "_law_bent" (defArgs s__law_bent) (defBody s__law_bent) (defScope s__law_bent) .none kV15 dc15 pm15 an15 cd15 ct15), sl15⟩) (c15 : PySem.W.codeIn K cd15 "_law_bent" = true) (k15 : PySem.W.keepIn K (.ref f15) = true)
    (a16 : PySem.W.nsIn K mainGlobals "_law_deep" = some (some (.ref f16))) (l16 : K.lookup f16 = some ⟨oc16, od16, .func (PySem.W.fnOf "_law_deep" "_law_deep" (defArgs s__law_deep) (defBody s__law_deep) (defScope s__law_deep) .none kV16 dc16 pm16 an16 cd16 ct16), sl16⟩) (c16 : PySem.W.codeIn K cd16 "_law_deep" = true) (k16 : PySem.W.keepIn K (.ref f16) = true)
    (a17 : PySem.W.nsIn K mainGlobals "_law_order" = some (some (.ref f17))) (l17 : K.lookup f17 = some ⟨oc17, od17, .func (PySem.W.fnOf "_law_order" "_law_order" (defArgs s__law_order) (defBody s__law_order) (defScope s__law_order) .none kV17 dc17 pm17 an17 cd17 ct17), sl17⟩) (c17 : PySem.W.codeIn K cd17 "_law_order" = true) (k17 : PySem.W.keepIn K (.ref f17) = true)
    (a18 : PySem.W.nsIn K mainGlobals "law" = some (some (.ref f18))) (l18 : K.lookup f18 = some ⟨oc18, od18, .func (PySem.W.fnOf "law" "law" (defArgs s_law) (defBody s_law) (defScope s_law) .none kV18 dc18 pm18 an18 cd18 ct18), sl18⟩) (c18 : PySem.W.codeIn K cd18 "law" = true) (k18 : PySem.W.keepIn K (.ref f18) = true)
    (gi_MOST_DEEP : PySem.W.nsIn K mainGlobals "MOST_DEEP" = some (some (.int 24 ti_MOST_DEEP)))
    (zlen : PySem.W.nsIn K mainGlobals "len" = some none)
    (zrange : PySem.W.nsIn K mainGlobals "range" = some none)
    (zmin : PySem.W.nsIn K mainGlobals "min" = some none)
    (zmax : PySem.W.nsIn K mainGlobals "max" = some none)
    (zrepr : PySem.W.nsIn K mainGlobals "repr" = some none)
    (ztuple : PySem.W.nsIn K mainGlobals "tuple" = some none)
    (zlist : PySem.W.nsIn K mainGlobals "list" = some none)
    (zdict : PySem.W.nsIn K mainGlobals "dict" = some none)
    (zsorted : PySem.W.nsIn K mainGlobals "sorted" = some none)
    (zany : PySem.W.nsIn K mainGlobals "any" = some none)
    (zall : PySem.W.nsIn K mainGlobals "all" = some none)
    (zsum : PySem.W.nsIn K mainGlobals "sum" = some none)
    (zabs : PySem.W.nsIn K mainGlobals "abs" = some none)
    (zint : PySem.W.nsIn K mainGlobals "int" = some none)
    (zstr : PySem.W.nsIn K mainGlobals "str" = some none)
    (zisinstance : PySem.W.nsIn K mainGlobals "isinstance" = some none)
    (zenumerate : PySem.W.nsIn K mainGlobals "enumerate" = some none)
    (zzip : PySem.W.nsIn K mainGlobals "zip" = some none)
    (zset : PySem.W.nsIn K mainGlobals "set" = some none)
    (zbool : PySem.W.nsIn K mainGlobals "bool" = some none)
    (ztype : PySem.W.nsIn K mainGlobals "type" = some none)
    (zValueError : PySem.W.nsIn K mainGlobals "ValueError" = some none) :
    ∃ fd : FuncData, (∀ (s : Shared) (v : Value), BindsTo s fd ⟨[v], []⟩ [("_law_script", v)]) ∧ ∀ base : Heap, K.In base → base.Ns mainGlobals mg → FnG l.prog w K mg base 56 fa fd ["_law_script"] (spF K mg 1 (bodyF 10 b_law)) := by
  have e := hfa.symm.trans (PySem.W.mg_of X G a18)
  cases e
  have Z : Gz mg := ⟨PySem.W.mg_none_of X G zlen, PySem.W.mg_none_of X G zrange, PySem.W.mg_none_of X G zmin, PySem.W.mg_none_of X G zmax, PySem.W.mg_none_of X G zrepr, PySem.W.mg_none_of X G ztuple, PySem.W.mg_none_of X G zlist, PySem.W.mg_none_of X G zdict, PySem.W.mg_none_of X G zsorted, PySem.W.mg_none_of X G zany, PySem.W.mg_none_of X G zall, PySem.W.mg_none_of X G zsum, PySem.W.mg_none_of X G zabs, PySem.W.mg_none_of X G zint, PySem.W.mg_none_of X G zstr, PySem.W.mg_none_of X G zisinstance, PySem.W.mg_none_of X G zenumerate, PySem.W.mg_none_of X G zzip, PySem.W.mg_none_of X G zset, PySem.W.mg_none_of X G zbool, PySem.W.mg_none_of X G ztype, PySem.W.mg_none_of X G zValueError⟩
  have F0 := fun_mk (st := s__law_tape) l0 c0 k0
  have d0 : Df K mg "_law_tape" s__law_tape ["_law_script"] f0 _ := ⟨F0, PySem.W.mg_of X G a0, F0.binds (ps := ["_law_script"]) bd__law_tape⟩
  have F1 := fun_mk (st := s__law_draw) l1 c1 k1
  have d1 : Df K mg "_law_draw" s__law_draw ["_law_tape_here", "_law_many"] f1 _ := ⟨F1, PySem.W.mg_of X G a1, F1.binds (ps := ["_law_tape_here", "_law_many"]) bd__law_draw⟩
  have F2 := fun_mk (st := s__law_plan) l2 c2 k2
  have d2 : Df K mg "_law_plan" s__law_plan ["_law_tape_here", "_law_pool"] f2 _ := ⟨F2, PySem.W.mg_of X G a2, F2.binds (ps := ["_law_tape_here", "_law_pool"]) bd__law_plan⟩
  have F3 := fun_mk (st := s_are_places) l3 c3 k3
  have d3 : Df K mg "are_places" s_are_places ["thing"] f3 _ := ⟨F3, PySem.W.mg_of X G a3, F3.binds (ps := ["thing"]) bd_are_places⟩
  have F4 := fun_mk (st := s_is_plan_so_deep) l4 c4 k4
  have d4 : Df K mg "is_plan_so_deep" s_is_plan_so_deep ["thing", "room"] f4 _ := ⟨F4, PySem.W.mg_of X G a4, F4.binds (ps := ["thing", "room"]) bd_is_plan_so_deep⟩
  have F5 := fun_mk (st := s_is_plan) l5 c5 k5
  have d5 : Df K mg "is_plan" s_is_plan ["thing"] f5 _ := ⟨F5, PySem.W.mg_of X G a5, F5.binds (ps := ["thing"]) bd_is_plan⟩
  have F6 := fun_mk (st := s__law_is_places) l6 c6 k6
  have d6 : Df K mg "_law_is_places" s__law_is_places ["_law_thing"] f6 _ := ⟨F6, PySem.W.mg_of X G a6, F6.binds (ps := ["_law_thing"]) bd__law_is_places⟩
  have F7 := fun_mk (st := s__law_is_plan) l7 c7 k7
  have d7 : Df K mg "_law_is_plan" s__law_is_plan ["_law_thing", "_law_deep_here"] f7 _ := ⟨F7, PySem.W.mg_of X G a7, F7.binds (ps := ["_law_thing", "_law_deep_here"]) bd__law_is_plan⟩
  have F8 := fun_mk (st := s__law_right) l8 c8 k8
  have d8 : Df K mg "_law_right" s__law_right ["_law_thing"] f8 _ := ⟨F8, PySem.W.mg_of X G a8, F8.binds (ps := ["_law_thing"]) bd__law_right⟩
  have F9 := fun_mk (st := s__law_flat) l9 c9 k9
  have d9 : Df K mg "_law_flat" s__law_flat ["_law_plan_here"] f9 _ := ⟨F9, PySem.W.mg_of X G a9, F9.binds (ps := ["_law_plan_here"]) bd__law_flat⟩
  have F10 := fun_mk (st := s__law_chain) l10 c10 k10
  have d10 : Df K mg "_law_chain" s__law_chain ["_law_plan_here", "_law_place"] f10 _ := ⟨F10, PySem.W.mg_of X G a10, F10.binds (ps := ["_law_plan_here", "_law_place"]) bd__law_chain⟩
  have F11 := fun_mk (st := s_plan_order) l11 c11 k11
  have d11 : Df K mg "plan_order" s_plan_order ["plan"] f11 _ := ⟨F11, PySem.W.mg_of X G a11, F11.binds (ps := ["plan"]) bd_plan_order⟩
  have F12 := fun_mk (st := s_chain) l12 c12 k12
  have d12 : Df K mg "chain" s_chain ["plan", "place"] f12 _ := ⟨F12, PySem.W.mg_of X G a12, F12.binds (ps := ["plan", "place"]) bd_chain⟩
  have F13 := fun_mk (st := s_deepest) l13 c13 k13
  have d13 : Df K mg "deepest" s_deepest ["plan"] f13 _ := ⟨F13, PySem.W.mg_of X G a13, F13.binds (ps := ["plan"]) bd_deepest⟩
  have F14 := fun_mk (st := s__law_plan_right) l14 c14 k14
  have d14 : Df K mg "_law_plan_right" s__law_plan_right ["_law_plan_here"] f14 _ := ⟨F14, PySem.W.mg_of X G a14, F14.binds (ps := ["_law_plan_here"]) bd__law_plan_right⟩
  have F15 := fun_mk (st := s__law_bent) l15 c15 k15
  have d15 : Df K mg "_law_bent" s__law_bent ["_law_tape_here", "_law_thing"] f15 _ := ⟨F15, PySem.W.mg_of X G a15, F15.binds (ps := ["_law_tape_here", "_law_thing"]) bd__law_bent⟩
  have F16 := fun_mk (st := s__law_deep) l16 c16 k16
  have d16 : Df K mg "_law_deep" s__law_deep ["_law_many"] f16 _ := ⟨F16, PySem.W.mg_of X G a16, F16.binds (ps := ["_law_many"]) bd__law_deep⟩
  have F17 := fun_mk (st := s__law_order) l17 c17 k17
  have d17 : Df K mg "_law_order" s__law_order ["_law_tape_here", "_law_n"] f17 _ := ⟨F17, PySem.W.mg_of X G a17, F17.binds (ps := ["_law_tape_here", "_law_n"]) bd__law_order⟩
  have F18 := fun_mk (st := s_law) l18 c18 k18
  have d18 : Df K mg "law" s_law ["_law_script"] fa _ := ⟨F18, PySem.W.mg_of X G a18, F18.binds (ps := ["_law_script"]) bd_law⟩
  refine ⟨PySem.W.fnOf "law" "law" (defArgs s_law) (defBody s_law) (defScope s_law) .none kV18 dc18 pm18 an18 cd18 ct18, fun s v => .of_eq rfl, fun base _ _ => ?_⟩
  have c_MOST_DEEP : Gi mg "MOST_DEEP" 24 := ⟨⟨_, PySem.W.mg_of X G gi_MOST_DEEP⟩⟩
  have q0 := cal__law_tape (P := l.prog) (w := w) (base := base) Z d0
  have q1 := cal__law_draw (P := l.prog) (w := w) (base := base) Z d1
  have q2 := cal__law_plan (P := l.prog) (w := w) (base := base) Z d2 q1
  have q3 := cal_are_places (P := l.prog) (w := w) (base := base) Z d3
  have q4 := cal_is_plan_so_deep (P := l.prog) (w := w) (base := base) Z d4 q3
  have q5 := cal_is_plan (P := l.prog) (w := w) (base := base) Z d5 q4 c_MOST_DEEP
  have q6 := cal__law_is_places (P := l.prog) (w := w) (base := base) Z d6
  have q7 := cal__law_is_plan (P := l.prog) (w := w) (base := base) Z d7 q6
  have q8 := cal__law_right (P := l.prog) (w := w) (base := base) Z d8 q5 q7
  have q9 := cal__law_flat (P := l.prog) (w := w) (base := base) Z d9
  have q10 := cal__law_chain (P := l.prog) (w := w) (base := base) Z d10 q9
  have q11 := cal_plan_order (P := l.prog) (w := w) (base := base) Z d11
  have q12 := cal_chain (P := l.prog) (w := w) (base := base) Z d12 q11
  have q13 := cal_deepest (P := l.prog) (w := w) (base := base) Z d13
  have q14 := cal__law_plan_right (P := l.prog) (w := w) (base := base) Z d14 q9 q11 q10 q12 q13
  have q15 := cal__law_bent (P := l.prog) (w := w) (base := base) Z d15 q1
  have q16 := cal__law_deep (P := l.prog) (w := w) (base := base) Z d16
  have q17 := cal__law_order (P := l.prog) (w := w) (base := base) Z d17 q1
  exact cal_law (P := l.prog) (w := w) (base := base) Z d18 q0 q8 q1 q17 q2 q14 q15 q16
end LW
namespace LW
open PySem PySem.Spec L2
open PyProof.Rows (envOfC)
theorem sp__law_tape (ns : List Int) (sto : List Cell) : m__law_tape [.scr ns] sto = .ok (.c (⟨ns.take 63, 0, 0⟩ : TT).cell) sto := by
  have e : cutL ns none (some 63) = ns.take 63 := by
    show (ns.drop 0).take (min 63 ns.length - 0) = _
    rw [List.drop_zero, Nat.sub_zero]
    by_cases h : ns.length ≤ 63
    · rw [Nat.min_eq_right h, List.take_length, List.take_of_length_le h]
    · rw [Nat.min_eq_left (by omega)]
  refine fn_R (F := fun _ : Unit => (⟨[], []⟩ : S)) (R := fun _ : Unit => (.c (⟨ns.take 63, 0, 0⟩ : TT).cell, sto)) (r := ()) ?_ (.refl sto)
  unfold b__law_tape
  show CJ _ _ _ (⟨[some (.scr ns)], sto ++ []⟩ : S) _
  refine w_retBc (env := [some (.scr ns)]) (L := []) (c := (⟨ns.take 63, 0, 0⟩ : TT).cell) ?_ (tt_clo _) (fun z => by cases z) rfl
  have e2 : (⟨ns.take 63, 0, 0⟩ : TT).cell = .lst [eL eI (cutL ns none (some 63)), eI 0, eI 0] := by rw [e]; rfl
  rw [e2]
  exact j_lst (j_cons (j_fzc (r_scr (j_var rfl) j_ret (j_pI j_int)) rfl) (j_cons j_int (j_cons j_int j_ret))) (Nat.le_of_ble_eq_true rfl)
noncomputable def q__law_draw (T : TT) (v_many : Int) : Option (Int × TT) :=
  if (decide ((0 : Int) < T.r)) = true then (modQ T.r v_many).bind fun v1 =>
  lq (v1 : Int) fun v_found2 =>
  (divQ T.r v_many).bind fun v3 =>
  some (v_found2, (⟨T.xs, T.sp, v3⟩ : TT)) else
  lq (T.sp : Int) fun v_spot5 =>
  ((if (decide ((0 : Int) < (((⟨T.xs, (v_spot5 + (1 : Int)), T.r⟩ : TT).xs).length : Int))) = true then ((modQ v_spot5 (((⟨T.xs, (v_spot5 + (1 : Int)), T.r⟩ : TT).xs).length : Int)).bind fun v9 => ((ixQ (⟨T.xs, (v_spot5 + (1 : Int)), T.r⟩ : TT).xs v9).bind fun v10 => some v10)) else some (7 : Int) : Option Int)).bind fun v11 =>
  lq (v11 : Int) fun v_cell13 =>
  if ((decide ((1000000000000000000 : Int) ≤ v_cell13)) && (decide (v_spot5 < (((⟨T.xs, (v_spot5 + (1 : Int)), T.r⟩ : TT).xs).length : Int)))) = true then (divQ v_cell13 v_many).bind fun v14 =>
  (modQ v_cell13 v_many).bind fun v16 =>
  some (v16, (⟨(⟨T.xs, (v_spot5 + (1 : Int)), T.r⟩ : TT).xs, (⟨T.xs, (v_spot5 + (1 : Int)), T.r⟩ : TT).sp, v14⟩ : TT)) else
  (mulQ ((v_cell13 % (998244353 : Int)) + (1 : Int)) ((48271 : Int) + ((2 : Int) * v_spot5))).bind fun v17 =>
  lq ((v17 % (2147483647 : Int)) : Int) fun v_mixed18 =>
  (mulQ ((7919 : Int) * v_spot5) v_spot5).bind fun v19 =>
  (modQ ((((v_mixed18 + v19) * (69621 : Int)) % (2147483629 : Int)) / (5 : Int)) v_many).bind fun v20 =>
  some (v20, (⟨T.xs, (v_spot5 + (1 : Int)), T.r⟩ : TT))
theorem sp__law_draw {T : TT} {v_many : Int} {r : Int × TT} (H : q__law_draw T v_many = some r) (rest : List Cell) : m__law_draw [.loc 0, eI v_many] (T.cell :: rest) = .ok (.d (eI r.1)) (r.2.cell :: rest) := by
  refine fn_R (F := fun _ : Unit => (⟨[], []⟩ : S)) (R := (fun r : Int × TT => (.d (eI r.1), r.2.cell :: rest))) (r := r) ?_ kept_T
  unfold q__law_draw at H
  unfold b__law_draw
  show CJ _ _ _ (⟨[some (.loc 0), some (eI v_many), none, none, none, none], (T.cell :: rest) ++ []⟩ : S) _
  rcases iteI H with ⟨hc, H⟩ | ⟨hc, H⟩
  · refine w_seqif_t (t_eq (p := (decide ((0 : Int) < T.r))) (t_toB (j_gtI (j_t2 (T := T) (j_var rfl) j_int) j_int)) hc) ?_
    refine w_assoc ?_
    obtain ⟨v1, hv1, H⟩ := bindI H
    obtain ⟨v_found2, ev_found2, H⟩ := letI' H
    refine w_seq (s1 := (⟨[some (.loc 0), some (eI v_many), some (eI v_found2), none, none, none], (T.cell :: rest) ++ []⟩ : S)) (w_set (j_eqv (e := eI) (p := v1) (j_modI (j_t2 (T := T) (j_var rfl) j_int) (j_eqv (e := eI) (p := v_many) (j_var rfl) rfl) hv1) ev_found2) rfl) ?_
    refine w_assoc ?_
    obtain ⟨v3, hv3, H⟩ := bindI H
    refine w_seq (s1 := (⟨[some (.loc 0), some (eI v_many), some (eI v_found2), none, none, none], ((⟨T.xs, T.sp, v3⟩ : TT).cell :: rest) ++ []⟩ : S)) (w_tput2 (T := T) (v := v3) (j_divI (j_t2 (T := T) (j_var rfl) j_int) (j_eqv (e := eI) (p := v_many) (j_var rfl) rfl) hv3) (j_var rfl) j_int) ?_
    rw [← Option.some.inj H]
    exact w_seqR (w_retD (d := eI v_found2) (j_eqv (e := eI) (p := v_found2) (j_eqv (e := eI) (p := v_found2) (j_var rfl) rfl) rfl) (EncOk.clo _) rfl)
  · refine w_seqif_f (t_eq (p := (decide ((0 : Int) < T.r))) (t_toB (j_gtI (j_t2 (T := T) (j_var rfl) j_int) j_int)) hc) ?_
    refine w_seqdone ?_
    obtain ⟨v_spot5, ev_spot5, H⟩ := letI' H
    refine w_seq (s1 := (⟨[some (.loc 0), some (eI v_many), none, some (eI v_spot5), none, none], (T.cell :: rest) ++ []⟩ : S)) (w_set (j_eqv (e := eI) (p := T.sp) (j_t1 (T := T) (j_var rfl) j_int) ev_spot5) rfl) ?_
    refine w_seq (s1 := (⟨[some (.loc 0), some (eI v_many), none, some (eI v_spot5), none, none], ((⟨T.xs, (v_spot5 + (1 : Int)), T.r⟩ : TT).cell :: rest) ++ []⟩ : S)) (w_tput1 (T := T) (v := (v_spot5 + (1 : Int))) (j_addI (j_eqv (e := eI) (p := v_spot5) (j_var rfl) rfl) j_int) (j_var rfl) j_int) ?_
    obtain ⟨v11, hv11, H⟩ := bindI H
    obtain ⟨v_cell13, ev_cell13, H⟩ := letI' H
    refine w_seq (s1 := (⟨[some (.loc 0), some (eI v_many), none, some (eI v_spot5), some (eI v_cell13), none], ((⟨T.xs, (v_spot5 + (1 : Int)), T.r⟩ : TT).cell :: rest) ++ []⟩ : S)) (w_set (j_eqv (e := eI) (p := v11) (j_ifQ (e := eI) (t_toB (j_gtI (j_lenL (e := eI) (j_t0 (T := (⟨T.xs, (v_spot5 + (1 : Int)), T.r⟩ : TT)) (j_var rfl) j_int) drE) j_int)) hv11 (fun _ g12 => bindE g12 fun v9 hv9 g12 => bindE g12 fun v10 hv10 g12 => j_conv (e := eI) (p := v10) (j_ixL (e := eI) (j_t0 (T := (⟨T.xs, (v_spot5 + (1 : Int)), T.r⟩ : TT)) (j_var rfl) j_int) (j_modI (j_eqv (e := eI) (p := v_spot5) (j_var rfl) rfl) (j_lenL (e := eI) (j_t0 (T := (⟨T.xs, (v_spot5 + (1 : Int)), T.r⟩ : TT)) (j_var rfl) j_int) drE) hv9) drE hv10) g12) (fun _ g12 => j_conv (e := eI) (p := (7 : Int)) j_int g12)) ev_cell13) rfl) ?_
    rcases iteI H with ⟨hc, H⟩ | ⟨hc, H⟩
    · refine w_seqif_t (t_eq (p := ((decide ((1000000000000000000 : Int) ≤ v_cell13)) && (decide (v_spot5 < (((⟨T.xs, (v_spot5 + (1 : Int)), T.r⟩ : TT).xs).length : Int))))) (t_and (t_toB (j_geI (j_eqv (e := eI) (p := v_cell13) (j_var rfl) rfl) (j_powI j_int j_int (v := 1000000000000000000) (by decide +kernel)))) (t_toB (j_ltI (j_eqv (e := eI) (p := v_spot5) (j_var rfl) rfl) (j_lenL (e := eI) (j_t0 (T := (⟨T.xs, (v_spot5 + (1 : Int)), T.r⟩ : TT)) (j_var rfl) j_int) drE)))) hc) ?_
      refine w_assoc ?_
      obtain ⟨v14, hv14, H⟩ := bindI H
      refine w_seq (s1 := (⟨[some (.loc 0), some (eI v_many), none, some (eI v_spot5), some (eI v_cell13), none], ((⟨(⟨T.xs, (v_spot5 + (1 : Int)), T.r⟩ : TT).xs, (⟨T.xs, (v_spot5 + (1 : Int)), T.r⟩ : TT).sp, v14⟩ : TT).cell :: rest) ++ []⟩ : S)) (w_tput2 (T := (⟨T.xs, (v_spot5 + (1 : Int)), T.r⟩ : TT)) (v := v14) (j_divI (j_eqv (e := eI) (p := v_cell13) (j_var rfl) rfl) (j_eqv (e := eI) (p := v_many) (j_var rfl) rfl) hv14) (j_var rfl) j_int) ?_
      obtain ⟨v16, hv16, H⟩ := bindI H
      rw [← Option.some.inj H]
      exact w_seqR (w_retD (d := eI v16) (j_eqv (e := eI) (p := v16) (j_modI (j_eqv (e := eI) (p := v_cell13) (j_var rfl) rfl) (j_eqv (e := eI) (p := v_many) (j_var rfl) rfl) hv16) rfl) (EncOk.clo _) rfl)
    · refine w_seqif_f (t_eq (p := ((decide ((1000000000000000000 : Int) ≤ v_cell13)) && (decide (v_spot5 < (((⟨T.xs, (v_spot5 + (1 : Int)), T.r⟩ : TT).xs).length : Int))))) (t_and (t_toB (j_geI (j_eqv (e := eI) (p := v_cell13) (j_var rfl) rfl) (j_powI j_int j_int (v := 1000000000000000000) (by decide +kernel)))) (t_toB (j_ltI (j_eqv (e := eI) (p := v_spot5) (j_var rfl) rfl) (j_lenL (e := eI) (j_t0 (T := (⟨T.xs, (v_spot5 + (1 : Int)), T.r⟩ : TT)) (j_var rfl) j_int) drE)))) hc) ?_
      refine w_seqdone ?_
      obtain ⟨v17, hv17, H⟩ := bindI H
      obtain ⟨v_mixed18, ev_mixed18, H⟩ := letI' H
      refine w_seq (s1 := (⟨[some (.loc 0), some (eI v_many), none, some (eI v_spot5), some (eI v_cell13), some (eI v_mixed18)], ((⟨T.xs, (v_spot5 + (1 : Int)), T.r⟩ : TT).cell :: rest) ++ []⟩ : S)) (w_set (j_eqv (e := eI) (p := (v17 % (2147483647 : Int))) (j_modC (j_mulI (j_addI (j_modC (j_eqv (e := eI) (p := v_cell13) (j_var rfl) rfl) j_int (by decide)) j_int) (j_addI j_int (j_mulL j_int (j_eqv (e := eI) (p := v_spot5) (j_var rfl) rfl) (by decide))) hv17) j_int (by decide)) ev_mixed18) rfl) ?_
      obtain ⟨v19, hv19, H⟩ := bindI H
      obtain ⟨v20, hv20, H⟩ := bindI H
      rw [← Option.some.inj H]
      exact w_retD (d := eI v20) (j_eqv (e := eI) (p := v20) (j_modI (j_divC (j_modC (j_mulR (j_addI (j_eqv (e := eI) (p := v_mixed18) (j_var rfl) rfl) (j_mulI (j_mulL j_int (j_eqv (e := eI) (p := v_spot5) (j_var rfl) rfl) (by decide)) (j_eqv (e := eI) (p := v_spot5) (j_var rfl) rfl) hv19)) j_int (by decide)) j_int (by decide)) j_int (by decide)) (j_eqv (e := eI) (p := v_many) (j_var rfl) rfl) hv20) rfl) (EncOk.clo _) rfl
noncomputable def qR__law_plan (rr1 : Nat) (T : TT) (v_pool : List Int) : Option (U × TT) := match rr1 with
  | 0 => none
  | rr0 + 1 => (q__law_draw T (if ((v_pool).length : Int) < (3 : Int) then ((v_pool).length : Int) else (3 : Int))).bind fun r1 =>
  lq (((1 : Int) + r1.1) : Int) fun v_many2 =>
  lq ((cutL v_pool (some v_many2) none) : List Int) fun v_rest3 =>
  lq (([] : List U)) fun v_plans4 =>
  (whileQ (fun (s6 : ((List U) × (List Int) × TT)) => some (!(decide (s6.2.1 = ([] : List Int))))) (fun (s6 : ((List U) × (List Int) × TT)) => ((q__law_draw s6.2.2 ((s6.2.1).length : Int)).bind fun r7 =>
  lq (((1 : Int) + r7.1) : Int) fun v_cut8 =>
  (qR__law_plan rr0 r7.2 (cutL s6.2.1 none (some v_cut8))).bind fun r9 =>
  (appQ s6.1 r9.1).bind fun v10 =>
  lq ((cutL s6.2.1 (some v_cut8) none) : List Int) fun v_rest11 =>
  some (v10, v_rest11, r9.2) : Option ((List U) × (List Int) × TT))) 100000 (v_plans4, v_rest3, r1.2)).bind fun j12 =>
  (sortedQ eI (cutL v_pool none (some v_many2))).bind fun v14 =>
  some ((U.tup [((uV uI) v14), ((uV id) j12.1)]), j12.2.2)
theorem spR__law_plan (rr1 : Nat) : ∀ {T : TT} {v_pool : List Int} {r : U × TT}, qR__law_plan rr1 T v_pool = some r → ∀ rest : List Cell, mR__law_plan rr1 [.loc 0, (eL eI) v_pool] (T.cell :: rest) = .ok (.d (eU r.1)) (r.2.cell :: rest) := by
  induction rr1 with
  | zero => intro T v_pool r H rest; cases H
  | succ rr0 spR_ih =>
    intro T v_pool r H rest
    refine fn_R (F := fun _ : Unit => (⟨[], []⟩ : S)) (R := (fun r : U × TT => (.d (eU r.1), r.2.cell :: rest))) (r := r) ?_ kept_T
    rw [qR__law_plan] at H
    unfold b__law_plan
    show CJ _ _ _ (⟨[some (.loc 0), some ((eL eI) v_pool), none, none, none, none], (T.cell :: rest) ++ []⟩ : S) _
    obtain ⟨r1, hr1, H⟩ := bindI H
    obtain ⟨v_many2, ev_many2, H⟩ := letI' H
    refine w_seq (s1 := (⟨[some (.loc 0), some ((eL eI) v_pool), some (eI v_many2), none, none, none], (r1.2.cell :: rest) ++ []⟩ : S)) (w_set (j_eqv (e := eI) (p := ((1 : Int) + r1.1)) (j_addI j_int (j_fzd (j_callT (T := T) (T' := r1.2) (rest := rest) (j_cons (j_var rfl) (j_cons (j_eqv (e := eI) (p := (if ((v_pool).length : Int) < (3 : Int) then ((v_pool).length : Int) else (3 : Int))) (j_min2 j_int (j_lenL (e := eI) (j_eqv (e := (eL eI)) (p := v_pool) (j_var rfl) rfl) drE)) rfl) j_ret)) fun rest => sp__law_draw hr1 rest))) ev_many2) rfl) ?_
    obtain ⟨v_rest3, ev_rest3, H⟩ := letI' H
    refine w_seq (s1 := (⟨[some (.loc 0), some ((eL eI) v_pool), some (eI v_many2), some ((eL eI) v_rest3), none, none], (r1.2.cell :: rest) ++ []⟩ : S)) (w_set (j_eqv (e := (eL eI)) (p := (cutL v_pool (some v_many2) none)) (j_eqv (e := (eL eI)) (p := (cutL v_pool (some v_many2) none)) (j_fzc (r_slL (e := eI) (j_eqv (e := (eL eI)) (p := v_pool) (j_var rfl) rfl) (j_pI (j_eqv (e := eI) (p := v_many2) (j_var rfl) rfl)) j_ret drE) rfl) rfl) ev_rest3) rfl) ?_
    obtain ⟨v_plans4, ev_plans4, H⟩ := letI' H
    refine w_seq (s1 := (⟨[some (.loc 0), some ((eL eI) v_pool), some (eI v_many2), some ((eL eI) v_rest3), some (.loc (rest.length + 1 + 0)), none], (r1.2.cell :: rest) ++ [(cL eU) v_plans4]⟩ : S)) (w_set (j_bxB (base := (r1.2.cell :: rest)) (j := 0) (r_eqv (C := (cL eU)) (p := ([] : List U)) (r_eqv (C := (cL eU)) (p := ([] : List U)) (j_lst j_ret (Nat.le_of_ble_eq_true rfl)) rfl) ev_plans4) rfl rfl) rfl) ?_
    obtain ⟨j12, hj12, H⟩ := bindI H
    refine w_seq (s1 := (fun s5 : ((List U) × (List Int) × TT) => (⟨[some (.loc 0), some ((eL eI) v_pool), some (eI v_many2), some ((eL eI) s5.2.1), some (.loc (rest.length + 1 + 0)), none], (s5.2.2.cell :: rest) ++ [(cL eU) s5.1]⟩ : S)) j12) (w_while (F := (fun s5 : ((List U) × (List Int) × TT) => (⟨[some (.loc 0), some ((eL eI) v_pool), some (eI v_many2), some ((eL eI) s5.2.1), some (.loc (rest.length + 1 + 0)), none], (s5.2.2.cell :: rest) ++ [(cL eU) s5.1]⟩ : S))) (x0 := (v_plans4, v_rest3, r1.2)) 100000 hj12 (fun s6 _ g13 => t_conv (p := (!(decide (s6.2.1 = ([] : List Int))))) (t_toB (j_ne (e := (eL eI)) (a := s6.2.1) (b := ([] : List Int)) (by decide) (j_eqv (e := (eL eI)) (p := s6.2.1) (j_var rfl) rfl) (j_eqv (e := (eL eI)) (p := ([] : List Int)) (j_fzc (r_eqv (C := (cL eI)) (p := ([] : List Int)) (j_lst j_ret (Nat.le_of_ble_eq_true rfl)) rfl) rfl) rfl) drE drE)) g13) (fun s6 _ H => ?_)) ?_
    · show CJ _ _ _ (⟨[some (.loc 0), some ((eL eI) v_pool), some (eI v_many2), some ((eL eI) s6.2.1), some (.loc (rest.length + 1 + 0)), none], (s6.2.2.cell :: rest) ++ [(cL eU) s6.1]⟩ : S) _
      obtain ⟨r7, hr7, H⟩ := bindI H
      obtain ⟨v_cut8, ev_cut8, H⟩ := letI' H
      refine w_seq (s1 := (⟨[some (.loc 0), some ((eL eI) v_pool), some (eI v_many2), some ((eL eI) s6.2.1), some (.loc (rest.length + 1 + 0)), some (eI v_cut8)], (r7.2.cell :: rest) ++ [(cL eU) s6.1]⟩ : S)) (w_set (j_eqv (e := eI) (p := ((1 : Int) + r7.1)) (j_addI j_int (j_fzd (j_callT (T := s6.2.2) (T' := r7.2) (rest := rest) (j_cons (j_var rfl) (j_cons (j_eqv (e := eI) (p := ((s6.2.1).length : Int)) (j_lenL (e := eI) (j_eqv (e := (eL eI)) (p := s6.2.1) (j_var rfl) rfl) drE) rfl) j_ret)) fun rest => sp__law_draw hr7 rest))) ev_cut8) rfl) ?_
      obtain ⟨r9, hr9, H⟩ := bindI H
      obtain ⟨v10, hv10, H⟩ := bindI H
      refine w_seq (s1 := (⟨[some (.loc 0), some ((eL eI) v_pool), some (eI v_many2), some ((eL eI) s6.2.1), some (.loc (rest.length + 1 + 0)), some (eI v_cut8)], (r9.2.cell :: rest) ++ [(cL eU) v10]⟩ : S)) (w_drop (j_app (base := (r9.2.cell :: rest)) (j := 0) (e := eU) (y := r9.1) (j_var rfl) (drLb (base := (r7.2.cell :: rest)) (j := 0) rfl) (j_eqv (e := eU) (p := r9.1) (j_fzd (j_callT (T := r7.2) (T' := r9.2) (rest := rest) (j_cons (j_var rfl) (j_cons (j_eqv (e := (eL eI)) (p := (cutL s6.2.1 none (some v_cut8))) (j_eqv (e := (eL eI)) (p := (cutL s6.2.1 none (some v_cut8))) (j_fzc (r_slL (e := eI) (j_eqv (e := (eL eI)) (p := s6.2.1) (j_var rfl) rfl) j_ret (j_pI (j_eqv (e := eI) (p := v_cut8) (j_var rfl) rfl)) drE) rfl) rfl) rfl) j_ret)) fun rest => spR_ih hr9 rest)) rfl) rfl hv10 rfl)) ?_
      obtain ⟨v_rest11, ev_rest11, H⟩ := letI' H
      refine w_seq (s1 := (⟨[some (.loc 0), some ((eL eI) v_pool), some (eI v_many2), some ((eL eI) v_rest11), some (.loc (rest.length + 1 + 0)), some (eI v_cut8)], (r9.2.cell :: rest) ++ [(cL eU) v10]⟩ : S)) (w_set (j_eqv (e := (eL eI)) (p := (cutL s6.2.1 (some v_cut8) none)) (j_eqv (e := (eL eI)) (p := (cutL s6.2.1 (some v_cut8) none)) (j_fzc (r_slL (e := eI) (j_eqv (e := (eL eI)) (p := s6.2.1) (j_var rfl) rfl) (j_pI (j_eqv (e := eI) (p := v_cut8) (j_var rfl) rfl)) j_ret drE) rfl) rfl) ev_rest11) rfl) ?_
      rw [← Option.some.inj H]
      exact w_wp rfl
    show CJ _ _ _ (⟨[some (.loc 0), some ((eL eI) v_pool), some (eI v_many2), some ((eL eI) j12.2.1), some (.loc (rest.length + 1 + 0)), none], (j12.2.2.cell :: rest) ++ [(cL eU) j12.1]⟩ : S) _
    obtain ⟨v14, hv14, H⟩ := bindI H
    rw [← Option.some.inj H]
    exact w_retD (d := eU (U.tup [((uV uI) v14), ((uV id) j12.1)])) (j_eqv (e := eU) (p := (U.tup [((uV uI) v14), ((uV id) j12.1)])) (j_eqv (e := eU) (p := (U.tup [((uV uI) v14), ((uV id) j12.1)])) (j_tup (j_cons (j_toU (j_tupleL (e := eI) (j_eqv (e := (eL eI)) (p := v14) (j_fzc (r_sortedL (e := eI) (j_eqv (e := (eL eI)) (p := (cutL v_pool none (some v_many2))) (j_fzc (r_slL (e := eI) (j_eqv (e := (eL eI)) (p := v_pool) (j_var rfl) rfl) j_ret (j_pI (j_eqv (e := eI) (p := v_many2) (j_var rfl) rfl)) drE) rfl) rfl) drE hv14) rfl) rfl) drE) ((ok_V ok_I) v14)) (j_cons (j_toU (j_tupleL (e := eU) (j_var rfl) (drLb (base := (j12.2.2.cell :: rest)) (j := 0) rfl)) ((ok_V ok_id) j12.1)) j_ret)) (Nat.le_of_ble_eq_true rfl)) rfl) rfl) (EncOk.clo _) rfl
noncomputable def q__law_plan (T : TT) (v_pool : List Int) : Option (U × TT) := qR__law_plan 14 T v_pool
theorem sp__law_plan {T : TT} {v_pool : List Int} {r : U × TT} (H : q__law_plan T v_pool = some r) (rest : List Cell) : m__law_plan [.loc 0, (eL eI) v_pool] (T.cell :: rest) = .ok (.d (eU r.1)) (r.2.cell :: rest) := spR__law_plan 14 H rest
noncomputable def q_are_places (v_thing : U) : Option Bool :=
  (if (!(isaU "tuple" v_thing)) = true then some true else ((seqU v_thing).bind fun v2 => some (decide (((v2).length : Int) = (0 : Int))))).bind fun v3 =>
  if v3 = true then some false else
  (seqU v_thing).bind fun v5 =>
  (compQ (fun x6 : U => (((if (isaU "int" x6) = true then ((if (!(isaU "bool" x6)) = true then ((intU x6).bind fun v7 => some (decide ((0 : Int) ≤ v7))) else some false).bind fun v8 => some v8) else some false).bind fun v10 => some v10) : Option Bool).bind fun y => some (some y)) v5).bind fun v14 =>
  if (!((v14).all id)) = true then some false else
  (seqU v_thing).bind fun v15 =>
  (rngQ (1 : Int) ((v15).length : Int)).bind fun w16 =>
  (compQ (fun x17 : Int => (((tupU v_thing).bind fun v22 => ((ixQ v22 (x17 - (1 : Int))).bind fun v23 => ((tupU v_thing).bind fun v24 => ((ixQ v24 x17).bind fun v25 => ((ltQ (eU v23) (eU v25)).bind fun v26 => some v26))))) : Option Bool).bind fun y => some (some y)) w16).bind fun v29 =>
  some ((v29).all id)
theorem sp_are_places {v_thing : U} {r : Bool} (H : q_are_places v_thing = some r) (sto : List Cell) : m_are_places [eU v_thing] sto = .ok (.d (eB r)) sto := by
  refine fn_R (F := fun _ : Unit => (⟨[], []⟩ : S)) (R := (fun r : Bool => (.d (eB r), sto))) (r := r) ?_ (.refl sto)
  unfold q_are_places at H
  unfold b_are_places
  show CJ _ _ _ (⟨[some (eU v_thing), none, none], sto ++ []⟩ : S) _
  obtain ⟨v3, hv3, H⟩ := bindI H
  rcases iteI H with ⟨hc, H⟩ | ⟨hc, H⟩
  · refine w_seqif_t (t_eq (p := v3) (t_orQ (t_not (t_toB (j_isaU (T := "tuple") (j_eqv (e := eU) (p := v_thing) (j_var rfl) rfl) (by decide +kernel)))) hv3 fun _ g4 => bindE g4 fun v2 hv2 g4 => t_conv (p := (decide (((v2).length : Int) = (0 : Int)))) (t_toB (j_eqI (j_lenU (j_eqv (e := eU) (p := v_thing) (j_var rfl) rfl) hv2) j_int)) g4) hc) ?_
    rw [← Option.some.inj H]
    exact w_seqR (w_retD (d := eB false) (j_eqv (e := eB) (p := false) j_bl rfl) (EncOk.clo _) rfl)
  · refine w_seqif_f (t_eq (p := v3) (t_orQ (t_not (t_toB (j_isaU (T := "tuple") (j_eqv (e := eU) (p := v_thing) (j_var rfl) rfl) (by decide +kernel)))) hv3 fun _ g4 => bindE g4 fun v2 hv2 g4 => t_conv (p := (decide (((v2).length : Int) = (0 : Int)))) (t_toB (j_eqI (j_lenU (j_eqv (e := eU) (p := v_thing) (j_var rfl) rfl) hv2) j_int)) g4) hc) ?_
    refine w_seqdone ?_
    obtain ⟨v5, hv5, H⟩ := bindI H
    obtain ⟨v14, hv14, H⟩ := bindI H
    rcases iteI H with ⟨hc, H⟩ | ⟨hc, H⟩
    · refine w_seqif_t (t_eq (p := (!((v14).all id))) (t_not (t_toB (j_all (j_eqv (e := (eL eB)) (p := v14) (j_fzc (r_compQ (e := eU) (e2' := eB) (i_seqU (j_eqv (e := eU) (p := v_thing) (j_var rfl) rfl) hv5) hv14 (fun _ => rfl) (fun x6 _ ho => ceM (e2' := eB) ho (fun _ g12 => bindE g12 fun v10 hv10 g12 => j_conv (e := eB) (p := v10) (j_andQ (j_isaU (T := "int") (j_eqv (e := eU) (p := x6) (j_var rfl) rfl) (by decide +kernel)) hv10 fun _ g11 => bindE g11 fun v8 hv8 g11 => j_conv (e := eB) (p := v8) (j_andQ (j_not (j_isaU (T := "bool") (j_eqv (e := eU) (p := x6) (j_var rfl) rfl) (by decide +kernel))) hv8 fun _ g9 => bindE g9 fun v7 hv7 g9 => j_conv (e := eB) (p := (decide ((0 : Int) ≤ v7))) (j_geI (j_intU (j_eqv (e := eU) (p := x6) (j_var rfl) rfl) hv7) j_int) g9) g11) g12))) rfl) rfl) drE))) hc) ?_
      rw [← Option.some.inj H]
      exact w_seqR (w_retD (d := eB false) (j_eqv (e := eB) (p := false) j_bl rfl) (EncOk.clo _) rfl)
    · refine w_seqif_f (t_eq (p := (!((v14).all id))) (t_not (t_toB (j_all (j_eqv (e := (eL eB)) (p := v14) (j_fzc (r_compQ (e := eU) (e2' := eB) (i_seqU (j_eqv (e := eU) (p := v_thing) (j_var rfl) rfl) hv5) hv14 (fun _ => rfl) (fun x6 _ ho => ceM (e2' := eB) ho (fun _ g12 => bindE g12 fun v10 hv10 g12 => j_conv (e := eB) (p := v10) (j_andQ (j_isaU (T := "int") (j_eqv (e := eU) (p := x6) (j_var rfl) rfl) (by decide +kernel)) hv10 fun _ g11 => bindE g11 fun v8 hv8 g11 => j_conv (e := eB) (p := v8) (j_andQ (j_not (j_isaU (T := "bool") (j_eqv (e := eU) (p := x6) (j_var rfl) rfl) (by decide +kernel))) hv8 fun _ g9 => bindE g9 fun v7 hv7 g9 => j_conv (e := eB) (p := (decide ((0 : Int) ≤ v7))) (j_geI (j_intU (j_eqv (e := eU) (p := x6) (j_var rfl) rfl) hv7) j_int) g9) g11) g12))) rfl) rfl) drE))) hc) ?_
      refine w_seqdone ?_
      obtain ⟨v15, hv15, H⟩ := bindI H
      obtain ⟨w16, hw16, H⟩ := bindI H
      obtain ⟨v29, hv29, H⟩ := bindI H
      rw [← Option.some.inj H]
      exact w_retD (d := eB ((v29).all id)) (j_eqv (e := eB) (p := ((v29).all id)) (j_all (j_eqv (e := (eL eB)) (p := v29) (j_fzc (r_compQ (e := eI) (e2' := eB) (i_rng2 j_int (j_lenU (j_eqv (e := eU) (p := v_thing) (j_var rfl) rfl) hv15) hw16) hv29 (fun _ => rfl) (fun x17 _ ho => ceM (e2' := eB) ho (fun _ g27 => bindE g27 fun v22 hv22 g27 => bindE g27 fun v23 hv23 g27 => bindE g27 fun v24 hv24 g27 => bindE g27 fun v25 hv25 g27 => bindE g27 fun v26 hv26 g27 => j_conv (e := eB) (p := v26) (j_ltQ (j_ixV (e := eU) (j_tupU (j_eqv (e := eU) (p := v_thing) (j_var rfl) rfl) hv22) (j_subI (j_eqv (e := eI) (p := x17) (j_var rfl) rfl) j_int) drE hv23) (j_ixV (e := eU) (j_tupU (j_eqv (e := eU) (p := v_thing) (j_var rfl) rfl) hv24) (j_eqv (e := eI) (p := x17) (j_var rfl) rfl) drE hv25) drE drE hv26) g27))) rfl) rfl) drE) rfl) (EncOk.clo _) rfl
noncomputable def qR_is_plan_so_deep (rr1 : Nat) (v_thing : U) (v_room : Int) : Option Bool := match rr1 with
  | 0 => none
  | rr0 + 1 => (if (decide (v_room = (0 : Int))) = true then some true else ((if (!(isaU "tuple" v_thing)) = true then some true else ((seqU v_thing).bind fun v2 => some (!(decide (((v2).length : Int) = (2 : Int)))))).bind fun v3 => some v3)).bind fun v5 =>
  if v5 = true then some false else
  (tupU v_thing).bind fun v7 =>
  (ixQ v7 (0 : Int)).bind fun v8 =>
  (q_are_places v8).bind fun r9 =>
  (if (!r9) = true then some true else ((tupU v_thing).bind fun v10 => ((ixQ v10 (1 : Int)).bind fun v11 => some (!(isaU "tuple" v11))))).bind fun v12 =>
  if v12 = true then some false else
  (tupU v_thing).bind fun v14 =>
  (ixQ v14 (1 : Int)).bind fun v15 =>
  (seqU v15).bind fun v16 =>
  (compQ (fun x17 : U => (((qR_is_plan_so_deep rr0 x17 (v_room - (1 : Int))).bind fun r18 => some r18) : Option Bool).bind fun y => some (some y)) v16).bind fun v21 =>
  some ((v21).all id)
theorem spR_is_plan_so_deep (rr1 : Nat) : ∀ {v_thing : U} {v_room : Int} {r : Bool}, qR_is_plan_so_deep rr1 v_thing v_room = some r → ∀ sto : List Cell, mR_is_plan_so_deep rr1 [eU v_thing, eI v_room] sto = .ok (.d (eB r)) sto := by
  induction rr1 with
  | zero => intro v_thing v_room r H sto; cases H
  | succ rr0 spR_ih =>
    intro v_thing v_room r H sto
    refine fn_R (F := fun _ : Unit => (⟨[], []⟩ : S)) (R := (fun r : Bool => (.d (eB r), sto))) (r := r) ?_ (.refl sto)
    rw [qR_is_plan_so_deep] at H
    unfold b_is_plan_so_deep
    show CJ _ _ _ (⟨[some (eU v_thing), some (eI v_room), none], sto ++ []⟩ : S) _
    obtain ⟨v5, hv5, H⟩ := bindI H
    rcases iteI H with ⟨hc, H⟩ | ⟨hc, H⟩
    · refine w_seqif_t (t_eq (p := v5) (t_orQ (t_toB (j_eqI (j_eqv (e := eI) (p := v_room) (j_var rfl) rfl) j_int)) hv5 fun _ g6 => bindE g6 fun v3 hv3 g6 => t_conv (p := v3) (t_orQ (t_not (t_toB (j_isaU (T := "tuple") (j_eqv (e := eU) (p := v_thing) (j_var rfl) rfl) (by decide +kernel)))) hv3 fun _ g4 => bindE g4 fun v2 hv2 g4 => t_conv (p := (!(decide (((v2).length : Int) = (2 : Int))))) (t_toB (j_neI (j_lenU (j_eqv (e := eU) (p := v_thing) (j_var rfl) rfl) hv2) j_int)) g4) g6) hc) ?_
      rw [← Option.some.inj H]
      exact w_seqR (w_retD (d := eB false) (j_eqv (e := eB) (p := false) j_bl rfl) (EncOk.clo _) rfl)
    · refine w_seqif_f (t_eq (p := v5) (t_orQ (t_toB (j_eqI (j_eqv (e := eI) (p := v_room) (j_var rfl) rfl) j_int)) hv5 fun _ g6 => bindE g6 fun v3 hv3 g6 => t_conv (p := v3) (t_orQ (t_not (t_toB (j_isaU (T := "tuple") (j_eqv (e := eU) (p := v_thing) (j_var rfl) rfl) (by decide +kernel)))) hv3 fun _ g4 => bindE g4 fun v2 hv2 g4 => t_conv (p := (!(decide (((v2).length : Int) = (2 : Int))))) (t_toB (j_neI (j_lenU (j_eqv (e := eU) (p := v_thing) (j_var rfl) rfl) hv2) j_int)) g4) g6) hc) ?_
      refine w_seqdone ?_
      obtain ⟨v7, hv7, H⟩ := bindI H
      obtain ⟨v8, hv8, H⟩ := bindI H
      obtain ⟨r9, hr9, H⟩ := bindI H
      obtain ⟨v12, hv12, H⟩ := bindI H
      rcases iteI H with ⟨hc, H⟩ | ⟨hc, H⟩
      · refine w_seqif_t (t_eq (p := v12) (t_orQ (t_not (t_toB (j_fzd (j_callP (j_cons (j_eqv (e := eU) (p := v8) (j_ixV (e := eU) (j_tupU (j_eqv (e := eU) (p := v_thing) (j_var rfl) rfl) hv7) j_int drE hv8) rfl) j_ret) fun sto => sp_are_places hr9 sto)))) hv12 fun _ g13 => bindE g13 fun v10 hv10 g13 => bindE g13 fun v11 hv11 g13 => t_conv (p := (!(isaU "tuple" v11))) (t_not (t_toB (j_isaU (T := "tuple") (j_ixV (e := eU) (j_tupU (j_eqv (e := eU) (p := v_thing) (j_var rfl) rfl) hv10) j_int drE hv11) (by decide +kernel)))) g13) hc) ?_
        rw [← Option.some.inj H]
        exact w_seqR (w_retD (d := eB false) (j_eqv (e := eB) (p := false) j_bl rfl) (EncOk.clo _) rfl)
      · refine w_seqif_f (t_eq (p := v12) (t_orQ (t_not (t_toB (j_fzd (j_callP (j_cons (j_eqv (e := eU) (p := v8) (j_ixV (e := eU) (j_tupU (j_eqv (e := eU) (p := v_thing) (j_var rfl) rfl) hv7) j_int drE hv8) rfl) j_ret) fun sto => sp_are_places hr9 sto)))) hv12 fun _ g13 => bindE g13 fun v10 hv10 g13 => bindE g13 fun v11 hv11 g13 => t_conv (p := (!(isaU "tuple" v11))) (t_not (t_toB (j_isaU (T := "tuple") (j_ixV (e := eU) (j_tupU (j_eqv (e := eU) (p := v_thing) (j_var rfl) rfl) hv10) j_int drE hv11) (by decide +kernel)))) g13) hc) ?_
        refine w_seqdone ?_
        obtain ⟨v14, hv14, H⟩ := bindI H
        obtain ⟨v15, hv15, H⟩ := bindI H
        obtain ⟨v16, hv16, H⟩ := bindI H
        obtain ⟨v21, hv21, H⟩ := bindI H
        rw [← Option.some.inj H]
        exact w_retD (d := eB ((v21).all id)) (j_eqv (e := eB) (p := ((v21).all id)) (j_all (j_eqv (e := (eL eB)) (p := v21) (j_fzc (r_compQ (e := eU) (e2' := eB) (i_seqU (j_ixV (e := eU) (j_tupU (j_eqv (e := eU) (p := v_thing) (j_var rfl) rfl) hv14) j_int drE hv15) hv16) hv21 (fun _ => rfl) (fun x17 _ ho => ceM (e2' := eB) ho (fun _ g19 => bindE g19 fun r18 hr18 g19 => j_conv (e := eB) (p := r18) (j_fzd (j_callP (j_cons (j_eqv (e := eU) (p := x17) (j_eqv (e := eU) (p := x17) (j_var rfl) rfl) rfl) (j_cons (j_eqv (e := eI) (p := (v_room - (1 : Int))) (j_subI (j_eqv (e := eI) (p := v_room) (j_var rfl) rfl) j_int) rfl) j_ret)) fun sto => spR_ih hr18 sto)) g19))) rfl) rfl) drE) rfl) (EncOk.clo _) rfl
noncomputable def q_is_plan_so_deep (v_thing : U) (v_room : Int) : Option Bool := qR_is_plan_so_deep 26 v_thing v_room
theorem sp_is_plan_so_deep {v_thing : U} {v_room : Int} {r : Bool} (H : q_is_plan_so_deep v_thing v_room = some r) (sto : List Cell) : m_is_plan_so_deep [eU v_thing, eI v_room] sto = .ok (.d (eB r)) sto := spR_is_plan_so_deep 26 H sto
noncomputable def q_is_plan (v_thing : U) : Option Bool :=
  (q_is_plan_so_deep v_thing (24 : Int)).bind fun r1 =>
  some r1
theorem sp_is_plan {v_thing : U} {r : Bool} (H : q_is_plan v_thing = some r) (sto : List Cell) : m_is_plan [eU v_thing] sto = .ok (.d (eB r)) sto := by
  refine fn_R (F := fun _ : Unit => (⟨[], []⟩ : S)) (R := (fun r : Bool => (.d (eB r), sto))) (r := r) ?_ (.refl sto)
  unfold q_is_plan at H
  unfold b_is_plan
  show CJ _ _ _ (⟨[some (eU v_thing)], sto ++ []⟩ : S) _
  obtain ⟨r1, hr1, H⟩ := bindI H
  rw [← Option.some.inj H]
  exact w_retBd (d := eB r1) (j_callP (j_cons (j_eqv (e := eU) (p := v_thing) (j_eqv (e := eU) (p := v_thing) (j_var rfl) rfl) rfl) (j_cons (j_eqv (e := eI) (p := (24 : Int)) j_int rfl) j_ret)) fun sto => sp_is_plan_so_deep hr1 sto) (EncOk.clo _) rfl
noncomputable def q__law_is_places (v_thing : U) : Option Bool :=
  (if (!(isaU "tuple" v_thing)) = true then some true else ((seqU v_thing).bind fun v2 => some (decide (((v2).length : Int) = (0 : Int))))).bind fun v3 =>
  if v3 = true then some false else
  (seqU v_thing).bind fun v7 =>
  (eqQ ((eL eU) (List.map (fun x8 : U => x8) (List.filter (fun x8 : U => ((!(isaU "int" x8)) || (isaU "bool" x8))) v7))) ((eL eU) ([] : List U))).bind fun v9 =>
  if (!v9) = true then some false else
  (tupU v_thing).bind fun v12 =>
  (ixQ v12 (0 : Int)).bind fun v13 =>
  (intU v13).bind fun v14 =>
  (if (decide ((0 : Int) ≤ v14)) = true then ((vintU v_thing).bind fun v17 => ((ssetQ v17).bind fun v18 => ((eqQ (eU v_thing) (eU ((uV uI) v18))).bind fun v19 => some v19))) else some false).bind fun v20 =>
  some v20
theorem sp__law_is_places {v_thing : U} {r : Bool} (H : q__law_is_places v_thing = some r) (sto : List Cell) : m__law_is_places [eU v_thing] sto = .ok (.d (eB r)) sto := by
  refine fn_R (F := fun _ : Unit => (⟨[], []⟩ : S)) (R := (fun r : Bool => (.d (eB r), sto))) (r := r) ?_ (.refl sto)
  unfold q__law_is_places at H
  unfold b__law_is_places
  show CJ _ _ _ (⟨[some (eU v_thing), none], sto ++ []⟩ : S) _
  obtain ⟨v3, hv3, H⟩ := bindI H
  rcases iteI H with ⟨hc, H⟩ | ⟨hc, H⟩
  · refine w_seqif_t (t_eq (p := v3) (t_orQ (t_not (t_toB (j_isaU (T := "tuple") (j_eqv (e := eU) (p := v_thing) (j_var rfl) rfl) (by decide +kernel)))) hv3 fun _ g4 => bindE g4 fun v2 hv2 g4 => t_conv (p := (decide (((v2).length : Int) = (0 : Int)))) (t_toB (j_eqI (j_lenU (j_eqv (e := eU) (p := v_thing) (j_var rfl) rfl) hv2) j_int)) g4) hc) ?_
    rw [← Option.some.inj H]
    exact w_seqR (w_retD (d := eB false) (j_eqv (e := eB) (p := false) j_bl rfl) (EncOk.clo _) rfl)
  · refine w_seqif_f (t_eq (p := v3) (t_orQ (t_not (t_toB (j_isaU (T := "tuple") (j_eqv (e := eU) (p := v_thing) (j_var rfl) rfl) (by decide +kernel)))) hv3 fun _ g4 => bindE g4 fun v2 hv2 g4 => t_conv (p := (decide (((v2).length : Int) = (0 : Int)))) (t_toB (j_eqI (j_lenU (j_eqv (e := eU) (p := v_thing) (j_var rfl) rfl) hv2) j_int)) g4) hc) ?_
    refine w_seqdone ?_
    obtain ⟨v7, hv7, H⟩ := bindI H
    obtain ⟨v9, hv9, H⟩ := bindI H
    rcases iteI H with ⟨hc, H⟩ | ⟨hc, H⟩
    · refine w_seqif_t (t_eq (p := (!v9)) (t_toB (j_neQ (j_eqv (e := (eL eU)) (p := (List.map (fun x8 : U => x8) (List.filter (fun x8 : U => ((!(isaU "int" x8)) || (isaU "bool" x8))) v7))) (j_fzc (r_compF (e := eU) (e2' := eU) (p := fun x8 : U => ((!(isaU "int" x8)) || (isaU "bool" x8))) (g := fun x8 : U => x8) (i_seqU (j_eqv (e := eU) (p := v_thing) (j_var rfl) rfl) hv7) (fun _ => rfl) (fun x8 => (t_or (t_not (t_toB (j_isaU (T := "int") (j_eqv (e := eU) (p := x8) (j_var rfl) rfl) (by decide +kernel)))) (t_toB (j_isaU (T := "bool") (j_eqv (e := eU) (p := x8) (j_var rfl) rfl) (by decide +kernel))))) (fun x8 _ => (j_eqv (e := eU) (p := x8) (j_var rfl) rfl))) rfl) rfl) (j_eqv (e := (eL eU)) (p := ([] : List U)) (j_fzc (r_eqv (C := (cL eU)) (p := ([] : List U)) (j_lst j_ret (Nat.le_of_ble_eq_true rfl)) rfl) rfl) rfl) drE drE hv9)) hc) ?_
      rw [← Option.some.inj H]
      exact w_seqR (w_retD (d := eB false) (j_eqv (e := eB) (p := false) j_bl rfl) (EncOk.clo _) rfl)
    · refine w_seqif_f (t_eq (p := (!v9)) (t_toB (j_neQ (j_eqv (e := (eL eU)) (p := (List.map (fun x8 : U => x8) (List.filter (fun x8 : U => ((!(isaU "int" x8)) || (isaU "bool" x8))) v7))) (j_fzc (r_compF (e := eU) (e2' := eU) (p := fun x8 : U => ((!(isaU "int" x8)) || (isaU "bool" x8))) (g := fun x8 : U => x8) (i_seqU (j_eqv (e := eU) (p := v_thing) (j_var rfl) rfl) hv7) (fun _ => rfl) (fun x8 => (t_or (t_not (t_toB (j_isaU (T := "int") (j_eqv (e := eU) (p := x8) (j_var rfl) rfl) (by decide +kernel)))) (t_toB (j_isaU (T := "bool") (j_eqv (e := eU) (p := x8) (j_var rfl) rfl) (by decide +kernel))))) (fun x8 _ => (j_eqv (e := eU) (p := x8) (j_var rfl) rfl))) rfl) rfl) (j_eqv (e := (eL eU)) (p := ([] : List U)) (j_fzc (r_eqv (C := (cL eU)) (p := ([] : List U)) (j_lst j_ret (Nat.le_of_ble_eq_true rfl)) rfl) rfl) rfl) drE drE hv9)) hc) ?_
      refine w_seqdone ?_
      obtain ⟨v12, hv12, H⟩ := bindI H
      obtain ⟨v13, hv13, H⟩ := bindI H
      obtain ⟨v14, hv14, H⟩ := bindI H
      obtain ⟨v20, hv20, H⟩ := bindI H
      rw [← Option.some.inj H]
      exact w_retD (d := eB v20) (j_eqv (e := eB) (p := v20) (j_andQ (j_geI (j_intU (j_ixV (e := eU) (j_tupU (j_eqv (e := eU) (p := v_thing) (j_var rfl) rfl) hv12) j_int drE hv13) hv14) j_int) hv20 fun _ g21 => bindE g21 fun v17 hv17 g21 => bindE g21 fun v18 hv18 g21 => bindE g21 fun v19 hv19 g21 => j_conv (e := eB) (p := v19) (j_eqQ (j_eqv (e := eU) (p := v_thing) (j_var rfl) rfl) (j_toU (j_tupleL (e := eI) (j_eqv (e := (eL eI)) (p := v18) (j_fzc (r_ssetV (j_vintU (j_eqv (e := eU) (p := v_thing) (j_var rfl) rfl) hv17) drE hv18) rfl) rfl) drE) ((ok_V ok_I) v18)) drE drE hv19) g21) rfl) (EncOk.clo _) rfl
noncomputable def qR__law_is_plan (rr1 : Nat) (v_thing : U) (v_deep_here : Int) : Option Bool := match rr1 with
  | 0 => none
  | rr0 + 1 => (if (decide ((24 : Int) < v_deep_here)) = true then some true else ((if (!(isaU "tuple" v_thing)) = true then some true else ((seqU v_thing).bind fun v2 => ((if (!(decide (((v2).length : Int) = (2 : Int)))) = true then some true else ((tupU v_thing).bind fun v3 => ((ixQ v3 (0 : Int)).bind fun v4 => ((q__law_is_places v4).bind fun r5 => some (!r5))))).bind fun v6 => some v6))).bind fun v8 => some v8)).bind fun v10 =>
  if v10 = true then some false else
  (tupU v_thing).bind fun v12 =>
  (ixQ v12 (1 : Int)).bind fun v13 =>
  (if (isaU "tuple" v13) = true then ((tupU v_thing).bind fun v22 => ((ixQ v22 (1 : Int)).bind fun v23 => ((seqU v23).bind fun v24 => ((compQ (fun x25 : U => (((qR__law_is_plan rr0 x25 (v_deep_here + (1 : Int))).bind fun r26 => some r26) : Option Bool).bind fun y => some (some y)) v24).bind fun v29 => some (!(decide (false ∈ v29))))))) else some false).bind fun v30 =>
  some v30
theorem spR__law_is_plan (rr1 : Nat) : ∀ {v_thing : U} {v_deep_here : Int} {r : Bool}, qR__law_is_plan rr1 v_thing v_deep_here = some r → ∀ sto : List Cell, mR__law_is_plan rr1 [eU v_thing, eI v_deep_here] sto = .ok (.d (eB r)) sto := by
  induction rr1 with
  | zero => intro v_thing v_deep_here r H sto; cases H
  | succ rr0 spR_ih =>
    intro v_thing v_deep_here r H sto
    refine fn_R (F := fun _ : Unit => (⟨[], []⟩ : S)) (R := (fun r : Bool => (.d (eB r), sto))) (r := r) ?_ (.refl sto)
    rw [qR__law_is_plan] at H
    unfold b__law_is_plan
    show CJ _ _ _ (⟨[some (eU v_thing), some (eI v_deep_here), none], sto ++ []⟩ : S) _
    obtain ⟨v10, hv10, H⟩ := bindI H
    rcases iteI H with ⟨hc, H⟩ | ⟨hc, H⟩
    · refine w_seqif_t (t_eq (p := v10) (t_orQ (t_toB (j_gtI (j_eqv (e := eI) (p := v_deep_here) (j_var rfl) rfl) j_int)) hv10 fun _ g11 => bindE g11 fun v8 hv8 g11 => t_conv (p := v8) (t_orQ (t_not (t_toB (j_isaU (T := "tuple") (j_eqv (e := eU) (p := v_thing) (j_var rfl) rfl) (by decide +kernel)))) hv8 fun _ g9 => bindE g9 fun v2 hv2 g9 => bindE g9 fun v6 hv6 g9 => t_conv (p := v6) (t_orQ (t_toB (j_neI (j_lenU (j_eqv (e := eU) (p := v_thing) (j_var rfl) rfl) hv2) j_int)) hv6 fun _ g7 => bindE g7 fun v3 hv3 g7 => bindE g7 fun v4 hv4 g7 => bindE g7 fun r5 hr5 g7 => t_conv (p := (!r5)) (t_not (t_toB (j_fzd (j_callP (j_cons (j_eqv (e := eU) (p := v4) (j_ixV (e := eU) (j_tupU (j_eqv (e := eU) (p := v_thing) (j_var rfl) rfl) hv3) j_int drE hv4) rfl) j_ret) fun sto => sp__law_is_places hr5 sto)))) g7) g9) g11) hc) ?_
      rw [← Option.some.inj H]
      exact w_seqR (w_retD (d := eB false) (j_eqv (e := eB) (p := false) j_bl rfl) (EncOk.clo _) rfl)
    · refine w_seqif_f (t_eq (p := v10) (t_orQ (t_toB (j_gtI (j_eqv (e := eI) (p := v_deep_here) (j_var rfl) rfl) j_int)) hv10 fun _ g11 => bindE g11 fun v8 hv8 g11 => t_conv (p := v8) (t_orQ (t_not (t_toB (j_isaU (T := "tuple") (j_eqv (e := eU) (p := v_thing) (j_var rfl) rfl) (by decide +kernel)))) hv8 fun _ g9 => bindE g9 fun v2 hv2 g9 => bindE g9 fun v6 hv6 g9 => t_conv (p := v6) (t_orQ (t_toB (j_neI (j_lenU (j_eqv (e := eU) (p := v_thing) (j_var rfl) rfl) hv2) j_int)) hv6 fun _ g7 => bindE g7 fun v3 hv3 g7 => bindE g7 fun v4 hv4 g7 => bindE g7 fun r5 hr5 g7 => t_conv (p := (!r5)) (t_not (t_toB (j_fzd (j_callP (j_cons (j_eqv (e := eU) (p := v4) (j_ixV (e := eU) (j_tupU (j_eqv (e := eU) (p := v_thing) (j_var rfl) rfl) hv3) j_int drE hv4) rfl) j_ret) fun sto => sp__law_is_places hr5 sto)))) g7) g9) g11) hc) ?_
      refine w_seqdone ?_
      obtain ⟨v12, hv12, H⟩ := bindI H
      obtain ⟨v13, hv13, H⟩ := bindI H
      obtain ⟨v30, hv30, H⟩ := bindI H
      rw [← Option.some.inj H]
      exact w_retD (d := eB v30) (j_eqv (e := eB) (p := v30) (j_andQ (j_isaU (T := "tuple") (j_ixV (e := eU) (j_tupU (j_eqv (e := eU) (p := v_thing) (j_var rfl) rfl) hv12) j_int drE hv13) (by decide +kernel)) hv30 fun _ g31 => bindE g31 fun v22 hv22 g31 => bindE g31 fun v23 hv23 g31 => bindE g31 fun v24 hv24 g31 => bindE g31 fun v29 hv29 g31 => j_conv (e := eB) (p := (!(decide (false ∈ v29)))) (j_ninB j_bl (j_eqv (e := (eL eB)) (p := v29) (j_fzc (r_compQ (e := eU) (e2' := eB) (i_seqU (j_ixV (e := eU) (j_tupU (j_eqv (e := eU) (p := v_thing) (j_var rfl) rfl) hv22) j_int drE hv23) hv24) hv29 (fun _ => rfl) (fun x25 _ ho => ceM (e2' := eB) ho (fun _ g27 => bindE g27 fun r26 hr26 g27 => j_conv (e := eB) (p := r26) (j_fzd (j_callP (j_cons (j_eqv (e := eU) (p := x25) (j_eqv (e := eU) (p := x25) (j_var rfl) rfl) rfl) (j_cons (j_eqv (e := eI) (p := (v_deep_here + (1 : Int))) (j_addI (j_eqv (e := eI) (p := v_deep_here) (j_var rfl) rfl) j_int) rfl) j_ret)) fun sto => spR_ih hr26 sto)) g27))) rfl) rfl) drE) g31) rfl) (EncOk.clo _) rfl
noncomputable def q__law_is_plan (v_thing : U) (v_deep_here : Int) : Option Bool := qR__law_is_plan 28 v_thing v_deep_here
theorem sp__law_is_plan {v_thing : U} {v_deep_here : Int} {r : Bool} (H : q__law_is_plan v_thing v_deep_here = some r) (sto : List Cell) : m__law_is_plan [eU v_thing, eI v_deep_here] sto = .ok (.d (eB r)) sto := spR__law_is_plan 28 H sto
noncomputable def q__law_right (v_thing : U) : Option Bool :=
  (reprQ (eU v_thing)).bind fun v1 =>
  lq (v1 : Str) fun v_kept2 =>
  (q_is_plan v_thing).bind fun r7 =>
  (reprQ (eB r7)).bind fun v8 =>
  (q__law_is_plan v_thing (1 : Int)).bind fun r9 =>
  (reprQ (eB r9)).bind fun v10 =>
  (if (decide (v8 = v10)) = true then ((reprQ (eU v_thing)).bind fun v12 => some (decide (v12 = v_kept2))) else some false).bind fun v13 =>
  some v13
theorem sp__law_right {v_thing : U} {r : Bool} (H : q__law_right v_thing = some r) (sto : List Cell) : m__law_right [eU v_thing] sto = .ok (.d (eB r)) sto := by
  refine fn_R (F := fun _ : Unit => (⟨[], []⟩ : S)) (R := (fun r : Bool => (.d (eB r), sto))) (r := r) ?_ (.refl sto)
  unfold q__law_right at H
  unfold b__law_right
  show CJ _ _ _ (⟨[some (eU v_thing), none], sto ++ []⟩ : S) _
  obtain ⟨v1, hv1, H⟩ := bindI H
  obtain ⟨v_kept2, ev_kept2, H⟩ := letI' H
  refine w_seq (s1 := (⟨[some (eU v_thing), some (eS v_kept2)], sto ++ []⟩ : S)) (w_set (j_eqv (e := eS) (p := v1) (j_repr (d := eU v_thing) (j_eqv (e := eU) (p := v_thing) (j_eqv (e := eU) (p := v_thing) (j_var rfl) rfl) rfl) drE hv1) ev_kept2) rfl) ?_
  obtain ⟨r7, hr7, H⟩ := bindI H
  obtain ⟨v8, hv8, H⟩ := bindI H
  obtain ⟨r9, hr9, H⟩ := bindI H
  obtain ⟨v10, hv10, H⟩ := bindI H
  obtain ⟨v13, hv13, H⟩ := bindI H
  rw [← Option.some.inj H]
  exact w_retD (d := eB v13) (j_eqv (e := eB) (p := v13) (j_andQ (j_eqS (j_repr (d := eB r7) (j_eqv (e := eB) (p := r7) (j_fzd (j_callP (j_cons (j_eqv (e := eU) (p := v_thing) (j_eqv (e := eU) (p := v_thing) (j_var rfl) rfl) rfl) j_ret) fun sto => sp_is_plan hr7 sto)) rfl) drE hv8) (j_repr (d := eB r9) (j_eqv (e := eB) (p := r9) (j_fzd (j_callP (j_cons (j_eqv (e := eU) (p := v_thing) (j_eqv (e := eU) (p := v_thing) (j_var rfl) rfl) rfl) (j_cons (j_eqv (e := eI) (p := (1 : Int)) j_int rfl) j_ret)) fun sto => sp__law_is_plan hr9 sto)) rfl) drE hv10)) hv13 fun _ g14 => bindE g14 fun v12 hv12 g14 => j_conv (e := eB) (p := (decide (v12 = v_kept2))) (j_eqS (j_repr (d := eU v_thing) (j_eqv (e := eU) (p := v_thing) (j_eqv (e := eU) (p := v_thing) (j_var rfl) rfl) rfl) drE hv12) (j_eqv (e := eS) (p := v_kept2) (j_var rfl) rfl)) g14) rfl) (EncOk.clo _) rfl
noncomputable def qR__law_flat (rr1 : Nat) (v_plan_here : U) : Option (List Int) := match rr1 with
  | 0 => none
  | rr0 + 1 => (tupU v_plan_here).bind fun v1 =>
  (ixQ v1 (0 : Int)).bind fun v2 =>
  (vintU v2).bind fun v3 =>
  lq (v3 : List Int) fun v_found4 =>
  (tupU v_plan_here).bind fun v5 =>
  (ixQ v5 (1 : Int)).bind fun v6 =>
  (seqU v6).bind fun v7 =>
  (forQ (fun (s9 : List Int) (x10 : U) => ((qR__law_flat rr0 x10).bind fun r11 =>
  (catQ s9 r11).bind fun v12 =>
  lq (v12 : List Int) fun v_found13 =>
  some v_found13 : Option (List Int))) v7 v_found4).bind fun j14 =>
  some j14
theorem spR__law_flat (rr1 : Nat) : ∀ {v_plan_here : U} {r : List Int}, qR__law_flat rr1 v_plan_here = some r → ∀ sto : List Cell, mR__law_flat rr1 [eU v_plan_here] sto = .ok (.d ((eL eI) r)) sto := by
  induction rr1 with
  | zero => intro v_plan_here r H sto; cases H
  | succ rr0 spR_ih =>
    intro v_plan_here r H sto
    refine fn_R (F := fun _ : Unit => (⟨[], []⟩ : S)) (R := (fun r : List Int => (.d ((eL eI) r), sto))) (r := r) ?_ (.refl sto)
    rw [qR__law_flat] at H
    unfold b__law_flat
    show CJ _ _ _ (⟨[some (eU v_plan_here), none, none], sto ++ []⟩ : S) _
    obtain ⟨v1, hv1, H⟩ := bindI H
    obtain ⟨v2, hv2, H⟩ := bindI H
    obtain ⟨v3, hv3, H⟩ := bindI H
    obtain ⟨v_found4, ev_found4, H⟩ := letI' H
    refine w_seq (s1 := (⟨[some (eU v_plan_here), some ((eL eI) v_found4), none], sto ++ []⟩ : S)) (w_set (j_eqv (e := (eL eI)) (p := v3) (j_eqv (e := (eL eI)) (p := v3) (j_fzc (r_listV (e := eI) (j_vintU (j_ixV (e := eU) (j_tupU (j_eqv (e := eU) (p := v_plan_here) (j_var rfl) rfl) hv1) j_int drE hv2) hv3) drE) rfl) rfl) ev_found4) rfl) ?_
    obtain ⟨v5, hv5, H⟩ := bindI H
    obtain ⟨v6, hv6, H⟩ := bindI H
    obtain ⟨v7, hv7, H⟩ := bindI H
    obtain ⟨j14, hj14, H⟩ := bindI H
    refine w_seq (s1 := (fun s8 : List Int => (⟨[some (eU v_plan_here), some ((eL eI) s8), none], sto ++ []⟩ : S)) j14) (w_for (F := (fun s8 : List Int => (⟨[some (eU v_plan_here), some ((eL eI) s8), none], sto ++ []⟩ : S))) (A := (fun (s9 : List Int) (x10 : U) => [some (eU v_plan_here), some ((eL eI) s9), some (eU x10)])) (x0 := v_found4) (i_seqU (j_ixV (e := eU) (j_tupU (j_eqv (e := eU) (p := v_plan_here) (j_var rfl) rfl) hv5) j_int drE hv6) hv7) hj14 (fun _ _ => rfl) (fun s9 x10 _ H => ?_)) ?_
    · show CJ _ _ _ (⟨[some (eU v_plan_here), some ((eL eI) s9), some (eU x10)], sto ++ []⟩ : S) _
      obtain ⟨r11, hr11, H⟩ := bindI H
      obtain ⟨v12, hv12, H⟩ := bindI H
      obtain ⟨v_found13, ev_found13, H⟩ := letI' H
      refine w_seq (s1 := (⟨[some (eU v_plan_here), some ((eL eI) v_found13), some (eU x10)], sto ++ []⟩ : S)) (w_set (j_eqv (e := (eL eI)) (p := v12) (j_catL (e := eI) (j_eqv (e := (eL eI)) (p := s9) (j_var rfl) rfl) (j_fzd (j_callP (j_cons (j_eqv (e := eU) (p := x10) (j_eqv (e := eU) (p := x10) (j_var rfl) rfl) rfl) j_ret) fun sto => spR_ih hr11 sto)) drE drE hv12) ev_found13) rfl) ?_
      rw [← Option.some.inj H]
      exact w_wp rfl
    show CJ _ _ _ (⟨[some (eU v_plan_here), some ((eL eI) j14), none], sto ++ []⟩ : S) _
    rw [← Option.some.inj H]
    exact w_retD (d := (eL eI) j14) (j_eqv (e := (eL eI)) (p := j14) (j_eqv (e := (eL eI)) (p := j14) (j_var rfl) rfl) rfl) (EncOk.clo _) rfl
noncomputable def q__law_flat (v_plan_here : U) : Option (List Int) := qR__law_flat 26 v_plan_here
theorem sp__law_flat {v_plan_here : U} {r : List Int} (H : q__law_flat v_plan_here = some r) (sto : List Cell) : m__law_flat [eU v_plan_here] sto = .ok (.d ((eL eI) r)) sto := spR__law_flat 26 H sto
noncomputable def q__law_chain (v_plan_here : U) (v_place : Int) : Option (List Int) :=
  lq (([] : List Int) : List Int) fun v_found1 =>
  lq (([v_plan_here] : List U) : List U) fun v_some2 =>
  (whileQ (fun (s4 : ((List Int) × (List U))) => ((eqQ ((eL eU) s4.2) ((eL eU) ([] : List U))).bind fun v5 => some (!v5))) (fun (s4 : ((List Int) × (List U))) => ((ixQ s4.2 (0 : Int)).bind fun v6 =>
  lq (v6 : U) fun v_here7 =>
  (tupU v_here7).bind fun v8 =>
  (ixQ v8 (0 : Int)).bind fun v9 =>
  (vintU v9).bind fun v10 =>
  (catQ s4.1 v10).bind fun v11 =>
  lq (v11 : List Int) fun v_found12 =>
  (tupU v_here7).bind fun v13 =>
  (ixQ v13 (1 : Int)).bind fun v14 =>
  (seqU v14).bind fun v15 =>
  (compQ (fun x16 : U => (((tupU v_here7).bind fun v19 => ((ixQ v19 (0 : Int)).bind fun v20 => ((vintU v20).bind fun v21 => ((if (!(decide (v_place ∈ v21))) = true then ((q__law_flat x16).bind fun r23 => some (decide (v_place ∈ r23))) else some false).bind fun v24 => some v24))))).bind fun c => if c = true then (some x16 : Option U).bind fun y => some (some y) else some none) v15).bind fun v28 =>
  lq (v28 : List U) fun v_some29 =>
  some (v_found12, v_some29) : Option ((List Int) × (List U)))) 100000 (v_found1, v_some2)).bind fun j30 =>
  (sortedQ eI j30.1).bind fun v32 =>
  some v32
theorem sp__law_chain {v_plan_here : U} {v_place : Int} {r : List Int} (H : q__law_chain v_plan_here v_place = some r) (sto : List Cell) : m__law_chain [eU v_plan_here, eI v_place] sto = .ok (.d ((eV eI) r)) sto := by
  refine fn_R (F := fun _ : Unit => (⟨[], []⟩ : S)) (R := (fun r : List Int => (.d ((eV eI) r), sto))) (r := r) ?_ (.refl sto)
  unfold q__law_chain at H
  unfold b__law_chain
  show CJ _ _ _ (⟨[some (eU v_plan_here), some (eI v_place), none, none, none, none], sto ++ []⟩ : S) _
  obtain ⟨v_found1, ev_found1, H⟩ := letI' H
  refine w_seq (s1 := (⟨[some (eU v_plan_here), some (eI v_place), some ((eL eI) v_found1), none, none, none], sto ++ []⟩ : S)) (w_set (j_eqv (e := (eL eI)) (p := ([] : List Int)) (j_eqv (e := (eL eI)) (p := ([] : List Int)) (j_fzc (r_eqv (C := (cL eI)) (p := ([] : List Int)) (j_lst j_ret (Nat.le_of_ble_eq_true rfl)) rfl) rfl) rfl) ev_found1) rfl) ?_
  obtain ⟨v_some2, ev_some2, H⟩ := letI' H
  refine w_seq (s1 := (⟨[some (eU v_plan_here), some (eI v_place), some ((eL eI) v_found1), some ((eL eU) v_some2), none, none], sto ++ []⟩ : S)) (w_set (j_eqv (e := (eL eU)) (p := ([v_plan_here] : List U)) (j_eqv (e := (eL eU)) (p := ([v_plan_here] : List U)) (j_fzc (r_eqv (C := (cL eU)) (p := ([v_plan_here] : List U)) (j_lst (j_cons (j_eqv (e := eU) (p := v_plan_here) (j_var rfl) rfl) j_ret) (Nat.le_of_ble_eq_true rfl)) rfl) rfl) rfl) ev_some2) rfl) ?_
  obtain ⟨j30, hj30, H⟩ := bindI H
  refine w_seq (s1 := (fun s3 : ((List Int) × (List U)) => (⟨[some (eU v_plan_here), some (eI v_place), some ((eL eI) s3.1), some ((eL eU) s3.2), none, none], sto ++ []⟩ : S)) j30) (w_while (F := (fun s3 : ((List Int) × (List U)) => (⟨[some (eU v_plan_here), some (eI v_place), some ((eL eI) s3.1), some ((eL eU) s3.2), none, none], sto ++ []⟩ : S))) (x0 := (v_found1, v_some2)) 100000 hj30 (fun s4 _ g31 => bindE g31 fun v5 hv5 g31 => t_conv (p := (!v5)) (t_toB (j_neQ (j_eqv (e := (eL eU)) (p := s4.2) (j_var rfl) rfl) (j_eqv (e := (eL eU)) (p := ([] : List U)) (j_fzc (r_eqv (C := (cL eU)) (p := ([] : List U)) (j_lst j_ret (Nat.le_of_ble_eq_true rfl)) rfl) rfl) rfl) drE drE hv5)) g31) (fun s4 _ H => ?_)) ?_
  · show CJ _ _ _ (⟨[some (eU v_plan_here), some (eI v_place), some ((eL eI) s4.1), some ((eL eU) s4.2), none, none], sto ++ []⟩ : S) _
    obtain ⟨v6, hv6, H⟩ := bindI H
    obtain ⟨v_here7, ev_here7, H⟩ := letI' H
    refine w_seq (s1 := (⟨[some (eU v_plan_here), some (eI v_place), some ((eL eI) s4.1), some ((eL eU) s4.2), some (eU v_here7), none], sto ++ []⟩ : S)) (w_set (j_eqv (e := eU) (p := v6) (j_ixL (e := eU) (j_eqv (e := (eL eU)) (p := s4.2) (j_var rfl) rfl) j_int drE hv6) ev_here7) rfl) ?_
    obtain ⟨v8, hv8, H⟩ := bindI H
    obtain ⟨v9, hv9, H⟩ := bindI H
    obtain ⟨v10, hv10, H⟩ := bindI H
    obtain ⟨v11, hv11, H⟩ := bindI H
    obtain ⟨v_found12, ev_found12, H⟩ := letI' H
    refine w_seq (s1 := (⟨[some (eU v_plan_here), some (eI v_place), some ((eL eI) v_found12), some ((eL eU) s4.2), some (eU v_here7), none], sto ++ []⟩ : S)) (w_set (j_eqv (e := (eL eI)) (p := v11) (j_catL (e := eI) (j_eqv (e := (eL eI)) (p := s4.1) (j_var rfl) rfl) (j_eqv (e := (eL eI)) (p := v10) (j_fzc (r_listV (e := eI) (j_vintU (j_ixV (e := eU) (j_tupU (j_eqv (e := eU) (p := v_here7) (j_var rfl) rfl) hv8) j_int drE hv9) hv10) drE) rfl) rfl) drE drE hv11) ev_found12) rfl) ?_
    obtain ⟨v13, hv13, H⟩ := bindI H
    obtain ⟨v14, hv14, H⟩ := bindI H
    obtain ⟨v15, hv15, H⟩ := bindI H
    obtain ⟨v28, hv28, H⟩ := bindI H
    obtain ⟨v_some29, ev_some29, H⟩ := letI' H
    refine w_seq (s1 := (⟨[some (eU v_plan_here), some (eI v_place), some ((eL eI) v_found12), some ((eL eU) v_some29), some (eU v_here7), none], sto ++ []⟩ : S)) (w_set (j_eqv (e := (eL eU)) (p := v28) (j_eqv (e := (eL eU)) (p := v28) (j_fzc (r_compQ (e := eU) (e2' := eU) (i_seqU (j_ixV (e := eU) (j_tupU (j_eqv (e := eU) (p := v_here7) (j_var rfl) rfl) hv13) j_int drE hv14) hv15) hv28 (fun _ => rfl) (fun x16 _ ho => ceE (e2' := eU) ho (fun _ g27 => bindE g27 fun v19 hv19 g27 => bindE g27 fun v20 hv20 g27 => bindE g27 fun v21 hv21 g27 => bindE g27 fun v24 hv24 g27 => t_conv (p := v24) (t_andQ (t_toB (j_ninIV (j_eqv (e := eI) (p := v_place) (j_var rfl) rfl) (j_vintU (j_ixV (e := eU) (j_tupU (j_eqv (e := eU) (p := v_here7) (j_var rfl) rfl) hv19) j_int drE hv20) hv21) drE)) hv24 fun _ g25 => bindE g25 fun r23 hr23 g25 => t_conv (p := (decide (v_place ∈ r23))) (t_toB (j_inI (j_eqv (e := eI) (p := v_place) (j_var rfl) rfl) (j_fzd (j_callP (j_cons (j_eqv (e := eU) (p := x16) (j_eqv (e := eU) (p := x16) (j_var rfl) rfl) rfl) j_ret) fun sto => sp__law_flat hr23 sto)) drE)) g25) g27) (fun _ g26 => j_conv (e := eU) (p := x16) (j_eqv (e := eU) (p := x16) (j_var rfl) rfl) g26))) rfl) rfl) ev_some29) rfl) ?_
    rw [← Option.some.inj H]
    exact w_wp rfl
  show CJ _ _ _ (⟨[some (eU v_plan_here), some (eI v_place), some ((eL eI) j30.1), some ((eL eU) j30.2), none, none], sto ++ []⟩ : S) _
  obtain ⟨v32, hv32, H⟩ := bindI H
  rw [← Option.some.inj H]
  exact w_retD (d := (eV eI) v32) (j_eqv (e := (eV eI)) (p := v32) (j_tupleL (e := eI) (j_eqv (e := (eL eI)) (p := v32) (j_fzc (r_sortedL (e := eI) (j_eqv (e := (eL eI)) (p := j30.1) (j_var rfl) rfl) drE hv32) rfl) rfl) drE) rfl) (EncOk.clo _) rfl
noncomputable def qR_plan_order (rr1 : Nat) (v_plan : U) : Option (List Int) := match rr1 with
  | 0 => none
  | rr0 + 1 => (tupU v_plan).bind fun v1 =>
  (ixQ v1 (0 : Int)).bind fun v2 =>
  (vintU v2).bind fun v3 =>
  lq (v3 : List Int) fun v_found4 =>
  (tupU v_plan).bind fun v5 =>
  (ixQ v5 (1 : Int)).bind fun v6 =>
  (seqU v6).bind fun v7 =>
  (forQ (fun (s9 : List Int) (x10 : U) => ((qR_plan_order rr0 x10).bind fun r11 =>
  (catQ s9 r11).bind fun v12 =>
  lq (v12 : List Int) fun v_found13 =>
  some v_found13 : Option (List Int))) v7 v_found4).bind fun j14 =>
  some j14
theorem spR_plan_order (rr1 : Nat) : ∀ {v_plan : U} {r : List Int}, qR_plan_order rr1 v_plan = some r → ∀ sto : List Cell, mR_plan_order rr1 [eU v_plan] sto = .ok (.d ((eV eI) r)) sto := by
  induction rr1 with
  | zero => intro v_plan r H sto; cases H
  | succ rr0 spR_ih =>
    intro v_plan r H sto
    refine fn_R (F := fun _ : Unit => (⟨[], []⟩ : S)) (R := (fun r : List Int => (.d ((eV eI) r), sto))) (r := r) ?_ (.refl sto)
    rw [qR_plan_order] at H
    unfold b_plan_order
    show CJ _ _ _ (⟨[some (eU v_plan), none, none], sto ++ []⟩ : S) _
    obtain ⟨v1, hv1, H⟩ := bindI H
    obtain ⟨v2, hv2, H⟩ := bindI H
    obtain ⟨v3, hv3, H⟩ := bindI H
    obtain ⟨v_found4, ev_found4, H⟩ := letI' H
    refine w_seq (s1 := (⟨[some (eU v_plan), some ((eV eI) v_found4), none], sto ++ []⟩ : S)) (w_set (j_eqv (e := (eV eI)) (p := v3) (j_vintU (j_ixV (e := eU) (j_tupU (j_eqv (e := eU) (p := v_plan) (j_var rfl) rfl) hv1) j_int drE hv2) hv3) ev_found4) rfl) ?_
    obtain ⟨v5, hv5, H⟩ := bindI H
    obtain ⟨v6, hv6, H⟩ := bindI H
    obtain ⟨v7, hv7, H⟩ := bindI H
    obtain ⟨j14, hj14, H⟩ := bindI H
    refine w_seq (s1 := (fun s8 : List Int => (⟨[some (eU v_plan), some ((eV eI) s8), none], sto ++ []⟩ : S)) j14) (w_for (F := (fun s8 : List Int => (⟨[some (eU v_plan), some ((eV eI) s8), none], sto ++ []⟩ : S))) (A := (fun (s9 : List Int) (x10 : U) => [some (eU v_plan), some ((eV eI) s9), some (eU x10)])) (x0 := v_found4) (i_seqU (j_ixV (e := eU) (j_tupU (j_eqv (e := eU) (p := v_plan) (j_var rfl) rfl) hv5) j_int drE hv6) hv7) hj14 (fun _ _ => rfl) (fun s9 x10 _ H => ?_)) ?_
    · show CJ _ _ _ (⟨[some (eU v_plan), some ((eV eI) s9), some (eU x10)], sto ++ []⟩ : S) _
      obtain ⟨r11, hr11, H⟩ := bindI H
      obtain ⟨v12, hv12, H⟩ := bindI H
      obtain ⟨v_found13, ev_found13, H⟩ := letI' H
      refine w_seq (s1 := (⟨[some (eU v_plan), some ((eV eI) v_found13), some (eU x10)], sto ++ []⟩ : S)) (w_set (j_eqv (e := (eV eI)) (p := v12) (j_catV (e := eI) (j_eqv (e := (eV eI)) (p := s9) (j_var rfl) rfl) (j_fzd (j_callP (j_cons (j_eqv (e := eU) (p := x10) (j_eqv (e := eU) (p := x10) (j_var rfl) rfl) rfl) j_ret) fun sto => spR_ih hr11 sto)) drE drE hv12) ev_found13) rfl) ?_
      rw [← Option.some.inj H]
      exact w_wp rfl
    show CJ _ _ _ (⟨[some (eU v_plan), some ((eV eI) j14), none], sto ++ []⟩ : S) _
    rw [← Option.some.inj H]
    exact w_retD (d := (eV eI) j14) (j_eqv (e := (eV eI)) (p := j14) (j_eqv (e := (eV eI)) (p := j14) (j_var rfl) rfl) rfl) (EncOk.clo _) rfl
noncomputable def q_plan_order (v_plan : U) : Option (List Int) := qR_plan_order 26 v_plan
theorem sp_plan_order {v_plan : U} {r : List Int} (H : q_plan_order v_plan = some r) (sto : List Cell) : m_plan_order [eU v_plan] sto = .ok (.d ((eV eI) r)) sto := spR_plan_order 26 H sto
noncomputable def qR_chain (rr1 : Nat) (v_plan : U) (v_place : Int) : Option (List Int) := match rr1 with
  | 0 => none
  | rr0 + 1 => (tupU v_plan).bind fun v3 =>
  (ixQ v3 (0 : Int)).bind fun v4 =>
  (vintU v4).bind fun v5 =>
  if (decide (v_place ∈ v5)) = true then (tupU v_plan).bind fun v6 =>
  (ixQ v6 (0 : Int)).bind fun v7 =>
  (vintU v7).bind fun v8 =>
  some v8 else
  (tupU v_plan).bind fun v9 =>
  (ixQ v9 (0 : Int)).bind fun v10 =>
  (vintU v10).bind fun v11 =>
  lq (v11 : List Int) fun v_found12 =>
  (tupU v_plan).bind fun v13 =>
  (ixQ v13 (1 : Int)).bind fun v14 =>
  (seqU v14).bind fun v15 =>
  (forQ (fun (s17 : List Int) (x18 : U) => ((q_plan_order x18).bind fun r20 =>
  (if (decide (v_place ∈ r20)) = true then (qR_chain rr0 x18 v_place).bind fun r22 =>
  (catQ s17 r22).bind fun v23 =>
  lq (v23 : List Int) fun v_found24 =>
  some v_found24 else some s17 : Option (List Int)).bind fun j25 =>
  some j25 : Option (List Int))) v15 v_found12).bind fun j26 =>
  (sortedQ eI j26).bind fun v27 =>
  some v27
theorem spR_chain (rr1 : Nat) : ∀ {v_plan : U} {v_place : Int} {r : List Int}, qR_chain rr1 v_plan v_place = some r → ∀ sto : List Cell, mR_chain rr1 [eU v_plan, eI v_place] sto = .ok (.d ((eV eI) r)) sto := by
  induction rr1 with
  | zero => intro v_plan v_place r H sto; cases H
  | succ rr0 spR_ih =>
    intro v_plan v_place r H sto
    refine fn_R (F := fun _ : Unit => (⟨[], []⟩ : S)) (R := (fun r : List Int => (.d ((eV eI) r), sto))) (r := r) ?_ (.refl sto)
    rw [qR_chain] at H
    unfold b_chain
    show CJ _ _ _ (⟨[some (eU v_plan), some (eI v_place), none, none], sto ++ []⟩ : S) _
    obtain ⟨v3, hv3, H⟩ := bindI H
    obtain ⟨v4, hv4, H⟩ := bindI H
    obtain ⟨v5, hv5, H⟩ := bindI H
    rcases iteI H with ⟨hc, H⟩ | ⟨hc, H⟩
    · refine w_seqif_t (t_eq (p := (decide (v_place ∈ v5))) (t_toB (j_inIV (j_eqv (e := eI) (p := v_place) (j_var rfl) rfl) (j_vintU (j_ixV (e := eU) (j_tupU (j_eqv (e := eU) (p := v_plan) (j_var rfl) rfl) hv3) j_int drE hv4) hv5) drE)) hc) ?_
      obtain ⟨v6, hv6, H⟩ := bindI H
      obtain ⟨v7, hv7, H⟩ := bindI H
      obtain ⟨v8, hv8, H⟩ := bindI H
      rw [← Option.some.inj H]
      exact w_seqR (w_retD (d := (eV eI) v8) (j_eqv (e := (eV eI)) (p := v8) (j_vintU (j_ixV (e := eU) (j_tupU (j_eqv (e := eU) (p := v_plan) (j_var rfl) rfl) hv6) j_int drE hv7) hv8) rfl) (EncOk.clo _) rfl)
    · refine w_seqif_f (t_eq (p := (decide (v_place ∈ v5))) (t_toB (j_inIV (j_eqv (e := eI) (p := v_place) (j_var rfl) rfl) (j_vintU (j_ixV (e := eU) (j_tupU (j_eqv (e := eU) (p := v_plan) (j_var rfl) rfl) hv3) j_int drE hv4) hv5) drE)) hc) ?_
      refine w_seqdone ?_
      obtain ⟨v9, hv9, H⟩ := bindI H
      obtain ⟨v10, hv10, H⟩ := bindI H
      obtain ⟨v11, hv11, H⟩ := bindI H
      obtain ⟨v_found12, ev_found12, H⟩ := letI' H
      refine w_seq (s1 := (⟨[some (eU v_plan), some (eI v_place), some ((eV eI) v_found12), none], sto ++ []⟩ : S)) (w_set (j_eqv (e := (eV eI)) (p := v11) (j_vintU (j_ixV (e := eU) (j_tupU (j_eqv (e := eU) (p := v_plan) (j_var rfl) rfl) hv9) j_int drE hv10) hv11) ev_found12) rfl) ?_
      obtain ⟨v13, hv13, H⟩ := bindI H
      obtain ⟨v14, hv14, H⟩ := bindI H
      obtain ⟨v15, hv15, H⟩ := bindI H
      obtain ⟨j26, hj26, H⟩ := bindI H
      refine w_seq (s1 := (fun s16 : List Int => (⟨[some (eU v_plan), some (eI v_place), some ((eV eI) s16), none], sto ++ []⟩ : S)) j26) (w_for (F := (fun s16 : List Int => (⟨[some (eU v_plan), some (eI v_place), some ((eV eI) s16), none], sto ++ []⟩ : S))) (A := (fun (s17 : List Int) (x18 : U) => [some (eU v_plan), some (eI v_place), some ((eV eI) s17), some (eU x18)])) (x0 := v_found12) (i_seqU (j_ixV (e := eU) (j_tupU (j_eqv (e := eU) (p := v_plan) (j_var rfl) rfl) hv13) j_int drE hv14) hv15) hj26 (fun _ _ => rfl) (fun s17 x18 _ H => ?_)) ?_
      · show CJ _ _ _ (⟨[some (eU v_plan), some (eI v_place), some ((eV eI) s17), some (eU x18)], sto ++ []⟩ : S) _
        obtain ⟨r20, hr20, H⟩ := bindI H
        obtain ⟨j25, hj25, H⟩ := bindI H
        refine w_join (F' := (fun s21 : List Int => (⟨[some (eU v_plan), some (eI v_place), some ((eV eI) s21), some (eU x18)], sto ++ []⟩ : S))) (x := j25) ?_ ?_
        · have H := hj25; clear hj25
          rcases iteI H with ⟨hc, H⟩ | ⟨hc, H⟩
          · refine w_if_t (t_eq (p := (decide (v_place ∈ r20))) (t_toB (j_inIV (j_eqv (e := eI) (p := v_place) (j_var rfl) rfl) (j_fzd (j_callP (j_cons (j_eqv (e := eU) (p := x18) (j_eqv (e := eU) (p := x18) (j_var rfl) rfl) rfl) j_ret) fun sto => sp_plan_order hr20 sto)) drE)) hc) ?_
            obtain ⟨r22, hr22, H⟩ := bindI H
            obtain ⟨v23, hv23, H⟩ := bindI H
            obtain ⟨v_found24, ev_found24, H⟩ := letI' H
            rw [← Option.some.inj H]
            exact w_last (s1 := (⟨[some (eU v_plan), some (eI v_place), some ((eV eI) v_found24), some (eU x18)], sto ++ []⟩ : S)) (w_set (j_eqv (e := (eV eI)) (p := v23) (j_catV (e := eI) (j_eqv (e := (eV eI)) (p := s17) (j_var rfl) rfl) (j_fzd (j_callP (j_cons (j_eqv (e := eU) (p := x18) (j_eqv (e := eU) (p := x18) (j_var rfl) rfl) rfl) (j_cons (j_eqv (e := eI) (p := v_place) (j_eqv (e := eI) (p := v_place) (j_var rfl) rfl) rfl) j_ret)) fun sto => spR_ih hr22 sto)) drE drE hv23) ev_found24) rfl) rfl
          · refine w_if_f (t_eq (p := (decide (v_place ∈ r20))) (t_toB (j_inIV (j_eqv (e := eI) (p := v_place) (j_var rfl) rfl) (j_fzd (j_callP (j_cons (j_eqv (e := eU) (p := x18) (j_eqv (e := eU) (p := x18) (j_var rfl) rfl) rfl) j_ret) fun sto => sp_plan_order hr20 sto)) drE)) hc) ?_
            rw [← Option.some.inj H]
            exact w_done rfl
        show CJ _ _ _ (⟨[some (eU v_plan), some (eI v_place), some ((eV eI) j25), some (eU x18)], sto ++ []⟩ : S) _
        rw [← Option.some.inj H]
        exact w_wp rfl
      show CJ _ _ _ (⟨[some (eU v_plan), some (eI v_place), some ((eV eI) j26), none], sto ++ []⟩ : S) _
      obtain ⟨v27, hv27, H⟩ := bindI H
      rw [← Option.some.inj H]
      exact w_retD (d := (eV eI) v27) (j_eqv (e := (eV eI)) (p := v27) (j_tupleL (e := eI) (j_eqv (e := (eL eI)) (p := v27) (j_fzc (r_sortedT (e := eI) (j_eqv (e := (eV eI)) (p := j26) (j_var rfl) rfl) drE hv27) rfl) rfl) drE) rfl) (EncOk.clo _) rfl
noncomputable def q_chain (v_plan : U) (v_place : Int) : Option (List Int) := qR_chain 26 v_plan v_place
theorem sp_chain {v_plan : U} {v_place : Int} {r : List Int} (H : q_chain v_plan v_place = some r) (sto : List Cell) : m_chain [eU v_plan, eI v_place] sto = .ok (.d ((eV eI) r)) sto := spR_chain 26 H sto
noncomputable def qR_deepest (rr1 : Nat) (v_plan : U) : Option Int := match rr1 with
  | 0 => none
  | rr0 + 1 => (tupU v_plan).bind fun v1 =>
  (ixQ v1 (0 : Int)).bind fun v2 =>
  (seqU v2).bind fun v3 =>
  (tupU v_plan).bind fun v4 =>
  (ixQ v4 (1 : Int)).bind fun v5 =>
  (seqU v5).bind fun v6 =>
  (compQ (fun x7 : U => (((qR_deepest rr0 x7).bind fun r8 => some r8) : Option Int).bind fun y => some (some y)) v6).bind fun v11 =>
  (maxDQ 0 v11).bind fun v12 =>
  some (((v3).length : Int) + v12)
theorem spR_deepest (rr1 : Nat) : ∀ {v_plan : U} {r : Int}, qR_deepest rr1 v_plan = some r → ∀ sto : List Cell, mR_deepest rr1 [eU v_plan] sto = .ok (.d (eI r)) sto := by
  induction rr1 with
  | zero => intro v_plan r H sto; cases H
  | succ rr0 spR_ih =>
    intro v_plan r H sto
    refine fn_R (F := fun _ : Unit => (⟨[], []⟩ : S)) (R := (fun r : Int => (.d (eI r), sto))) (r := r) ?_ (.refl sto)
    rw [qR_deepest] at H
    unfold b_deepest
    show CJ _ _ _ (⟨[some (eU v_plan), none], sto ++ []⟩ : S) _
    obtain ⟨v1, hv1, H⟩ := bindI H
    obtain ⟨v2, hv2, H⟩ := bindI H
    obtain ⟨v3, hv3, H⟩ := bindI H
    obtain ⟨v4, hv4, H⟩ := bindI H
    obtain ⟨v5, hv5, H⟩ := bindI H
    obtain ⟨v6, hv6, H⟩ := bindI H
    obtain ⟨v11, hv11, H⟩ := bindI H
    obtain ⟨v12, hv12, H⟩ := bindI H
    rw [← Option.some.inj H]
    exact w_retD (d := eI (((v3).length : Int) + v12)) (j_eqv (e := eI) (p := (((v3).length : Int) + v12)) (j_addI (j_lenU (j_ixV (e := eU) (j_tupU (j_eqv (e := eU) (p := v_plan) (j_var rfl) rfl) hv1) j_int drE hv2) hv3) (j_maxDL (j_eqv (e := (eL eI)) (p := v11) (j_fzc (r_compQ (e := eU) (e2' := eI) (i_seqU (j_ixV (e := eU) (j_tupU (j_eqv (e := eU) (p := v_plan) (j_var rfl) rfl) hv4) j_int drE hv5) hv6) hv11 (fun _ => rfl) (fun x7 _ ho => ceM (e2' := eI) ho (fun _ g9 => bindE g9 fun r8 hr8 g9 => j_conv (e := eI) (p := r8) (j_fzd (j_callP (j_cons (j_eqv (e := eU) (p := x7) (j_eqv (e := eU) (p := x7) (j_var rfl) rfl) rfl) j_ret) fun sto => spR_ih hr8 sto)) g9))) rfl) rfl) drE hv12)) rfl) (EncOk.clo _) rfl
noncomputable def q_deepest (v_plan : U) : Option Int := qR_deepest 26 v_plan
theorem sp_deepest {v_plan : U} {r : Int} (H : q_deepest v_plan = some r) (sto : List Cell) : m_deepest [eU v_plan] sto = .ok (.d (eI r)) sto := spR_deepest 26 H sto
noncomputable def q__law_plan_right (v_plan_here : U) : Option Bool :=
  (reprQ (eU v_plan_here)).bind fun v1 =>
  lq (v1 : Str) fun v_kept2 =>
  (q__law_flat v_plan_here).bind fun r3 =>
  lq (r3 : List Int) fun v_order_here4 =>
  (q_plan_order v_plan_here).bind fun r8 =>
  (reprQ ((eV eI) r8)).bind fun v9 =>
  (reprQ ((eV eI) v_order_here4)).bind fun v10 =>
  if (!(decide (v9 = v10))) = true then some false else
  (compQ (fun x11 : Int => (((q__law_chain v_plan_here x11).bind fun r12 => some r12) : Option (List Int)).bind fun y => some (some y)) v_order_here4).bind fun v15 =>
  lq (v15 : List (List Int)) fun v_chains16 =>
  (compQ (fun x22 : Int => (((q_chain v_plan_here x22).bind fun r23 => some r23) : Option (List Int)).bind fun y => some (some y)) v_order_here4).bind fun v26 =>
  (if (!(decide (v26 = v_chains16))) = true then some true else ((ixQ v_order_here4 (0 : Int)).bind fun v27 => ((q_chain v_plan_here v27).bind fun r28 => some false))).bind fun v29 =>
  if v29 = true then some false else
  (q_deepest v_plan_here).bind fun r36 =>
  (reprQ (eI r36)).bind fun v37 =>
  (maxQ eI (List.map (fun x38 : List Int => ((x38).length : Int)) v_chains16)).bind fun v39 =>
  (reprQ (eI v39)).bind fun v40 =>
  (if (decide (v37 = v40)) = true then ((reprQ (eU v_plan_here)).bind fun v42 => some (decide (v42 = v_kept2))) else some false).bind fun v43 =>
  some v43
theorem sp__law_plan_right {v_plan_here : U} {r : Bool} (H : q__law_plan_right v_plan_here = some r) (sto : List Cell) : m__law_plan_right [eU v_plan_here] sto = .ok (.d (eB r)) sto := by
  refine fn_R (F := fun _ : Unit => (⟨[], []⟩ : S)) (R := (fun r : Bool => (.d (eB r), sto))) (r := r) ?_ (.refl sto)
  unfold q__law_plan_right at H
  unfold b__law_plan_right
  show CJ _ _ _ (⟨[some (eU v_plan_here), none, none, none, none, none], sto ++ []⟩ : S) _
  obtain ⟨v1, hv1, H⟩ := bindI H
  obtain ⟨v_kept2, ev_kept2, H⟩ := letI' H
  refine w_seq (s1 := (⟨[some (eU v_plan_here), some (eS v_kept2), none, none, none, none], sto ++ []⟩ : S)) (w_set (j_eqv (e := eS) (p := v1) (j_repr (d := eU v_plan_here) (j_eqv (e := eU) (p := v_plan_here) (j_eqv (e := eU) (p := v_plan_here) (j_var rfl) rfl) rfl) drE hv1) ev_kept2) rfl) ?_
  obtain ⟨r3, hr3, H⟩ := bindI H
  obtain ⟨v_order_here4, ev_order_here4, H⟩ := letI' H
  refine w_seq (s1 := (⟨[some (eU v_plan_here), some (eS v_kept2), some ((eL eI) v_order_here4), none, none, none], sto ++ []⟩ : S)) (w_set (j_eqv (e := (eL eI)) (p := r3) (j_fzd (j_callP (j_cons (j_eqv (e := eU) (p := v_plan_here) (j_eqv (e := eU) (p := v_plan_here) (j_var rfl) rfl) rfl) j_ret) fun sto => sp__law_flat hr3 sto)) ev_order_here4) rfl) ?_
  obtain ⟨r8, hr8, H⟩ := bindI H
  obtain ⟨v9, hv9, H⟩ := bindI H
  obtain ⟨v10, hv10, H⟩ := bindI H
  rcases iteI H with ⟨hc, H⟩ | ⟨hc, H⟩
  · refine w_seqif_t (t_eq (p := (!(decide (v9 = v10)))) (t_toB (j_neS (j_repr (d := (eV eI) r8) (j_eqv (e := (eV eI)) (p := r8) (j_fzd (j_callP (j_cons (j_eqv (e := eU) (p := v_plan_here) (j_eqv (e := eU) (p := v_plan_here) (j_var rfl) rfl) rfl) j_ret) fun sto => sp_plan_order hr8 sto)) rfl) drE hv9) (j_repr (d := (eV eI) v_order_here4) (j_eqv (e := (eV eI)) (p := v_order_here4) (j_tupleL (e := eI) (j_eqv (e := (eL eI)) (p := v_order_here4) (j_var rfl) rfl) drE) rfl) drE hv10))) hc) ?_
    rw [← Option.some.inj H]
    exact w_seqR (w_retD (d := eB false) (j_eqv (e := eB) (p := false) j_bl rfl) (EncOk.clo _) rfl)
  · refine w_seqif_f (t_eq (p := (!(decide (v9 = v10)))) (t_toB (j_neS (j_repr (d := (eV eI) r8) (j_eqv (e := (eV eI)) (p := r8) (j_fzd (j_callP (j_cons (j_eqv (e := eU) (p := v_plan_here) (j_eqv (e := eU) (p := v_plan_here) (j_var rfl) rfl) rfl) j_ret) fun sto => sp_plan_order hr8 sto)) rfl) drE hv9) (j_repr (d := (eV eI) v_order_here4) (j_eqv (e := (eV eI)) (p := v_order_here4) (j_tupleL (e := eI) (j_eqv (e := (eL eI)) (p := v_order_here4) (j_var rfl) rfl) drE) rfl) drE hv10))) hc) ?_
    refine w_seqdone ?_
    obtain ⟨v15, hv15, H⟩ := bindI H
    obtain ⟨v_chains16, ev_chains16, H⟩ := letI' H
    refine w_seq (s1 := (⟨[some (eU v_plan_here), some (eS v_kept2), some ((eL eI) v_order_here4), some ((eL (eV eI)) v_chains16), none, none], sto ++ []⟩ : S)) (w_set (j_eqv (e := (eL (eV eI))) (p := v15) (j_eqv (e := (eL (eV eI))) (p := v15) (j_fzc (r_compQ (e := eI) (e2' := (eV eI)) (i_seqL (e := eI) (j_eqv (e := (eL eI)) (p := v_order_here4) (j_var rfl) rfl)) hv15 (fun _ => rfl) (fun x11 _ ho => ceM (e2' := (eV eI)) ho (fun _ g13 => bindE g13 fun r12 hr12 g13 => j_conv (e := (eV eI)) (p := r12) (j_fzd (j_callP (j_cons (j_eqv (e := eU) (p := v_plan_here) (j_eqv (e := eU) (p := v_plan_here) (j_var rfl) rfl) rfl) (j_cons (j_eqv (e := eI) (p := x11) (j_eqv (e := eI) (p := x11) (j_var rfl) rfl) rfl) j_ret)) fun sto => sp__law_chain hr12 sto)) g13))) rfl) rfl) ev_chains16) rfl) ?_
    obtain ⟨v26, hv26, H⟩ := bindI H
    obtain ⟨v29, hv29, H⟩ := bindI H
    rcases iteI H with ⟨hc, H⟩ | ⟨hc, H⟩
    · refine w_seqif_t (t_eq (p := v29) (t_orQ (t_toB (j_ne (e := (eL (eV eI))) (a := v26) (b := v_chains16) (by decide) (j_eqv (e := (eL (eV eI))) (p := v26) (j_fzc (r_compQ (e := eI) (e2' := (eV eI)) (i_seqL (e := eI) (j_eqv (e := (eL eI)) (p := v_order_here4) (j_var rfl) rfl)) hv26 (fun _ => rfl) (fun x22 _ ho => ceM (e2' := (eV eI)) ho (fun _ g24 => bindE g24 fun r23 hr23 g24 => j_conv (e := (eV eI)) (p := r23) (j_fzd (j_callP (j_cons (j_eqv (e := eU) (p := v_plan_here) (j_eqv (e := eU) (p := v_plan_here) (j_var rfl) rfl) rfl) (j_cons (j_eqv (e := eI) (p := x22) (j_eqv (e := eI) (p := x22) (j_var rfl) rfl) rfl) j_ret)) fun sto => sp_chain hr23 sto)) g24))) rfl) rfl) (j_eqv (e := (eL (eV eI))) (p := v_chains16) (j_var rfl) rfl) drE drE)) hv29 fun _ g30 => bindE g30 fun v27 hv27 g30 => bindE g30 fun r28 hr28 g30 => t_conv (p := false) (t_toB (j_isi (T := "list") (t := "tuple") (k := false) (j_fzd (j_callP (j_cons (j_eqv (e := eU) (p := v_plan_here) (j_eqv (e := eU) (p := v_plan_here) (j_var rfl) rfl) rfl) (j_cons (j_eqv (e := eI) (p := v27) (j_ixL (e := eI) (j_eqv (e := (eL eI)) (p := v_order_here4) (j_var rfl) rfl) j_int drE hv27) rfl) j_ret)) fun sto => sp_chain hr28 sto)) rfl rfl)) g30) hc) ?_
      rw [← Option.some.inj H]
      exact w_seqR (w_retD (d := eB false) (j_eqv (e := eB) (p := false) j_bl rfl) (EncOk.clo _) rfl)
    · refine w_seqif_f (t_eq (p := v29) (t_orQ (t_toB (j_ne (e := (eL (eV eI))) (a := v26) (b := v_chains16) (by decide) (j_eqv (e := (eL (eV eI))) (p := v26) (j_fzc (r_compQ (e := eI) (e2' := (eV eI)) (i_seqL (e := eI) (j_eqv (e := (eL eI)) (p := v_order_here4) (j_var rfl) rfl)) hv26 (fun _ => rfl) (fun x22 _ ho => ceM (e2' := (eV eI)) ho (fun _ g24 => bindE g24 fun r23 hr23 g24 => j_conv (e := (eV eI)) (p := r23) (j_fzd (j_callP (j_cons (j_eqv (e := eU) (p := v_plan_here) (j_eqv (e := eU) (p := v_plan_here) (j_var rfl) rfl) rfl) (j_cons (j_eqv (e := eI) (p := x22) (j_eqv (e := eI) (p := x22) (j_var rfl) rfl) rfl) j_ret)) fun sto => sp_chain hr23 sto)) g24))) rfl) rfl) (j_eqv (e := (eL (eV eI))) (p := v_chains16) (j_var rfl) rfl) drE drE)) hv29 fun _ g30 => bindE g30 fun v27 hv27 g30 => bindE g30 fun r28 hr28 g30 => t_conv (p := false) (t_toB (j_isi (T := "list") (t := "tuple") (k := false) (j_fzd (j_callP (j_cons (j_eqv (e := eU) (p := v_plan_here) (j_eqv (e := eU) (p := v_plan_here) (j_var rfl) rfl) rfl) (j_cons (j_eqv (e := eI) (p := v27) (j_ixL (e := eI) (j_eqv (e := (eL eI)) (p := v_order_here4) (j_var rfl) rfl) j_int drE hv27) rfl) j_ret)) fun sto => sp_chain hr28 sto)) rfl rfl)) g30) hc) ?_
      refine w_seqdone ?_
      obtain ⟨r36, hr36, H⟩ := bindI H
      obtain ⟨v37, hv37, H⟩ := bindI H
      obtain ⟨v39, hv39, H⟩ := bindI H
      obtain ⟨v40, hv40, H⟩ := bindI H
      obtain ⟨v43, hv43, H⟩ := bindI H
      rw [← Option.some.inj H]
      exact w_retD (d := eB v43) (j_eqv (e := eB) (p := v43) (j_andQ (j_eqS (j_repr (d := eI r36) (j_eqv (e := eI) (p := r36) (j_fzd (j_callP (j_cons (j_eqv (e := eU) (p := v_plan_here) (j_eqv (e := eU) (p := v_plan_here) (j_var rfl) rfl) rfl) j_ret) fun sto => sp_deepest hr36 sto)) rfl) drE hv37) (j_repr (d := eI v39) (j_eqv (e := eI) (p := v39) (j_maxL (e := eI) (j_eqv (e := (eL eI)) (p := (List.map (fun x38 : List Int => ((x38).length : Int)) v_chains16)) (j_fzc (r_compM (e := (eV eI)) (e2' := eI) (g := fun x38 : List Int => ((x38).length : Int)) (i_seqL (e := (eV eI)) (j_eqv (e := (eL (eV eI))) (p := v_chains16) (j_var rfl) rfl)) (fun _ => rfl) (fun x38 => (j_lenV (e := eI) (j_eqv (e := (eV eI)) (p := x38) (j_var rfl) rfl) drE))) rfl) rfl) drE hv39) rfl) drE hv40)) hv43 fun _ g44 => bindE g44 fun v42 hv42 g44 => j_conv (e := eB) (p := (decide (v42 = v_kept2))) (j_eqS (j_repr (d := eU v_plan_here) (j_eqv (e := eU) (p := v_plan_here) (j_eqv (e := eU) (p := v_plan_here) (j_var rfl) rfl) rfl) drE hv42) (j_eqv (e := eS) (p := v_kept2) (j_var rfl) rfl)) g44) rfl) (EncOk.clo _) rfl
noncomputable def qR__law_bent (rr1 : Nat) (T : TT) (v_thing : U) : Option (U × TT) := match rr1 with
  | 0 => none
  | rr0 + 1 => (if (isaU "tuple" v_thing) = true then ((eqQ (eU v_thing) (eU (U.tup []))).bind fun v1 => ((if (!v1) = true then ((q__law_draw T (4 : Int)).bind fun r3 => some ((decide ((0 : Int) < r3.1)), r3.2)) else some (false, T)).bind fun v4 => some (v4.1, v4.2))) else some (false, T)).bind fun v6 =>
  if v6.1 = true then (seqU v_thing).bind fun v8 =>
  (q__law_draw v6.2 ((v8).length : Int)).bind fun r9 =>
  lq (r9.1 : Int) fun v_at10 =>
  (tupU v_thing).bind fun v16 =>
  (tupU v_thing).bind fun v17 =>
  (ixQ v17 v_at10).bind fun v18 =>
  (qR__law_bent rr0 r9.2 v18).bind fun r19 =>
  (catQ (cutL v16 none (some v_at10)) ([r19.1] : List U)).bind fun v20 =>
  (tupU v_thing).bind fun v21 =>
  (catQ v20 (cutL v21 (some (v_at10 + (1 : Int))) none)).bind fun v22 =>
  some (((uV id) v22), r19.2) else
  if (isaU "tuple" v_thing) = true then (seqU v_thing).bind fun v23 =>
  (q__law_draw v6.2 (((v23).length : Int) + (1 : Int))).bind fun r24 =>
  lq (r24.1 : Int) fun v_at25 =>
  (tupU v_thing).bind fun v26 =>
  (tupU v_thing).bind fun v28 =>
  (tupU v_thing).bind fun v29 =>
  (catQ (cutL v28 none (some v_at25)) (cutL v29 (some (v_at25 + (1 : Int))) none)).bind fun v30 =>
  (tupU v_thing).bind fun v32 =>
  (tupU v_thing).bind fun v33 =>
  (catQ v32 (cutL v33 none (some (1 : Int)))).bind fun v34 =>
  (tupU v_thing).bind fun v35 =>
  (tupU v_thing).bind fun v36 =>
  (catQ v36 ([(uI (0 : Int))] : List U)).bind fun v37 =>
  lq (([((uL id) v26), ((uV id) v30), ((uV id) v34), ((uV id) ((v35).reverse)), ((uV id) v37)] : List U) : List U) fun v_some38 =>
  (q__law_draw r24.2 (5 : Int)).bind fun r39 =>
  (ixQ v_some38 r39.1).bind fun v40 =>
  some (v40, r39.2) else
  if ((isaU "int" v_thing) && (!(isaU "bool" v_thing))) = true then (intU v_thing).bind fun v41 =>
  (intU v_thing).bind fun v42 =>
  (eqQ (eU v_thing) (eU (uI (1 : Int)))).bind fun v43 =>
  (intU v_thing).bind fun v44 =>
  (strQ v44).bind fun v45 =>
  lq (([(uI (v41 + (1 : Int))), (uI (v42 - (1 : Int))), (uB v43), (uZ ()), (uI (0 : Int)), (uI (24 : Int)), (uI (25 : Int)), (uI (99 : Int)), (uI (100 : Int)), (uS v45)] : List U) : List U) fun v_some46 =>
  (q__law_draw v6.2 (10 : Int)).bind fun r47 =>
  (ixQ v_some46 r47.1).bind fun v48 =>
  some (v48, r47.2) else
  (q__law_draw v6.2 (9 : Int)).bind fun r49 =>
  (ixQ ([(uZ ()), (uB true), (uB false), (uI (0 : Int)), (uI (1 : Int)), (uS ("a" : Str)), (U.tup []), ((uL id) ([] : List U)), (U.tup [(uI (0 : Int))])] : List U) r49.1).bind fun v50 =>
  some (v50, r49.2)
theorem spR__law_bent (rr1 : Nat) : ∀ {T : TT} {v_thing : U} {r : U × TT}, qR__law_bent rr1 T v_thing = some r → ∀ rest : List Cell, mR__law_bent rr1 [.loc 0, eU v_thing] (T.cell :: rest) = .ok (.d (eU r.1)) (r.2.cell :: rest) := by
  induction rr1 with
  | zero => intro T v_thing r H rest; cases H
  | succ rr0 spR_ih =>
    intro T v_thing r H rest
    refine fn_R (F := fun _ : Unit => (⟨[], []⟩ : S)) (R := (fun r : U × TT => (.d (eU r.1), r.2.cell :: rest))) (r := r) ?_ kept_T
    rw [qR__law_bent] at H
    unfold b__law_bent
    show CJ _ _ _ (⟨[some (.loc 0), some (eU v_thing), none, none], (T.cell :: rest) ++ []⟩ : S) _
    obtain ⟨v6, hv6, H⟩ := bindI H
    rcases iteI H with ⟨hc, H⟩ | ⟨hc, H⟩
    · refine w_seqif_t (t_eq (p := v6.1) (t_andT (G := (fun T : TT => ⟨[some (.loc 0), some (eU v_thing), none, none], (T.cell :: rest) ++ []⟩)) (T := T) (t_toB (j_isaU (T := "tuple") (j_eqv (e := eU) (p := v_thing) (j_var rfl) rfl) (by decide +kernel))) hv6 fun _ g7 => bindE g7 fun v1 hv1 g7 => bindE g7 fun v4 hv4 g7 => t_convT (G := (fun T : TT => ⟨[some (.loc 0), some (eU v_thing), none, none], (T.cell :: rest) ++ []⟩)) (p := v4.1) (T := v4.2) (t_andT (G := (fun T : TT => ⟨[some (.loc 0), some (eU v_thing), none, none], (T.cell :: rest) ++ []⟩)) (T := T) (t_toB (j_neQ (j_eqv (e := eU) (p := v_thing) (j_var rfl) rfl) (j_eqv (e := eU) (p := (U.tup [])) (j_tup j_ret (Nat.le_of_ble_eq_true rfl)) rfl) drE drE hv1)) hv4 fun _ g5 => bindE g5 fun r3 hr3 g5 => t_convT (G := (fun T : TT => ⟨[some (.loc 0), some (eU v_thing), none, none], (T.cell :: rest) ++ []⟩)) (p := (decide ((0 : Int) < r3.1))) (T := r3.2) (t_toB (j_gtI (j_fzd (j_callT (T := T) (T' := r3.2) (rest := rest) (j_cons (j_var rfl) (j_cons (j_eqv (e := eI) (p := (4 : Int)) j_int rfl) j_ret)) fun rest => sp__law_draw hr3 rest)) j_int)) g5) g7) hc) ?_
      refine w_assoc ?_
      obtain ⟨v8, hv8, H⟩ := bindI H
      obtain ⟨r9, hr9, H⟩ := bindI H
      obtain ⟨v_at10, ev_at10, H⟩ := letI' H
      refine w_seq (s1 := (⟨[some (.loc 0), some (eU v_thing), some (eI v_at10), none], (r9.2.cell :: rest) ++ []⟩ : S)) (w_set (j_eqv (e := eI) (p := r9.1) (j_fzd (j_callT (T := v6.2) (T' := r9.2) (rest := rest) (j_cons (j_var rfl) (j_cons (j_eqv (e := eI) (p := ((v8).length : Int)) (j_lenU (j_eqv (e := eU) (p := v_thing) (j_var rfl) rfl) hv8) rfl) j_ret)) fun rest => sp__law_draw hr9 rest)) ev_at10) rfl) ?_
      obtain ⟨v16, hv16, H⟩ := bindI H
      obtain ⟨v17, hv17, H⟩ := bindI H
      obtain ⟨v18, hv18, H⟩ := bindI H
      obtain ⟨r19, hr19, H⟩ := bindI H
      obtain ⟨v20, hv20, H⟩ := bindI H
      obtain ⟨v21, hv21, H⟩ := bindI H
      obtain ⟨v22, hv22, H⟩ := bindI H
      rw [← Option.some.inj H]
      exact w_seqR (w_retD (d := eU ((uV id) v22)) (j_eqv (e := eU) (p := ((uV id) v22)) (j_toU (j_catV (e := eU) (j_catV (e := eU) (j_fzd (r_slV (e := eU) (j_tupU (j_eqv (e := eU) (p := v_thing) (j_var rfl) rfl) hv16) j_ret (j_pI (j_eqv (e := eI) (p := v_at10) (j_var rfl) rfl)) drE)) (j_eqv (e := (eV eU)) (p := ([r19.1] : List U)) (j_tup (j_cons (j_fzd (j_callT (T := r9.2) (T' := r19.2) (rest := rest) (j_cons (j_var rfl) (j_cons (j_eqv (e := eU) (p := v18) (j_ixV (e := eU) (j_tupU (j_eqv (e := eU) (p := v_thing) (j_var rfl) rfl) hv17) (j_eqv (e := eI) (p := v_at10) (j_var rfl) rfl) drE hv18) rfl) j_ret)) fun rest => spR_ih hr19 rest)) j_ret) (Nat.le_of_ble_eq_true rfl)) rfl) drE drE hv20) (j_fzd (r_slV (e := eU) (j_tupU (j_eqv (e := eU) (p := v_thing) (j_var rfl) rfl) hv21) (j_pI (j_addI (j_eqv (e := eI) (p := v_at10) (j_var rfl) rfl) j_int)) j_ret drE)) drE drE hv22) ((ok_V ok_id) v22)) rfl) (EncOk.clo _) rfl)
    · refine w_seqif_f (t_eq (p := v6.1) (t_andT (G := (fun T : TT => ⟨[some (.loc 0), some (eU v_thing), none, none], (T.cell :: rest) ++ []⟩)) (T := T) (t_toB (j_isaU (T := "tuple") (j_eqv (e := eU) (p := v_thing) (j_var rfl) rfl) (by decide +kernel))) hv6 fun _ g7 => bindE g7 fun v1 hv1 g7 => bindE g7 fun v4 hv4 g7 => t_convT (G := (fun T : TT => ⟨[some (.loc 0), some (eU v_thing), none, none], (T.cell :: rest) ++ []⟩)) (p := v4.1) (T := v4.2) (t_andT (G := (fun T : TT => ⟨[some (.loc 0), some (eU v_thing), none, none], (T.cell :: rest) ++ []⟩)) (T := T) (t_toB (j_neQ (j_eqv (e := eU) (p := v_thing) (j_var rfl) rfl) (j_eqv (e := eU) (p := (U.tup [])) (j_tup j_ret (Nat.le_of_ble_eq_true rfl)) rfl) drE drE hv1)) hv4 fun _ g5 => bindE g5 fun r3 hr3 g5 => t_convT (G := (fun T : TT => ⟨[some (.loc 0), some (eU v_thing), none, none], (T.cell :: rest) ++ []⟩)) (p := (decide ((0 : Int) < r3.1))) (T := r3.2) (t_toB (j_gtI (j_fzd (j_callT (T := T) (T' := r3.2) (rest := rest) (j_cons (j_var rfl) (j_cons (j_eqv (e := eI) (p := (4 : Int)) j_int rfl) j_ret)) fun rest => sp__law_draw hr3 rest)) j_int)) g5) g7) hc) ?_
      refine w_seqdone ?_
      rcases iteI H with ⟨hc, H⟩ | ⟨hc, H⟩
      · refine w_seqif_t (t_eq (p := (isaU "tuple" v_thing)) (t_toB (j_isaU (T := "tuple") (j_eqv (e := eU) (p := v_thing) (j_var rfl) rfl) (by decide +kernel))) hc) ?_
        refine w_assoc ?_
        obtain ⟨v23, hv23, H⟩ := bindI H
        obtain ⟨r24, hr24, H⟩ := bindI H
        obtain ⟨v_at25, ev_at25, H⟩ := letI' H
        refine w_seq (s1 := (⟨[some (.loc 0), some (eU v_thing), some (eI v_at25), none], (r24.2.cell :: rest) ++ []⟩ : S)) (w_set (j_eqv (e := eI) (p := r24.1) (j_fzd (j_callT (T := v6.2) (T' := r24.2) (rest := rest) (j_cons (j_var rfl) (j_cons (j_eqv (e := eI) (p := (((v23).length : Int) + (1 : Int))) (j_addI (j_lenU (j_eqv (e := eU) (p := v_thing) (j_var rfl) rfl) hv23) j_int) rfl) j_ret)) fun rest => sp__law_draw hr24 rest)) ev_at25) rfl) ?_
        refine w_assoc ?_
        obtain ⟨v26, hv26, H⟩ := bindI H
        obtain ⟨v28, hv28, H⟩ := bindI H
        obtain ⟨v29, hv29, H⟩ := bindI H
        obtain ⟨v30, hv30, H⟩ := bindI H
        obtain ⟨v32, hv32, H⟩ := bindI H
        obtain ⟨v33, hv33, H⟩ := bindI H
        obtain ⟨v34, hv34, H⟩ := bindI H
        obtain ⟨v35, hv35, H⟩ := bindI H
        obtain ⟨v36, hv36, H⟩ := bindI H
        obtain ⟨v37, hv37, H⟩ := bindI H
        obtain ⟨v_some38, ev_some38, H⟩ := letI' H
        refine w_seq (s1 := (⟨[some (.loc 0), some (eU v_thing), some (eI v_at25), some ((eL eU) v_some38)], (r24.2.cell :: rest) ++ []⟩ : S)) (w_set (j_eqv (e := (eL eU)) (p := ([((uL id) v26), ((uV id) v30), ((uV id) v34), ((uV id) ((v35).reverse)), ((uV id) v37)] : List U)) (j_eqv (e := (eL eU)) (p := ([((uL id) v26), ((uV id) v30), ((uV id) v34), ((uV id) ((v35).reverse)), ((uV id) v37)] : List U)) (j_fzc (r_eqv (C := (cL eU)) (p := ([((uL id) v26), ((uV id) v30), ((uV id) v34), ((uV id) ((v35).reverse)), ((uV id) v37)] : List U)) (j_lst (j_cons (j_toU (j_eqv (e := (eL eU)) (p := v26) (j_fzc (r_listV (e := eU) (j_tupU (j_eqv (e := eU) (p := v_thing) (j_var rfl) rfl) hv26) drE) rfl) rfl) ((ok_L ok_id) v26)) (j_cons (j_toU (j_catV (e := eU) (j_fzd (r_slV (e := eU) (j_tupU (j_eqv (e := eU) (p := v_thing) (j_var rfl) rfl) hv28) j_ret (j_pI (j_eqv (e := eI) (p := v_at25) (j_var rfl) rfl)) drE)) (j_fzd (r_slV (e := eU) (j_tupU (j_eqv (e := eU) (p := v_thing) (j_var rfl) rfl) hv29) (j_pI (j_addI (j_eqv (e := eI) (p := v_at25) (j_var rfl) rfl) j_int)) j_ret drE)) drE drE hv30) ((ok_V ok_id) v30)) (j_cons (j_toU (j_catV (e := eU) (j_tupU (j_eqv (e := eU) (p := v_thing) (j_var rfl) rfl) hv32) (j_fzd (r_slV (e := eU) (j_tupU (j_eqv (e := eU) (p := v_thing) (j_var rfl) rfl) hv33) j_ret (j_pI j_int) drE)) drE drE hv34) ((ok_V ok_id) v34)) (j_cons (j_toU (j_fzd (r_revV (e := eU) (j_tupU (j_eqv (e := eU) (p := v_thing) (j_var rfl) rfl) hv35) drE)) ((ok_V ok_id) ((v35).reverse))) (j_cons (j_toU (j_catV (e := eU) (j_tupU (j_eqv (e := eU) (p := v_thing) (j_var rfl) rfl) hv36) (j_eqv (e := (eV eU)) (p := ([(uI (0 : Int))] : List U)) (j_tup (j_cons (j_toU j_int (ok_I (0 : Int))) j_ret) (Nat.le_of_ble_eq_true rfl)) rfl) drE drE hv37) ((ok_V ok_id) v37)) j_ret))))) (Nat.le_of_ble_eq_true rfl)) rfl) rfl) rfl) ev_some38) rfl) ?_
        obtain ⟨r39, hr39, H⟩ := bindI H
        obtain ⟨v40, hv40, H⟩ := bindI H
        rw [← Option.some.inj H]
        exact w_seqR (w_retD (d := eU v40) (j_eqv (e := eU) (p := v40) (j_ixL (e := eU) (j_eqv (e := (eL eU)) (p := v_some38) (j_var rfl) rfl) (j_fzd (j_callT (T := r24.2) (T' := r39.2) (rest := rest) (j_cons (j_var rfl) (j_cons (j_eqv (e := eI) (p := (5 : Int)) j_int rfl) j_ret)) fun rest => sp__law_draw hr39 rest)) drE hv40) rfl) (EncOk.clo _) rfl)
      · refine w_seqif_f (t_eq (p := (isaU "tuple" v_thing)) (t_toB (j_isaU (T := "tuple") (j_eqv (e := eU) (p := v_thing) (j_var rfl) rfl) (by decide +kernel))) hc) ?_
        refine w_seqdone ?_
        rcases iteI H with ⟨hc, H⟩ | ⟨hc, H⟩
        · refine w_seqif_t (t_eq (p := ((isaU "int" v_thing) && (!(isaU "bool" v_thing)))) (t_and (t_toB (j_isaU (T := "int") (j_eqv (e := eU) (p := v_thing) (j_var rfl) rfl) (by decide +kernel))) (t_not (t_toB (j_isaU (T := "bool") (j_eqv (e := eU) (p := v_thing) (j_var rfl) rfl) (by decide +kernel))))) hc) ?_
          refine w_assoc ?_
          obtain ⟨v41, hv41, H⟩ := bindI H
          obtain ⟨v42, hv42, H⟩ := bindI H
          obtain ⟨v43, hv43, H⟩ := bindI H
          obtain ⟨v44, hv44, H⟩ := bindI H
          obtain ⟨v45, hv45, H⟩ := bindI H
          obtain ⟨v_some46, ev_some46, H⟩ := letI' H
          refine w_seq (s1 := (⟨[some (.loc 0), some (eU v_thing), none, some ((eL eU) v_some46)], (v6.2.cell :: rest) ++ []⟩ : S)) (w_set (j_eqv (e := (eL eU)) (p := ([(uI (v41 + (1 : Int))), (uI (v42 - (1 : Int))), (uB v43), (uZ ()), (uI (0 : Int)), (uI (24 : Int)), (uI (25 : Int)), (uI (99 : Int)), (uI (100 : Int)), (uS v45)] : List U)) (j_eqv (e := (eL eU)) (p := ([(uI (v41 + (1 : Int))), (uI (v42 - (1 : Int))), (uB v43), (uZ ()), (uI (0 : Int)), (uI (24 : Int)), (uI (25 : Int)), (uI (99 : Int)), (uI (100 : Int)), (uS v45)] : List U)) (j_fzc (r_eqv (C := (cL eU)) (p := ([(uI (v41 + (1 : Int))), (uI (v42 - (1 : Int))), (uB v43), (uZ ()), (uI (0 : Int)), (uI (24 : Int)), (uI (25 : Int)), (uI (99 : Int)), (uI (100 : Int)), (uS v45)] : List U)) (j_lst (j_cons (j_toU (j_addI (j_intU (j_eqv (e := eU) (p := v_thing) (j_var rfl) rfl) hv41) j_int) (ok_I (v41 + (1 : Int)))) (j_cons (j_toU (j_subI (j_intU (j_eqv (e := eU) (p := v_thing) (j_var rfl) rfl) hv42) j_int) (ok_I (v42 - (1 : Int)))) (j_cons (j_toU (j_eqQ (j_eqv (e := eU) (p := v_thing) (j_var rfl) rfl) (j_toU j_int (ok_I (1 : Int))) drE drE hv43) (ok_B v43)) (j_cons (j_toU j_ret (ok_Z ())) (j_cons (j_toU j_int (ok_I (0 : Int))) (j_cons (j_toU j_int (ok_I (24 : Int))) (j_cons (j_toU j_int (ok_I (25 : Int))) (j_cons (j_toU j_int (ok_I (99 : Int))) (j_cons (j_toU j_int (ok_I (100 : Int))) (j_cons (j_toU (j_strI (j_intU (j_eqv (e := eU) (p := v_thing) (j_var rfl) rfl) hv44) hv45) (ok_S v45)) j_ret)))))))))) (Nat.le_of_ble_eq_true rfl)) rfl) rfl) rfl) ev_some46) rfl) ?_
          obtain ⟨r47, hr47, H⟩ := bindI H
          obtain ⟨v48, hv48, H⟩ := bindI H
          rw [← Option.some.inj H]
          exact w_seqR (w_retD (d := eU v48) (j_eqv (e := eU) (p := v48) (j_ixL (e := eU) (j_eqv (e := (eL eU)) (p := v_some46) (j_var rfl) rfl) (j_fzd (j_callT (T := v6.2) (T' := r47.2) (rest := rest) (j_cons (j_var rfl) (j_cons (j_eqv (e := eI) (p := (10 : Int)) j_int rfl) j_ret)) fun rest => sp__law_draw hr47 rest)) drE hv48) rfl) (EncOk.clo _) rfl)
        · refine w_seqif_f (t_eq (p := ((isaU "int" v_thing) && (!(isaU "bool" v_thing)))) (t_and (t_toB (j_isaU (T := "int") (j_eqv (e := eU) (p := v_thing) (j_var rfl) rfl) (by decide +kernel))) (t_not (t_toB (j_isaU (T := "bool") (j_eqv (e := eU) (p := v_thing) (j_var rfl) rfl) (by decide +kernel))))) hc) ?_
          refine w_seqdone ?_
          obtain ⟨r49, hr49, H⟩ := bindI H
          obtain ⟨v50, hv50, H⟩ := bindI H
          rw [← Option.some.inj H]
          exact w_retD (d := eU v50) (j_eqv (e := eU) (p := v50) (j_ixL (e := eU) (j_eqv (e := (eL eU)) (p := ([(uZ ()), (uB true), (uB false), (uI (0 : Int)), (uI (1 : Int)), (uS ("a" : Str)), (U.tup []), ((uL id) ([] : List U)), (U.tup [(uI (0 : Int))])] : List U)) (j_fzc (r_eqv (C := (cL eU)) (p := ([(uZ ()), (uB true), (uB false), (uI (0 : Int)), (uI (1 : Int)), (uS ("a" : Str)), (U.tup []), ((uL id) ([] : List U)), (U.tup [(uI (0 : Int))])] : List U)) (j_lst (j_cons (j_toU j_ret (ok_Z ())) (j_cons (j_toU j_bl (ok_B true)) (j_cons (j_toU j_bl (ok_B false)) (j_cons (j_toU j_int (ok_I (0 : Int))) (j_cons (j_toU j_int (ok_I (1 : Int))) (j_cons (j_toU j_str (ok_S ("a" : Str))) (j_cons (j_eqv (e := eU) (p := (U.tup [])) (j_tup j_ret (Nat.le_of_ble_eq_true rfl)) rfl) (j_cons (j_toU (j_eqv (e := (eL eU)) (p := ([] : List U)) (j_fzc (r_eqv (C := (cL eU)) (p := ([] : List U)) (j_lst j_ret (Nat.le_of_ble_eq_true rfl)) rfl) rfl) rfl) ((ok_L ok_id) ([] : List U))) (j_cons (j_eqv (e := eU) (p := (U.tup [(uI (0 : Int))])) (j_tup (j_cons (j_toU j_int (ok_I (0 : Int))) j_ret) (Nat.le_of_ble_eq_true rfl)) rfl) j_ret))))))))) (Nat.le_of_ble_eq_true rfl)) rfl) rfl) rfl) (j_fzd (j_callT (T := v6.2) (T' := r49.2) (rest := rest) (j_cons (j_var rfl) (j_cons (j_eqv (e := eI) (p := (9 : Int)) j_int rfl) j_ret)) fun rest => sp__law_draw hr49 rest)) drE hv50) rfl) (EncOk.clo _) rfl
noncomputable def q__law_bent (T : TT) (v_thing : U) : Option (U × TT) := qR__law_bent 40 T v_thing
theorem sp__law_bent {T : TT} {v_thing : U} {r : U × TT} (H : q__law_bent T v_thing = some r) (rest : List Cell) : m__law_bent [.loc 0, eU v_thing] (T.cell :: rest) = .ok (.d (eU r.1)) (r.2.cell :: rest) := spR__law_bent 40 H rest
noncomputable def q__law_deep (v_many : Int) : Option U :=
  lq ((U.tup [(U.tup [(uI v_many)]), (U.tup [])]) : U) fun v_plan_here1 =>
  (rngQ 0 (v_many - (1 : Int))).bind fun w2 =>
  (forQ (fun (s4 : U) (x5 : Int) => (lq ((U.tup [(U.tup [(uI x5)]), (U.tup [s4])]) : U) fun v_plan_here6 =>
  some v_plan_here6 : Option U)) w2 v_plan_here1).bind fun j7 =>
  some j7
theorem sp__law_deep {v_many : Int} {r : U} (H : q__law_deep v_many = some r) (sto : List Cell) : m__law_deep [eI v_many] sto = .ok (.d (eU r)) sto := by
  refine fn_R (F := fun _ : Unit => (⟨[], []⟩ : S)) (R := (fun r : U => (.d (eU r), sto))) (r := r) ?_ (.refl sto)
  unfold q__law_deep at H
  unfold b__law_deep
  show CJ _ _ _ (⟨[some (eI v_many), none, none], sto ++ []⟩ : S) _
  obtain ⟨v_plan_here1, ev_plan_here1, H⟩ := letI' H
  refine w_seq (s1 := (⟨[some (eI v_many), some (eU v_plan_here1), none], sto ++ []⟩ : S)) (w_set (j_eqv (e := eU) (p := (U.tup [(U.tup [(uI v_many)]), (U.tup [])])) (j_eqv (e := eU) (p := (U.tup [(U.tup [(uI v_many)]), (U.tup [])])) (j_tup (j_cons (j_eqv (e := eU) (p := (U.tup [(uI v_many)])) (j_tup (j_cons (j_toU (j_eqv (e := eI) (p := v_many) (j_var rfl) rfl) (ok_I v_many)) j_ret) (Nat.le_of_ble_eq_true rfl)) rfl) (j_cons (j_eqv (e := eU) (p := (U.tup [])) (j_tup j_ret (Nat.le_of_ble_eq_true rfl)) rfl) j_ret)) (Nat.le_of_ble_eq_true rfl)) rfl) ev_plan_here1) rfl) ?_
  obtain ⟨w2, hw2, H⟩ := bindI H
  obtain ⟨j7, hj7, H⟩ := bindI H
  refine w_seq (s1 := (fun s3 : U => (⟨[some (eI v_many), some (eU s3), none], sto ++ []⟩ : S)) j7) (w_for (F := (fun s3 : U => (⟨[some (eI v_many), some (eU s3), none], sto ++ []⟩ : S))) (A := (fun (s4 : U) (x5 : Int) => [some (eI v_many), some (eU s4), some (eI x5)])) (x0 := v_plan_here1) (i_rng1 (j_subI (j_eqv (e := eI) (p := v_many) (j_var rfl) rfl) j_int) hw2) hj7 (fun _ _ => rfl) (fun s4 x5 _ H => ?_)) ?_
  · show CJ _ _ _ (⟨[some (eI v_many), some (eU s4), some (eI x5)], sto ++ []⟩ : S) _
    obtain ⟨v_plan_here6, ev_plan_here6, H⟩ := letI' H
    refine w_seq (s1 := (⟨[some (eI v_many), some (eU v_plan_here6), some (eI x5)], sto ++ []⟩ : S)) (w_set (j_eqv (e := eU) (p := (U.tup [(U.tup [(uI x5)]), (U.tup [s4])])) (j_eqv (e := eU) (p := (U.tup [(U.tup [(uI x5)]), (U.tup [s4])])) (j_tup (j_cons (j_eqv (e := eU) (p := (U.tup [(uI x5)])) (j_tup (j_cons (j_toU (j_eqv (e := eI) (p := x5) (j_var rfl) rfl) (ok_I x5)) j_ret) (Nat.le_of_ble_eq_true rfl)) rfl) (j_cons (j_eqv (e := eU) (p := (U.tup [s4])) (j_tup (j_cons (j_eqv (e := eU) (p := s4) (j_var rfl) rfl) j_ret) (Nat.le_of_ble_eq_true rfl)) rfl) j_ret)) (Nat.le_of_ble_eq_true rfl)) rfl) ev_plan_here6) rfl) ?_
    rw [← Option.some.inj H]
    exact w_wp rfl
  show CJ _ _ _ (⟨[some (eI v_many), some (eU j7), none], sto ++ []⟩ : S) _
  rw [← Option.some.inj H]
  exact w_retD (d := eU j7) (j_eqv (e := eU) (p := j7) (j_eqv (e := eU) (p := j7) (j_var rfl) rfl) rfl) (EncOk.clo _) rfl
noncomputable def q__law_order (T : TT) (v_n : Int) : Option (List Int × TT) :=
  (rngQ 0 v_n).bind fun w1 =>
  lq (w1) fun v_left2 =>
  lq (([] : List Int)) fun v_found3 =>
  (rngQ 0 v_n).bind fun w4 =>
  (forQ (fun (s6 : ((List Int) × (List Int) × TT)) (x7 : Int) => ((q__law_draw s6.2.2 ((s6.2.1).length : Int)).bind fun r8 =>
  (popAtQ s6.2.1 r8.1).bind fun v9 =>
  (appQ s6.1 v9.1).bind fun v10 =>
  some (v10, v9.2, r8.2) : Option ((List Int) × (List Int) × TT))) w4 (v_found3, v_left2, T)).bind fun j11 =>
  some (j11.1, j11.2.2)
theorem sp__law_order {T : TT} {v_n : Int} {r : List Int × TT} (H : q__law_order T v_n = some r) (rest : List Cell) : m__law_order [.loc 0, eI v_n] (T.cell :: rest) = .ok (.d ((eV eI) r.1)) (r.2.cell :: rest) := by
  refine fn_R (F := fun _ : Unit => (⟨[], []⟩ : S)) (R := (fun r : List Int × TT => (.d ((eV eI) r.1), r.2.cell :: rest))) (r := r) ?_ kept_T
  unfold q__law_order at H
  unfold b__law_order
  show CJ _ _ _ (⟨[some (.loc 0), some (eI v_n), none, none, none], (T.cell :: rest) ++ []⟩ : S) _
  obtain ⟨w1, hw1, H⟩ := bindI H
  obtain ⟨v_left2, ev_left2, H⟩ := letI' H
  refine w_seq (s1 := (⟨[some (.loc 0), some (eI v_n), some (.loc (rest.length + 1 + 0)), none, none], (T.cell :: rest) ++ [(cL eI) v_left2]⟩ : S)) (w_set (j_bxB (base := (T.cell :: rest)) (j := 0) (r_eqv (C := (cL eI)) (p := w1) (r_lrg1 (j_eqv (e := eI) (p := v_n) (j_var rfl) rfl) hw1) ev_left2) rfl rfl) rfl) ?_
  obtain ⟨v_found3, ev_found3, H⟩ := letI' H
  refine w_seq (s1 := (⟨[some (.loc 0), some (eI v_n), some (.loc (rest.length + 1 + 0)), some (.loc (rest.length + 1 + 1)), none], (T.cell :: rest) ++ [(cL eI) v_left2, (cL eI) v_found3]⟩ : S)) (w_set (j_bxB (base := (T.cell :: rest)) (j := 1) (r_eqv (C := (cL eI)) (p := ([] : List Int)) (r_eqv (C := (cL eI)) (p := ([] : List Int)) (j_lst j_ret (Nat.le_of_ble_eq_true rfl)) rfl) ev_found3) rfl rfl) rfl) ?_
  obtain ⟨w4, hw4, H⟩ := bindI H
  obtain ⟨j11, hj11, H⟩ := bindI H
  refine w_seq (s1 := (fun s5 : ((List Int) × (List Int) × TT) => (⟨[some (.loc 0), some (eI v_n), some (.loc (rest.length + 1 + 0)), some (.loc (rest.length + 1 + 1)), none], (s5.2.2.cell :: rest) ++ [(cL eI) s5.2.1, (cL eI) s5.1]⟩ : S)) j11) (w_for (F := (fun s5 : ((List Int) × (List Int) × TT) => (⟨[some (.loc 0), some (eI v_n), some (.loc (rest.length + 1 + 0)), some (.loc (rest.length + 1 + 1)), none], (s5.2.2.cell :: rest) ++ [(cL eI) s5.2.1, (cL eI) s5.1]⟩ : S))) (A := (fun (s6 : ((List Int) × (List Int) × TT)) (x7 : Int) => [some (.loc 0), some (eI v_n), some (.loc (rest.length + 1 + 0)), some (.loc (rest.length + 1 + 1)), some (eI x7)])) (x0 := (v_found3, v_left2, T)) (i_rng1 (j_eqv (e := eI) (p := v_n) (j_var rfl) rfl) hw4) hj11 (fun _ _ => rfl) (fun s6 x7 _ H => ?_)) ?_
  · show CJ _ _ _ (⟨[some (.loc 0), some (eI v_n), some (.loc (rest.length + 1 + 0)), some (.loc (rest.length + 1 + 1)), some (eI x7)], (s6.2.2.cell :: rest) ++ [(cL eI) s6.2.1, (cL eI) s6.1]⟩ : S) _
    obtain ⟨r8, hr8, H⟩ := bindI H
    obtain ⟨v9, hv9, H⟩ := bindI H
    obtain ⟨v10, hv10, H⟩ := bindI H
    refine w_seq (s1 := (⟨[some (.loc 0), some (eI v_n), some (.loc (rest.length + 1 + 0)), some (.loc (rest.length + 1 + 1)), some (eI x7)], (r8.2.cell :: rest) ++ [(cL eI) v9.2, (cL eI) v10]⟩ : S)) (w_drop (j_app (base := (r8.2.cell :: rest)) (j := 1) (e := eI) (y := v9.1) (j_var rfl) (drLb (base := (s6.2.2.cell :: rest)) (j := 1) rfl) (j_eqv (e := eI) (p := v9.1) (j_popAt (base := (r8.2.cell :: rest)) (j := 0) (e := eI) (y := v9.1) (zs := v9.2) (j_var rfl) (drLb (base := (s6.2.2.cell :: rest)) (j := 0) rfl) (j_fzd (j_callT (T := s6.2.2) (T' := r8.2) (rest := rest) (j_cons (j_var rfl) (j_cons (j_eqv (e := eI) (p := ((s6.2.1).length : Int)) (j_lenL (e := eI) (j_var rfl) (drLb (base := (s6.2.2.cell :: rest)) (j := 0) rfl)) rfl) j_ret)) fun rest => sp__law_draw hr8 rest)) rfl hv9 rfl) rfl) rfl hv10 rfl)) ?_
    rw [← Option.some.inj H]
    exact w_wp rfl
  show CJ _ _ _ (⟨[some (.loc 0), some (eI v_n), some (.loc (rest.length + 1 + 0)), some (.loc (rest.length + 1 + 1)), none], (j11.2.2.cell :: rest) ++ [(cL eI) j11.2.1, (cL eI) j11.1]⟩ : S) _
  rw [← Option.some.inj H]
  exact w_retD (d := (eV eI) j11.1) (j_eqv (e := (eV eI)) (p := j11.1) (j_tupleL (e := eI) (j_var rfl) (drLb (base := (j11.2.2.cell :: rest)) (j := 1) rfl)) rfl) (EncOk.clo _) rfl
noncomputable def q_law (T : TT) : Option (Bool × TT) :=
  (forR (fun (s2 : Unit) (x3 : U) => ((q__law_right x3).bind fun r4 =>
  if (!r4) = true then some (.inr (false, T)) else
  some (.inl ()) : Option ((Unit) ⊕ (Bool × TT)))) ([(uZ ()), (uB true), (uI (0 : Int)), (U.tup []), ((uL id) ([] : List U)), (U.tup [(U.tup [(uI (0 : Int))])]), (U.tup [(U.tup [(uI (0 : Int))]), (U.tup [])]), ((uL id) ([(U.tup [(uI (0 : Int))]), (U.tup [])] : List U)), (U.tup [(U.tup [(uI (0 : Int))]), ((uL id) ([] : List U))]), (U.tup [(U.tup []), (U.tup [])]), (U.tup [(U.tup [(uI (0 : Int))]), (U.tup [(U.tup [])])]), (U.tup [(uI (0 : Int)), (U.tup [])])] : List U) ()).bind fun j5 =>
  sumQ j5 (fun s6 => (rngQ 0 (4 : Int)).bind fun w8 =>
  (forR (fun (s10 : TT) (x11 : Int) => ((q__law_draw s10 (3 : Int)).bind fun r12 =>
  lq (((1 : Int) + r12.1) : Int) fun v_step13 =>
  (q__law_draw r12.2 (12 : Int)).bind fun r14 =>
  (q__law_order r14.2 ((1 : Int) + r14.1)).bind fun r15 =>
  (compQ (fun x16 : Int => (((mulQ x16 v_step13).bind fun v17 => some ((v17 + v_step13) - (1 : Int))) : Option Int).bind fun y => some (some y)) r15.1).bind fun v20 =>
  lq (v20 : List Int) fun v_pool21 =>
  (q__law_plan r15.2 v_pool21).bind fun r22 =>
  lq (r22.1 : U) fun v_plan_here23 =>
  (q__law_plan_right v_plan_here23).bind fun r24 =>
  if (!r24) = true then some (.inr (false, r22.2)) else
  lq (v_plan_here23 : U) fun v_thing25 =>
  (rngQ 0 (4 : Int)).bind fun w26 =>
  (forR (fun (s28 : (U × TT)) (x29 : Int) => ((q__law_right s28.1).bind fun r30 =>
  if (!r30) = true then some (.inr (false, s28.2)) else
  (q__law_bent s28.2 s28.1).bind fun r31 =>
  lq (r31.1 : U) fun v_thing32 =>
  some (.inl (v_thing32, r31.2)) : Option (((U × TT)) ⊕ (Bool × TT)))) w26 (v_thing25, r22.2)).bind fun j33 =>
  sumQ j33 (fun s34 => some (.inl s34.2)) (fun r35 => some (.inr r35)) : Option ((TT) ⊕ (Bool × TT)))) w8 T).bind fun j36 =>
  sumQ j36 (fun s37 => (q__law_draw s37 (4 : Int)).bind fun r39 =>
  lq (((23 : Int) + r39.1) : Int) fun v_many40 =>
  (if (decide (v_many40 < (25 : Int))) = true then ((q__law_deep v_many40).bind fun r41 => ((q__law_plan_right r41).bind fun r42 => some (!r42))) else some false).bind fun v43 =>
  if v43 = true then some (false, r39.2) else
  (q__law_deep v_many40).bind fun r45 =>
  (q__law_right r45).bind fun r46 =>
  (if r46 = true then ((q__law_deep (v_many40 - (1 : Int))).bind fun r47 => ((q__law_right (U.tup [(U.tup [(uI (0 : Int)), (uI (2 : Int))]), (U.tup [r47, (U.tup [(U.tup [(uI (1 : Int))]), (U.tup [])])])])).bind fun r48 => some r48)) else some false).bind fun v49 =>
  some (v49, r39.2)) (fun r38 => some r38)) (fun r7 => some r7)
theorem sp_law {ns : List Int} {r : Bool × TT} (H : q_law (⟨ns.take 63, 0, 0⟩ : TT) = some r) : ∃ sto, bodyF 10 b_law [.scr ns] [] = .ok (.d (.bl r.1)) sto := by
  refine law_end (F := fun _ : Unit => (⟨[], []⟩ : S)) (R := (fun r : Bool × TT => (.d (eB r.1), [r.2.cell]))) ?_ rfl
  unfold b_law
  refine w_seq (s1 := (⟨[some (.scr ns), some (.loc 0), none, none, none, none, none, none, none, none], [(⟨ns.take 63, 0, 0⟩ : TT).cell]⟩ : S)) (w_set (j_bx (j_callP (j_cons (j_var rfl) j_ret) fun sto => sp__law_tape ns sto) rfl rfl) rfl) ?_
  generalize hT : (⟨ns.take 63, 0, 0⟩ : TT) = T at H ⊢
  unfold q_law at H
  show CJ _ _ _ (⟨[some (.scr ns), some (.loc 0), none, none, none, none, none, none, none, none], (T.cell :: ([] : List Cell)) ++ []⟩ : S) _
  obtain ⟨j5, hj5, H⟩ := bindI H
  refine w_seqZ (F1 := (fun s1 : Unit => (⟨[some (.scr ns), some (.loc 0), none, none, none, none, none, none, none, none], (T.cell :: ([] : List Cell)) ++ []⟩ : S))) (w_forR (F := (fun s1 : Unit => (⟨[some (.scr ns), some (.loc 0), none, none, none, none, none, none, none, none], (T.cell :: ([] : List Cell)) ++ []⟩ : S))) (A := (fun (s2 : Unit) (x3 : U) => [some (.scr ns), some (.loc 0), some (eU x3), none, none, none, none, none, none, none])) (x0 := ()) (i_seqL (e := eU) (j_eqv (e := (eL eU)) (p := ([(uZ ()), (uB true), (uI (0 : Int)), (U.tup []), ((uL id) ([] : List U)), (U.tup [(U.tup [(uI (0 : Int))])]), (U.tup [(U.tup [(uI (0 : Int))]), (U.tup [])]), ((uL id) ([(U.tup [(uI (0 : Int))]), (U.tup [])] : List U)), (U.tup [(U.tup [(uI (0 : Int))]), ((uL id) ([] : List U))]), (U.tup [(U.tup []), (U.tup [])]), (U.tup [(U.tup [(uI (0 : Int))]), (U.tup [(U.tup [])])]), (U.tup [(uI (0 : Int)), (U.tup [])])] : List U)) (j_fzc (r_eqv (C := (cL eU)) (p := ([(uZ ()), (uB true), (uI (0 : Int)), (U.tup []), ((uL id) ([] : List U)), (U.tup [(U.tup [(uI (0 : Int))])]), (U.tup [(U.tup [(uI (0 : Int))]), (U.tup [])]), ((uL id) ([(U.tup [(uI (0 : Int))]), (U.tup [])] : List U)), (U.tup [(U.tup [(uI (0 : Int))]), ((uL id) ([] : List U))]), (U.tup [(U.tup []), (U.tup [])]), (U.tup [(U.tup [(uI (0 : Int))]), (U.tup [(U.tup [])])]), (U.tup [(uI (0 : Int)), (U.tup [])])] : List U)) (j_lst (j_cons (j_toU j_ret (ok_Z ())) (j_cons (j_toU j_bl (ok_B true)) (j_cons (j_toU j_int (ok_I (0 : Int))) (j_cons (j_eqv (e := eU) (p := (U.tup [])) (j_tup j_ret (Nat.le_of_ble_eq_true rfl)) rfl) (j_cons (j_toU (j_eqv (e := (eL eU)) (p := ([] : List U)) (j_fzc (r_eqv (C := (cL eU)) (p := ([] : List U)) (j_lst j_ret (Nat.le_of_ble_eq_true rfl)) rfl) rfl) rfl) ((ok_L ok_id) ([] : List U))) (j_cons (j_eqv (e := eU) (p := (U.tup [(U.tup [(uI (0 : Int))])])) (j_tup (j_cons (j_eqv (e := eU) (p := (U.tup [(uI (0 : Int))])) (j_tup (j_cons (j_toU j_int (ok_I (0 : Int))) j_ret) (Nat.le_of_ble_eq_true rfl)) rfl) j_ret) (Nat.le_of_ble_eq_true rfl)) rfl) (j_cons (j_eqv (e := eU) (p := (U.tup [(U.tup [(uI (0 : Int))]), (U.tup [])])) (j_tup (j_cons (j_eqv (e := eU) (p := (U.tup [(uI (0 : Int))])) (j_tup (j_cons (j_toU j_int (ok_I (0 : Int))) j_ret) (Nat.le_of_ble_eq_true rfl)) rfl) (j_cons (j_eqv (e := eU) (p := (U.tup [])) (j_tup j_ret (Nat.le_of_ble_eq_true rfl)) rfl) j_ret)) (Nat.le_of_ble_eq_true rfl)) rfl) (j_cons (j_toU (j_eqv (e := (eL eU)) (p := ([(U.tup [(uI (0 : Int))]), (U.tup [])] : List U)) (j_fzc (r_eqv (C := (cL eU)) (p := ([(U.tup [(uI (0 : Int))]), (U.tup [])] : List U)) (j_lst (j_cons (j_eqv (e := eU) (p := (U.tup [(uI (0 : Int))])) (j_tup (j_cons (j_toU j_int (ok_I (0 : Int))) j_ret) (Nat.le_of_ble_eq_true rfl)) rfl) (j_cons (j_eqv (e := eU) (p := (U.tup [])) (j_tup j_ret (Nat.le_of_ble_eq_true rfl)) rfl) j_ret)) (Nat.le_of_ble_eq_true rfl)) rfl) rfl) rfl) ((ok_L ok_id) ([(U.tup [(uI (0 : Int))]), (U.tup [])] : List U))) (j_cons (j_eqv (e := eU) (p := (U.tup [(U.tup [(uI (0 : Int))]), ((uL id) ([] : List U))])) (j_tup (j_cons (j_eqv (e := eU) (p := (U.tup [(uI (0 : Int))])) (j_tup (j_cons (j_toU j_int (ok_I (0 : Int))) j_ret) (Nat.le_of_ble_eq_true rfl)) rfl) (j_cons (j_toU (j_eqv (e := (eL eU)) (p := ([] : List U)) (j_fzc (r_eqv (C := (cL eU)) (p := ([] : List U)) (j_lst j_ret (Nat.le_of_ble_eq_true rfl)) rfl) rfl) rfl) ((ok_L ok_id) ([] : List U))) j_ret)) (Nat.le_of_ble_eq_true rfl)) rfl) (j_cons (j_eqv (e := eU) (p := (U.tup [(U.tup []), (U.tup [])])) (j_tup (j_cons (j_eqv (e := eU) (p := (U.tup [])) (j_tup j_ret (Nat.le_of_ble_eq_true rfl)) rfl) (j_cons (j_eqv (e := eU) (p := (U.tup [])) (j_tup j_ret (Nat.le_of_ble_eq_true rfl)) rfl) j_ret)) (Nat.le_of_ble_eq_true rfl)) rfl) (j_cons (j_eqv (e := eU) (p := (U.tup [(U.tup [(uI (0 : Int))]), (U.tup [(U.tup [])])])) (j_tup (j_cons (j_eqv (e := eU) (p := (U.tup [(uI (0 : Int))])) (j_tup (j_cons (j_toU j_int (ok_I (0 : Int))) j_ret) (Nat.le_of_ble_eq_true rfl)) rfl) (j_cons (j_eqv (e := eU) (p := (U.tup [(U.tup [])])) (j_tup (j_cons (j_eqv (e := eU) (p := (U.tup [])) (j_tup j_ret (Nat.le_of_ble_eq_true rfl)) rfl) j_ret) (Nat.le_of_ble_eq_true rfl)) rfl) j_ret)) (Nat.le_of_ble_eq_true rfl)) rfl) (j_cons (j_eqv (e := eU) (p := (U.tup [(uI (0 : Int)), (U.tup [])])) (j_tup (j_cons (j_toU j_int (ok_I (0 : Int))) (j_cons (j_eqv (e := eU) (p := (U.tup [])) (j_tup j_ret (Nat.le_of_ble_eq_true rfl)) rfl) j_ret)) (Nat.le_of_ble_eq_true rfl)) rfl) j_ret)))))))))))) (Nat.le_of_ble_eq_true rfl)) rfl) rfl) rfl)) hj5 (fun _ _ => rfl) (fun s2 x3 _ H => ?_)) ?_ ?_
  · show CJ _ _ _ (⟨[some (.scr ns), some (.loc 0), some (eU x3), none, none, none, none, none, none, none], (T.cell :: ([] : List Cell)) ++ []⟩ : S) _
    obtain ⟨r4, hr4, H⟩ := bindI H
    rcases iteI H with ⟨hc, H⟩ | ⟨hc, H⟩
    · refine w_seqif_t (t_eq (p := (!r4)) (t_not (t_toB (j_fzd (j_callP (j_cons (j_eqv (e := eU) (p := x3) (j_eqv (e := eU) (p := x3) (j_var rfl) rfl) rfl) j_ret) fun sto => sp__law_right hr4 sto)))) hc) ?_
      rw [← Option.some.inj H]
      exact w_seqR (w_retD (d := eB false) (j_eqv (e := eB) (p := false) j_bl rfl) (EncOk.clo _) rfl)
    · refine w_seqif_f (t_eq (p := (!r4)) (t_not (t_toB (j_fzd (j_callP (j_cons (j_eqv (e := eU) (p := x3) (j_eqv (e := eU) (p := x3) (j_var rfl) rfl) rfl) j_ret) fun sto => sp__law_right hr4 sto)))) hc) ?_
      refine w_seqdone ?_
      rw [← Option.some.inj H]
      exact w_wp rfl
  rotate_left
  · intro r7 er7; subst er7; have H := sumQ_inr H; cases H; rfl
  intro s6 es6; subst es6; have H := sumQ_inl H
  show CJ _ _ _ (⟨[some (.scr ns), some (.loc 0), none, none, none, none, none, none, none, none], (T.cell :: ([] : List Cell)) ++ []⟩ : S) _
  obtain ⟨w8, hw8, H⟩ := bindI H
  obtain ⟨j36, hj36, H⟩ := bindI H
  refine w_seqZ (F1 := (fun s9 : TT => (⟨[some (.scr ns), some (.loc 0), none, none, none, none, none, none, none, none], (s9.cell :: ([] : List Cell)) ++ []⟩ : S))) (w_forR (F := (fun s9 : TT => (⟨[some (.scr ns), some (.loc 0), none, none, none, none, none, none, none, none], (s9.cell :: ([] : List Cell)) ++ []⟩ : S))) (A := (fun (s10 : TT) (x11 : Int) => [some (.scr ns), some (.loc 0), none, some (eI x11), none, none, none, none, none, none])) (x0 := T) (i_rng1 j_int hw8) hj36 (fun _ _ => rfl) (fun s10 x11 _ H => ?_)) ?_ ?_
  · show CJ _ _ _ (⟨[some (.scr ns), some (.loc 0), none, some (eI x11), none, none, none, none, none, none], (s10.cell :: ([] : List Cell)) ++ []⟩ : S) _
    obtain ⟨r12, hr12, H⟩ := bindI H
    obtain ⟨v_step13, ev_step13, H⟩ := letI' H
    refine w_seq (s1 := (⟨[some (.scr ns), some (.loc 0), none, some (eI x11), some (eI v_step13), none, none, none, none, none], (r12.2.cell :: ([] : List Cell)) ++ []⟩ : S)) (w_set (j_eqv (e := eI) (p := ((1 : Int) + r12.1)) (j_addI j_int (j_fzd (j_callT (T := s10) (T' := r12.2) (rest := ([] : List Cell)) (j_cons (j_var rfl) (j_cons (j_eqv (e := eI) (p := (3 : Int)) j_int rfl) j_ret)) fun rest => sp__law_draw hr12 rest))) ev_step13) rfl) ?_
    obtain ⟨r14, hr14, H⟩ := bindI H
    obtain ⟨r15, hr15, H⟩ := bindI H
    obtain ⟨v20, hv20, H⟩ := bindI H
    obtain ⟨v_pool21, ev_pool21, H⟩ := letI' H
    refine w_seq (s1 := (⟨[some (.scr ns), some (.loc 0), none, some (eI x11), some (eI v_step13), some ((eL eI) v_pool21), none, none, none, none], (r15.2.cell :: ([] : List Cell)) ++ []⟩ : S)) (w_set (j_eqv (e := (eL eI)) (p := v20) (j_eqv (e := (eL eI)) (p := v20) (j_fzc (r_compQ (e := eI) (e2' := eI) (i_seqV (e := eI) (j_fzd (j_callT (T := r14.2) (T' := r15.2) (rest := ([] : List Cell)) (j_cons (j_var rfl) (j_cons (j_eqv (e := eI) (p := ((1 : Int) + r14.1)) (j_addI j_int (j_fzd (j_callT (T := r12.2) (T' := r14.2) (rest := ([] : List Cell)) (j_cons (j_var rfl) (j_cons (j_eqv (e := eI) (p := (12 : Int)) j_int rfl) j_ret)) fun rest => sp__law_draw hr14 rest))) rfl) j_ret)) fun rest => sp__law_order hr15 rest))) hv20 (fun _ => rfl) (fun x16 _ ho => ceM (e2' := eI) ho (fun _ g18 => bindE g18 fun v17 hv17 g18 => j_conv (e := eI) (p := ((v17 + v_step13) - (1 : Int))) (j_subI (j_addI (j_mulI (j_eqv (e := eI) (p := x16) (j_var rfl) rfl) (j_eqv (e := eI) (p := v_step13) (j_var rfl) rfl) hv17) (j_eqv (e := eI) (p := v_step13) (j_var rfl) rfl)) j_int) g18))) rfl) rfl) ev_pool21) rfl) ?_
    obtain ⟨r22, hr22, H⟩ := bindI H
    obtain ⟨v_plan_here23, ev_plan_here23, H⟩ := letI' H
    refine w_seq (s1 := (⟨[some (.scr ns), some (.loc 0), none, some (eI x11), some (eI v_step13), some ((eL eI) v_pool21), some (eU v_plan_here23), none, none, none], (r22.2.cell :: ([] : List Cell)) ++ []⟩ : S)) (w_set (j_eqv (e := eU) (p := r22.1) (j_fzd (j_callT (T := r15.2) (T' := r22.2) (rest := ([] : List Cell)) (j_cons (j_var rfl) (j_cons (j_eqv (e := (eL eI)) (p := v_pool21) (j_eqv (e := (eL eI)) (p := v_pool21) (j_var rfl) rfl) rfl) j_ret)) fun rest => sp__law_plan hr22 rest)) ev_plan_here23) rfl) ?_
    obtain ⟨r24, hr24, H⟩ := bindI H
    rcases iteI H with ⟨hc, H⟩ | ⟨hc, H⟩
    · refine w_seqif_t (t_eq (p := (!r24)) (t_not (t_toB (j_fzd (j_callP (j_cons (j_eqv (e := eU) (p := v_plan_here23) (j_eqv (e := eU) (p := v_plan_here23) (j_var rfl) rfl) rfl) j_ret) fun sto => sp__law_plan_right hr24 sto)))) hc) ?_
      rw [← Option.some.inj H]
      exact w_seqR (w_retD (d := eB false) (j_eqv (e := eB) (p := false) j_bl rfl) (EncOk.clo _) rfl)
    · refine w_seqif_f (t_eq (p := (!r24)) (t_not (t_toB (j_fzd (j_callP (j_cons (j_eqv (e := eU) (p := v_plan_here23) (j_eqv (e := eU) (p := v_plan_here23) (j_var rfl) rfl) rfl) j_ret) fun sto => sp__law_plan_right hr24 sto)))) hc) ?_
      refine w_seqdone ?_
      obtain ⟨v_thing25, ev_thing25, H⟩ := letI' H
      refine w_seq (s1 := (⟨[some (.scr ns), some (.loc 0), some (eU v_thing25), some (eI x11), some (eI v_step13), some ((eL eI) v_pool21), some (eU v_plan_here23), none, none, none], (r22.2.cell :: ([] : List Cell)) ++ []⟩ : S)) (w_set (j_eqv (e := eU) (p := v_plan_here23) (j_eqv (e := eU) (p := v_plan_here23) (j_var rfl) rfl) ev_thing25) rfl) ?_
      obtain ⟨w26, hw26, H⟩ := bindI H
      obtain ⟨j33, hj33, H⟩ := bindI H
      refine w_seqZ (F1 := (fun s27 : (U × TT) => (⟨[some (.scr ns), some (.loc 0), some (eU s27.1), some (eI x11), some (eI v_step13), some ((eL eI) v_pool21), some (eU v_plan_here23), none, none, none], (s27.2.cell :: ([] : List Cell)) ++ []⟩ : S))) (w_forR (F := (fun s27 : (U × TT) => (⟨[some (.scr ns), some (.loc 0), some (eU s27.1), some (eI x11), some (eI v_step13), some ((eL eI) v_pool21), some (eU v_plan_here23), none, none, none], (s27.2.cell :: ([] : List Cell)) ++ []⟩ : S))) (A := (fun (s28 : (U × TT)) (x29 : Int) => [some (.scr ns), some (.loc 0), some (eU s28.1), some (eI x11), some (eI v_step13), some ((eL eI) v_pool21), some (eU v_plan_here23), some (eI x29), none, none])) (x0 := (v_thing25, r22.2)) (i_rng1 j_int hw26) hj33 (fun _ _ => rfl) (fun s28 x29 _ H => ?_)) ?_ ?_
      · show CJ _ _ _ (⟨[some (.scr ns), some (.loc 0), some (eU s28.1), some (eI x11), some (eI v_step13), some ((eL eI) v_pool21), some (eU v_plan_here23), some (eI x29), none, none], (s28.2.cell :: ([] : List Cell)) ++ []⟩ : S) _
        obtain ⟨r30, hr30, H⟩ := bindI H
        rcases iteI H with ⟨hc, H⟩ | ⟨hc, H⟩
        · refine w_seqif_t (t_eq (p := (!r30)) (t_not (t_toB (j_fzd (j_callP (j_cons (j_eqv (e := eU) (p := s28.1) (j_eqv (e := eU) (p := s28.1) (j_var rfl) rfl) rfl) j_ret) fun sto => sp__law_right hr30 sto)))) hc) ?_
          rw [← Option.some.inj H]
          exact w_seqR (w_retD (d := eB false) (j_eqv (e := eB) (p := false) j_bl rfl) (EncOk.clo _) rfl)
        · refine w_seqif_f (t_eq (p := (!r30)) (t_not (t_toB (j_fzd (j_callP (j_cons (j_eqv (e := eU) (p := s28.1) (j_eqv (e := eU) (p := s28.1) (j_var rfl) rfl) rfl) j_ret) fun sto => sp__law_right hr30 sto)))) hc) ?_
          refine w_seqdone ?_
          obtain ⟨r31, hr31, H⟩ := bindI H
          obtain ⟨v_thing32, ev_thing32, H⟩ := letI' H
          refine w_seq (s1 := (⟨[some (.scr ns), some (.loc 0), some (eU v_thing32), some (eI x11), some (eI v_step13), some ((eL eI) v_pool21), some (eU v_plan_here23), some (eI x29), none, none], (r31.2.cell :: ([] : List Cell)) ++ []⟩ : S)) (w_set (j_eqv (e := eU) (p := r31.1) (j_fzd (j_callT (T := s28.2) (T' := r31.2) (rest := ([] : List Cell)) (j_cons (j_var rfl) (j_cons (j_eqv (e := eU) (p := s28.1) (j_eqv (e := eU) (p := s28.1) (j_var rfl) rfl) rfl) j_ret)) fun rest => sp__law_bent hr31 rest)) ev_thing32) rfl) ?_
          rw [← Option.some.inj H]
          exact w_wp rfl
      rotate_left
      · intro r35 er35; subst er35; have H := sumQ_inr H; cases H; rfl
      intro s34 es34; subst es34; have H := sumQ_inl H
      show CJ _ _ _ (⟨[some (.scr ns), some (.loc 0), some (eU s34.1), some (eI x11), some (eI v_step13), some ((eL eI) v_pool21), some (eU v_plan_here23), none, none, none], (s34.2.cell :: ([] : List Cell)) ++ []⟩ : S) _
      rw [← Option.some.inj H]
      exact w_wp rfl
  rotate_left
  · intro r38 er38; subst er38; have H := sumQ_inr H; cases H; rfl
  intro s37 es37; subst es37; have H := sumQ_inl H
  show CJ _ _ _ (⟨[some (.scr ns), some (.loc 0), none, none, none, none, none, none, none, none], (s37.cell :: ([] : List Cell)) ++ []⟩ : S) _
  obtain ⟨r39, hr39, H⟩ := bindI H
  obtain ⟨v_many40, ev_many40, H⟩ := letI' H
  refine w_seq (s1 := (⟨[some (.scr ns), some (.loc 0), none, none, none, none, none, none, some (eI v_many40), none], (r39.2.cell :: ([] : List Cell)) ++ []⟩ : S)) (w_set (j_eqv (e := eI) (p := ((23 : Int) + r39.1)) (j_addI j_int (j_fzd (j_callT (T := s37) (T' := r39.2) (rest := ([] : List Cell)) (j_cons (j_var rfl) (j_cons (j_eqv (e := eI) (p := (4 : Int)) j_int rfl) j_ret)) fun rest => sp__law_draw hr39 rest))) ev_many40) rfl) ?_
  obtain ⟨v43, hv43, H⟩ := bindI H
  rcases iteI H with ⟨hc, H⟩ | ⟨hc, H⟩
  · refine w_seqif_t (t_eq (p := v43) (t_andQ (t_toB (j_ltI (j_eqv (e := eI) (p := v_many40) (j_var rfl) rfl) j_int)) hv43 fun _ g44 => bindE g44 fun r41 hr41 g44 => bindE g44 fun r42 hr42 g44 => t_conv (p := (!r42)) (t_not (t_toB (j_fzd (j_callP (j_cons (j_eqv (e := eU) (p := r41) (j_fzd (j_callP (j_cons (j_eqv (e := eI) (p := v_many40) (j_eqv (e := eI) (p := v_many40) (j_var rfl) rfl) rfl) j_ret) fun sto => sp__law_deep hr41 sto)) rfl) j_ret) fun sto => sp__law_plan_right hr42 sto)))) g44) hc) ?_
    rw [← Option.some.inj H]
    exact w_seqR (w_retD (d := eB false) (j_eqv (e := eB) (p := false) j_bl rfl) (EncOk.clo _) rfl)
  · refine w_seqif_f (t_eq (p := v43) (t_andQ (t_toB (j_ltI (j_eqv (e := eI) (p := v_many40) (j_var rfl) rfl) j_int)) hv43 fun _ g44 => bindE g44 fun r41 hr41 g44 => bindE g44 fun r42 hr42 g44 => t_conv (p := (!r42)) (t_not (t_toB (j_fzd (j_callP (j_cons (j_eqv (e := eU) (p := r41) (j_fzd (j_callP (j_cons (j_eqv (e := eI) (p := v_many40) (j_eqv (e := eI) (p := v_many40) (j_var rfl) rfl) rfl) j_ret) fun sto => sp__law_deep hr41 sto)) rfl) j_ret) fun sto => sp__law_plan_right hr42 sto)))) g44) hc) ?_
    refine w_seqdone ?_
    obtain ⟨r45, hr45, H⟩ := bindI H
    obtain ⟨r46, hr46, H⟩ := bindI H
    obtain ⟨v49, hv49, H⟩ := bindI H
    rw [← Option.some.inj H]
    exact w_retD (d := eB v49) (j_eqv (e := eB) (p := v49) (j_andQ (j_fzd (j_callP (j_cons (j_eqv (e := eU) (p := r45) (j_fzd (j_callP (j_cons (j_eqv (e := eI) (p := v_many40) (j_eqv (e := eI) (p := v_many40) (j_var rfl) rfl) rfl) j_ret) fun sto => sp__law_deep hr45 sto)) rfl) j_ret) fun sto => sp__law_right hr46 sto)) hv49 fun _ g50 => bindE g50 fun r47 hr47 g50 => bindE g50 fun r48 hr48 g50 => j_conv (e := eB) (p := r48) (j_fzd (j_callP (j_cons (j_eqv (e := eU) (p := (U.tup [(U.tup [(uI (0 : Int)), (uI (2 : Int))]), (U.tup [r47, (U.tup [(U.tup [(uI (1 : Int))]), (U.tup [])])])])) (j_eqv (e := eU) (p := (U.tup [(U.tup [(uI (0 : Int)), (uI (2 : Int))]), (U.tup [r47, (U.tup [(U.tup [(uI (1 : Int))]), (U.tup [])])])])) (j_tup (j_cons (j_eqv (e := eU) (p := (U.tup [(uI (0 : Int)), (uI (2 : Int))])) (j_tup (j_cons (j_toU j_int (ok_I (0 : Int))) (j_cons (j_toU j_int (ok_I (2 : Int))) j_ret)) (Nat.le_of_ble_eq_true rfl)) rfl) (j_cons (j_eqv (e := eU) (p := (U.tup [r47, (U.tup [(U.tup [(uI (1 : Int))]), (U.tup [])])])) (j_tup (j_cons (j_fzd (j_callP (j_cons (j_eqv (e := eI) (p := (v_many40 - (1 : Int))) (j_subI (j_eqv (e := eI) (p := v_many40) (j_var rfl) rfl) j_int) rfl) j_ret) fun sto => sp__law_deep hr47 sto)) (j_cons (j_eqv (e := eU) (p := (U.tup [(U.tup [(uI (1 : Int))]), (U.tup [])])) (j_tup (j_cons (j_eqv (e := eU) (p := (U.tup [(uI (1 : Int))])) (j_tup (j_cons (j_toU j_int (ok_I (1 : Int))) j_ret) (Nat.le_of_ble_eq_true rfl)) rfl) (j_cons (j_eqv (e := eU) (p := (U.tup [])) (j_tup j_ret (Nat.le_of_ble_eq_true rfl)) rfl) j_ret)) (Nat.le_of_ble_eq_true rfl)) rfl) j_ret)) (Nat.le_of_ble_eq_true rfl)) rfl) j_ret)) (Nat.le_of_ble_eq_true rfl)) rfl) rfl) j_ret) fun sto => sp__law_right hr48 sto)) g50) rfl) (EncOk.clo _) rfl
end LW
namespace LW
open PySem PySem.Spec L2
open PyProof.Rows (envOfC)
theorem draw_ok {T : TT} {m b : Int} (hT : Tk b T) (h0 : 0 < m) (h1 : m < 1000000) (hb : b ≤ 1000000000000000) : ∃ v T', q__law_draw T m = some (v, T') ∧ 0 ≤ v ∧ v < m ∧ Tk (b + 1) T' := by
  have s0 := hT.s0
  have sb := hT.sb
  have r0 := hT.r0
  unfold q__law_draw
  simp only [lq_eq]
  by_cases hr : 0 < T.r
  · rw [if_pos (by simpa using hr), modQ_ok h0, divQ_ok h0 (by omega)]
    exact ⟨_, _, rfl, Int.emod_nonneg _ (by omega), Int.emod_lt_of_pos _ h0, ⟨s0, by show T.sp ≤ b + 1; omega, Int.ediv_nonneg r0 (by omega)⟩⟩
  · rw [if_neg (by simpa using hr)]
    obtain ⟨c, hc⟩ : ∃ c, ((if (decide ((0 : Int) < ((T.xs).length : Int))) = true then ((modQ T.sp ((T.xs).length : Int)).bind fun v9 => ((ixQ T.xs v9).bind fun v10 => some v10)) else some (7 : Int) : Option Int)) = some c := by
      by_cases hl : (0 : Int) < T.xs.length
      · rw [if_pos (by simpa using hl), modQ_ok hl]
        obtain ⟨v, hv, _⟩ := ixQ_ok (xs := T.xs) (Int.emod_nonneg T.sp (by omega)) (Int.emod_lt_of_pos T.sp hl)
        exact ⟨v, by simp [hv]⟩
      · rw [if_neg (by simpa using hl)]
        exact ⟨7, rfl⟩
    simp only [hc, Option.bind_some]
    by_cases hk : (decide ((1000000000000000000 : Int) ≤ c) && decide (T.sp < (T.xs.length : Int))) = true
    · rw [if_pos hk, divQ_ok h0 (by omega), modQ_ok h0]
      have hk' : (1000000000000000000 : Int) ≤ c := by
        have := (Bool.and_eq_true_iff.mp hk).1
        simpa using this
      exact ⟨_, _, rfl, Int.emod_nonneg _ (by omega), Int.emod_lt_of_pos _ h0, ⟨by show 0 ≤ T.sp + 1; omega, by show T.sp + 1 ≤ b + 1; omega, Int.ediv_nonneg (by omega) (by omega)⟩⟩
    · rw [if_neg hk]
      have m1 := Int.emod_nonneg c (show (998244353 : Int) ≠ 0 by decide)
      have m2 := Int.emod_lt_of_pos c (show (0 : Int) < 998244353 by decide)
      rw [mulQ_ok (by omega), Option.bind_some, mulQ_ok' (by omega), Option.bind_some, modQ_ok h0]
      exact ⟨_, _, rfl, Int.emod_nonneg _ (by omega), Int.emod_lt_of_pos _ h0, ⟨by show 0 ≤ T.sp + 1; omega, by show T.sp + 1 ≤ b + 1; omega, r0⟩⟩
theorem draw_sat {T : TT} {m b : Int} (hT : Tk b T) (h0 : 0 < m := by omega) (h1 : m < 1000000 := by omega) (hb : b ≤ 1000000000000000 := by omega) : Sat (q__law_draw T m) fun r => 0 ≤ r.1 ∧ r.1 < m ∧ Tk (b + 1) r.2 := by
  obtain ⟨v, T', h⟩ := draw_ok hT h0 h1 hb
  exact ⟨_, h.1, h.2⟩

/-! plain things of any shape: how large, how deep, what numbers -/
mutual
def okN (b : Nat) : U → Bool
  | .int i => decide (i.natAbs < 10 ^ b)
  | .str x => PyData.strOk x
  | .tup us => okNA b us
  | .lst us => okNA b us
  | .non => true
  | .bl _ => true
def okNA (b : Nat) : List U → Bool
  | [] => true
  | u :: us => okN b u && okNA b us
end
mutual
def szU : U → Nat
  | .str x => x.cps.size
  | .tup us => szUA us
  | .lst us => szUA us
  | .int _ => 0
  | .non => 0
  | .bl _ => 0
def szUA : List U → Nat
  | [] => 0
  | u :: us => szU u + 1 + szUA us
end
mutual
def dpU : U → Nat
  | .tup us => dpUA us + 1
  | .lst us => dpUA us + 1
  | .str _ => 0
  | .int _ => 0
  | .non => 0
  | .bl _ => 0
def dpUA : List U → Nat
  | [] => 0
  | u :: us => max (dpU u) (dpUA us)
end
mutual
def wdU : U → Nat
  | .tup us => max us.length (wdUA us)
  | .lst us => max us.length (wdUA us)
  | .str _ => 0
  | .int _ => 0
  | .non => 0
  | .bl _ => 0
def wdUA : List U → Nat
  | [] => 0
  | u :: us => max (wdU u) (wdUA us)
end
theorem wdUA_le {k : Nat} : ∀ {us : List U}, wdUA us ≤ k ↔ ∀ u ∈ us, wdU u ≤ k
  | [] => by simp [wdUA]
  | u :: us => by simp [wdUA, Nat.max_le, wdUA_le (us := us)]
theorem wdUA_mem {us : List U} {u : U} (h : u ∈ us) : wdU u ≤ wdUA us := wdUA_le.mp (Nat.le_refl _) u h
theorem strOk_mem {x : Str} (h : PyData.strOk x = true) : ∀ c ∈ x.cps.toList, c < 0x110000 := fun c hc => by
  unfold PyData.strOk at h
  rw [Array.all_eq_true_iff_forall_mem] at h
  exact ofT (h c (by simpa using hc))
theorem sh_S {k : Nat} {x : Str} (h : PyData.strOk x = true) : Sh x.cps.size k (eS x) := ⟨rfl, by
    simp only [eS, py, PyData.leavesShort, List.all_eq_true]
    intro c hc
    exact dT (Nat.lt_trans (strOk_mem h c hc) (by decide)), by simp [eS, py, PyData.bulk], rfl, rfl, Nat.zero_le _⟩
mutual
theorem sh_U {b : Nat} (hb : b ≤ 63) : ∀ u : U, okN b u = true → Sh (szU u) (dpU u) (eU u)
  | .non, _ => sh_non
  | .bl _, _ => sh_B
  | .int i, h => sh_I (Nat.lt_of_lt_of_le (ofT h) (Nat.pow_le_pow_right (by decide) hb))
  | .str x, h => sh_S h
  | .tup us, h => sh_tup (sh_UA hb us h)
  | .lst us, h => sh_lst (sh_UA hb us h)
theorem sh_UA {b : Nat} (hb : b ≤ 63) : ∀ us : List U, okNA b us = true → ShA (szUA us) (dpUA us) (eUA us)
  | [], _ => shA_nil
  | u :: us, h => by
    have h' : okN b u = true ∧ okNA b us = true := by simpa [okNA] using h
    have a := sh_U hb u h'.1
    have c := sh_UA hb us h'.2
    exact shA_cons (a.mono (Nat.le_refl _) (Nat.le_max_left _ _)) ⟨c.fl, c.lf, c.bk, c.sw, c.hd, Nat.le_trans c.dp (Nat.le_max_right _ _)⟩
end
theorem okNA_iff {b : Nat} : ∀ {us : List U}, okNA b us = true ↔ ∀ u ∈ us, okN b u = true
  | [] => by simp [okNA]
  | u :: us => by simp [okNA, okNA_iff (us := us)]
theorem szUA_app : ∀ xs ys : List U, szUA (xs ++ ys) = szUA xs + szUA ys
  | [], ys => by simp [szUA]
  | x :: xs, ys => by simp only [List.cons_append, szUA, szUA_app xs ys]; omega
theorem szUA_len : ∀ xs : List U, xs.length ≤ szUA xs
  | [] => by simp
  | x :: xs => by have := szUA_len xs; simp only [szUA, List.length_cons]; omega
theorem szUA_sub {xs ys : List U} (h : xs.Sublist ys) : szUA xs ≤ szUA ys := by
  induction h with
  | slnil => exact Nat.le_refl _
  | cons a _ ih => simp only [szUA]; omega
  | cons_cons a _ ih => simp only [szUA]; omega
theorem szUA_mem : ∀ {xs : List U} {u : U}, u ∈ xs → szU u < szUA xs
  | x :: xs, u, h => by
    rcases List.mem_cons.mp h with rfl | h
    · simp only [szUA]; omega
    · have := szUA_mem h; simp only [szUA]; omega
theorem szUA_perm {xs ys : List U} (h : xs.Perm ys) : szUA xs = szUA ys := by
  induction h with
  | nil => rfl
  | cons a _ ih => simp only [szUA, ih]
  | swap a b l => simp only [szUA]; omega
  | trans _ _ h1 h2 => exact h1.trans h2
theorem dpUA_le {k : Nat} : ∀ {us : List U}, dpUA us ≤ k ↔ ∀ u ∈ us, dpU u ≤ k
  | [] => by simp [dpUA]
  | u :: us => by simp [dpUA, Nat.max_le, dpUA_le (us := us)]
theorem dpUA_mem {us : List U} {u : U} (h : u ∈ us) : dpU u ≤ dpUA us := dpUA_le.mp (Nat.le_refl _) u h
mutual
theorem okN_mono {b c : Nat} (h : b ≤ c) : ∀ u : U, okN b u = true → okN c u = true
  | .non, _ => rfl
  | .bl _, _ => rfl
  | .int i, q => dT (Nat.lt_of_lt_of_le (ofT q) (Nat.pow_le_pow_right (by decide) h))
  | .str x, q => q
  | .tup us, q => okNA_mono h us q
  | .lst us, q => okNA_mono h us q
theorem okNA_mono {b c : Nat} (h : b ≤ c) : ∀ us : List U, okNA b us = true → okNA c us = true
  | [], _ => rfl
  | u :: us, q => by
    have q' : okN b u = true ∧ okNA b us = true := by simpa [okNA] using q
    show (okN c u && okNA c us) = true
    rw [okN_mono h u q'.1, okNA_mono h us q'.2]; rfl
end
mutual
theorem lay_U {b : Nat} : ∀ u : U, okN b u = true → (py (eU u)).canLay0 = true
  | .non, _ => rfl
  | .bl _, _ => rfl
  | .int _, _ => rfl
  | .str _, h => h
  | .tup us, h => by simpa [eU, py, PyData.canLay0] using lay_UA us h
  | .lst us, h => by simpa [eU, py, PyData.canLay0] using lay_UA us h
theorem lay_UA {b : Nat} : ∀ us : List U, okNA b us = true → PyData.canLayAll0 (pyA (eUA us)) = true
  | [], _ => rfl
  | u :: us, h => by
    have h' : okN b u = true ∧ okNA b us = true := by simpa [okNA] using h
    simp [eUA, pyA, PyData.canLayAll0, lay_U u h'.1, lay_UA us h'.2]
end
mutual
theorem dp_U : ∀ u : U, (py (eU u)).depth = dpU u
  | .non => rfl
  | .bl _ => rfl
  | .int _ => rfl
  | .str _ => rfl
  | .tup us => by have := dp_UA us; simp only [eU, py, PyData.depth, dpU, this]
  | .lst us => by have := dp_UA us; simp only [eU, py, PyData.depth, dpU, this]
theorem dp_UA : ∀ us : List U, PyData.depthAll (pyA (eUA us)) = dpUA us
  | [] => rfl
  | u :: us => by have h1 := dp_U u; have h2 := dp_UA us; simp only [eUA, pyA, PyData.depthAll, dpUA, h1, h2]
end
theorem okd_U {b : Nat} {u : U} (ho : okN b u = true) (h : dpU u ≤ 64) : okd (eU u) = true := by
  unfold okd SeqAt.shaped
  rw [flt_U, lay_U u ho, dp_U]
  simpa using h
theorem eqQ_U {b c : Nat} {u v : U} (hu : okN b u = true) (h : dpU u ≤ 64) (hv : okN c v = true) (h2 : dpU v ≤ 64) : eqQ (eU u) (eU v) = some (eqD (eU u) (eU v)) := if_pos ⟨okd_U hu h, okd_U hv h2⟩
theorem eqQ_nil {b : Nat} {us : List U} (ho : okN b (.tup us) = true) (h : dpU (.tup us) ≤ 64) : eqQ (eU (.tup us)) (eU (.tup [])) = some (decide (us = [])) := by
  rw [eqQ_U ho h (c := 0) rfl (by decide)]
  cases us with
  | nil => simp [eqD, eU, eUA, py, pyA, PyData.eqv, PyData.eqvAll]
  | cons u us => simp [eqD, eU, eUA, py, pyA, PyData.eqv, PyData.eqvAll]
theorem repr_U {b : Nat} {u : U} (h : okN b u = true) (hb : b ≤ 63) (hs : szU u ≤ 250000) (hd : dpU u < 60) : ∃ s, reprQ (eU u) = some s := reprQ_ok (sh_U hb u h) hs hd
theorem ofString_ok (s : String) : PyData.strOk (Str.ofString s) = true := by
  unfold PyData.strOk
  rw [Str.ofString_eq_toList, Array.all_eq_true_iff_forall_mem]
  intro c hc
  obtain ⟨ch, _, rfl⟩ : ∃ ch ∈ s.toList, ch.toNat = c := by simpa using hc
  refine dT ?_
  rcases ch.valid with h | h
  · exact Nat.lt_trans h (by decide)
  · exact h.2
theorem strQ_sat {i : Int} {b : Nat} (h : i.natAbs < 10 ^ b) (hb : b ≤ 63) : Sat (strQ i) fun z => okN 0 (uS z) = true ∧ szU (uS z) ≤ 64 := by
  have q : i.natAbs < 10 ^ 63 := Nat.lt_of_lt_of_le h (Nat.pow_le_pow_right (by decide) hb)
  have e := int_text_length_le10 (a := i) (k := 63) (by omega) q
  refine ⟨_, if_pos ?_, ofString_ok _, ?_⟩
  · by_cases h0 : i.natAbs = 0
    · rw [h0]; decide
    · rw [Nat.log2_lt h0]
      exact Nat.lt_trans q (by decide +kernel)
  · show (Str.ofString (toString i)).cps.size ≤ 64
    have : (Str.ofString (toString i)).length ≤ 64 := by rw [PySem.ofString_length]; exact e
    exact this
theorem szUA_map {α : Type} {f : α → U} {n : Nat} : ∀ {xs : List α}, (∀ x ∈ xs, szU (f x) ≤ n) → szUA (xs.map f) ≤ (n + 1) * xs.length
  | [], _ => by simp [szUA]
  | x :: xs, h => by
    have h1 := h x (by simp)
    have h2 := szUA_map (xs := xs) fun y hy => h y (by simp [hy])
    simp only [List.map_cons, szUA, List.length_cons, Nat.mul_succ]
    omega

/-! each one less than the next one -/
def chn {α : Type} (R : α → α → Prop) : α → List α → Prop
  | _, [] => True
  | x, y :: ys => R x y ∧ chn R y ys
theorem chn_iff {α : Type} {R : α → α → Prop} : ∀ {x : α} {xs : List α}, chn R x xs ↔ ∀ (i : Nat) (a b : α), (x :: xs)[i]? = some a → (x :: xs)[i + 1]? = some b → R a b
  | x, [] => ⟨fun _ i a b _ h => by simp at h, fun _ => trivial⟩
  | x, y :: ys => by
    constructor
    · rintro ⟨h1, h2⟩ i a b ha hb
      cases i with
      | zero => simp at ha hb; rw [← ha, ← hb]; exact h1
      | succ i => exact chn_iff.mp h2 i a b (by simpa using ha) (by simpa using hb)
    · intro h
      exact ⟨h 0 x y rfl rfl, chn_iff.mpr fun i a b ha hb => h (i + 1) a b (by simpa using ha) (by simpa using hb)⟩

/-! each less than the next one, told by places; sorted(set) rises -/
theorem eqQ_II (i j : Int) : eqQ (eU (.int i)) (eU (.int j)) = some (decide (i = j)) := by
  have h : ∀ i : Int, okd (.int i) = true := fun i => by
    show (flt (.int i) && SeqAt.shaped (.int i)) = true
    simp [flt, SeqAt.shaped, PyData.canLay0, PyData.depth]
  show (if okd (.int i) = true ∧ okd (.int j) = true then some (eqD (.int i) (.int j)) else none) = _
  rw [if_pos ⟨h i, h j⟩]
  rfl
theorem chn_pw : ∀ {x : Int} {xs : List Int}, chn (· < ·) x xs ↔ (x :: xs).Pairwise (· < ·)
  | x, [] => ⟨fun _ => List.pairwise_singleton _ _, fun _ => trivial⟩
  | x, y :: ys => by
    constructor
    · rintro ⟨h1, h2⟩
      have h3 := chn_pw.mp h2
      refine List.pairwise_cons.mpr ⟨fun z hz => ?_, h3⟩
      rcases List.mem_cons.mp hz with rfl | hz
      · exact h1
      · have := (List.pairwise_cons.mp h3).1 z hz; omega
    · intro h
      have h := List.pairwise_cons.mp h
      exact ⟨h.1 y (by simp), chn_pw.mpr h.2⟩
theorem adj_pw {hs : List Int} : ((rngI 1 (hs.length : Int)).map fun k : Int => decide (hs.getD (k - 1).toNat 0 < hs.getD k.toNat 0)).all id = decide (hs.Pairwise (· < ·)) := by
  rw [Bool.eq_iff_iff, List.all_eq_true, decide_eq_true_iff]
  cases hs with
  | nil => exact ⟨fun _ => .nil, fun _ x hx => by simp [rngI] at hx⟩
  | cons p ps =>
    rw [← chn_pw, chn_iff]
    constructor
    · intro h i a b ha hb
      have hi : i + 1 < (p :: ps).length := (List.getElem?_eq_some_iff.mp hb).1
      have := ofT (h _ (List.mem_map.mpr ⟨(i : Int) + 1, mem_rngI.mpr ⟨by omega, by omega⟩, rfl⟩))
      rwa [show ((i : Int) + 1 - 1).toNat = i by omega, show ((i : Int) + 1).toNat = i + 1 by omega, List.getD_eq_getElem?_getD, List.getD_eq_getElem?_getD, ha, hb] at this
    · intro h x hx
      obtain ⟨k, hk, rfl⟩ := List.mem_map.mp hx
      obtain ⟨k0, k1⟩ := mem_rngI.mp hk
      obtain ⟨j, rfl⟩ : ∃ j : Nat, k = (j : Int) + 1 := ⟨(k - 1).toNat, by omega⟩
      refine dT ?_
      rw [show ((j : Int) + 1 - 1).toNat = j by omega, show ((j : Int) + 1).toNat = j + 1 by omega, List.getD_eq_getElem?_getD, List.getD_eq_getElem?_getD]
      have j1 : j < (p :: ps).length := by omega
      have j2 : j + 1 < (p :: ps).length := by omega
      rw [List.getElem?_eq_getElem j1, List.getElem?_eq_getElem j2]
      exact h j _ _ (List.getElem?_eq_getElem j1) (List.getElem?_eq_getElem j2)
theorem dups_rise (ns : List Int) : (dups ns).Pairwise (· < ·) := by
  have nd : ns.eraseDups.Nodup := nodup_dups _ ns (Nat.le_refl _)
  have p : (dups ns).Perm ns.eraseDups := List.mergeSort_perm _ _
  have pw : (dups ns).Pairwise (· ≤ ·) := by
    have := List.pairwise_mergeSort (le := fun a b : Int => decide (a ≤ b)) (fun a b c => by simp only [decide_eq_true_eq]; omega) (fun a b => by simp only [Bool.or_eq_true, decide_eq_true_eq]; omega) ns.eraseDups
    exact this.imp fun h => by simpa using h
  exact rise_of pw (p.nodup_iff.mpr nd)

/-! plans, as things by themselves -/
inductive Pl where
  | mk (ps : List Int) (qs : List Pl)
instance : Inhabited Pl := ⟨.mk [] []⟩
mutual
def encP : Pl → U
  | .mk ps qs => .tup [uV uI ps, .tup (encA qs)]
def encA : List Pl → List U
  | [] => []
  | q :: qs => encP q :: encA qs
end
mutual
def flatP : Pl → List Int
  | .mk ps qs => ps ++ flatA qs
def flatA : List Pl → List Int
  | [] => []
  | q :: qs => flatP q ++ flatA qs
end
mutual
def depP : Pl → Nat
  | .mk _ qs => depA qs + 1
def depA : List Pl → Nat
  | [] => 0
  | q :: qs => max (depP q) (depA qs)
end
mutual
def deeP : Pl → Nat
  | .mk ps qs => ps.length + deeA qs
def deeA : List Pl → Nat
  | [] => 0
  | q :: qs => max (deeP q) (deeA qs)
end
mutual
def chP (x : Int) : Pl → List Int
  | .mk ps qs => if x ∈ ps then ps else ps ++ chA x qs
def chA (x : Int) : List Pl → List Int
  | [] => []
  | q :: qs => (if x ∈ flatP q then chP x q else []) ++ chA x qs
end
def PlsOk (ps : List Int) : Prop := ps ≠ [] ∧ (∀ p ∈ ps, 0 ≤ p) ∧ ps.Pairwise (· < ·)
instance (ps : List Int) : Decidable (PlsOk ps) := by unfold PlsOk; infer_instance
mutual
def GdP : Pl → Prop
  | .mk ps qs => PlsOk ps ∧ GdA qs
def GdA : List Pl → Prop
  | [] => True
  | q :: qs => GdP q ∧ GdA qs
end
theorem encA_map : ∀ qs : List Pl, encA qs = qs.map encP
  | [] => rfl
  | q :: qs => by rw [encA, encA_map qs]; rfl
theorem GdA_iff : ∀ {qs : List Pl}, GdA qs ↔ ∀ q ∈ qs, GdP q
  | [] => by simp [GdA]
  | q :: qs => by simp [GdA, GdA_iff (qs := qs)]
theorem depA_le {k : Nat} : ∀ {qs : List Pl}, depA qs ≤ k ↔ ∀ q ∈ qs, depP q ≤ k
  | [] => by simp [depA]
  | q :: qs => by simp [depA, Nat.max_le, depA_le (qs := qs)]
theorem deeA_le {k : Nat} : ∀ {qs : List Pl}, deeA qs ≤ k ↔ ∀ q ∈ qs, deeP q ≤ k
  | [] => by simp [deeA]
  | q :: qs => by simp [deeA, Nat.max_le, deeA_le (qs := qs)]
theorem flatA_mem {x : Int} : ∀ {qs : List Pl}, x ∈ flatA qs ↔ ∃ q ∈ qs, x ∈ flatP q
  | [] => by simp [flatA]
  | q :: qs => by simp [flatA, flatA_mem (qs := qs)]
theorem flatA_flat : ∀ qs : List Pl, flatA qs = (qs.map flatP).flatten
  | [] => rfl
  | q :: qs => by simp [flatA, flatA_flat qs]
theorem depP_pos (p : Pl) : 0 < depP p := by cases p; simp only [depP]; omega
theorem flatA_len {q : Pl} : ∀ {qs : List Pl}, q ∈ qs → (flatP q).length ≤ (flatA qs).length
  | a :: qs, h => by
    simp only [flatA, List.length_append]
    rcases List.mem_cons.mp h with rfl | h
    · omega
    · have := flatA_len h; omega
/-! what a thing is -/
theorem intsU_of (ps : List Int) : intsU (ps.map uI) = some ps := by
  induction ps with
  | nil => rfl
  | cons p ps ih =>
    show (intsU (ps.map uI)).map (p :: ·) = _
    rw [ih]; rfl
theorem intsU_inv : ∀ {us : List U} {ps : List Int}, intsU us = some ps → us = ps.map uI
  | [], _, h => by cases h; rfl
  | .int i :: r, ps, h => by
    unfold intsU at h
    obtain ⟨b, q3, rfl⟩ := Option.map_eq_some_iff.mp h
    rw [intsU_inv q3]; rfl
  | .non :: _, _, h => by cases h
  | .bl _ :: _, _, h => by cases h
  | .str _ :: _, _, h => by cases h
  | .tup _ :: _, _, h => by cases h
  | .lst _ :: _, _, h => by cases h
theorem vintU_of (ps : List Int) : vintU (uV uI ps) = some ps := intsU_of ps
theorem vintU_inv {u : U} {ps : List Int} (h : vintU u = some ps) : u = uV uI ps := by
  cases u <;> try cases h
  rw [intsU_inv h]; rfl
def plcU (u : U) : Option (List Int) := (vintU u).bind fun ps => if PlsOk ps then some ps else none
theorem plcU_some {u : U} {ps : List Int} : plcU u = some ps ↔ u = uV uI ps ∧ PlsOk ps := by
  unfold plcU
  constructor
  · intro h
    obtain ⟨qs, h1, h2⟩ := Option.bind_eq_some_iff.mp h
    split at h2
    · cases h2; exact ⟨vintU_inv h1, by assumption⟩
    · cases h2
  · rintro ⟨rfl, h⟩
    rw [vintU_of, Option.bind_some, if_pos h]
/-- a plan within so much room -/
def planF : Nat → U → Option Pl
  | 0, _ => none
  | r + 1, .tup [p, .tup us] => (plcU p).bind fun ps => (xA (planF r) us).map (Pl.mk ps)
  | _ + 1, _ => none
theorem xA_some {α : Type} {f : U → Option α} : ∀ {us : List U} {xs : List α}, xA f us = some xs ↔ us.map f = xs.map some
  | [], [] => ⟨fun _ => rfl, fun _ => rfl⟩
  | [], x :: xs => ⟨fun h => (by cases h), fun h => (by cases h)⟩
  | u :: us, xs => by
    unfold xA
    cases h : f u with
    | none =>
      refine ⟨fun q => (by cases q), fun q => ?_⟩
      cases xs with
      | nil => cases q
      | cons x xs => simp [h] at q
    | some a =>
      rw [Option.bind_some]
      cases xs with
      | nil =>
        refine ⟨fun q => ?_, fun q => by cases q⟩
        obtain ⟨b, _, q3⟩ := Option.map_eq_some_iff.mp q
        cases q3
      | cons x xs =>
        simp only [List.map_cons, h, List.cons.injEq, Option.some.injEq]
        rw [← xA_some (f := f) (us := us) (xs := xs)]
        cases xA f us <;> simp
theorem xA_isSome {α : Type} {f : U → Option α} : ∀ us : List U, (xA f us).isSome = us.all fun u => (f u).isSome
  | [] => rfl
  | u :: us => by
    unfold xA
    rw [List.all_cons, ← xA_isSome us]
    cases f u <;> simp
theorem planF_some : ∀ {r : Nat} {u : U} {p : Pl}, planF r u = some p ↔ u = encP p ∧ GdP p ∧ depP p ≤ r
  | 0, u, p => by
    have := depP_pos p
    refine ⟨fun h => (by cases h), fun h => by omega⟩
  | r + 1, u, .mk ps qs => by
    constructor
    · intro h
      unfold planF at h
      split at h
      · cases ‹_ = 0›
      · rename_i r0 q us e
        cases e
        obtain ⟨ps', h1, h2⟩ := Option.bind_eq_some_iff.mp h
        obtain ⟨qs', h3, h4⟩ := Option.map_eq_some_iff.mp h2
        cases h4
        obtain ⟨rfl, h5⟩ := plcU_some.mp h1
        have h6 := xA_some.mp h3
        have key : ∀ q ∈ qs, GdP q ∧ depP q ≤ r := fun q hq => by
          have : some q ∈ us.map (planF r) := by rw [h6]; exact List.mem_map.mpr ⟨q, hq, rfl⟩
          obtain ⟨u, _, hu⟩ := List.mem_map.mp this
          exact (planF_some.mp hu).2
        have e1 : us = qs.map encP := by
          refine List.ext_getElem? fun i => ?_
          have hi := congrArg (fun l : List (Option Pl) => l[i]?) h6
          simp only [List.getElem?_map] at hi ⊢
          cases hu : us[i]? with
          | none =>
            rw [hu] at hi
            cases hq : qs[i]? with
            | none => rfl
            | some q => rw [hq] at hi; cases hi
          | some u =>
            rw [hu] at hi
            cases hq : qs[i]? with
            | none => rw [hq] at hi; cases hi
            | some q =>
              rw [hq] at hi
              have hi : planF r u = some q := Option.some.inj hi
              rw [(planF_some.mp hi).1]; rfl
        refine ⟨by rw [encP, encA_map, e1], ⟨h5, GdA_iff.mpr fun q hq => (key q hq).1⟩, ?_⟩
        simp only [depP]
        have := depA_le.mpr fun q hq => (key q hq).2
        omega
      · cases h
    · rintro ⟨rfl, ⟨h1, h2⟩, h3⟩
      simp only [depP] at h3
      show (plcU (uV uI ps)).bind (fun ps => (xA (planF r) (encA qs)).map (Pl.mk ps)) = _
      rw [plcU_some.mpr ⟨rfl, h1⟩, Option.bind_some]
      have : xA (planF r) (encA qs) = some qs := by
        rw [xA_some, encA_map, List.map_map]
        refine List.map_congr_left fun q hq => ?_
        exact planF_some.mpr ⟨rfl, GdA_iff.mp h2 q hq, depA_le.mp (by omega) q hq⟩
      rw [this]; rfl
theorem planF_enc {r : Nat} {p : Pl} (h : GdP p) (hd : depP p ≤ r) : planF r (encP p) = some p := planF_some.mpr ⟨rfl, h, hd⟩
/-! the program's look -/
def natU : U → Bool
  | .int i => decide (0 ≤ i)
  | _ => false
theorem natU_all : ∀ {us : List U}, us.all natU = true → ∃ ps : List Int, us = ps.map uI ∧ ∀ p ∈ ps, 0 ≤ p
  | [], _ => ⟨[], rfl, fun _ h => by cases h⟩
  | u :: us, h => by
    rw [List.all_cons, Bool.and_eq_true] at h
    obtain ⟨ps, e, hp⟩ := natU_all h.2
    cases u with
    | int i => exact ⟨i :: ps, by rw [e]; rfl, fun p hq => by
        rcases List.mem_cons.mp hq with rfl | hq
        · exact ofT h.1
        · exact hp p hq⟩
    | _ => cases h.1
theorem natU_not {us : List U} (h : us.all natU = false) : plcU (.tup us) = none := by
  cases q : plcU (.tup us) with
  | none => rfl
  | some ps =>
    obtain ⟨e, _, h2, _⟩ := plcU_some.mp q
    cases e
    have : (ps.map uI).all natU = true := List.all_eq_true.mpr fun u hu => by
      obtain ⟨p, hp, rfl⟩ := List.mem_map.mp hu
      exact dT (h2 p hp)
    rw [this] at h; cases h
theorem ltQ_II (a b : Int) : ltQ (eU (.int a)) (eU (.int b)) = some (decide (a < b)) := rfl
theorem filterMap_some {α β : Type} (g : α → β) (xs : List α) : xs.filterMap (fun x => some (g x)) = xs.map g := by
  rw [show (fun x => some (g x)) = some ∘ g from rfl, List.filterMap_eq_map]
theorem are_places_U (u : U) (hs : szU u ≤ 400000) : q_are_places u = some (plcU u).isSome := by
  cases u with
  | tup us =>
    have hl : us.length ≤ 400000 := Nat.le_trans (szUA_len us) hs
    refine Sat.eq ?_
    unfold q_are_places
    refine .bind (P := fun v => v = decide (us = [])) ?_ fun v hv => ?_
    · refine .f rfl (.bindE (v := us) rfl (.ret ?_))
      cases us with
      | nil => rfl
      | cons a b => simp; omega
    · subst hv
      by_cases hz : us = []
      · subst hz; exact .t rfl (.ret rfl)
      refine .f (dF hz) (.bindE (v := us) rfl (.bindE (compQ_eq (g := fun x => some (natU x)) fun x hx => by cases x <;> rfl) ?_))
      rw [filterMap_some]
      cases ha : us.all natU with
      | false =>
        refine .t (by rw [List.all_map]; show (!(us.all natU)) = true; rw [ha]; rfl) (.ret ?_)
        rw [natU_not ha]; rfl
      | true =>
        obtain ⟨ps, rfl, hp⟩ := natU_all ha
        rw [List.length_map] at hl
        refine .f (by rw [List.all_map]; show (!((ps.map uI).all natU)) = false; rw [ha]; rfl) (.bindE (v := ps.map uI) rfl (.rng (h3 := by rw [List.length_map]; omega) (h4 := by rw [List.length_map]; omega) ?_))
        refine .bindE (compQ_eq (g := fun k => some (decide (ps.getD (k - 1).toNat 0 < ps.getD k.toNat 0))) fun k hk => ?_) (.ret ?_)
        · rw [List.length_map] at hk
          obtain ⟨k1, k2⟩ := mem_rngI.mp hk
          obtain ⟨j, rfl⟩ : ∃ j : Nat, k = (j : Int) + 1 := ⟨(k - 1).toNat, by omega⟩
          have j1 : j < ps.length := by omega
          have j2 : j + 1 < ps.length := by omega
          have g1 : ixQ (ps.map uI) ((j : Int) + 1 - 1) = some (uI ps[j]) := by
            rw [show (j : Int) + 1 - 1 = (j : Int) by omega, ixQ_nat, List.getElem?_map, List.getElem?_eq_getElem j1]; rfl
          have g2 : ixQ (ps.map uI) ((j : Int) + 1) = some (uI ps[j + 1]) := by
            rw [show (j : Int) + 1 = ((j + 1 : Nat) : Int) by omega, ixQ_nat, List.getElem?_map, List.getElem?_eq_getElem j2]; rfl
          refine Sat.eq ?_
          refine .bindE (Sat.eq (v := decide (ps[j] < ps[j + 1])) (.bindE (v := ps.map uI) rfl (.bindE g1 (.bindE (v := ps.map uI) rfl (.bindE g2 (.bindE (ltQ_II _ _) (.ret rfl))))))) (.ret ?_)
          rw [show ((j : Int) + 1 - 1).toNat = j by omega, show ((j : Int) + 1).toNat = j + 1 by omega]
          simp [List.getD_eq_getElem?_getD, j1, j2]
        · rw [filterMap_some, List.length_map, adj_pw]
          have e : plcU (.tup (ps.map uI)) = if PlsOk ps then some ps else none := by
            show (vintU (uV uI ps)).bind _ = _
            rw [vintU_of]; rfl
          rw [e]
          by_cases hw : ps.Pairwise (· < ·)
          · rw [dT hw, if_pos ⟨fun z => hz (by rw [z]; rfl), hp, hw⟩]; rfl
          · rw [dF hw, if_neg fun q => hw q.2.2]; rfl
  | _ => rfl
theorem is_plan_sat : ∀ (f : Nat) (u : U) (room : Int), 0 ≤ room → room.toNat < f → szU u ≤ 400000 → qR_is_plan_so_deep f u room = some (planF room.toNat u).isSome
  | 0, _, _, _, h, _ => by omega
  | f + 1, u, room, h0, hf, hs => by
    refine Sat.eq ?_
    rw [qR_is_plan_so_deep]
    by_cases hr : room = 0
    · subst hr
      refine .bindE (v := true) rfl (.t rfl (.ret rfl))
    obtain ⟨r, rfl⟩ : ∃ r : Nat, room = (r : Int) + 1 := ⟨(room - 1).toNat, by omega⟩
    rw [show ((r : Int) + 1).toNat = r + 1 by omega]
    have fin : planF (r + 1) u = none → Sat (some false) fun v => v = (planF (r + 1) u).isSome := fun h => by rw [h]; exact .ret rfl
    cases u with
    | tup us =>
      by_cases hl : us.length = 2
      · match us, hl with
        | [p, q], _ =>
          have hs' : szU p + 1 + (szU q + 1) ≤ 400000 := hs
          refine .bindE (v := false) (Sat.eq (.f (dF hr) (.bindE (v := false) rfl (.ret rfl)))) (.f rfl (.bindE (v := [p, q]) rfl (.bindE (v := p) rfl (.bindE (are_places_U p (by omega)) ?_))))
          cases hp : plcU p with
          | none =>
            refine .bindE (v := true) rfl (.t rfl (fin ?_))
            cases q <;> simp [planF, hp]
          | some ps =>
            refine .bindE (v := !isaU "tuple" q) rfl ?_
            cases q with
            | tup vs =>
              refine .f rfl (.bindE (v := [p, .tup vs]) rfl (.bindE (v := .tup vs) rfl (.bindE (v := vs) rfl (.bindE (compQ_eq (g := fun x => some (planF r x).isSome) fun x hx => ?_) (.ret ?_)))))
              · have := szUA_mem hx
                have hv : szUA vs ≤ 400000 := by simp only [szU] at hs'; omega
                have := is_plan_sat f x (r : Int) (by omega) (by omega) (by omega)
                rw [show (r : Int) + 1 - 1 = (r : Int) by omega, this]
                rfl
              · rw [filterMap_some, List.all_map]
                simp only [planF, hp, Option.bind_some, Option.isSome_map, xA_isSome]
                rfl
            | _ => exact .t rfl (fin (by simp [planF]))
      · refine .bindE (v := true) (Sat.eq (.f (dF hr) (.bindE (v := true) (Sat.eq (.f rfl (.bindE (v := us) rfl (.ret ?_)))) (.ret rfl)))) (.t rfl (fin ?_))
        · simp only [Bool.not_eq_true', decide_eq_false_iff_not]; omega
        · unfold planF
          split
          · rfl
          · rename_i e; cases e; exact absurd rfl hl
          · rfl
    | _ => exact .bindE (v := true) (Sat.eq (.f (dF hr) (.bindE (v := true) rfl (.ret rfl)))) (.t rfl (fin rfl))
theorem is_plan_U (u : U) (hs : szU u ≤ 400000) : q_is_plan u = some (planF 24 u).isSome := by
  unfold q_is_plan
  refine Sat.eq (.bindE (show q_is_plan_so_deep u 24 = _ from is_plan_sat 26 u 24 (by decide) (by decide) hs) (.ret rfl))
/-! order, chain, the longest one -/
theorem forQ_flat {F : List Int → U → Option (List Int)} {g : Pl → List Int} : ∀ {qs : List Pl} {s : List Int} {n : Nat}, (∀ q ∈ qs, ∀ s : List Int, s.length ≤ n → F s (encP q) = some (s ++ g q)) → s.length + (qs.map g).flatten.length ≤ n → forQ F (encA qs) s = some (s ++ (qs.map g).flatten)
  | [], s, _, _, _ => by simp [encA, forQ]
  | q :: qs, s, n, h, hn => by
    simp only [List.map_cons, List.flatten_cons, List.length_append] at hn
    unfold encA forQ
    rw [h q (by simp) s (by omega), Option.bind_some, forQ_flat (fun q hq => h q (by simp [hq])) (by rw [List.length_append]; omega)]
    simp
theorem plan_order_sat : ∀ (f : Nat) (p : Pl), depP p ≤ f → (flatP p).length ≤ 1000000 → qR_plan_order f (encP p) = some (flatP p)
  | 0, p, h, _ => by have := depP_pos p; omega
  | f + 1, .mk ps qs, h, hl => by
    simp only [depP] at h
    simp only [flatP, List.length_append] at hl
    refine Sat.eq ?_
    rw [qR_plan_order]
    refine .bindE (v := [uV uI ps, .tup (encA qs)]) rfl (.bindE (v := uV uI ps) rfl (.bindE (vintU_of ps) (.lq (.bindE (v := [uV uI ps, .tup (encA qs)]) rfl (.bindE (v := .tup (encA qs)) rfl (.bindE (v := encA qs) rfl ?_))))))
    refine .bindE (forQ_flat (g := flatP) (n := 1000000) (fun q hq s hs => ?_) (by rw [← flatA_flat]; omega)) (.ret ?_)
    · have := flatA_len hq
      refine Sat.eq (.bindE (plan_order_sat f q (depA_le.mp (by omega) q hq) (by omega)) (.bindE (catQ_ok (by omega)) (.lq (.ret rfl))))
    · rw [flatP, flatA_flat]
theorem plan_order_U {p : Pl} (h : depP p ≤ 26) (hl : (flatP p).length ≤ 1000000) : q_plan_order (encP p) = some (flatP p) := plan_order_sat 26 p h hl
mutual
theorem chP_len (x : Int) : ∀ p : Pl, (chP x p).length ≤ (flatP p).length
  | .mk ps qs => by
    simp only [chP, flatP]
    split
    · simp
    · have := chA_len x qs; simp only [List.length_append]; omega
theorem chA_len (x : Int) : ∀ qs : List Pl, (chA x qs).length ≤ (flatA qs).length
  | [] => Nat.le_refl _
  | q :: qs => by
    have h1 := chP_len x q
    have h2 := chA_len x qs
    simp only [chA, flatA, List.length_append]
    split
    · omega
    · simp; omega
end
theorem chA_flat (x : Int) : ∀ qs : List Pl, chA x qs = (qs.map fun q => if x ∈ flatP q then chP x q else []).flatten
  | [] => rfl
  | q :: qs => by simp [chA, chA_flat x qs]
theorem forQ_perm {F : List Int → U → Option (List Int)} {g : Pl → List Int} : ∀ {qs : List Pl} {s t : List Int} {n : Nat}, s.Perm t → (∀ q ∈ qs, ∀ s : List Int, s.length ≤ n → ∃ ys, F s (encP q) = some (s ++ ys) ∧ ys.Perm (g q)) → s.length + (qs.map g).flatten.length ≤ n → ∃ ys, forQ F (encA qs) s = some ys ∧ ys.Perm (t ++ (qs.map g).flatten)
  | [], s, t, _, hp, _, _ => ⟨s, by simp [encA, forQ], by simpa using hp⟩
  | q :: qs, s, t, n, hp, h, hn => by
    simp only [List.map_cons, List.flatten_cons, List.length_append] at hn
    obtain ⟨ys, e, py⟩ := h q (by simp) s (by omega)
    have hl := py.length_eq
    obtain ⟨zs, e2, pz⟩ := forQ_perm (qs := qs) (n := n) (s := s ++ ys) (t := t ++ g q) (hp.append py) (fun q hq => h q (by simp [hq])) (by rw [List.length_append]; omega)
    refine ⟨zs, ?_, ?_⟩
    · unfold encA forQ
      rw [e, Option.bind_some, e2]
    · simpa using pz
theorem chain_sat : ∀ (f : Nat) (p : Pl) (x : Int), depP p ≤ f → depP p ≤ 26 → (flatP p).length ≤ 1000000 → GdP p → ∃ ys, qR_chain f (encP p) x = some ys ∧ ys.Perm (chP x p) ∧ ys.Pairwise (· ≤ ·)
  | 0, p, _, h, _, _, _ => by have := depP_pos p; omega
  | f + 1, .mk ps qs, x, h, h26, hl, hg => by
    simp only [depP] at h h26
    simp only [flatP, List.length_append] at hl
    have hlen := chA_len x qs
    show Sat _ _
    rw [qR_chain]
    refine .bindE (v := [uV uI ps, .tup (encA qs)]) rfl (.bindE (v := uV uI ps) rfl (.bindE (vintU_of ps) ?_))
    by_cases hx : x ∈ ps
    · refine .t (dT hx) (.bindE (v := [uV uI ps, .tup (encA qs)]) rfl (.bindE (v := uV uI ps) rfl (.bindE (vintU_of ps) (.ret ⟨?_, hg.1.2.2.imp fun h => by omega⟩))))
      simp only [chP, if_pos hx, List.Perm.refl]
    · refine .f (dF hx) (.bindE (v := [uV uI ps, .tup (encA qs)]) rfl (.bindE (v := uV uI ps) rfl (.bindE (vintU_of ps) (.lq (.bindE (v := [uV uI ps, .tup (encA qs)]) rfl (.bindE (v := .tup (encA qs)) rfl (.bindE (v := encA qs) rfl ?_)))))))
      obtain ⟨ys, e, py⟩ := forQ_perm (F := fun (s17 : List Int) (x18 : U) => ((q_plan_order x18).bind fun r20 =>
        (if (decide (x ∈ r20)) = true then (qR_chain f x18 x).bind fun r22 =>
        (catQ s17 r22).bind fun v23 =>
        lq (v23 : List Int) fun v_found24 =>
        some v_found24 else some s17 : Option (List Int)).bind fun j25 =>
        some j25 : Option (List Int))) (g := fun q => if x ∈ flatP q then chP x q else []) (qs := qs) (s := ps) (t := ps) (n := 1000000) (.refl _) (by
        intro q hq s hs
        have := flatA_len hq
        have dq := depA_le.mp (Nat.le_refl (depA qs)) q hq
        obtain ⟨ys, e, py, _⟩ := chain_sat f q x (by omega) (by omega) (by omega) (GdA_iff.mp hg.2 q hq)
        have hpl := chP_len x q
        by_cases hm : x ∈ flatP q
        · refine ⟨ys, Sat.eq (.bindE (plan_order_U (by omega) (by omega)) (.bindE (Sat.eq (.t (dT hm) (.bindE e (.bindE (catQ_ok (by rw [py.length_eq]; omega)) (.lq (.ret rfl)))))) (.ret rfl))), by rw [if_pos hm]; exact py⟩
        · refine ⟨[], Sat.eq (.bindE (plan_order_U (by omega) (by omega)) (.bindE (Sat.eq (.f (dF hm) (.ret rfl))) (.ret (by simp)))), by rw [if_neg hm]⟩) (by rw [← chA_flat]; omega)
      refine .bindE e ?_
      obtain ⟨zs, e2, pz, wz⟩ := sortedQ_I ys
      refine .bindE e2 (.ret ⟨?_, wz⟩)
      simp only [chP, if_neg hx, chA_flat]
      exact pz.trans py
theorem chain_U {p : Pl} (x : Int) (h : depP p ≤ 26) (hl : (flatP p).length ≤ 1000000) (hg : GdP p) : ∃ ys, q_chain (encP p) x = some ys ∧ ys.Perm (chP x p) ∧ ys.Pairwise (· ≤ ·) := chain_sat 26 p x h h hl hg

theorem compQ_map {α β γ : Type} {F : β → Option (Option γ)} {e : α → β} {g : α → γ} : ∀ {xs : List α}, (∀ x ∈ xs, F (e x) = some (some (g x))) → compQ F (xs.map e) = some (xs.map g)
  | [], _ => rfl
  | x :: xs, h => by
    rw [List.map_cons, compQ, h x (by simp), Option.bind_some, compQ_map fun y hy => h y (by simp [hy])]
    rfl
theorem maxD_nat {qs : List Pl} : maxDQ 0 (qs.map fun q => ((deeP q : Nat) : Int)) = some ((deeA qs : Nat) : Int) := by
  unfold maxDQ
  cases qs with
  | nil => rfl
  | cons q qs =>
    rw [if_neg (by simp)]
    obtain ⟨m, e, hm, hle⟩ := maxQ_I (xs := (q :: qs).map fun q => ((deeP q : Nat) : Int)) (by simp)
    rw [e]
    obtain ⟨a, ha, rfl⟩ := List.mem_map.mp hm
    congr 2
    refine Nat.le_antisymm (deeA_le.mp (Nat.le_refl _) a ha) (deeA_le.mpr fun b hb => ?_)
    have := hle _ (List.mem_map.mpr ⟨b, hb, rfl⟩)
    omega
theorem deepest_sat : ∀ (f : Nat) (p : Pl), depP p ≤ f → qR_deepest f (encP p) = some ((deeP p : Nat) : Int)
  | 0, p, h => by have := depP_pos p; omega
  | f + 1, .mk ps qs, h => by
    simp only [depP] at h
    refine Sat.eq ?_
    rw [qR_deepest]
    refine .bindE (v := [uV uI ps, .tup (encA qs)]) rfl (.bindE (v := uV uI ps) rfl (.bindE (v := ps.map uI) rfl (.bindE (v := [uV uI ps, .tup (encA qs)]) rfl (.bindE (v := .tup (encA qs)) rfl (.bindE (v := encA qs) rfl ?_)))))
    have e : compQ (fun x7 : U => (((qR_deepest f x7).bind fun r8 => some r8) : Option Int).bind fun y => some (some y)) (encA qs) = some (qs.map fun q => ((deeP q : Nat) : Int)) := by
      rw [encA_map]
      have := compQ_map (F := fun x7 : U => (((qR_deepest f x7).bind fun r8 => some r8) : Option Int).bind fun y => some (some y)) (e := encP) (g := fun q => ((deeP q : Nat) : Int)) (xs := qs) fun q hq => by
        rw [deepest_sat f q (depA_le.mp (by omega) q hq)]; rfl
      exact this
    refine .bindE e (.bindE maxD_nat (.ret ?_))
    simp only [deeP, List.length_map]
    push_cast; rfl

/-! the law's look at places -/
theorem eqQ_nilL {b : Nat} {us : List U} (ho : okNA b us = true) (h : dpUA us < 64) : eqQ ((eL eU) us) ((eL eU) ([] : List U)) = some (decide (us = [])) := by
  have e : ∀ us : List U, eL eU us = eU (.lst us) := fun us => by show D.lst (us.map eU) = D.lst (eUA us); rw [eUA_map]
  rw [e, e, eqQ_U (b := b) (c := 0) (u := .lst us) (v := .lst []) ho (by simp only [dpU]; omega) rfl (by decide)]
  cases us with
  | nil => simp [eqD, eU, eUA, py, pyA, PyData.eqv, PyData.eqvAll]
  | cons u us => simp [eqD, eU, eUA, py, pyA, PyData.eqv, PyData.eqvAll]
def isI : U → Bool
  | .int _ => true
  | _ => false
theorem isI_all : ∀ {us : List U}, us.all isI = true → ∃ ps : List Int, us = ps.map uI
  | [], _ => ⟨[], rfl⟩
  | u :: us, h => by
    rw [List.all_cons, Bool.and_eq_true] at h
    obtain ⟨ps, e⟩ := isI_all h.2
    cases u with
    | int i => exact ⟨i :: ps, by rw [e]; rfl⟩
    | _ => cases h.1
theorem okNA_ints {b : Nat} {ps : List Int} : okNA b (ps.map uI) = true ↔ ∀ p ∈ ps, p.natAbs < 10 ^ b := by
  rw [okNA_iff]
  constructor
  · intro h p hp
    exact ofT (h _ (List.mem_map.mpr ⟨p, hp, rfl⟩))
  · intro h u hu
    obtain ⟨p, hp, rfl⟩ := List.mem_map.mp hu
    exact dT (h p hp)
theorem dpUA_ints (ps : List Int) : dpUA (ps.map uI) = 0 := by
  induction ps with
  | nil => rfl
  | cons p ps ih => rw [List.map_cons, dpUA, ih]; rfl
theorem eqD_ints (xs ys : List Int) : eqD (eU (uV uI xs)) (eU (uV uI ys)) = decide (xs = ys) := by
  have h : ∀ xs ys : List Int, PyData.eqvAll (pyA (eUA (xs.map uI))) (pyA (eUA (ys.map uI))) = decide (xs = ys) := by
    intro xs
    induction xs with
    | nil => intro ys; cases ys <;> simp [eUA, pyA, PyData.eqvAll]
    | cons x xs ih =>
      intro ys
      cases ys with
      | nil => simp [eUA, pyA, PyData.eqvAll]
      | cons y ys =>
        have := ih ys
        simp only [List.map_cons, eUA, pyA, PyData.eqvAll, this, uI, eU, py, PyData.eqv]
        by_cases e : x = y <;> simp [e]
  have := h xs ys
  unfold eqD
  simp only [uV, eU, py, PyData.eqv]
  exact this
theorem law_is_places_U {b : Nat} (u : U) (ho : okN b u = true) (hd : dpU u ≤ 60) (hw : wdU u < 64) : q__law_is_places u = some (plcU u).isSome := by
  cases u with
  | tup us =>
    have hl : us.length < 64 := Nat.lt_of_le_of_lt (Nat.le_max_left _ _) hw
    have ho' : okNA b us = true := ho
    refine Sat.eq ?_
    unfold q__law_is_places
    refine .bind (P := fun v => v = decide (us = [])) ?_ fun v hv => ?_
    · refine .f rfl (.bindE (v := us) rfl (.ret ?_))
      cases us with
      | nil => rfl
      | cons a b => simp; omega
    · subst hv
      by_cases hz : us = []
      · subst hz; exact .t rfl (.ret rfl)
      refine .f (dF hz) (.bindE (v := us) rfl ?_)
      have ef : (List.map (fun x8 : U => x8) (List.filter (fun x8 : U => ((!(isaU "int" x8)) || (isaU "bool" x8))) us)) = us.filter fun x => !(isI x) := by
        rw [List.map_id']
        refine List.filter_congr fun x _ => ?_
        cases x <;> rfl
      rw [ef]
      refine .bindE (eqQ_nilL (b := b) (okNA_iff.mpr fun u hu => okNA_iff.mp ho' u (List.mem_filter.mp hu).1) ?_) ?_
      · have h1 : dpUA (us.filter fun x => !(isI x)) ≤ dpUA us := dpUA_le.mpr fun u hu => dpUA_mem (List.mem_filter.mp hu).1
        simp only [dpU] at hd; omega
      cases ha : us.all isI with
      | false =>
        have hne : ¬ (us.filter fun x => !(isI x)) = [] := fun z => by
          have : us.all isI = true := List.all_eq_true.mpr fun u hu => by
            have := (List.filter_eq_nil_iff.mp z) u hu
            simpa using this
          rw [this] at ha; cases ha
        refine .t (by rw [dF hne]; rfl) (.ret ?_)
        cases q : plcU (.tup us) with
        | none => rfl
        | some ps =>
          obtain ⟨e, _⟩ := plcU_some.mp q
          cases e
          have : (ps.map uI).all isI = true := List.all_eq_true.mpr fun u hu => by
            obtain ⟨p, hp, rfl⟩ := List.mem_map.mp hu; rfl
          rw [this] at ha; cases ha
      | true =>
        obtain ⟨ps, rfl⟩ := isI_all ha
        have hnil : ((ps.map uI).filter fun x => !(isI x)) = [] := List.filter_eq_nil_iff.mpr fun u hu => by
          have := List.all_eq_true.mp ha u hu
          simp [this]
        have hp0 : ps ≠ [] := fun z => hz (by rw [z]; rfl)
        obtain ⟨p, qs, rfl⟩ := List.exists_cons_of_ne_nil hp0
        refine .f (by rw [dT hnil]; rfl) (.bindE (v := (p :: qs).map uI) rfl (.bindE (v := uI p) (by rw [ixQ_zero]; rfl) (.bindE (v := p) rfl ?_)))
        rw [List.length_map] at hl
        have e : plcU (.tup ((p :: qs).map uI)) = if PlsOk (p :: qs) then some (p :: qs) else none := by
          show (vintU (uV uI (p :: qs))).bind _ = _
          rw [vintU_of]; rfl
        rw [e]
        by_cases h0 : 0 ≤ p
        · have ok1 : ∀ xs : List Int, okN (b + 1) (uV uI xs) = true ∨ True := fun _ => .inr trivial
          have hd1 : ∀ xs : List Int, dpU (uV uI xs) ≤ 64 := fun xs => by show dpUA (xs.map uI) + 1 ≤ 64; rw [dpUA_ints]; omega
          have okd : okN b (uV uI (dups (p :: qs))) = true := okNA_ints.mpr fun x hx => by
            have hx' : x ∈ p :: qs := by
              have pm : (dups (p :: qs)).Perm (p :: qs).eraseDups := List.mergeSort_perm _ _
              exact List.mem_eraseDups.mp (pm.mem_iff.mp hx)
            exact okNA_ints.mp ho' x hx'
          refine .bindE (v := decide (p :: qs = dups (p :: qs))) (Sat.eq (.t (dT h0) (.bindE (vintU_of (p :: qs)) (.bindE (show ssetQ (p :: qs) = some (dups (p :: qs)) from if_pos hl) (.bindE (eqQ_U (u := uV uI (p :: qs)) ho (hd1 _) okd (hd1 _)) (.ret (eqD_ints _ _))))))) (.ret ?_)
          have hdup : (p :: qs = dups (p :: qs)) ↔ PlsOk (p :: qs) := by
            constructor
            · intro h
              have hw : (p :: qs).Pairwise (· < ·) := by rw [h]; exact dups_rise _
              refine ⟨by simp, fun x hx => ?_, hw⟩
              rcases List.mem_cons.mp hx with rfl | hx
              · exact h0
              · have := (List.pairwise_cons.mp hw).1 x hx; omega
            · exact fun h => dups_eq h.2.2 fun k => Iff.rfl
          by_cases hh : PlsOk (p :: qs)
          · rw [if_pos hh, dT (hdup.mpr hh)]; rfl
          · rw [if_neg hh, dF fun z => hh (hdup.mp z)]; rfl
        · refine .bindE (v := false) (Sat.eq (.f (dF h0) (.ret rfl))) (.ret ?_)
          rw [if_neg fun q => h0 (q.2.1 p (by simp))]; rfl
  | _ => rfl

/-! the law's own going through a plan -/
theorem law_flat_sat : ∀ (f : Nat) (p : Pl), depP p ≤ f → (flatP p).length ≤ 1000000 → qR__law_flat f (encP p) = some (flatP p)
  | 0, p, h, _ => by have := depP_pos p; omega
  | f + 1, .mk ps qs, h, hl => by
    simp only [depP] at h
    simp only [flatP, List.length_append] at hl
    refine Sat.eq ?_
    rw [qR__law_flat]
    refine .bindE (v := [uV uI ps, .tup (encA qs)]) rfl (.bindE (v := uV uI ps) rfl (.bindE (vintU_of ps) (.lq (.bindE (v := [uV uI ps, .tup (encA qs)]) rfl (.bindE (v := .tup (encA qs)) rfl (.bindE (v := encA qs) rfl ?_))))))
    refine .bindE (forQ_flat (g := flatP) (n := 1000000) (fun q hq s hs => ?_) (by rw [← flatA_flat]; omega)) (.ret ?_)
    · have := flatA_len hq
      refine Sat.eq (.bindE (law_flat_sat f q (depA_le.mp (by omega) q hq) (by omega)) (.bindE (catQ_ok (by omega)) (.lq (.ret rfl))))
    · rw [flatP, flatA_flat]
theorem law_flat_U {p : Pl} (h : depP p ≤ 26) (hl : (flatP p).length ≤ 1000000) : q__law_flat (encP p) = some (flatP p) := law_flat_sat 26 p h hl

/-! of plans in which each number stands once, one at most has a place -/
theorem chA_none {x : Int} : ∀ {qs : List Pl}, x ∉ flatA qs → chA x qs = [] ∧ qs.filter (fun q => decide (x ∈ flatP q)) = []
  | [], _ => ⟨rfl, rfl⟩
  | q :: qs, h => by
    simp only [flatA, List.mem_append, not_or] at h
    obtain ⟨h1, h2⟩ := chA_none h.2
    refine ⟨by simp [chA, h.1, h1], by rw [List.filter_cons, dF h.1]; exact h2⟩
theorem chA_one {x : Int} : ∀ {qs : List Pl}, (flatA qs).Nodup → x ∈ flatA qs → ∃ q ∈ qs, x ∈ flatP q ∧ chA x qs = chP x q ∧ qs.filter (fun q => decide (x ∈ flatP q)) = [q]
  | [], _, h => by cases h
  | q :: qs, nd, h => by
    simp only [flatA] at nd h
    obtain ⟨n1, n2, n3⟩ := List.nodup_append.mp nd
    rcases List.mem_append.mp h with h | h
    · have hn : x ∉ flatA qs := fun z => n3 x h x z rfl
      obtain ⟨e1, e2⟩ := chA_none hn
      refine ⟨q, by simp, h, by simp [chA, h, e1], by rw [List.filter_cons, dT h, e2]; rfl⟩
    · have hn : x ∉ flatP q := fun z => n3 x z x h rfl
      obtain ⟨a, ha, e1, e2, e3⟩ := chA_one n2 h
      exact ⟨a, by simp [ha], e1, by simp [chA, hn, e2], by rw [List.filter_cons, dF hn]; exact e3⟩
theorem nodup_kid {qs : List Pl} {q : Pl} (hq : q ∈ qs) (h : (flatA qs).Nodup) : (flatP q).Nodup := by
  induction qs with
  | nil => cases hq
  | cons a qs ih =>
    simp only [flatA] at h
    obtain ⟨n1, n2, n3⟩ := List.nodup_append.mp h
    rcases List.mem_cons.mp hq with rfl | hq
    · exact n1
    · exact ih hq n2
/-- no chain is longer than the longest one, and one is as long -/
theorem ch_le : ∀ (n : Nat) (p : Pl), depP p ≤ n → (flatP p).Nodup → ∀ x ∈ flatP p, (chP x p).length ≤ deeP p
  | 0, p, h, _, _, _ => by have := depP_pos p; omega
  | n + 1, .mk ps qs, h, nd, x, hx => by
    simp only [depP] at h
    simp only [flatP] at nd hx
    obtain ⟨n1, n2, n3⟩ := List.nodup_append.mp nd
    simp only [chP, deeP]
    split
    · omega
    · rename_i hn
      have hm : x ∈ flatA qs := (List.mem_append.mp hx).resolve_left hn
      obtain ⟨q, hq, e1, e2, _⟩ := chA_one n2 hm
      have := ch_le n q (depA_le.mp (by omega) q hq) (nodup_kid hq n2) x e1
      have := deeA_le.mp (Nat.le_refl _) q hq
      rw [e2, List.length_append]; omega
theorem deeA_get : ∀ {qs : List Pl}, qs ≠ [] → ∃ q ∈ qs, deeP q = deeA qs
  | [q], _ => ⟨q, by simp, by simp [deeA]⟩
  | q :: r :: qs, _ => by
    obtain ⟨a, ha, e⟩ := deeA_get (qs := r :: qs) (by simp)
    have e2 : deeA (q :: r :: qs) = max (deeP q) (deeA (r :: qs)) := rfl
    by_cases h : deeP q ≤ deeA (r :: qs)
    · exact ⟨a, List.mem_cons_of_mem _ ha, by rw [e2, e]; omega⟩
    · exact ⟨q, by simp, by rw [e2]; omega⟩
theorem ch_get : ∀ (n : Nat) (p : Pl), depP p ≤ n → GdP p → (flatP p).Nodup → ∃ x ∈ flatP p, (chP x p).length = deeP p
  | 0, p, h, _, _ => by have := depP_pos p; omega
  | n + 1, .mk ps qs, h, hg, nd => by
    simp only [depP] at h
    simp only [flatP] at nd
    obtain ⟨n1, n2, n3⟩ := List.nodup_append.mp nd
    cases qs with
    | nil =>
      obtain ⟨x, r, e⟩ := List.exists_cons_of_ne_nil hg.1.1
      refine ⟨x, ?_, ?_⟩
      · simp only [flatP]; rw [e]; simp
      · simp only [chP, deeP, deeA]
        rw [if_pos (by rw [e]; simp)]; omega
    | cons q0 qs =>
      obtain ⟨q, hq, e⟩ := deeA_get (qs := q0 :: qs) (by simp)
      obtain ⟨x, hx, e2⟩ := ch_get n q (depA_le.mp (by omega) q hq) (GdA_iff.mp hg.2 q hq) (nodup_kid hq n2)
      have hm : x ∈ flatA (q0 :: qs) := flatA_mem.mpr ⟨q, hq, hx⟩
      have hn : x ∉ ps := fun z => n3 x z x hm rfl
      obtain ⟨q', hq', e3, e4, e5⟩ := chA_one n2 hm
      have : q = q' := by
        have : q ∈ (q0 :: qs).filter fun q => decide (x ∈ flatP q) := List.mem_filter.mpr ⟨hq, dT hx⟩
        rw [e5] at this
        simpa using this
      subst this
      refine ⟨x, by simp only [flatP]; exact List.mem_append_right _ hm, ?_⟩
      simp only [chP, if_neg hn, deeP, List.length_append, e4, e2, e]

theorem compQ_filt {F : U → Option (Option U)} {g : Pl → Bool} : ∀ {qs : List Pl}, (∀ q ∈ qs, F (encP q) = some (if g q = true then some (encP q) else none)) → compQ F (encA qs) = some ((qs.filter g).map encP)
  | [], _ => rfl
  | q :: qs, h => by
    rw [encA, compQ, h q (by simp), Option.bind_some, compQ_filt fun y hy => h y (by simp [hy]), Option.bind_some, List.filter_cons]
    cases g q <;> rfl
theorem law_chain_U {b : Nat} {p : Pl} {x : Int} (hx : x ∈ flatP p) (hg : GdP p) (nd : (flatP p).Nodup) (hd : depP p ≤ 26) (hl : (flatP p).length ≤ 1000) (ho : okN b (encP p) = true) (hdp : dpU (encP p) ≤ 60) (hsz : szU (encP p) ≤ 50000) : ∃ ys, q__law_chain (encP p) x = some ys ∧ ys.Perm (chP x p) ∧ ys.Pairwise (· ≤ ·) := by
  show Sat _ _
  unfold q__law_chain
  refine .lq (.lq ?_)
  have hcp := chP_len x p
  refine .bind (Sat.while (fun s : List Int × List U => (s.2 = [] ∧ s.1.Perm (chP x p)) ∨ ∃ q, s.2 = [encP q] ∧ x ∈ flatP q ∧ GdP q ∧ (flatP q).Nodup ∧ depP q ≤ 26 ∧ (flatP q).length ≤ 1000 ∧ okN b (encP q) = true ∧ dpU (encP q) ≤ 60 ∧ (s.1 ++ chP x q).Perm (chP x p)) (fun s => szUA s.2) (.inr ⟨p, rfl, hx, hg, nd, hd, hl, ho, hdp, by simp⟩) (by show szU (encP p) + 1 + 0 < 100000; omega) ?_) ?_
  · rintro ⟨fo, so⟩ hI
    rcases hI with ⟨h1, h2⟩ | ⟨q, h1, hx, hg, nd, hd, hl, ho, hdp, hp⟩
    · simp only at h1; subst h1
      refine ⟨false, Sat.eq (.bindE (eqQ_nilL (b := b) rfl (by show (0 : Nat) < 64; decide)) (.ret rfl)), fun z => by cases z⟩
    · simp only at h1 hp; subst h1
      refine ⟨true, Sat.eq (.bindE (eqQ_nilL (b := b) (by show (okN b (encP q) && true) = true; rw [ho]; rfl) (by show max (dpU (encP q)) 0 < 64; omega)) (.ret rfl)), fun _ => ?_⟩
      obtain ⟨ps, qs⟩ := q
      have hlen := hp.length_eq
      rw [List.length_append] at hlen
      simp only [flatP, List.length_append] at hl
      refine .bindE (v := encP (.mk ps qs)) rfl (.lq (.bindE (v := [uV uI ps, .tup (encA qs)]) rfl (.bindE (v := uV uI ps) rfl (.bindE (vintU_of ps) (.bindE (catQ_ok (by show fo.length + _ ≤ _; omega)) (.lq (.bindE (v := [uV uI ps, .tup (encA qs)]) rfl (.bindE (v := .tup (encA qs)) rfl (.bindE (v := encA qs) rfl ?_)))))))))
      simp only [depP] at hd
      refine .bindE (compQ_filt (g := fun q => !(decide (x ∈ ps)) && decide (x ∈ flatP q)) fun c hc => ?_) (.lq (.ret ?_))
      · have := flatA_len hc
        refine Sat.eq (.bindE (v := !(decide (x ∈ ps)) && decide (x ∈ flatP c)) (Sat.eq (.bindE (v := [uV uI ps, .tup (encA qs)]) rfl (.bindE (v := uV uI ps) rfl (.bindE (vintU_of ps) ?_)))) ?_)
        · by_cases hm : x ∈ ps
          · exact .bindE (v := false) (Sat.eq (.f (by rw [dT hm]; rfl) (.ret rfl))) (.ret (by rw [dT hm]; rfl))
          · exact .bindE (v := decide (x ∈ flatP c)) (Sat.eq (.t (by rw [dF hm]; rfl) (.bindE (law_flat_U (depA_le.mp (by omega) c hc) (by omega)) (.ret rfl)))) (.ret (by rw [dF hm]; rfl))
        · refine .ite (fun h => ?_) fun h => ?_
          · rw [if_pos h]; exact .ret rfl
          · rw [h]; exact .ret rfl
      · by_cases hm : x ∈ ps
        · have e : qs.filter (fun q => !(decide (x ∈ ps)) && decide (x ∈ flatP q)) = [] := List.filter_eq_nil_iff.mpr fun c _ => by rw [dT hm]; simp
          rw [e]
          refine ⟨.inl ⟨rfl, ?_⟩, ?_⟩
          · simpa only [chP, if_pos hm] using hp
          · show 0 < szU (encP (.mk ps qs)) + 1 + 0; omega
        · have e : qs.filter (fun q => !(decide (x ∈ ps)) && decide (x ∈ flatP q)) = qs.filter (fun q => decide (x ∈ flatP q)) := List.filter_congr fun c _ => by rw [dF hm]; simp
          simp only [flatP] at nd hx
          have n2 := (List.nodup_append.mp nd).2.1
          have hxa : x ∈ flatA qs := (List.mem_append.mp hx).resolve_left hm
          obtain ⟨c, hc, c1, c2, c3⟩ := chA_one n2 hxa
          rw [e, c3]
          have hcm : encP c ∈ encA qs := by rw [encA_map]; exact List.mem_map.mpr ⟨c, hc, rfl⟩
          have hfl := flatA_len hc
          refine ⟨.inr ⟨c, rfl, c1, GdA_iff.mp hg.2 c hc, nodup_kid hc n2, ?_, by omega, ?_, ?_, ?_⟩, ?_⟩
          · have := depA_le.mp (Nat.le_refl _) c hc; omega
          · have ho2 : okNA b (encA qs) = true := by
              have ho' : (okN b (uV uI ps) && (okN b (.tup (encA qs)) && true)) = true := ho
              simp only [Bool.and_eq_true] at ho'
              exact ho'.2.1
            exact okNA_iff.mp ho2 _ hcm
          · have := dpUA_mem hcm
            have hd' : max (dpU (uV uI ps)) (max (dpUA (encA qs) + 1) 0) + 1 ≤ 60 := hdp
            omega
          · simp only [chP, if_neg hm, c2] at hp
            simpa [List.append_assoc] using hp
          · have := szUA_mem hcm
            show szU (encP c) + 1 + 0 < szUA (ps.map uI) + 1 + (szUA (encA qs) + 1 + 0) + 1 + 0
            omega
  · rintro ⟨fo, so⟩ ⟨hI, hc⟩
    rcases hI with ⟨h1, h2⟩ | ⟨q, h1, hx, hg, nd, hd, hl, ho, hdp, hp⟩
    · obtain ⟨zs, e, pz, wz⟩ := sortedQ_I fo
      exact .bindE e (.ret ⟨pz.trans h2, wz⟩)
    · simp only at h1; subst h1
      have : eqQ ((eL eU) [encP q]) ((eL eU) []) = some (decide ([encP q] = [])) := eqQ_nilL (b := b) (by show (okN b (encP q) && true) = true; rw [ho]; rfl) (by show max (dpU (encP q)) 0 < 64; omega)
      simp only [this, Option.bind_some] at hc
      cases hc
theorem sorted_uniq {xs ys zs : List Int} (h1 : xs.Perm zs) (h2 : ys.Perm zs) (w1 : xs.Pairwise (· ≤ ·)) (w2 : ys.Pairwise (· ≤ ·)) : xs = ys :=
  List.Perm.eq_of_pairwise (fun a b _ _ h1 h2 => by omega) w1 w2 (h1.trans h2.symm)

/-! how large plans are as things -/
theorem szUA_ints (ps : List Int) : szUA (ps.map uI) = ps.length := by
  induction ps with
  | nil => rfl
  | cons p ps ih => rw [List.map_cons, szUA, ih]; simp [uI, szU]; omega
theorem wdUA_ints (ps : List Int) : wdUA (ps.map uI) = 0 := by
  induction ps with
  | nil => rfl
  | cons p ps ih => rw [List.map_cons, wdUA, ih]; rfl
theorem encA_len (qs : List Pl) : (encA qs).length = qs.length := by rw [encA_map, List.length_map]
mutual
theorem encP_sz : ∀ p : Pl, GdP p → szU (encP p) + 1 ≤ 4 * (flatP p).length
  | .mk ps qs, h => by
    have h1 := encA_sz qs h.2
    have h2 : 0 < ps.length := List.length_pos_iff.mpr h.1.1
    show szUA (ps.map uI) + 1 + (szUA (encA qs) + 1 + 0) + 1 ≤ 4 * (ps ++ flatA qs).length
    rw [szUA_ints, List.length_append]; omega
theorem encA_sz : ∀ qs : List Pl, GdA qs → szUA (encA qs) ≤ 4 * (flatA qs).length
  | [], _ => Nat.le_refl _
  | q :: qs, h => by
    have h1 := encP_sz q h.1
    have h2 := encA_sz qs h.2
    show szU (encP q) + 1 + szUA (encA qs) ≤ 4 * (flatP q ++ flatA qs).length
    rw [List.length_append]; omega
end
mutual
theorem encP_dp : ∀ p : Pl, dpU (encP p) ≤ 2 * depP p
  | .mk ps qs => by
    have h1 := encA_dp qs
    show max (dpUA (ps.map uI) + 1) (max (dpUA (encA qs) + 1) 0) + 1 ≤ 2 * (depA qs + 1)
    rw [dpUA_ints]; omega
theorem encA_dp : ∀ qs : List Pl, dpUA (encA qs) ≤ 2 * depA qs
  | [] => Nat.le_refl _
  | q :: qs => by
    have h1 := encP_dp q
    have h2 := encA_dp qs
    show max (dpU (encP q)) (dpUA (encA qs)) ≤ 2 * max (depP q) (depA qs)
    omega
end
theorem flatP_pos {p : Pl} (h : GdP p) : 0 < (flatP p).length := by
  obtain ⟨ps, qs⟩ := p
  have h2 : 0 < ps.length := List.length_pos_iff.mpr h.1.1
  simp only [flatP, List.length_append]; omega
theorem kids_len : ∀ {qs : List Pl}, GdA qs → qs.length ≤ (flatA qs).length
  | [], _ => Nat.le_refl _
  | q :: qs, h => by
    have h1 := flatP_pos h.1
    have h2 := kids_len h.2
    simp only [flatA, List.length_append, List.length_cons]; omega
mutual
theorem encP_wd : ∀ p : Pl, GdP p → wdU (encP p) ≤ (flatP p).length + 2
  | .mk ps qs, h => by
    have h1 := encA_wd qs h.2
    have h2 := kids_len h.2
    show max 2 (max (max (ps.map uI).length (wdUA (ps.map uI))) (max (max (encA qs).length (wdUA (encA qs))) 0)) ≤ (ps ++ flatA qs).length + 2
    rw [wdUA_ints, encA_len, List.length_map, List.length_append]; omega
theorem encA_wd : ∀ qs : List Pl, GdA qs → wdUA (encA qs) ≤ (flatA qs).length + 2
  | [], _ => by show 0 ≤ _; omega
  | q :: qs, h => by
    have h1 := encP_wd q h.1
    have h2 := encA_wd qs h.2
    show max (wdU (encP q)) (wdUA (encA qs)) ≤ (flatP q ++ flatA qs).length + 2
    rw [List.length_append]; omega
end
mutual
theorem encP_ok {b : Nat} : ∀ p : Pl, (∀ x ∈ flatP p, x.natAbs < 10 ^ b) → okN b (encP p) = true
  | .mk ps qs, h => by
    have h1 := encA_ok qs fun x hx => h x (by simp only [flatP]; exact List.mem_append_right _ hx)
    have h2 : okNA b (ps.map uI) = true := okNA_ints.mpr fun x hx => h x (by simp only [flatP]; exact List.mem_append_left _ hx)
    show (okNA b (ps.map uI) && (okNA b (encA qs) && true)) = true
    rw [h1, h2]; rfl
theorem encA_ok {b : Nat} : ∀ qs : List Pl, (∀ x ∈ flatA qs, x.natAbs < 10 ^ b) → okNA b (encA qs) = true
  | [], _ => rfl
  | q :: qs, h => by
    have h1 := encP_ok q fun x hx => h x (by simp only [flatA]; exact List.mem_append_left _ hx)
    have h2 := encA_ok qs fun x hx => h x (by simp only [flatA]; exact List.mem_append_right _ hx)
    show (okN b (encP q) && okNA b (encA qs)) = true
    rw [h1, h2]; rfl
end
mutual
theorem depP_len : ∀ p : Pl, GdP p → depP p ≤ (flatP p).length
  | .mk ps qs, h => by
    have h1 := depA_len qs h.2
    have h2 : 0 < ps.length := List.length_pos_iff.mpr h.1.1
    simp only [depP, flatP, List.length_append]; omega
theorem depA_len : ∀ qs : List Pl, GdA qs → depA qs ≤ (flatA qs).length
  | [], _ => Nat.le_refl _
  | q :: qs, h => by
    have h1 := depP_len q h.1
    have h2 := depA_len qs h.2
    simp only [depA, flatA, List.length_append]; omega
end

theorem cutL_from {α : Type} {xs : List α} {k : Nat} (h : k ≤ xs.length) : cutL xs (some (k : Int)) none = xs.drop k := by
  unfold cutL HT.sIx
  simp only []
  rw [if_neg (by omega)]
  have : min (k : Int).toNat xs.length = k := by omega
  rw [this, List.take_of_length_le (by rw [List.length_drop]; omega)]

/-! a thing bent -/
structure Bn (c : Nat) (u v : U) : Prop where
  ok : okN (c + 1) v = true
  sz : szU v ≤ 2 * szU u + 70
  dp : dpU v ≤ dpU u + 1
  wd : wdU v ≤ wdU u + 1
theorem cut_some {α : Type} {xs : List α} {i : Int} (h0 : 0 ≤ i) (h1 : i < xs.length) : ∃ a, xs[i.toNat]? = some a ∧ xs = cutL xs none (some i) ++ a :: cutL xs (some (i + 1)) none := by
  obtain ⟨k, rfl⟩ := Int.eq_ofNat_of_zero_le h0
  have hk : k < xs.length := by omega
  refine ⟨xs[k], by simp [hk], ?_⟩
  rw [cutL_take (by omega), show (k : Int) + 1 = ((k + 1 : Nat) : Int) by omega, cutL_from (by omega)]
  simp
theorem cut_gap {α : Type} {xs : List α} {i : Int} (h0 : 0 ≤ i) (h1 : i ≤ xs.length) : (cutL xs none (some i) ++ cutL xs (some (i + 1)) none).Sublist xs := by
  obtain ⟨k, rfl⟩ := Int.eq_ofNat_of_zero_le h0
  rw [cutL_take (by omega)]
  have e : cutL xs (some ((k : Int) + 1)) none = xs.drop (k + 1) := by
    by_cases h : k + 1 ≤ xs.length
    · rw [show (k : Int) + 1 = ((k + 1 : Nat) : Int) by omega, cutL_from h]
    · have : xs.drop (k + 1) = [] := List.drop_eq_nil_of_le (by omega)
      rw [this]
      unfold cutL HT.sIx
      simp only []
      rw [if_neg (by omega), show min ((k : Int) + 1).toNat xs.length = xs.length by omega]
      simp
  rw [e]
  have h : (xs.take k ++ xs.drop (k + 1)).Sublist (xs.take k ++ xs.drop k) := by
    refine List.Sublist.append (List.Sublist.refl _) ?_
    rw [← List.drop_drop]
    exact List.drop_sublist _ _
  rwa [List.take_append_drop] at h
theorem cut_one {α : Type} {xs : List α} : (cutL xs none (some 1)) = xs.take 1 := by
  cases xs with
  | nil => rfl
  | cons x xs => exact cutL_take (k := 1) (by simp)
theorem szUA_take1 (us : List U) : szUA (us.take 1) ≤ szUA us := szUA_sub (List.take_sublist _ _)
theorem isa_tt {us : List U} : isaU "tuple" (.tup us) = true := by rfl
theorem isa_it {us : List U} : isaU "int" (.tup us) = false := by rfl
theorem pow_step (c : Nat) : 10 ^ c + 1 ≤ 10 ^ (c + 1) := by
  have : 0 < 10 ^ c := Nat.pow_pos (by decide)
  rw [Nat.pow_succ]; omega
theorem bn_leaf {c : Nat} {u v : U} (h : okN c v = true) (hs : szU v ≤ 70) (hd : dpU v ≤ 1) (hw : wdU v ≤ 1) : Bn c u v := ⟨okN_mono (Nat.le_succ _) v h, by omega, by omega, by omega⟩
theorem bent_sat : ∀ (f : Nat) {T : TT} {u : U} {c : Nat} {b : Int}, dpU u < f → dpU u ≤ 60 → szU u ≤ 400000 → okN c u = true → 2 ≤ c → c ≤ 60 → Tk b T → b + 3 * (f : Nat) ≤ 100000000001000 → f ≤ 100 → Sat (qR__law_bent f T u) fun r => Bn c u r.1 ∧ Tk (b + 3 * (f : Nat)) r.2
  | 0, _, _, _, _, h, _, _, _, _, _, _, _, _ => by omega
  | f + 1, T, u, c, b, hd, hd2, hs, ho, c1, c2, hT, hb, hf => by
    have p100 : ∀ i : Int, i.natAbs < 10 ^ 1 → okN c (uI i) = true := fun i h => dT (Nat.lt_of_lt_of_le h (Nat.pow_le_pow_right (by decide) (by omega)))
    have last : ∀ (T : TT) (b : Int), Tk b T → b ≤ 100000000001000 → Sat ((q__law_draw T (9 : Int)).bind fun r43 => (ixQ ([(uZ ()), (uB true), (uB false), (uI (0 : Int)), (uI (1 : Int)), (uS ("a" : Str)), (U.tup []), ((uL id) ([] : List U)), (U.tup [(uI (0 : Int))])] : List U) r43.1).bind fun v44 => some (v44, r43.2)) fun r => Bn c u r.1 ∧ Tk (b + 1) r.2 := by
      intro T b hT hb
      refine .bind (draw_sat hT (m := 9)) fun r ⟨a1, a2, t1⟩ => ?_
      obtain ⟨v, h1, h2⟩ := ixQ_ok (xs := ([(uZ ()), (uB true), (uB false), (uI (0 : Int)), (uI (1 : Int)), (uS ("a" : Str)), (U.tup []), ((uL id) ([] : List U)), (U.tup [(uI (0 : Int))])] : List U)) a1 (by simpa using a2)
      refine .bindE h1 (.ret ⟨?_, t1⟩)
      have hm := List.mem_of_getElem? h2
      simp only [List.mem_cons, List.not_mem_nil, or_false] at hm
      rcases hm with rfl | rfl | rfl | rfl | rfl | rfl | rfl | rfl | rfl
      · exact bn_leaf (v := uZ ()) rfl (by decide) (by decide) (by decide)
      · exact bn_leaf (v := uB true) rfl (by decide) (by decide) (by decide)
      · exact bn_leaf (v := uB false) rfl (by decide) (by decide) (by decide)
      · exact bn_leaf (v := uI 0) (p100 0 (by decide)) (by decide) (by decide) (by decide)
      · exact bn_leaf (v := uI 1) (p100 1 (by decide)) (by decide) (by decide) (by decide)
      · exact bn_leaf (v := uS "a") (ofString_ok _) (by show (Str.ofString "a").length ≤ 70; rw [PySem.ofString_length]; decide) (Nat.zero_le _) (Nat.zero_le _)
      · exact bn_leaf (v := U.tup []) rfl (by decide) (by decide) (by decide)
      · exact bn_leaf (v := U.lst []) rfl (by decide) (by decide) (by decide)
      · exact bn_leaf (v := U.tup [uI 0]) (by show (okN c (uI 0) && true) = true; rw [p100 0 (by decide)]; rfl) (by decide) (by decide) (by decide)
    unfold qR__law_bent
    match u, hd, hd2, hs, ho, last with
    | .tup us, hd, hd2, hs, ho, last =>
      have hd' : dpUA us < f := by simp only [dpU] at hd; omega
      have hs' : szUA us ≤ 400000 := hs
      have ho' : ∀ u ∈ us, okN c u = true := okNA_iff.mp ho
      have hl := szUA_len us
      refine .bind (P := fun j => (j.1 = true → us ≠ []) ∧ Tk (b + 1) j.2) ?_ ?_
      · refine .t isa_tt (.bindE (eqQ_nil ho (by omega)) (.bind (P := fun j => (j.1 = true → us ≠ []) ∧ Tk (b + 1) j.2) ?_ fun j hj => .ret hj))
        refine .ite (fun hc => ?_) fun hc => .ret ⟨fun h => (by cases h), hT.mono (by omega)⟩
        exact .bind (draw_sat hT (m := 4)) fun r ⟨_, _, t⟩ => .ret ⟨fun _ => by simpa using hc, t⟩
      · rintro ⟨j, T1⟩ ⟨h1, t1⟩
        simp only at h1 t1
        refine .ite (fun hj => ?_) fun _ => ?_
        · have hne := h1 hj
          have hpos : 0 < us.length := List.length_pos_iff.mpr hne
          refine .bindE (v := us) rfl (.bind (draw_sat t1 (m := (us.length : Int)) (by omega) (by omega) (by omega)) fun r ⟨a1, a2, t2⟩ => .lq ?_)
          obtain ⟨a, e1, e2⟩ := cut_some a1 a2
          obtain ⟨v, h3, h4⟩ := ixQ_ok (xs := us) a1 a2
          rw [e1] at h4; cases h4
          have ha : a ∈ us := List.mem_of_getElem? e1
          have hda := dpUA_mem ha
          have hsa := szUA_mem ha
          refine .bindE (v := us) rfl (.bindE (v := us) rfl (.bindE h3 (.bind (bent_sat f (u := a) (c := c) (by omega) (by simp only [dpU] at hd2; omega) (by omega) (ho' a ha) c1 c2 t2 (by omega) (by omega)) fun r14 ⟨B, t3⟩ => ?_)))
          have hX : ∀ x ∈ cutL us none (some r.1), x ∈ us := fun x hx => by rw [e2]; exact List.mem_append_left _ hx
          have hY : ∀ x ∈ cutL us (some (r.1 + 1)) none, x ∈ us := fun x hx => by rw [e2]; exact List.mem_append_right _ (List.mem_cons_of_mem _ hx)
          have hlen := congrArg List.length e2
          have hsz := congrArg szUA e2
          rw [List.length_append, List.length_cons] at hlen
          rw [szUA_app] at hsz
          simp only [szUA] at hsz
          refine .bindE (catQ_ok (by simp; omega)) (.bindE (v := us) rfl ?_)
          generalize cutL us none (some r.1) = X at hX hlen hsz ⊢
          generalize cutL us (some (r.1 + 1)) none = Y at hY hlen hsz ⊢
          refine .bindE (catQ_ok (by simp; omega)) (.ret ⟨⟨?_, ?_, ?_, ?_⟩, t3.mono (by push_cast; omega)⟩)
          · show okNA (c + 1) (((X ++ [r14.1]) ++ Y).map id) = true
            rw [List.map_id]
            refine okNA_iff.mpr fun x hx => ?_
            simp only [List.mem_append, List.mem_singleton] at hx
            rcases hx with (hx | rfl) | hx
            · exact okN_mono (Nat.le_succ _) x (ho' x (hX x hx))
            · exact B.ok
            · exact okN_mono (Nat.le_succ _) x (ho' x (hY x hx))
          · show szUA (((X ++ [r14.1]) ++ Y).map id) ≤ 2 * szUA us + 70
            rw [List.map_id, szUA_app, szUA_app]
            have := B.sz
            simp only [szUA]
            omega
          · show dpUA (((X ++ [r14.1]) ++ Y).map id) + 1 ≤ dpUA us + 1 + 1
            rw [List.map_id]
            have : dpUA ((X ++ [r14.1]) ++ Y) ≤ dpUA us + 1 := dpUA_le.mpr fun x hx => by
              simp only [List.mem_append, List.mem_singleton] at hx
              rcases hx with (hx | rfl) | hx
              · have := dpUA_mem (hX x hx); omega
              · have := B.dp; omega
              · have := dpUA_mem (hY x hx); omega
            omega
          · show max (((X ++ [r14.1]) ++ Y).map id).length (wdUA (((X ++ [r14.1]) ++ Y).map id)) ≤ max us.length (wdUA us) + 1
            rw [List.map_id]
            have : wdUA ((X ++ [r14.1]) ++ Y) ≤ wdUA us + 1 := wdUA_le.mpr fun x hx => by
              simp only [List.mem_append, List.mem_singleton] at hx
              rcases hx with (hx | rfl) | hx
              · have := wdUA_mem (hX x hx); omega
              · have := B.wd; have := wdUA_mem ha; omega
              · have := wdUA_mem (hY x hx); omega
            have : ((X ++ [r14.1]) ++ Y).length = us.length := by simp; omega
            omega
        · refine .t isa_tt (.bindE (v := us) rfl (.bind (draw_sat t1 (m := (us.length : Int) + 1) (by omega) (by omega) (by omega)) fun r ⟨a1, a2, t2⟩ => .lq ?_))
          have gap := cut_gap (xs := us) a1 (by omega)
          have glen := gap.length_le
          rw [List.length_append] at glen
          refine .bindE (v := us) rfl (.bindE (v := us) rfl (.bindE (v := us) rfl (.bindE (catQ_ok (by omega)) (.bindE (v := us) rfl (.bindE (v := us) rfl (.bindE (catQ_ok (by rw [cut_one, List.length_take]; omega)) (.bindE (v := us) rfl (.bindE (v := us) rfl (.bindE (catQ_ok (by simp; omega)) (.lq ?_))))))))))
          refine .bind (draw_sat t2 (m := 5)) fun r3 ⟨a3, a4, t3⟩ => ?_
          generalize hG : cutL us none (some r.1) ++ cutL us (some (r.1 + 1)) none = G at gap
          obtain ⟨v, h3, h4⟩ := ixQ_ok (xs := [uL id us, uV id G, uV id (us ++ cutL us none (some 1)), uV id us.reverse, uV id (us ++ [uI 0])]) a3 (by simpa using a4)
          refine .bindE h3 (.ret ⟨?_, t3.mono (by push_cast; omega)⟩)
          have hm := List.mem_of_getElem? h4
          simp only [List.mem_cons, List.not_mem_nil, or_false] at hm
          have lst : ∀ {v : U} (xs : List U), (v = .tup xs ∨ v = .lst xs) → (∀ x ∈ xs, x ∈ us ∨ x = uI 0) → szUA xs ≤ 2 * szUA us + 70 → xs.length ≤ us.length + 1 → Bn c (.tup us) v := fun {v} xs hv hx hz hlen => by
            have o : okNA (c + 1) xs = true := okNA_iff.mpr fun x h => by
              rcases hx x h with h | rfl
              · exact okN_mono (Nat.le_succ _) x (ho' x h)
              · exact okN_mono (Nat.le_succ _) _ (p100 0 (by decide))
            have d : dpUA xs ≤ dpUA us := dpUA_le.mpr fun x h => by
              rcases hx x h with h | rfl
              · exact dpUA_mem h
              · exact Nat.zero_le _
            have e : wdUA xs ≤ wdUA us := wdUA_le.mpr fun x h => by
              rcases hx x h with h | rfl
              · exact wdUA_mem h
              · exact Nat.zero_le _
            rcases hv with rfl | rfl
            · exact ⟨o, hz, by simp only [dpU]; omega, by simp only [wdU]; omega⟩
            · exact ⟨o, hz, by simp only [dpU]; omega, by simp only [wdU]; omega⟩
          rcases hm with rfl | rfl | rfl | rfl | rfl
          · exact lst us (.inr (by show U.lst (us.map id) = _; rw [List.map_id])) (fun x h => .inl h) (by omega) (by omega)
          · refine lst G (.inl (by show U.tup (G.map id) = _; rw [List.map_id])) (fun x h => .inl (gap.subset h)) ?_ (by have := gap.length_le; omega)
            have := szUA_sub gap; omega
          · refine lst (us ++ cutL us none (some 1)) (.inl (by show U.tup (List.map id _) = _; rw [List.map_id])) (fun x h => ?_) ?_ (by rw [cut_one, List.length_append, List.length_take]; omega)
            · rw [cut_one] at h
              rcases List.mem_append.mp h with h | h
              · exact .inl h
              · exact .inl (List.mem_of_mem_take h)
            · rw [szUA_app, cut_one]
              have := szUA_take1 us; omega
          · refine lst us.reverse (.inl (by show U.tup (List.map id _) = _; rw [List.map_id])) (fun x h => .inl (List.mem_reverse.mp h)) ?_ (by rw [List.length_reverse]; omega)
            rw [szUA_perm (List.reverse_perm us)]; omega
          · refine lst (us ++ [uI 0]) (.inl (by show U.tup (List.map id _) = _; rw [List.map_id])) (fun x h => ?_) ?_ (by simp)
            · rcases List.mem_append.mp h with h | h
              · exact .inl h
              · exact .inr (by simpa using h)
            · rw [szUA_app]
              simp only [szUA, uI, szU]; omega
    | .int i, hd, hd2, hs, ho, last =>
      have hi : i.natAbs < 10 ^ c := ofT ho
      refine .bindE (v := (false, T)) rfl ?_
      refine .f rfl (.f rfl (.t rfl (.bindE (v := i) rfl (.bindE (v := i) rfl (.bindE (eqQ_U (b := c) (c := c) ho (Nat.zero_le _) (p100 1 (by decide)) (Nat.zero_le _)) (.bindE (v := i) rfl (.bind (strQ_sat hi (by omega)) fun z ⟨z1, z2⟩ => .lq ?_)))))))
      refine .bind (draw_sat hT (m := 10)) fun r3 ⟨a3, a4, t3⟩ => ?_
      generalize eqD (eU (.int i)) (eU (uI 1)) = e1
      obtain ⟨v, h3, h4⟩ := ixQ_ok (xs := [(uI (i + (1 : Int))), (uI (i - (1 : Int))), (uB e1), (uZ ()), (uI (0 : Int)), (uI (24 : Int)), (uI (25 : Int)), (uI (99 : Int)), (uI (100 : Int)), (uS z)]) a3 (by simpa using a4)
      refine .bindE h3 (.ret ⟨?_, t3.mono (by push_cast; omega)⟩)
      have hm := List.mem_of_getElem? h4
      simp only [List.mem_cons, List.not_mem_nil, or_false] at hm
      have ps := pow_step c
      have p1000 : 10 ^ 3 ≤ 10 ^ (c + 1) := Nat.pow_le_pow_right (by decide) (by omega)
      have num : ∀ k : Int, k.natAbs < 10 ^ (c + 1) → Bn c (.int i) (uI k) := fun k h => ⟨dT h, Nat.zero_le _, Nat.zero_le _, Nat.zero_le _⟩
      rcases hm with rfl | rfl | rfl | rfl | rfl | rfl | rfl | rfl | rfl | rfl
      · exact num _ (by omega)
      · exact num _ (by omega)
      · exact ⟨rfl, Nat.zero_le _, Nat.zero_le _, Nat.zero_le _⟩
      · exact ⟨rfl, Nat.zero_le _, Nat.zero_le _, Nat.zero_le _⟩
      · exact num _ (by omega)
      · exact num _ (by omega)
      · exact num _ (by omega)
      · exact num _ (by omega)
      · exact num _ (by omega)
      · exact ⟨okN_mono (Nat.zero_le _) _ z1, by show szU (uS z) ≤ 2 * szU (U.int i) + 70; omega, Nat.zero_le _, Nat.zero_le _⟩
    | .non, hd, hd2, hs, ho, last => exact .bindE (v := (false, T)) rfl (.f rfl (.f rfl (.f rfl ((last _ _ hT (by omega)).imp fun r ⟨h1, h2⟩ => ⟨h1, h2.mono (by push_cast; omega)⟩))))
    | .bl x, hd, hd2, hs, ho, last => exact .bindE (v := (false, T)) rfl (.f rfl (.f rfl (.f rfl ((last _ _ hT (by omega)).imp fun r ⟨h1, h2⟩ => ⟨h1, h2.mono (by push_cast; omega)⟩))))
    | .str x, hd, hd2, hs, ho, last => exact .bindE (v := (false, T)) rfl (.f rfl (.f rfl (.f rfl ((last _ _ hT (by omega)).imp fun r ⟨h1, h2⟩ => ⟨h1, h2.mono (by push_cast; omega)⟩))))
    | .lst x, hd, hd2, hs, ho, last => exact .bindE (v := (false, T)) rfl (.f rfl (.f rfl (.f rfl ((last _ _ hT (by omega)).imp fun r ⟨h1, h2⟩ => ⟨h1, h2.mono (by push_cast; omega)⟩))))

/-! plans drawn -/
theorem law_plan_sat : ∀ (f : Nat) {T : TT} {pool : List Int} {b : Int}, pool ≠ [] → pool.length ≤ f → pool.Nodup → (∀ x ∈ pool, 0 ≤ x) → Tk b T → b + 2 * pool.length ≤ 100000000001000 → f ≤ 1000 → Sat (qR__law_plan f T pool) fun r => ∃ p, r.1 = encP p ∧ GdP p ∧ depP p ≤ f ∧ (flatP p).Perm pool ∧ Tk (b + 2 * pool.length - 1) r.2
  | 0, _, pool, _, h0, h1, _, _, _, _, _ => by have := List.length_pos_iff.mpr h0; omega
  | f + 1, T, pool, b, h0, hl, nd, hp, hT, hb, hf => by
    have hpos := List.length_pos_iff.mpr h0
    rw [qR__law_plan]
    refine .bind (draw_sat hT (m := (if ((pool).length : Int) < (3 : Int) then ((pool).length : Int) else (3 : Int))) (by split <;> omega) (by split <;> omega) (by omega)) fun r ⟨a1, a2, t1⟩ => .lq (.lq (.lq ?_))
    obtain ⟨k, hk⟩ : ∃ k : Nat, r.1 = (k : Int) := ⟨r.1.toNat, by omega⟩
    have hk2 : k + 1 ≤ pool.length := by split at a2 <;> omega
    have em : (1 : Int) + r.1 = ((k + 1 : Nat) : Int) := by omega
    rw [em, cutL_from hk2, cutL_take hk2]
    have hdl : (pool.drop (k + 1)).length = pool.length - (k + 1) := List.length_drop
    have hdnd : (pool.drop (k + 1)).Nodup := nd.sublist (List.drop_sublist _ _)
    have hdp : ∀ x ∈ pool.drop (k + 1), 0 ≤ x := fun x hx => hp x (List.mem_of_mem_drop hx)
    refine .bind (Sat.while (fun s : List U × List Int × TT => ∃ qs : List Pl, s.1 = encA qs ∧ GdA qs ∧ depA qs ≤ f ∧ (flatA qs ++ s.2.1).Perm (pool.drop (k + 1)) ∧ Tk (b + 1 + 2 * ((pool.drop (k + 1)).length - s.2.1.length : Int)) s.2.2) (fun s => s.2.1.length) ⟨[], rfl, trivial, Nat.zero_le _, .refl _, t1.mono (by simp)⟩ (by show (pool.drop (k + 1)).length < 100000; omega) ?_) ?_
    · rintro ⟨us, rest, T2⟩ ⟨qs, h1, h2, h3, h4, h5⟩
      simp only at h1 h4 h5
      refine ⟨!(decide (rest = [])), rfl, fun hne => ?_⟩
      have hne : rest ≠ [] := by simpa using hne
      have hrp := List.length_pos_iff.mpr hne
      have hlen := h4.length_eq
      rw [List.length_append] at hlen
      have hrnd : rest.Nodup := ((List.nodup_append.mp (h4.nodup_iff.mpr hdnd))).2.1
      have hr0 : ∀ x ∈ rest, 0 ≤ x := fun x hx => hdp x (h4.mem_iff.mp (List.mem_append_right _ hx))
      refine .bind (draw_sat h5 (m := (rest.length : Int)) (by omega) (by omega) (by omega)) fun r7 ⟨c1, c2, t2⟩ => .lq ?_
      obtain ⟨j, hj⟩ : ∃ j : Nat, r7.1 = (j : Int) := ⟨r7.1.toNat, by omega⟩
      have ej : (1 : Int) + r7.1 = ((j + 1 : Nat) : Int) := by omega
      have hj2 : j + 1 ≤ rest.length := by omega
      show Sat ((qR__law_plan f r7.2 (cutL rest none (some (1 + r7.1)))).bind _) _
      rw [ej, cutL_take hj2]
      have htl : (rest.take (j + 1)).length = j + 1 := by rw [List.length_take]; omega
      refine .bind (law_plan_sat f (pool := rest.take (j + 1)) (fun z => by rw [z] at htl; cases htl) (by omega) (hrnd.sublist (List.take_sublist _ _)) (fun x hx => hr0 x (List.mem_of_mem_take hx)) t2 (by rw [htl]; push_cast; omega) (by omega)) ?_
      rintro ⟨u, T3⟩ ⟨q, rfl, g1, g2, g3, g4⟩
      rw [htl] at g4
      have hk := kids_len h2
      have hus : us.length ≤ 16777215 := by
        rw [h1, encA_map, List.length_map]; omega
      refine .app (by show us.length < _; omega) (.lq (.ret ?_))
      rw [cutL_from hj2]
      refine ⟨⟨qs ++ [q], ?_, ?_, ?_, ?_, ?_⟩, ?_⟩
      · rw [h1, encA_map, encA_map, List.map_append]; rfl
      · refine GdA_iff.mpr fun a ha => ?_
        rcases List.mem_append.mp ha with ha | ha
        · exact GdA_iff.mp h2 a ha
        · rw [List.mem_singleton.mp ha]; exact g1
      · refine depA_le.mpr fun a ha => ?_
        rcases List.mem_append.mp ha with ha | ha
        · exact depA_le.mp h3 a ha
        · rw [List.mem_singleton.mp ha]; exact g2
      · refine .trans ?_ h4
        have e : flatA (qs ++ [q]) = flatA qs ++ flatP q := by rw [flatA_flat, flatA_flat]; simp
        show (flatA (qs ++ [q]) ++ rest.drop (j + 1)).Perm (flatA qs ++ rest)
        rw [e, List.append_assoc]
        refine List.Perm.append_left _ ?_
        refine (g3.append_right _).trans ?_
        rw [List.take_append_drop]
      · refine g4.mono ?_
        show _ ≤ b + 1 + 2 * (((pool.drop (k + 1)).length : Int) - ((rest.drop (j + 1)).length : Int))
        have : (rest.drop (j + 1)).length = rest.length - (j + 1) := List.length_drop
        rw [this]
        push_cast
        omega
      · show (rest.drop (j + 1)).length < rest.length
        rw [List.length_drop]; omega
    · rintro ⟨us, rest, T2⟩ ⟨⟨qs, h1, h2, h3, h4, h5⟩, hc⟩
      simp only at h1 h4 h5 hc
      have hr : rest = [] := by
        have := Option.some.inj hc
        simpa using this
      subst hr
      obtain ⟨zs, e, pz, wz⟩ := sortedQ_I (pool.take (k + 1))
      refine .bindE e (.ret ⟨.mk zs qs, ?_, ⟨⟨?_, ?_, ?_⟩, h2⟩, ?_, ?_, ?_⟩)
      · show U.tup [uV uI zs, U.tup (us.map id)] = _
        rw [List.map_id, h1]; rfl
      · intro z
        have := pz.length_eq
        rw [z, List.length_take] at this
        simp at this; omega
      · exact fun x hx => hp x (List.mem_of_mem_take (pz.mem_iff.mp hx))
      · exact rise_of wz (pz.nodup_iff.mpr (nd.sublist (List.take_sublist _ _)))
      · simp only [depP]; omega
      · rw [List.append_nil] at h4
        simp only [flatP]
        refine (pz.append h4).trans ?_
        rw [List.take_append_drop]
      · refine h5.mono ?_
        simp only [List.length_nil]
        rw [hdl]
        omega

theorem all_not_false {l : List Bool} : (!(decide (false ∈ l))) = l.all id := by
  rw [Bool.eq_iff_iff]
  simp only [Bool.not_eq_true', decide_eq_false_iff_not, List.all_eq_true, id]
  constructor
  · intro h b hb
    cases b with
    | true => rfl
    | false => exact absurd hb h
  · intro h z
    cases h false z
theorem law_is_plan_sat {b : Nat} : ∀ (f : Nat) (u : U) (deep : Int), 1 ≤ deep → deep ≤ 25 → (25 - deep).toNat < f → okN b u = true → dpU u ≤ 60 → wdU u < 64 → qR__law_is_plan f u deep = some (planF (25 - deep).toNat u).isSome
  | 0, _, _, _, _, h, _, _, _ => by omega
  | f + 1, u, deep, h1, h2, hf, ho, hd, hw => by
    refine Sat.eq ?_
    rw [qR__law_is_plan]
    by_cases hr : 24 < deep
    · have : (25 - deep).toNat = 0 := by omega
      rw [this]
      exact .bindE (v := true) (Sat.eq (.t (dT hr) (.ret rfl))) (.t rfl (.ret rfl))
    obtain ⟨r, hr2⟩ : ∃ r : Nat, (25 - deep).toNat = r + 1 := ⟨(24 - deep).toNat, by omega⟩
    rw [hr2]
    have fin : planF (r + 1) u = none → Sat (some false) fun v => v = (planF (r + 1) u).isSome := fun h => by rw [h]; exact .ret rfl
    cases u with
    | tup us =>
      by_cases hl : us.length = 2
      · match us, hl with
        | [p, q], _ =>
          have hd' : max (dpU p) (max (dpU q) 0) + 1 ≤ 60 := hd
          have hw' : max 2 (max (wdU p) (max (wdU q) 0)) < 64 := hw
          have ho' : (okN b p && (okN b q && true)) = true := ho
          simp only [Bool.and_eq_true] at ho'
          have e1 := law_is_places_U (b := b) p ho'.1 (by omega) (by omega)
          cases hp : plcU p with
          | none =>
            rw [hp] at e1
            refine .bindE (v := true) (Sat.eq (.f (dF hr) (.bindE (v := true) (Sat.eq (.f rfl (.bindE (v := [p, q]) rfl (.bindE (v := true) (Sat.eq (.f rfl (.bindE (v := [p, q]) rfl (.bindE (v := p) rfl (.bindE e1 (.ret rfl)))))) (.ret rfl))))) (.ret rfl)))) (.t rfl (fin ?_))
            cases q <;> simp [planF, hp]
          | some ps =>
            rw [hp] at e1
            refine .bindE (v := false) (Sat.eq (.f (dF hr) (.bindE (v := false) (Sat.eq (.f rfl (.bindE (v := [p, q]) rfl (.bindE (v := false) (Sat.eq (.f rfl (.bindE (v := [p, q]) rfl (.bindE (v := p) rfl (.bindE e1 (.ret rfl)))))) (.ret rfl))))) (.ret rfl)))) (.f rfl (.bindE (v := [p, q]) rfl (.bindE (v := q) rfl ?_)))
            cases q with
            | tup vs =>
              refine .bindE (v := vs.all fun x => (planF r x).isSome) (Sat.eq (.t rfl (.bindE (v := [p, .tup vs]) rfl (.bindE (v := .tup vs) rfl (.bindE (v := vs) rfl (.bindE (compQ_eq (g := fun x => some (planF r x).isSome) fun x hx => ?_) (.ret ?_))))))) (.ret ?_)
              · have m1 := dpUA_mem hx
                have m2 := wdUA_mem hx
                have m3 := okNA_iff.mp (show okNA b vs = true from ho'.2.1) x hx
                have hd2 : dpU (.tup vs) = dpUA vs + 1 := rfl
                have hw2 : wdU (.tup vs) = max vs.length (wdUA vs) := rfl
                have := law_is_plan_sat f x (deep + 1) (by omega) (by omega) (by omega) m3 (by omega) (by omega)
                rw [show (25 - (deep + 1)).toNat = r by omega] at this
                exact Sat.eq (.bindE (Sat.eq (.bindE this (.ret rfl))) (.ret rfl))
              · rw [all_not_false, filterMap_some, List.all_map]; rfl
              · simp only [planF, hp, Option.bind_some, Option.isSome_map, xA_isSome]
            | _ => exact .bindE (v := false) (Sat.eq (.f rfl (.ret rfl))) (.ret (by simp [planF]))
      · refine .bindE (v := true) (Sat.eq (.f (dF hr) (.bindE (v := true) (Sat.eq (.f rfl (.bindE (v := us) rfl (.bindE (v := true) (Sat.eq (.t ?_ (.ret rfl))) (.ret rfl))))) (.ret rfl)))) (.t rfl (fin ?_))
        · simp only [Bool.not_eq_true', decide_eq_false_iff_not]; omega
        · unfold planF
          split
          · rfl
          · rename_i e; cases e; exact absurd rfl hl
          · rfl
    | _ => exact .bindE (v := true) (Sat.eq (.f (dF hr) (.bindE (v := true) rfl (.ret rfl)))) (.t rfl (fin rfl))
theorem right_ok {b : Nat} {u : U} (ho : okN b u = true) (hb : b ≤ 63) (hs : szU u ≤ 100000) (hd : dpU u < 60) (hw : wdU u < 64) : q__law_right u = some true := by
  obtain ⟨z, hz⟩ := repr_U ho hb (by omega) hd
  obtain ⟨y, hy⟩ := reprQ_ok (sh_B (k := 0) (b := (planF 24 u).isSome))
  refine Sat.eq ?_
  unfold q__law_right
  refine .bindE hz (.lq (.bindE (is_plan_U u (by omega)) (.bindE hy (.bindE (show q__law_is_plan u 1 = _ from law_is_plan_sat 28 u 1 (by decide) (by decide) (by decide) ho (by omega) hw) (.bindE hy ?_)))))
  exact .bindE (v := true) (Sat.eq (.t (dT rfl) (.bindE hz (.ret (dT rfl))))) (.ret rfl)
theorem mapQ_ok {F : Int → Option (Option (List Int))} {G : Int → List Int} {xs : List Int} (h : ∀ x ∈ xs, F x = some (some (G x))) : compQ F xs = some (xs.map G) := by
  rw [compQ_eq (g := fun x => some (G x)) h, filterMap_some]
theorem plan_right_ok {p : Pl} (hg : GdP p) (nd : (flatP p).Nodup) (hd : depP p ≤ 26) (hl : (flatP p).length ≤ 40) (hn : ∀ x ∈ flatP p, 0 ≤ x ∧ x < 100) : q__law_plan_right (encP p) = some true := by
  have s1 := encP_sz p hg
  have s2 := encP_dp p
  have ho : okN 2 (encP p) = true := encP_ok p fun x hx => by have := hn x hx; omega
  obtain ⟨z, hz⟩ := repr_U ho (by decide) (by omega) (by omega)
  obtain ⟨y, hy⟩ := reprQ_ok (sh_V (e := eI) (n := 0) (k := 0) hl fun x hx => sh_I' (b := 100) (hn x hx).1 (by have := hn x hx; omega))
  obtain ⟨x, r, ex⟩ := List.exists_cons_of_ne_nil (List.length_pos_iff.mp (flatP_pos hg))
  have key : ∀ x ∈ flatP p, ∃ ys, q__law_chain (encP p) x = some ys ∧ q_chain (encP p) x = some ys ∧ ys.length = (chP x p).length := fun x hx => by
    obtain ⟨ys, e1, p1, w1⟩ := law_chain_U hx hg nd hd (by omega) ho (by omega) (by omega)
    obtain ⟨zs, e2, p2, w2⟩ := chain_U x hd (by omega) hg
    rw [sorted_uniq p2 p1 w2 w1] at e2
    exact ⟨ys, e1, e2, p1.length_eq⟩
  have ey : ∀ x ∈ flatP p, q__law_chain (encP p) x = some ((q__law_chain (encP p) x).getD []) ∧ q_chain (encP p) x = some ((q__law_chain (encP p) x).getD []) ∧ ((q__law_chain (encP p) x).getD []).length = (chP x p).length := fun x hx => by
    obtain ⟨ys, e1, e2, e3⟩ := key x hx
    rw [e1]; exact ⟨rfl, e2, e3⟩
  refine Sat.eq ?_
  unfold q__law_plan_right
  refine .bindE hz (.lq (.bindE (law_flat_U hd (by omega)) (.lq (.bindE (plan_order_U hd (by omega)) (.bindE hy (.bindE hy (.f (by rw [dT rfl]; rfl) ?_)))))))
  refine .bindE (mapQ_ok (G := fun x => (q__law_chain (encP p) x).getD []) fun x hx => by rw [(ey x hx).1]; rfl) (.lq (.bindE (mapQ_ok (G := fun x => (q__law_chain (encP p) x).getD []) fun x hx => by rw [(ey x hx).2.1]; rfl) ?_))
  refine .bindE (v := false) (Sat.eq (.f (by rw [dT rfl]; rfl) (.bindE (v := x) (by rw [ex, ixQ_zero]; rfl) (.bindE (ey x (by rw [ex]; simp)).2.1 (.ret rfl))))) (.f rfl ?_)
  have ed : q_deepest (encP p) = some ((deeP p : Nat) : Int) := deepest_sat 26 p hd
  have hdl : deeP p ≤ 40 := by
    obtain ⟨x, hx, e⟩ := ch_get _ p (Nat.le_refl _) hg nd
    have := chP_len x p; omega
  obtain ⟨v, hv⟩ := reprQ_ok (sh_I' (k := 0) (i := ((deeP p : Nat) : Int)) (b := 40) (by omega) (by omega))
  have em : maxQ eI (List.map (fun x38 : List Int => ((x38).length : Int)) ((flatP p).map fun x => (q__law_chain (encP p) x).getD [])) = some ((deeP p : Nat) : Int) := by
    obtain ⟨m, e, hm, hle⟩ := maxQ_I (xs := List.map (fun x38 : List Int => ((x38).length : Int)) ((flatP p).map fun x => (q__law_chain (encP p) x).getD [])) (by rw [ex]; simp)
    rw [e]
    congr 1
    simp only [List.map_map, List.mem_map, Function.comp] at hm
    obtain ⟨x, hx, rfl⟩ := hm
    have h1 := ch_le _ p (Nat.le_refl _) nd x hx
    obtain ⟨x', hx', e'⟩ := ch_get _ p (Nat.le_refl _) hg nd
    have h2 := hle _ (List.mem_map.mpr ⟨_, List.mem_map.mpr ⟨x', hx', rfl⟩, rfl⟩)
    rw [(ey x hx).2.2]
    rw [(ey x hx).2.2, (ey x' hx').2.2] at h2
    omega
  refine .bindE ed (.bindE hv (.bindE em (.bindE hv ?_)))
  exact .bindE (v := true) (Sat.eq (.t (dT rfl) (.bindE hz (.ret (dT rfl))))) (.ret rfl)
theorem deep_ok {m : Int} (h1 : 1 ≤ m) (h2 : m ≤ 60) : ∃ p, q__law_deep m = some (encP p) ∧ GdP p ∧ (depP p : Int) = m ∧ (flatP p).Nodup ∧ ((flatP p).length : Int) = m ∧ ∀ x ∈ flatP p, 0 ≤ x ∧ x ≤ m := by
  have main : Sat (q__law_deep m) fun u => ∃ p, u = encP p ∧ GdP p ∧ (depP p : Int) = m ∧ (flatP p).Nodup ∧ ((flatP p).length : Int) = m ∧ ∀ x ∈ flatP p, 0 ≤ x ∧ x ≤ m := by
    unfold q__law_deep
    refine .lq (.rng (.bind (Sat.forQ (fun k u => ∃ p, u = encP p ∧ GdP p ∧ depP p = k + 1 ∧ (flatP p).Nodup ∧ (flatP p).length = k + 1 ∧ ∀ x ∈ flatP p, x = m ∨ 0 ≤ x ∧ x < (k : Nat)) ⟨.mk [m] [], rfl, ⟨⟨by simp, by simp; omega, by simp⟩, trivial⟩, rfl, by simp [flatP, flatA], rfl, by simp [flatP, flatA]⟩ ?_) ?_))
    · rintro k x u hx ⟨p, rfl, g, d, nd, l, hn⟩
      obtain ⟨rfl, x0, x1⟩ := rngI_get hx
      refine .lq (.ret ⟨.mk [0 + (k : Int)] [p], rfl, ⟨⟨by simp, by simp, by simp⟩, g, trivial⟩, ?_, ?_, ?_, ?_⟩)
      · simp only [depP, depA]; omega
      · simp only [flatP, flatA, List.append_nil]
        refine List.nodup_cons.mpr ⟨fun z => ?_, nd⟩
        rcases hn _ z with h | h
        · omega
        · omega
      · simp only [flatP, flatA, List.append_nil, List.length_append, List.length_cons, List.length_nil]; omega
      · intro y hy
        simp only [flatP, flatA, List.append_nil, List.cons_append, List.nil_append, List.mem_cons] at hy
        rcases hy with rfl | hy
        · right; push_cast; omega
        · rcases hn y hy with h | h
          · exact .inl h
          · right; push_cast; omega
    · rintro u ⟨p, rfl, g, d, nd, l, hn⟩
      rw [rngI_len] at d l hn
      refine .ret ⟨p, rfl, g, by omega, nd, by omega, fun x hx => ?_⟩
      rcases hn x hx with h | h
      · omega
      · omega
  obtain ⟨u, e, p, rfl, h⟩ := main
  exact ⟨p, e, h⟩
theorem order_draw {T : TT} {n b : Int} (n1 : 1 ≤ n) (n2 : n ≤ 12) (hT : Tk b T) (hb : b ≤ 100000000000000) : Sat (q__law_order T n) fun r => r.1.Perm (rngI 0 n) ∧ Tk (b + 24) r.2 := by
  unfold q__law_order
  refine .rng (.lq (.lq (.rng ?_)))
  refine .bind (.forQ (fun k (s : List Int × List Int × TT) => (s.1 ++ s.2.1).Perm (rngI 0 n) ∧ (s.2.1.length : Int) = n - (k : Nat) ∧ s.1.length = k ∧ Tk (b + (k : Nat)) s.2.2) ⟨.refl _, by show ((rngI 0 n).length : Int) = n - 0; rw [rngI_len]; omega, rfl, hT.mono (by omega)⟩ ?_) ?_
  · rintro k x ⟨fo, le, T1⟩ hx ⟨i1, i2, i3, i4⟩
    obtain ⟨e1, e2, e3⟩ := rngI_get hx
    simp only at i1 i2 i3 i4
    refine .bind (draw_sat i4 (m := (le.length : Int)) (by omega) (by omega) (by omega)) fun r ⟨a1, b1, t1⟩ => ?_
    obtain ⟨y, r', h1, h2⟩ := popAtQ_ok a1 b1
    refine .bindE h1 (.app (by show fo.length < _; omega) (.ret ⟨?_, ?_, ?_, t1.mono (by push_cast; omega)⟩))
    · refine List.Perm.trans ?_ i1
      show ((fo ++ [y]) ++ r').Perm (fo ++ le)
      rw [List.append_assoc]
      exact List.Perm.append_left _ (by simpa using h2.symm)
    · have := h2.length_eq
      simp only [List.length_cons] at this
      show (r'.length : Int) = _
      push_cast; omega
    · show (fo ++ [y]).length = _
      rw [List.length_append, i3]; rfl
  · rintro ⟨fo, le, T1⟩ ⟨i1, i2, i3, i4⟩
    simp only [rngI_len] at i1 i2 i3 i4
    have : le = [] := List.eq_nil_of_length_eq_zero (by omega)
    subst this
    rw [List.append_nil] at i1
    exact .ret ⟨i1, i4.mono (by omega)⟩
theorem law_true : ∀ ns : List Int, ns.length ≤ 63 → ∃ sto, bodyF 10 b_law [.scr ns] [] = .ok (.d (.bl true)) sto := by
  intro ns _
  have main : Sat (q_law ⟨ns.take 63, 0, 0⟩) fun r => r.1 = true := by
    unfold q_law
    refine .bind (.forR (fun _ (_ : Unit) => True) trivial ?_) ?_
    · rintro k u _ hx _
      have hm := List.mem_of_getElem? hx
      have : q__law_right u = some true := by
        have ok : okN 2 u = true ∧ szU u ≤ 100000 ∧ dpU u < 60 ∧ wdU u < 64 := by
          simp only [List.mem_cons, List.not_mem_nil, or_false] at hm
          rcases hm with rfl | rfl | rfl | rfl | rfl | rfl | rfl | rfl | rfl | rfl | rfl | rfl <;> decide
        exact right_ok ok.1 (by decide) ok.2.1 ok.2.2.1 ok.2.2.2
      exact .bindE this (.f rfl (.ret ⟨(), rfl, trivial⟩))
    · rintro z ⟨u, rfl, _⟩
      refine .sumL (.rng ?_)
      refine .bind (.forR (fun k (T : TT) => Tk (1000 * (k : Nat)) T) ⟨Int.le_refl _, Int.le_refl _, Int.le_refl _⟩ ?_) ?_
      · rintro k x T hx hT
        obtain ⟨rfl, x0, x1⟩ := rngI_get hx
        refine .bind (draw_sat hT (m := 3) (by omega) (by omega) (by omega)) fun r12 ⟨a1, a2, t1⟩ => .lq ?_
        refine .bind (draw_sat t1 (m := 12) (by omega) (by omega) (by omega)) fun r14 ⟨b1, b2, t2⟩ => ?_
        refine .bind (order_draw (n := 1 + r14.1) (by omega) (by omega) t2 (by omega)) fun r15 ⟨c1, t3⟩ => ?_
        have hrng : ∀ x ∈ r15.1, 0 ≤ x ∧ x < 12 := fun x hx => by
          have := mem_rngI.mp (c1.mem_iff.mp hx); omega
        have hlen : r15.1.length = (1 + r14.1).toNat := by rw [c1.length_eq, rngI_len]; omega
        refine .bindE (compQ_eq (g := fun x => some (x * (1 + r12.1) + (1 + r12.1) - 1)) fun x hx => ?_) (.lq ?_)
        · have := hrng x hx
          exact Sat.eq (.bindE (Sat.eq (.bindE (mulQ_ok (by omega)) (.ret rfl))) (.ret rfl))
        rw [filterMap_some]
        have pnd : (r15.1.map fun x => x * (1 + r12.1) + (1 + r12.1) - 1).Nodup := by
          have nd : r15.1.Nodup := c1.nodup_iff.mpr rngI_nodup
          rw [List.nodup_iff_pairwise_ne, List.pairwise_map]
          refine (List.nodup_iff_pairwise_ne.mp nd).imp fun {a b} hab he => hab ?_
          have : a * (1 + r12.1) = b * (1 + r12.1) := by omega
          exact Int.eq_of_mul_eq_mul_right (by omega) this
        have prg : ∀ y ∈ r15.1.map (fun x => x * (1 + r12.1) + (1 + r12.1) - 1), 0 ≤ y ∧ y < 100 := fun y hy => by
          obtain ⟨x, hx, rfl⟩ := List.mem_map.mp hy
          have := hrng x hx
          have h3 : r12.1 = 0 ∨ r12.1 = 1 ∨ r12.1 = 2 := by omega
          rcases h3 with h | h | h <;> rw [h] <;> omega
        refine .bind (law_plan_sat 14 (fun z => by have := congrArg List.length z; rw [List.length_map, hlen] at this; simp at this; omega) (by rw [List.length_map]; omega) pnd (fun y hy => (prg y hy).1) t3 (by rw [List.length_map]; omega) (by decide)) ?_
        rintro ⟨u, T4⟩ ⟨p, rfl, g1, g2, g3, g4⟩
        rw [List.length_map] at g4
        have fl := g3.length_eq
        rw [List.length_map] at fl
        have fr : ∀ x ∈ flatP p, 0 ≤ x ∧ x < 100 := fun x hx => prg x (g3.mem_iff.mp hx)
        refine .lq (.bindE (plan_right_ok g1 (g3.nodup_iff.mpr pnd) (by omega) (by omega) fr) (.f rfl (.lq (.rng ?_))))
        have d1 := depP_len p g1
        have s1 := encP_sz p g1
        have s2 := encP_dp p
        have s3 := encP_wd p g1
        have ho : okN 2 (encP p) = true := encP_ok p fun x hx => by have := fr x hx; omega
        refine .bind (.forR (fun j (s : U × TT) => okN (2 + j) s.1 = true ∧ szU s.1 + 70 ≤ 120 * 2 ^ j ∧ dpU s.1 ≤ 24 + j ∧ wdU s.1 ≤ 14 + j ∧ Tk (1000 * (k : Nat) + 100 + 120 * (j : Nat)) s.2) ⟨ho, by show szU (encP p) + 70 ≤ 120 * 1; omega, by show dpU (encP p) ≤ _; omega, by show wdU (encP p) ≤ _; omega, g4.mono (by push_cast; omega)⟩ ?_) ?_
        · rintro j x ⟨u, T5⟩ hj ⟨i1, i2, i3, i4, i5⟩
          obtain ⟨_, j0, j1⟩ := rngI_get hj
          have j4 : j < 4 := by
            have := (List.getElem?_eq_some_iff.mp hj).1
            rw [rngI_len] at this; omega
          have hsz : szU u ≤ 100000 := by
            have : 2 ^ j ≤ 2 ^ 4 := Nat.pow_le_pow_right (by decide) (by omega)
            simp only at i2; omega
          simp only at i1 i2 i3 i4 i5
          refine .bindE (show q__law_right u = some true from right_ok i1 (by omega) hsz (by omega) (by omega)) (.f rfl ?_)
          refine .bind (bent_sat 40 (u := u) (c := 2 + j) (by omega) (by omega) (by omega) i1 (by omega) (by omega) i5 (by omega) (by decide)) fun r31 ⟨B, t⟩ => .lq (.ret ⟨_, rfl, ?_, ?_, ?_, ?_, t.mono (by push_cast; omega)⟩)
          · exact B.ok
          · have := B.sz
            rw [Nat.pow_succ]; show szU r31.1 + 70 ≤ _; omega
          · have := B.dp; show dpU r31.1 ≤ _; omega
          · have := B.wd; show wdU r31.1 ≤ _; omega
        · rintro z ⟨s, rfl, _, _, _, _, t⟩
          rw [rngI_len] at t
          exact .sumL (.ret ⟨_, rfl, t.mono (by push_cast; omega)⟩)
      · rintro z ⟨T, rfl, hT⟩
        rw [rngI_len] at hT
        refine .sumL (.bind (draw_sat hT (m := 4) (by omega) (by omega) (by omega)) fun r39 ⟨a1, a2, t1⟩ => .lq ?_)
        obtain ⟨p, e, g, d, nd, l, hn⟩ := deep_ok (m := 23 + r39.1) (by omega) (by omega)
        obtain ⟨p', e', g', d', nd', l', hn'⟩ := deep_ok (m := 23 + r39.1 - 1) (by omega) (by omega)
        have s1 := encP_sz p g
        have s2 := encP_dp p
        have s3 := encP_wd p g
        have ho : okN 2 (encP p) = true := encP_ok p fun x hx => by have := hn x hx; omega
        have s1' := encP_sz p' g'
        have s2' := encP_dp p'
        have s3' := encP_wd p' g'
        have ho' : okN 2 (encP p') = true := encP_ok p' fun x hx => by have := hn' x hx; omega
        refine .bindE (v := false) ?_ (.f rfl (.bindE e (.bindE (right_ok ho (by decide) (by omega) (by omega) (by omega)) ?_)))
        · refine Sat.eq (.ite (fun h => ?_) fun _ => .ret rfl)
          have h := ofT h
          exact .bindE e (.bindE (plan_right_ok g nd (by omega) (by omega) fun x hx => by have := hn x hx; omega) (.ret rfl))
        · refine .bindE (v := true) (Sat.eq (.t rfl (.bindE e' (.bindE (right_ok (b := 2) ?_ (by decide) ?_ ?_ ?_) (.ret rfl))))) (.ret rfl)
          · show ((true && (true && true)) && ((okN 2 (encP p') && (okN 2 (.tup [.tup [.int 1], .tup []]) && true)) && true)) = true
            rw [ho']; decide
          · show (0 + 1 + (0 + 1 + 0)) + 1 + ((szU (encP p') + 1 + (szU (.tup [.tup [.int 1], .tup []]) + 1 + 0)) + 1 + 0) ≤ 100000
            have : szU (.tup [.tup [.int 1], .tup []]) = 3 := by decide
            omega
          · show max (max 0 (max 0 0) + 1) (max (max (dpU (encP p')) (max (dpU (.tup [.tup [.int 1], .tup []])) 0) + 1) 0) + 1 < 60
            have : dpU (.tup [.tup [.int 1], .tup []]) = 2 := by decide
            omega
          · show max 2 (max (max 2 (max 0 (max 0 0))) (max (max 2 (max (wdU (encP p')) (max (wdU (.tup [.tup [.int 1], .tup []])) 0))) 0)) < 64
            have : wdU (.tup [.tup [.int 1], .tup []]) = 2 := by decide
            omega
  obtain ⟨r, h1, h2⟩ := main
  obtain ⟨sto, h3⟩ := sp_law h1
  exact ⟨sto, by rw [h3, h2]⟩
end LW
open PySem PySem.W PyProof.Rows in
set_option maxRecDepth 100000 in
set_option maxHeartbeats 0 in
theorem PySem.Challenge.cw_labelways_k38_plans_by_kind_holds : PySem.Challenge.rw_labelways_k38_plans_by_kind.Holds := by
  w_on; o_law; k_head; (case hw => w_witness2)
  k_fill
  refine LW.walkG (l := PySem.Challenge.rw_labelways_k38_plans_by_kind) (n := 63) (k := 56) (x := "_law_script") (fn := LW.bodyF 10 LW.b_law) rfl (by decide) rfl ⟨rfl, by decide, by decide⟩ (fun w h Y => PySem.W.kIn_of Y) ?F LW.law_true
  case F =>
    intro w mg fa h KX G hmg
    refine' LW.all_mk KX G hmg ?a0 ?l0 ?c0 ?k0 ?a1 ?l1 ?c1 ?k1 ?a2 ?l2 ?c2 ?k2 ?a3 ?l3 ?c3 ?k3 ?a4 ?l4 ?c4 ?k4 ?a5 ?l5 ?c5 ?k5 ?a6 ?l6 ?c6 ?k6 ?a7 ?l7 ?c7 ?k7 ?a8 ?l8 ?c8 ?k8 ?a9 ?l9 ?c9 ?k9 ?a10 ?l10 ?c10 ?k10 ?a11 ?l11 ?c11 ?k11 ?a12 ?l12 ?c12 ?k12 ?a13 ?l13 ?c13 ?k13 ?a14 ?l14 ?c14 ?k14 ?a15 ?l15 ?c15 ?k15 ?a16 ?l16 ?c16 ?k16 ?a17 ?l17 ?c17 ?k17 ?a18 ?l18 ?c18 ?k18 ?gi_MOST_DEEP ?zlen ?zrange ?zmin ?zmax ?zrepr ?ztuple ?zlist ?zdict ?zsorted ?zany ?zall ?zsum ?zabs ?zint ?zstr ?zisinstance ?zenumerate ?zzip ?zset ?zbool ?ztype ?zValueError
    (case a0 => k_is)
    (case l0 => k_is)
    (case c0 => k_is)
    (case k0 => k_is)
    (case a1 => k_is)
    (case l1 => k_is)
    (case c1 => k_is)
    (case k1 => k_is)
    (case a2 => k_is)
    (case l2 => k_is)
    (case c2 => k_is)
    (case k2 => k_is)
    (case a3 => k_is)
    (case l3 => k_is)
    (case c3 => k_is)
    (case k3 => k_is)
    (case a4 => k_is)
    (case l4 => k_is)
    (case c4 => k_is)
    (case k4 => k_is)
    (case a5 => k_is)
    (case l5 => k_is)
    (case c5 => k_is)
    (case k5 => k_is)
    (case a6 => k_is)
    (case l6 => k_is)
    (case c6 => k_is)
    (case k6 => k_is)
    (case a7 => k_is)
    (case l7 => k_is)
    (case c7 => k_is)
    (case k7 => k_is)
    (case a8 => k_is)
    (case l8 => k_is)
    (case c8 => k_is)
    (case k8 => k_is)
    (case a9 => k_is)
    (case l9 => k_is)
    (case c9 => k_is)
    (case k9 => k_is)
    (case a10 => k_is)
    (case l10 => k_is)
    (case c10 => k_is)
    (case k10 => k_is)
    (case a11 => k_is)
    (case l11 => k_is)
    (case c11 => k_is)
    (case k11 => k_is)
    (case a12 => k_is)
    (case l12 => k_is)
    (case c12 => k_is)
    (case k12 => k_is)
    (case a13 => k_is)
    (case l13 => k_is)
    (case c13 => k_is)
    (case k13 => k_is)
    (case a14 => k_is)
    (case l14 => k_is)
    (case c14 => k_is)
    (case k14 => k_is)
    (case a15 => k_is)
    (case l15 => k_is)
    (case c15 => k_is)
    (case k15 => k_is)
    (case a16 => k_is)
    (case l16 => k_is)
    (case c16 => k_is)
    (case k16 => k_is)
    (case a17 => k_is)
    (case l17 => k_is)
    (case c17 => k_is)
    (case k17 => k_is)
    (case a18 => k_is)
    (case l18 => k_is)
    (case c18 => k_is)
    (case k18 => k_is)
    (case gi_MOST_DEEP => k_is)
    (case zlen => k_is)
    (case zrange => k_is)
    (case zmin => k_is)
    (case zmax => k_is)
    (case zrepr => k_is)
    (case ztuple => k_is)
    (case zlist => k_is)
    (case zdict => k_is)
    (case zsorted => k_is)
    (case zany => k_is)
    (case zall => k_is)
    (case zsum => k_is)
    (case zabs => k_is)
    (case zint => k_is)
    (case zstr => k_is)
    (case zisinstance => k_is)
    (case zenumerate => k_is)
    (case zzip => k_is)
    (case zset => k_is)
    (case zbool => k_is)
    (case ztype => k_is)
    (case zValueError => k_is)
