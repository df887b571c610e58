import PyProof.Rows.All
import Wide.All
import OpenK.AllK
import Wide.FinOn
import HandS.ForMost
import HandS.ForExc
import HandS.Wide
import HandS.Gcd
import HandS.Flow
import HandS.IsInst
import HandS.Conv
import HandS.TupAny
import HandS.Zip
import HandS.CallSlots
import HandS.TupLe
import KE.KDictKeyed
import HandS.HeadHook1
import HandS.TupMul
import HandS.ExcBuiltin
import HandS.TryOnly
import HandS.Defaults
import HandS.HeadEnd
import HandS.HeadHook2
import KE.KStateDown
import Lean
import HandS.Head0
import HandS.Head1
import HandS.Head2
import HandS.Head3
import HandS.More
import HandS.Deep
import HandS.Text
import KE.KTupSum
import KE.KMathGC
import KE.KIndexOf
import HandS.Codes
import KE.GoesZip
import KE.GoesMore
import HandS.TupLen
import KE.DataCmp
import KE.SortData
import HandS.SortInts
import HandS.Style
import KE.KDictSum
import KE.DataMinMax
import KE.KDictPairs
import HandS.Exc
import HandS.ExcField
import HandS.ExcIs
import HandS.ExcSuper
import KE.KExcSuper
import KE.KExcIs
import HandS.HeadWalk
import PySem.Challenge.RW_closedratios_k10_whole_machines
set_option Elab.async false
set_option linter.all false
set_option maxRecDepth 100000
set_option maxHeartbeats 4000000
/-! HM: a layer of values over the hand layer. Part 1: values, stores, judgements. -/
namespace HM
open PySem PySem.Spec PyProof.Rows L2

/-! ### values -/
inductive D where
  | non | bl (b : Bool) | int (i : Int) | str (x : List Nat) | tup (xs : List D) | ref (n : Nat) | ty (n : String) | adr (a : Addr) (d : Option Addr) (f : Str) (x : D) | rol (xs : List D)
mutual
def D.dec : (a b : D) → Decidable (a = b)
  | .non, .non => Decidable.isTrue rfl
  | .bl a, .bl b => if h : a = b then Decidable.isTrue (h ▸ rfl) else Decidable.isFalse (fun e => h (D.bl.inj e))
  | .int a, .int b => if h : a = b then Decidable.isTrue (h ▸ rfl) else Decidable.isFalse (fun e => h (D.int.inj e))
  | .str a, .str b => if h : a = b then Decidable.isTrue (h ▸ rfl) else Decidable.isFalse (fun e => h (D.str.inj e))
  | .ref a, .ref b => if h : a = b then Decidable.isTrue (h ▸ rfl) else Decidable.isFalse (fun e => h (D.ref.inj e))
  | .ty a, .ty b => if h : a = b then Decidable.isTrue (h ▸ rfl) else Decidable.isFalse (fun e => h (D.ty.inj e))
  | .adr a d f x, .adr b e g y => match D.dec x y with
    | .isFalse h => Decidable.isFalse (fun z => h (D.adr.inj z).2.2.2)
    | .isTrue h => if h2 : a = b ∧ d = e ∧ f = g then Decidable.isTrue (by obtain ⟨h3, h4, h5⟩ := h2; rw [h, h3, h4, h5]) else Decidable.isFalse (fun z => h2 ⟨(D.adr.inj z).1, (D.adr.inj z).2.1, (D.adr.inj z).2.2.1⟩)
  | .tup a, .tup b => match D.decAll a b with
    | .isTrue h => Decidable.isTrue (h ▸ rfl)
    | .isFalse h => Decidable.isFalse (fun e => h (D.tup.inj e))
  | .rol a, .rol b => match D.decAll a b with
    | .isTrue h => Decidable.isTrue (h ▸ rfl)
    | .isFalse h => Decidable.isFalse (fun e => h (D.rol.inj e))
  | .non, .bl _ | .non, .int _ | .non, .str _ | .non, .tup _ | .non, .ref _ | .non, .ty _ | .non, .adr _ _ _ _ | .non, .rol _ => Decidable.isFalse nofun
  | .bl _, .non | .bl _, .int _ | .bl _, .str _ | .bl _, .tup _ | .bl _, .ref _ | .bl _, .ty _ | .bl _, .adr _ _ _ _ | .bl _, .rol _ => Decidable.isFalse nofun
  | .int _, .non | .int _, .bl _ | .int _, .str _ | .int _, .tup _ | .int _, .ref _ | .int _, .ty _ | .int _, .adr _ _ _ _ | .int _, .rol _ => Decidable.isFalse nofun
  | .str _, .non | .str _, .bl _ | .str _, .int _ | .str _, .tup _ | .str _, .ref _ | .str _, .ty _ | .str _, .adr _ _ _ _ | .str _, .rol _ => Decidable.isFalse nofun
  | .tup _, .non | .tup _, .bl _ | .tup _, .int _ | .tup _, .str _ | .tup _, .ref _ | .tup _, .ty _ | .tup _, .adr _ _ _ _ | .tup _, .rol _ => Decidable.isFalse nofun
  | .ref _, .non | .ref _, .bl _ | .ref _, .int _ | .ref _, .str _ | .ref _, .tup _ | .ref _, .ty _ | .ref _, .adr _ _ _ _ | .ref _, .rol _ => Decidable.isFalse nofun
  | .ty _, .non | .ty _, .bl _ | .ty _, .int _ | .ty _, .str _ | .ty _, .tup _ | .ty _, .ref _ | .ty _, .adr _ _ _ _ | .ty _, .rol _ => Decidable.isFalse nofun
  | .rol _, .non | .rol _, .bl _ | .rol _, .int _ | .rol _, .str _ | .rol _, .tup _ | .rol _, .ref _ | .rol _, .ty _ | .rol _, .adr _ _ _ _ => Decidable.isFalse nofun
  | .adr _ _ _ _, .non | .adr _ _ _ _, .bl _ | .adr _ _ _ _, .int _ | .adr _ _ _ _, .str _ | .adr _ _ _ _, .tup _ | .adr _ _ _ _, .ref _ | .adr _ _ _ _, .ty _ | .adr _ _ _ _, .rol _ => Decidable.isFalse nofun
def D.decAll : (a b : List D) → Decidable (a = b)
  | [], [] => Decidable.isTrue rfl
  | [], _ :: _ => Decidable.isFalse nofun
  | _ :: _, [] => Decidable.isFalse nofun
  | x :: xs, y :: ys => match D.dec x y with
    | .isFalse h => Decidable.isFalse (fun e => h (List.cons.inj e).1)
    | .isTrue h => match D.decAll xs ys with
      | .isTrue h2 => Decidable.isTrue (by rw [h, h2])
      | .isFalse h2 => Decidable.isFalse (fun e => h2 (List.cons.inj e).2)
end
instance : DecidableEq D := D.dec
instance : Inhabited D := ⟨.non⟩
/-- what stands in a cell of the store -/
inductive Cell where
  | lst (xs : List D) | dct (kvs : List (D × D))
  deriving DecidableEq, Inhabited
abbrev Store := List Cell
abbrev Sl := List (Option D)
/-- an exception: its class, its fields -/
structure Xc where
  cls : D
  fs : List (Str × D) := []
/-- what an evaluation gives -/
inductive ER (α : Type) where
  | ok (a : α) (st : Store) | exc (x : Xc) (st : Store) | bad
def ER.bind {α β : Type} (r : ER α) (k : α → Store → ER β) : ER β := match r with
  | .ok a st => k a st
  | .exc x st => .exc x st
  | .bad => .bad
@[simp] theorem ER.bind_ok {α β : Type} (a : α) (st : Store) (k : α → Store → ER β) : (ER.ok a st).bind k = k a st := rfl
@[simp] theorem ER.bind_exc {α β : Type} (x : Xc) (st : Store) (k : α → Store → ER β) : (ER.exc x st : ER α).bind k = .exc x st := rfl
@[simp] theorem ER.bind_bad {α β : Type} (k : α → Store → ER β) : (ER.bad : ER α).bind k = .bad := rfl
/-- what a statement gives -/
inductive SR where
  | nx (τ : Sl) (st : Store) | bk (τ : Sl) (st : Store) | ct (τ : Sl) (st : Store) | rt (d : D) (st : Store) | exc (x : Xc) (τ : Sl) (st : Store) | bad
abbrev EM (α : Type) := Sl → Store → ER α
abbrev SM := Sl → Store → SR

/-! ### how values stand for those of the layer -/
/-- a list that nobody writes -/
def FzL (K : PySem.W.Frag) (H : Hp) (a : Addr) (xs : List V) : Prop :=
  (∃ o, H a = some (.frz o (.lst xs))) ∨
    ∃ (o : Obj) (its : Array Value) (n : Nat), K.lookup a = some o ∧ o.cls = .type "list" ∧ o.dict = none ∧ o.data = .seq its n ∧ its.size ≤ sizeLine ∧ Vals xs its.toList
theorem FzL.sq {K : PySem.W.Frag} {H : Hp} {a : Addr} {xs : List V} (h : FzL K H a xs) : SqL K H a xs := by
  rcases h with ⟨o, h⟩ | h
  · exact .inl (.inr ⟨o, h⟩)
  · exact .inr h
theorem FzL.of {K : PySem.W.Frag} {H : Hp} {a : Addr} {xs : List V} (h : SqL K H a xs) (n : ∀ ys, H a ≠ some (.lst ys)) : FzL K H a xs := by
  rcases h with (h | h) | h
  · exact absurd h (n xs)
  · exact .inl h
  · exact .inr h
theorem FzL.new {K : PySem.W.Frag} {H : Hp} {p : Addr} {o : HO} (h : H p = none) {a : Addr} {vs : List V} (s : FzL K H a vs) : FzL K (upd H p o) a vs := by
  rcases s with ⟨ob, s⟩ | s
  · exact .inl ⟨ob, by rw [upd_ne (ne_of_none s h)]; exact s⟩
  · exact .inr s
/-- a tuple that has no dict of its own -/
def PlT (K : PySem.W.Frag) (H : Hp) (a : Addr) (xs : List V) : Prop :=
  (∃ o : Obj, o.dict = none ∧ H a = some (.frz o (.tup xs))) ∨
    ∃ (o : Obj) (its : Array Value) (n : Nat), K.lookup a = some o ∧ o.cls = .type "tuple" ∧ o.dict = none ∧ o.data = .seq its n ∧ its.size ≤ sizeLine ∧ Vals xs its.toList
theorem PlT.sq {K : PySem.W.Frag} {H : Hp} {a : Addr} {xs : List V} (h : PlT K H a xs) : SqT K H a xs := by
  rcases h with ⟨o, _, h⟩ | ⟨o, its, n, h1, h2, _, h3, h4, h5⟩
  · exact .inl (.inr ⟨o, h⟩)
  · exact .inr ⟨o, its, n, h1, h2, h3, h4, h5⟩
theorem PlT.new {K : PySem.W.Frag} {H : Hp} {p : Addr} {o : HO} (h : H p = none) {a : Addr} {vs : List V} (s : PlT K H a vs) : PlT K (upd H p o) a vs := by
  rcases s with ⟨ob, z, s⟩ | s
  · exact .inl ⟨ob, z, by rw [upd_ne (ne_of_none s h)]; exact s⟩
  · exact .inr s
theorem PlT.of {K : PySem.W.Frag} {H : Hp} {p : Addr} {o : Obj} {vs : List V} (h : o.dict = none) : PlT K (upd H p (.frz o (.tup vs))) p vs := .inl ⟨o, h, upd_same⟩
mutual
inductive RD (K : PySem.W.Frag) (m : List Addr) (H : Hp) : D → V → Prop
  | non : RD K m H .non .non
  | bl (b : Bool) : RD K m H (.bl b) (.bl b)
  | int (i : Int) : RD K m H (.int i) (.int i)
  | str (x : List Nat) : RD K m H (.str x) (.str ⟨x.toArray⟩)
  | ty (n : String) : RD K m H (.ty n) (.ty n)
  | adr (a : Addr) (f : Str) (x : D) : RD K m H (.adr a none f x) (.ref a)
  | adrF {a d : Addr} {f : Str} {x : D} {v : V} : H d = some (.xd [(f, v)]) → RD K m H x v → RD K m H (.adr a (some d) f x) (.ref a)
  | tup {a : Addr} {vs : List V} {ds : List D} : PlT K H a vs → RDs K m H ds vs → RD K m H (.tup ds) (.ref a)
  | rol {a : Addr} {vs : List V} {ds : List D} : FzL K H a vs → RDs K m H ds vs → RD K m H (.rol ds) (.ref a)
  | ref {n : Nat} {a : Addr} : m[n]? = some a → RD K m H (.ref n) (.ref a)
inductive RDs (K : PySem.W.Frag) (m : List Addr) (H : Hp) : List D → List V → Prop
  | nil : RDs K m H [] []
  | cons {d : D} {v : V} {ds : List D} {vs : List V} : RD K m H d v → RDs K m H ds vs → RDs K m H (d :: ds) (v :: vs)
end
/-- what values lean on is kept -/
structure Kp (K : PySem.W.Frag) (m : List Addr) (H : Hp) (m' : List Addr) (H' : Hp) : Prop where
  pre : ∀ (n : Nat) (a : Addr), m[n]? = some a → m'[n]? = some a
  tup : ∀ (a : Addr) (vs : List V), SqT K H a vs → SqT K H' a vs
  plt : ∀ (a : Addr) (vs : List V), PlT K H a vs → PlT K H' a vs
  fzl : ∀ (a : Addr) (vs : List V), FzL K H a vs → FzL K H' a vs
  xdk : ∀ (a : Addr) (fs : List (Str × V)), H a = some (.xd fs) → H' a = some (.xd fs)
/-- all that was is kept, but what the store may change -/
structure Ext (K : PySem.W.Frag) (m : List Addr) (H : Hp) (m' : List Addr) (H' : Hp) : Prop extends Kp K m H m' H' where
  frm : ∀ (a : Addr) (o : HO), a ∉ m → H a = some o → H' a = some o
  new : ∀ a : Addr, a ∈ m' → a ∉ m → H a = none
section
variable {K : PySem.W.Frag} {m m1 m2 m' : List Addr} {H H1 H2 H' : Hp}
theorem Ext.refl : Ext K m H m H := ⟨⟨fun _ _ h => h, fun _ _ h => h, fun _ _ h => h, fun _ _ h => h, fun _ _ h => h⟩, fun _ _ _ h => h, fun _ h n => absurd h n⟩
theorem Ext.mem (e : Ext K m H m1 H1) {a : Addr} (h : a ∈ m) : a ∈ m1 := by
  obtain ⟨n, q⟩ := List.getElem?_of_mem h
  exact List.mem_of_getElem? (e.pre n a q)
theorem Ext.trans (e : Ext K m H m1 H1) (f : Ext K m1 H1 m2 H2) : Ext K m H m2 H2 where
  pre := fun n a h => f.pre n a (e.pre n a h)
  tup := fun a vs h => f.tup a vs (e.tup a vs h)
  plt := fun a vs h => f.plt a vs (e.plt a vs h)
  fzl := fun a vs h => f.fzl a vs (e.fzl a vs h)
  xdk := fun a vs h => f.xdk a vs (e.xdk a vs h)
  frm := fun a o n h => by
    refine f.frm a o (fun q => ?_) (e.frm a o n h)
    rw [e.new a q n] at h
    cases h
  new := fun a h n => by
    by_cases q : a ∈ m1
    · exact e.new a q n
    · have z := f.new a h q
      cases r : H a with
      | none => rfl
      | some o =>
        rw [e.frm a o n r] at z
        cases z
mutual
theorem RD.kp (e : Kp K m H m' H') : ∀ {d : D} {v : V}, RD K m H d v → RD K m' H' d v
  | _, _, .non => .non
  | _, _, .bl b => .bl b
  | _, _, .int i => .int i
  | _, _, .str x => .str x
  | _, _, .ty n => .ty n
  | _, _, .adr a f x => .adr a f x
  | _, _, .adrF h r => .adrF (e.xdk _ _ h) (RD.kp e r)
  | _, _, .tup h r => .tup (e.plt _ _ h) (RDs.kp e r)
  | _, _, .rol h r => .rol (e.fzl _ _ h) (RDs.kp e r)
  | _, _, .ref h => .ref (e.pre _ _ h)
theorem RDs.kp (e : Kp K m H m' H') : ∀ {ds : List D} {vs : List V}, RDs K m H ds vs → RDs K m' H' ds vs
  | _, _, .nil => .nil
  | _, _, .cons h r => .cons (RD.kp e h) (RDs.kp e r)
end
theorem RD.mono (e : Ext K m H m' H') {d : D} {v : V} (r : RD K m H d v) : RD K m' H' d v := r.kp e.toKp
theorem RDs.mono (e : Ext K m H m' H') {ds : List D} {vs : List V} (r : RDs K m H ds vs) : RDs K m' H' ds vs := r.kp e.toKp
theorem RDs.len : ∀ {ds : List D} {vs : List V}, RDs K m H ds vs → ds.length = vs.length
  | _, _, .nil => rfl
  | _, _, .cons _ r => congrArg (· + 1) r.len
theorem RDs.get : ∀ {ds : List D} {vs : List V} {i : Nat} {d : D}, RDs K m H ds vs → ds[i]? = some d → ∃ v, vs[i]? = some v ∧ RD K m H d v
  | _, _, _, _, .nil, e => by simp at e
  | _, _, 0, _, .cons h _, e => by
    simp at e
    subst e
    exact ⟨_, rfl, h⟩
  | _, _, i + 1, d, .cons _ r, e => by
    obtain ⟨v, h1, h2⟩ := RDs.get (i := i) (d := d) r (by simpa using e)
    exact ⟨v, by simpa using h1, h2⟩
theorem RDs.append : ∀ {ds es : List D} {vs us : List V}, RDs K m H ds vs → RDs K m H es us → RDs K m H (ds ++ es) (vs ++ us)
  | _, _, _, _, .nil, s => s
  | _, _, _, _, .cons h r, s => .cons h (RDs.append r s)
theorem RDs.take : ∀ {ds : List D} {vs : List V} (n : Nat), RDs K m H ds vs → RDs K m H (ds.take n) (vs.take n)
  | _, _, 0, _ => .nil
  | _, _, _ + 1, .nil => .nil
  | _, _, n + 1, .cons h r => .cons h (RDs.take n r)
theorem RDs.drop : ∀ {ds : List D} {vs : List V} (n : Nat), RDs K m H ds vs → RDs K m H (ds.drop n) (vs.drop n)
  | _, _, 0, r => r
  | _, _, _ + 1, .nil => .nil
  | _, _, n + 1, .cons _ r => RDs.drop n r
theorem RDs.set {d : D} {v : V} (h : RD K m H d v) : ∀ {ds : List D} {vs : List V} (i : Nat), RDs K m H ds vs → RDs K m H (ds.set i d) (vs.set i v)
  | _, _, _, .nil => .nil
  | _, _, 0, .cons _ r => .cons h r
  | _, _, i + 1, .cons g r => .cons g (RDs.set h i r)
theorem RDs.erase : ∀ {ds : List D} {vs : List V} (i : Nat), RDs K m H ds vs → RDs K m H (ds.eraseIdx i) (vs.eraseIdx i)
  | _, _, _, .nil => .nil
  | _, _, 0, .cons _ r => r
  | _, _, i + 1, .cons g r => .cons g (RDs.erase i r)
theorem RDs.dropLast {ds : List D} {vs : List V} (r : RDs K m H ds vs) : RDs K m H ds.dropLast vs.dropLast := by
  rw [List.dropLast_eq_take, List.dropLast_eq_take, r.len]
  exact r.take _
theorem RDs.one {d : D} {vs : List V} (r : RDs K m H [d] vs) : ∃ v, vs = [v] ∧ RD K m H d v := by
  cases r with
  | cons h r =>
    cases r
    exact ⟨_, rfl, h⟩
theorem RDs.two {d e : D} {vs : List V} (r : RDs K m H [d, e] vs) : ∃ v u, vs = [v, u] ∧ RD K m H d v ∧ RD K m H e u := by
  cases r with
  | cons h r =>
    obtain ⟨u, rfl, h2⟩ := r.one
    exact ⟨_, _, rfl, h, h2⟩
theorem RDs.reverse {ds : List D} {vs : List V} (r : RDs K m H ds vs) : RDs K m H ds.reverse vs.reverse := by
  induction ds generalizing vs with
  | nil =>
    cases r
    exact .nil
  | cons d ds ih =>
    cases r with
    | cons h r =>
      rw [List.reverse_cons, List.reverse_cons]
      exact (ih r).append (.cons h .nil)
theorem RDs.ints : ∀ (ns : List Int), RDs K m H (ns.map D.int) (ns.map V.int)
  | [] => .nil
  | n :: r => .cons (.int n) (RDs.ints r)
/-- the known part and the world -/
structure KW where
  F : PySem.W.Frag
  w : World
instance : CoeOut KW PySem.W.Frag := ⟨KW.F⟩
@[reducible] def _root_.L2.Cx.kw (X : Cx) : KW := ⟨X.K, X.w⟩
/-- values without truth values and references, so deep -/
def D.plain : Nat → D → Bool
  | _, .non => true
  | _, .int _ => true
  | _, .str x => x.all fun c => decide (c < 1114112)
  | 0, .tup _ => false
  | n + 1, .tup xs => xs.all (D.plain n)
  | _, _ => false

mutual
def D.nk : D → NestedKey
  | .non => .none
  | .int i => .num i
  | .str x => .text ⟨x.toArray⟩
  | .tup xs => .tup (D.nks xs)
  | _ => .none
def D.nks : List D → List NestedKey
  | [] => []
  | d :: ds => D.nk d :: D.nks ds
end
def D.tupQ (d : D) : Bool := match d with
  | .tup _ => d.plain 8
  | _ => false
def keyD : Key → D
  | .inl i => .int i
  | .inr x => .str x.cps.toList
/-- a dict whose keys are tuples, at its address -/
def DObj (w : World) (a : Addr) (xs : List (NestedKey × Addr × V)) (h : Heap) : Prop :=
  (a == sysModules) = false ∧ xs.length ≤ sizeLine ∧ ∃ zs : List (NestedKey × Addr × Value), Paired (fun p q => p.1 = q.1 ∧ p.2.1 = q.2.1 ∧ RelV p.2.2 q.2.2) xs zs ∧
    ∃ o es ep, h.get? a = some o ∧ o.ExactDict ∧ o.data = .dict es ep ∧ es.toList = zs.map (fun x => (⟨NestedKey.hash w x.1, .ref x.2.1, x.2.2⟩ : DictEntry)) ∧ (zs.map (·.1)).Nodup
abbrev DRel1 (K : PySem.W.Frag) (m : List Addr) (H : Hp) : List (D × D) → List (Key × V) → Prop := Paired fun p q => p.1 = keyD q.1 ∧ RD K m H p.2 q.2
abbrev DRel2 (K : PySem.W.Frag) (m : List Addr) (H : Hp) : List (D × D) → List (NestedKey × Addr × V) → Prop := Paired fun p q => p.1.tupQ = true ∧ q.1 = p.1.nk ∧ RD K m H p.1 (.ref q.2.1) ∧ RD K m H p.2 q.2.2
theorem DRel1.kp {m m' : List Addr} {H H' : Hp} {kvs : List (D × D)} {us : List (Key × V)} (r : DRel1 K m H kvs us) (e : Kp K m H m' H') : DRel1 K m' H' kvs us := Paired.mapP r fun _ _ z => ⟨z.1, z.2.kp e⟩
theorem DRel2.kp {m m' : List Addr} {H H' : Hp} {kvs : List (D × D)} {us : List (NestedKey × Addr × V)} (r : DRel2 K m H kvs us) (e : Kp K m H m' H') : DRel2 K m' H' kvs us := Paired.mapP r fun _ _ z => ⟨z.1, z.2.1, z.2.2.1.kp e, z.2.2.2.kp e⟩
/-- a cell and what stands at its address -/
def RC (K : KW) (m : List Addr) (H : Hp) (a : Addr) : Cell → Prop
  | .lst ds => ∃ vs, H a = some (.lst vs) ∧ RDs K m H ds vs
  | .dct kvs => (∃ us, H a = some (.dK us) ∧ DRel1 K m H kvs us) ∨ ∃ xs, H a = some (.ext (DObj K.w a xs)) ∧ xs ≠ [] ∧ DRel2 K m H kvs xs
structure SS (K : KW) (m : List Addr) (st : Store) (H : Hp) : Prop where
  len : m.length = st.length
  nd : m.Nodup
  cel : ∀ (n : Nat) (c : Cell) (a : Addr), st[n]? = some c → m[n]? = some a → RC K m H a c
/-- the slots -/
structure SL (K : PySem.W.Frag) (m : List Addr) (H : Hp) (τ : Sl) (σ : L2.St) : Prop where
  len : τ.length = σ.length
  get : ∀ (i : Nat) (d : D), τ[i]? = some (some d) → ∃ v, σ[i]? = some (some v) ∧ RD K m H d v
theorem SL.mono {τ : Sl} {σ : L2.St} (s : SL K m H τ σ) (e : Ext K m H m' H') : SL K m' H' τ σ :=
  ⟨s.len, fun i d h => let ⟨v, h1, h2⟩ := s.get i d h; ⟨v, h1, h2.mono e⟩⟩
theorem SL.set {τ : Sl} {σ : L2.St} {d : D} {v : V} (s : SL K m H τ σ) (i : Nat) (r : RD K m H d v) : SL K m H (τ.set i (some d)) (σ.set i (some v)) := by
  refine ⟨by simpa using s.len, fun j e h => ?_⟩
  by_cases hj : i = j
  · subst hj
    by_cases hl : i < τ.length
    · rw [List.getElem?_set_self hl] at h
      simp only [Option.some.injEq] at h
      subst h
      exact ⟨v, by rw [List.getElem?_set_self (by rw [← s.len]; exact hl)], r⟩
    · rw [List.getElem?_eq_none (by simpa using hl)] at h
      cases h
  · rw [List.getElem?_set_ne hj] at h
    rw [List.getElem?_set_ne hj]
    exact s.get j e h
theorem SS.at {K : KW} {st : Store} {n : Nat} {c : Cell} (s : SS K m st H) (h : st[n]? = some c) : ∃ a, m[n]? = some a ∧ RC K m H a c := by
  have hl : n < m.length := by
    rw [s.len]
    exact (List.getElem?_eq_some_iff.mp h).1
  exact ⟨m[n], by simp, s.cel n c _ h (by simp)⟩
theorem sqT_new {p : Addr} {o : HO} (h : H p = none) {a : Addr} {vs : List V} (s : SqT K H a vs) : SqT K (upd H p o) a vs := by
  rcases s with (s | ⟨ob, s⟩) | s
  · exact .inl (.inl (by rw [upd_ne (ne_of_none s h)]; exact s))
  · exact .inl (.inr ⟨ob, by rw [upd_ne (ne_of_none s h)]; exact s⟩)
  · exact .inr s
theorem sqL_new {p : Addr} {o : HO} (h : H p = none) {a : Addr} {vs : List V} (s : SqL K H a vs) : SqL K (upd H p o) a vs := by
  rcases s with (s | ⟨ob, s⟩) | s
  · exact .inl (.inl (by rw [upd_ne (ne_of_none s h)]; exact s))
  · exact .inl (.inr ⟨ob, by rw [upd_ne (ne_of_none s h)]; exact s⟩)
  · exact .inr s
theorem sqL_ne {p a : Addr} {o : HO} {vs : List V} (h : a ≠ p) (s : SqL K H a vs) : SqL K (upd H p o) a vs := by
  rcases s with (s | ⟨ob, s⟩) | s
  · exact .inl (.inl (by rw [upd_ne h]; exact s))
  · exact .inl (.inr ⟨ob, by rw [upd_ne h]; exact s⟩)
  · exact .inr s
theorem RC.here {K : KW} {a : Addr} {c : Cell} (r : RC K m H a c) : ∃ o, H a = some o := by
  cases c with
  | lst ds =>
    obtain ⟨vs, h, _⟩ := r
    exact ⟨_, h⟩
  | dct kvs =>
    rcases r with ⟨us, h, _⟩ | ⟨xs, h, _⟩ <;> exact ⟨_, h⟩
/-- a new object that the store does not hold -/
theorem Ext.fresh {p : Addr} {o : HO} (h : H p = none) : Ext K m H m (upd H p o) :=
  ⟨⟨fun _ _ h => h, fun _ _ s => sqT_new h s, fun _ _ s => s.new h, fun _ _ s => s.new h, fun a fs q => by rw [upd_ne (ne_of_none q h)]; exact q⟩, fun a ob _ q => by rw [upd_ne (ne_of_none q h)]; exact q, fun _ q n => absurd q n⟩
theorem RC.fresh {K : KW} {p a : Addr} {o : HO} {c : Cell} (h : H p = none) (r : RC K m H a c) : RC K m (upd H p o) a c := by
  cases c with
  | lst ds =>
    obtain ⟨vs, q, r⟩ := r
    exact ⟨vs, by rw [upd_ne (ne_of_none q h)]; exact q, r.mono (Ext.fresh h)⟩
  | dct kvs =>
    rcases r with ⟨us, q, r⟩ | ⟨xs, q, r⟩
    · exact .inl ⟨us, by rw [upd_ne (ne_of_none q h)]; exact q, r.kp (Ext.fresh h).toKp⟩
    · exact .inr ⟨xs, by rw [upd_ne (ne_of_none q h)]; exact q, r.1, r.2.kp (Ext.fresh h).toKp⟩
theorem SS.fresh {K : KW} {p : Addr} {o : HO} {st : Store} (s : SS K m st H) (h : H p = none) : SS K m st (upd H p o) :=
  ⟨s.len, s.nd, fun n c a h1 h2 => (s.cel n c a h1 h2).fresh h⟩
/-- a new object of the store's -/
theorem Ext.app {p : Addr} {o : HO} (h : H p = none) : Ext K m H (m ++ [p]) (upd H p o) where
  pre := fun n a q => by
    rw [List.getElem?_append_left (List.getElem?_eq_some_iff.mp q).1]
    exact q
  tup := fun _ _ s => sqT_new h s
  plt := fun _ _ s => s.new h
  fzl := fun _ _ s => s.new h
  xdk := fun a fs q => by rw [upd_ne (ne_of_none q h)]; exact q
  frm := fun a ob _ q => by rw [upd_ne (ne_of_none q h)]; exact q
  new := fun a q n => by
    rcases List.mem_append.mp q with q | q
    · exact absurd q n
    · have e : a = p := by simpa using q
      rw [e]
      exact h
theorem Ext.grow {p : Addr} : (H p = none) → Ext K m H (m ++ [p]) H := fun h => {
  pre := fun n a q => by
    rw [List.getElem?_append_left (List.getElem?_eq_some_iff.mp q).1]
    exact q
  tup := fun _ _ s => s
  plt := fun _ _ s => s
  fzl := fun _ _ s => s
  xdk := fun _ _ s => s
  frm := fun a ob _ q => q
  new := fun a q n => by
    rcases List.mem_append.mp q with q | q
    · exact absurd q n
    · have e : a = p := by simpa using q
      rw [e]
      exact h }
theorem RC.kp {K : KW} {a : Addr} {c : Cell} (r : RC K m H a c) (e : Kp K m H m' H') (h : ∀ o, H a = some o → H' a = some o) : RC K m' H' a c := by
  cases c with
  | lst ds =>
    obtain ⟨vs, q, r⟩ := r
    exact ⟨vs, h _ q, r.kp e⟩
  | dct kvs =>
    rcases r with ⟨us, q, r⟩ | ⟨xs, q, r⟩
    · exact .inl ⟨us, h _ q, r.kp e⟩
    · exact .inr ⟨xs, h _ q, r.1, r.2.kp e⟩
theorem Kp.grow {p : Addr} : Kp K m H (m ++ [p]) H := ⟨fun n a q => by
    rw [List.getElem?_append_left (List.getElem?_eq_some_iff.mp q).1]
    exact q, fun _ _ s => s, fun _ _ s => s, fun _ _ s => s, fun _ _ s => s⟩
/-- an object that is there becomes the store's -/
theorem SS.grow {K : KW} {p : Addr} {c : Cell} {st : Store} (s : SS K m st H) (hp : p ∉ m) (r : RC K (m ++ [p]) H p c) : SS K (m ++ [p]) (st ++ [c]) H where
  len := by simp [s.len]
  nd := by
    rw [List.nodup_append]
    refine ⟨s.nd, by simp, fun a h1 b h2 e => ?_⟩
    have e2 : b = p := by simpa using h2
    rw [e, e2] at h1
    exact hp h1
  cel := fun n d a h1 h2 => by
    by_cases hn : n < st.length
    · rw [List.getElem?_append_left hn] at h1
      rw [List.getElem?_append_left (by rw [s.len]; exact hn)] at h2
      exact (s.cel n d a h1 h2).kp Kp.grow fun _ q => q
    · have hl : n < (st ++ [c]).length := (List.getElem?_eq_some_iff.mp h1).1
      have e : n = st.length := by
        rw [List.length_append, List.length_singleton] at hl
        omega
      subst e
      have e1 : c = d := by simpa using h1
      have e2 : p = a := by
        rw [← s.len] at h2
        simpa using h2
      rw [← e1, ← e2]
      exact r
theorem SS.notin {K : KW} {st : Store} {p : Addr} (s : SS K m st H) (h : H p = none) : p ∉ m := fun q => by
  obtain ⟨n, e⟩ := List.getElem?_of_mem q
  have hl : n < st.length := by
    rw [← s.len]
    exact (List.getElem?_eq_some_iff.mp e).1
  obtain ⟨o, z⟩ := (s.cel n st[n] p (by simp) e).here
  rw [h] at z
  cases z
/-- a list is written -/
theorem Kp.write {p : Addr} {xs : List V} {o : HO} (h : H p = some (.lst xs)) : Kp K m H m (upd H p o) where
  pre := fun _ _ q => q
  tup := fun a vs s => by
    rcases s with (s | ⟨ob, s⟩) | s
    · exact .inl (.inl (by rw [upd_ne (fun e => by rw [e, h] at s; cases s)]; exact s))
    · exact .inl (.inr ⟨ob, by rw [upd_ne (fun e => by rw [e, h] at s; cases s)]; exact s⟩)
    · exact .inr s
  plt := fun a vs s => by
    rcases s with ⟨ob, z, s⟩ | s
    · exact .inl ⟨ob, z, by rw [upd_ne (fun e => by rw [e, h] at s; cases s)]; exact s⟩
    · exact .inr s
  fzl := fun a vs s => by
    rcases s with ⟨ob, s⟩ | s
    · exact .inl ⟨ob, by rw [upd_ne (fun e => by rw [e, h] at s; cases s)]; exact s⟩
    · exact .inr s
  xdk := fun a fs s => by rw [upd_ne (fun e => by rw [e, h] at s; cases s)]; exact s
/-- a list that is not the store's is written -/
theorem SS.other {K : KW} {st : Store} {p : Addr} {xs : List V} {o : HO} (s : SS K m st H) (h : H p = some (.lst xs)) (hp : p ∉ m) : SS K m st (upd H p o) :=
  ⟨s.len, s.nd, fun n c a h1 h2 => (s.cel n c a h1 h2).kp (Kp.write h) fun ob q => by rw [upd_ne (fun e : a = p => hp (by rw [← e]; exact List.mem_of_getElem? h2))]; exact q⟩
/-- a list of the store's is written -/
theorem Ext.write {n : Nat} {p : Addr} {xs : List V} {o : HO} (h : H p = some (.lst xs)) (hn : m[n]? = some p) : Ext K m H m (upd H p o) :=
  { Kp.write h with
    frm := fun a ob q z => by rw [upd_ne (fun e : a = p => q (by rw [e]; exact List.mem_of_getElem? hn))]; exact z
    new := fun a q n => absurd q n }
theorem SS.write {K : KW} {st : Store} {n : Nat} {p : Addr} {xs ys : List V} {ds : List D} (s : SS K m st H) (h : H p = some (.lst xs)) (hn : m[n]? = some p) (r : RDs K m H ds ys) : SS K m (st.set n (.lst ds)) (upd H p (.lst ys)) where
  len := by rw [List.length_set]; exact s.len
  nd := s.nd
  cel := fun i c a h1 h2 => by
    by_cases hi : n = i
    · subst hi
      rw [hn] at h2
      cases h2
      have hl : n < st.length := by
        rw [← s.len]
        exact (List.getElem?_eq_some_iff.mp hn).1
      rw [List.getElem?_set_self hl] at h1
      cases h1
      exact ⟨ys, upd_same, r.kp (Kp.write h)⟩
    · rw [List.getElem?_set_ne hi] at h1
      refine (s.cel i c a h1 h2).kp (Kp.write h) fun ob q => ?_
      rw [upd_ne fun e => hi ?_]
      · exact q
      · subst e
        obtain ⟨l1, e1⟩ := List.getElem?_eq_some_iff.mp hn
        obtain ⟨l2, e2⟩ := List.getElem?_eq_some_iff.mp h2
        exact (List.getElem_inj s.nd).mp (e1.trans e2.symm)
/-- a thing of the store's is written -/
theorem Kp.writeM {p : Addr} {o : HO} (h : Mut (H p)) : Kp K m H m (upd H p o) where
  pre := fun _ _ q => q
  tup := fun a vs s => by
    rcases s with (s | ⟨ob, s⟩) | s
    · exact .inl (.inl (by rw [upd_ne (fun e => by rw [← e, s] at h; exact h)]; exact s))
    · exact .inl (.inr ⟨ob, by rw [upd_ne (fun e => by rw [← e, s] at h; exact h)]; exact s⟩)
    · exact .inr s
  plt := fun a vs s => by
    rcases s with ⟨ob, z, s⟩ | s
    · exact .inl ⟨ob, z, by rw [upd_ne (fun e => by rw [← e, s] at h; exact h)]; exact s⟩
    · exact .inr s
  fzl := fun a vs s => by
    rcases s with ⟨ob, s⟩ | s
    · exact .inl ⟨ob, by rw [upd_ne (fun e => by rw [← e, s] at h; exact h)]; exact s⟩
    · exact .inr s
  xdk := fun a fs s => by rw [upd_ne (fun e => by rw [← e, s] at h; exact h)]; exact s
theorem Ext.writeM {n : Nat} {p : Addr} {o : HO} (h : Mut (H p)) (hn : m[n]? = some p) : Ext K m H m (upd H p o) :=
  { Kp.writeM h with
    frm := fun a ob q z => by rw [upd_ne (fun e : a = p => q (by rw [e]; exact List.mem_of_getElem? hn))]; exact z
    new := fun a q n => absurd q n }
theorem SS.writeM {K : KW} {st : Store} {n : Nat} {p : Addr} {o : HO} {c : Cell} (s : SS K m st H) (h : Mut (H p)) (hn : m[n]? = some p) (r : RC K m (upd H p o) p c) : SS K m (st.set n c) (upd H p o) where
  len := by rw [List.length_set]; exact s.len
  nd := s.nd
  cel := fun i c' a h1 h2 => by
    by_cases hi : n = i
    · subst hi
      rw [hn] at h2
      cases h2
      have hl : n < st.length := by
        rw [← s.len]
        exact (List.getElem?_eq_some_iff.mp hn).1
      rw [List.getElem?_set_self hl] at h1
      cases h1
      exact r
    · rw [List.getElem?_set_ne hi] at h1
      refine (s.cel i c' a h1 h2).kp (Kp.writeM h) fun ob q => ?_
      rw [upd_ne fun e => hi ?_]
      · exact q
      · subst e
        obtain ⟨l1, e1⟩ := List.getElem?_eq_some_iff.mp hn
        obtain ⟨l2, e2⟩ := List.getElem?_eq_some_iff.mp h2
        exact (List.getElem_inj s.nd).mp (e1.trans e2.symm)
end
end HM

/-! HM, part 2: what an evaluation promises; expressions. -/
namespace HM
open PySem PySem.Spec PyProof.Rows L2

/-- an exception and how it flies: of a built-in class, of a class of the module's by its name -/
def XR (K : PySem.W.Frag) (m : List Addr) (H : Hp) (x : Xc) (c : Value) (d : Option Addr) : Prop := match x.cls with
  | .ty n => c = .type n ∧ x.fs = []
  | .adr _ _ n _ => c = .ref (He.ga K n) ∧ ((x.fs = [] ∧ d = none) ∨ ∃ f y da v, x.fs = [(f, y)] ∧ d = some da ∧ H da = some (.xd [(f, v)]) ∧ RD K m H y v)
  | _ => False
/-- behind an evaluation -/
def Pe {α β : Type} (K : KW) (E : XK) (R : List Addr → Hp → α → β → Prop) (m : List Addr) (H : Hp) (r : ER α) (Q : β → Hp → Prop) : Prop := match r with
  | .ok a st => ∀ m' H' b, Ext K m H m' H' → SS K m' st H' → R m' H' a b → Q b H'
  | .exc x st => ∀ m' H' c d, Ext K m H m' H' → SS K m' st H' → XR K m' H' x c d → E c d H'
  | .bad => False
section
variable {α β γ δ : Type} {K : KW} {E : XK} {R : List Addr → Hp → α → β → Prop} {S : List Addr → Hp → γ → δ → Prop} {m m1 : List Addr} {H H1 : Hp} {r : ER α} {Q : β → Hp → Prop}
theorem Pe.up (h : Pe K E R m H r Q) (e : Ext K m H m1 H1) : Pe K E R m1 H1 r Q := by
  cases r with
  | ok a st => exact fun m' H' b e' s q => h m' H' b (e.trans e') s q
  | exc x st => exact fun m' H' c d e' s q => h m' H' c d (e.trans e') s q
  | bad => exact h
theorem Pe.bind {k : α → Store → ER γ} {Q' : δ → Hp → Prop} (h : Pe K E S m H (r.bind k) Q')
    (hk : ∀ a st m' H' b, Ext K m H m' H' → SS K m' st H' → R m' H' a b → Pe K E S m' H' (k a st) Q' → Q b H') : Pe K E R m H r Q := by
  cases r with
  | ok a st => exact fun m' H' b e s q => hk a st m' H' b e s q (Pe.up h e)
  | exc x st => exact h
  | bad => exact h
theorem Pe.now {a : α} {st : Store} {b : β} (h : Pe K E R m H (.ok a st) Q) (s : SS K m st H) (q : R m H a b) : Q b H := h m H b .refl s q
theorem Pe.imp {Q' : β → Hp → Prop} (h : Pe K E R m H r Q) (hQ : ∀ b H, Q b H → Q' b H) : Pe K E R m H r Q' := by
  cases r with
  | ok a st => exact fun m' H' b e s q => hQ _ _ (h m' H' b e s q)
  | exc x st => exact h
  | bad => exact h
end
abbrev RB : List Addr → Hp → Bool → Bool → Prop := fun _ _ a b => a = b

/-! ### judgements -/
def wE (X : Cx) (e : Expr) : TE := fun σ H Q => ∀ (pins : List (Addr × Obj)) (s : Shared), Inv X pins σ H s → wpAny (model X.prog X.w) X.A (eval e X.env) (EP X pins σ Q) X.xe s
def wT (X : Cx) (e : Expr) : TT := fun σ H Q => ∀ (pins : List (Addr × Obj)) (s : Shared), Inv X pins σ H s → wpAny (model X.prog X.w) X.A (isTrue e X.env (eval e X.env)) (TP X pins σ Q) X.xe s
def wW (X : Cx) (e : Expr) : TT := fun σ H Q => ∀ (whole : Sem Value) (pins : List (Addr × Obj)) (s : Shared), Inv X pins σ H s → wpAny (model X.prog X.w) X.A (isTrue e X.env whole) (TP X pins σ Q) X.xe s
def wA (X : Cx) (es : List Expr) : TA := fun σ H Q => ∀ (pos : Pos) (pins : List (Addr × Obj)) (s : Shared), Inv X pins σ H s → wpAny (model X.prog X.w) X.A (spliced (backTo pos (starEach es X.env))) (AP X pins σ Q) X.xe s
theorem peW {X : Cx} {e : Expr} : PE X e (wE X e) := ⟨fun pins s σ H Q I h => h pins s I⟩
theorem ptW {X : Cx} {e : Expr} : PT X e (wT X e) := ⟨fun pins s σ H Q I h => h pins s I⟩
theorem pwW {X : Cx} {e : Expr} : PW X e (wW X e) := ⟨fun wh pins s σ H Q I h => h wh pins s I⟩
theorem paW {X : Cx} {es : List Expr} : PA X es (wA X es) := ⟨fun pos pins s σ H Q I h => h pos pins s I⟩
/-- an expression -/
structure Ex (X : Cx) (W : WX) (e : Expr) (f : EM D) : Prop where
  run : ∀ (m : List Addr) (τ : Sl) (st : Store) (σ : L2.St) (H : Hp) (Q : VK), SL X.K m H τ σ → SS X.kw m st H → Pe X.kw (fun c d H' => W c d σ H') (RD X.K) m H (f τ st) Q → wE X e σ H Q
/-- a test -/
structure Et (X : Cx) (W : WX) (e : Expr) (f : EM Bool) : Prop where
  run : ∀ (m : List Addr) (τ : Sl) (st : Store) (σ : L2.St) (H : Hp) (Q : Bool → Hp → Prop), SL X.K m H τ σ → SS X.kw m st H → Pe X.kw (fun c d H' => W c d σ H') RB m H (f τ st) Q → wT X e σ H Q
/-- a test whatever its whole is -/
structure Ew (X : Cx) (W : WX) (e : Expr) (f : EM Bool) : Prop where
  run : ∀ (m : List Addr) (τ : Sl) (st : Store) (σ : L2.St) (H : Hp) (Q : Bool → Hp → Prop), SL X.K m H τ σ → SS X.kw m st H → Pe X.kw (fun c d H' => W c d σ H') RB m H (f τ st) Q → wW X e σ H Q
/-- arguments -/
structure Ea (X : Cx) (W : WX) (es : List Expr) (f : EM (List D)) : Prop where
  run : ∀ (m : List Addr) (τ : Sl) (st : Store) (σ : L2.St) (H : Hp) (Q : List V → Hp → Prop), SL X.K m H τ σ → SS X.kw m st H → Pe X.kw (fun c d H' => W c d σ H') (RDs X.K) m H (f τ st) Q → wA X es σ H Q
section
variable {X : Cx} {W : WX} {e a b c : Expr} {es rest : List Expr} {pos : Pos} {f fa fb fc : EM D} {fs : EM (List D)} {g : EM Bool}
theorem Ex.le {f' : EM D} (h : Ex X W e f) (hl : ∀ (m : List Addr) (τ : Sl) (st : Store) (H : Hp) (E : XK) (Q : VK), SS X.kw m st H → Pe X.kw E (RD X.K) m H (f' τ st) Q → Pe X.kw E (RD X.K) m H (f τ st) Q) : Ex X W e f' :=
  ⟨fun m τ st σ H Q hL hS hP => h.run m τ st σ H Q hL hS (hl m τ st H _ Q hS hP)⟩

/-! ### names, constants -/
def eVar (i : Nat) : EM D := fun τ st => match τ[i]? with
  | some (some d) => .ok d st
  | _ => .bad
theorem ex_var {i : Nat} {x : Str} (hN : X.N[i]? = some x) (hv : Vis X.env.scope x) (hd : (x == ("__debug__" : Str)) = false := by decide) (hcd : (x == ("__classdict__" : Str)) = false := by decide) : Ex X W (.Name x pos) (eVar i) := by
  refine ⟨fun m τ st σ H Q hL hS hP pins s I => ?_⟩
  refine (pe_var hN hv hd hcd).run pins s σ H Q I ?_
  unfold eVar at hP
  split at hP
  · rename_i d hd
    obtain ⟨v, h1, h2⟩ := hL.get i d hd
    exact ⟨v, h1, hP.now hS h2⟩
  · exact hP.elim
theorem xv (i : Nat) {x : Str} (hN : X.N[i]? = some x := by rfl) (hv : Vis X.env.scope x := by first | exact Or.inl rfl | exact Or.inr (Or.inl rfl) | exact Or.inr (Or.inr rfl)) (hd : (x == ("__debug__" : Str)) = false := by decide)
    (hcd : (x == ("__classdict__" : Str)) = false := by decide) : Ex X W (.Name x pos) (eVar i) := ex_var hN hv hd hcd
def eC (d : D) : EM D := fun _ st => .ok d st
theorem ex_c {t : TE} {d : D} {v : V} (h : PE X e t) (ht : ∀ σ H Q, Q v H → t σ H Q) (r : ∀ m H, RD X.K m H d v) : Ex X W e (eC d) :=
  ⟨fun m τ st σ H Q hL hS hP pins s I => h.run pins s σ H Q I (ht _ _ _ (hP.now hS (r m H)))⟩
theorem ex_int {i j} : Ex X W (.Constant (.int i) j pos) (eC (.int i)) := ex_c pe_int (fun _ _ _ h => h) fun _ _ => .int i
theorem ex_bl {i j} : Ex X W (.Constant (.bool i) j pos) (eC (.bl i)) := ex_c pe_bl (fun _ _ _ h => h) fun _ _ => .bl i
theorem ex_non {j} : Ex X W (.Constant .none j pos) (eC .non) := ex_c pe_non (fun _ _ _ h => h) fun _ _ => .non
theorem ex_str {x : Str} {j} : Ex X W (.Constant (.str x) j pos) (eC (.str x.cps.toList)) := ex_c pe_str (fun _ _ _ h => h) fun _ _ => by
  have e : x = ⟨x.cps.toList.toArray⟩ := by simp
  exact e ▸ .str x.cps.toList
theorem ex_strc {x : Str} {j} (l : List Nat) (h : x.cps.toList = l) : Ex X W (.Constant (.str x) j pos) (eC (.str l)) := by
  subst h
  exact ex_str
/-- a module's constant -/
theorem ex_glob {x : Str} {v : V} {u : Value} {d : D} (hg : Gl X x) (hm : X.mg x = some u) (r : RelV v u) (rd : ∀ m H, RD X.K m H d v) (hd : (x == ("__debug__" : Str)) = false := by decide) : Ex X W (.Name x pos) (eC d) :=
  ex_c (pe_glob hg hm r hd) (fun _ _ _ h => h) rd
theorem ex_bltn {x : Str} {v : V} {u : Value} {d : D} (hg : Gl X x) (hm : X.mg x = none) (hv : bootBuiltins x = some u) (r : RelV v u) (rd : ∀ m H, RD X.K m H d v) (hn : x ≠ "__name__" := by decide) (hd : (x == ("__debug__" : Str)) = false := by decide) : Ex X W (.Name x pos) (eC d) :=
  ex_c (pe_bltn hg hm hv r hn hd) (fun _ _ _ h => h) rd

/-! ### operators -/
abbrev O1 := D → Store → ER D
abbrev O2 := D → D → Store → ER D
/-- a rule by values -/
def OpM (X : Cx) (W : WX) (f : Value → Value → Sem Value) (g : O2) : Prop :=
  ∀ (m : List Addr) (st : Store) (σ : L2.St) (H : Hp) (dx dy : D) (x y : V) (Q : VK), SS X.kw m st H → RD X.K m H dx x → RD X.K m H dy y → Pe X.kw (fun c d H' => W c d σ H') (RD X.K) m H (g dx dy st) Q →
    ∀ (pins : List (Addr × Obj)) (s : Shared) (v u : Value), Inv X pins σ H s → RelV x v → RelV y u → wpAny (model X.prog X.w) X.A (f v u) (EP X pins σ Q) X.xe s
theorem OpM.opr {F : Value → Value → Sem Value} {g : O2} (h : OpM X W F g) : OpR X F (fun x y H Q => ∀ (pins : List (Addr × Obj)) (s : Shared) (σ : L2.St) (v u : Value), Inv X pins σ H s → RelV x v → RelV y u → wpAny (model X.prog X.w) X.A (F v u) (EP X pins σ Q) X.xe s) :=
  fun pins s σ H x y v u Q I rx ry z => z pins s σ v u I rx ry
def eBin (g : O2) (fa fb : EM D) : EM D := fun τ st => (fa τ st).bind fun x s1 => (fb τ s1).bind fun y s2 => g x y s2
def wR2 (X : Cx) (f : Value → Value → Sem Value) (σ : L2.St) : R2 := fun x y H Q => ∀ (pins : List (Addr × Obj)) (s : Shared) (v u : Value), Inv X pins σ H s → RelV x v → RelV y u → wpAny (model X.prog X.w) X.A (f v u) (EP X pins σ Q) X.xe s
/-- two expressions in a row -/
theorem two {g : D → D → Store → ER α} {α' : Type} {RA : List Addr → Hp → α → α' → Prop} {Q : α' → Hp → Prop} (ha : Ex X W a fa) (hb : Ex X W b fb) {m : List Addr} {τ : Sl} {st : Store} {σ : L2.St} {H : Hp} (hL : SL X.K m H τ σ) (hS : SS X.kw m st H)
    (hP : Pe X.kw (fun c d H' => W c d σ H') RA m H ((fa τ st).bind fun x s1 => (fb τ s1).bind fun y s2 => g x y s2) Q) {R : V → V → Hp → Prop}
    (hk : ∀ (m2 : List Addr) (st2 : Store) (H2 : Hp) (dx dy : D) (x y : V), Ext X.K m H m2 H2 → SS X.kw m2 st2 H2 → RD X.K m2 H2 dx x → RD X.K m2 H2 dy y → Pe X.kw (fun c d H' => W c d σ H') RA m2 H2 (g dx dy st2) Q → R x y H2) :
    wE X a σ H fun x H1 => wE X b σ H1 fun y H2 => R x y H2 :=
  ha.run m τ st σ H _ hL hS (hP.bind fun dx s1 m1 H1 x e1 hS1 r1 hP1 => hb.run m1 τ s1 σ H1 _ (hL.mono e1) hS1 (hP1.bind fun dy s2 m2 H2 y e2 hS2 r2 hP2 => hk m2 s2 H2 dx dy x y (e1.trans e2) hS2 (r1.mono e2) r2 hP2))
theorem ex_op {op : Operator} {g : O2} (ho : OpM X W (binaryOp op) g) (ha : Ex X W a fa) (hb : Ex X W b fb) : Ex X W (.BinOp a op b pos) (eBin g fa fb) := by
  refine ⟨fun m τ st σ H Q hL hS hP pins s I => ?_⟩
  refine wpAny_BinOp (binT peW peW I (R := fun x y H2 => wR2 X (binaryOp op) σ x y H2 Q) (two ha hb hL hS hP fun m2 st2 H2 dx dy x y e2 hS2 r1 r2 hP2 pins s v u I rx ry => ho m2 st2 σ H2 dx dy x y Q hS2 r1 r2 hP2 pins s v u I rx ry) fun v u s2 x y H2 I2 rx ry q => q pins s2 v u I2 rx ry)
end
end HM

/-! HM, part P: new tuples as frozen ones, that have no dict of their own. -/
namespace HM
open PySem PySem.Spec PyProof.Rows L2
/-- a new tuple -/
abbrev TNew (Q : VK) (H : Hp) (xs : List V) : Prop := ∀ (p : Addr) (o : Obj), o.dict = none → H p = none → Q (.ref p) (upd H p (.frz o (.tup xs)))
section
variable {X : Cx} {es : List Expr} {e : Expr} {t : TA} {pos : Pos}
def tTupF (t : TA) : TE := fun σ H Q => t σ H fun xs H1 => xs.length ≤ sizeLine ∧ TNew Q H1 xs
theorem pe_tupF {x1} (h : PA X es t) : PE X (.Tuple es x1 pos) (tTupF t) := by
  refine ⟨fun pins s σ H Q I hq => ?_⟩
  refine wpAny_Tuple_spliced (thn (h.run pos pins s σ H _ I hq) fun us s1 ⟨xs, H1, I1, r, z, q⟩ => ⟨by rw [← r.length]; exact z, ?_⟩)
  have hf : H1 s1.heap.objs.size = none := I1.hok.fresh (Nat.le_refl _)
  refine ⟨.ref s1.heap.objs.size, upd H1 s1.heap.objs.size (.frz { cls := .type "tuple", data := .seq us.toArray } (.tup xs)), I1.laid (t' := s1.toks) (fun b u e => Heap.get?_push_of_some _ e) (Nat.le_refl _) ?_, rfl, q _ _ rfl hf⟩
  exact ⟨Heap.get?_push_size _ rfl, z, us, r, ⟨_, Heap.get?_push_size _ rfl, rfl, _, rfl⟩⟩
theorem call_tuple_ofF : CallR X (.type "tuple") (fun xs H Q => ∃ p ys, xs = [.ref p] ∧ ((SqL X.K H p ys ∧ TNew Q H ys) ∨ (SqT X.K H p ys ∧ Q (.ref p) H))) := by
  intro pins s σ H xs us Q I r h
  obtain ⟨p, ys, rfl, h⟩ := h
  obtain ⟨u, rfl, rx⟩ := vals1 r
  cases rx
  rcases h with ⟨hq, q⟩ | ⟨hq, q⟩
  · obtain ⟨its, r', pl, hz⟩ := I.list hq
    have hlen := r'.length
    refine call_tuple_list pl.isList (fun h' kp => ?_) (by simp only [List.size_toArray] <;> omega)
    have I1 : Inv X pins σ H { s with heap := h' } := I.kept (t' := s.toks) kp
    have I2 : Inv X pins σ (upd H h'.objs.size (.frz { cls := .type "tuple", data := .seq its.toArray } (.tup ys))) { s with heap := h'.push { cls := .type "tuple", data := .seq its.toArray } } :=
      I1.laid (t' := s.toks) (fun b o e => Heap.get?_push_of_some _ e) (Nat.le_refl _) ⟨Heap.get?_push_size _ rfl, (show ObjOk X.prog X.w _ _ _ (.tup ys) from ⟨hz, its, r', IsTup.new _ _⟩)⟩
    exact ⟨.ref h'.objs.size, _, I2, rfl, q _ _ rfl (I1.hok.fresh (Nat.le_refl _))⟩
  · obtain ⟨its, r', pl, hz⟩ := I.tuple hq
    exact call_tuple_same pl ⟨.ref p, H, I, rfl, q⟩
def rCatF (K : PySem.W.Frag) : R2 := fun x y H Q => ∃ a b xs ys, x = .ref a ∧ y = .ref b ∧ SqT K H a xs ∧ SqT K H b ys ∧ xs.length + ys.length ≤ sizeLine ∧
  (xs = [] → Q (.ref b) H) ∧ (xs ≠ [] → ys = [] → Q (.ref a) H) ∧ (xs ≠ [] → ys ≠ [] → TNew Q H (xs ++ ys))
theorem op_catF : OpR X (binaryOp .Add) (rCatF X.K) := by
  intro pins s σ H x y v u Q I rx ry h
  obtain ⟨a, b, xs, ys, rfl, rfl, ha, hb, hz, q0, q1, q2⟩ := h
  cases rx
  cases ry
  obtain ⟨its, r1, p1, _⟩ := I.tuple ha
  obtain ⟨its2, r2, p2, _⟩ := I.tuple hb
  by_cases hx : xs = []
  · subst hx
    cases r1
    exact cat_tup0 p1 p2 ⟨.ref b, H, I, rfl, q0 rfl⟩
  · refine HT.cat_tup p1 p2 (fun z => hx (r1.nil_iff.mp z)) (fun z => ⟨.ref a, H, I, rfl, q1 hx (r2.nil_iff.mp z)⟩) (fun z => ?_) (by rw [← r1.length, ← r2.length]; exact hz)
    refine ⟨.ref s.heap.objs.size, _, I.laid (t' := s.toks) (o := .frz { cls := .type "tuple", data := .seq (its ++ its2).toArray } (.tup (xs ++ ys))) (fun b ob q => Heap.get?_push_of_some _ q) (Nat.le_refl _) ⟨Heap.get?_push_size _ rfl, ?_⟩, rfl, q2 hx (fun w => z (r2.nil_iff.mpr w)) _ _ rfl (I.hok.fresh (Nat.le_refl _))⟩
    exact ⟨by rw [List.length_append]; exact hz, _, r1.append r2, IsTup.new _ _⟩
def rSlF (K : PySem.W.Frag) : V → Option Int → Option Int → Hp → VK → Prop := fun x lo hi H Q => ∃ a xs, x = .ref a ∧ SqT K H a xs ∧
  ¬ (HT.sIx xs.length 0 lo = 0 ∧ HT.sIx xs.length xs.length hi = xs.length) ∧ TNew Q H (cutV xs lo hi)
theorem sl_tupF : SlR X (rSlF X.K) := by
  intro pins s σ H x v vl vu lo hi sl Q I rx hs pl pu h
  obtain ⟨a, xs, rfl, hx, hw, q⟩ := h
  cases rx
  obtain ⟨its, r, ht, hz⟩ := I.tuple hx
  have hlen : its.toArray.size = xs.length := by rw [List.size_toArray]; exact r.length.symm
  refine ⟨"tuple", _, PyProof.Rows.slot_tuple_getitem.lookup, ht.typeIs, ?_⟩
  refine HT.getItem_tuple_cut ht hs pl pu (by rw [hlen]; exact hw) ?_ (by rw [hlen]; exact hz)
  rw [hlen]
  refine ⟨.ref s.heap.objs.size, _, I.laid (t' := s.toks) (o := .frz _ (.tup (cutV xs lo hi))) (fun b ob q => Heap.get?_push_of_some _ q) (Nat.le_refl _) ⟨Heap.get?_push_size _ rfl, ?_⟩, rfl, q _ _ ?_ (I.hok.fresh (Nat.le_refl _))⟩
  · exact ⟨Nat.le_trans (cutV_length xs lo hi) hz, _, (r.drop (HT.sIx xs.length 0 lo)).take (HT.sIx xs.length xs.length hi - HT.sIx xs.length 0 lo), IsTup.new _ _⟩
  · rfl
def tTupRgF (te : L2.St → Hp → (Int → Int → Hp → Prop) → Prop) : TE := fun σ H Q => te σ H fun a b H1 => RgOk a b ∧ TNew Q H1 (rgV a b)
theorem pe_tupRgF {p pos : Pos} {te : L2.St → Hp → (Int → Int → Hp → Prop) → Prop} (hc : X.calm = true) (hg : Gl X "tuple") (hm : X.mg "tuple" = none) (he : PRg X e te) (na : starEach [e] X.env = (false, eval e X.env) :: starEach [] X.env := by rfl) : PE X (.Call (.Name "tuple" p) [e] [] pos) (tTupRgF te) := by
  refine ⟨fun pins s σ H Q I h => ?_⟩
  refine Call_ (ld_blt I hg hm boot_tuple (PyProof.Rows.callWith_type1 (args_cons (thn (he pins s σ H _ I h) fun x s1 ⟨r, a, b, t, u, v, H1, ex, hr, I1, ok, q⟩ => args_nil ?_) na) na))
  subst ex
  obtain ⟨b1, b2, b3, b4, b5⟩ := ok
  refine call_tuple_range (n := (b - a).toNat) (I1.ok.hd hc) hr (small_one b1 b2 b3 b4) (rangeSize_nat a b) b5 fun h' tk acc hk hi => ?_
  have I2 : Inv X pins σ H1 { s1 with heap := h', toks := tk } := I1.kept hk
  refine ⟨.ref h'.objs.size, upd H1 h'.objs.size (.frz { cls := .type "tuple", data := .seq acc } (.tup (rgV a b))), I2.laid (t' := tk) (fun c o e => Heap.get?_push_of_some _ e) (Nat.le_refl _) ⟨Heap.get?_push_size _ rfl, (show ObjOk X.prog X.w _ _ _ (.tup (rgV a b)) from ⟨?_, acc.toList, vals_rg hi, ?_⟩)⟩, rfl, q _ _ rfl (I2.hok.fresh (Nat.le_refl _))⟩
  · rw [rgV_length, sizeLine_eq]; omega
  · rw [Array.toArray_toList]; exact IsTup.new _ _
def rRepF (K : PySem.W.Frag) : R2 := fun x y H Q => ∃ l k xs, x = .ref l ∧ y = .int k ∧ SqT K H l xs ∧ xs ≠ [] ∧ 2 ≤ k ∧ k ≤ 1000 ∧ xs.length ≤ 1000 ∧ TNew Q H (List.replicate k.toNat xs).flatten
theorem op_repF : OpR X (binaryOp .Mult) (rRepF X.K) := by
  intro pins s σ H x y v u Q I rx ry h
  obtain ⟨l, k, xs, rfl, rfl, hT, hne, h1, h2, hz, q⟩ := h
  cases rx
  obtain ⟨t, rfl⟩ := ry
  obtain ⟨its, r, ⟨⟨cls, dd, data, sl⟩, ho, hc, n, hd⟩, hs⟩ := I.tuple hT
  simp only at hc hd
  subst hc hd
  have hle : its.length = xs.length := r.length.symm
  have hn : its ≠ [] := fun e => hne (by
    rw [e] at hle
    exact List.eq_nil_of_length_eq_zero hle.symm)
  have hi : its.toArray.isEmpty = false := by
    cases its with
    | nil => exact absurd rfl hn
    | cons a b => rfl
  have hsz0 : its.toArray.size = xs.length := by rw [List.size_toArray, hle]
  have hm : ((its.toArray.size : Nat) : Int) * k ≤ 1000000 := by
    rw [hsz0]
    have a1 : ((xs.length : Nat) : Int) * k ≤ 1000 * k := Int.mul_le_mul_of_nonneg_right (by omega) (by omega)
    omega
  have flen : (List.replicate k.toNat its).flatten.length ≤ sizeLine := by
    rw [PyProof.Rows.lm_len_rep_flat, hle, sizeLine_eq]
    have a1 : k.toNat * xs.length ≤ 1000 * 1000 := Nat.mul_le_mul (by omega) hz
    omega
  have c0 : (decide (k < -(2 ^ 63)) || decide (k ≥ 2 ^ 63)) = false := by
    rw [decide_eq_false (by omega), decide_eq_false (by omega)] <;> rfl
  have c1 : (its.toArray.isEmpty || k == 1) = false := by
    rw [hi, Bool.false_or]
    exact beq_eq_false_iff_ne.mpr (by omega)
  have c2 : (decide (k ≤ 0) || its.toArray.isEmpty) = false := by
    rw [hi, Bool.or_false]
    exact decide_eq_false (by omega)
  have c4 : Builtin.Tuple.tupleTooMany (((its.toArray.size : Nat) : Int) * k) = false := by
    unfold Builtin.Tuple.tupleTooMany
    rw [sizeLine_eq]
    exact decide_eq_false (by omega)
  refine wpAny_binaryOp_repeat_ref (T := "tuple") (U := "int") (by decide) ⟨_, ho, rfl⟩ (fun s' => typeIs_int s' k t) noFill_tuple_mul F.fills_int_mul F.slot_int_rmul repeat_tuple F.slot_int_index.lookup
    (call_meets F.slot_int_rmul (typeIs_int s k t) F.entry_int_rmul (F.args_int_rmul_2 _ _) (int_rmul_tuple k t l its.toArray n dd sl)
      ⟨ho, rfl, ⟨_, ho, rfl⟩, call_meets F.slot_tuple_mul ⟨_, ho, rfl⟩ F.entry_tuple_mul (F.args_tuple_mul_2 _ _) (tuple_mulW l its.toArray n dd sl k t c0 c1 c2 (by omega) c4 (by rw [size_rep, List.size_toArray]; exact flen)) ⟨ho, ?_⟩⟩)
  rw [size_rep]
  refine ⟨.ref s.heap.objs.size, _, I.laid (t' := s.toks) (o := .frz _ (.tup (List.replicate k.toNat xs).flatten)) (fun b ob q => Heap.get?_push_of_some _ q) (Nat.le_refl _) ⟨Heap.get?_push_size _ rfl, ?_⟩, rfl, q _ _ ?_ (I.hok.fresh (Nat.le_refl _))⟩
  · exact ⟨by rw [PyProof.Rows.lm_len_rep_flat, sizeLine_eq]; have a1 : k.toNat * xs.length ≤ 1000 * 1000 := Nat.mul_le_mul (by omega) hz; omega, _, r.rep k.toNat, IsTup.new _ _⟩
  · rfl
end
/-! ### methods of frozen tuples -/
/-- the value is of that builtin type -/
def tyP (K : PySem.W.Frag) (T : String) (x : V) (H : Hp) : Prop := tyV K T x H ∨ (T = "tuple" ∧ ∃ (p : Addr) (o : Obj) (vs : List V), x = .ref p ∧ H p = some (.frz o (.tup vs)) ∧ o.dict = none)
section
variable {X : Cx} {pins : List (Addr × Obj)} {σ : L2.St} {H : Hp} {s : Shared}
theorem tyP_is {T : String} {x : V} {v : Value} (I : Inv X pins σ H s) (r : RelV x v) (ty : tyP X.K T x H) : s.TypeIs v T ∧ ∀ a, v = .ref a → ∃ ob, s.heap.get? a = some ob ∧ ob.dict = none := by
  rcases ty with ty | ⟨rfl, p, o, vs, rfl, hp, hd⟩
  · exact tyV_is I r ty
  · cases r
    obtain ⟨e, z, its, rv, ob, e2, hc, n, hdd⟩ := I.hok p _ hp
    rw [e] at e2
    cases e2
    exact ⟨⟨o, e, hc⟩, fun a ea => by cases ea; exact ⟨o, e, hd⟩⟩
end
section
variable {X : Cx} {o e : Expr} {es : List Expr} {to : TE} {t : TA} {name : Str} {apos cpos : Pos} {T id : String} {r : V → List V → Hp → VK → Prop}
def tBM0P (K : PySem.W.Frag) (T : String) (r : V → List V → Hp → VK → Prop) (to : TE) : TE := fun σ H Q => to σ H fun x H1 => tyP K T x H1 ∧ r x [] H1 Q
def tBMP (K : PySem.W.Frag) (T : String) (r : V → List V → Hp → VK → Prop) (to : TE) (t : TA) : TE := fun σ H Q => to σ H fun x H1 => tyP K T x H1 ∧ t σ H1 fun xs H2 => r x xs H2 Q
theorem pe_bm0P (pa : PlainAttrs T) (slot : Slot T name id) (hty : typeOf (.builtin id) = pure (.type "method_descriptor")) (hm : MtR X id r) (ho : PE X o to)
    (hbase : attributeBase o name X.env (eval o X.env) = eval o X.env := by rfl) (hline : (apos.endLine == cpos.line) = true := by rfl) : PE X (.Call (.Attribute o name apos) [] [] cpos) (tBM0P X.K T r to) := by
  refine ⟨fun pins s σ H Q I h => ?_⟩
  refine wpAny_Call_method0_late hbase hline (thn (ho.run pins s σ H _ I h) fun v s1 ⟨x, H1, I1, r1, ty, q1⟩ => ?_)
  obtain ⟨h1, h2⟩ := tyP_is I1 r1 ty
  exact ⟨T, id, pa, slot, hty, h1, h2, Calls.callWith_builtin rfl (PySem.evalArgs_none (hm pins s1 σ H1 x [] v [] Q I1 r1 .nil q1))⟩
theorem pe_bmP (pa : PlainAttrs T) (slot : Slot T name id) (hty : typeOf (.builtin id) = pure (.type "method_descriptor")) (hm : MtR X id r) (ho : PE X o to) (ha : PA X (e :: es) t)
    (hbase : attributeBase o name X.env (eval o X.env) = eval o X.env := by rfl)
    (hfew : ((backTo cpos (starEach (e :: es) X.env)).all (fun x => !x.1) && (backToKw cpos (keywordEach [] X.env)).all (fun x => x.1.isSome)
      && decide ((e :: es).length + ([] : List Keyword).length + (if ([] : List Keyword).isEmpty then 0 else 1) < 30)) = true := by rfl)
    (hline : (apos.endLine == cpos.line) = true := by rfl) (hs : starEach (e :: es) X.env = (false, eval e X.env) :: starEach es X.env := by rfl) (hplain : (backTo cpos (starEach es X.env)).any (·.1) = false := by rfl) :
    PE X (.Call (.Attribute o name apos) (e :: es) [] cpos) (tBMP X.K T r to t) := by
  refine ⟨fun pins s σ H Q I h => ?_⟩
  refine wpAny_Call_method_late hbase hfew hline rfl (thn (ho.run pins s σ H _ I h) fun v s1 ⟨x, H1, I1, r1, ty, q1⟩ => ?_)
  obtain ⟨h1, h2⟩ := tyP_is I1 r1 ty
  refine ⟨T, id, pa, slot, hty, h1, h2, ?_⟩
  have hA := ha.run cpos pins s1 σ H1 _ I1 q1
  rw [hs] at hA ⊢
  refine Calls.callWith_builtin (by show (false || (backTo cpos (starEach es X.env)).any (·.1)) = false; rw [hplain] <;> rfl) (Calls.evalArgs_plain ?_)
  exact thn hA fun us s2 ⟨vs, H2, I2, r2, q2⟩ => hm pins s2 σ H2 x vs v us Q I2 r1 r2 q2
end
end HM

/-! HM, part 3: operators by values. -/
namespace HM
open PySem PySem.Spec PyProof.Rows L2
section
variable {X : Cx} {W : WX}
theorem opm_of {f : Value → Value → Sem Value} {r : R2} {g : O2} (hr : OpR X f r) (h : ∀ (m : List Addr) (st : Store) (H : Hp) (dx dy : D) (x y : V) (E : XK) (Q : VK), SS X.kw m st H → RD X.K m H dx x → RD X.K m H dy y → Pe X.kw E (RD X.K) m H (g dx dy st) Q → r x y H Q) : OpM X W f g :=
  fun m st σ H dx dy x y Q hS r1 r2 hP pins s v u I rx ry => hr pins s σ H x y v u Q I rx ry (h m st H dx dy x y _ Q hS r1 r2 hP)
end
section
variable {K : KW} {E : XK} {m : List Addr} {st : Store} {H : Hp} {Q : VK}
/-- a new tuple -/
theorem Pe.tup {ds : List D} {vs : List V} (h : Pe K E (RD K) m H (.ok (.tup ds) st) Q) (s : SS K m st H) (r : RDs K m H ds vs) : TNew Q H vs := fun p o ho hp =>
  h m _ _ (Ext.fresh hp) (s.fresh hp) (.tup (PlT.of ho) (r.mono (Ext.fresh hp)))
/-- a new list of the store's -/
theorem SS.app {c : Cell} {p : Addr} {o : HO} (s : SS K m st H) (hp : H p = none) (r : RC K (m ++ [p]) (upd H p o) p c) : SS K (m ++ [p]) (st ++ [c]) (upd H p o) :=
  (s.fresh hp).grow (s.notin hp) r
theorem Pe.lst {ds : List D} {vs : List V} (h : Pe K E (RD K) m H (.ok (.ref st.length) (st ++ [.lst ds])) Q) (s : SS K m st H) (r : RDs K m H ds vs) : ∀ p, H p = none → Q (.ref p) (upd H p (.lst vs)) := fun p hp => by
  refine h (m ++ [p]) _ _ (Ext.app hp) (s.app hp ⟨vs, upd_same, r.mono (Ext.app hp)⟩) (.ref ?_)
  rw [← s.len]
  simp
end
/-- the items of a list -/
def lstAt (st : Store) (n : Nat) : Option (List D) := match st[n]? with
  | some (.lst xs) => some xs
  | _ => none
@[simp] theorem lstAt_app {st : Store} {xs : List D} : lstAt (st ++ [.lst xs]) st.length = some xs := by simp [lstAt]
theorem lstAt_left {st more : Store} {n : Nat} (h : n < st.length) : lstAt (st ++ more) n = lstAt st n := by
  unfold lstAt
  rw [List.getElem?_append_left h]
theorem SS.list {K : KW} {m : List Addr} {st : Store} {H : Hp} {n : Nat} {xs : List D} {a : Addr} (s : SS K m st H) (h : lstAt st n = some xs) (e : m[n]? = some a) : ∃ vs, H a = some (.lst vs) ∧ RDs K m H xs vs := by
  unfold lstAt at h
  split at h
  · rename_i ys q
    cases h
    exact s.cel n _ a q e
  · cases h
theorem lstAt_lt {st : Store} {n : Nat} {xs : List D} (h : lstAt st n = some xs) : n < st.length := by
  unfold lstAt at h
  split at h
  · rename_i q
    exact (List.getElem?_eq_some_iff.mp q).1
  · cases h

/-! ### arithmetic -/
def oAdd : O2 := fun x y st => match x, y with
  | .int i, .int j => .ok (.int (i + j)) st
  | .str a, .str b => if a.length + b.length ≤ 16777216 then .ok (.str (a ++ b)) st else .bad
  | .tup a, .tup b => if a.length + b.length ≤ 16777216 then .ok (.tup (a ++ b)) st else .bad
  | .ref a, .ref b => match lstAt st a, lstAt st b with
    | some xs, some ys => if xs.length + ys.length ≤ 16777216 then .ok (.ref st.length) (st ++ [.lst (xs ++ ys)]) else .bad
    | _, _ => .bad
  | _, _ => .bad
def oInt (g : Int → Int → Int) : O2 := fun x y st => match x, y with
  | .int i, .int j => .ok (.int (g i j)) st
  | _, _ => .bad
def oIntC (C : Int → Int → Bool) (g : Int → Int → Int) : O2 := fun x y st => match x, y with
  | .int i, .int j => if C i j then .ok (.int (g i j)) st else .bad
  | _, _ => .bad
abbrev oSub : O2 := oInt fun i j => i - j
def oIAdd : O2 := fun x y st => match x, y with
  | .int i, .int j => .ok (.int (i + j)) st
  | .str a, .str b => if a.length + b.length ≤ 16777216 then .ok (.str (a ++ b)) st else .bad
  | _, _ => .bad
def okMul (i j : Int) : Bool := decide ((i.natAbs < 18446744073709551616 ∨ j.natAbs < 18446744073709551616) ∨ i.natAbs.log2 + j.natAbs.log2 < 1000000)
def okDiv (_ j : Int) : Bool := decide (j ≠ 0 ∧ j.natAbs.log2 < 9000)
def okMod (_ j : Int) : Bool := decide (j ≠ 0)
def okPow (i j : Int) : Bool := decide (0 ≤ j ∧ j ≤ 1000000 ∧ i.natAbs < 18446744073709551616)
def okShr (_ j : Int) : Bool := decide (0 ≤ j)
abbrev oMulI : O2 := oIntC okMul fun i j => i * j
abbrev oDiv : O2 := oIntC okDiv fun i j => i.fdiv j
abbrev oMod : O2 := oIntC okMod fun i j => i.fmod j
abbrev oPow : O2 := oIntC okPow fun i j => i ^ j.toNat
abbrev oShl : O2 := oIntC okPow fun i j => i * 2 ^ j.toNat
abbrev oShr : O2 := oIntC okShr fun i j => i / 2 ^ j.toNat
abbrev oAnd : O2 := oInt Builtin.bitAnd
section
variable {X : Cx} {W : WX}
theorem line_of {n : Nat} (h : n ≤ 16777216) : n ≤ sizeLine := by
  rw [PySem.sizeLine_eq]
  exact h
theorem op_add_all : OpR X (binaryOp .Add) (fun x y H Q => (rI0 (fun i j => .int (i + j)) x y H Q ∨ (∃ i j, x = .str i ∧ y = .str j ∧ i.length + j.length ≤ sizeLine ∧ Q (.str (i ++ j)) H)) ∨ (rCatF X.K x y H Q ∨ rCat x y H Q)) :=
  (op_add.or op_add_str).or (op_catF.or op_cat)
theorem m_add : OpM X W (binaryOp .Add) oAdd := opm_of op_add_all fun m st H dx dy x y E Q hS r1 r2 hP => by
  unfold oAdd at hP
  split at hP
  · cases r1
    cases r2
    exact .inl (.inl ⟨_, _, rfl, rfl, hP.now hS (.int _)⟩)
  · split at hP
    · rename_i hl
      cases r1
      cases r2
      refine .inl (.inr ⟨_, _, rfl, rfl, line_of hl, ?_⟩)
      have q := hP.now hS (.str _)
      have e : ∀ a b : List Nat, (⟨(a ++ b).toArray⟩ : PySem.Str) = (⟨a.toArray⟩ : PySem.Str) ++ (⟨b.toArray⟩ : PySem.Str) := fun a b => by
        show (⟨(a ++ b).toArray⟩ : PySem.Str) = ⟨a.toArray ++ b.toArray⟩
        simp
      rw [e] at q
      exact q
    · exact hP.elim
  · split at hP
    · rename_i a b hl
      cases r1 with
      | tup s1 h1 =>
        rename_i va
        cases r2 with
        | tup s2 h2 =>
          rename_i vb
          refine .inr (.inl ⟨_, _, _, _, rfl, rfl, s1.sq, s2.sq, line_of (by rw [← h1.len, ← h2.len]; exact hl), fun e => ?_, fun _ e => ?_, fun _ _ => ?_⟩)
          · subst e
            cases h1
            exact hP.now hS (.tup s2 h2)
          · subst e
            cases h2
            rw [List.append_nil] at hP
            exact hP.now hS (.tup s1 h1)
          · exact hP.tup hS (h1.append h2)
    · exact hP.elim
  · rename_i a b
    split at hP
    · rename_i xs ys ex ey
      split at hP
      · rename_i hl
        cases r1 with
        | ref e1 =>
          cases r2 with
          | ref e2 =>
            obtain ⟨va, ha, ra⟩ := hS.list ex e1
            obtain ⟨vb, hb, rb⟩ := hS.list ey e2
            exact .inr (.inr ⟨_, _, va, vb, rfl, rfl, ha, hb, line_of (by rw [← ra.len, ← rb.len]; exact hl), hP.lst hS (ra.append rb)⟩)
      · exact hP.elim
    · exact hP.elim
  · exact hP.elim
theorem m_int {f : Value → Value → Sem Value} {g : Int → Int → Int} (h : OpR X f (rI0 fun i j => .int (g i j))) : OpM X W f (oInt g) := opm_of h fun m st H dx dy x y E Q hS r1 r2 hP => by
  unfold oInt at hP
  split at hP
  · cases r1
    cases r2
    exact ⟨_, _, rfl, rfl, hP.now hS (.int _)⟩
  · exact hP.elim
theorem m_intC {f : Value → Value → Sem Value} {C : Int → Int → Bool} {C' : Int → Int → Prop} {g : Int → Int → Int} (h : OpR X f (rI C' fun i j => .int (g i j))) (hC : ∀ i j, C i j = true → C' i j) : OpM X W f (oIntC C g) := opm_of h fun m st H dx dy x y E Q hS r1 r2 hP => by
  unfold oIntC at hP
  split at hP
  · split at hP
    · rename_i hc
      cases r1
      cases r2
      exact ⟨_, _, rfl, rfl, hC _ _ hc, hP.now hS (.int _)⟩
    · exact hP.elim
  · exact hP.elim
theorem m_sub : OpM X W (binaryOp .Sub) oSub := m_int op_sub
theorem op_mulAny : OpR X (binaryOp .Mult) (rI IntMulOk fun i j => .int (i * j)) := opI fun _ _ _ _ _ _ _ hc q => mul_int q hc
theorem m_mulI : OpM X W (binaryOp .Mult) oMulI := m_intC op_mulAny fun i j h => by
  have q : (i.natAbs < 18446744073709551616 ∨ j.natAbs < 18446744073709551616) ∨ i.natAbs.log2 + j.natAbs.log2 < 1000000 := of_decide_eq_true h
  rcases q with (q | q) | q
  · exact CMul.ok (.inl (by omega))
  · exact CMul.ok (.inr (by omega))
  · exact CMulW.ok q
theorem op_fdivAny : OpR X (binaryOp .FloorDiv) (rI (fun _ j => j ≠ 0 ∧ j.natAbs.log2 < 9000) fun i j => .int (i.fdiv j)) := opI fun _ _ _ _ _ _ _ hc q => floordiv_int hc.1 q (.inl (PyProof.noPylong_of_log2 hc.2))
theorem m_div : OpM X W (binaryOp .FloorDiv) oDiv := m_intC op_fdivAny fun i j h => of_decide_eq_true h
theorem m_mod : OpM X W (binaryOp .Mod) oMod := m_intC op_modN fun i j h => of_decide_eq_true h
theorem ok_pow {i j : Int} (h : okPow i j = true) : CPow i j := by
  have q : 0 ≤ j ∧ j ≤ 1000000 ∧ i.natAbs < 18446744073709551616 := of_decide_eq_true h
  exact q
theorem m_pow : OpM X W (binaryOp .Pow) oPow := m_intC op_pow fun i j h => ok_pow h
theorem m_shl : OpM X W (binaryOp .LShift) oShl := m_intC op_shl fun i j h => ok_pow h
theorem m_shr : OpM X W (binaryOp .RShift) oShr := m_intC op_shr fun i j h => of_decide_eq_true h
theorem m_and : OpM X W (binaryOp .BitAnd) oAnd := m_int op_and
/-- in place -/
theorem mi_add : OpM X W (inplaceOp .Add) oIAdd := opm_of (iop_add.or iop_add_str) fun m st H dx dy x y E Q hS r1 r2 hP => by
  unfold oIAdd at hP
  split at hP
  · cases r1
    cases r2
    exact .inl ⟨_, _, rfl, rfl, hP.now hS (.int _)⟩
  · split at hP
    · rename_i hl
      cases r1
      cases r2
      refine .inr ⟨_, _, rfl, rfl, line_of hl, ?_⟩
      have q := hP.now hS (.str _)
      have e : ∀ a b : List Nat, (⟨(a ++ b).toArray⟩ : PySem.Str) = (⟨a.toArray⟩ : PySem.Str) ++ (⟨b.toArray⟩ : PySem.Str) := fun a b => by
        show (⟨(a ++ b).toArray⟩ : PySem.Str) = ⟨a.toArray ++ b.toArray⟩
        simp
      rw [e] at q
      exact q
    · exact hP.elim
  · exact hP.elim
theorem mi_sub : OpM X W (inplaceOp .Sub) oSub := m_int iop_sub
end

/-! ### == by what is data -/
def D.toP : Nat → D → PyData
  | _, .int i => .int i
  | _, .str x => .str ⟨x.toArray⟩
  | n + 1, .tup xs => .tuple (xs.map (D.toP n))
  | _, .bl b => .bool b
  | _, _ => .none
theorem plain_all {K : PySem.W.Frag} {m : List Addr} {H : Hp} {n : Nat} (ih : ∀ (d : D) (v : V), d.plain n = true → RD K m H d v → Dp K H v (d.toP n) ∧ (d.toP n).canLay0 = true ∧ (d.toP n).depth ≤ n) : ∀ (ds : List D) (vs : List V), ds.all (D.plain n) = true → RDs K m H ds vs →
    DpAll K H vs (ds.map (D.toP n)) ∧ PyData.canLayAll0 (ds.map (D.toP n)) = true ∧ PyData.depthAll (ds.map (D.toP n)) ≤ n
  | [], _, _, r => by
    cases r
    exact ⟨.nil, by simp [PyData.canLayAll0], by simp [PyData.depthAll]⟩
  | d :: ds, _, h, r => by
    cases r with
    | cons r1 r2 =>
      rw [List.all_cons, Bool.and_eq_true] at h
      obtain ⟨a1, a2, a3⟩ := ih d _ h.1 r1
      obtain ⟨b1, b2, b3⟩ := plain_all ih ds _ h.2 r2
      refine ⟨.cons a1 b1, ?_, ?_⟩
      · simp only [List.map_cons, PyData.canLayAll0, a2, b2, Bool.and_self]
      · simp only [List.map_cons, PyData.depthAll]
        omega
theorem str_ok {x : List Nat} {n : Nat} (h : (x.all fun c => decide (c < 1114112)) = true) : ((D.str x).toP n).canLay0 = true := by
  have e : (D.str x).toP n = .str ⟨x.toArray⟩ := by cases n <;> rfl
  rw [e]
  simp only [PyData.canLay0, PyData.strOk]
  simpa using h
theorem plain_dp {K : PySem.W.Frag} {m : List Addr} {H : Hp} : ∀ (n : Nat) (d : D) (v : V), d.plain n = true → RD K m H d v → Dp K H v (d.toP n) ∧ (d.toP n).canLay0 = true ∧ (d.toP n).depth ≤ n := by
  intro n
  induction n with
  | zero =>
    intro d v h r
    cases r <;> simp [D.plain] at h
    · exact ⟨.non, by simp [D.toP, PyData.canLay0], by simp [D.toP, PyData.depth]⟩
    · exact ⟨.int _, by simp [D.toP, PyData.canLay0], by simp [D.toP, PyData.depth]⟩
    · exact ⟨.str _, str_ok (by simpa using h), by simp [D.toP, PyData.depth]⟩
  | succ n ih =>
    intro d v h r
    cases r with
    | non => exact ⟨.non, by simp [D.toP, PyData.canLay0], by simp [D.toP, PyData.depth]⟩
    | int i => exact ⟨.int _, by simp [D.toP, PyData.canLay0], by simp [D.toP, PyData.depth]⟩
    | str x => exact ⟨.str _, str_ok h, by simp [D.toP, PyData.depth]⟩
    | tup s rs =>
      rename_i a vs ds
      obtain ⟨b1, b2, b3⟩ := plain_all ih ds vs h rs
      refine ⟨.tup s.sq b1, by simpa only [D.toP, PyData.canLay0] using b2, ?_⟩
      simp only [D.toP, PyData.depth]
      omega
    | _ => simp [D.plain] at h
theorem eqvAll_map {n : Nat} (ih : ∀ x y : D, x.plain n = true → y.plain n = true → PyData.eqv (x.toP n) (y.toP n) = decide (x = y)) : ∀ xs ys : List D, xs.all (D.plain n) = true → ys.all (D.plain n) = true → PyData.eqvAll (xs.map (D.toP n)) (ys.map (D.toP n)) = decide (xs = ys)
  | [], [], _, _ => by simp [PyData.eqvAll]
  | [], _ :: _, _, _ => by simp [PyData.eqvAll]
  | _ :: _, [], _, _ => by simp [PyData.eqvAll]
  | x :: xs, y :: ys, h1, h2 => by
    rw [List.all_cons, Bool.and_eq_true] at h1 h2
    simp only [List.map_cons, PyData.eqvAll, ih x y h1.1 h2.1, eqvAll_map ih xs ys h1.2 h2.2, List.cons.injEq, Bool.decide_and]
theorem eqv_plain : ∀ (n : Nat) (x y : D), x.plain n = true → y.plain n = true → PyData.eqv (x.toP n) (y.toP n) = decide (x = y) := by
  intro n
  induction n with
  | zero =>
    intro x y h1 h2
    cases x <;> simp [D.plain] at h1 <;> cases y <;> simp [D.plain] at h2 <;> simp [D.toP, PyData.eqv]
    all_goals first | rfl | (rw [Bool.eq_iff_iff]; simp)
  | succ n ih =>
    intro x y h1 h2
    cases x <;> simp only [D.plain, Bool.false_eq_true] at h1 <;> cases y <;> simp only [D.plain, Bool.false_eq_true] at h2 <;> first
      | (simp only [D.toP, PyData.eqv, D.tup.injEq]; exact eqvAll_map ih _ _ h1 h2)
      | (simp only [D.toP, PyData.eqv]; first | rfl | (rw [Bool.eq_iff_iff]; simp))
/-- a value as data that == compares: one by itself, or a list -/
def D.pd (st : Store) (d : D) : Option (D ⊕ List D) := match d with
  | .ref n => match lstAt st n with
    | some xs => if xs.all (D.plain 59) then some (.inr xs) else none
    | none => none
  | .rol xs => if xs.all (D.plain 59) then some (.inr xs) else none
  | d => if d.plain 60 then some (.inl d) else none
def pdP : D ⊕ List D → PyData
  | .inl d => d.toP 60
  | .inr xs => .list (xs.map (D.toP 59))
theorem pd_dp {K : KW} {m : List Addr} {st : Store} {H : Hp} {d : D} {v : V} {p : D ⊕ List D} (s : SS K m st H) (h : d.pd st = some p) (r : RD K m H d v) : Dp K H v (pdP p) ∧ SeqAt.shaped (pdP p) = true := by
  have fin : ∀ {q : PyData}, q.canLay0 = true → q.depth ≤ 60 → SeqAt.shaped q = true := fun {q} h1 h2 => by
    unfold SeqAt.shaped
    rw [h1, Bool.true_and, decide_eq_true_eq]
    omega
  have one : ∀ {d : D}, RD K m H d v → d.plain 60 = true → Dp K H v (d.toP 60) ∧ SeqAt.shaped (d.toP 60) = true := fun {d} r h => by
    obtain ⟨a, b, c⟩ := plain_dp 60 d v h r
    exact ⟨a, fin b c⟩
  have lst : ∀ {xs : List D} {vs : List V} {a : Addr}, SqL K H a vs → RDs K m H xs vs → xs.all (D.plain 59) = true → Dp K H (.ref a) (.list (xs.map (D.toP 59))) ∧ SeqAt.shaped (.list (xs.map (D.toP 59))) = true := fun {xs vs a} hl rs h => by
    obtain ⟨a, b, c⟩ := plain_all (plain_dp 59) xs vs h rs
    refine ⟨.lst hl a, fin (by simpa only [PyData.canLay0] using b) ?_⟩
    simp only [PyData.depth]
    omega
  unfold D.pd at h
  split at h
  · split at h
    · split at h
      · rename_i n _ xs e ha
        cases h
        cases r with
        | ref q =>
          obtain ⟨vs, h1, h2⟩ := s.list e q
          exact lst (SqL.of h1) h2 ha
      · cases h
    · cases h
  · split at h
    · rename_i ha
      cases h
      cases r with
      | rol q rs => exact lst q.sq rs ha
    · cases h
  · split at h
    · rename_i ha
      cases h
      exact one r ha
    · cases h
theorem pd_ok {st : Store} {d : D} {p : D ⊕ List D} (h : d.pd st = some p) : (∃ e : D, p = .inl e ∧ e.plain 60 = true) ∨ ∃ xs : List D, p = .inr xs ∧ xs.all (D.plain 59) = true := by
  unfold D.pd at h
  split at h
  · split at h
    · split at h
      · cases h
        exact .inr ⟨_, rfl, by assumption⟩
      · cases h
    · cases h
  · split at h
    · cases h
      exact .inr ⟨_, rfl, by assumption⟩
    · cases h
  · split at h
    · cases h
      exact .inl ⟨_, rfl, by assumption⟩
    · cases h
theorem pd_eqv {st st' : Store} {d e : D} {p q : D ⊕ List D} (h : d.pd st = some p) (h' : e.pd st' = some q) : PyData.eqv (pdP p) (pdP q) = decide (p = q) := by
  rcases pd_ok h with ⟨x, rfl, hx⟩ | ⟨xs, rfl, hx⟩
  · rcases pd_ok h' with ⟨y, rfl, hy⟩ | ⟨ys, rfl, hy⟩
    · show PyData.eqv (x.toP 60) (y.toP 60) = _
      rw [eqv_plain 60 x y hx hy]
      simp
    · show PyData.eqv (x.toP 60) _ = _
      cases x <;> simp [D.plain] at hx <;> simp [D.toP, pdP, PyData.eqv]
  · rcases pd_ok h' with ⟨y, rfl, hy⟩ | ⟨ys, rfl, hy⟩
    · show PyData.eqv _ (y.toP 60) = _
      cases y <;> simp [D.plain] at hy <;> simp [D.toP, pdP, PyData.eqv]
    · show PyData.eqvAll (xs.map (D.toP 59)) (ys.map (D.toP 59)) = _
      rw [eqvAll_map (eqv_plain 59) xs ys hx hy]
      simp
def dEq (x y : D) (st : Store) : Option Bool := match x, y with
  | .str a, .str b => some (decide (a = b))
  | .bl a, .bl b => some (decide (a = b))
  | .int a, .int b => some (decide (a = b))
  | .bl a, .int b => some (decide ((if a then 1 else 0) = b))
  | .int a, .bl b => some (decide (a = (if b then 1 else 0)))
  | x, y => match x.pd st, y.pd st with
    | some p, some q => some (decide (p = q))
    | _, _ => none
def oEq : O2 := fun x y st => match dEq x y st with
  | some b => .ok (.bl b) st
  | none => .bad
def oNe : O2 := fun x y st => match dEq x y st with
  | some b => .ok (.bl !b) st
  | none => .bad
section
variable {X : Cx} {W : WX}
theorem m_eqB {op : CmpOp} {neg : Bool → Bool} {r1 r2 : R2} (h1 : OpR X (compareOp op) r1) (h2 : OpR X (compareOp op) r2) (s1 : ∀ x y H Q, scal x y = true → Q (.bl (neg (decide (x = y)))) H → r1 x y H Q)
    (s2 : ∀ x y H Q d e, Dp X.K H x d → Dp X.K H y e → SeqAt.shaped d = true → SeqAt.shaped e = true → Q (.bl (neg (PyData.eqv d e))) H → r2 x y H Q) : OpM X W (compareOp op) (fun x y st => match dEq x y st with
    | some b => .ok (.bl (neg b)) st
    | none => .bad) := opm_of (h1.or h2) fun m st H dx dy x y E Q hS ra rb hP => by
  split at hP
  · rename_i b hb
    have q := hP.now hS (.bl _)
    unfold dEq at hb
    split at hb
    · cases ra
      cases rb
      cases hb
      refine .inl (s1 _ _ _ _ rfl ?_)
      simpa using q
    · cases ra
      cases rb
      cases hb
      refine .inl (s1 _ _ _ _ rfl ?_)
      simpa using q
    · cases ra
      cases rb
      cases hb
      refine .inl (s1 _ _ _ _ rfl ?_)
      simpa using q
    · cases ra
      cases rb
      cases hb
      refine .inr (s2 _ _ _ _ _ _ (.bl _) (.int _) rfl rfl ?_)
      simpa [PyData.eqv, Bool.beq_eq_decide_eq] using q
    · cases ra
      cases rb
      cases hb
      refine .inr (s2 _ _ _ _ _ _ (.int _) (.bl _) rfl rfl ?_)
      simpa [PyData.eqv, Bool.beq_eq_decide_eq] using q
    · split at hb
      · rename_i p q' e1 e2
        cases hb
        obtain ⟨a1, a2⟩ := pd_dp hS e1 ra
        obtain ⟨b1, b2⟩ := pd_dp hS e2 rb
        refine .inr (s2 _ _ _ _ _ _ a1 b1 a2 b2 ?_)
        rw [pd_eqv e1 e2]
        exact q
      · cases hb
  · exact hP.elim
theorem m_eq (hu : X.A.units + 64 < cLine) : OpM X W (compareOp .Eq) oEq := m_eqB (neg := id) op_eq (op_eqD hu) (fun x y H Q h q => ⟨h, q⟩) fun x y H Q d e h1 h2 h3 h4 q => ⟨d, e, h1, h2, h3, h4, q⟩
theorem m_ne (hu : X.A.units + 64 < cLine) : OpM X W (compareOp .NotEq) oNe := m_eqB (neg := Bool.not) op_ne (op_neD hu) (fun x y H Q h q => ⟨h, q⟩) fun x y H Q d e h1 h2 h3 h4 q => ⟨d, e, h1, h2, h3, h4, q⟩
/-! ### order of ints, is -/
def oCmp (g : Int → Int → Bool) : O2 := fun x y st => match x, y with
  | .int i, .int j => .ok (.bl (g i j)) st
  | _, _ => .bad
theorem m_cmp {f : Value → Value → Sem Value} {g : Int → Int → Bool} (h : OpR X f (rI0 fun i j => .bl (g i j))) : OpM X W f (oCmp g) := opm_of h fun m st H dx dy x y E Q hS r1 r2 hP => by
  unfold oCmp at hP
  split at hP
  · cases r1
    cases r2
    exact ⟨_, _, rfl, rfl, hP.now hS (.bl _)⟩
  · exact hP.elim
abbrev oLtI : O2 := oCmp fun i j => decide (i < j)
abbrev oLe : O2 := oCmp fun i j => decide (i ≤ j)
abbrev oGt : O2 := oCmp fun i j => decide (j < i)
abbrev oGe : O2 := oCmp fun i j => decide (j ≤ i)
theorem m_ltI : OpM X W (compareOp .Lt) oLtI := m_cmp op_lt
theorem m_le : OpM X W (compareOp .LtE) oLe := m_cmp op_le
theorem m_gt : OpM X W (compareOp .Gt) oGt := m_cmp op_gt
theorem m_ge : OpM X W (compareOp .GtE) oGe := m_cmp op_ge
def dIs (x y : D) : Option Bool := match x, y with
  | .non, .non => some true
  | .bl _, .non | .int _, .non | .str _, .non | .tup _, .non | .ref _, .non | .rol _, .non => some false
  | .bl a, .bl b => some (decide (a = b))
  | _, _ => none
def oIs : O2 := fun x y st => match dIs x y with
  | some b => .ok (.bl b) st
  | none => .bad
def oIsNot : O2 := fun x y st => match dIs x y with
  | some b => .ok (.bl !b) st
  | none => .bad
theorem m_isB {op : CmpOp} {neg : Bool → Bool} {r1 r2 : R2} (h1 : OpR X (compareOp op) r1) (h2 : OpR X (compareOp op) r2) (s1 : ∀ x H (Q : VK), Q (.bl (neg (decide (x = .non)))) H → r1 x .non H Q)
    (s2 : ∀ a b H (Q : VK), Q (.bl (neg (decide (a = b)))) H → r2 (.bl a) (.bl b) H Q) : OpM X W (compareOp op) (fun x y st => match dIs x y with
    | some b => .ok (.bl (neg b)) st
    | none => .bad) := opm_of (h1.or h2) fun m st H dx dy x y E Q hS ra rb hP => by
  split at hP
  · rename_i b hb
    have q := hP.now hS (.bl _)
    unfold dIs at hb
    split at hb <;> cases hb <;> cases ra <;> cases rb <;> first | exact .inl (s1 _ _ _ q) | exact .inr (s2 _ _ _ _ q)
  · exact hP.elim
theorem m_is : OpM X W (compareOp .Is) oIs := m_isB (neg := id) op_isN op_is_bl (fun x H Q q => ⟨rfl, q⟩) fun a b H Q q => ⟨_, _, rfl, rfl, q⟩
theorem m_isnot : OpM X W (compareOp .IsNot) oIsNot := m_isB (neg := Bool.not) op_notN op_isnot_bl (fun x H Q q => ⟨rfl, q⟩) fun a b H Q q => ⟨_, _, rfl, rfl, q⟩
end
end HM

/-! HM, part 4: expressions. -/
namespace HM
open PySem PySem.Spec PyProof.Rows L2
section
variable {X : Cx} {W : WX} {e a b c : Expr} {es rest : List Expr} {pos : Pos} {f fa fb fc : EM D} {fs : EM (List D)} {g ga gb : EM Bool}

/-! ### unary, comparisons -/
def eUn (o : O1) (fa : EM D) : EM D := fun τ st => (fa τ st).bind o
def UnM (X : Cx) (W : WX) (F : Value → Sem Value) (g : O1) : Prop :=
  ∀ (m : List Addr) (st : Store) (σ : L2.St) (H : Hp) (dx : D) (x : V) (Q : VK), SS X.kw m st H → RD X.K m H dx x → Pe X.kw (fun c d H' => W c d σ H') (RD X.K) m H (g dx st) Q →
    ∀ (pins : List (Addr × Obj)) (s : Shared) (v : Value), Inv X pins σ H s → RelV x v → wpAny (model X.prog X.w) X.A (F v) (EP X pins σ Q) X.xe s
theorem ex_un {op : UnaryOp} {o : O1} (ho : UnM X W (unaryOp op) o) (ha : Ex X W a fa) : Ex X W (.UnaryOp op a pos) (eUn o fa) := by
  refine ⟨fun m τ st σ H Q hL hS hP pins s I => ?_⟩
  refine UnaryOp_ (thn (ha.run m τ st σ H (fun x H1 => ∀ (pins : List (Addr × Obj)) (s : Shared) (v : Value), Inv X pins σ H1 s → RelV x v → wpAny (model X.prog X.w) X.A (unaryOp op v) (EP X pins σ Q) X.xe s) hL hS (hP.bind fun dx s1 m1 H1 x e1 hS1 r1 hP1 pins s v I rx => ho m1 s1 σ H1 dx x Q hS1 r1 hP1 pins s v I rx) pins s I) fun v s1 ⟨x, H1, I1, r1, q1⟩ => q1 pins s1 v I1 r1)
def oNeg : O1 := fun x st => match x with
  | .int i => .ok (.int (-i)) st
  | _ => .bad
theorem m_neg : UnM X W (unaryOp .USub) oNeg := fun m st σ H dx x Q hS r hP pins s v I rx => by
  unfold oNeg at hP
  split at hP
  · cases r
    exact un_neg pins s σ H _ v Q I rx ⟨_, rfl, hP.now hS (.int _)⟩
  · exact hP.elim
theorem ex_cmp {op : CmpOp} {o : O2} (ho : OpM X W (compareOp op) o) (ha : Ex X W a fa) (hb : Ex X W b fb) (hm : behindInMarks op b = false) : Ex X W (.Compare a [op] [b] pos) (eBin o fa fb) := by
  refine ⟨fun m τ st σ H Q hL hS hP pins s I => ?_⟩
  exact wpAny_Compare1 (binT peW peW I (R := fun x y H2 => wR2 X (compareOp op) σ x y H2 Q) (two ha hb hL hS hP fun m2 st2 H2 dx dy x y e2 hS2 r1 r2 hP2 pins s v u I rx ry => ho m2 st2 σ H2 dx dy x y Q hS2 r1 r2 hP2 pins s v u I rx ry) fun v u s2 x y H2 I2 rx ry q => q pins s2 v u I2 rx ry) hm
/-- a bool as a test -/
def dBl (x : D) (st : Store) : ER Bool := match x with
  | .bl b => .ok b st
  | _ => .bad
def tBl (fa : EM D) : EM Bool := fun τ st => (fa τ st).bind dBl
theorem bl_post {K : KW} {E : XK} {m : List Addr} {H : Hp} {dx : D} {s1 : Store} {x : V} {Q : Bool → Hp → Prop} (hS : SS K m s1 H) (r : RD K m H dx x) (hP : Pe K E RB m H (dBl dx s1) Q) : ∃ k, x = .bl k ∧ Q k H := by
  unfold dBl at hP
  split at hP
  · cases r
    exact ⟨_, rfl, hP.now hS rfl⟩
  · exact hP.elim
theorem et_cmp {op : CmpOp} {o : O2} (ho : OpM X W (compareOp op) o) (ha : Ex X W a fa) (hb : Ex X W b fb) (hm : behindInMarks op b = false) : Et X W (.Compare a [op] [b] pos) (tBl (eBin o fa fb)) := by
  refine ⟨fun m τ st σ H Q hL hS hP pins s I => ?_⟩
  have q : wE X (.Compare a [op] [b] pos) σ H fun x H1 => ∃ k, x = .bl k ∧ Q k H1 := (ex_cmp ho ha hb hm).run m τ st σ H _ hL hS (hP.bind fun dx s1 m1 H1 x e1 hS1 r1 hP1 => bl_post hS1 r1 hP1)
  refine wpAny_isTrue_Compare1 (binT peW peW I (R := fun x y H2 => wR2 X (compareOp op) σ x y H2 fun x H1 => ∃ k, x = .bl k ∧ Q k H1) ?_ fun v u s2 x y H2 I2 rx ry q => thn (q pins s2 v u I2 rx ry) fun c s3 ⟨x, H1, I1, r1, q1⟩ => ?_) hm
  · have hP' : Pe X.kw (fun c d H' => W c d σ H') (RD X.K) m H (eBin o fa fb τ st) fun x H1 => ∃ k, x = .bl k ∧ Q k H1 := hP.bind fun dx s1 m1 H1 x e1 hS1 r1 hP1 => bl_post hS1 r1 hP1
    exact two ha hb hL hS hP' fun m2 st2 H2 dx dy x y e2 hS2 r1 r2 hP2 pins s v u I rx ry => ho m2 st2 σ H2 dx dy x y _ hS2 r1 r2 hP2 pins s v u I rx ry
  · obtain ⟨k, rfl, q1⟩ := q1
    cases r1
    exact wpAny_truthy_bool ⟨H1, I1, q1⟩
/-- a chain of two comparisons -/
def eChain (o o' : O2) (fa fb fc : EM D) : EM D := fun τ st => (fa τ st).bind fun x s1 => (fb τ s1).bind fun y s2 => (o x y s2).bind fun z s3 => match z with
  | .bl true => (fc τ s3).bind fun w s4 => o' y w s4
  | .bl false => .ok (.bl false) s3
  | _ => .bad
theorem chain_read {op op' : CmpOp} {o o' : O2} (ho : OpM X W (compareOp op) o) (ho' : OpM X W (compareOp op') o') (ha : Ex X W a fa) (hb : Ex X W b fb) (hc : Ex X W c fc) {m : List Addr} {τ : Sl} {st : Store} {σ : L2.St} {H : Hp} {Q : VK} (hL : SL X.K m H τ σ) (hS : SS X.kw m st H)
    (hP : Pe X.kw (fun c d H' => W c d σ H') (RD X.K) m H (eChain o o' fa fb fc τ st) Q) : tChain (fun x y H Q => wR2 X (compareOp op) σ x y H Q) (fun x y H Q => wR2 X (compareOp op') σ x y H Q) (wE X a) (wE X b) (wE X c) σ H Q := by
  refine two ha hb hL hS hP fun m2 st2 H2 dx dy x y e2 hS2 r1 r2 hP2 pins s v u I rx ry => ?_
  refine ho m2 st2 σ H2 dx dy x y _ hS2 r1 r2 (hP2.bind fun dz s3 m3 H3 z e3 hS3 r3 hP3 => ?_) pins s v u I rx ry
  split at hP3
  · cases r3
    refine ⟨true, rfl, ?_⟩
    rw [if_pos rfl]
    exact hc.run m3 τ s3 σ H3 _ (hL.mono (e2.trans e3)) hS3 (hP3.bind fun dw s4 m4 H4 w e4 hS4 r4 hP4 pins s v u I rx ry => ho' m4 s4 σ H4 dy dw y w Q hS4 ((r2.mono e3).mono e4) r4 hP4 pins s v u I rx ry)
  · cases r3
    refine ⟨false, rfl, ?_⟩
    rw [if_neg Bool.false_ne_true]
    exact hP3.now hS3 (.bl _)
  · exact hP3.elim
/-- a rule of the layer's whose premises may speak of the slots at hand -/
theorem oprS {F : Value → Value → Sem Value} {σ : L2.St} : ∀ (pins : List (Addr × Obj)) (s : Shared) (H : Hp) (x y : V) (v u : Value) (Q : VK), Inv X pins σ H s → RelV x v → RelV y u → wR2 X F σ x y H Q → wpAny (model X.prog X.w) X.A (F v u) (EP X pins σ Q) X.xe s :=
  fun pins s H x y v u Q I rx ry q => q pins s v u I rx ry
theorem ex_chain {op op' : CmpOp} {o o' : O2} (ho : OpM X W (compareOp op) o) (ho' : OpM X W (compareOp op') o') (ha : Ex X W a fa) (hb : Ex X W b fb) (hc : Ex X W c fc) (hm : lastMarks [op, op'] [b, c] = false := by with_unfolding_all rfl) : Ex X W (.Compare a [op, op'] [b, c] pos) (eChain o o' fa fb fc) := by
  refine ⟨fun m τ st σ H Q hL hS hP pins s I => ?_⟩
  have h := chain_read ho ho' ha hb hc hL hS hP
  refine Compare_chain (thn (peW.run pins s σ H _ I h) fun v s1 ⟨x, H1, I1, r1, q1⟩ => chain_link (thn (peW.run pins s1 σ H1 _ I1 q1) fun u s2 ⟨y, H2, I2, r2, q2⟩ =>
    thn (q2 pins s2 v u I2 r1 r2) fun d s3 ⟨z, H3, I3, r3, k, e, q3⟩ => ?_)) hm
  subst e
  cases r3
  refine wpAny_truthy_bool ?_
  cases k with
  | false => exact ite_ff ⟨.bl false, H3, I3, rfl, q3⟩
  | true => exact ite_tt (chain_last (thn (peW.run pins s3 σ H3 _ I3 q3) fun w' s4 ⟨z', H4, I4, r4, q4⟩ => q4 pins s4 u w' I4 r2 r4))
theorem et_chain {op op' : CmpOp} {o o' : O2} (ho : OpM X W (compareOp op) o) (ho' : OpM X W (compareOp op') o') (ha : Ex X W a fa) (hb : Ex X W b fb) (hc : Ex X W c fc) (hm : lastMarks [op, op'] [b, c] = false := by with_unfolding_all rfl) : Et X W (.Compare a [op, op'] [b, c] pos) (tBl (eChain o o' fa fb fc)) := by
  refine ⟨fun m τ st σ H Q hL hS hP pins s I => ?_⟩
  have hP' : Pe X.kw (fun c d H' => W c d σ H') (RD X.K) m H (eChain o o' fa fb fc τ st) fun x H1 => ∃ k, x = .bl k ∧ Q k H1 := hP.bind fun dx s1 m1 H1 x e1 hS1 r1 hP1 => bl_post hS1 r1 hP1
  have h := chain_read ho ho' ha hb hc hL hS hP'
  refine isTrue_chain (thn (peW.run pins s σ H _ I h) fun v s1 ⟨x, H1, I1, r1, q1⟩ => test_link (thn (peW.run pins s1 σ H1 _ I1 q1) fun u s2 ⟨y, H2, I2, r2, q2⟩ =>
    thn (q2 pins s2 v u I2 r1 r2) fun d s3 ⟨z, H3, I3, r3, k, e, q3⟩ => ?_)) hm
  subst e
  cases r3
  refine wpAny_truthy_bool ?_
  cases k with
  | false =>
    obtain ⟨k', e', q'⟩ := q3
    cases e'
    exact ite_ff ⟨H3, I3, q'⟩
  | true =>
    refine ite_tt (test_last (thn (peW.run pins s3 σ H3 _ I3 q3) fun w' s4 ⟨z', H4, I4, r4, q4⟩ => thn (q4 pins s4 u w' I4 r2 r4) fun d' s5 ⟨z2, H5, I5, r5, k2, e2, q5⟩ => ?_))
    subst e2
    cases r5
    exact wpAny_truthy_bool ⟨H5, I5, q5⟩

/-! ### tests -/
/-- a value's truth -/
def dTru (st : Store) : D → Option Bool
  | .non => some false
  | .bl b => some b
  | .int i => some (i != 0)
  | .str x => if x.length ≤ 16777216 then some (!x.isEmpty) else none
  | .tup xs => some (!xs.isEmpty)
  | .rol xs => some (!xs.isEmpty)
  | .ref n => (lstAt st n).map fun xs => !xs.isEmpty
  | _ => none
def tVal (fa : EM D) : EM Bool := fun τ st => (fa τ st).bind fun x s1 => match dTru s1 x with
  | some b => .ok b s1
  | none => .bad
theorem empty_of {K : PySem.W.Frag} {m : List Addr} {H : Hp} {ds : List D} {vs : List V} (r : RDs K m H ds vs) : ds.isEmpty = vs.isEmpty := by
  cases r <;> rfl
theorem tru_read {K : KW} {m : List Addr} {st : Store} {H : Hp} {d : D} {v : V} {b : Bool} (s : SS K m st H) (h : dTru st d = some b) (r : RD K m H d v) : TruV K v H b := by
  cases r with
  | non =>
    cases h
    exact rfl
  | bl b =>
    cases h
    exact rfl
  | int i =>
    cases h
    exact rfl
  | str x =>
    have h : (if x.length ≤ 16777216 then some (!x.isEmpty) else none) = some b := h
    split at h
    · rename_i hl
      cases h
      refine ⟨line_of (by simpa [PySem.Str.length] using hl), ?_⟩
      cases x with
      | nil => rfl
      | cons c x =>
        have e : ((⟨(c :: x).toArray⟩ : PySem.Str).length : Int) ≠ 0 := by
          show (((c :: x).toArray.size : Nat) : Int) ≠ 0
          rw [List.size_toArray, List.length_cons]
          omega
        simp [PySem.Str.length]
        omega
    · cases h
  | tup q rs =>
    cases h
    exact .inr (.inl ⟨_, q.sq, by rw [empty_of rs]⟩)
  | rol q rs =>
    cases h
    exact .inl ⟨_, q.sq, by rw [empty_of rs]⟩
  | ref q =>
    unfold dTru at h
    simp only [Option.map_eq_some_iff] at h
    obtain ⟨xs, e, rfl⟩ := h
    obtain ⟨vs, h1, h2⟩ := s.list e q
    exact .inl ⟨vs, SqL.of h1, by rw [empty_of h2]⟩
  | _ => cases h
theorem et_val (ha : Ex X W a fa) (he : ∀ whole, isTrue a X.env whole = (do let v ← whole; standAt a.pos; holding [v] (truthy v)) := by intro _; rfl) : Et X W a (tVal fa) := by
  refine ⟨fun m τ st σ H Q hL hS hP pins s I => ?_⟩
  refine isTrue_plain (thn (ha.run m τ st σ H (fun x H' => ∃ k, TruV X.K x H' k ∧ Q k H') hL hS (hP.bind fun dx s1 m1 H1 x e1 hS1 r1 hP1 => ?_) pins s I) fun v s1 ⟨x, H1, I1, r1, q1⟩ => tru_ok pins s1 σ H1 x v Q I1 r1 q1) (he _)
  split at hP1
  · rename_i k hk
    exact ⟨k, tru_read hS1 hk r1, hP1.now hS1 rfl⟩
  · exact hP1.elim
def tAnd (ga gb : EM Bool) : EM Bool := fun τ st => (ga τ st).bind fun x s1 => if x then gb τ s1 else .ok false s1
def tOr (ga gb : EM Bool) : EM Bool := fun τ st => (ga τ st).bind fun x s1 => if x then .ok true s1 else gb τ s1
def tNot (ga : EM Bool) : EM Bool := fun τ st => (ga τ st).bind fun x s1 => .ok (!x) s1
theorem Ew.et (h : Ew X W e g) : Et X W e g := ⟨fun m τ st σ H Q hL hS hP pins s I => h.run m τ st σ H Q hL hS hP _ pins s I⟩
theorem ew_and1 (ha : Et X W a ga) : Ew X W (.BoolOp .And [a] pos) ga := ⟨fun m τ st σ H Q hL hS hP wh pins s I => (pw_and1 ptW).run wh pins s σ H Q I (ha.run m τ st σ H Q hL hS hP)⟩
theorem ew_or1 (ha : Et X W a ga) : Ew X W (.BoolOp .Or [a] pos) ga := ⟨fun m τ st σ H Q hL hS hP wh pins s I => (pw_or1 ptW).run wh pins s σ H Q I (ha.run m τ st σ H Q hL hS hP)⟩
theorem ew_and (ha : Et X W a ga) (hb : Ew X W (.BoolOp .And (b :: rest) pos) gb) : Ew X W (.BoolOp .And (a :: b :: rest) pos) (tAnd ga gb) := by
  refine ⟨fun m τ st σ H Q hL hS hP wh pins s I => (pw_and ptW pwW).run wh pins s σ H Q I ?_⟩
  refine ha.run m τ st σ H _ hL hS (hP.bind fun dx s1 m1 H1 x e1 hS1 r1 hP1 => ?_)
  subst r1
  cases dx with
  | true => exact iteT (hb.run m1 τ s1 σ H1 Q (hL.mono e1) hS1 hP1)
  | false => exact iteF (hP1.now hS1 rfl)
theorem ew_or (ha : Et X W a ga) (hb : Ew X W (.BoolOp .Or (b :: rest) pos) gb) : Ew X W (.BoolOp .Or (a :: b :: rest) pos) (tOr ga gb) := by
  refine ⟨fun m τ st σ H Q hL hS hP wh pins s I => (pw_or ptW pwW).run wh pins s σ H Q I ?_⟩
  refine ha.run m τ st σ H _ hL hS (hP.bind fun dx s1 m1 H1 x e1 hS1 r1 hP1 => ?_)
  subst r1
  cases dx with
  | true => exact iteT (hP1.now hS1 rfl)
  | false => exact iteF (hb.run m1 τ s1 σ H1 Q (hL.mono e1) hS1 hP1)
theorem et_not (ha : Et X W a ga) : Et X W (.UnaryOp .Not a pos) (tNot ga) := by
  refine ⟨fun m τ st σ H Q hL hS hP pins s I => (pt_not ptW).run pins s σ H Q I ?_⟩
  refine ha.run m τ st σ H _ hL hS (hP.bind fun dx s1 m1 H1 x e1 hS1 r1 hP1 => ?_)
  subst r1
  exact hP1.now hS1 rfl
/-! ### and, or, not as values -/
def eAnd (fa fb : EM D) : EM D := fun τ st => (fa τ st).bind fun x s1 => match dTru s1 x with
  | some true => fb τ s1
  | some false => .ok x s1
  | none => .bad
def eOr (fa fb : EM D) : EM D := fun τ st => (fa τ st).bind fun x s1 => match dTru s1 x with
  | some true => .ok x s1
  | some false => fb τ s1
  | none => .bad
def eNot (fa : EM D) : EM D := fun τ st => (fa τ st).bind fun x s1 => match dTru s1 x with
  | some b => .ok (.bl !b) s1
  | none => .bad
theorem ex_one {op} (h : Ex X W a fa) : Ex X W (.BoolOp op [a] pos) fa := ⟨fun m τ st σ H Q hL hS hP pins s I => BoolOp_one (h.run m τ st σ H Q hL hS hP pins s I)⟩
theorem ex_and (ha : Ex X W a fa) (hb : Ex X W (.BoolOp .And (b :: rest) pos) fb) : Ex X W (.BoolOp .And (a :: b :: rest) pos) (eAnd fa fb) := by
  refine ⟨fun m τ st σ H Q hL hS hP pins s I => (pe_andT peW peW).run pins s σ H Q I ?_⟩
  refine ha.run m τ st σ H _ hL hS (hP.bind fun dx s1 m1 H1 x e1 hS1 r1 hP1 => ?_)
  split at hP1
  · rename_i hk
    exact ⟨true, tru_read hS1 hk r1, iteT (hb.run m1 τ s1 σ H1 Q (hL.mono e1) hS1 hP1)⟩
  · rename_i hk
    exact ⟨false, tru_read hS1 hk r1, iteF (hP1.now hS1 r1)⟩
  · exact hP1.elim
theorem ex_or (ha : Ex X W a fa) (hb : Ex X W (.BoolOp .Or (b :: rest) pos) fb) : Ex X W (.BoolOp .Or (a :: b :: rest) pos) (eOr fa fb) := by
  refine ⟨fun m τ st σ H Q hL hS hP pins s I => (pe_orT peW peW).run pins s σ H Q I ?_⟩
  refine ha.run m τ st σ H _ hL hS (hP.bind fun dx s1 m1 H1 x e1 hS1 r1 hP1 => ?_)
  split at hP1
  · rename_i hk
    exact ⟨true, tru_read hS1 hk r1, iteT (hP1.now hS1 r1)⟩
  · rename_i hk
    exact ⟨false, tru_read hS1 hk r1, iteF (hb.run m1 τ s1 σ H1 Q (hL.mono e1) hS1 hP1)⟩
  · exact hP1.elim
theorem ex_not (ha : Ex X W a fa) : Ex X W (.UnaryOp .Not a pos) (eNot fa) := by
  refine ⟨fun m τ st σ H Q hL hS hP pins s I => (pe_notT peW).run pins s σ H Q I ?_⟩
  refine ha.run m τ st σ H _ hL hS (hP.bind fun dx s1 m1 H1 x e1 hS1 r1 hP1 => ?_)
  split at hP1
  · rename_i k hk
    exact ⟨k, tru_read hS1 hk r1, hP1.now hS1 (.bl _)⟩
  · exact hP1.elim
def eIf (g : EM Bool) (fa fb : EM D) : EM D := fun τ st => (g τ st).bind fun x s1 => if x then fa τ s1 else fb τ s1
theorem ex_if {c : Expr} (hc : Et X W c g) (ha : Ex X W a fa) (hb : Ex X W b fb) : Ex X W (.IfExp c a b pos) (eIf g fa fb) := by
  refine ⟨fun m τ st σ H Q hL hS hP pins s I => (pe_ifExp ptW peW peW).run pins s σ H Q I ?_⟩
  refine hc.run m τ st σ H _ hL hS (hP.bind fun dx s1 m1 H1 x e1 hS1 r1 hP1 => ?_)
  subst r1
  cases dx with
  | true => exact iteT (ha.run m1 τ s1 σ H1 Q (hL.mono e1) hS1 hP1)
  | false => exact iteF (hb.run m1 τ s1 σ H1 Q (hL.mono e1) hS1 hP1)

/-! ### arguments, displays -/
def aNil : EM (List D) := fun _ st => .ok [] st
def aCons (f : EM D) (fs : EM (List D)) : EM (List D) := fun τ st => (f τ st).bind fun x s1 => (fs τ s1).bind fun xs s2 => .ok (x :: xs) s2
theorem ea_nil : Ea X W [] aNil := ⟨fun m τ st σ H Q hL hS hP pos pins s I => pa_nil.run pos pins s σ H Q I (hP.now hS .nil)⟩
theorem ea_cons (ha : Ex X W e f) (hr : Ea X W es fs) (hs : starEach (e :: es) X.env = (false, eval e X.env) :: starEach es X.env := by rfl) : Ea X W (e :: es) (aCons f fs) := by
  refine ⟨fun m τ st σ H Q hL hS hP pos pins s I => (pa_cons peW paW hs).run pos pins s σ H Q I ?_⟩
  refine ha.run m τ st σ H _ hL hS (hP.bind fun dx s1 m1 H1 x e1 hS1 r1 hP1 => ?_)
  exact hr.run m1 τ s1 σ H1 _ (hL.mono e1) hS1 (hP1.bind fun ds s2 m2 H2 xs e2 hS2 r2 hP2 => hP2.now hS2 (.cons (r1.mono e2) r2))
def eTup (fs : EM (List D)) : EM D := fun τ st => (fs τ st).bind fun xs s1 => if xs.length ≤ 16777216 then .ok (.tup xs) s1 else .bad
def eLst (fs : EM (List D)) : EM D := fun τ st => (fs τ st).bind fun xs s1 => if xs.length ≤ 16777216 then .ok (.ref s1.length) (s1 ++ [.lst xs]) else .bad
theorem ex_tup {x1} (h : Ea X W es fs) : Ex X W (.Tuple es x1 pos) (eTup fs) := by
  refine ⟨fun m τ st σ H Q hL hS hP pins s I => (pe_tupF paW).run pins s σ H Q I ?_⟩
  refine h.run m τ st σ H _ hL hS (hP.bind fun ds s1 m1 H1 vs e1 hS1 r1 hP1 => ?_)
  split at hP1
  · rename_i hl
    exact ⟨line_of (by rw [← r1.len]; exact hl), hP1.tup hS1 r1⟩
  · exact hP1.elim
theorem ex_lst (h : Ea X W es fs) : Ex X W (.List es pos) (eLst fs) := by
  refine ⟨fun m τ st σ H Q hL hS hP pins s I => (pe_lst paW).run pins s σ H Q I ?_⟩
  refine h.run m τ st σ H _ hL hS (hP.bind fun ds s1 m1 H1 vs e1 hS1 r1 hP1 => ?_)
  split at hP1
  · rename_i hl
    exact ⟨line_of (by rw [← r1.len]; exact hl), hP1.lst hS1 r1⟩
  · exact hP1.elim

/-! ### subscripts -/
def IxM (X : Cx) (W : WX) (g : O2) : Prop :=
  ∃ r : R2, IxR X r ∧ ∀ (m : List Addr) (st : Store) (H : Hp) (dx dy : D) (x y : V) (E : XK) (Q : VK), SS X.kw m st H → RD X.K m H dx x → RD X.K m H dy y → Pe X.kw E (RD X.K) m H (g dx dy st) Q → r x y H Q
theorem ex_ix {o : O2} (ho : IxM X W o) (ha : Ex X W a fa) (hb : Ex X W b fb) (hs : PlainIx b := by exact fun _ _ => rfl) : Ex X W (.Subscript a b pos) (eBin o fa fb) := by
  obtain ⟨r, hr, h⟩ := ho
  refine ⟨fun m τ st σ H Q hL hS hP pins s I => (pe_ix hr peW peW hs).run pins s σ H Q I ?_⟩
  exact two ha hb hL hS hP fun m2 st2 H2 dx dy x y e2 hS2 r1 r2 hP2 => h m2 st2 H2 dx dy x y _ Q hS2 r1 r2 hP2
def oIxS : O2 := fun x y st => match x, y with
  | .tup xs, .int i => match atI xs i with
    | some d => .ok d st
    | none => .bad
  | .rol xs, .int i => match atI xs i with
    | some d => .ok d st
    | none => .bad
  | .ref n, .int i => match lstAt st n with
    | some xs => match atI xs i with
      | some d => .ok d st
      | none => .bad
    | none => .bad
  | .str x, .int i => if x.length ≤ 16777216 then match atI x i with
      | some c => .ok (.str [c]) st
      | none => .bad
    else .bad
  | _, _ => .bad
theorem atI_rds {K : PySem.W.Frag} {m : List Addr} {H : Hp} {ds : List D} {vs : List V} {i : Int} {d : D} (r : RDs K m H ds vs) (h : atI ds i = some d) : ∃ v, atI vs i = some v ∧ RD K m H d v := by
  unfold atI at h ⊢
  rw [← r.len]
  cases e : ixN ds.length i with
  | none =>
    rw [e] at h
    cases h
  | some j =>
    rw [e] at h
    exact r.get h
theorem m_ixS : IxM X W oIxS := ⟨_, ix_seq, fun m st H dx dy x y E Q hS r1 r2 hP => by
  unfold oIxS at hP
  split at hP
  · split at hP
    · rename_i d e
      cases r1 with
      | tup q rs =>
        cases r2
        obtain ⟨v, h1, h2⟩ := atI_rds rs e
        exact .inr (.inl ⟨_, _, _, v, rfl, rfl, q.sq, h1, hP.now hS h2⟩)
    · exact hP.elim
  · split at hP
    · rename_i d e
      cases r1 with
      | rol q rs =>
        cases r2
        obtain ⟨v, h1, h2⟩ := atI_rds rs e
        exact .inl ⟨_, _, _, v, rfl, rfl, q.sq, h1, hP.now hS h2⟩
    · exact hP.elim
  · split at hP
    · split at hP
      · rename_i ex _ _ e
        cases r1 with
        | ref q =>
          cases r2
          obtain ⟨vs, h1, h2⟩ := hS.list ex q
          obtain ⟨v, h3, h4⟩ := atI_rds h2 e
          exact .inl ⟨_, _, _, v, rfl, rfl, SqL.of h1, h3, hP.now hS h4⟩
      · exact hP.elim
    · exact hP.elim
  · split at hP
    · split at hP
      · rename_i hl _ c e
        cases r1
        cases r2
        exact .inr (.inr ⟨_, _, c, rfl, rfl, line_of (by simpa [PySem.Str.length] using hl), by simpa using e, hP.now hS (.str [c])⟩)
      · exact hP.elim
    · exact hP.elim
  · exact hP.elim⟩
end
end HM

/-! HM, part 5: calls, what is walked, comprehensions. -/
namespace HM
open PySem PySem.Spec PyProof.Rows L2

/-! ### defs -/
abbrev FM := List D → Store → ER D
/-- a def's promise by its mirror -/
def spM (K : KW) (n : Nat) (mf : FM) : Sp := fun vs H Q E => ∃ (m : List Addr) (st : Store) (ds : List D), ds.length = n ∧ SS K m st H ∧ RDs K m H ds vs ∧ Pe K E (RD K) m H (mf ds st) Q
/-- the def f keeps the mirror -/
abbrev FnM (P : Program) (w : World) (K : PySem.W.Frag) (mg : Str → Option Value) (base : Heap) (k : Nat) (f : Addr) (fd : FuncData) (ps : List Str) (mf : FM) : Prop :=
  FnOk P w K mg base (L2.CX P w) k f fd ps (spM ⟨K, w⟩ ps.length mf)
section
variable {X : Cx} {W : WX} {e a b c : Expr} {es rest : List Expr} {pos p : Pos} {f fa fb fc : EM D} {fs : EM (List D)} {g ga gb : EM Bool}
def eCall (n : Nat) (mf : FM) (fs : EM (List D)) : EM D := fun τ st => (fs τ st).bind fun ds s1 => if ds.length = n then mf ds s1 else .bad
theorem ex_call {k : Nat} {fa : Addr} {fd : FuncData} {ps : List Str} {mf : FM} {x : Str} (tk : Takes X W) (F : FnM X.prog X.w X.K X.mg X.base k fa fd ps mf) (hr : Room k X.A) (hg : Gl X x) (hm : X.mg x = some (.ref fa)) (hk : PySem.W.keepIn X.K (.ref fa) = true) (hb : Binds X.K fd ps [])
    (ha : Ea X W (e :: es) fs) (hdb : (x == ("__debug__" : Str)) = false := by decide) (he : starEach (e :: es) X.env = (false, eval e X.env) :: starEach es X.env := by rfl) (hpl : (backTo pos (starEach es X.env)).any (·.1) = false := by rfl) :
    Ex X W (.Call (.Name x p) (e :: es) [] pos) (eCall ps.length mf fs) := by
  refine ⟨fun m τ st σ H Q hL hS hP pins s I => ?_⟩
  refine wpAny_Call_Name_kw (ld_glob I hg hm ?_ hdb)
  have q : wA X (e :: es) σ H fun vs H1 => spM X.kw ps.length mf (vs ++ []) H1 Q (WE W σ) := ha.run m τ st σ H _ hL hS (hP.bind fun ds s1 m1 H1 vs e1 hS1 r1 hP1 => by
    split at hP1
    · rename_i hl
      rw [List.append_nil]
      exact ⟨m1, s1, ds, hl, hS1, r1, hP1⟩
    · exact hP1.elim)
  refine PySem.W.callWith_K (h₀ := X.base) I.ok.mod.kin hk (thn (q pos pins s I) fun us s1 ⟨vs, H1, I1, r, q⟩ => ⟨I1.kIn, ?_⟩) he hpl
  exact run_fnSD (E := WE W) F hr hb .nil (passAt tk σ) I1 r q
theorem ex_call0 {k : Nat} {fa : Addr} {fd : FuncData} {ps : List Str} {mf : FM} {x : Str} (tk : Takes X W) (F : FnM X.prog X.w X.K X.mg X.base k fa fd ps mf) (hr : Room k X.A) (hg : Gl X x) (hm : X.mg x = some (.ref fa)) (hk : PySem.W.keepIn X.K (.ref fa) = true) (hb : Binds X.K fd ps [])
    (hdb : (x == ("__debug__" : Str)) = false := by decide) : Ex X W (.Call (.Name x p) [] [] pos) (eCall ps.length mf aNil) := by
  refine ⟨fun m τ st σ H Q hL hS hP pins s I => ?_⟩
  refine wpAny_Call_Name_kw (ld_glob I hg hm ?_ hdb)
  refine PySem.W.callWith_K0 I.kIn hk (run_fnSD (E := WE W) (us := []) (vs := []) F hr hb .nil (passAt tk σ) I .nil ?_)
  have hP : Pe X.kw (fun c d H' => W c d σ H') (RD X.K) m H (if ([] : List D).length = ps.length then mf [] st else .bad) Q := hP
  split at hP
  · rename_i hl
    exact ⟨m, st, [], hl, hS, .nil, hP⟩
  · exact hP.elim

/-! ### built-ins by values -/
def CallM (X : Cx) (fv : Value) (g : FM) : Prop :=
  ∃ r, CallR X fv r ∧ ∀ (m : List Addr) (st : Store) (H : Hp) (ds : List D) (vs : List V) (E : XK) (Q : VK), SS X.kw m st H → RDs X.K m H ds vs → Pe X.kw E (RD X.K) m H (g ds st) Q → r vs H Q
def eCB (mf : FM) (fs : EM (List D)) : EM D := fun τ st => (fs τ st).bind mf
theorem ex_callB {x : Str} {id : String} {mf : FM} (hc : CallM X (.builtin id) mf) (hg : Gl X x) (hm : X.mg x = none) (hv : bootBuiltins x = some (.builtin id)) (ha : Ea X W (e :: es) fs) (hn : x ≠ "__name__" := by decide) (hdb : (x == ("__debug__" : Str)) = false := by decide)
    (he : starEach (e :: es) X.env = (false, eval e X.env) :: starEach es X.env := by rfl) (hpl : (backTo pos (starEach es X.env)).any (·.1) = false := by rfl) : Ex X W (.Call (.Name x p) (e :: es) [] pos) (eCB mf fs) := by
  obtain ⟨r, hr, h⟩ := hc
  refine ⟨fun m τ st σ H Q hL hS hP pins s I => (pe_callB hr hg hm hv paW hn hdb he hpl).run pins s σ H Q I ?_⟩
  exact ha.run m τ st σ H _ hL hS (hP.bind fun ds s1 m1 H1 vs e1 hS1 r1 hP1 => h m1 s1 H1 ds vs _ Q hS1 r1 hP1)
theorem ex_callT {x : Str} {T : String} {mf : FM} (hc : CallM X (.type T) mf) (hg : Gl X x) (hm : X.mg x = none) (hv : bootBuiltins x = some (.type T)) (ha : Ea X W (e :: es) fs) (hn : x ≠ "__name__" := by decide) (hdb : (x == ("__debug__" : Str)) = false := by decide)
    (he : starEach (e :: es) X.env = (false, eval e X.env) :: starEach es X.env := by rfl) (hpl : (backTo pos (starEach es X.env)).any (·.1) = false := by rfl) : Ex X W (.Call (.Name x p) (e :: es) [] pos) (eCB mf fs) := by
  obtain ⟨r, hr, h⟩ := hc
  refine ⟨fun m τ st σ H Q hL hS hP pins s I => (pe_callTy hr hg hm hv paW hn hdb he hpl).run pins s σ H Q I ?_⟩
  exact ha.run m τ st σ H _ hL hS (hP.bind fun ds s1 m1 H1 vs e1 hS1 r1 hP1 => h m1 s1 H1 ds vs _ Q hS1 r1 hP1)
theorem ex_callF {x : Str} {id : String} {mf : FM} (hc : CallM X (.builtin id) mf) (hg : Gl X x) (hm : X.mg x = some (.builtin id)) (ha : Ea X W (e :: es) fs) (hdb : (x == ("__debug__" : Str)) = false := by decide)
    (he : starEach (e :: es) X.env = (false, eval e X.env) :: starEach es X.env := by rfl) (hpl : (backTo pos (starEach es X.env)).any (·.1) = false := by rfl) : Ex X W (.Call (.Name x p) (e :: es) [] pos) (eCB mf fs) := by
  obtain ⟨r, hr, h⟩ := hc
  refine ⟨fun m τ st σ H Q hL hS hP pins s I => (pe_callBfun hr hg hm paW hdb he hpl).run pins s σ H Q I ?_⟩
  exact ha.run m τ st σ H _ hL hS (hP.bind fun ds s1 m1 H1 vs e1 hS1 r1 hP1 => h m1 s1 H1 ds vs _ Q hS1 r1 hP1)
/-- the items of what is a list or a tuple -/
def dSeq (st : Store) : D → Option (List D)
  | .tup xs => some xs
  | .rol xs => some xs
  | .ref n => lstAt st n
  | _ => none
def SqV (K : PySem.W.Frag) (m : List Addr) (H : Hp) (ds : List D) (v : V) : Prop := ∃ a vs, v = .ref a ∧ (SqL K H a vs ∨ PlT K H a vs) ∧ RDs K m H ds vs
theorem dSeq_read {K : KW} {m : List Addr} {st : Store} {H : Hp} {d : D} {v : V} {xs : List D} (s : SS K m st H) (h : dSeq st d = some xs) (r : RD K m H d v) : SqV K m H xs v := by
  cases r with
  | tup q rs =>
    cases h
    exact ⟨_, _, rfl, .inr q, rs⟩
  | rol q rs =>
    cases h
    exact ⟨_, _, rfl, .inl q.sq, rs⟩
  | ref q =>
    obtain ⟨vs, h1, h2⟩ := s.list h q
    exact ⟨_, vs, rfl, .inl (SqL.of h1), h2⟩
  | _ => cases h
def fLenS : FM := fun ds st => match ds with
  | [.str x] => if x.length ≤ 16777216 then .ok (.int x.length) st else .bad
  | [d] => match dSeq st d with
    | some xs => .ok (.int xs.length) st
    | none => .bad
  | _ => .bad
theorem c_lenS : CallM X (.builtin "len") fLenS := ⟨_, call_len_seq.or call_len_str, fun m st H ds vs E Q hS r hP => by
  unfold fLenS at hP
  split at hP
  · split at hP
    · rename_i x hl
      obtain ⟨v, rfl, r1⟩ := r.one
      cases r1
      refine .inr ⟨_, rfl, line_of (by simpa [PySem.Str.length] using hl), ?_⟩
      have e : (((⟨x.toArray⟩ : PySem.Str).length : Nat) : Int) = (x.length : Int) := by simp [PySem.Str.length]
      rw [e]
      exact hP.now hS (.int _)
    · exact hP.elim
  · split at hP
    · rename_i xs hx
      obtain ⟨v, rfl, r1⟩ := r.one
      obtain ⟨a, vs, rfl, q, rs⟩ := dSeq_read hS hx r1
      refine .inl ⟨a, vs, rfl, q.imp id PlT.sq, ?_⟩
      rw [← rs.len]
      exact hP.now hS (.int _)
    · exact hP.elim
  · exact hP.elim⟩
def fInt : FM := fun ds st => match ds with
  | [.int i] => .ok (.int i) st
  | [.bl b] => .ok (.int (if b then 1 else 0)) st
  | _ => .bad
theorem c_int : CallM X (.type "int") fInt := ⟨_, call_int1, fun m st H ds vs E Q hS r hP => by
  unfold fInt at hP
  split at hP
  · obtain ⟨v, rfl, r1⟩ := r.one
    cases r1
    exact .inl ⟨_, rfl, hP.now hS (.int _)⟩
  · obtain ⟨v, rfl, r1⟩ := r.one
    cases r1
    exact .inr ⟨_, rfl, hP.now hS (.int _)⟩
  · exact hP.elim⟩
def fAbs : FM := fun ds st => match ds with
  | [.int i] => .ok (.int (i.natAbs : Nat)) st
  | _ => .bad
theorem c_abs : CallM X (.builtin "abs") fAbs := ⟨_, call_abs, fun m st H ds vs E Q hS r hP => by
  unfold fAbs at hP
  split at hP
  · rename_i i
    obtain ⟨v, rfl, r1⟩ := r.one
    cases r1
    refine ⟨_, rfl, ?_⟩
    have e : (if i < 0 then -i else i) = ((i.natAbs : Nat) : Int) := by split <;> omega
    rw [e]
    exact hP.now hS (.int _)
  · exact hP.elim⟩
def fGcd : FM := fun ds st => match ds with
  | [.int i, .int j] => .ok (.int (Nat.gcd i.natAbs j.natAbs : Nat)) st
  | _ => .bad
theorem c_gcd : CallM X (.builtin "math.gcd") fGcd := ⟨_, cr_gcd, fun m st H ds vs E Q hS r hP => by
  unfold fGcd at hP
  split at hP
  · obtain ⟨v, u, rfl, r1, r2⟩ := r.two
    cases r1
    cases r2
    exact ⟨_, _, rfl, hP.now hS (.int _)⟩
  · exact hP.elim⟩
def fTuple : FM := fun ds st => match ds with
  | [d] => match dSeq st d with
    | some xs => .ok (.tup xs) st
    | none => .bad
  | _ => .bad
theorem c_tuple : CallM X (.type "tuple") fTuple := ⟨_, call_tuple_ofF, fun m st H ds vs E Q hS r hP => by
  unfold fTuple at hP
  split at hP
  · split at hP
    · rename_i xs hx
      obtain ⟨v, rfl, r1⟩ := r.one
      obtain ⟨a, vs, rfl, q, rs⟩ := dSeq_read hS hx r1
      rcases q with q | q
      · exact ⟨a, vs, rfl, .inl ⟨q, hP.tup hS rs⟩⟩
      · exact ⟨a, vs, rfl, .inr ⟨q.sq, hP.now hS (.tup q rs)⟩⟩
    · exact hP.elim
  · exact hP.elim⟩
def fList : FM := fun ds st => match ds with
  | [d] => match dSeq st d with
    | some xs => .ok (.ref st.length) (st ++ [.lst xs])
    | none => .bad
  | _ => .bad
theorem c_list : CallM X (.type "list") fList := ⟨_, call_list_of, fun m st H ds vs E Q hS r hP => by
  unfold fList at hP
  split at hP
  · split at hP
    · rename_i xs hx
      obtain ⟨v, rfl, r1⟩ := r.one
      obtain ⟨a, vs, rfl, q, rs⟩ := dSeq_read hS hx r1
      exact ⟨a, vs, rfl, q.imp id PlT.sq, hP.lst hS rs⟩
    · exact hP.elim
  · exact hP.elim⟩
def fMin2 : FM := fun ds st => match ds with
  | [.int i, .int j] => .ok (.int (if j < i then j else i)) st
  | _ => .bad
theorem c_min2 (hc : X.calm = true) : CallM X (.builtin "min") fMin2 := ⟨_, call_min2 hc, fun m st H ds vs E Q hS r hP => by
  unfold fMin2 at hP
  split at hP
  · obtain ⟨v, u, rfl, r1, r2⟩ := r.two
    cases r1
    cases r2
    exact ⟨_, _, rfl, hP.now hS (.int _)⟩
  · exact hP.elim⟩
def fMax2 : FM := fun ds st => match ds with
  | [.int i, .int j] => .ok (.int (if j > i then j else i)) st
  | _ => .bad
theorem c_max2 (hc : X.calm = true) : CallM X (.builtin "max") fMax2 := ⟨_, call_max2 hc, fun m st H ds vs E Q hS r hP => by
  unfold fMax2 at hP
  split at hP
  · obtain ⟨v, u, rfl, r1, r2⟩ := r.two
    cases r1
    cases r2
    exact ⟨_, _, rfl, hP.now hS (.int _)⟩
  · exact hP.elim⟩
/-! ### isinstance -/
def dTy (st : Store) : D → Option String
  | .non => some "NoneType"
  | .bl _ => some "bool"
  | .int _ => some "int"
  | .str _ => some "str"
  | .tup _ => some "tuple"
  | .rol _ => some "list"
  | .ref n => (lstAt st n).map fun _ => "list"
  | _ => none
def isiT (a b : String) : Option Bool :=
  if (["NoneType", "bool", "int", "str", "tuple", "list"].contains a && ["bool", "int", "str", "tuple", "list"].contains b) = true then some (decide (a = b) || (decide (a = "bool") && decide (b = "int"))) else none
theorem isiT_ok {a b : String} {r : Bool} (h : isiT a b = some r) : kitB a b = some r := by
  have all : (["NoneType", "bool", "int", "str", "tuple", "list"].all fun a => ["bool", "int", "str", "tuple", "list"].all fun b => decide (kitB a b = some (decide (a = b) || (decide (a = "bool") && decide (b = "int"))))) = true := by decide +kernel
  unfold isiT at h
  split at h
  · rename_i c
    rw [Bool.and_eq_true] at c
    have z := List.all_eq_true.mp (List.all_eq_true.mp all a (List.contains_iff_mem.mp c.1)) b (List.contains_iff_mem.mp c.2)
    rw [of_decide_eq_true z]
    exact h
  · cases h
theorem ty_read {K : KW} {m : List Addr} {st : Store} {H : Hp} {d : D} {v : V} {t : String} (s : SS K m st H) (h : dTy st d = some t) (r : RD K m H d v) : TyX K H v (.type t) := by
  cases r with
  | non => cases h; exact .base .non
  | bl b => cases h; exact .base (.bl b)
  | int i => cases h; exact .base (.int i)
  | str x => cases h; exact .base (.str _)
  | tup q rs =>
    cases h
    rcases q with ⟨o, _, q⟩ | ⟨o, its, n, q1, q2, _⟩
    · exact .fTuple q
    · exact .kTuple q1 q2
  | rol q rs =>
    cases h
    rcases q with ⟨o, q⟩ | ⟨o, its, n, q1, q2, _⟩
    · exact .base (.frz q)
    · exact .kList q1 q2
  | ref q =>
    have h : (lstAt st _).map (fun _ => "list") = some t := h
    simp only [Option.map_eq_some_iff] at h
    obtain ⟨xs, e, rfl⟩ := h
    obtain ⟨vs, h1, h2⟩ := s.list e q
    exact .base (.lst h1)
  | _ => cases h
def fIsi : FM := fun ds st => match ds with
  | [d, .ty c] => match dTy st d with
    | some t => match isiT t c with
      | some b => .ok (.bl b) st
      | none => .bad
    | none => .bad
  | _ => .bad
theorem c_isi : CallM X (.builtin "isinstance") fIsi := ⟨_, call_isi, fun m st H ds vs E Q hS r hP => by
  unfold fIsi at hP
  split at hP
  · split at hP
    · rename_i t ht
      split at hP
      · rename_i b hb
        obtain ⟨v, u, rfl, r1, r2⟩ := r.two
        cases r2
        exact ⟨_, _, _, _, b, rfl, by constructor, ty_read hS ht r1, kit_ty (isiT_ok hb), hP.now hS (.bl _)⟩
      · exact hP.elim
    · exact hP.elim
  · exact hP.elim⟩

/-! ### fresh lists, sequences as arguments -/
/-- an expression that makes a list that nobody else has -/
structure El (X : Cx) (W : WX) (e : Expr) (f : EM (List D)) : Prop where
  run : ∀ (m : List Addr) (τ : Sl) (st : Store) (σ : L2.St) (H : Hp) (Q : VK), SL X.K m H τ σ → SS X.kw m st H →
    Pe X.kw (fun c d H' => W c d σ H') (fun m' H' ds v => ∃ a vs, v = .ref a ∧ H' a = some (.lst vs) ∧ a ∉ m' ∧ H a = none ∧ RDs X.K m' H' ds vs) m H (f τ st) Q → wE X e σ H Q
def eEl (f : EM (List D)) : EM D := fun τ st => (f τ st).bind fun ds s1 => .ok (.ref s1.length) (s1 ++ [.lst ds])
theorem Ext.back {K : KW} {m m1 : List Addr} {H H1 : Hp} {s1 : Store} {a : Addr} (e : Ext K m H m1 H1) (s : SS K m1 s1 H1) (h : H1 a = none) : H a = none := by
  cases q : H a with
  | none => rfl
  | some o =>
    by_cases hm : a ∈ m
    · exact absurd (e.mem hm) (s.notin h)
    · rw [e.frm a o hm q] at h
      cases h
theorem Ext.own {K : PySem.W.Frag} {m m1 : List Addr} {H H1 : Hp} {a : Addr} (e : Ext K m H m1 H1) (h : H a = none) : Ext K m H (m1 ++ [a]) H1 where
  pre := fun n b q => by
    have z := e.pre n b q
    rw [List.getElem?_append_left (List.getElem?_eq_some_iff.mp z).1]
    exact z
  tup := e.tup
  plt := e.plt
  fzl := e.fzl
  xdk := e.xdk
  frm := e.frm
  new := fun b q n => by
    rcases List.mem_append.mp q with q | q
    · exact e.new b q n
    · have z : b = a := by simpa using q
      rw [z]
      exact h
theorem ex_el {fl : EM (List D)} (h : El X W e fl) : Ex X W e (eEl fl) := by
  refine ⟨fun m τ st σ H Q hL hS hP => h.run m τ st σ H Q hL hS ?_⟩
  unfold eEl at hP
  cases hq : fl τ st with
  | ok ds s1 =>
    rw [hq] at hP
    intro m1 H1 v e1 hS1 ⟨a, vs, e, ha, na, hn, rs⟩
    subst e
    refine hP (m1 ++ [a]) H1 (.ref a) (e1.own hn) (hS1.grow na ⟨vs, ha, rs.kp Kp.grow⟩) (.ref ?_)
    rw [← hS1.len]
    simp
  | exc x st' =>
    rw [hq] at hP
    exact hP
  | bad =>
    rw [hq] at hP
    exact hP.elim
/-- the items of an expression's list or tuple -/
structure Es (X : Cx) (W : WX) (e : Expr) (f : EM (List D)) : Prop where
  run : ∀ (m : List Addr) (τ : Sl) (st : Store) (σ : L2.St) (H : Hp) (Q : VK), SL X.K m H τ σ → SS X.kw m st H → Pe X.kw (fun c d H' => W c d σ H') (SqV X.K) m H (f τ st) Q → wE X e σ H Q
theorem es_el {fl : EM (List D)} (h : El X W e fl) : Es X W e fl := by
  refine ⟨fun m τ st σ H Q hL hS hP => h.run m τ st σ H Q hL hS ?_⟩
  cases hq : fl τ st with
  | ok ds s1 =>
    rw [hq] at hP
    intro m1 H1 v e1 hS1 ⟨a, vs, e, ha, na, hn, rs⟩
    exact hP m1 H1 v e1 hS1 ⟨a, vs, e, .inl (SqL.of ha), rs⟩
  | exc x st' =>
    rw [hq] at hP
    exact hP
  | bad =>
    rw [hq] at hP
    exact hP.elim
def sEx (f : EM D) : EM (List D) := fun τ st => (f τ st).bind fun d s1 => match dSeq s1 d with
  | some xs => .ok xs s1
  | none => .bad
theorem es_ex (h : Ex X W e f) : Es X W e (sEx f) := by
  refine ⟨fun m τ st σ H Q hL hS hP => h.run m τ st σ H Q hL hS (hP.bind fun d s1 m1 H1 v e1 hS1 r1 hP1 => ?_)⟩
  split at hP1
  · rename_i xs hx
    exact hP1.now hS1 (dSeq_read hS1 hx r1)
  · exact hP1.elim
/-- a built-in of one argument, by its items -/
abbrev SM1 := List D → Store → ER D
def CallS (X : Cx) (fv : Value) (g : SM1) : Prop :=
  ∃ r, CallR X fv r ∧ ∀ (m : List Addr) (st : Store) (H : Hp) (ds : List D) (v : V) (E : XK) (Q : VK), SS X.kw m st H → SqV X.K m H ds v → Pe X.kw E (RD X.K) m H (g ds st) Q → r [v] H Q
def eCS (g : SM1) (f : EM (List D)) : EM D := fun τ st => (f τ st).bind g
theorem ex_callBs {x : Str} {id : String} {g : SM1} {fl : EM (List D)} (hc : CallS X (.builtin id) g) (hg : Gl X x) (hm : X.mg x = none) (hv : bootBuiltins x = some (.builtin id)) (ha : Es X W e fl) (hn : x ≠ "__name__" := by decide) (hdb : (x == ("__debug__" : Str)) = false := by decide)
    (he : starEach [e] X.env = (false, eval e X.env) :: starEach [] X.env := by rfl) (hpl : (backTo pos (starEach [] X.env)).any (·.1) = false := by rfl) : Ex X W (.Call (.Name x p) [e] [] pos) (eCS g fl) := by
  obtain ⟨r, hr, h⟩ := hc
  refine ⟨fun m τ st σ H Q hL hS hP pins s I => (pe_callB hr hg hm hv (pa_cons peW pa_nil he) hn hdb he hpl).run pins s σ H Q I ?_⟩
  exact ha.run m τ st σ H _ hL hS (hP.bind fun ds s1 m1 H1 v e1 hS1 r1 hP1 => h m1 s1 H1 ds v _ Q hS1 r1 hP1)
theorem ex_callTs {x : Str} {T : String} {g : SM1} {fl : EM (List D)} (hc : CallS X (.type T) g) (hg : Gl X x) (hm : X.mg x = none) (hv : bootBuiltins x = some (.type T)) (ha : Es X W e fl) (hn : x ≠ "__name__" := by decide) (hdb : (x == ("__debug__" : Str)) = false := by decide)
    (he : starEach [e] X.env = (false, eval e X.env) :: starEach [] X.env := by rfl) (hpl : (backTo pos (starEach [] X.env)).any (·.1) = false := by rfl) : Ex X W (.Call (.Name x p) [e] [] pos) (eCS g fl) := by
  obtain ⟨r, hr, h⟩ := hc
  refine ⟨fun m τ st σ H Q hL hS hP pins s I => (pe_callTy hr hg hm hv (pa_cons peW pa_nil he) hn hdb he hpl).run pins s σ H Q I ?_⟩
  exact ha.run m τ st σ H _ hL hS (hP.bind fun ds s1 m1 H1 v e1 hS1 r1 hP1 => h m1 s1 H1 ds v _ Q hS1 r1 hP1)
def gTuple : SM1 := fun xs st => .ok (.tup xs) st
theorem s_tuple : CallS X (.type "tuple") gTuple := ⟨_, call_tuple_ofF, fun m st H ds v E Q hS r hP => by
  obtain ⟨a, vs, rfl, q, rs⟩ := r
  rcases q with q | q
  · exact ⟨a, vs, rfl, .inl ⟨q, hP.tup hS rs⟩⟩
  · exact ⟨a, vs, rfl, .inr ⟨q.sq, hP.now hS (.tup q rs)⟩⟩⟩
def gLen : SM1 := fun xs st => .ok (.int xs.length) st
theorem s_len : CallS X (.builtin "len") gLen := ⟨_, call_len_seq, fun m st H ds v E Q hS r hP => by
  obtain ⟨a, vs, rfl, q, rs⟩ := r
  refine ⟨a, vs, rfl, q.imp id PlT.sq, ?_⟩
  rw [← rs.len]
  exact hP.now hS (.int _)⟩

/-! ### targets -/
def wG (X : Cx) (tg : Expr) : TG := fun v σ H Q => ∀ (pins : List (Addr × Obj)) (s : Shared) (u : Value), Inv X pins σ H s → RelV v u → wpAny (model X.prog X.w) X.A (assign tg X.env u) (fun _ s' => ∃ σ' H', Inv X pins σ' H' s' ∧ Q σ' H') X.xe s
theorem pgW {X : Cx} {tg : Expr} : PG X tg (wG X tg) := ⟨fun pins s σ H v u Q I r h => h pins s u I r⟩
/-- a target: the slots at ix are set -/
structure Eg (X : Cx) (tg : Expr) (ix : List Nat) (set : D → Sl → Option Sl) : Prop where
  run : ∀ (m : List Addr) (τ τ' : Sl) (st : Store) (σ : L2.St) (H : Hp) (d : D) (v : V) (Q : L2.St → Hp → Prop), SL X.K m H τ σ → SS X.kw m st H → RD X.K m H d v → set d τ = some τ' →
    (∀ σ', σ'.length = σ.length → (∀ j, j ∉ ix → σ'[j]? = σ[j]?) → SL X.K m H τ' σ' → Q σ' H) → wG X tg v σ H Q
def gN (i : Nat) : D → Sl → Option Sl := fun d τ => some (τ.set i (some d))
theorem eg_name {i : Nat} {x : Str} (hN : X.N.Nodup) (hi : X.N[i]? = some x := by rfl) (hx : Loc X.env.scope x := by first | exact Or.inl rfl | exact Or.inr rfl) (hf : X.fn x = true ∨ X.env.scope.names.lookup x = some .local := by first | exact .inl rfl | exact .inr rfl) : Eg X (.Name x pos) [i] (gN i) := by
  refine ⟨fun m τ τ' st σ H d v Q hL hS r e k pins s u I ru => (pg_name hN hi hx hf).run pins s σ H v u Q I ru ?_⟩
  cases e
  exact k _ (by simp) (fun j hj => List.getElem?_set_ne (fun z => hj (by simp [z]))) (hL.set i r)
/-- several names, one after another -/
structure Egs (X : Cx) (ts : List Expr) (ix : List Nat) (set : List D → Sl → Option Sl) : Prop where
  run : ∃ t : TGs, PGs X ts t ∧ ∀ (m : List Addr) (τ τ' : Sl) (σ : L2.St) (H : Hp) (ds : List D) (vs : List V) (Q : L2.St → Hp → Prop), SL X.K m H τ σ → RDs X.K m H ds vs → set ds τ = some τ' →
    (∀ σ', σ'.length = σ.length → (∀ j, j ∉ ix → σ'[j]? = σ[j]?) → SL X.K m H τ' σ' → Q σ' H) → t vs σ H Q
def gNil0 : List D → Sl → Option Sl := fun ds τ => match ds with
  | [] => some τ
  | _ => none
theorem egs_nil : Egs X [] [] gNil0 := ⟨_, pgs_nil, fun m τ τ' σ H ds vs Q hL r e k => by
    cases r with
    | nil =>
      cases e
      exact ⟨rfl, k σ rfl (fun _ _ => rfl) hL⟩
    | cons _ _ => cases e⟩
def gCs (i : Nat) (set : List D → Sl → Option Sl) : List D → Sl → Option Sl := fun ds τ => match ds with
  | d :: r => set r (τ.set i (some d))
  | [] => none
theorem egs_cons {i : Nat} {ix : List Nat} {x : Str} {ts : List Expr} {set : List D → Sl → Option Sl} (hN : X.N.Nodup) (hr : Egs X ts ix set) (hi : X.N[i]? = some x := by rfl) (hx : Loc X.env.scope x := by first | exact Or.inl rfl | exact Or.inr rfl) (hf : X.fn x = true ∨ X.env.scope.names.lookup x = some .local := by first | exact .inl rfl | exact .inr rfl)
    (hs : (assignEach (.Name x pos :: ts) X.env).map (·.2) = assign (.Name x pos) X.env :: (assignEach ts X.env).map (·.2) := by rfl) : Egs X (.Name x pos :: ts) (i :: ix) (gCs i set) := by
  obtain ⟨t, ht, h⟩ := hr
  refine ⟨_, pgs_cons (pg_name hN hi hx hf) ht hs, fun m τ τ' σ H ds vs Q hL r e k => ?_⟩
  cases r with
  | nil => cases e
  | cons r1 r2 =>
    refine ⟨_, _, rfl, h m _ τ' _ H _ _ Q (hL.set i r1) r2 e fun σ' l q s => k σ' (by rw [l, List.length_set]) (fun j hj => ?_) s⟩
    rw [q j fun z => hj (List.mem_cons_of_mem _ z)]
    exact List.getElem?_set_ne (fun z => hj (by simp [z]))
def gT (n : Nat) (set : List D → Sl → Option Sl) : D → Sl → Option Sl := fun d τ => match d with
  | .tup ds => if ds.length = n then set ds τ else none
  | _ => none
theorem eg_tup {ts : List Expr} {kk : Nat} {ix : List Nat} {set : List D → Sl → Option Sl} {n : Nat} (hc : X.calm = true) (h : Egs X ts ix set) (hn : (assignEach ts X.env).length = n := by rfl) (hst : (assignEach ts X.env).findIdx? (·.1) = none := by rfl) : Eg X (.Tuple ts kk pos) ix (gT n set) := by
  obtain ⟨t, ht, h⟩ := h
  refine ⟨fun m τ τ' st σ H d v Q hL hS r e k pins s u I ru => (pg_tup hc ht hn hst).run pins s σ H v u Q I ru ?_⟩
  unfold gT at e
  split at e
  · split at e
    · rename_i hl
      cases r with
      | tup q rs => exact ⟨_, _, rfl, q.sq, by rw [← rs.len]; exact hl, h m τ τ' σ H _ _ Q hL rs e k⟩
    · cases e
  · cases e

/-! ### what is walked -/
inductive Sq where
  /-- items that stay -/
  | fix (xs : List D)
  /-- the items of a list of the store's, which must stay as long as it is walked -/
  | cell (n : Nat) (xs : List D)
  /-- pairs of the items of two lists of the store's -/
  | two (n k : Nat) (xs ys : List D)
  /-- pairs of the items of a list of the store's (the first one if l, otherwise the second one) and of a tuple -/
  | mix (l : Bool) (n : Nat) (xs ys : List D)
/-- pairs -/
def zipD (xs ys : List D) : List D := (List.zip xs ys).map fun p => .tup [p.1, p.2]
def Sq.items : Sq → List D
  | .fix xs => xs
  | .cell _ xs => xs
  | .two _ _ xs ys => zipD xs ys
  | .mix _ _ xs ys => zipD xs ys
def Sq.chk (q : Sq) (st : Store) : Bool := match q with
  | .fix _ => true
  | .cell n xs => decide (lstAt st n = some xs)
  | .two n k xs ys => decide (lstAt st n = some xs) && decide (lstAt st k = some ys)
  | .mix l n xs ys => decide (lstAt st n = some (if l then xs else ys))
def JOk (K : KW) (m0 : List Addr) (H0 : Hp) (q : Sq) (J : It) : Prop :=
  ∀ (m : List Addr) (H : Hp) (st : Store), Ext K m0 H0 m H → SS K m st H → q.chk st = true →
    (∀ (i : Nat) (d : D), q.items[i]? = some d → J.go i H ∧ ∀ x H', J.yld i H x H' → Ext K m H m H' ∧ SS K m st H' ∧ RD K m H' d x) ∧ J.stop q.items.length H
def wI (X : Cx) (tg iter : Expr) : TI := fun σ H R => ∀ (pins : List (Addr × Obj)) (s : Shared), Inv X pins σ H s → wpAny (model X.prog X.w) X.A (eval iter X.env) (fun v s1 => wpAny (model X.prog X.w) X.A (pyIter v) (PIE X pins σ tg R) X.xe s1) X.xe s
theorem piW {X : Cx} {tg iter : Expr} : PI X tg iter (wI X tg iter) := ⟨fun pins s σ H R I h => h pins s I⟩
structure Ei (X : Cx) (W : WX) (tg iter : Expr) (f : EM Sq) : Prop where
  run : ∀ (m : List Addr) (τ : Sl) (st : Store) (σ : L2.St) (H : Hp) (R : It → Hp → Prop), SL X.K m H τ σ → SS X.kw m st H → Pe X.kw (fun c d H' => W c d σ H') (JOk X.kw) m H (f τ st) R → wI X tg iter σ H R
theorem j_list {K : KW} {m0 : List Addr} {H0 : Hp} {a : Addr} {q : Sq} (h : ∀ (m : List Addr) (H : Hp) (st : Store), Ext K m0 H0 m H → SS K m st H → q.chk st = true → ∃ vs, SqL K H a vs ∧ RDs K m H q.items vs) : JOk K m0 H0 q (Itl K a) := fun m H st e s hc => by
  obtain ⟨vs, hq, rs⟩ := h m H st e s hc
  refine ⟨fun i d hd => ?_, ⟨vs, hq, by rw [rs.len]; exact Nat.le_refl _⟩⟩
  obtain ⟨v, hv, r⟩ := rs.get hd
  refine ⟨⟨vs, v, hq, hv⟩, fun x H' hy => ?_⟩
  obtain ⟨rfl, y⟩ := hy
  have z := y vs hq
  rw [hv] at z
  cases z
  exact ⟨.refl, s, r⟩
theorem j_tup {K : KW} {m0 : List Addr} {H0 : Hp} {a : Addr} {vs : List V} {xs : List D} (hq : SqT K H0 a vs) (rs : RDs K m0 H0 xs vs) : JOk K m0 H0 (.fix xs) (Itt K a) := fun m H st e s _ => by
  have hq' := e.tup a vs hq
  have rs' := rs.mono e
  refine ⟨fun i d hd => ?_, ⟨vs, hq', by show vs.length ≤ xs.length; rw [← rs.len]; exact Nat.le_refl _⟩⟩
  obtain ⟨v, hv, r⟩ := rs'.get (show xs[i]? = some d from hd)
  refine ⟨⟨vs, v, hq', hv⟩, fun x H' hy => ?_⟩
  obtain ⟨rfl, y⟩ := hy
  have z := y vs hq'
  rw [hv] at z
  cases z
  exact ⟨.refl, s, r⟩
def dSq (st : Store) : D → Option Sq
  | .tup xs => some (.fix xs)
  | .rol xs => some (.fix xs)
  | .ref n => (lstAt st n).map (.cell n)
  | .str x => some (.fix (x.map fun c => .str [c]))
  | _ => none
def iEx (f : EM D) : EM Sq := fun τ st => (f τ st).bind fun d s1 => match dSq s1 d with
  | some q => .ok q s1
  | none => .bad
theorem j_str {K : KW} {m0 : List Addr} {H0 : Hp} (x : List Nat) : JOk K m0 H0 (.fix (x.map fun c => .str [c])) (Its ⟨x.toArray⟩) := fun m H st e s _ => by
  refine ⟨fun i d hd => ?_, ?_⟩
  · have hd : (x.map fun c => D.str [c])[i]? = some d := hd
    rw [List.getElem?_map] at hd
    cases hx : x[i]? with
    | none =>
      rw [hx] at hd
      cases hd
    | some c =>
      rw [hx] at hd
      cases hd
      refine ⟨(List.getElem?_eq_some_iff.mp hx).1, fun y H' hy => ?_⟩
      obtain ⟨e, c', h1, h2⟩ := hy
      subst e
      have h3 : x[i]? = some c' := by simpa using h1
      rw [hx] at h3
      cases h3
      subst h2
      exact ⟨.refl, s, .str [c]⟩
  · show (⟨x.toArray⟩ : PySem.Str).cps.size ≤ (x.map fun c => D.str [c]).length
    simp
theorem ei_ex {tg : Expr} (h : Ex X W e f) : Ei X W tg e (iEx f) := by
  refine ⟨fun m τ st σ H R hL hS hP pins s I => ?_⟩
  unfold iEx at hP
  have hrun := h.run m τ st σ H
  cases hq : f τ st with
  | bad =>
    rw [hq] at hP
    exact hP.elim
  | exc x s1 =>
    rw [hq] at hP
    refine (pi_list (tg := tg) peW).run pins s σ H R I (hrun _ hL hS ?_)
    rw [hq]
    exact hP
  | ok d s1 =>
    rw [hq] at hP
    have hP : Pe X.kw (fun c d H' => W c d σ H') (JOk X.kw) m H (match dSq s1 d with
      | some q => .ok q s1
      | none => .bad) R := hP
    cases hd : dSq s1 d with
    | none =>
      rw [hd] at hP
      exact hP.elim
    | some q =>
      rw [hd] at hP
      cases d with
      | tup xs =>
        cases hd
        refine (pi_tup (tg := tg) peW).run pins s σ H R I (hrun _ hL hS ?_)
        rw [hq]
        intro m1 H1 v e1 hS1 r1
        cases r1 with
        | tup sq rs => exact ⟨_, rfl, ⟨_, sq.sq⟩, hP m1 H1 _ e1 hS1 (j_tup sq.sq rs)⟩
      | rol xs =>
        cases hd
        refine (pi_list (tg := tg) peW).run pins s σ H R I (hrun _ hL hS ?_)
        rw [hq]
        intro m1 H1 v e1 hS1 r1
        cases r1 with
        | rol sq rs => exact ⟨_, rfl, ⟨_, sq.sq⟩, hP m1 H1 _ e1 hS1 (j_list fun m H st e s _ => ⟨_, (e.fzl _ _ sq).sq, rs.mono e⟩)⟩
      | ref n =>
        have hd : (lstAt s1 n).map (Sq.cell n) = some q := hd
        simp only [Option.map_eq_some_iff] at hd
        obtain ⟨xs, hx, rfl⟩ := hd
        refine (pi_list (tg := tg) peW).run pins s σ H R I (hrun _ hL hS ?_)
        rw [hq]
        intro m1 H1 v e1 hS1 r1
        cases r1 with
        | ref z =>
          obtain ⟨vs, h1, h2⟩ := hS1.list hx z
          refine ⟨_, rfl, ⟨vs, SqL.of h1⟩, hP m1 H1 _ e1 hS1 (j_list fun m H st e s hc => ?_)⟩
          obtain ⟨us, h3, h4⟩ := s.list (of_decide_eq_true hc) (e.pre _ _ z)
          exact ⟨us, SqL.of h3, h4⟩
      | str x =>
        cases hd
        refine (pi_str (tg := tg) peW).run pins s σ H R I (hrun _ hL hS ?_)
        rw [hq]
        intro m1 H1 v e1 hS1 r1
        cases r1
        exact ⟨_, rfl, hP m1 H1 _ e1 hS1 (j_str x)⟩
      | _ => cases hd
def iEl (f : EM (List D)) : EM Sq := fun τ st => (f τ st).bind fun xs s1 => .ok (.fix xs) s1
theorem ei_el {tg : Expr} {fl : EM (List D)} (h : El X W e fl) : Ei X W tg e (iEl fl) := by
  refine ⟨fun m τ st σ H R hL hS hP pins s I => (pi_list (tg := tg) peW).run pins s σ H R I (h.run m τ st σ H _ hL hS ?_)⟩
  unfold iEl at hP
  cases hq : fl τ st with
  | ok ds s1 =>
    rw [hq] at hP
    intro m1 H1 v e1 hS1 ⟨a, vs, e, ha, na, hn, rs⟩
    exact ⟨a, e, ⟨vs, SqL.of ha⟩, hP m1 H1 _ e1 hS1 (j_list fun m H st e s _ => ⟨vs, SqL.of (e.frm _ _ na ha), rs.mono e⟩)⟩
  | exc x st' =>
    rw [hq] at hP
    exact hP
  | bad =>
    rw [hq] at hP
    exact hP.elim
/-- lo, lo + 1, .. below hi -/
def rng (lo hi : Int) : List D := (List.range (hi - lo).toNat).map fun k => D.int (lo + (k : Nat))
theorem j_rng {K : KW} {m0 : List Addr} {H0 : Hp} (lo hi : Int) : JOk K m0 H0 (.fix (rng lo hi)) (Itr lo (hi - lo).toNat) := fun m H st e s _ => by
  refine ⟨fun i d hd => ?_, ?_⟩
  · have hd : (rng lo hi)[i]? = some d := hd
    unfold rng at hd
    rw [List.getElem?_map] at hd
    cases hx : (List.range (hi - lo).toNat)[i]? with
    | none =>
      rw [hx] at hd
      cases hd
    | some k =>
      rw [hx] at hd
      cases hd
      obtain ⟨h1, h2⟩ := List.getElem?_eq_some_iff.mp hx
      rw [List.length_range] at h1
      rw [List.getElem_range] at h2
      subst h2
      refine ⟨h1, fun y H' hy => ?_⟩
      obtain ⟨rfl, rfl⟩ := hy
      exact ⟨.refl, s, .int _⟩
  · show (hi - lo).toNat ≤ (rng lo hi).length
    simp [rng]
def okRng (j : Int) : Bool := decide (j.natAbs < 4611686018427387904)
theorem okRng_ok {j : Int} (h : okRng j = true) : -(2 ^ 62) ≤ j ∧ j < 2 ^ 62 := by
  have q : j.natAbs < 4611686018427387904 := of_decide_eq_true h
  have q' : -4611686018427387904 ≤ j ∧ j < 4611686018427387904 := by omega
  exact q'
def iRg1 (f : EM D) : EM Sq := fun τ st => (f τ st).bind fun d s1 => match d with
  | .int j => if okRng j then .ok (.fix (rng 0 j)) s1 else .bad
  | _ => .bad
def iRg2 (fa fb : EM D) : EM Sq := fun τ st => (fa τ st).bind fun d s1 => (fb τ s1).bind fun e s2 => match d, e with
  | .int i, .int j => if okRng i && okRng j then .ok (.fix (rng i j)) s2 else .bad
  | _, _ => .bad
theorem ei_range1 {tg : Expr} (hg : Gl X "range") (hm : X.mg "range" = none) (ha : Ex X W a fa) (hs : starEach [a] X.env = [(false, eval a X.env)] := by rfl) : Ei X W tg (.Call (.Name "range" p) [a] [] pos) (iRg1 fa) := by
  refine ⟨fun m τ st σ H R hL hS hP pins s I => (pi_range1 (tg := tg) hg hm (pa_cons peW pa_nil (by rw [hs]; rfl)) hs).run pins s σ H R I (ha.run m τ st σ H _ hL hS (hP.bind fun d s1 m1 H1 v e1 hS1 r1 hP1 => ?_))⟩
  split at hP1
  · split at hP1
    · rename_i j hj
      cases r1
      obtain ⟨q1, q2⟩ := okRng_ok hj
      refine ⟨j, rfl, q1, q2, hP1.now hS1 ?_⟩
      have z := j_rng (K := X.kw) (m0 := m1) (H0 := H1) 0 j
      rw [Int.sub_zero] at z
      exact z
    · exact hP1.elim
  · exact hP1.elim
theorem ei_range2 {tg : Expr} (hg : Gl X "range") (hm : X.mg "range" = none) (ha : Ex X W a fa) (hb : Ex X W b fb) (hs : starEach [a, b] X.env = [(false, eval a X.env), (false, eval b X.env)] := by rfl) (hs2 : starEach [b] X.env = [(false, eval b X.env)] := by rfl) :
    Ei X W tg (.Call (.Name "range" p) [a, b] [] pos) (iRg2 fa fb) := by
  refine ⟨fun m τ st σ H R hL hS hP pins s I => (pi_range2 (tg := tg) hg hm (pa_cons peW (pa_cons peW pa_nil (by rw [hs2]; rfl)) (by rw [hs, hs2])) hs hs2).run pins s σ H R I ?_⟩
  refine two ha hb hL hS hP fun m2 st2 H2 dx dy x y e2 hS2 r1 r2 hP2 => ?_
  split at hP2
  · split at hP2
    · rename_i i j hij
      cases r1
      cases r2
      rw [Bool.and_eq_true] at hij
      obtain ⟨q1, q2⟩ := okRng_ok hij.1
      obtain ⟨q3, q4⟩ := okRng_ok hij.2
      exact ⟨i, j, rfl, ⟨q1, q2, q3, q4⟩, hP2.now hS2 (j_rng i j)⟩
    · exact hP2.elim
  · exact hP2.elim

/-! ### comprehensions -/
def wipeD (τ : Sl) : List Nat → Sl
  | [] => τ
  | v :: vs => (wipeD τ vs).set v none
theorem wipeD_some {τ : Sl} {i : Nat} {d : D} : ∀ {vs : List Nat}, (wipeD τ vs)[i]? = some (some d) → τ[i]? = some (some d) ∧ i ∉ vs
  | [], h => ⟨h, by simp⟩
  | v :: vs, h => by
    unfold wipeD at h
    by_cases hi : v = i
    · subst hi
      by_cases hv : v < (wipeD τ vs).length
      · rw [List.getElem?_set_self hv] at h
        cases h
      · rw [List.getElem?_eq_none (by simpa using hv)] at h
        cases h
    · rw [List.getElem?_set_ne hi] at h
      obtain ⟨h1, h2⟩ := wipeD_some h
      exact ⟨h1, by simp only [List.mem_cons, not_or]; exact ⟨fun e => hi e.symm, h2⟩⟩
theorem wipeD_len (τ : Sl) : ∀ vs : List Nat, (wipeD τ vs).length = τ.length
  | [] => rfl
  | v :: vs => by unfold wipeD; rw [List.length_set, wipeD_len τ vs]
theorem SL.wipe {K : PySem.W.Frag} {m : List Addr} {H : Hp} {τ : Sl} {σ : L2.St} (s : SL K m H τ σ) (vs : List Nat) : SL K m H (wipeD τ vs) (L2.wipe σ vs) :=
  ⟨by rw [wipeD_len, wipe_length, s.len], fun i d h => by
    obtain ⟨h1, h2⟩ := wipeD_some h
    obtain ⟨v, h3, h4⟩ := s.get i d h1
    exact ⟨v, by rw [wipe_out h2]; exact h3, h4⟩⟩
theorem wipe_same {σ σ' : L2.St} {vs : List Nat} (hl : σ'.length = σ.length) (h : ∀ j, j ∉ vs → σ'[j]? = σ[j]?) : L2.wipe σ' vs = L2.wipe σ vs := by
  apply List.ext_getElem?
  intro i
  by_cases hi : i ∈ vs
  · have z : ∀ (τ : L2.St) (us : List Nat), i ∈ us → (L2.wipe τ us)[i]? = if i < τ.length then some none else none := by
      intro τ us
      induction us with
      | nil => intro q; cases q
      | cons u us ih =>
        intro q
        unfold L2.wipe
        by_cases hu : u = i
        · subst hu
          split
          · rename_i hlt
            rw [List.getElem?_set_self (by rw [wipe_length]; exact hlt)]
          · rename_i hlt
            exact List.getElem?_eq_none (by rw [List.length_set, wipe_length]; omega)
        · rw [List.getElem?_set_ne hu]
          exact ih ((List.mem_cons.mp q).resolve_left fun e => hu e.symm)
    rw [z σ' vs hi, z σ vs hi, hl]
  · rw [wipe_out hi, wipe_out hi, h i hi]
/-- no exception leaves here -/
def _root_.HM.ER.bindN {α β : Type} (r : ER α) (k : α → Store → ER β) : ER β := match r with
  | .ok a st => k a st
  | _ => .bad
@[simp] theorem _root_.HM.ER.bindN_ok {α β : Type} (a : α) (st : Store) (k : α → Store → ER β) : (ER.ok a st).bindN k = k a st := rfl
theorem Pe.bindN {α β γ δ : Type} {K : KW} {E E' : XK} {R : List Addr → Hp → α → β → Prop} {S : List Addr → Hp → γ → δ → Prop} {m : List Addr} {H : Hp} {r : ER α} {Q : β → Hp → Prop} {k : α → Store → ER γ} {Q' : δ → Hp → Prop} (h : Pe K E S m H (r.bindN k) Q')
    (hk : ∀ a st m' H' b, Ext K m H m' H' → SS K m' st H' → R m' H' a b → Pe K E S m' H' (k a st) Q' → Q b H') : Pe K E' R m H r Q := by
  cases r with
  | ok a st => exact fun m' H' b e s q => hk a st m' H' b e s q (Pe.up h e)
  | exc x st => exact h.elim
  | bad => exact h
/-- .. read from an earlier heap -/
theorem Pe.from {α β γ δ : Type} {K : KW} {E E' : XK} {R : List Addr → Hp → α → β → Prop} {S : List Addr → Hp → γ → δ → Prop} {m m1 : List Addr} {H H1 : Hp} {r : ER α} {Q : β → Hp → Prop} {k : α → Store → ER γ} {Q' : δ → Hp → Prop} (h : Pe K E S m1 H1 (r.bindN k) Q')
    (hk : ∀ a st m' H' b, Ext K m H m' H' → SS K m' st H' → R m' H' a b → Pe K E S m1 H1 (k a st) Q' → Q b H') : Pe K E' R m H r Q := by
  cases r with
  | ok a st => exact fun m' H' b e s q => hk a st m' H' b e s q h
  | exc x st => exact h.elim
  | bad => exact h
/-- the turns of a comprehension -/
def compL (q : Sq) (set : D → Sl → Option Sl) (ft : EM Bool) (fe : EM D) (τ : Sl) : List D → List D → Store → ER (List D)
  | [], acc => fun st => if q.chk st then .ok acc st else .bad
  | d :: ds, acc => fun st => if q.chk st then match set d τ with
    | some τ1 => (ft τ1 st).bindN fun b s1 => if b then (fe τ1 s1).bindN fun x s2 => compL q set ft fe τ ds (acc ++ [x]) s2 else compL q set ft fe τ ds acc s1
    | none => .bad
  else .bad
def lComp (own : List Nat) (fi : EM Sq) (set : D → Sl → Option Sl) (ft : EM Bool) (fe : EM D) : EM (List D) := fun τ st => (fi τ st).bind fun q s1 =>
  if q.items.length ≤ 16777216 then compL q set ft fe (wipeD τ own) q.items [] s1 else .bad
/-- tests of a comprehension -/
def wTs (X : Cx) (ifs : List Expr) : TT := fun σ H Q => ∀ (pins : List (Addr × Obj)) (s : Shared), Inv X pins σ H s → wpAny (model X.prog X.w) X.A (forIn ifs true fun c r => if r = true then do let ok ← isTrue c X.env (eval c X.env); pure (ForInStep.yield ok) else pure (ForInStep.yield r)) (TP X pins σ Q) X.xe s
theorem ptsW {X : Cx} {ifs : List Expr} : PTs X ifs (wTs X ifs) := ⟨fun pins s σ H Q I h => h pins s I⟩
structure Ets (X : Cx) (W : WX) (ifs : List Expr) (f : EM Bool) : Prop where
  run : ∀ (m : List Addr) (τ : Sl) (st : Store) (σ : L2.St) (H : Hp) (Q : Bool → Hp → Prop), SL X.K m H τ σ → SS X.kw m st H → Pe X.kw (fun c d H' => W c d σ H') RB m H (f τ st) Q → wTs X ifs σ H Q
def tYes : EM Bool := fun _ st => .ok true st
theorem ets_nil : Ets X W [] tYes := ⟨fun m τ st σ H Q hL hS hP pins s I => pts_nil.run pins s σ H Q I (hP.now hS rfl)⟩
theorem ets_one (h : Et X W e g) : Ets X W [e] g := ⟨fun m τ st σ H Q hL hS hP pins s I => (pts_one ptW).run pins s σ H Q I (h.run m τ st σ H Q hL hS hP)⟩
abbrev W0 : WX := fun _ _ _ _ => False
/-- the context of a block, whatever it starts at -/
abbrev Blk (X : Cx) (scope : Scope) (P : Cx → Prop) : Prop := ∀ (s : Shared) (H : Hp) (C : Addr) (cl : List (Str × Addr)) (fp : List Addr), P (X.blk s H scope (compEnvC scope cl C X.env) fp)
abbrev BEx (X : Cx) (scope : Scope) (elt : Expr) (fe : EM D) : Prop := ∀ (s : Shared) (H : Hp) (C : Addr) (cl : List (Str × Addr)) (fp : List Addr), Ex (X.blk s H scope (compEnvC scope cl C X.env) fp) W0 elt fe
abbrev BEt (X : Cx) (scope : Scope) (ifs : List Expr) (ft : EM Bool) : Prop := ∀ (s : Shared) (H : Hp) (C : Addr) (cl : List (Str × Addr)) (fp : List Addr), Ets (X.blk s H scope (compEnvC scope cl C X.env) fp) W0 ifs ft
abbrev BEg (X : Cx) (scope : Scope) (tg : Expr) (ix : List Nat) (set : D → Sl → Option Sl) : Prop := ∀ (s : Shared) (H : Hp) (C : Addr) (cl : List (Str × Addr)) (fp : List Addr), Eg (X.blk s H scope (compEnvC scope cl C X.env) fp) tg ix set
def gAll (X : Cx) (scope : Scope) (tg : Expr) : TG := fun v σ H Q => Blk X scope fun Y => wG Y tg v σ H Q
def tAll (X : Cx) (scope : Scope) (ifs : List Expr) : TT := fun σ H Q => Blk X scope fun Y => wTs Y ifs σ H Q
def eAll (X : Cx) (scope : Scope) (e : Expr) : TE := fun σ H Q => Blk X scope fun Y => wE Y e σ H Q
/-- one turn after another -/
theorem comp_read {tg elt : Expr} {ifs : List Expr} {scope : Scope} {ix own : List Nat} {set : D → Sl → Option Sl} {ft : EM Bool} {fe : EM D} (hown : ∀ i ∈ ix, i ∈ own) (hg : BEg X scope tg ix set) (ht : BEt X scope ifs ft) (he : BEx X scope elt fe)
    {m0 : List Addr} {τ : Sl} {σ : L2.St} {H0 H1 : Hp} {st0 : Store} {m1 : List Addr} {q : Sq} {J : It} {Q : VK} {E : XK} (e1 : Ext X.K m0 H0 m1 H1) (hL : SL X.K m1 H1 τ σ) (hS : SS X.kw m1 st0 H1) (hJ : JOk X.kw m1 H1 q J) (hz : q.items.length ≤ 16777216)
    (hP : Pe X.kw E (fun m' H' ds v => ∃ a vs, v = .ref a ∧ H' a = some (.lst vs) ∧ a ∉ m' ∧ H0 a = none ∧ RDs X.K m' H' ds vs) m1 H1 (compL q set ft fe (wipeD τ own) q.items [] st0) Q) (D' : Addr) (hD : H1 D' = none) :
    ∃ W : Nat → Nat → Hp → Prop, (∃ m, W 0 m (upd H1 D' (.lst []))) ∧ ∀ i m H, W i m H →
      (J.stop i H ∧ Q (.ref D') H) ∨ (J.go i H ∧ ∃ Nx : Hp → Prop, (∀ H', Nx H' → ∃ m', m' < m ∧ W (i + 1) m' H') ∧ ∀ x H', J.yld i H x H' → gAll X scope tg x (L2.wipe σ own) H' fun σ2 H2 => L2.wipe σ2 own = L2.wipe σ own ∧ tAll X scope ifs σ2 H2 fun b H3 =>
        if b = true then eAll X scope elt σ2 H3 fun y H4 => ∃ acc, H4 D' = some (.lst acc) ∧ acc.length < sizeLine ∧ Nx (upd H4 D' (.lst (acc ++ [y]))) else Nx H3) := by
  have hD0 : H0 D' = none := e1.back hS hD
  have hn : D' ∉ m1 := hS.notin hD
  obtain ⟨Z, hZ⟩ : ∃ Z : Nat → Hp → Prop, Z = fun i H => i ≤ q.items.length ∧ ∃ (m : List Addr) (st : Store) (acc : List D) (vs : List V), Ext X.K m1 H1 m H ∧ D' ∉ m ∧ SS X.kw m st H ∧ H D' = some (.lst vs) ∧ RDs X.K m H acc vs ∧ acc.length ≤ i ∧
    Pe X.kw E (fun m' H' ds v => ∃ a vs, v = .ref a ∧ H' a = some (.lst vs) ∧ a ∉ m' ∧ H0 a = none ∧ RDs X.K m' H' ds vs) m1 H1 (compL q set ft fe (wipeD τ own) (q.items.drop i) acc st) Q := ⟨_, rfl⟩
  refine ⟨fun i k H => k = q.items.length - i ∧ Z i H, ⟨_, rfl, ?_⟩, ?_⟩
  · rw [hZ]
    refine ⟨Nat.zero_le _, m1, st0, [], [], Ext.fresh hD, hn, hS.fresh hD, upd_same, .nil, Nat.le_refl _, ?_⟩
    rw [List.drop_zero]
    exact hP
  · rintro i k H ⟨rfl, hZi⟩
    rw [hZ] at hZi
    obtain ⟨hi, m, st, acc, vs, e, hm, s, hd, rs, hacc, hP⟩ := hZi
    by_cases hlt : i < q.items.length
    · rw [List.drop_eq_getElem_cons hlt] at hP
      unfold compL at hP
      split at hP
      · rename_i hc
        obtain ⟨hgo, _⟩ := hJ m H st e s hc
        obtain ⟨go, yl⟩ := hgo i q.items[i] (by simp [hlt])
        split at hP
        · rename_i τ1 hset
          refine .inr ⟨go, Z (i + 1), fun H' h => ⟨q.items.length - (i + 1), by omega, rfl, h⟩, fun x H' hy s0 H0' C cl fp => ?_⟩
          obtain ⟨e2, s2, r2⟩ := yl x H' hy
          refine (hg s0 H0' C cl fp).run m _ τ1 st _ H' _ x _ ((hL.mono (e.trans e2)).wipe own) s2 r2 hset fun σ2 l1 l2 hL2 => ?_
          have l3 : σ2.length = σ.length := by rw [l1, wipe_length]
          have l4 : ∀ j, j ∉ own → σ2[j]? = σ[j]? := fun j hj => by rw [l2 j fun z => hj (hown j z), wipe_out hj]
          refine ⟨wipe_same l3 l4, fun s0 H0' C cl fp => ?_⟩
          have keep : ∀ {m' : List Addr} {H' : Hp}, Ext X.K m H m' H' → H' D' = some (.lst vs) ∧ D' ∉ m' := fun {m' H'} e => by
            refine ⟨e.frm D' _ hm hd, fun z => ?_⟩
            have q := e.new D' z hm
            rw [hd] at q
            cases q
          refine (ht s0 H0' C cl fp).run m τ1 st σ2 H' _ hL2 s2 (Pe.from (m := m) (H := H') hP fun b s3 m3 H3 b' e3 hS3 r3 hP3 => ?_)
          subst r3
          cases b with
          | false =>
            refine iteF ?_
            rw [hZ]
            obtain ⟨k1, k2⟩ := keep (e2.trans e3)
            exact ⟨by omega, m3, s3, acc, vs, e.trans (e2.trans e3), k2, hS3, k1, rs.mono (e2.trans e3), by omega, hP3⟩
          | true =>
            refine iteT fun s0 H0' C cl fp => (he s0 H0' C cl fp).run m3 τ1 s3 σ2 H3 _ (hL2.mono e3) hS3 (Pe.from (m := m3) (H := H3) (k := fun x s2 => compL q set ft fe (wipeD τ own) (List.drop (i + 1) q.items) (acc ++ [x]) s2) hP3 fun y s4 m4 H4 y' e4 hS4 r4 hP4 => ?_)
            obtain ⟨k1, k2⟩ := keep ((e2.trans e3).trans e4)
            have rs4 := rs.mono ((e2.trans e3).trans e4)
            have hz' : vs.length < sizeLine := by
              rw [← rs.len, PySem.sizeLine_eq]
              omega
            have e5 : Ext X.K m1 H1 m4 H4 := e.trans ((e2.trans e3).trans e4)
            have e6 : Ext X.K m1 H1 m4 (upd H4 D' (.lst (vs ++ [y']))) := {
              pre := e5.pre
              tup := fun a us h => (Kp.write (K := X.K) (m := m4) k1).tup a us (e5.tup a us h)
              plt := fun a us h => (Kp.write (K := X.K) (m := m4) k1).plt a us (e5.plt a us h)
              fzl := fun a us h => (Kp.write (K := X.K) (m := m4) k1).fzl a us (e5.fzl a us h)
              xdk := fun a us h => (Kp.write (K := X.K) (m := m4) k1).xdk a us (e5.xdk a us h)
              frm := fun a o q h => by
                rw [upd_ne (ne_of_none h hD)]
                exact e5.frm a o q h
              new := e5.new }
            refine ⟨vs, k1, hz', ?_⟩
            rw [hZ]
            refine ⟨by omega, m4, s4, acc ++ [y], vs ++ [y'], e6, k2, hS4.other k1 k2, upd_same, (rs4.append (.cons r4 .nil)).kp (Kp.write k1), by rw [List.length_append, List.length_singleton]; omega, ?_⟩
            exact hP4
        · exact hP.elim
      · exact hP.elim
    · have e0 : i = q.items.length := by omega
      subst e0
      rw [List.drop_length] at hP
      unfold compL at hP
      split at hP
      · rename_i hc
        obtain ⟨_, stop⟩ := hJ m H st e s hc
        exact .inl ⟨stop, hP m H (.ref D') e s ⟨D', vs, rfl, hd, hm, hD0, rs⟩⟩
      · exact hP.elim
end
end HM

/-! HM, part 6: list comprehensions, statements. -/
namespace HM
open PySem PySem.Spec PyProof.Rows L2
section
variable {X : Cx} {W : WX} {e a b c : Expr} {es rest : List Expr} {pos p : Pos} {f fa fb fc : EM D} {fs : EM (List D)} {g ga gb : EM Bool}
theorem comp_post {tg elt iter : Expr} {ifs : List Expr} {scope : Scope} {own : List (Str × Nat)} {ix : List Nat} {set : D → Sl → Option Sl} {ft : EM Bool} {fe : EM D} {fi : EM Sq} (hi : Ei X W tg iter fi) (hown : ∀ i ∈ ix, i ∈ own.map (·.2))
    (hg : BEg X scope tg ix set) (ht : BEt X scope ifs ft) (he : BEx X scope elt fe) {m : List Addr} {τ : Sl} {st : Store} {σ : L2.St} {H : Hp} {Q : VK} (hL : SL X.K m H τ σ) (hS : SS X.kw m st H)
    (hP : Pe X.kw (fun c d H' => W c d σ H') (fun m' H' ds v => ∃ a vs, v = .ref a ∧ H' a = some (.lst vs) ∧ a ∉ m' ∧ H a = none ∧ RDs X.K m' H' ds vs) m H (lComp (own.map (·.2)) fi set ft fe τ st) Q) :
    tLc (wI X tg iter) (gAll X scope tg) (tAll X scope ifs) (eAll X scope elt) (own.map (·.2)) σ H Q := by
  unfold lComp at hP
  refine hi.run m τ st σ H _ hL hS ?_
  cases hq : fi τ st with
  | bad =>
    rw [hq] at hP
    exact hP.elim
  | exc x s1 =>
    rw [hq] at hP
    exact hP
  | ok q s1 =>
    rw [hq] at hP
    intro m1 H1 J e1 hS1 hJ D' hD
    have hP : Pe X.kw (fun c d H' => W c d σ H') (fun m' H' ds v => ∃ a vs, v = .ref a ∧ H' a = some (.lst vs) ∧ a ∉ m' ∧ H a = none ∧ RDs X.K m' H' ds vs) m H (if q.items.length ≤ 16777216 then compL q set ft fe (wipeD τ (own.map (·.2))) q.items [] s1 else .bad) Q := hP
    split at hP
    · rename_i hz
      exact comp_read (E := fun c d H' => W c d σ H') hown hg ht he e1 (hL.mono e1) hS1 hJ hz (hP.up e1) D' hD
    · exact hP.elim
theorem el_comp {tg elt iter : Expr} {ifs : List Expr} {scope : Scope} {own : List (Str × Nat)} {ix : List Nat} {set : D → Sl → Option Sl} {ft : EM Bool} {fe : EM D} {fi : EM Sq} (hc : X.calm = true) (hN : X.N.Nodup) (hi : Ei X W tg iter fi) (ok : BlkOk X.N X.env.scope scope own)
    (hg : BEg X scope tg ix set) (ht : BEt X scope ifs ft) (he : BEx X scope elt fe) (hown : ∀ i ∈ ix, i ∈ own.map (·.2) := by decide) (hs : ∀ x, foldedSetIterable iter X.env x = pure x := by intro _; rfl) :
    El X W (.ListComp elt [⟨tg, iter, ifs, 0⟩] scope pos) (lComp (own.map (·.2)) fi set ft fe) := by
  refine ⟨fun m τ st σ H Q hL hS hP pins s I => ?_⟩
  refine (pe_lc (g := gAll X scope tg) (tt := tAll X scope ifs) (te := eAll X scope elt) hc hN piW ok ?_ ?_ ?_ hs).run pins s σ H Q I (comp_post hi hown hg ht he hL hS hP)
  · exact fun s H C cl fp => ⟨fun pins s' σ H' v u Q I r h => h s H C cl fp pins s' u I r⟩
  · exact fun s H C cl fp => ⟨fun pins s' σ H' Q I h => h s H C cl fp pins s' I⟩
  · exact fun s H C cl fp => ⟨fun pins s' σ H' Q I h => h s H C cl fp pins s' I⟩
end

/-! ### statements -/
/-- behind a statement -/
def Ps (K : KW) (W : WX) (m : List Addr) (H : Hp) (r : SR) (D : Ends) : Prop := match r with
  | .nx τ st => ∀ m' H' σ, Ext K m H m' H' → SS K m' st H' → SL K m' H' τ σ → D.nx σ H'
  | .bk τ st => ∀ m' H' σ, Ext K m H m' H' → SS K m' st H' → SL K m' H' τ σ → D.bk σ H'
  | .ct τ st => ∀ m' H' σ, Ext K m H m' H' → SS K m' st H' → SL K m' H' τ σ → D.ct σ H'
  | .rt d st => ∀ m' H' v, Ext K m H m' H' → SS K m' st H' → RD K m' H' d v → D.rt v H'
  | .exc x τ st => ∀ m' H' σ c d, Ext K m H m' H' → SS K m' st H' → SL K m' H' τ σ → XR K m' H' x c d → W c d σ H'
  | .bad => False
theorem Ps.up {K : KW} {W : WX} {m m1 : List Addr} {H H1 : Hp} {r : SR} {D : Ends} (h : Ps K W m H r D) (e : Ext K m H m1 H1) : Ps K W m1 H1 r D := by
  cases r with
  | nx τ st => exact fun m' H' σ e' => h m' H' σ (e.trans e')
  | bk τ st => exact fun m' H' σ e' => h m' H' σ (e.trans e')
  | ct τ st => exact fun m' H' σ e' => h m' H' σ (e.trans e')
  | rt d st => exact fun m' H' σ e' => h m' H' σ (e.trans e')
  | exc x τ st => exact fun m' H' σ c d e' => h m' H' σ c d (e.trans e')
  | bad => exact h
def wS (X : Cx) (st : Stmt) : TS := fun D σ H => ∀ (pins : List (Addr × Obj)) (s : Shared), Inv X pins σ H s → wpAny (model X.prog X.w) X.A (exec st X.env) (SP X pins D) X.xe s
def wSs (X : Cx) (st : List Stmt) : TS := fun D σ H => ∀ (pins : List (Addr × Obj)) (s : Shared), Inv X pins σ H s → wpAny (model X.prog X.w) X.A (execs st X.env) (SP X pins D) X.xe s
theorem psW {X : Cx} {st : Stmt} : PS X st (wS X st) := ⟨fun pins s σ H D I h => h pins s I⟩
theorem pssW {X : Cx} {st : List Stmt} : PSs X st (wSs X st) := ⟨fun pins s σ H D I h => h pins s I⟩
structure Sx (X : Cx) (W : WX) (st : Stmt) (f : SM) : Prop where
  run : ∀ (m : List Addr) (τ : Sl) (s : Store) (σ : L2.St) (H : Hp) (D : Ends), SL X.K m H τ σ → SS X.kw m s H → Ps X.kw W m H (f τ s) D → wS X st D σ H
structure Sxs (X : Cx) (W : WX) (st : List Stmt) (f : SM) : Prop where
  run : ∀ (m : List Addr) (τ : Sl) (s : Store) (σ : L2.St) (H : Hp) (D : Ends), SL X.K m H τ σ → SS X.kw m s H → Ps X.kw W m H (f τ s) D → wSs X st D σ H
/-- an expression, then the rest of a statement -/
def bindE {α : Type} (r : ER α) (τ : Sl) (k : α → Store → SR) : SR := match r with
  | .ok a st => k a st
  | .exc x st => .exc x τ st
  | .bad => .bad
@[simp] theorem bindE_ok {α : Type} (a : α) (st : Store) (τ : Sl) (k : α → Store → SR) : bindE (.ok a st) τ k = k a st := rfl
@[simp] theorem bindE_exc {α : Type} (x : Xc) (st : Store) (τ : Sl) (k : α → Store → SR) : bindE (.exc x st : ER α) τ k = .exc x τ st := rfl
@[simp] theorem bindE_bad {α : Type} (τ : Sl) (k : α → Store → SR) : bindE (.bad : ER α) τ k = .bad := rfl
theorem Ps.bind {α β : Type} {K : KW} {W : WX} {R : List Addr → Hp → α → β → Prop} {m : List Addr} {H : Hp} {r : ER α} {τ : Sl} {σ : L2.St} {k : α → Store → SR} {D : Ends} {Q : β → Hp → Prop} (hL : SL K m H τ σ) (h : Ps K W m H (bindE r τ k) D)
    (hk : ∀ a st m' H' b, Ext K m H m' H' → SS K m' st H' → R m' H' a b → Ps K W m' H' (k a st) D → Q b H') : Pe K (fun c d H' => W c d σ H') R m H r Q := by
  cases r with
  | ok a st => exact fun m' H' b e s q => hk a st m' H' b e s q (Ps.up h e)
  | exc x st => exact fun m' H' c d e s q => h m' H' σ c d e s (hL.mono e) q
  | bad => exact h
def sSeq (f g : SM) : SM := fun τ st => match f τ st with
  | .nx τ1 s1 => g τ1 s1
  | r => r
def sNil : SM := fun τ st => .nx τ st
section
variable {X : Cx} {W : WX} {e a b c : Expr} {es rest : List Expr} {pos p : Pos} {fa fb fc fe : EM D} {fs : EM (List D)} {g ga gb : EM Bool} {s1 : Stmt} {ss body : List Stmt} {f h k : SM}
theorem sx_nil : Sxs X W [] sNil := ⟨fun m τ s σ H D hL hS hP pins sh I => pss_nil.run pins sh σ H D I (hP m H σ .refl hS hL)⟩
theorem sx_cons (h1 : Sx X W s1 f) (h2 : Sxs X W ss h) : Sxs X W (s1 :: ss) (sSeq f h) := by
  refine ⟨fun m τ s σ H D hL hS hP pins sh I => (pss_cons psW pssW).run pins sh σ H D I (h1.run m τ s σ H _ hL hS ?_)⟩
  unfold sSeq at hP
  cases hq : f τ s with
  | nx τ1 s1 =>
    rw [hq] at hP
    exact fun m1 H1 σ1 e1 hS1 hL1 => h2.run m1 τ1 s1 σ1 H1 D hL1 hS1 (hP.up e1)
  | bk τ1 s1 =>
    rw [hq] at hP
    exact hP
  | ct τ1 s1 =>
    rw [hq] at hP
    exact hP
  | rt d s1 =>
    rw [hq] at hP
    exact hP
  | exc x τ1 s1 =>
    rw [hq] at hP
    exact hP
  | bad =>
    rw [hq] at hP
    exact hP
theorem sx_one (h1 : Sx X W s1 f) : Sxs X W [s1] f := by
  refine ⟨fun m τ s σ H D hL hS hP pins sh I => (pss_one psW).run pins sh σ H D I (h1.run m τ s σ H _ hL hS hP)⟩
theorem sx_pass : Sx X W (.Pass pos) sNil := ⟨fun m τ s σ H D hL hS hP pins sh I => ps_pass.run pins sh σ H D I (hP m H σ .refl hS hL)⟩
def sBrk : SM := fun τ st => .bk τ st
def sCnt : SM := fun τ st => .ct τ st
theorem sx_break : Sx X W (.Break pos) sBrk := ⟨fun m τ s σ H D hL hS hP pins sh I => ps_break.run pins sh σ H D I (hP m H σ .refl hS hL)⟩
theorem sx_continue : Sx X W (.Continue pos) sCnt := ⟨fun m τ s σ H D hL hS hP pins sh I => ps_continue.run pins sh σ H D I (hP m H σ .refl hS hL)⟩
def sRet (fe : EM D) : SM := fun τ st => bindE (fe τ st) τ fun d s1 => .rt d s1
theorem sx_ret (he : Ex X W e fe) : Sx X W (.Return (some e) pos) (sRet fe) := by
  refine ⟨fun m τ s σ H D hL hS hP pins sh I => (ps_ret peW).run pins sh σ H D I ?_⟩
  exact he.run m τ s σ H _ hL hS (hP.bind hL fun d s1 m1 H1 v e1 hS1 r1 hP1 => hP1 m1 H1 v .refl hS1 r1)
def sRetN : SM := fun _ st => .rt .non st
theorem sx_retN : Sx X W (.Return none pos) sRetN := ⟨fun m τ s σ H D hL hS hP pins sh I => ps_retN.run pins sh σ H D I (hP m H .non .refl hS .non)⟩
def sExpr (fe : EM D) : SM := fun τ st => bindE (fe τ st) τ fun _ s1 => .nx τ s1
theorem sx_expr (he : Ex X W e fe) (hs : swapsWith e none pos.line X.env = pure false := by rfl) : Sx X W (.Expr e pos) (sExpr fe) := by
  refine ⟨fun m τ s σ H D hL hS hP pins sh I => (ps_expr peW hs).run pins sh σ H D I ?_⟩
  exact he.run m τ s σ H _ hL hS (hP.bind hL fun d s1 m1 H1 v e1 hS1 r1 hP1 => hP1 m1 H1 σ .refl hS1 (hL.mono e1))
def sIf (g : EM Bool) (f h : SM) : SM := fun τ st => bindE (g τ st) τ fun b s1 => if b then f τ s1 else h τ s1
theorem sx_if {sa sb : List Stmt} (hc : Et X W c g) (ha : Sxs X W sa f) (hb : Sxs X W sb h) : Sx X W (.If c sa sb pos) (sIf g f h) := by
  refine ⟨fun m τ s σ H D hL hS hP pins sh I => (ps_if ptW pssW pssW).run pins sh σ H D I ?_⟩
  refine hc.run m τ s σ H _ hL hS (hP.bind hL fun d s1 m1 H1 v e1 hS1 r1 hP1 => ?_)
  subst r1
  cases d with
  | true => exact iteT (ha.run m1 τ s1 σ H1 D (hL.mono e1) hS1 hP1)
  | false => exact iteF (hb.run m1 τ s1 σ H1 D (hL.mono e1) hS1 hP1)
/-- name = e -/
def sSet (i : Nat) (fe : EM D) : SM := fun τ st => bindE (fe τ st) τ fun d s1 => .nx (τ.set i (some d)) s1
theorem sx_set {i : Nat} {x : Str} {pos' : Pos} (hN : X.N.Nodup) (he : Ex X W e fe) (hi : X.N[i]? = some x := by rfl) (hx : Loc X.env.scope x := by first | exact Or.inl rfl | exact Or.inr rfl) (hs : swapsWith e (some (.Name x pos')) pos.line X.env = pure false := by rfl)
    (hf : X.fn x = true ∨ X.env.scope.names.lookup x = some .local := by first | exact .inl rfl | exact .inr rfl) : Sx X W (.Assign [.Name x pos'] e pos) (sSet i fe) := by
  refine ⟨fun m τ s σ H D hL hS hP pins sh I => (ps_set hN hi hx peW hs hf).run pins sh σ H D I ?_⟩
  exact he.run m τ s σ H _ hL hS (hP.bind hL fun d s1 m1 H1 v e1 hS1 r1 hP1 => hP1 m1 H1 _ .refl hS1 ((hL.mono e1).set i r1))
/-- target = e -/
def sAsg (set : D → Sl → Option Sl) (fe : EM D) : SM := fun τ st => bindE (fe τ st) τ fun d s1 => match set d τ with
  | some τ1 => .nx τ1 s1
  | none => .bad
theorem sx_asg {tg : Expr} {ix : List Nat} {set : D → Sl → Option Sl} (he : Ex X W e fe) (hg : Eg X tg ix set) (hs : swapsWithSole [tg] e pos.line X.env = pure false := by rfl) (hw : swappedStores [tg] e X.env = pure none := by rfl) (h1 : (assignEach [tg] X.env).map (·.2) = [assign tg X.env] := by rfl) : Sx X W (.Assign [tg] e pos) (sAsg set fe) := by
  refine ⟨fun m τ s σ H D hL hS hP pins sh I => (ps_asg peW pgW hs hw h1).run pins sh σ H D I ?_⟩
  refine he.run m τ s σ H _ hL hS (hP.bind hL fun d s1 m1 H1 v e1 hS1 r1 hP1 => ?_)
  split at hP1
  · rename_i τ1 hset
    exact hg.run m1 τ τ1 s1 σ H1 d v _ (hL.mono e1) hS1 r1 hset fun σ2 _ _ hL2 => hP1 m1 H1 σ2 .refl hS1 hL2
  · exact hP1.elim
/-- name op= e -/
def sAug (i : Nat) (o : O2) (fe : EM D) : SM := fun τ st => match τ[i]? with
  | some (some x) => bindE (fe τ st) τ fun y s1 => bindE (o x y s1) τ fun z s2 => .nx (τ.set i (some z)) s2
  | _ => .bad
theorem sx_aug {i : Nat} {x : Str} {pos' : Pos} {op : Operator} {o : O2} (hN : X.N.Nodup) (he : Ex X W e fe) (ho : OpM X W (inplaceOp op) o) (hi : X.N[i]? = some x := by rfl) (hx : Loc X.env.scope x := by first | exact Or.inl rfl | exact Or.inr rfl)
    (hf : X.fn x = true ∨ X.env.scope.names.lookup x = some .local := by first | exact .inl rfl | exact .inr rfl) : Sx X W (.AugAssign (.Name x pos') op e pos) (sAug i o fe) := by
  refine ⟨fun m τ s σ H D hL hS hP pins sh I => ?_⟩
  unfold sAug at hP
  split at hP
  · rename_i d0 hd0
    obtain ⟨v0, h1, h2⟩ := hL.get i d0 hd0
    obtain ⟨mm, hn, hl⟩ := I.loc
    have vis : Vis X.env.scope x := by
      rcases hx with k | k
      · exact .inl k
      · exact .inr (.inl k)
    obtain ⟨u0, r0, l⟩ := hl i x v0 hi h1 vis
    refine wpAny_AugAssign_Name ?_
    have go : wpAny (model X.prog X.w) X.A (eval e X.env) (fun w s₂ => wpAny (model X.prog X.w) X.A (inplaceOp op u0 w) (fun r s₃ => wpAny (model X.prog X.w) X.A (storeName X.env x r) (fun _ => SP X pins D .next) X.xe s₃) X.xe s₂) X.xe sh := by
      refine thn (he.run m τ s σ H (fun y H1 => wR2 X (inplaceOp op) σ v0 y H1 fun z H2 => D.nx (σ.set i (some z)) H2) hL hS (hP.bind hL fun dy s1 m1 H1 y e1 hS1 r1 hP1 pins s v u I rx ry => ?_) pins sh I) fun w s1 ⟨y, H1, I1, r1, q1⟩ => ?_
      · exact ho m1 s1 σ H1 d0 dy v0 y _ hS1 (h2.mono e1) r1 (hP1.bind (hL.mono e1) fun dz s2 m2 H2 z e2 hS2 r2 hP2 => hP2 m2 H2 _ .refl hS2 (((hL.mono e1).mono e2).set i r2)) pins s v u I rx ry
      · refine thn (q1 pins s1 u0 w I1 r0 r1) fun z s2 ⟨zv, H2, I2, r2, q2⟩ => ?_
        exact store_ok I2 hN hi hx r2 (fun s3 I3 => ⟨_, H2, I3, q2⟩) hf
    rcases l with ⟨hk, hm⟩ | ⟨hk, c, hc, hcell⟩
    · exact wpAny_loadName_local I.ok.kind hk hn hm go
    · rcases hk with hk | hk
      · exact wpAny_loadName_cell I.ok.kind hk hc hcell go
      · rcases hx with k | k
        · have : X.env.scope.names.lookup x = some .free := hk
          rw [k] at this
          cases this
        · have : X.env.scope.names.lookup x = some .free := hk
          rw [k] at this
          cases this
  · exact hP.elim
/-- o[i] = e (a list) -/
def oSetS : D → D → D → Store → Option Store := fun o i v st => match o, i with
  | .ref n, .int k => match lstAt st n with
    | some xs => match ixN xs.length k with
      | some j => some (st.set n (.lst (xs.set j v)))
      | none => none
    | none => none
  | _, _ => none
/-- the order: the value, then the object, then the index -/
def sSubS (fo fi fe : EM D) : SM := fun τ st => bindE (fe τ st) τ fun v s1 => bindE (fo τ s1) τ fun o s2 => bindE (fi τ s2) τ fun i s3 => match oSetS o i v s3 with
  | some s4 => .nx τ s4
  | none => .bad
theorem set_readS {K : KW} {m : List Addr} {st st' : Store} {H : Hp} {o i v : D} {vo vi vv : V} (hS : SS K m st H) (ro : RD K m H o vo) (ri : RD K m H i vi) (rv : RD K m H v vv) (h : oSetS o i v st = some st') :
    ∃ p xs k j, vo = .ref p ∧ vi = .int k ∧ H p = some (.lst xs) ∧ ixN xs.length k = some j ∧ Ext K m H m (upd H p (.lst (xs.set j vv))) ∧ SS K m st' (upd H p (.lst (xs.set j vv))) := by
  unfold oSetS at h
  split at h
  · split at h
    · rename_i xs hx
      split at h
      · rename_i j hj
        cases h
        cases ro with
        | ref q =>
          cases ri
          obtain ⟨vs, h1, h2⟩ := hS.list hx q
          exact ⟨_, vs, _, j, rfl, rfl, h1, by rw [← h2.len]; exact hj, Ext.write h1 q, hS.write h1 q (h2.set rv j)⟩
      · cases h
    · cases h
  · cases h
theorem sx_subS {o i : Expr} {p' : Pos} {fo fi : EM D} (he : Ex X W e fe) (ho : Ex X W o fo) (hi : Ex X W i fi)
    (ha : ∀ v, assign (.Subscript o i p') X.env v = (do
      let ov ← holding [v] (eval o X.env)
      let iv ← holding [v, ov] (eval i X.env)
      standAt p'
      holding [v, ov, iv] (setItem ov iv v)
      release [v, ov, iv] []) := by intro _; rfl)
    (hs : swapsWithSole [.Subscript o i p'] e pos.line X.env = pure false := by rfl) (hw : swappedStores [.Subscript o i p'] e X.env = pure none := by rfl) (h1 : (assignEach [.Subscript o i p'] X.env).map (·.2) = [assign (.Subscript o i p') X.env] := by rfl) : Sx X W (.Assign [.Subscript o i p'] e pos) (sSubS fo fi fe) := by
  refine ⟨fun m τ s σ H D hL hS hP pins sh I => (ps_asg peW (pg_sub peW peW set_list ha) hs hw h1).run pins sh σ H D I ?_⟩
  refine he.run m τ s σ H _ hL hS (hP.bind hL fun v s1 m1 H1 vv e1 hS1 r1 hP1 => ?_)
  refine ho.run m1 τ s1 σ H1 _ (hL.mono e1) hS1 (hP1.bind (hL.mono e1) fun o s2 m2 H2 vo e2 hS2 r2 hP2 => ?_)
  refine hi.run m2 τ s2 σ H2 _ ((hL.mono e1).mono e2) hS2 (hP2.bind ((hL.mono e1).mono e2) fun i s3 m3 H3 vi e3 hS3 r3 hP3 => ?_)
  split at hP3
  · rename_i s4 h4
    obtain ⟨p, xs, k, j, q1, q2, q3, q4, q5, q6⟩ := set_readS hS3 (r2.mono e3) r3 ((r1.mono e2).mono e3) h4
    exact ⟨p, xs, k, j, q1, q2, q3, q4, hP3 m3 _ σ q5 q6 ((((hL.mono e1).mono e2).mono e3).mono q5)⟩
  · exact hP3.elim
/-- o[i] op= e -/
def oGetLS : O2 := fun x i st => match x, i with
  | .ref n, .int k => match lstAt st n with
    | some xs => match atI xs k with
      | some d => .ok d st
      | none => .bad
    | none => .bad
  | _, _ => .bad
def sAugSS (o : O2) (fo fi fe : EM D) : SM := fun τ st => bindE (fo τ st) τ fun x s1 => bindE (fi τ s1) τ fun i s2 => bindE (oGetLS x i s2) τ fun y s3 => bindE (fe τ s3) τ fun z s4 => bindE (o y z s4) τ fun v s5 => match oSetS x i v s5 with
  | some s6 => .nx τ s6
  | none => .bad
theorem get_list : PGet X (rIxL X.K) := by
  intro pins s σ H x y v u Q I rx ry h
  obtain ⟨p, xs, i, z, rfl, rfl, hq, he, q⟩ := h
  cases rx
  obtain ⟨t, rfl⟩ := ry
  obtain ⟨its, r, pl, hz⟩ := I.list hq
  obtain ⟨j, h1, h2, h3, h4, h5⟩ := atI_get he
  obtain ⟨w, ew, rw'⟩ := r.get h2
  have hl := r.length
  have hn := line63
  have fin : EP X pins σ Q w s := ⟨z, H, I, rw', q⟩
  by_cases h0 : 0 ≤ i
  · have hj : i.toNat = j := by
      rw [seqIndex_of h0 h5] at h1
      exact Option.some.inj h1
    exact wpAny_getItem_list pl.isList h0 (by omega) (by rw [hj]; simpa using ew) fin
  · have hj : (i + (its.toArray.size : Int)).toNat = j := by
      rw [seqIndex_neg (by omega) h4] at h1
      rw [List.size_toArray, ← hl]
      exact Option.some.inj h1
    exact wpAny_getItem_list_neg pl.isList (by omega) (by rw [List.size_toArray] <;> omega) (by omega) (by rw [hj]; simpa using ew) fin
theorem getL_readS {K : KW} {E : XK} {m : List Addr} {st : Store} {H : Hp} {x i : D} {vx vi : V} {Q : VK} (hS : SS K m st H) (rx : RD K m H x vx) (ri : RD K m H i vi) (h : Pe K E (RD K) m H (oGetLS x i st) Q) : rIxL K vx vi H Q := by
  unfold oGetLS at h
  split at h
  · split at h
    · split at h
      · rename_i xs hx _ d hd
        cases rx with
        | ref q =>
          cases ri
          obtain ⟨vs, h1, h2⟩ := hS.list hx q
          obtain ⟨v, h3, h4⟩ := atI_rds h2 hd
          exact ⟨_, vs, _, v, rfl, rfl, SqL.of h1, h3, h.now hS h4⟩
      · exact h.elim
    · exact h.elim
  · exact h.elim
theorem sx_augSS {o i : Expr} {p' : Pos} {fo fi : EM D} {op : Operator} {op2 : O2} (ho : Ex X W o fo) (hi : Ex X W i fi) (he : Ex X W e fe) (hop : OpM X W (inplaceOp op) op2)
    (ha : ∀ ov iv new, augStore i ov iv new = (do holding [new, ov, iv] (setItem ov iv new); release [new, ov, iv] []; pure .next) := by intros; rfl) : Sx X W (.AugAssign (.Subscript o i p') op e pos) (sAugSS op2 fo fi fe) := by
  refine ⟨fun m τ s σ H D hL hS hP pins sh I => ?_⟩
  have read : wE X o σ H fun vo H1 => wE X i σ H1 fun vi H2 => rIxL X.K vo vi H2 fun vy H3 => wE X e σ H3 fun vz H4 => wR2 X (inplaceOp op) σ vy vz H4 fun vv H5 => rSetL vo vi vv H5 fun H6 => D.nx σ H6 := by
    refine ho.run m τ s σ H _ hL hS (hP.bind hL fun dx s1 m1 H1 vx e1 hS1 r1 hP1 => ?_)
    have hL1 := hL.mono e1
    refine hi.run m1 τ s1 σ H1 _ hL1 hS1 (hP1.bind hL1 fun di s2 m2 H2 vi e2 hS2 r2 hP2 => ?_)
    have hL2 := hL1.mono e2
    refine getL_readS hS2 (r1.mono e2) r2 (hP2.bind hL2 fun dy s3 m3 H3 vy e3 hS3 r3 hP3 => ?_)
    have hL3 := hL2.mono e3
    refine he.run m3 τ s3 σ H3 _ hL3 hS3 (hP3.bind hL3 fun dz s4 m4 H4 vz e4 hS4 r4 hP4 => ?_)
    have hL4 := hL3.mono e4
    intro pins s v u I rv ru
    refine hop m4 s4 σ H4 dy dz vy vz _ hS4 (r3.mono e4) r4 (hP4.bind hL4 fun dv s5 m5 H5 vv e5 hS5 r5 hP5 => ?_) pins s v u I rv ru
    have hL5 := hL4.mono e5
    split at hP5
    · rename_i s6 h6
      have e25 := ((e3.trans e4).trans e5)
      obtain ⟨p, xs, k, j, q1, q2, q3, q4, q5, q6⟩ := set_readS hS5 ((r1.mono e2).mono e25) (r2.mono e25) r5 h6
      exact ⟨p, xs, k, j, q1, q2, q3, q4, hP5 m5 _ σ q5 q6 (hL5.mono q5)⟩
    · exact hP5.elim
  refine wpAny_AugAssign_SubscriptAny (thn (read pins sh I) fun ov s1 ⟨x1, H1, I1, r1, q1⟩ => ?_) ha
  refine thn (q1 pins s1 I1) fun iv s2 ⟨x2, H2, I2, r2, q2⟩ => ?_
  refine thn (get_list pins s2 σ H2 x1 x2 ov iv _ I2 r1 r2 q2) fun old s3 ⟨x3, H3, I3, r3, q3⟩ => ?_
  refine thn (q3 pins s3 I3) fun v s4 ⟨x4, H4, I4, r4, q4⟩ => ?_
  refine thn (q4 pins s4 old v I4 r3 r4) fun new s5 ⟨x5, H5, I5, r5, q5⟩ => ?_
  exact thn (set_list pins s5 σ H5 x1 x2 x5 ov iv new _ I5 r1 r2 r5 q5) fun _ s6 ⟨H6, I6, q6⟩ => ⟨σ, H6, I6, q6⟩
/-! ### loops -/
def forL (q : Sq) (set : D → Sl → Option Sl) (body : SM) : List D → SM
  | [], τ, st => if q.chk st then .nx τ st else .bad
  | d :: ds, τ, st => if q.chk st then match set d τ with
    | some τ1 => match body τ1 st with
      | .nx τ2 s2 => forL q set body ds τ2 s2
      | .ct τ2 s2 => forL q set body ds τ2 s2
      | .bk τ2 s2 => .nx τ2 s2
      | r => r
    | none => .bad
  else .bad
def sFor (fi : EM Sq) (set : D → Sl → Option Sl) (body : SM) : SM := fun τ st => bindE (fi τ st) τ fun q s1 => forL q set body q.items τ s1
theorem sx_for {tg iter : Expr} {ix : List Nat} {set : D → Sl → Option Sl} {fi : EM Sq} (hp : PassesOwn (model X.prog X.w) X.A X.env X.xe) (hc : X.calm = true) (hi : Ei X W tg iter fi) (hg : Eg X tg ix set) (hb : Sxs X W body f) (hs : ∀ x, foldedSetIterable iter X.env x = pure x := by intro _; rfl) : Sx X W (.For tg iter body [] pos) (sFor fi set f) := by
  refine ⟨fun m τ s σ H D hL hS hP pins sh I => (ps_for hp hc piW pgW pssW hs).run pins sh σ H D I ?_⟩
  refine hi.run m τ s σ H _ hL hS (hP.bind hL fun q s1 m1 H1 J e1 hS1 hJ hP1 => ?_)
  refine ⟨fun i k σ H => k = q.items.length - i ∧ i ≤ q.items.length ∧ ∃ (m : List Addr) (τ : Sl) (st : Store), Ext X.K m1 H1 m H ∧ SS X.kw m st H ∧ SL X.K m H τ σ ∧ Ps X.kw W m H (forL q set f (q.items.drop i) τ st) D, ⟨_, rfl, Nat.zero_le _, m1, τ, s1, .refl, hS1, hL.mono e1, by rw [List.drop_zero]; exact hP1⟩, ?_⟩
  rintro i k σ H ⟨rfl, hi, m, τ, st, e, hS, hL, hP⟩
  by_cases hlt : i < q.items.length
  · rw [List.drop_eq_getElem_cons hlt] at hP
    unfold forL at hP
    split at hP
    · rename_i hc
      obtain ⟨hgo, _⟩ := hJ m H st e hS hc
      obtain ⟨go, yl⟩ := hgo i q.items[i] (by simp [hlt])
      split at hP
      · rename_i τ1 hset
        refine .inr ⟨go, fun σ' H' => i + 1 ≤ q.items.length ∧ ∃ (m : List Addr) (τ : Sl) (st : Store), Ext X.K m1 H1 m H' ∧ SS X.kw m st H' ∧ SL X.K m H' τ σ' ∧ Ps X.kw W m H' (forL q set f (q.items.drop (i + 1)) τ st) D, fun σ' H' h => ⟨q.items.length - (i + 1), by omega, rfl, h⟩, fun x H' hy => ?_⟩
        obtain ⟨e2, s2, r2⟩ := yl x H' hy
        refine hg.run m τ τ1 st σ H' _ x _ (hL.mono e2) s2 r2 hset fun σ2 _ _ hL2 => ?_
        refine hb.run m τ1 st σ2 H' _ hL2 s2 ?_
        have hP := hP.up e2
        cases hq : f τ1 st with
        | nx τ2 s3 =>
          rw [hq] at hP
          exact fun m3 H3 σ3 e3 hS3 hL3 => ⟨by omega, m3, τ2, s3, e.trans (e2.trans e3), hS3, hL3, hP.up e3⟩
        | ct τ2 s3 =>
          rw [hq] at hP
          exact fun m3 H3 σ3 e3 hS3 hL3 => ⟨by omega, m3, τ2, s3, e.trans (e2.trans e3), hS3, hL3, hP.up e3⟩
        | bk τ2 s3 =>
          rw [hq] at hP
          exact hP
        | rt d s3 =>
          rw [hq] at hP
          exact hP
        | exc x τ2 s3 =>
          rw [hq] at hP
          exact hP
        | bad =>
          rw [hq] at hP
          exact hP
      · exact hP.elim
    · exact hP.elim
  · have e0 : i = q.items.length := by omega
    subst e0
    rw [List.drop_length] at hP
    unfold forL at hP
    split at hP
    · rename_i hc
      obtain ⟨_, stop⟩ := hJ m H st e hS hc
      exact .inl ⟨stop, hP m H σ .refl hS hL⟩
    · exact hP.elim
/-- more turns than any loop here takes -/
@[irreducible] def big : Nat := 2 ^ 20000
theorem le_big {k n : Nat} (hk : k ≤ 20000) (h : n ≤ 2 ^ k) : n ≤ big := by
  unfold big
  exact Nat.le_trans h (Nat.pow_le_pow_right (by decide) hk)
/-- while, at most n turns -/
def whileN (g : EM Bool) (body : SM) : Nat → SM
  | 0, _, _ => .bad
  | n + 1, τ, st => bindE (g τ st) τ fun b s1 => if b then match body τ s1 with
      | .nx τ2 s2 => whileN g body n τ2 s2
      | .ct τ2 s2 => whileN g body n τ2 s2
      | .bk τ2 s2 => .nx τ2 s2
      | r => r
    else .nx τ s1
theorem sx_while {c : Expr} (n : Nat) (hp : PassesOwn (model X.prog X.w) X.A X.env X.xe) (hc : Et X W c g) (hb : Sxs X W body f) : Sx X W (.While c body [] pos) (whileN g f n) := by
  refine ⟨fun m τ s σ H D hL hS hP pins sh I => (ps_while hp ptW pssW).run pins sh σ H D I ?_⟩
  refine ⟨fun k σ H => ∃ (m : List Addr) (τ : Sl) (st : Store), SS X.kw m st H ∧ SL X.K m H τ σ ∧ Ps X.kw W m H (whileN g f k τ st) D, ⟨n, m, τ, s, hS, hL, hP⟩, ?_⟩
  rintro k σ H ⟨m, τ, st, hS, hL, hP⟩
  cases k with
  | zero => exact hP.elim
  | succ k =>
    refine hc.run m τ st σ H _ hL hS (hP.bind hL fun b s1 m1 H1 b' e1 hS1 r1 hP1 => ?_)
    subst r1
    cases b with
    | false => exact iteF (hP1 m1 H1 σ .refl hS1 (hL.mono e1))
    | true =>
      refine iteT ⟨fun σ' H' => ∃ (m : List Addr) (τ : Sl) (st : Store), SS X.kw m st H' ∧ SL X.K m H' τ σ' ∧ Ps X.kw W m H' (whileN g f k τ st) D, fun σ' H' h => ⟨k, Nat.lt_succ_self k, h⟩, ?_⟩
      refine hb.run m1 τ s1 σ H1 _ (hL.mono e1) hS1 ?_
      have hP1 : Ps X.kw W m1 H1 (match f τ s1 with
        | .nx τ2 s2 => whileN g f k τ2 s2
        | .ct τ2 s2 => whileN g f k τ2 s2
        | .bk τ2 s2 => .nx τ2 s2
        | r => r) D := hP1
      cases hq : f τ s1 with
      | nx τ2 s3 =>
        rw [hq] at hP1
        exact fun m3 H3 σ3 e3 hS3 hL3 => ⟨m3, τ2, s3, hS3, hL3, hP1.up e3⟩
      | ct τ2 s3 =>
        rw [hq] at hP1
        exact fun m3 H3 σ3 e3 hS3 hL3 => ⟨m3, τ2, s3, hS3, hL3, hP1.up e3⟩
      | bk τ2 s3 =>
        rw [hq] at hP1
        exact hP1
      | rt d s3 =>
        rw [hq] at hP1
        exact hP1
      | exc x τ2 s3 =>
        rw [hq] at hP1
        exact hP1
      | bad =>
        rw [hq] at hP1
        exact hP1
end
end HM

/-! HM, part 7: raise, try; defs; the law's end. -/
namespace HM
open PySem PySem.Spec PyProof.Rows L2
section
variable {X : Cx} {W : WX} {e a b c : Expr} {es rest : List Expr} {pos p : Pos} {fa fb fc fe : EM D} {fs : EM (List D)} {g ga gb : EM Bool} {s1 : Stmt} {ss body suite : List Stmt} {f h k : SM}
def sRaise (x : Xc) : SM := fun τ st => .exc x τ st
theorem sx_raiseB {T N I : String} {x : Str} {m : Str} {j : Nat} {p2 pos' : Pos} (hc : X.calm = true) (tk : Takes X W) (F : ExcB T N I) (hg : Gl X x) (hm : X.mg x = none) (hv : bootBuiltins x = some (.type T)) (hn : x ≠ "__name__" := by decide) (hdb : (x == ("__debug__" : Str)) = false := by decide) :
    Sx X W (.Raise (some (.Call (.Name x p) [.Constant (.str m) j p2] [] pos)) none pos') (sRaise ⟨.ty T, []⟩) :=
  ⟨fun m τ s σ H D hL hS hP pins sh I => (ps_raiseB hc tk F hg hm hv hn hdb).run pins sh σ H D I (hP m H σ _ _ .refl hS hL ⟨rfl, rfl⟩)⟩
def sTry (f : SM) (mt : D → Option Bool) (h : SM) : SM := fun τ st => match f τ st with
  | .exc x τ1 s1 => match mt x.cls with
    | some true => h τ1 s1
    | some false => .exc x τ1 s1
    | none => .bad
  | r => r
theorem sx_try {x : Str} {c : Value} {b₀ : Stmt} {np pos' : Pos} {mt : D → Option Bool} (hs : X.stack = X.env :: X.outer) (hf : X.env.frame = some X.env.locals) (hc : Names X x c) (tk : Takes X W) (hmt : ∀ (m : List Addr) (H : Hp) (y : Xc) (cls : Value) (d : Option Addr) (b : Bool), XR X.K m H y cls d → mt y.cls = some b → PySem.W.exmOne X.K cls c = some b)
    (hb : ∀ (W : WX) (pn : List (Addr × Obj)) (xe : Value → Shared → Prop), Takes (X.tr pn xe) W → PassesOwn (model X.prog X.w) X.A X.env xe → Sxs (X.tr pn xe) W body f)
    (hsu : ∀ (a : Addr) (oe : Obj) (pn : List (Addr × Obj)), Sxs (X.suite a ((a, oe) :: pn)) (fun _ _ _ _ => False) (b₀ :: suite) h)
    (hno : ∀ τ st x τ1 s1, h τ st ≠ .exc x τ1 s1) : Sx X W (.Try body [.ExceptHandler (some (.Name x np)) none (b₀ :: suite) pos'] [] [] pos) (sTry f mt h) := by
  refine ⟨fun m τ s σ H D hL hS hP pins sh I => ?_⟩
  refine (ps_try_only (tb := fun W => fun D σ H => ∀ (pn : List (Addr × Obj)) (xe : Value → Shared → Prop), Takes (X.tr pn xe) W → PassesOwn (model X.prog X.w) X.A X.env xe → wSs (X.tr pn xe) body D σ H)
    (ts := fun a cls d => fun D σ H => ∀ (oe : Obj) (pn : List (Addr × Obj)), wSs (X.suite a ((a, oe) :: pn)) (b₀ :: suite) D σ H) hs hf hc tk (fun W pn xe t1 t2 => ⟨fun pins s σ H D I h => h pn xe t1 t2 pins s I⟩) (fun a oe cls d pn _ _ => ⟨fun pins s σ H D I h => h oe pn pins s I⟩)).run pins sh σ H D I ?_
  intro pn xe t1 t2
  refine (hb _ pn xe t1 t2).run m τ s σ H D hL hS ?_
  unfold sTry at hP
  cases hq : f τ s with
  | exc y τ1 s1 =>
    rw [hq] at hP
    intro m1 H1 σ1 cls d e1 hS1 hL1 hX
    have hP : Ps X.kw W m H (match mt y.cls with
      | some true => h τ1 s1
      | some false => .exc y τ1 s1
      | none => .bad) D := hP
    cases hm : mt y.cls with
    | none =>
      rw [hm] at hP
      exact hP.elim
    | some b =>
      rw [hm] at hP
      refine ⟨b, hmt m1 H1 y cls d b hX hm, fun hb' a na oe pn => ?_, fun hb' => ?_⟩
      · subst hb'
        refine (hsu a oe pn).run m1 τ1 s1 σ1 H1 D hL1 hS1 ?_
        have hP := hP.up e1
        cases hh : h τ1 s1 with
        | exc x τ2 s2 => exact absurd hh (hno _ _ _ _ _)
        | nx _ _ =>
          have hP : Ps X.kw W m1 H1 (h τ1 s1) D := hP
          rw [hh] at hP
          exact hP
        | bk _ _ =>
          have hP : Ps X.kw W m1 H1 (h τ1 s1) D := hP
          rw [hh] at hP
          exact hP
        | ct _ _ =>
          have hP : Ps X.kw W m1 H1 (h τ1 s1) D := hP
          rw [hh] at hP
          exact hP
        | rt _ _ =>
          have hP : Ps X.kw W m1 H1 (h τ1 s1) D := hP
          rw [hh] at hP
          exact hP
        | bad =>
          have hP : Ps X.kw W m1 H1 (h τ1 s1) D := hP
          rw [hh] at hP
          exact hP
      · subst hb'
        exact hP m1 H1 σ1 cls d e1 hS1 hL1 hX
  | nx _ _ =>
    rw [hq] at hP
    exact hP
  | bk _ _ =>
    rw [hq] at hP
    exact hP
  | ct _ _ =>
    rw [hq] at hP
    exact hP
  | rt _ _ =>
    rw [hq] at hP
    exact hP
  | bad =>
    rw [hq] at hP
    exact hP
end

/-- does a built-in class catch -/
def mtB (T : String) : D → Option Bool
  | .ty n => if n = T then some true else none
  | _ => none
theorem mtB_of {K : PySem.W.Frag} {T : String} (h : PySem.W.exmOne K (.type T) (.type T) = some true) (m : List Addr) (H : Hp) (y : Xc) (cls : Value) (d : Option Addr) (b : Bool) (hx : XR K m H y cls d) (hm : mtB T y.cls = some b) : PySem.W.exmOne K cls (.type T) = some b := by
  unfold mtB at hm
  split at hm
  · rename_i n e
    split at hm
    · rename_i hn
      subst hn
      cases hm
      unfold XR at hx
      rw [e] at hx
      obtain ⟨rfl, _⟩ := hx
      exact h
    · cases hm
  · cases hm
theorem mtB_ZeroDivisionError {K : PySem.W.Frag} : ∀ (m : List Addr) (H : Hp) (y : Xc) (cls : Value) (d : Option Addr) (b : Bool), XR K m H y cls d → mtB "ZeroDivisionError" y.cls = some b → PySem.W.exmOne K cls (.type "ZeroDivisionError") = some b := mtB_of (by kernel_rfl)
/-! ### defs -/
/-- the slots at a def's entry -/
def ent (n : Nat) (ds : List D) : Sl := ds.map some ++ List.replicate (n - ds.length) none
def runB (n : Nat) (fb : SM) : FM := fun ds st => match fb (ent n ds) st with
  | .nx _ s => .ok .non s
  | .rt d s => .ok d s
  | .exc x _ s => .exc x s
  | _ => .bad
theorem SL.start {K : PySem.W.Frag} {m : List Addr} {H : Hp} {N : List Str} {ds : List D} {vs : List V} (r : RDs K m H ds vs) : SL K m H (ent N.length ds) (L2.start N vs) where
  len := by simp [ent, L2.start, r.len]
  get := fun i d h => by
    unfold ent at h
    by_cases hi : i < ds.length
    · rw [List.getElem?_append_left (by simpa using hi), List.getElem?_map] at h
      cases hd : ds[i]? with
      | none =>
        rw [hd] at h
        cases h
      | some d' =>
        rw [hd] at h
        simp only [Option.map_some, Option.some.injEq] at h
        subst h
        obtain ⟨v, h1, h2⟩ := r.get hd
        refine ⟨v, ?_, h2⟩
        unfold L2.start
        rw [List.getElem?_append_left (by simpa [← r.len] using hi), List.getElem?_map, h1]
        rfl
    · rw [List.getElem?_append_right (by simpa using hi)] at h
      have z := List.mem_of_getElem? h
      have z2 := List.eq_of_mem_replicate z
      cases z2
section
variable {P : Program} {w : World} {K : PySem.W.Frag} {mg : Str → Option Value} {base : Heap} {x qual : Str} {params : Arguments} {body : List Stmt} {scope : Scope} {dvs : List V} {kws : List (Str × V)} {f : Addr} {fd : FuncData} {N ps : List Str} {k : Nat} {fb : SM}
/-- the context of a def's body -/
abbrev Cd (P : Program) (w : World) (K : PySem.W.Frag) (mg : Str → Option Value) (base : Heap) (N : List Str) (qual : Str) (scope : Scope) (f : Addr) (k : Nat) (B : Cx → WX → Prop) : Prop :=
  ∀ (cdv : Value) (A : Around) (outer : List Env) (s : Shared) (H : Hp) (E : XK), Room k (A.deeper (envOfC qual scope s.heap.objs.size f cdv)) → B (cxOf (L2.CX P w) P w K mg base N qual scope f cdv A outer s H E) (fun c d _ H => E c d H)
theorem fn_def (F : FunD K x qual params body scope dvs kws f fd) (S : FnScope N ps scope)
    (hb : ∀ (cdv : Value) (A : Around) (outer : List Env) (s : Shared) (H : Hp) (E : XK), Room k (A.deeper (envOfC qual scope s.heap.objs.size f cdv)) → Takes (cxOf (L2.CX P w) P w K mg base N qual scope f cdv A outer s H E) (fun c d _ H => E c d H) →
      PassesOwn (model P w) (A.deeper (envOfC qual scope s.heap.objs.size f cdv)) (envOfC qual scope s.heap.objs.size f cdv) (cxOf (L2.CX P w) P w K mg base N qual scope f cdv A outer s H E).xe →
      Sxs (cxOf (L2.CX P w) P w K mg base N qual scope f cdv A outer s H E) (fun c d _ H => E c d H) body fb) : FnM P w K mg base (k + 1) f fd ps (runB N.length fb) := by
  refine F.ok S (fun vs H Q E ⟨m, st, ds, hl, hS, r, _⟩ => by rw [← r.len, hl]) (fun cdv A outer s H vs Q E hr ⟨m, st, ds, hl, hS, r, hP⟩ => ?_)
  refine ⟨_, pssW, (hb cdv A outer s H E hr (takes_of rfl rfl rfl rfl) (passes_of rfl)).run m (ent N.length ds) st (L2.start N vs) H _ (SL.start r) hS ?_⟩
  unfold runB at hP
  cases hq : fb (ent N.length ds) st with
  | nx τ s1 =>
    rw [hq] at hP
    exact fun m1 H1 σ e1 hS1 hL1 => hP m1 H1 .non e1 hS1 .non
  | rt d s1 =>
    rw [hq] at hP
    exact hP
  | exc x τ s1 =>
    rw [hq] at hP
    exact fun m1 H1 σ c d e1 hS1 hL1 hX => hP m1 H1 c d e1 hS1 hX
  | bk τ s1 =>
    rw [hq] at hP
    exact hP.elim
  | ct τ s1 =>
    rw [hq] at hP
    exact hP.elim
  | bad =>
    rw [hq] at hP
    exact hP.elim
end

/-! ### what a def leaves behind may be forgotten -/
mutual
def D.lo (k : Nat) : D → Bool
  | .ref n => decide (n < k)
  | .tup xs => D.loAll k xs
  | .rol xs => D.loAll k xs
  | .adr _ (some _) _ x => D.lo k x
  | _ => true
def D.loAll (k : Nat) : List D → Bool
  | [] => true
  | d :: ds => D.lo k d && D.loAll k ds
end
def Cell.lo (k : Nat) : Cell → Bool
  | .lst xs => D.loAll k xs
  | .dct kvs => kvs.all fun p => p.1.lo k && p.2.lo k
section
variable {K : PySem.W.Frag} {m : List Addr} {H : Hp}
mutual
theorem RD.take {k : Nat} : ∀ {d : D} {v : V}, RD K m H d v → d.lo k = true → RD K (m.take k) H d v
  | _, _, .non, _ => .non
  | _, _, .bl b, _ => .bl b
  | _, _, .int i, _ => .int i
  | _, _, .str x, _ => .str x
  | _, _, .ty n, _ => .ty n
  | _, _, .adr a f x, _ => .adr a f x
  | _, _, .adrF h r, q => .adrF h (RD.take r (by simpa only [D.lo] using q))
  | _, _, .tup h r, q => .tup h (RDs.takeA r (by simpa only [D.lo] using q))
  | _, _, .rol h r, q => .rol h (RDs.takeA r (by simpa only [D.lo] using q))
  | _, _, .ref (n := n) h, q => .ref (by
    have z : n < k := of_decide_eq_true (by simpa only [D.lo] using q)
    rw [List.getElem?_take_of_lt z]
    exact h)
theorem RDs.takeA {k : Nat} : ∀ {ds : List D} {vs : List V}, RDs K m H ds vs → D.loAll k ds = true → RDs K (m.take k) H ds vs
  | _, _, .nil, _ => .nil
  | _, _, .cons h r, q => by
    simp only [D.loAll, Bool.and_eq_true] at q
    exact .cons (RD.take h q.1) (RDs.takeA r q.2)
end
mutual
theorem RD.is_lo {k : Nat} (hk : m.length ≤ k) : ∀ {d : D} {v : V}, RD K m H d v → d.lo k = true
  | _, _, .non => rfl
  | _, _, .bl b => rfl
  | _, _, .int i => rfl
  | _, _, .str x => rfl
  | _, _, .ty n => rfl
  | _, _, .adr a f x => rfl
  | _, _, .adrF h r => by simpa only [D.lo] using RD.is_lo hk r
  | _, _, .tup h r => by simpa only [D.lo] using RDs.is_lo hk r
  | _, _, .rol h r => by simpa only [D.lo] using RDs.is_lo hk r
  | _, _, .ref h => by
    simp only [D.lo, decide_eq_true_eq]
    exact Nat.lt_of_lt_of_le (List.getElem?_eq_some_iff.mp h).1 hk
theorem RDs.is_lo {k : Nat} (hk : m.length ≤ k) : ∀ {ds : List D} {vs : List V}, RDs K m H ds vs → D.loAll k ds = true
  | _, _, .nil => rfl
  | _, _, .cons h r => by simp only [D.loAll, RD.is_lo hk h, RDs.is_lo hk r, Bool.and_self]
end
theorem RC.is_lo {K : KW} {k : Nat} {a : Addr} {c : Cell} (hk : m.length ≤ k) (r : RC K m H a c) : c.lo k = true := by
  cases c with
  | lst ds =>
    obtain ⟨vs, _, r⟩ := r
    exact r.is_lo hk
  | dct kvs =>
    have f1 : ∀ {kvs us}, DRel1 K m H kvs us → (kvs.all fun p => p.1.lo k && p.2.lo k) = true := fun {kvs us} r => by
      induction r with
      | nil => rfl
      | @cons p q ps qs h t ih =>
        obtain ⟨h1, h2⟩ := h
        have z : p.1.lo k = true := by rw [h1]; cases q.1 <;> rfl
        rw [List.all_cons, ih, z, h2.is_lo hk]
        rfl
    have f2 : ∀ {kvs us}, DRel2 K m H kvs us → (kvs.all fun p => p.1.lo k && p.2.lo k) = true := fun {kvs us} r => by
      induction r with
      | nil => rfl
      | @cons p q ps qs h t ih =>
        rw [List.all_cons, ih, h.2.2.1.is_lo hk, h.2.2.2.is_lo hk]
        rfl
    rcases r with ⟨us, _, r⟩ | ⟨xs, _, r⟩
    · exact f1 r
    · exact f2 r.2
theorem RC.take {K : KW} {k : Nat} {a : Addr} {c : Cell} (r : RC K m H a c) (h : c.lo k = true) : RC K (m.take k) H a c := by
  cases c with
  | lst ds =>
    obtain ⟨vs, q, r⟩ := r
    exact ⟨vs, q, r.takeA h⟩
  | dct kvs =>
    have f1 : ∀ {kvs us}, DRel1 K m H kvs us → (kvs.all fun p => p.1.lo k && p.2.lo k) = true → DRel1 K (m.take k) H kvs us := fun {kvs us} r => by
      induction r with
      | nil => exact fun _ => .nil
      | @cons p q ps qs h t ih =>
        intro z
        rw [List.all_cons, Bool.and_eq_true, Bool.and_eq_true] at z
        exact .cons ⟨h.1, h.2.take z.1.2⟩ (ih z.2)
    have f2 : ∀ {kvs us}, DRel2 K m H kvs us → (kvs.all fun p => p.1.lo k && p.2.lo k) = true → DRel2 K (m.take k) H kvs us := fun {kvs us} r => by
      induction r with
      | nil => exact fun _ => .nil
      | @cons p q ps qs h t ih =>
        intro z
        rw [List.all_cons, Bool.and_eq_true, Bool.and_eq_true] at z
        exact .cons ⟨h.1, h.2.1, h.2.2.1.take z.1.1, h.2.2.2.take z.1.2⟩ (ih z.2)
    rcases r with ⟨us, q, r⟩ | ⟨xs, q, r⟩
    · exact .inl ⟨us, q, f1 r h⟩
    · exact .inr ⟨xs, q, r.1, f2 r.2 h⟩
/-- r' says no more than r, or the same with a shorter store -/
inductive Le (st : Store) : ER D → ER D → Prop
  | bad (r : ER D) : Le st r .bad
  | refl (r : ER D) : Le st r r
  | gc {v : D} {s1 : Store} (k : Nat) (hk : st.length ≤ k) (hv : v.lo k = true) (hc : ∀ (i : Nat) (c : Cell), i < k → s1[i]? = some c → st[i]? = some c ∨ c.lo k = true) : Le st (.ok v s1) (.ok v (s1.take k))
theorem Le.pe {K : KW} {E : XK} {st : Store} {r r' : ER D} {Q : VK} (l : Le st r r') (s : SS K m st H) (h : Pe K E (RD K) m H r' Q) : Pe K E (RD K) m H r Q := by
  cases l with
  | bad r => exact h.elim
  | refl r => exact h
  | @gc v s1 k hk hv hc =>
    intro m1 H1 b e1 hS1 r1
    refine h (m1.take k) H1 b ⟨⟨fun n a q => ?_, e1.tup, e1.plt, e1.fzl, e1.xdk⟩, e1.frm, fun a q n => e1.new a (List.mem_of_mem_take q) n⟩ ⟨?_, ?_, fun n c a q1 q2 => ?_⟩ (r1.take hv)
    · have hl : n < m.length := (List.getElem?_eq_some_iff.mp q).1
      rw [s.len] at hl
      rw [List.getElem?_take_of_lt (Nat.lt_of_lt_of_le hl hk)]
      exact e1.pre n a q
    · rw [List.length_take, List.length_take, hS1.len]
    · exact hS1.nd.sublist (List.take_sublist _ _)
    · have hn : n < k := by
        have z := (List.getElem?_eq_some_iff.mp q1).1
        rw [List.length_take] at z
        omega
      rw [List.getElem?_take_of_lt hn] at q1 q2
      refine (hS1.cel n c a q1 q2).take ?_
      rcases hc n c hn q1 with z | z
      · obtain ⟨a0, _, r0⟩ := s.at z
        exact r0.is_lo (by rw [s.len]; exact hk)
      · exact z
theorem FnM.le {P : Program} {w : World} {mg : Str → Option Value} {base : Heap} {k : Nat} {f : Addr} {fd : FuncData} {ps : List Str} {mf sf : FM} (F : FnM P w K mg base k f fd ps mf) (h : ∀ ds st, Le st (mf ds st) (sf ds st)) : FnM P w K mg base k f fd ps sf :=
  FnOk.imp F fun vs H Q E ⟨m, st, ds, hl, hS, r, hP⟩ => ⟨m, st, ds, hl, hS, r, (h ds st).pe hS hP⟩
/-- a value without the store, the store but for what was laid on it -/
theorem Le.app {st more : Store} {v : D} (hv : v.lo st.length = true) : Le st (.ok v (st ++ more)) (.ok v st) := by
  have z := Le.gc (st := st) (v := v) (s1 := st ++ more) st.length (Nat.le_refl _) hv fun i c hi h => by
    rw [List.getElem?_append_left hi] at h
    exact .inl h
  rw [List.take_left] at z
  exact z
end

/-! ### the law -/
theorem law_sp {K : KW} {mf : FM} {n : Nat} (h : ∀ ns : List Int, ns.length ≤ n → ∃ st, mf [.rol (ns.map D.int)] [] = .ok (.bl true) st) (H : Hp) (a : Addr) (ns : List Int) (hl : ns.length ≤ n) (ho : Only H) (hS : SqL K H a (ns.map V.int)) :
    spM K 1 mf [V.ref a] H (fun v _ => v = .bl true) (fun _ _ _ => False) := by
  obtain ⟨st, e⟩ := h ns hl
  refine ⟨[], [], [.rol (ns.map D.int)], rfl, ⟨rfl, .nil, fun n c a q => by simp at q⟩, .cons (.rol (FzL.of hS fun ys z => ?_) (RDs.ints ns)) .nil, ?_⟩
  · rcases ho a with q | ⟨o, xs, q⟩
    · rw [q] at z
      cases z
    · rw [q] at z
      cases z
  · rw [e]
    intro m' H' b _ _ r
    cases r
    rfl
end HM

/-! HM, part 8: defs as they are called; what a text is put together of. -/
namespace HM
open PySem PySem.Spec PyProof.Rows L2
section
variable {X : Cx} {W : WX} {e a b c : Expr} {es rest : List Expr} {pos p : Pos} {fa fb fc fe : EM D} {fs : EM (List D)} {g ga gb : EM Bool} {s1 : Stmt} {ss body suite : List Stmt} {f h k : SM}
/-- a name = [..] on one line -/
theorem sx_setLc {i : Nat} {y : Str} {py spos : Pos} {tg elt iter : Expr} {ifs : List Expr} {scope : Scope} {own : List (Str × Nat)} {ix : List Nat} {set : D → Sl → Option Sl} {ft : EM Bool} {fe : EM D} {fi : EM Sq} (hc : X.calm = true) (hN : X.N.Nodup) (hi : Ei X W tg iter fi) (ok : BlkOk X.N X.env.scope scope own)
    (hg : BEg X scope tg ix set) (ht : BEt X scope ifs ft) (he : BEx X scope elt fe) (hy : X.N[i]? = some y := by rfl) (hyl : X.env.scope.names.lookup y = some .local := by rfl)
    (hsw : swapsWith (.ListComp elt [⟨tg, iter, ifs, 0⟩] scope pos) (some (.Name y py)) spos.line X.env = pure true := by exact sw_true rfl rfl rfl (by decide +kernel)) (hown : ∀ i ∈ ix, i ∈ own.map (·.2) := by decide) (hs : ∀ x, foldedSetIterable iter X.env x = pure x := by intro _; rfl) :
    Sx X W (.Assign [.Name y py] (.ListComp elt [⟨tg, iter, ifs, 0⟩] scope pos) spos) (sSet i (eEl (lComp (own.map (·.2)) fi set ft fe))) := by
  refine ⟨fun m τ st σ H D hL hS hP pins s I => ?_⟩
  refine (ps_setLc (g := gAll X scope tg) (tt := tAll X scope ifs) (te := eAll X scope elt) hc hN hy hyl hsw piW ok ?_ ?_ ?_ hs).run pins s σ H D I (comp_post hi hown hg ht he hL hS ?_)
  · exact fun s H C cl fp => ⟨fun pins s' σ H' v u Q I r h => h s H C cl fp pins s' u I r⟩
  · exact fun s H C cl fp => ⟨fun pins s' σ H' Q I h => h s H C cl fp pins s' I⟩
  · exact fun s H C cl fp => ⟨fun pins s' σ H' Q I h => h s H C cl fp pins s' I⟩
  · unfold sSet eEl at hP
    cases hq : lComp (own.map (·.2)) fi set ft fe τ st with
    | ok ds s1 =>
      rw [hq] at hP
      intro m1 H1 v e1 hS1 ⟨a, vs, e, ha, na, hn, rs⟩
      subst e
      have e2 := e1.own hn
      have r2 : RD X.K (m1 ++ [a]) H1 (.ref s1.length) (.ref a) := .ref (by
        rw [← hS1.len]
        simp)
      exact hP (m1 ++ [a]) H1 _ e2 (hS1.grow na ⟨vs, ha, rs.kp Kp.grow⟩) ((hL.mono e2).set i r2)
    | exc x st' =>
      rw [hq] at hP
      exact fun m' H' c d e s q => hP m' H' σ c d e s (hL.mono e) q
    | bad =>
      rw [hq] at hP
      exact hP.elim

/-! ### defs by name -/
structure Cal (P : Program) (w : World) (K : PySem.W.Frag) (mg : Str → Option Value) (base : Heap) (x : Str) (k : Nat) (ps : List Str) (mf : FM) : Prop where
  ex : ∃ (f : Addr) (fd : FuncData), FnM P w K mg base k f fd ps mf ∧ mg x = some (.ref f) ∧ PySem.W.keepIn K (.ref f) = true ∧ Binds K fd ps [] ∧ ∃ oc od osl, K.lookup f = some ⟨oc, od, .func fd, osl⟩
theorem Cal.le {P : Program} {w : World} {K : PySem.W.Frag} {mg : Str → Option Value} {base : Heap} {x : Str} {k : Nat} {ps : List Str} {mf sf : FM} (c : Cal P w K mg base x k ps mf) (h : ∀ ds st, Le st (mf ds st) (sf ds st)) : Cal P w K mg base x k ps sf := by
  obtain ⟨f, fd, F, r⟩ := c.ex
  exact ⟨f, fd, F.le h, r⟩
theorem Cal.mono {P : Program} {w : World} {K : PySem.W.Frag} {mg : Str → Option Value} {base : Heap} {x : Str} {j k : Nat} {ps : List Str} {mf : FM} (c : Cal P w K mg base x j ps mf) (h : j ≤ k) : Cal P w K mg base x k ps mf := by
  obtain ⟨f, fd, F, r⟩ := c.ex
  exact ⟨f, fd, FnOk.mono F h, r⟩
theorem ex_c1 {P : Program} {w : World} {K : PySem.W.Frag} {mg : Str → Option Value} {base : Heap} {A : Around} {j k : Nat} {ps : List Str} {mf : FM} {x : Str} (c : Cal P w K mg base x j ps mf) (tk : Takes X W) (hr : Room k A) (hj : j ≤ k) (ha : Ea X W (e :: es) fs)
    (h1 : X.prog = P := by rfl) (h2 : X.w = w := by rfl) (h3 : X.K = K := by rfl) (h4 : X.mg = mg := by rfl) (h5 : X.base = base := by rfl) (h6 : X.A = A := by rfl) (hg : Gl X x := by rfl) (hdb : (x == ("__debug__" : Str)) = false := by decide) (he : starEach (e :: es) X.env = (false, eval e X.env) :: starEach es X.env := by rfl)
    (hpl : (backTo pos (starEach es X.env)).any (·.1) = false := by rfl) : Ex X W (.Call (.Name x p) (e :: es) [] pos) (eCall ps.length mf fs) := by
  subst h1 h2 h3 h4 h5 h6
  obtain ⟨f, fd, F, hm, hk, hb, _⟩ := c.ex
  exact ex_call tk F (hr.mono hj) hg hm hk hb ha hdb he hpl
theorem ex_c0 {P : Program} {w : World} {K : PySem.W.Frag} {mg : Str → Option Value} {base : Heap} {A : Around} {j k : Nat} {ps : List Str} {mf : FM} {x : Str} (c : Cal P w K mg base x j ps mf) (tk : Takes X W) (hr : Room k A) (hj : j ≤ k)
    (h1 : X.prog = P := by rfl) (h2 : X.w = w := by rfl) (h3 : X.K = K := by rfl) (h4 : X.mg = mg := by rfl) (h5 : X.base = base := by rfl) (h6 : X.A = A := by rfl) (hg : Gl X x := by rfl) (hdb : (x == ("__debug__" : Str)) = false := by decide) : Ex X W (.Call (.Name x p) [] [] pos) (eCall ps.length mf aNil) := by
  subst h1 h2 h3 h4 h5 h6
  obtain ⟨f, fd, F, hm, hk, hb, _⟩ := c.ex
  exact ex_call0 tk F (hr.mono hj) hg hm hk hb hdb
/-- in a comprehension nothing is let out -/
theorem tk0 : Takes X (fun _ _ _ _ => False) := takes0
end
/-- a def of the text -/
abbrev FnP (K : PySem.W.Frag) (x : Str) (st : Stmt) (f : Addr) (fd : FuncData) : Prop := FunD K x x (defArgs st) (defBody st) (defScope st) [] [] f fd
section
variable {P : Program} {w : World} {K : PySem.W.Frag} {mg : Str → Option Value} {base : Heap}
theorem cal_mk {x : Str} {st : Stmt} {f : Addr} {fd : FuncData} {N ps : List Str} {k : Nat} {fb : SM} (F : FnP K x st f fd) (S : FnScope N ps (defScope st)) (gx : mg x = some (.ref f))
    (bn : ∀ (kV doc pm : Value) (an : Option Addr) (cdv ct : Value) (us : List Value), us.length = ps.length → bindArgs (PySem.W.fnOf x x (defArgs st) (defBody st) (defScope st) .none kV doc pm an cdv ct) ⟨us, []⟩ = pure (ps.zip us))
    (hb : ∀ (cdv : Value) (A : Around) (outer : List Env) (s : Shared) (H : Hp) (E : XK), Room k (A.deeper (envOfC x (defScope st) s.heap.objs.size f cdv)) → Takes (cxOf (L2.CX P w) P w K mg base N x (defScope st) f cdv A outer s H E) (fun c d _ H => E c d H) →
      PassesOwn (model P w) (A.deeper (envOfC x (defScope st) s.heap.objs.size f cdv)) (envOfC x (defScope st) s.heap.objs.size f cdv) (cxOf (L2.CX P w) P w K mg base N x (defScope st) f cdv A outer s H E).xe →
      Sxs (cxOf (L2.CX P w) P w K mg base N x (defScope st) f cdv A outer s H E) (fun c d _ H => E c d H) (defBody st) fb) : Cal P w K mg base x (k + 1) ps (runB N.length fb) :=
  ⟨f, fd, fn_def F S hb, gx, F.kp, F.bindsN bn, let ⟨oc, od, _, _, _, _, _, _, _, osl, e, lk, _⟩ := F.ex; ⟨oc, od, osl, e ▸ lk⟩⟩
end
/-! ### what the built-in names hold -/
theorem bt_len : bootBuiltins "len" = some (.builtin "len") := by decide +kernel
theorem bt_abs : bootBuiltins "abs" = some (.builtin "abs") := by decide +kernel
theorem bt_isinstance : bootBuiltins "isinstance" = some (.builtin "isinstance") := by decide +kernel
theorem bt_min : bootBuiltins "min" = some (.builtin "min") := by decide +kernel
theorem bt_max : bootBuiltins "max" = some (.builtin "max") := by decide +kernel
theorem bt_sum : bootBuiltins "sum" = some (.builtin "sum") := by decide +kernel
theorem bt_all : bootBuiltins "all" = some (.builtin "all") := by decide +kernel
theorem bt_any : bootBuiltins "any" = some (.builtin "any") := by decide +kernel
theorem bt_sorted : bootBuiltins "sorted" = some (.builtin "sorted") := by decide +kernel
theorem bt_int : bootBuiltins "int" = some (.type "int") := by decide +kernel
theorem bt_bool : bootBuiltins "bool" = some (.type "bool") := by decide +kernel
theorem bt_str : bootBuiltins "str" = some (.type "str") := by decide +kernel
theorem bt_tuple : bootBuiltins "tuple" = some (.type "tuple") := by decide +kernel
theorem bt_list : bootBuiltins "list" = some (.type "list") := by decide +kernel
end HM

/-! HM, part 9: what the top leaves. -/
namespace HM
open PySem PySem.Spec PyProof.Rows L2
mutual
def conB (K : PySem.W.Frag) : D → Value → Bool
  | .non, .none => true
  | .bl a, .bool b => a == b
  | .int i, .int j _ => decide (i = j)
  | .str x, .str y _ => decide (y.cps.toList = x)
  | .tup ds, .ref a => match K.lookup a with
    | some ⟨.type c, od, .seq its _, _⟩ => decide (c = "tuple") && (od.isNone && (decide (its.size ≤ sizeLine) && conAll K ds its.toList))
    | _ => false
  | _, _ => false
def conAll (K : PySem.W.Frag) : List D → List Value → Bool
  | [], [] => true
  | d :: ds, u :: us => conB K d u && conAll K ds us
  | _, _ => false
end
mutual
theorem conB_ok {K : PySem.W.Frag} : ∀ (d : D) (u : Value), conB K d u = true → ∃ v, RelV v u ∧ ∀ m H, RD K m H d v
  | .non, u, h => by
    cases u <;> simp [conB] at h
    exact ⟨.non, rfl, fun _ _ => .non⟩
  | .bl a, u, h => by
    cases u <;> simp [conB] at h
    subst h
    exact ⟨.bl _, rfl, fun _ _ => .bl _⟩
  | .int i, u, h => by
    cases u <;> simp [conB] at h
    subst h
    exact ⟨.int _, ⟨_, rfl⟩, fun _ _ => .int _⟩
  | .str x, u, h => by
    cases u <;> simp [conB] at h
    rename_i y t
    subst h
    refine ⟨.str y, ⟨_, rfl⟩, fun _ _ => ?_⟩
    have e : (⟨y.cps.toList.toArray⟩ : PySem.Str) = y := by simp
    have z := RD.str (K := K) (m := ‹_›) (H := ‹_›) y.cps.toList
    rw [e] at z
    exact z
  | .tup ds, u, h => by
    cases u with
    | ref a =>
      have h1 : (match K.lookup a with
        | some ⟨.type c, od, .seq its _, _⟩ => decide (c = "tuple") && (od.isNone && (decide (its.size ≤ sizeLine) && conAll K ds its.toList))
        | _ => false) = true := by
        simpa only [conB] using h
      split at h1
      · rename_i c od its n osl e
        simp only [Bool.and_eq_true, decide_eq_true_eq] at h1
        obtain ⟨h2, h5, h3, h4⟩ := h1
        subst h2
        have hod : od = none := by simpa using h5
        obtain ⟨vs, r, q⟩ := conAll_ok ds its.toList h4
        exact ⟨.ref a, rfl, fun m H => .tup (.inr ⟨_, its, n, e, rfl, hod, rfl, h3, r⟩) (q m H)⟩
      · cases h1
    | _ => simp [conB] at h
  | .ref _, u, h => by simp [conB] at h
  | .ty _, u, h => by simp [conB] at h
  | .adr _ _ _ _, u, h => by simp [conB] at h
  | .rol _, u, h => by simp [conB] at h
theorem conAll_ok {K : PySem.W.Frag} : ∀ (ds : List D) (us : List Value), conAll K ds us = true → ∃ vs, Vals vs us ∧ ∀ m H, RDs K m H ds vs
  | [], [], _ => ⟨[], .nil, fun _ _ => .nil⟩
  | [], _ :: _, h => by simp [conAll] at h
  | _ :: _, [], h => by simp [conAll] at h
  | d :: ds, u :: us, h => by
    simp only [conAll, Bool.and_eq_true] at h
    obtain ⟨v, r1, q1⟩ := conB_ok d u h.1
    obtain ⟨vs, r2, q2⟩ := conAll_ok ds us h.2
    exact ⟨v :: vs, .cons r1 r2, fun m H => .cons (q1 m H) (q2 m H)⟩
end
/-- a module's name holds a constant -/
structure Con (K : PySem.W.Frag) (mg : Str → Option Value) (x : Str) (d : D) : Prop where
  ex : ∃ u v, mg x = some u ∧ RelV v u ∧ ∀ m H, RD K m H d v
theorem ex_con {X : Cx} {W : WX} {x : Str} {d : D} {pos : Pos} (c : Con X.K X.mg x d) (hg : Gl X x := by rfl) (hd : (x == ("__debug__" : Str)) = false := by decide) : Ex X W (.Name x pos) (eC d) := by
  obtain ⟨u, v, hm, r, rd⟩ := c.ex
  exact ex_glob hg hm r rd hd
/-- further facts of the top -/
inductive Fx where
  /-- a built-in function by a name of the module's -/
  | blt (x : Str) (id : String)
  /-- a constant -/
  | con (x : Str) (d : D)
def Fx.ok (K : PySem.W.Frag) : Fx → Bool
  | .blt x id => (match PySem.W.nsIn K mainGlobals x with
    | some (some (.builtin j)) => decide (j = id)
    | _ => false)
  | .con x d => (match PySem.W.nsIn K mainGlobals x with
    | some (some u) => conB K d u
    | _ => false)
section
variable {K : PySem.W.Frag} {h : Heap} {mg : Str → Option Value}
theorem blt_ok (X : K.In h) (G : h.Ns mainGlobals mg) {x : Str} {id : String} (c : (Fx.blt x id).ok K = true) : mg x = some (.builtin id) := by
  have c : (match PySem.W.nsIn K mainGlobals x with
    | some (some (.builtin j)) => decide (j = id)
    | _ => false) = true := c
  split at c
  · rename_i j e
    rw [PySem.W.mg_of X G e, of_decide_eq_true c]
  · cases c
theorem con_ok (X : K.In h) (G : h.Ns mainGlobals mg) {x : Str} {d : D} (c : (Fx.con x d).ok K = true) : Con K mg x d := by
  have c : (match PySem.W.nsIn K mainGlobals x with
    | some (some u) => conB K d u
    | _ => false) = true := c
  split at c
  · rename_i u e
    obtain ⟨v, r, q⟩ := conB_ok d u c
    exact ⟨u, v, PySem.W.mg_of X G e, r, q⟩
  · cases c
end
/-! ### the Hook -/
def obsM (fa : List He.Fa) (fx : List Fx) (fn : List He.DefD) (K : PySem.W.Frag) : He.AlD := (((fa.all fun f => f.ok K) && fx.all fun f => f.ok K) && fn.all fun d => d.ok K, fn.map fun d => He.fnW K d.at_)
def SaysM (fa : List He.Fa) (fx : List Fx) (fn : List He.DefD) (K : PySem.W.Frag) : Prop := obsM fa fx fn K = He.valD fn
def obsMG (n : Nat) (fa : List He.Fa) (fx : List Fx) (fn : List He.DefD) (g : Addr → Option Obj) : He.AlD := obsM fa fx fn (He.frG g (He.asD g n))
def hookM (n : Nat) (fa : List He.Fa) (fx : List Fx) (fn : List He.DefD) : PySem.W.Hook where
  α := He.AlD
  obs := fun s => obsMG n fa fx fn s.heap.get?
  val := fun _ => He.valD fn
  says := fun _ h => ∃ K : PySem.W.Frag, K.In h ∧ SaysM fa fx fn K
  of := fun _ _ e => ⟨_, He.frG_in, e⟩
  keeps := fun _ _ _ ⟨K, hK, c⟩ k => ⟨K, PySem.W.Frag.In.keeps hK k, c⟩
theorem obsMG_eq {n : Nat} {fa : List He.Fa} {fx : List Fx} {fn : List He.DefD} {g : Addr → Option Obj} {s : Shared} (h : ∀ a, g a = s.heap.get? a) : obsMG n fa fx fn g = (hookM n fa fx fn).obs s := by
  have e : g = s.heap.get? := funext h
  rw [e] <;> rfl
section
variable {fa : List He.Fa} {fx : List Fx} {fn : List He.DefD} {K : PySem.W.Frag}
theorem SaysM.fact (c : SaysM fa fx fn K) (i : Nat) {f : He.Fa} (h : fa[i]? = some f := by rfl) : f.ok K = true := by
  have c1 := (He.ba (He.ba (show (((fa.all fun f => f.ok K) && fx.all fun f => f.ok K) && fn.all fun d => d.ok K) = true from congrArg (fun z : He.AlD => z.1) c)).1).1
  exact List.all_eq_true.mp c1 f (List.mem_of_getElem? h)
theorem SaysM.more (c : SaysM fa fx fn K) (i : Nat) {f : Fx} (h : fx[i]? = some f := by rfl) : f.ok K = true := by
  have c1 := (He.ba (He.ba (show (((fa.all fun f => f.ok K) && fx.all fun f => f.ok K) && fn.all fun d => d.ok K) = true from congrArg (fun z : He.AlD => z.1) c)).1).2
  exact List.all_eq_true.mp c1 f (List.mem_of_getElem? h)
theorem SaysM.def_ (c : SaysM fa fx fn K) (i : Nat) {d : He.DefD} (h : fn[i]? = some d := by rfl) : ∃ fd, FunD K d.name d.qual d.params d.body d.scope (d.dvs K) (d.kws K) (He.fAd K d.at_) fd := by
  have c2 := (He.ba (show (((fa.all fun f => f.ok K) && fx.all fun f => f.ok K) && fn.all fun d => d.ok K) = true from congrArg (fun z : He.AlD => z.1) c)).2
  have e : fn.map (fun d => He.fnW K d.at_) = fn.map He.DefD.val := congrArg (fun z : He.AlD => z.2) c
  have e2 : (fn.map fun d => He.fnW K d.at_)[i]? = (fn.map He.DefD.val)[i]? := by rw [e]
  rw [List.getElem?_map, List.getElem?_map, h] at e2
  exact He.DefD.funD (Option.some.inj e2) (List.all_eq_true.mp c2 d (List.mem_of_getElem? h))
end
/-! ### the law's end -/
/-- where nothing may be let out -/
theorem FnM.shut {P : Program} {w : World} {K : PySem.W.Frag} {mg : Str → Option Value} {base : Heap} {k : Nat} {f : Addr} {fd : FuncData} {ps : List Str} {mf : FM} (F : FnM P w K mg base k f fd ps mf) :
    FnOk P w K mg base CX0 k f fd ps (fun vs H Q _ => spM ⟨K, w⟩ ps.length mf vs H Q fun _ _ _ => False) where
  len := fun vs H Q E h => F.len vs H Q _ h
  run := fun A outer s H args us vs Q E hr e0 hb hv h => by
    refine codeAny_mono (F.run A outer s H args us vs Q _ hr e0 hb hv h) fun r s' hq => ?_
    cases r with
    | error e =>
      obtain ⟨_, _, _, _, _, _, _, _, _, _, _, _, z⟩ := (hq : L2.CX P w outer H s (fun _ _ _ => False) e s')
      exact z.elim
    | ok fl => cases fl <;> exact hq
end HM

/-! HM, part 10: methods of lists and texts, in, slices, sums. -/
namespace HM
open PySem PySem.Spec PyProof.Rows L2
section
variable {X : Cx} {W : WX} {e o a b c : Expr} {es : List Expr} {pos p : Pos} {f fo fa fb : EM D} {fs : EM (List D)}
theorem _root_.L2.Room.units65 {k : Nat} {A : Around} (r : Room k A) : A.units + 65 < cLine := by have := r.un; omega
theorem below_line {n : Nat} (h : n < 16777216) : n < sizeLine := by
  rw [PySem.sizeLine_eq]
  exact h
/-! ### methods -/
abbrev MM := D → FM
def MethM (X : Cx) (id : String) (g : MM) : Prop :=
  ∃ r, MtR X id r ∧ ∀ (m : List Addr) (st : Store) (H : Hp) (d : D) (v : V) (ds : List D) (vs : List V) (E : XK) (Q : VK), SS X.kw m st H → RD X.K m H d v → RDs X.K m H ds vs → Pe X.kw E (RD X.K) m H (g d ds st) Q → r v vs H Q
def okT (T : String) (st : Store) (d : D) : Bool := match d with
  | .str _ => decide (T = "str")
  | .tup _ => decide (T = "tuple")
  | .rol _ => decide (T = "list")
  | .ref n => decide (T = "list") && (lstAt st n).isSome
  | _ => false
theorem okT_ty {K : KW} {m : List Addr} {st : Store} {H : Hp} {d : D} {v : V} {T : String} (s : SS K m st H) (h : okT T st d = true) (r : RD K m H d v) : tyP K T v H := by
  cases r with
  | str x =>
    have q : T = "str" := of_decide_eq_true h
    exact .inl q
  | tup q rs =>
    have q0 : T = "tuple" := of_decide_eq_true h
    rcases q with ⟨o, hd, q⟩ | ⟨o, its, n, q1, q2, q3, _⟩
    · exact .inr ⟨q0, _, o, _, rfl, q, hd⟩
    · exact .inl (.inr (.inl ⟨q0, o, q1, q2, q3⟩))
  | rol q rs => exact .inl (.inl ⟨of_decide_eq_true h, _, q.sq⟩)
  | ref q =>
    have h : (decide (T = "list") && (lstAt st _).isSome) = true := h
    rw [Bool.and_eq_true] at h
    obtain ⟨xs, e⟩ := Option.isSome_iff_exists.mp h.2
    obtain ⟨vs, h1, h2⟩ := s.list e q
    exact .inl (.inl ⟨of_decide_eq_true h.1, _, SqL.of h1⟩)
  | _ => cases h
def eM (T : String) (g : MM) (fo : EM D) (fs : EM (List D)) : EM D := fun τ st => (fo τ st).bind fun d s1 => if okT T s1 d then (fs τ s1).bind fun ds s2 => g d ds s2 else .bad
theorem ex_m {name : Str} {apos cpos : Pos} {T id : String} {g : MM} (pa : PlainAttrs T) (slot : Slot T name id) (hty : typeOf (.builtin id) = pure (.type "method_descriptor")) (hm : MethM X id g) (ho : Ex X W o fo) (ha : Ea X W (e :: es) fs)
    (hbase : attributeBase o name X.env (eval o X.env) = eval o X.env := by rfl)
    (hfew : ((backTo cpos (starEach (e :: es) X.env)).all (fun x => !x.1) && (backToKw cpos (keywordEach [] X.env)).all (fun x => x.1.isSome)
      && decide ((e :: es).length + ([] : List Keyword).length + (if ([] : List Keyword).isEmpty then 0 else 1) < 30)) = true := by rfl)
    (hline : (apos.endLine == cpos.line) = true := by rfl) (hs : starEach (e :: es) X.env = (false, eval e X.env) :: starEach es X.env := by rfl) (hplain : (backTo cpos (starEach es X.env)).any (·.1) = false := by rfl) :
    Ex X W (.Call (.Attribute o name apos) (e :: es) [] cpos) (eM T g fo fs) := by
  obtain ⟨r, hr, h⟩ := hm
  refine ⟨fun m τ st σ H Q hL hS hP pins s I => (pe_bmP pa slot hty hr peW paW hbase hfew hline hs hplain).run pins s σ H Q I ?_⟩
  refine ho.run m τ st σ H _ hL hS (hP.bind fun d s1 m1 H1 v e1 hS1 r1 hP1 => ?_)
  split at hP1
  · rename_i hk
    exact ⟨okT_ty hS1 hk r1, ha.run m1 τ s1 σ H1 _ (hL.mono e1) hS1 (hP1.bind fun ds s2 m2 H2 vs e2 hS2 r2 hP2 => h m2 s2 H2 d v ds vs _ Q hS2 (r1.mono e2) r2 hP2)⟩
  · exact hP1.elim
theorem ex_m0 {name : Str} {apos cpos : Pos} {T id : String} {g : MM} (pa : PlainAttrs T) (slot : Slot T name id) (hty : typeOf (.builtin id) = pure (.type "method_descriptor")) (hm : MethM X id g) (ho : Ex X W o fo)
    (hbase : attributeBase o name X.env (eval o X.env) = eval o X.env := by rfl) (hline : (apos.endLine == cpos.line) = true := by rfl) :
    Ex X W (.Call (.Attribute o name apos) [] [] cpos) (eM T g fo aNil) := by
  obtain ⟨r, hr, h⟩ := hm
  refine ⟨fun m τ st σ H Q hL hS hP pins s I => (pe_bm0P pa slot hty hr peW hbase hline).run pins s σ H Q I ?_⟩
  refine ho.run m τ st σ H _ hL hS (hP.bind fun d s1 m1 H1 v e1 hS1 r1 hP1 => ?_)
  split at hP1
  · rename_i hk
    exact ⟨okT_ty hS1 hk r1, h m1 s1 H1 d v [] [] _ Q hS1 r1 .nil hP1⟩
  · exact hP1.elim
def mAppend : MM := fun d ds st => match d, ds with
  | .ref n, [x] => match lstAt st n with
    | some xs => if xs.length < 16777216 then .ok .non (st.set n (.lst (xs ++ [x]))) else .bad
    | none => .bad
  | _, _ => .bad
theorem me_append : MethM X "list.append" mAppend := ⟨_, mt_append, fun m st H d v ds vs E Q hS r rs hP => by
  unfold mAppend at hP
  split at hP
  · split at hP
    · rename_i xs hx
      split at hP
      · rename_i hl
        cases r with
        | ref q =>
          obtain ⟨us, h1, h2⟩ := hS.list hx q
          obtain ⟨u, rfl, ru⟩ := rs.one
          exact ⟨_, us, u, rfl, rfl, h1, below_line (by rw [← h2.len]; exact hl), hP m _ _ (Ext.write h1 q) (hS.write h1 q (h2.append (.cons ru .nil))) .non⟩
      · exact hP.elim
    · exact hP.elim
  · exact hP.elim⟩
def mExtend : MM := fun d ds st => match d, ds with
  | .ref n, [.ref k] => match lstAt st n, lstAt st k with
    | some xs, some ys => if xs.length + ys.length ≤ 16777216 then .ok .non (st.set n (.lst (xs ++ ys))) else .bad
    | _, _ => .bad
  | _, _ => .bad
theorem me_extend : MethM X "list.extend" mExtend := ⟨_, mt_extend, fun m st H d v ds vs E Q hS r rs hP => by
  unfold mExtend at hP
  split at hP
  · split at hP
    · rename_i xs ys hx hy
      split at hP
      · rename_i hl
        obtain ⟨u, rfl, ru⟩ := rs.one
        cases r with
        | ref q =>
          cases ru with
          | ref q' =>
            obtain ⟨us, h1, h2⟩ := hS.list hx q
            obtain ⟨ws, h3, h4⟩ := hS.list hy q'
            exact ⟨_, _, us, ws, rfl, rfl, h1, h3, line_of (by rw [← h2.len, ← h4.len]; exact hl), hP m _ _ (Ext.write h1 q) (hS.write h1 q (h2.append h4)) .non⟩
      · exact hP.elim
    · exact hP.elim
  · exact hP.elim⟩
def mPop : MM := fun d ds st => match d, ds with
  | .ref n, [] => match lstAt st n with
    | some xs => match xs[xs.length - 1]? with
      | some y => .ok y (st.set n (.lst xs.dropLast))
      | none => .bad
    | none => .bad
  | _, _ => .bad
theorem me_pop : MethM X "list.pop" mPop := ⟨_, mt_pop, fun m st H d v ds vs E Q hS r rs hP => by
  unfold mPop at hP
  split at hP
  · split at hP
    · rename_i xs hx
      split at hP
      · rename_i y hy
        cases r with
        | ref q =>
          obtain ⟨us, h1, h2⟩ := hS.list hx q
          cases rs
          rw [h2.len] at hy
          obtain ⟨u, hu, ru⟩ := h2.get hy
          have e := Ext.write (K := X.K) (o := .lst us.dropLast) h1 q
          exact ⟨_, us, u, rfl, rfl, h1, hu, hP m _ _ e (hS.write h1 q h2.dropLast) (ru.mono e)⟩
      · exact hP.elim
    · exact hP.elim
  · exact hP.elim⟩
def okIx (i : Int) : Bool := decide (i.natAbs < 9223372036854775808)
theorem okIx_ok {i : Int} (h : okIx i = true) : -(2 ^ 63) ≤ i ∧ i < 2 ^ 63 := by
  have q : i.natAbs < 9223372036854775808 := of_decide_eq_true h
  have q' : -9223372036854775808 ≤ i ∧ i < 9223372036854775808 := by omega
  exact q'
def mPopAt : MM := fun d ds st => match d, ds with
  | .ref n, [.int i] => match lstAt st n with
    | some xs => match seqIndex? i xs.length with
      | some k => match xs[k]? with
        | some y => if okIx i then .ok y (st.set n (.lst (xs.eraseIdx k))) else .bad
        | none => .bad
      | none => .bad
    | none => .bad
  | _, _ => .bad
theorem me_popAt : MethM X "list.pop" mPopAt := ⟨_, mt_popAt, fun m st H d v ds vs E Q hS r rs hP => by
  unfold mPopAt at hP
  split at hP
  · split at hP
    · rename_i xs hx
      split at hP
      · rename_i k hk
        split at hP
        · rename_i y hy
          split at hP
          · rename_i hi
            obtain ⟨w, rfl, rw'⟩ := rs.one
            cases rw'
            cases r with
            | ref q =>
              obtain ⟨us, h1, h2⟩ := hS.list hx q
              obtain ⟨u, hu, ru⟩ := h2.get hy
              have e := Ext.write (K := X.K) (o := .lst (us.eraseIdx k)) h1 q
              exact ⟨_, us, _, k, u, rfl, rfl, h1, (okIx_ok hi).1, (okIx_ok hi).2, by rw [← h2.len]; exact hk, hu, hP m _ _ e (hS.write h1 q (h2.erase k)) (ru.mono e)⟩
          · exact hP.elim
        · exact hP.elim
      · exact hP.elim
    · exact hP.elim
  · exact hP.elim⟩
def mInsert : MM := fun d ds st => match d, ds with
  | .ref n, [.int i, y] => match lstAt st n with
    | some xs => if decide (0 ≤ i) && okIx i && decide (xs.length < 16777216) then .ok .non (st.set n (.lst (xs.take i.toNat ++ [y] ++ xs.drop i.toNat))) else .bad
    | none => .bad
  | _, _ => .bad
theorem me_insert : MethM X "list.insert" mInsert := ⟨_, mt_insert, fun m st H d v ds vs E Q hS r rs hP => by
  unfold mInsert at hP
  split at hP
  · split at hP
    · rename_i xs hx
      split at hP
      · rename_i hc
        simp only [Bool.and_eq_true, decide_eq_true_eq] at hc
        obtain ⟨w, u, rfl, rw', ru⟩ := rs.two
        cases rw'
        cases r with
        | ref q =>
          obtain ⟨us, h1, h2⟩ := hS.list hx q
          exact ⟨_, us, _, u, rfl, rfl, h1, below_line (by rw [← h2.len]; exact hc.2), hc.1.1, (okIx_ok hc.1.2).2, hP m _ _ (Ext.write h1 q) (hS.write h1 q (((h2.take _).append (.cons ru .nil)).append (h2.drop _))) .non⟩
      · exact hP.elim
    · exact hP.elim
  · exact hP.elim⟩
/-! ### in -/
def D.flat : D → Bool
  | .non => true
  | .bl _ => true
  | .int _ => true
  | .str _ => true
  | _ => false
def eqF : D → D → Bool
  | .non, .non => true
  | .bl a, .bl b => a == b
  | .bl a, .int b => (if a then 1 else 0) == b
  | .int a, .bl b => a == (if b then 1 else 0)
  | .int a, .int b => decide (a = b)
  | .str a, .str b => decide (a = b)
  | _, _ => false
theorem flat_V {K : PySem.W.Frag} {m : List Addr} {H : Hp} {d : D} {v : V} (r : RD K m H d v) (h : d.flat = true) : flatV v = true := by
  cases r <;> first | rfl | cases h
theorem flats_V {K : PySem.W.Frag} {m : List Addr} {H : Hp} : ∀ {ds : List D} {vs : List V}, RDs K m H ds vs → ds.all D.flat = true → vs.all flatV = true
  | [], _, .nil, _ => rfl
  | d :: ds, _, .cons r rs, h => by
    rw [List.all_cons, Bool.and_eq_true] at h ⊢
    exact ⟨flat_V r h.1, flats_V rs h.2⟩
theorem eqF_V {K : PySem.W.Frag} {m : List Addr} {H : Hp} {d e : D} {v u : V} (r : RD K m H d v) (r' : RD K m H e u) (h : d.flat = true) (h' : e.flat = true) : eqV v u = eqF d e := by
  cases r with
  | non => cases r' <;> first | rfl | cases h'
  | bl b => cases r' <;> first | rfl | cases h'
  | int i =>
    cases r' with
    | int j =>
      show (i == j) = decide (i = j)
      rw [Bool.eq_iff_iff]
      simp
    | _ => first | rfl | cases h'
  | str x =>
    cases r' with
    | str y =>
      show ((⟨x.toArray⟩ : Str) == (⟨y.toArray⟩ : Str)) = decide (x = y)
      rw [Bool.eq_iff_iff]
      simp
    | _ => first | rfl | cases h'
  | _ => cases h
theorem inV_D {K : PySem.W.Frag} {m : List Addr} {H : Hp} {d : D} {v : V} (r : RD K m H d v) (h : d.flat = true) : ∀ {ds : List D} {vs : List V}, RDs K m H ds vs → ds.all D.flat = true → inV v vs = ds.any fun y => eqF y d
  | [], _, .nil, _ => rfl
  | e :: ds, _, .cons r' rs, h' => by
    rw [List.all_cons, Bool.and_eq_true] at h'
    have := inV_D r h rs h'.2
    unfold inV at this ⊢
    rw [List.any_cons, List.any_cons, this, eqF_V r' r h'.1 h]
def rInT (K : PySem.W.Frag) (neg : Bool) : R2 := fun x y H Q => ∃ d ds, Dp K H x d ∧ Dp K H y (.tuple ds) ∧ SeqAt.shaped d = true ∧ SeqAt.shaped (.tuple ds) = true ∧ Q (.bl (if neg then !(ds.any fun z => PyData.eqv z d) else ds.any fun z => PyData.eqv z d)) H
theorem op_inT (hu : X.A.units + 65 < cLine) : OpR X (compareOp .In) (rInT X.K false) := by
  intro pins s σ H x y v u Q I rx ry h
  obtain ⟨d, ds, hd, he, sd, se, q⟩ := h
  obtain ⟨as, r1⟩ := Dp.reads I d x v hd rx
  obtain ⟨bs, r2⟩ := Dp.reads I (.tuple ds) y u he ry
  exact SeqAt.in_tuple_reads r2 r1 (SeqAt.canLay_of_shaped se) (SeqAt.canLay_of_shaped sd) (room_in_shaped sd hu) ⟨.bl _, H, I, rfl, q⟩
theorem op_notInT (hu : X.A.units + 65 < cLine) : OpR X (compareOp .NotIn) (rInT X.K true) := by
  intro pins s σ H x y v u Q I rx ry h
  obtain ⟨d, ds, hd, he, sd, se, q⟩ := h
  obtain ⟨as, r1⟩ := Dp.reads I d x v hd rx
  obtain ⟨bs, r2⟩ := Dp.reads I (.tuple ds) y u he ry
  exact SeqAt.notIn_tuple_reads r2 r1 (SeqAt.canLay_of_shaped se) (SeqAt.canLay_of_shaped sd) (room_in_shaped sd hu) ⟨.bl _, H, I, rfl, q⟩
/-- is it among flat ones, one sign in a text, among data of any depth -/
def dInS (x y : D) (st : Store) : Option Bool := match x, y with
  | .str [c], .str z => some (decide (c ∈ z))
  | x, y => match dSeq st y with
    | some ys => if x.flat && ys.all D.flat then some (ys.any fun y => eqF y x) else if x.plain 59 && ys.all (D.plain 59) then some (decide (x ∈ ys)) else none
    | none => none
def oInS : O2 := fun x y st => match dInS x y st with
  | some b => .ok (.bl b) st
  | none => .bad
def oNotInS : O2 := fun x y st => match dInS x y st with
  | some b => .ok (.bl !b) st
  | none => .bad
theorem any_plain {n : Nat} {x : D} (hx : x.plain n = true) : ∀ {ys : List D}, ys.all (D.plain n) = true → ((ys.map (D.toP n)).any fun z => PyData.eqv z (x.toP n)) = decide (x ∈ ys)
  | [], _ => by simp
  | y :: ys, h => by
    rw [List.all_cons, Bool.and_eq_true] at h
    rw [List.map_cons, List.any_cons, any_plain hx h.2, eqv_plain n y x h.1 hx]
    simp [List.mem_cons, eq_comm]
theorem m_inB {op : CmpOp} {neg : Bool} {r1 r2 r3 r4 : R2} (h1 : OpR X (compareOp op) r1) (h2 : OpR X (compareOp op) r2) (h3 : OpR X (compareOp op) r3) (h4 : OpR X (compareOp op) r4)
    (s1 : ∀ (c : Nat) (z : Str) H Q, Q (.bl (if neg then !decide (c ∈ z.cps.toList) else decide (c ∈ z.cps.toList))) H → r1 (.str ⟨#[c]⟩) (.str z) H Q)
    (s2 : ∀ x y H Q, rIn X.K neg x y H Q → r2 x y H Q)
    (s3 : ∀ x y H Q d ds, Dp X.K H x d → Dp X.K H y (.list ds) → SeqAt.shaped d = true → SeqAt.shaped (.list ds) = true → Q (.bl (if neg then !(ds.any fun z => PyData.eqv z d) else ds.any fun z => PyData.eqv z d)) H → r3 x y H Q)
    (s4 : ∀ x y H Q d ds, Dp X.K H x d → Dp X.K H y (.tuple ds) → SeqAt.shaped d = true → SeqAt.shaped (.tuple ds) = true → Q (.bl (if neg then !(ds.any fun z => PyData.eqv z d) else ds.any fun z => PyData.eqv z d)) H → r4 x y H Q) :
    OpM X W (compareOp op) (fun x y st => match dInS x y st with
    | some b => .ok (.bl (if neg then !b else b)) st
    | none => .bad) := opm_of ((h1.or h2).or (h3.or h4)) fun m st H dx dy x y E Q hS ra rb hP => by
  have fin : ∀ {q : PyData}, q.canLay0 = true → q.depth ≤ 60 → SeqAt.shaped q = true := fun {q} h1 h2 => by
    unfold SeqAt.shaped
    rw [h1, Bool.true_and, decide_eq_true_eq]
    omega
  split at hP
  · rename_i b hb
    unfold dInS at hb
    split at hb
    · cases hb
      cases ra
      cases rb
      exact .inl (.inl (s1 _ _ _ _ (hP.now hS (.bl _))))
    · split at hb
      · rename_i ys hy
        split at hb
        · rename_i hf
          cases hb
          rw [Bool.and_eq_true] at hf
          obtain ⟨p, vs, rfl, q, rs⟩ := dSeq_read hS hy rb
          refine .inl (.inr (s2 _ _ _ _ ⟨p, vs, rfl, q.imp id PlT.sq, flat_V ra hf.1, flats_V rs hf.2, ?_⟩))
          rw [inV_D ra hf.1 rs hf.2]
          exact hP.now hS (.bl _)
        · split at hb
          · rename_i hf
            cases hb
            rw [Bool.and_eq_true] at hf
            obtain ⟨p, vs, rfl, q, rs⟩ := dSeq_read hS hy rb
            obtain ⟨a1, a2, a3⟩ := plain_dp 59 dx x hf.1 ra
            obtain ⟨b1, b2, b3⟩ := plain_all (plain_dp 59) ys vs hf.2 rs
            have e := any_plain hf.1 hf.2
            rcases q with q | q
            · refine .inr (.inl (s3 _ _ _ _ _ _ a1 (.lst q b1) (fin a2 (by omega)) (fin (by simpa only [PyData.canLay0] using b2) (by simp only [PyData.depth]; omega)) ?_))
              rw [e]
              exact hP.now hS (.bl _)
            · refine .inr (.inr (s4 _ _ _ _ _ _ a1 (.tup q.sq b1) (fin a2 (by omega)) (fin (by simpa only [PyData.canLay0] using b2) (by simp only [PyData.depth]; omega)) ?_))
              rw [e]
              exact hP.now hS (.bl _)
          · cases hb
      · cases hb
  · exact hP.elim
theorem m_inS (hu : X.A.units + 65 < cLine) : OpM X W (compareOp .In) oInS := m_inB (neg := false) op_in_sign op_in_seq (op_inD hu) (op_inT hu)
  (fun c z H Q h => ⟨c, z, rfl, rfl, h⟩) (fun x y H Q h => h) (fun x y H Q d ds h1 h2 h3 h4 q => ⟨d, ds, h1, h2, h3, h4, q⟩) (fun x y H Q d ds h1 h2 h3 h4 q => ⟨d, ds, h1, h2, h3, h4, q⟩)
theorem m_notinS (hu : X.A.units + 65 < cLine) : OpM X W (compareOp .NotIn) oNotInS := m_inB (neg := true) op_notIn_sign op_notIn_seq (op_notInD hu) (op_notInT hu)
  (fun c z H Q h => ⟨c, z, rfl, rfl, h⟩) (fun x y H Q h => h) (fun x y H Q d ds h1 h2 h3 h4 q => ⟨d, ds, h1, h2, h3, h4, q⟩) (fun x y H Q d ds h1 h2 h3 h4 q => ⟨d, ds, h1, h2, h3, h4, q⟩)
end
end HM

/-! HM, part 11: slices, sums, all and any, join, texts repeated, lcm. -/
namespace HM
open PySem PySem.Spec PyProof.Rows L2
section
variable {prog : Program} {w : World} {A : Around} {E : Value → Shared → Prop} {s : Shared}
theorem get_whole {t sl : Addr} {items : Array Value} {vl vu : Value} {lo hi : Option Int} {Q : Value → Shared → Prop} (ht : IsTup s.heap t items) (hs : s.heap.IsSliceOf sl vl vu .none) (pl : IsPart vl lo) (pu : IsPart vu hi)
    (h1 : HT.sIx items.size 0 lo = 0) (h2 : HT.sIx items.size items.size hi = items.size) (q : Q (.ref t) s) : wpAny (model prog w) A (getItem (.ref t) (.ref sl)) Q E s := by
  obtain ⟨ob, o1, o2, o3⟩ := id hs
  unfold getItem
  try with_reducible refine wpAny_holding ?_
  try refine wpAny_bind (wpAny_pure ?_)
  refine wpAny_bind (wpAny_sequenceKey ht.typeIs (by decide) ?_)
  refine wpAny_bind (wpAny_callSpecial?_slot (name := Str.ofString "__getitem__") ht.typeIs PyProof.Rows.slot_tuple_getitem (wpAny_call_entry PyProof.Rows.slot_tuple_getitem ht.typeIs entry_tuple_getitem ?_ (args_tuple_getitem _ _)))
  show wpAny _ _ (Builtin.Tuple.tupleItemsOf (.ref t) >>= _) _ _ s
  refine wpAny_bind (tupleItemsOf_ ht (wpAny_bind (wpAny_typeOf (T := "slice") ⟨ob, o1, o2⟩ ?_)))
  rw [if_pos (by decide)]
  refine wpAny_bind (HT.sliceApplied_gen hs pl pu ?_)
  have yes : (((HT.sIx items.size 0 lo : Nat) : Int) == 0 && (1 : Int) == 1 && (HT.sIx items.size items.size hi - HT.sIx items.size 0 lo) == items.size) = true := by
    rw [h1, h2]
    simp
  show wpAny _ _ (if (((HT.sIx items.size 0 lo : Nat) : Int) == 0 && (1 : Int) == 1 && (HT.sIx items.size items.size hi - HT.sIx items.size 0 lo) == items.size) = true then _ else _) _ _ s
  rw [if_pos yes]
  unfold Builtin.Tuple.tupleIsExact
  refine wpAny_bind (wpAny_bind (wpAny_typeOf ht.typeIs ?_))
  refine wpAny_pure ?_
  rw [if_pos (by decide)]
  first
    | exact wpAny_pure ⟨_, rfl, wpAny_pure q⟩
    | exact wpAny_bind (wpAny_rule (wpAny_pure ⟨_, rfl, wpAny_pure q⟩))
end
section
variable {X : Cx}
/-- the whole of a tuple is the tuple -/
def rSlW (K : PySem.W.Frag) : V → Option Int → Option Int → Hp → VK → Prop := fun x lo hi H Q => ∃ a xs, x = .ref a ∧ SqT K H a xs ∧ HT.sIx xs.length 0 lo = 0 ∧ HT.sIx xs.length xs.length hi = xs.length ∧ Q (.ref a) H
theorem sl_whole : SlR X (rSlW X.K) := by
  intro pins s σ H x v vl vu lo hi sl Q I rx hs pl pu h
  obtain ⟨a, xs, rfl, hx, h1, h2, q⟩ := h
  cases rx
  obtain ⟨its, r, ht, hz⟩ := I.tuple hx
  have e : its.toArray.size = xs.length := by rw [List.size_toArray, ← r.length]
  exact ⟨"tuple", _, PyProof.Rows.slot_tuple_getitem.lookup, ht.typeIs, get_whole ht hs pl pu (by rw [e]; exact h1) (by rw [e]; exact h2) ⟨.ref a, H, I, rfl, q⟩⟩
end
section
variable {X : Cx} {W : WX} {e o a b c : Expr} {es : List Expr} {pos p p2 : Pos} {f fo fa fb : EM D} {fs : EM (List D)}
/-! ### slices -/
def cutD {α : Type} (xs : List α) (lo hi : Option Int) : List α := (xs.drop (HT.sIx xs.length 0 lo)).take (HT.sIx xs.length xs.length hi - HT.sIx xs.length 0 lo)
theorem RDs.cut {K : PySem.W.Frag} {m : List Addr} {H : Hp} {ds : List D} {vs : List V} (r : RDs K m H ds vs) (lo hi : Option Int) : RDs K m H (cutD ds lo hi) (cutV vs lo hi) := by
  unfold cutD cutV
  rw [r.len]
  exact (r.drop _).take _
/-- a part of a slice -/
structure Eo (X : Cx) (W : WX) (e : Option Expr) (f : EM (Option Int)) : Prop where
  run : ∃ t : TO, PO X e t ∧ ∀ (m : List Addr) (τ : Sl) (st : Store) (σ : L2.St) (H : Hp) (Q : Option Int → Hp → Prop), SL X.K m H τ σ → SS X.kw m st H → Pe X.kw (fun c d H' => W c d σ H') (fun _ _ a b => a = b) m H (f τ st) Q → t σ H Q
def oNone : EM (Option Int) := fun _ st => .ok none st
def oSome (f : EM D) : EM (Option Int) := fun τ st => (f τ st).bind fun d s1 => match d with
  | .int i => .ok (some i) s1
  | _ => .bad
theorem eo_none : Eo X W none oNone := ⟨_, po_none, fun m τ st σ H Q hL hS hP => hP.now hS rfl⟩
theorem eo_some (h : Ex X W e f) : Eo X W (some e) (oSome f) := ⟨_, po_some peW, fun m τ st σ H Q hL hS hP => h.run m τ st σ H _ hL hS (hP.bind fun d s1 m1 H1 v e1 hS1 r1 hP1 => by
  split at hP1
  · cases r1
    exact ⟨_, rfl, hP1.now hS1 rfl⟩
  · exact hP1.elim)⟩
def dCut (d : D) (lo hi : Option Int) (st : Store) : ER D := match d with
  | .str z => if z.length ≤ 16777216 then .ok (.str (cutD z lo hi)) st else .bad
  | .tup xs => .ok (.tup (cutD xs lo hi)) st
  | .rol xs => .ok (.ref st.length) (st ++ [.lst (cutD xs lo hi)])
  | .ref n => match lstAt st n with
    | some xs => .ok (.ref st.length) (st ++ [.lst (cutD xs lo hi)])
    | none => .bad
  | _ => .bad
def eSl (f : EM D) (fl fh : EM (Option Int)) : EM D := fun τ st => (f τ st).bind fun d s1 => (fl τ s1).bind fun l s2 => (fh τ s2).bind fun h s3 => dCut d l h s3
theorem sl_all : SlR X (fun x lo hi H Q => rSlL X.K x lo hi H Q ∨ (rSlF X.K x lo hi H Q ∨ rSlW X.K x lo hi H Q) ∨ rSlS x lo hi H Q) := sl_list.or ((sl_tupF.or sl_whole).or sl_str)
theorem cutS_D (z : List Nat) (lo hi : Option Int) : cutS ⟨z.toArray⟩ lo hi = ⟨(cutD z lo hi).toArray⟩ := by
  unfold cutS cutD
  simp [PySem.Str.length]
theorem ex_sl {lo hi : Option Expr} {fl fh : EM (Option Int)} (he : Ex X W e f) (hl : Eo X W lo fl) (hh : Eo X W hi fh) : Ex X W (.Subscript e (.Slice lo hi none p2) pos) (eSl f fl fh) := by
  obtain ⟨tl, pl, hl⟩ := hl
  obtain ⟨th, ph, hh⟩ := hh
  refine ⟨fun m τ st σ H Q hL hS hP pins s I => (pe_slice sl_all peW pl ph).run pins s σ H Q I ?_⟩
  refine he.run m τ st σ H _ hL hS (hP.bind fun d s1 m1 H1 v e1 hS1 r1 hP1 => ?_)
  refine hl m1 τ s1 σ H1 _ (hL.mono e1) hS1 (hP1.bind fun l s2 m2 H2 l' e2 hS2 r2 hP2 => ?_)
  subst r2
  refine hh m2 τ s2 σ H2 _ ((hL.mono e1).mono e2) hS2 (hP2.bind fun h s3 m3 H3 h' e3 hS3 r3 hP3 => ?_)
  subst r3
  have r1 := (r1.mono e2).mono e3
  unfold dCut at hP3
  split at hP3
  · split at hP3
    · rename_i hz
      cases r1
      refine .inr (.inr ⟨_, rfl, line_of (by simpa [PySem.Str.length] using hz), ?_⟩)
      rw [cutS_D]
      exact hP3.now hS3 (.str _)
    · exact hP3.elim
  · rename_i ds _
    cases r1 with
    | @tup a vs _ q rs =>
      by_cases hw : HT.sIx vs.length 0 l = 0 ∧ HT.sIx vs.length vs.length h = vs.length
      · refine .inr (.inl (.inr ⟨_, _, rfl, q.sq, hw.1, hw.2, hP3.now hS3 ?_⟩))
        have e : cutD ds l h = ds := by
          unfold cutD
          rw [rs.len, hw.1, hw.2, List.drop_zero, Nat.sub_zero, ← rs.len]
          exact List.take_length
        rw [e]
        exact .tup q rs
      · exact .inr (.inl (.inl ⟨_, _, rfl, q.sq, hw, hP3.tup hS3 (rs.cut _ _)⟩))
  · cases r1 with
    | rol q rs => exact .inl ⟨_, _, rfl, q.sq, hP3.lst hS3 (rs.cut _ _)⟩
  · split at hP3
    · rename_i xs hx
      cases r1 with
      | ref q =>
        obtain ⟨vs, h1, h2⟩ := hS3.list hx q
        exact .inl ⟨_, vs, rfl, SqL.of h1, hP3.lst hS3 (h2.cut _ _)⟩
    · exact hP3.elim
  · exact hP3.elim
/-! ### sums -/
def intsD : List D → Option (List Int)
  | [] => some []
  | .int i :: ds => (intsD ds).map (i :: ·)
  | _ => none
theorem intsD_V {K : PySem.W.Frag} {m : List Addr} {H : Hp} : ∀ {ds : List D} {vs : List V} {ns : List Int}, RDs K m H ds vs → intsD ds = some ns → vs = ns.map V.int
  | [], _, _, .nil, h => by
    cases h
    rfl
  | d :: ds, _, ns, .cons r rs, h => by
    unfold intsD at h
    split at h
    · rename_i e
      cases e
    · rename_i i ds' e
      cases e
      cases r
      cases hz : intsD ds with
      | none =>
        rw [hz] at h
        cases h
      | some ks =>
        rw [hz] at h
        cases h
        rw [intsD_V rs hz]
        rfl
    · cases h
theorem intsD_map : ∀ ns : List Int, intsD (ns.map D.int) = some ns
  | [] => rfl
  | n :: ns => by
    rw [List.map_cons, intsD, intsD_map ns]
    rfl
def rSumT (K : PySem.W.Frag) : List V → Hp → VK → Prop := fun vs H Q => ∃ (a : Addr) (ns : List Int), vs = [V.ref a] ∧ SqT K H a (ns.map V.int) ∧ Q (.int ns.sum) H
theorem cr_sumT (hc : X.calm = true) : CallR X (.builtin "sum") (rSumT X.K) := by
  intro pins s σ H vs us Q I r h
  obtain ⟨a, ns, rfl, hs, q⟩ := h
  obtain ⟨its, rv, hl, _⟩ := I.tuple hs
  rw [Vals.ref1 r]
  have hi := rv.ints
  obtain ⟨xs, e⟩ := hi.allInts.items
  have hn : numsOf (intItems xs).toList = ns := by rw [← e]; exact hi.numsOf
  rw [nums_intItems] at hn
  obtain ⟨ob, ho, hcl, n, hd⟩ := hl
  have ht : s.heap.IsTuple a (intItems xs) := by
    rw [← e]
    exact ⟨ob, ho, hcl, n, hd⟩
  refine PySem.W.ktm_sumG (I.ok.hd hc) ht fun h' tk t' hk => ⟨.int _, H, I.kept hk, ⟨_, rfl⟩, ?_⟩
  rw [preSum_eq, List.take_of_length_le (by simp), hn]
  exact q
def gSum : SM1 := fun xs st => match intsD xs with
  | some ns => .ok (.int ns.sum) st
  | none => .bad
theorem s_sum (hc : X.calm = true) : CallS X (.builtin "sum") gSum := ⟨_, (cr_sum hc).or (cr_sumT hc), fun m st H ds v E Q hS r hP => by
  obtain ⟨a, vs, rfl, q, rs⟩ := r
  unfold gSum at hP
  split at hP
  · rename_i ns hn
    have e := intsD_V rs hn
    subst e
    rcases q with q | q
    · exact .inl ⟨a, ns, rfl, q, hP.now hS (.int _)⟩
    · exact .inr ⟨a, ns, rfl, q.sq, hP.now hS (.int _)⟩
  · exact hP.elim⟩
/-! ### of lists alone -/
def SqVL (K : PySem.W.Frag) (m : List Addr) (H : Hp) (ds : List D) (v : V) : Prop := ∃ a vs, v = .ref a ∧ SqL K H a vs ∧ RDs K m H ds vs
structure Esl (X : Cx) (W : WX) (e : Expr) (f : EM (List D)) : Prop where
  run : ∀ (m : List Addr) (τ : Sl) (st : Store) (σ : L2.St) (H : Hp) (Q : VK), SL X.K m H τ σ → SS X.kw m st H → Pe X.kw (fun c d H' => W c d σ H') (SqVL X.K) m H (f τ st) Q → wE X e σ H Q
theorem esl_el {fl : EM (List D)} (h : El X W e fl) : Esl X W e fl := by
  refine ⟨fun m τ st σ H Q hL hS hP => h.run m τ st σ H Q hL hS ?_⟩
  cases hq : fl τ st with
  | ok ds s1 =>
    rw [hq] at hP
    intro m1 H1 v e1 hS1 ⟨a, vs, e, ha, na, hn, rs⟩
    exact hP m1 H1 v e1 hS1 ⟨a, vs, e, SqL.of ha, rs⟩
  | exc x st' =>
    rw [hq] at hP
    exact hP
  | bad =>
    rw [hq] at hP
    exact hP.elim
def dSeqL (st : Store) : D → Option (List D)
  | .rol xs => some xs
  | .ref n => lstAt st n
  | _ => none
def sExL (f : EM D) : EM (List D) := fun τ st => (f τ st).bind fun d s1 => match dSeqL s1 d with
  | some xs => .ok xs s1
  | none => .bad
theorem esl_ex (h : Ex X W e f) : Esl X W e (sExL f) := by
  refine ⟨fun m τ st σ H Q hL hS hP => h.run m τ st σ H Q hL hS (hP.bind fun d s1 m1 H1 v e1 hS1 r1 hP1 => ?_)⟩
  split at hP1
  · rename_i xs hx
    cases r1 with
    | rol q rs =>
      cases hx
      exact hP1.now hS1 ⟨_, _, rfl, q.sq, rs⟩
    | ref q =>
      obtain ⟨vs, h1, h2⟩ := hS1.list hx q
      exact hP1.now hS1 ⟨_, vs, rfl, SqL.of h1, h2⟩
    | _ => cases hx
  · exact hP1.elim
def CallL (X : Cx) (fv : Value) (g : SM1) : Prop :=
  ∃ r, CallR X fv r ∧ ∀ (m : List Addr) (st : Store) (H : Hp) (ds : List D) (v : V) (E : XK) (Q : VK), SS X.kw m st H → SqVL X.K m H ds v → Pe X.kw E (RD X.K) m H (g ds st) Q → r [v] H Q
theorem ex_callBl {x : Str} {id : String} {g : SM1} {fl : EM (List D)} (hc : CallL X (.builtin id) g) (hg : Gl X x) (hm : X.mg x = none) (hv : bootBuiltins x = some (.builtin id)) (ha : Esl X W e fl) (hn : x ≠ "__name__" := by decide) (hdb : (x == ("__debug__" : Str)) = false := by decide)
    (he : starEach [e] X.env = (false, eval e X.env) :: starEach [] X.env := by rfl) (hpl : (backTo pos (starEach [] X.env)).any (·.1) = false := by rfl) : Ex X W (.Call (.Name x p) [e] [] pos) (eCS g fl) := by
  obtain ⟨r, hr, h⟩ := hc
  refine ⟨fun m τ st σ H Q hL hS hP pins s I => (pe_callB hr hg hm hv (pa_cons peW pa_nil he) hn hdb he hpl).run pins s σ H Q I ?_⟩
  exact ha.run m τ st σ H _ hL hS (hP.bind fun ds s1 m1 H1 v e1 hS1 r1 hP1 => h m1 s1 H1 ds v _ Q hS1 r1 hP1)
def blsD : List D → Option (List Bool)
  | [] => some []
  | .bl i :: ds => (blsD ds).map (i :: ·)
  | _ => none
theorem blsD_V {K : PySem.W.Frag} {m : List Addr} {H : Hp} : ∀ {ds : List D} {vs : List V} {ns : List Bool}, RDs K m H ds vs → blsD ds = some ns → vs = ns.map V.bl
  | [], _, _, .nil, h => by
    cases h
    rfl
  | d :: ds, _, ns, .cons r rs, h => by
    unfold blsD at h
    split at h
    · rename_i e
      cases e
    · rename_i i ds' e
      cases e
      cases r
      cases hz : blsD ds with
      | none =>
        rw [hz] at h
        cases h
      | some ks =>
        rw [hz] at h
        cases h
        rw [blsD_V rs hz]
        rfl
    · cases h
theorem blsD_map : ∀ ns : List Bool, blsD (ns.map D.bl) = some ns
  | [] => rfl
  | n :: ns => by
    rw [List.map_cons, blsD, blsD_map ns]
    rfl
def gAllB : SM1 := fun xs st => match blsD xs with
  | some bs => .ok (.bl (bs.all id)) st
  | none => .bad
def gAnyB : SM1 := fun xs st => match blsD xs with
  | some bs => .ok (.bl (bs.any id)) st
  | none => .bad
theorem s_all (hc : X.calm = true) : CallL X (.builtin "all") gAllB := ⟨_, cr_all hc, fun m st H ds v E Q hS r hP => by
  obtain ⟨a, vs, rfl, q, rs⟩ := r
  unfold gAllB at hP
  split at hP
  · rename_i ns hn
    have e := blsD_V rs hn
    subst e
    exact ⟨a, ns, rfl, q, hP.now hS (.bl _)⟩
  · exact hP.elim⟩
theorem s_any (hc : X.calm = true) : CallL X (.builtin "any") gAnyB := ⟨_, cr_any hc, fun m st H ds v E Q hS r hP => by
  obtain ⟨a, vs, rfl, q, rs⟩ := r
  unfold gAnyB at hP
  split at hP
  · rename_i ns hn
    have e := blsD_V rs hn
    subst e
    exact ⟨a, ns, rfl, q, hP.now hS (.bl _)⟩
  · exact hP.elim⟩
def maxI : List Int → Option Int
  | [] => none
  | n :: ns => some (ns.foldl max n)
def minI : List Int → Option Int
  | [] => none
  | n :: ns => some (ns.foldl min n)
theorem foldl_max_ge : ∀ (ns : List Int) (n : Int), n ≤ ns.foldl max n ∧ (∀ y ∈ ns, y ≤ ns.foldl max n) ∧ (ns.foldl max n = n ∨ ns.foldl max n ∈ ns)
  | [], n => ⟨Int.le_refl _, by simp, .inl rfl⟩
  | k :: ns, n => by
    obtain ⟨h1, h2, h3⟩ := foldl_max_ge ns (max n k)
    rw [List.foldl_cons]
    refine ⟨Int.le_trans (Int.le_max_left n k) h1, fun y hy => ?_, ?_⟩
    · rcases List.mem_cons.mp hy with rfl | hy
      · exact Int.le_trans (Int.le_max_right n y) h1
      · exact h2 y hy
    · rcases h3 with h3 | h3
      · rw [h3]
        rcases Int.le_total n k with h | h
        · rw [Int.max_eq_right h]
          exact .inr (List.mem_cons_self ..)
        · rw [Int.max_eq_left h]
          exact .inl rfl
      · exact .inr (List.mem_cons_of_mem _ h3)
theorem foldl_min_le : ∀ (ns : List Int) (n : Int), ns.foldl min n ≤ n ∧ (∀ y ∈ ns, ns.foldl min n ≤ y) ∧ (ns.foldl min n = n ∨ ns.foldl min n ∈ ns)
  | [], n => ⟨Int.le_refl _, by simp, .inl rfl⟩
  | k :: ns, n => by
    obtain ⟨h1, h2, h3⟩ := foldl_min_le ns (min n k)
    rw [List.foldl_cons]
    refine ⟨Int.le_trans h1 (Int.min_le_left n k), fun y hy => ?_, ?_⟩
    · rcases List.mem_cons.mp hy with rfl | hy
      · exact Int.le_trans h1 (Int.min_le_right n y)
      · exact h2 y hy
    · rcases h3 with h3 | h3
      · rw [h3]
        rcases Int.le_total n k with h | h
        · rw [Int.min_eq_left h]
          exact .inl rfl
        · rw [Int.min_eq_right h]
          exact .inr (List.mem_cons_self ..)
      · exact .inr (List.mem_cons_of_mem _ h3)
def gMax : SM1 := fun xs st => match (intsD xs).bind maxI with
  | some n => .ok (.int n) st
  | none => .bad
def gMin : SM1 := fun xs st => match (intsD xs).bind minI with
  | some n => .ok (.int n) st
  | none => .bad
theorem s_max (hc : X.calm = true) : CallL X (.builtin "max") gMax := ⟨_, cr_max hc, fun m st H ds v E Q hS r hP => by
  obtain ⟨a, vs, rfl, q, rs⟩ := r
  unfold gMax at hP
  split at hP
  · rename_i k hk
    cases hn : intsD ds with
    | none =>
      rw [hn] at hk
      cases hk
    | some ns =>
      rw [hn] at hk
      have e := intsD_V rs hn
      subst e
      cases ns with
      | nil => cases hk
      | cons n ns =>
        have hk : some (ns.foldl max n) = some k := hk
        cases hk
        obtain ⟨h1, h2, h3⟩ := foldl_max_ge ns n
        refine ⟨a, n :: ns, rfl, q, by simp, fun mm hm hy => ?_⟩
        have e : mm = ns.foldl max n := by
          refine Int.le_antisymm ?_ ?_
          · rcases List.mem_cons.mp hm with rfl | hm
            · exact h1
            · exact h2 mm hm
          · rcases h3 with h3 | h3
            · rw [h3]
              exact hy n (List.mem_cons_self ..)
            · exact hy _ (List.mem_cons_of_mem _ h3)
        subst e
        exact hP.now hS (.int _)
  · exact hP.elim⟩
theorem s_min (hc : X.calm = true) : CallL X (.builtin "min") gMin := ⟨_, cr_min hc, fun m st H ds v E Q hS r hP => by
  obtain ⟨a, vs, rfl, q, rs⟩ := r
  unfold gMin at hP
  split at hP
  · rename_i k hk
    cases hn : intsD ds with
    | none =>
      rw [hn] at hk
      cases hk
    | some ns =>
      rw [hn] at hk
      have e := intsD_V rs hn
      subst e
      cases ns with
      | nil => cases hk
      | cons n ns =>
        have hk : some (ns.foldl min n) = some k := hk
        cases hk
        obtain ⟨h1, h2, h3⟩ := foldl_min_le ns n
        refine ⟨a, n :: ns, rfl, q, by simp, fun mm hm hy => ?_⟩
        have e : mm = ns.foldl min n := by
          refine Int.le_antisymm ?_ ?_
          · rcases h3 with h3 | h3
            · rw [h3]
              exact hy n (List.mem_cons_self ..)
            · exact hy _ (List.mem_cons_of_mem _ h3)
          · rcases List.mem_cons.mp hm with rfl | hm
            · exact h1
            · exact h2 mm hm
        subst e
        exact hP.now hS (.int _)
  · exact hP.elim⟩
/-! ### lcm -/
def rLcm : List V → Hp → VK → Prop := fun vs H Q => ∃ a b : Int, vs = [.int a, .int b] ∧ a.natAbs < 2 ^ 9000 ∧ b.natAbs < 2 ^ 9000 ∧ Q (.int ((Nat.lcm a.natAbs b.natAbs : Nat) : Int)) H
theorem log_of {n k : Nat} (h : n < 2 ^ k) (hk : 0 < k) : n.log2 < k := by
  by_cases z : n = 0
  · subst z
    rw [Nat.log2_zero]
    exact hk
  · exact (Nat.log2_lt z).mpr h
theorem cr_lcm : CallR X (.builtin "math.lcm") rLcm := by
  intro pins s σ H vs us Q I r h
  obtain ⟨a, b, rfl, h1, h2, q⟩ := h
  obtain ⟨t, u, rfl⟩ := Vals.int2 r
  have h0 : (1 : Nat) < 2 ^ 9000 := Nat.one_lt_two_pow (by decide)
  have l1 : (max 1 a.natAbs).log2 < 9000 := log_of (Nat.max_lt.mpr ⟨h0, h1⟩) (by decide)
  have l2 : (max a.natAbs b.natAbs).log2 < 9000 := log_of (Nat.max_lt.mpr ⟨h1, h2⟩) (by decide)
  have l3 : ((((Nat.lcm 1 a.natAbs).lcm b.natAbs : Nat) : Int)).natAbs.log2 < bitsLine := by
    rw [Int.natAbs_natCast, PySem.W.mc_lcm_one]
    have := PySem.W.mc_lcm_le a.natAbs b.natAbs
    have h3 : a.natAbs * b.natAbs < 2 ^ 18000 := by
      rw [show (18000 : Nat) = 9000 + 9000 from rfl, Nat.pow_add]
      exact Nat.mul_lt_mul'' h1 h2
    exact Nat.lt_trans (log_of (Nat.lt_of_le_of_lt this h3) (by decide)) (by decide)
  have g := (PySem.W.mg_run_lcm a t b u (by omega) (by omega) l3).meets
  refine PySem.call_function_meets PySem.W.MGF.kind_lcm PySem.W.MGF.plain_lcm PySem.W.MGF.entry_lcm (PySem.W.MGF.args_lcm _ _) g ?_
  rw [PySem.W.mc_lcm_one]
  exact ⟨.int _, H, I.tok _, ⟨_, rfl⟩, q⟩
def fLcm : FM := fun ds st => match ds with
  | [.int i, .int j] => if decide (i.natAbs < 2 ^ 9000) && decide (j.natAbs < 2 ^ 9000) then .ok (.int (Nat.lcm i.natAbs j.natAbs : Nat)) st else .bad
  | _ => .bad
theorem c_lcm : CallM X (.builtin "math.lcm") fLcm := ⟨_, cr_lcm, fun m st H ds vs E Q hS r hP => by
  unfold fLcm at hP
  split at hP
  · split at hP
    · rename_i hc
      rw [Bool.and_eq_true, decide_eq_true_eq, decide_eq_true_eq] at hc
      obtain ⟨v, u, rfl, r1, r2⟩ := r.two
      cases r1
      cases r2
      exact ⟨_, _, rfl, hc.1, hc.2, hP.now hS (.int _)⟩
    · exact hP.elim
  · exact hP.elim⟩
/-! ### texts: join, repeated -/
def strsD : List D → Option (List (List Nat))
  | [] => some []
  | .str x :: ds => (strsD ds).map (x :: ·)
  | _ => none
theorem strsD_V {K : PySem.W.Frag} {m : List Addr} {H : Hp} : ∀ {ds : List D} {vs : List V} {ns : List (List Nat)}, RDs K m H ds vs → strsD ds = some ns → vs = (ns.map fun x => (⟨x.toArray⟩ : Str)).map V.str
  | [], _, _, .nil, h => by
    cases h
    rfl
  | d :: ds, _, ns, .cons r rs, h => by
    unfold strsD at h
    split at h
    · rename_i e
      cases e
    · rename_i i ds' e
      cases e
      cases r
      cases hz : strsD ds with
      | none =>
        rw [hz] at h
        cases h
      | some ks =>
        rw [hz] at h
        cases h
        rw [strsD_V rs hz]
        rfl
    · cases h
theorem strsD_map : ∀ ns : List (List Nat), strsD (ns.map D.str) = some ns
  | [] => rfl
  | n :: ns => by
    rw [List.map_cons, strsD, strsD_map ns]
    rfl
end
end HM

/-! HM, part 12: texts joined, things repeated. -/
namespace HM
open PySem PySem.Spec PyProof.Rows L2 SX
section
variable {X : Cx} {W : WX} {e o a b c : Expr} {es : List Expr} {pos p p2 : Pos} {f fo fa fb : EM D} {fs : EM (List D)}
def joinD (a : List Nat) : List (List Nat) → List Nat
  | [] => []
  | [p] => p
  | p :: q :: r => p ++ (a ++ joinD a (q :: r))
theorem joinD_eq (a : List Nat) : ∀ ys : List (List Nat), TL.joinL a ys = joinD a ys
  | [] => rfl
  | [_] => rfl
  | p :: q :: r => by
    show p ++ (a ++ TL.joinL a (q :: r)) = p ++ (a ++ joinD a (q :: r))
    rw [joinD_eq a (q :: r)]
def mJoin : MM := fun d ds st => match d, ds with
  | .str a, [y] => match (dSeq st y).bind strsD with
    | some ys => if (ys.map List.length).sum + ys.length * a.length ≤ 16777216 then .ok (.str (joinD a ys)) st else .bad
    | none => .bad
  | _, _ => .bad
theorem me_join : MethM X "str.join" mJoin := ⟨_, mt_join, fun m st H d v ds vs E Q hS r rs hP => by
  unfold mJoin at hP
  split at hP
  · rename_i a y
    split at hP
    · rename_i ys hy
      split at hP
      · rename_i hl
        cases hq : dSeq st y with
        | none =>
          rw [hq] at hy
          cases hy
        | some zs =>
          rw [hq] at hy
          obtain ⟨u, rfl, ru⟩ := rs.one
          cases r
          obtain ⟨p, us, rfl, q, rs'⟩ := dSeq_read hS hq ru
          have e := strsD_V rs' hy
          subst e
          refine ⟨⟨a.toArray⟩, p, ys.map S, rfl, rfl, q.imp id PlT.sq, ?_, ?_⟩
          · rw [List.map_map, List.length_map]
            have e : (ys.map ((fun x : Str => x.length) ∘ S)) = ys.map List.length := List.map_congr_left fun x _ => S_len x
            rw [e]
            have e2 : (⟨a.toArray⟩ : Str).length = a.length := S_len a
            rw [e2]
            exact hl
          · have e := join_S a ys
            rw [joinD_eq] at e
            rw [e]
            exact hP.now hS (.str _)
      · exact hP.elim
    · exact hP.elim
  · exact hP.elim⟩
/-! ### * -/
def repD {α : Type} (k : Nat) (xs : List α) : List α := (List.replicate k xs).flatten
theorem foldl_app (x : Array Nat) : ∀ (k : Nat) (acc : Array Nat), (List.replicate k x).foldl (· ++ ·) acc = acc ++ ((List.replicate k x.toList).flatten).toArray
  | 0, acc => by simp
  | k + 1, acc => by
    rw [List.replicate_succ, List.foldl_cons, foldl_app x k, List.replicate_succ, List.flatten_cons]
    apply Array.ext'
    simp
theorem repD_len {α : Type} (k : Nat) (xs : List α) : (repD k xs).length = xs.length * k := by
  unfold repD
  induction k with
  | zero => simp
  | succ k ih =>
    rw [List.replicate_succ, List.flatten_cons, List.length_append, ih, Nat.mul_succ, Nat.add_comm]
theorem op_repS : OpR X (binaryOp .Mult) (fun x y H Q => ∃ (z : List Nat) (k : Int), x = .str (S z) ∧ y = .int k ∧ 2 ≤ k ∧ k ≤ 16777216 ∧ z.length * k.toNat ≤ 16777216 ∧ Q (.str (S (repD k.toNat z))) H) := by
  intro pins s σ H x y v u Q I rx ry h
  obtain ⟨z, k, rfl, rfl, h2, hz, hl, q⟩ := h
  obtain ⟨t, rfl⟩ := rx
  obtain ⟨t', rfl⟩ := ry
  have e1 : (S z).length = z.length := S_len z
  refine PySem.P.mul_str ?_ (fun _ h0 => ?_) (fun _ _ => ?_) ?_
  · have a1 : ¬ k < -(2 ^ 63 : Int) := by omega
    have a2 : ¬ k ≥ 2 ^ 63 := by
      have : (16777216 : Int) < 2 ^ 63 := by decide
      omega
    rw [decide_eq_false a1, decide_eq_false a2]
    rfl
  · rw [e1]
    have h3 : z.length ≤ 16777216 := by
      have : z.length * 1 ≤ z.length * k.toNat := Nat.mul_le_mul_left _ (by omega)
      omega
    have h4 : (16777216 : Int) ≤ (2 ^ 63 - 1) / k := by
      refine (Int.le_ediv_iff_mul_le (by omega)).mpr ?_
      have : (16777216 : Int) * k ≤ 16777216 * 16777216 := Int.mul_le_mul_of_nonneg_left (by omega) (by decide)
      have : (16777216 : Int) * 16777216 ≤ 2 ^ 63 - 1 := by decide
      omega
    omega
  · rw [e1]
    show decide (z.length * k.toNat > 2 ^ 24) = false
    exact decide_eq_false (by
      have : (2 : Nat) ^ 24 = 16777216 := rfl
      omega)
  · have n1 : ¬ k < 1 := by omega
    rw [if_neg n1]
    have a1 : (k == 1) = false := beq_false_of_ne (by omega)
    rw [a1, e1, Bool.false_or]
    by_cases h0 : z = []
    · subst h0
      have e : (S (repD k.toNat ([] : List Nat))) = S [] := by
        have := repD_len k.toNat ([] : List Nat)
        rw [List.length_nil, Nat.zero_mul] at this
        rw [List.length_eq_zero_iff.mp this]
      rw [e] at q
      rw [if_pos (show (([] : List Nat).length == 0) = true from rfl)]
      exact ⟨.str _, H, I, ⟨_, rfl⟩, q⟩
    · have zl : 0 < z.length := List.length_pos_iff.mpr h0
      have a2 : (z.length == 0) = false := beq_false_of_ne (by omega)
      rw [a2, if_neg Bool.false_ne_true]
      have e : (⟨(List.replicate k.toNat (S z).cps).foldl (· ++ ·) #[]⟩ : Str) = S (repD k.toNat z) := by
        rw [foldl_app]
        simp [repD]
      rw [e]
      refine ⟨?_, .str _, H, I.tok _, ⟨_, rfl⟩, q⟩
      rw [S_len, repD_len, PySem.sizeLine_eq]
      exact hl
def oMul : O2 := fun x y st => match x, y with
  | .int i, .int j => if okMul i j then .ok (.int (i * j)) st else .bad
  | .str z, .int k => if decide (2 ≤ k) && decide (k ≤ 16777216) && decide (z.length * k.toNat ≤ 16777216) then .ok (.str (repD k.toNat z)) st else .bad
  | .ref n, .int k => match lstAt st n with
    | some xs => if okIx k && decide (xs.length * k.toNat ≤ 16777216) then .ok (.ref st.length) (st ++ [.lst (repD k.toNat xs)]) else .bad
    | none => .bad
  | .tup xs, .int k => if decide (2 ≤ k) && decide (k ≤ 1000) && !xs.isEmpty && decide (xs.length ≤ 1000) then .ok (.tup (repD k.toNat xs)) st else .bad
  | _, _ => .bad
theorem RDs.rep {K : PySem.W.Frag} {m : List Addr} {H : Hp} {ds : List D} {vs : List V} (r : RDs K m H ds vs) : ∀ k : Nat, RDs K m H (repD k ds) (repD k vs)
  | 0 => .nil
  | k + 1 => by
    have := RDs.rep r k
    unfold repD at this ⊢
    rw [List.replicate_succ, List.replicate_succ, List.flatten_cons, List.flatten_cons]
    exact r.append this
theorem op_mulAll : OpR X (binaryOp .Mult) (fun x y H Q => ((rI IntMulOk fun i j => .int (i * j)) x y H Q ∨ (∃ (z : List Nat) (k : Int), x = .str (S z) ∧ y = .int k ∧ 2 ≤ k ∧ k ≤ 16777216 ∧ z.length * k.toNat ≤ 16777216 ∧ Q (.str (S (repD k.toNat z))) H)) ∨ (rRep x y H Q ∨ rRepF X.K x y H Q)) :=
  (op_mulAny.or op_repS).or (op_rep.or op_repF)
theorem m_mul : OpM X W (binaryOp .Mult) oMul := opm_of op_mulAll fun m st H dx dy x y E Q hS r1 r2 hP => by
  unfold oMul at hP
  split at hP
  · rename_i i j
    split at hP
    · rename_i hc
      cases r1
      cases r2
      have q : (i.natAbs < 18446744073709551616 ∨ j.natAbs < 18446744073709551616) ∨ i.natAbs.log2 + j.natAbs.log2 < 1000000 := of_decide_eq_true hc
      refine .inl (.inl ⟨_, _, rfl, rfl, ?_, hP.now hS (.int _)⟩)
      rcases q with (q | q) | q
      · exact CMul.ok (.inl (by omega))
      · exact CMul.ok (.inr (by omega))
      · exact CMulW.ok q
    · exact hP.elim
  · split at hP
    · rename_i hc
      simp only [Bool.and_eq_true, decide_eq_true_eq] at hc
      cases r1
      cases r2
      exact .inl (.inr ⟨_, _, rfl, rfl, hc.1.1, hc.1.2, hc.2, hP.now hS (.str _)⟩)
    · exact hP.elim
  · split at hP
    · rename_i xs hx
      split at hP
      · rename_i hc
        rw [Bool.and_eq_true, decide_eq_true_eq] at hc
        cases r1 with
        | ref q =>
          cases r2
          obtain ⟨vs, h1, h2⟩ := hS.list hx q
          exact .inr (.inl ⟨_, _, vs, rfl, rfl, h1, (okIx_ok hc.1).1, (okIx_ok hc.1).2, line_of (by rw [← h2.len]; exact hc.2), hP.lst hS (h2.rep _)⟩)
      · exact hP.elim
    · exact hP.elim
  · split at hP
    · rename_i hc
      simp only [Bool.and_eq_true, decide_eq_true_eq, Bool.not_eq_true', List.isEmpty_eq_false_iff] at hc
      cases r1 with
      | tup q rs =>
        cases r2
        refine .inr (.inr ⟨_, _, _, rfl, rfl, q.sq, fun e => hc.1.2 ?_, hc.1.1.1, hc.1.1.2, by rw [← rs.len]; exact hc.2, hP.tup hS (rs.rep _)⟩)
        subst e
        cases rs
        rfl
    · exact hP.elim
  · exact hP.elim
end
end HM

/-! HM: calls of defs with keywords. -/
namespace HM
open PySem PySem.Spec PyProof.Rows L2
section
variable {X : Cx} {W : WX} {e a b c : Expr} {es rest : List Expr} {pos p : Pos} {f fa fb fc : EM D} {fs fk : EM (List D)} {kws : List Keyword}
def wK (X : Cx) (kws : List Keyword) : TA := fun σ H Q => ∀ (pos : Pos) (pins : List (Addr × Obj)) (s : Shared), Inv X pins σ H s → wpAny (model X.prog X.w) X.A (evalAll ((backToKw pos (keywordEach kws X.env)).map (·.2))) (AP X pins σ Q) X.xe s
theorem pkW {X : Cx} {kws : List Keyword} : PK X kws (wK X kws) := ⟨fun pos pins s σ H Q I h => h pos pins s I⟩
/-- the values of keywords -/
structure Ek (X : Cx) (W : WX) (kws : List Keyword) (f : EM (List D)) : Prop where
  run : ∀ (m : List Addr) (τ : Sl) (st : Store) (σ : L2.St) (H : Hp) (Q : List V → Hp → Prop), SL X.K m H τ σ → SS X.kw m st H → Pe X.kw (fun c d H' => W c d σ H') (RDs X.K) m H (f τ st) Q → wK X kws σ H Q
theorem ek_nil : Ek X W [] aNil := ⟨fun m τ st σ H Q hL hS hP pos pins s I => pk_nil.run pos pins s σ H Q I (hP.now hS .nil)⟩
theorem ek_cons {nm : Option Str} {kpos : Pos} (ha : Ex X W e f) (hr : Ek X W kws fs) : Ek X W (⟨nm, e, kpos⟩ :: kws) (aCons f fs) := by
  refine ⟨fun m τ st σ H Q hL hS hP pos pins s I => (pk_cons peW pkW).run pos pins s σ H Q I ?_⟩
  refine ha.run m τ st σ H _ hL hS (hP.bind fun dx s1 m1 H1 x e1 hS1 r1 hP1 => ?_)
  exact hr.run m1 τ s1 σ H1 _ (hL.mono e1) hS1 (hP1.bind fun ds s2 m2 H2 xs e2 hS2 r2 hP2 => hP2.now hS2 (.cons (r1.mono e2) r2))
/-- those at the places -/
def arr {α : Type} (is : List Nat) (l : List α) : List α := is.filterMap (fun i => l[i]?)
theorem Vals.arr {xs : List V} {us : List Value} (r : Vals xs us) : ∀ is : List Nat, Vals (arr is xs) (arr is us)
  | [] => .nil
  | i :: is => by
    have ih := Vals.arr r is
    unfold HM.arr at ih ⊢
    rw [List.filterMap_cons, List.filterMap_cons]
    cases h : xs[i]? with
    | none => rw [r.none_of h]; exact ih
    | some x =>
      obtain ⟨u, h1, h2⟩ := r.get h
      rw [h1]
      exact .cons h2 ih
theorem RDs.arr {K : PySem.W.Frag} {m : List Addr} {H : Hp} {ds : List D} {vs : List V} (r : RDs K m H ds vs) : ∀ is : List Nat, RDs K m H (arr is ds) (arr is vs)
  | [] => .nil
  | i :: is => by
    have ih := RDs.arr r is
    unfold HM.arr at ih ⊢
    rw [List.filterMap_cons, List.filterMap_cons]
    cases h : ds[i]? with
    | none =>
      have : vs[i]? = none := by
        rw [List.getElem?_eq_none_iff] at h ⊢
        rw [← r.len]; exact h
      rw [this]; exact ih
    | some x =>
      obtain ⟨u, h1, h2⟩ := r.get h
      rw [h1]
      exact .cons h2 ih
def eCallK (n k np : Nat) (is : List Nat) (mf : FM) (fs fk : EM (List D)) : EM D := fun τ st => (fs τ st).bind fun ds s1 => (fk τ s1).bind fun es s2 => if ds.length = n ∧ es.length = k ∧ (arr is (ds ++ es)).length = np then mf (arr is (ds ++ es)) s2 else .bad
theorem ex_ck {P : Program} {w : World} {K : PySem.W.Frag} {mg : Str → Option Value} {base : Heap} {A : Around} {j k n : Nat} {ps ks : List Str} {is : List Nat} {mf : FM} {x : Str} {st : Stmt} {fa : Addr} {fd : FuncData} (c : Cal P w K mg base x j ps mf) (F : FnP K x st fa fd) (gx : mg x = some (.ref fa))
    (bn : ∀ (kV doc pm : Value) (an : Option Addr) (cdv ct : Value) (us ws : List Value), us.length = n → ws.length = ks.length → bindArgs (PySem.W.fnOf x x (defArgs st) (defBody st) (defScope st) .none kV doc pm an cdv ct) ⟨us, ks.zip ws⟩ = pure (ps.zip (arr is (us ++ ws))))
    (tk : Takes X W) (hr : Room k A) (hj : j ≤ k) (ha : Ea X W (e :: es) fs) (hkw : Ek X W kws fk)
    (hall : (backToKw pos (keywordEach kws X.env)).all (·.1.isSome) = true := by rfl) (hks : (backToKw pos (keywordEach kws X.env)).filterMap (·.1) = ks := by rfl)
    (hpl : ((backTo pos (starEach (e :: es) X.env)).any (·.1) || (backToKw pos (keywordEach kws X.env)).any (·.1.isNone)) = false := by rfl)
    (h1 : X.prog = P := by rfl) (h2 : X.w = w := by rfl) (h3 : X.K = K := by rfl) (h4 : X.mg = mg := by rfl) (h5 : X.base = base := by rfl) (h6 : X.A = A := by rfl) (hg : Gl X x := by rfl) (hdb : (x == ("__debug__" : Str)) = false := by decide) (he : starEach (e :: es) X.env = (false, eval e X.env) :: starEach es X.env := by rfl) :
    Ex X W (.Call (.Name x p) (e :: es) kws pos) (eCallK n ks.length ps.length is mf fs fk) := by
  subst h1 h2 h3 h4 h5 h6
  obtain ⟨f, fd', G, hm, hk, hb, oc, od, osl, lk⟩ := c.ex
  have e1 : f = fa := by
    rw [hm] at gx
    exact Value.ref.inj (Option.some.inj gx)
  subst e1
  obtain ⟨oc2, od2, dV, kV, doc, pm, an, cdv, ct, osl2, e2, lk2, hcd, hD, hK⟩ := F.ex
  rw [lk] at lk2
  have e3 : fd' = fd := by
    have := Option.some.inj lk2
    injection this with _ _ q _
    injection q
  subst e3
  have hdV : dV = .none := by
    rcases hD with ⟨_, q⟩ | ⟨q, _⟩
    · exact q
    · exact absurd rfl q
  have kb : KBn X.K fd' ps n ks (fun us ws => HM.arr is (us ++ ws)) (fun vs zs => HM.arr is (vs ++ zs)) :=
    ⟨fun s us ws _ l1 l2 => .of_eq (by rw [e2, hdV]; exact bn kV doc pm an cdv ct us ws l1 l2), fun r1 r2 => HM.Vals.arr (r1.append r2) is⟩
  refine ⟨fun m τ st σ H Q hL hS hP pins s I => ?_⟩
  refine wpAny_Call_Name_kw (ld_glob I hg hm ?_ hdb)
  have q : wA X (e :: es) σ H fun vs H1 => wK X kws σ H1 fun zs H2 => vs.length = n ∧ zs.length = ks.length ∧ spM X.kw ps.length mf (HM.arr is (vs ++ zs)) H2 Q (WE W σ) :=
    ha.run m τ st σ H _ hL hS (hP.bind fun ds s1 m1 H1 vs e1 hS1 r1 hP1 => hkw.run m1 τ s1 σ H1 _ (hL.mono e1) hS1 (hP1.bind fun es s2 m2 H2 xs e2 hS2 r2 hP2 => by
      split at hP2
      · rename_i hl
        exact ⟨by rw [← r1.len]; exact hl.1, by rw [← r2.len]; exact hl.2.1, m2, s2, _, hl.2.2, hS2, RDs.arr ((r1.mono e2).append r2) is, hP2⟩
      · exact hP2.elim))
  refine PySem.W.callWith_KW (h₀ := X.base) I.ok.mod.kin hk hall (thn (q pos pins s I) fun us s1 ⟨vs, H1, I1, r, q1⟩ => ?_) hpl he
  refine thn (q1 pos pins s1 I1) fun ws s2 ⟨zs, H2, I2, rz, l1, l2, q2⟩ => ⟨I2.kIn, ?_⟩
  rw [hks]
  have r2 := kb.rel r rz
  refine wpAny_call (codeAny_mono (G.run X.A X.stack s2 H2 ⟨us, ks.zip ws⟩ _ _ Q (WE W σ) (hr.mono hj) I2.env0 (kb.to s2 us ws I2.kIn (r.length.symm.trans l1) (rz.length.symm.trans l2)) r2 q2) fun r s' hq => ?_)
  cases r with
  | error e => exact passAt tk σ pins H2 s2 e s' I2 hq
  | ok fl =>
    cases fl with
    | ret u => exact I2.after hq
    | next => exact False.elim hq
    | brk => exact False.elim hq
    | cont => exact False.elim hq
theorem ex_ck0 {P : Program} {w : World} {K : PySem.W.Frag} {mg : Str → Option Value} {base : Heap} {A : Around} {j k : Nat} {ps ks : List Str} {is : List Nat} {mf : FM} {x : Str} {st : Stmt} {fa : Addr} {fd : FuncData} (c : Cal P w K mg base x j ps mf) (F : FnP K x st fa fd) (gx : mg x = some (.ref fa))
    (bn : ∀ (kV doc pm : Value) (an : Option Addr) (cdv ct : Value) (us ws : List Value), us.length = 0 → ws.length = ks.length → bindArgs (PySem.W.fnOf x x (defArgs st) (defBody st) (defScope st) .none kV doc pm an cdv ct) ⟨us, ks.zip ws⟩ = pure (ps.zip (arr is (us ++ ws))))
    (tk : Takes X W) (hr : Room k A) (hj : j ≤ k) (hkw : Ek X W kws fk)
    (hall : (backToKw pos (keywordEach kws X.env)).all (·.1.isSome) = true := by rfl) (hks : (backToKw pos (keywordEach kws X.env)).filterMap (·.1) = ks := by rfl)
    (hpl : ((backTo pos (starEach [] X.env)).any (·.1) || (backToKw pos (keywordEach kws X.env)).any (·.1.isNone)) = false := by rfl)
    (h1 : X.prog = P := by rfl) (h2 : X.w = w := by rfl) (h3 : X.K = K := by rfl) (h4 : X.mg = mg := by rfl) (h5 : X.base = base := by rfl) (h6 : X.A = A := by rfl) (hg : Gl X x := by rfl) (hdb : (x == ("__debug__" : Str)) = false := by decide) :
    Ex X W (.Call (.Name x p) [] kws pos) (eCallK 0 ks.length ps.length is mf aNil fk) := by
  subst h1 h2 h3 h4 h5 h6
  obtain ⟨f, fd', G, hm, hk, hb, oc, od, osl, lk⟩ := c.ex
  have e1 : f = fa := by
    rw [hm] at gx
    exact Value.ref.inj (Option.some.inj gx)
  subst e1
  obtain ⟨oc2, od2, dV, kV, doc, pm, an, cdv, ct, osl2, e2, lk2, hcd, hD, hK⟩ := F.ex
  rw [lk] at lk2
  have e3 : fd' = fd := by
    have := Option.some.inj lk2
    injection this with _ _ q _
    injection q
  subst e3
  have hdV : dV = .none := by
    rcases hD with ⟨_, q⟩ | ⟨q, _⟩
    · exact q
    · exact absurd rfl q
  have kb : KBn X.K fd' ps 0 ks (fun us ws => HM.arr is (us ++ ws)) (fun vs zs => HM.arr is (vs ++ zs)) :=
    ⟨fun s us ws _ l1 l2 => .of_eq (by rw [e2, hdV]; exact bn kV doc pm an cdv ct us ws l1 l2), fun r1 r2 => HM.Vals.arr (r1.append r2) is⟩
  refine ⟨fun m τ st σ H Q hL hS hP pins s I => ?_⟩
  refine wpAny_Call_Name_kw (ld_glob I hg hm ?_ hdb)
  have q : wK X kws σ H fun zs H2 => zs.length = ks.length ∧ spM X.kw ps.length mf (HM.arr is zs) H2 Q (WE W σ) := by
    have hP : Pe X.kw (fun c d H' => W c d σ H') (RD X.K) m H ((fk τ st).bind fun es s2 => if ([] : List D).length = 0 ∧ es.length = ks.length ∧ (HM.arr is ([] ++ es)).length = ps.length then mf (HM.arr is ([] ++ es)) s2 else .bad) Q := hP
    exact hkw.run m τ st σ H _ hL hS (hP.bind fun es s2 m2 H2 xs e2 hS2 r2 hP2 => by
      split at hP2
      · rename_i hl
        exact ⟨by rw [← r2.len]; exact hl.2.1, m2, s2, _, hl.2.2, hS2, RDs.arr r2 is, hP2⟩
      · exact hP2.elim)
  refine PySem.W.callWith_KW0 (h₀ := X.base) I.ok.mod.kin hk hall (thn (q pos pins s I) fun ws s2 ⟨zs, H2, I2, rz, l2, q2⟩ => ⟨I2.kIn, ?_⟩) hpl
  rw [hks]
  have r2 : Vals (HM.arr is zs) (HM.arr is ([] ++ ws)) := HM.Vals.arr rz is
  refine wpAny_call (codeAny_mono (G.run X.A X.stack s2 H2 ⟨[], ks.zip ws⟩ _ _ Q (WE W σ) (hr.mono hj) I2.env0 (kb.to s2 [] ws I2.kIn rfl (rz.length.symm.trans l2)) r2 q2) fun r s' hq => ?_)
  cases r with
  | error e => exact passAt tk σ pins H2 s2 e s' I2 hq
  | ok fl =>
    cases fl with
    | ret u => exact I2.after hq
    | next => exact False.elim hq
    | brk => exact False.elim hq
    | cont => exact False.elim hq
end
end HM

/-! HM, part Z: zip of a list and a tuple, either way round. -/
namespace HM
open PySem PySem.Spec PyProof.Rows L2
/-- true: a list, false: a tuple -/
def kCls : Bool → String
  | true => "list_iterator"
  | false => "tuple_iterator"
def kIter (k : Bool) (h : Heap) (it l : Addr) (i : Nat) : Prop := ∃ o, h.get? it = some o ∧ o.cls = .type (kCls k) ∧ o.data = .fields #[.ref l, .int i 0]
def kSeq : Bool → Heap → Addr → Array Value → Prop
  | true => fun h l xs => h.IsList l xs
  | false => fun h l xs => h.IsTuple l xs
def kSq : Bool → PySem.W.Frag → Hp → Addr → List V → Prop
  | true => SqL
  | false => SqT
section
variable {prog : Program} {w : World} {A : Around} {E : Value → Shared → Prop} {s : Shared}
theorem draws_k {k : Bool} (hh : A.handled = none) {it l : Addr} (ne : l ≠ it) (items : Array Value) :
    Draws prog w A it [it, l] items.size (fun i v => items[i]? = some v) (fun i h => kIter k h it l i ∧ kSeq k h l items) := by
  cases k with
  | true => exact Draws.list hh it l ne items
  | false => exact Draws.tuple hh it l ne items
abbrev zk1 (c1 : String) (h : Heap) (l1 : Addr) : Heap := h.push { cls := .type c1, data := .fields #[.ref l1, .int 0 0] }
abbrev zk2 (c1 c2 : String) (h : Heap) (l1 l2 : Addr) : Heap := (zk1 c1 h l1).push { cls := .type c2, data := .fields #[.ref l2, .int 0 0] }
abbrev zk3 (c1 c2 : String) (h : Heap) (l1 l2 : Addr) : Heap := (zk2 c1 c2 h l1 l2).push { cls := .type "tuple", data := .seq #[.ref h.objs.size, .ref (zk1 c1 h l1).objs.size] }
abbrev zk4 (c1 c2 : String) (h : Heap) (l1 l2 : Addr) : Heap := (zk3 c1 c2 h l1 l2).push { cls := .type "tuple", data := .seq #[.none, .none] }
abbrev zk5 (c1 c2 : String) (h : Heap) (l1 l2 : Addr) : Heap := (zk4 c1 c2 h l1 l2).push { cls := .type "zip", data := .fields #[.none, .bool false, .bool false, .ref (zk2 c1 c2 h l1 l2).objs.size, .ref (zk3 c1 c2 h l1 l2).objs.size] }
/-- what zip.__new__ makes -/
def NewK (c1 c2 : String) (G : Heap → Prop) (l1 l2 : Addr) : Prop :=
  Meets (Builtin.«zip.__new__» ⟨[.type "zip", .ref l1, .ref l2], []⟩) fun _ R s => G s.heap ∧ R (.ok (.ret (.ref (zk4 c1 c2 s.heap l1 l2).objs.size))) { s with heap := zk5 c1 c2 s.heap l1 l2 }
theorem new_lt (l1 l2 : Addr) (xs ys : Array Value) : NewK "list_iterator" "tuple_iterator" (fun h => h.IsList l1 xs ∧ h.IsTuple l2 ys) l1 l2 :=
  .of_wp fun prog w A R s h => by
    obtain ⟨hp, g, d, tk, os⟩ := s
    obtain ⟨⟨q1, q2⟩, h⟩ := h
    have hsub := sub_zip
    have a1 : Heap.IsList (Shared.heap ⟨hp, g, d, tk, os⟩) l1 xs := q1
    have a2 : Heap.IsTuple (Shared.heap ⟨zk1 "list_iterator" hp l1, g, d, tk, os⟩) l2 ys := Heap.IsTuple.push q2 _
    wp_walk using wpAny_pyIter_list a1, wpAny_pyIter_tuple a2
    exact ⟨_, rfl, h⟩
theorem new_tl (l1 l2 : Addr) (xs ys : Array Value) : NewK "tuple_iterator" "list_iterator" (fun h => h.IsTuple l1 xs ∧ h.IsList l2 ys) l1 l2 :=
  .of_wp fun prog w A R s h => by
    obtain ⟨hp, g, d, tk, os⟩ := s
    obtain ⟨⟨q1, q2⟩, h⟩ := h
    have hsub := sub_zip
    have a1 : Heap.IsTuple (Shared.heap ⟨hp, g, d, tk, os⟩) l1 xs := q1
    have a2 : Heap.IsList (Shared.heap ⟨zk1 "tuple_iterator" hp l1, g, d, tk, os⟩) l2 ys := Heap.IsList.push q2 _
    wp_walk using wpAny_pyIter_tuple a1, wpAny_pyIter_list a2
    exact ⟨_, rfl, h⟩
end
section
variable {prog : Program} {w : World} {A : Around} {E : Value → Shared → Prop} {s : Shared}
/-- what stands behind a call of zip -/
structure ZipMade (k1 k2 : Bool) (h h' : Heap) (l1 l2 : Addr) : Prop where
  z : IsZip h' (h.objs.size + 4) (h.objs.size + 2) (h.objs.size + 3) .none
  i : IsTupOf2 h' (h.objs.size + 2) (.ref h.objs.size) (.ref (h.objs.size + 1))
  o : IsTupOf2 h' (h.objs.size + 3) .none .none
  i1 : kIter k1 h' h.objs.size l1 0
  i2 : kIter k2 h' (h.objs.size + 1) l2 0
  keep : ∀ c o, h.get? c = some o → h'.get? c = some o
theorem call_zk {k1 k2 : Bool} {G : Heap → Prop} {l1 l2 : Addr} {Q : Value → Shared → Prop} (M : NewK (kCls k1) (kCls k2) G l1 l2) (g : G s.heap)
    (h : ∀ h', ZipMade k1 k2 s.heap h' l1 l2 → Q (.ref (s.heap.objs.size + 4)) { s with heap := h' }) : wpAny (model prog w) A (call (.type "zip") [.ref l1, .ref l2]) Q E s := by
  have no : (some "zip.__new__" != some "object.__new__") = true := by decide
  have oi := fun obj => F.args_object_init_3 obj (.ref l1) (.ref l2)
  refine callType_new F.called_zip no (F.typeCall_zip_2 _ _) (F.newCall_zip_2 _ _) oi F.entry_zip_new M ⟨g, ?_⟩
  obtain ⟨n, en⟩ : ∃ n, n = s.heap.objs.size := ⟨_, rfl⟩
  have s1 : (zk1 (kCls k1) s.heap l1).objs.size = n + 1 := by rw [Heap.size_push, en]
  have s2 : (zk2 (kCls k1) (kCls k2) s.heap l1 l2).objs.size = n + 2 := by rw [Heap.size_push, s1]
  have s3 : (zk3 (kCls k1) (kCls k2) s.heap l1 l2).objs.size = n + 3 := by rw [Heap.size_push, s2]
  have s4 : (zk4 (kCls k1) (kCls k2) s.heap l1 l2).objs.size = n + 4 := by rw [Heap.size_push, s3]
  have up : ∀ {h0 : Heap} {o0 : Obj} {c : Addr} {o : Obj}, h0.get? c = some o → (h0.push o0).get? c = some o := fun e => Heap.get?_push_of_some _ e
  have b5 : (zk5 (kCls k1) (kCls k2) s.heap l1 l2).get? (zk4 (kCls k1) (kCls k2) s.heap l1 l2).objs.size = some _ := Heap.get?_push_size _ rfl
  have b4 : (zk5 (kCls k1) (kCls k2) s.heap l1 l2).get? (zk3 (kCls k1) (kCls k2) s.heap l1 l2).objs.size = some _ := up (Heap.get?_push_size _ rfl)
  have b3 : (zk5 (kCls k1) (kCls k2) s.heap l1 l2).get? (zk2 (kCls k1) (kCls k2) s.heap l1 l2).objs.size = some _ := up (up (Heap.get?_push_size _ rfl))
  have b2 : (zk5 (kCls k1) (kCls k2) s.heap l1 l2).get? (zk1 (kCls k1) s.heap l1).objs.size = some _ := up (up (up (Heap.get?_push_size _ rfl)))
  have b1 : (zk5 (kCls k1) (kCls k2) s.heap l1 l2).get? s.heap.objs.size = some _ := up (up (up (up (Heap.get?_push_size _ rfl))))
  show _ ∧ _
  rw [s2, s3, s4] at b5
  rw [s1, s2] at b3
  rw [s3] at b4
  rw [s1] at b2
  rw [s4]
  refine ⟨⟨_, b5, rfl⟩, ?_⟩
  rw [en] at b2 b3 b4 b5 ⊢
  exact h _ ⟨b5, b3, b4, ⟨_, b1, rfl, rfl⟩, ⟨_, b2, rfl, rfl⟩, fun c o e => up (up (up (up (up e))))⟩
end
/-- pairs of the items at a and at b -/
def ItK (k1 k2 : Bool) (K : PySem.W.Frag) (a b : Addr) : It where
  go := fun i H => ∃ (xs ys : List V) (x y : V), (kSq k1 K H a xs ∧ kSq k2 K H b ys) ∧ xs[i]? = some x ∧ ys[i]? = some y
  yld := fun i H v H' => ∃ (T : Addr) (x y : V), (v = .ref T ∧ H T = none ∧ ∃ o : Obj, o.dict = none ∧ H' = upd H T (.frz o (.tup [x, y]))) ∧ (∀ xs, kSq k1 K H a xs → xs[i]? = some x) ∧ (∀ ys, kSq k2 K H b ys → ys[i]? = some y)
  stop := fun i H => ∃ xs ys : List V, (kSq k1 K H a xs ∧ kSq k2 K H b ys) ∧ (i = xs.length ∧ i ≤ ys.length ∨ i = ys.length ∧ i ≤ xs.length)
section
variable {P : Program} {w : World} {K : PySem.W.Frag}
theorem inv_k {X : Cx} {pins : List (Addr × Obj)} {σ : L2.St} {H : Hp} {s : Shared} {k : Bool} {a : Addr} {xs : List V} (I : Inv X pins σ H s) (h : kSq k X.K H a xs) : ∃ its : List Value, Vals xs its ∧ kSeq k s.heap a its.toArray ∧ a < s.heap.objs.size := by
  cases k with
  | true =>
    obtain ⟨its, r, p, _⟩ := I.list h
    exact ⟨its, r, p.isList, p.lt⟩
  | false =>
    obtain ⟨its, r, p, _⟩ := I.tuple h
    obtain ⟨o, e, _⟩ := id p
    exact ⟨its, r, p, Heap.lt_size e⟩
theorem inj_k {X : Cx} {pins : List (Addr × Obj)} {σ : L2.St} {H : Hp} {s : Shared} {k : Bool} {a : Addr} {xs ys : List V} (I : Inv X pins σ H s) (h : kSq k X.K H a xs) (h2 : kSq k X.K H a ys) : xs = ys := by
  cases k with
  | true => exact I.list_inj h h2
  | false => exact I.tuple_inj h h2
theorem sep_k {z TI TO i1 i2 a b : Addr} (D : ZipApart z TI TO i1 i2 a b) : ZipSep2 z TI TO i1 i2 [i1, a] [i2, b] where
  TIz := D.TIz
  TOz := D.TOz
  TITO := D.TITO
  TIi1 := D.TIi1
  mem1 := by simp
  zf1 := by simp [D.i1z.symm, D.l1z.symm]
  Tf1 := by simp [D.TOi1, D.l1TO.symm]
  TIi2 := D.TIi2
  mem2 := by simp
  zf2 := by simp [D.i2z.symm, D.l2z.symm]
  Tf2 := by simp [D.TOi2, D.l2TO.symm]
  sep1_2 := by simp [D.i12, D.l2i1.symm]
  sep2_1 := by simp [D.i12.symm, D.l1i2.symm]
theorem turn_k {k1 k2 : Bool} {elts : List Expr} {kk : Nat} {tpos : Pos} {a b z TI TO i1 i2 : Addr} (D : ZipApart z TI TO i1 i2 a b) :
    Turn P w K (.Tuple elts kk tpos) (ItK k1 k2 K a b) [z, TI, TO, i1, i2] z fun i h => (IsZip h z TI TO .none ∧ IsTupOf2 h TI (.ref i1) (.ref i2) ∧ ∃ x y, IsTupOf2 h TO x y) ∧ kIter k1 h i1 a i ∧ kIter k2 h i2 b i := by
  have keepI : ∀ {k : Bool} {h h' : Heap} {it l : Addr} {i : Nat}, kIter k h it l i → (∀ o, h.get? it = some o → h'.get? it = some o) → kIter k h' it l i := fun st q => by
    obtain ⟨o, e, c⟩ := st
    exact ⟨o, q o e, c⟩
  refine ⟨by simp, ?_, ?_, ?_, ?_, fun A i s Q E st h => wpAny_pyIter_zip st.1.1 h⟩
  · rintro i h ⟨⟨hz, ht, x, y, ho⟩, ⟨o1, g1, _, d1⟩, o2, g2, _, d2⟩ c hc
    simp only [List.mem_cons, List.not_mem_nil, or_false] at hc
    rcases hc with rfl | rfl | rfl | rfl | rfl
    · exact ⟨_, hz, fun v q => nomatch q⟩
    · exact ⟨_, ht, fun v q => nomatch q⟩
    · exact ⟨_, ho, fun v q => nomatch q⟩
    · exact ⟨o1, g1, fun v q => by rw [d1] at q; exact nomatch q⟩
    · exact ⟨o2, g2, fun v q => by rw [d2] at q; exact nomatch q⟩
  · rintro i h h' ⟨⟨hz, ht, x, y, ho⟩, j1, j2⟩ q
    exact ⟨⟨q z (by simp) _ hz, q TI (by simp) _ ht, x, y, q TO (by simp) _ ho⟩, keepI j1 (q i1 (by simp)), keepI j2 (q i2 (by simp))⟩
  · intro X hP hw hK hc i pins s σ H E I hf st hg
    subst hP hw hK
    obtain ⟨⟨hz, ht, x0, y0, ho⟩, j1, j2⟩ := st
    obtain ⟨xs, ys, x, y, ⟨hx, hy⟩, ex, ey⟩ := hg
    obtain ⟨its, rv, p1, _⟩ := inv_k I hx
    obtain ⟨its2, rv2, p2, _⟩ := inv_k I hy
    obtain ⟨u, hu, ru⟩ := rv.get ex
    obtain ⟨u2, hu2, ru2⟩ := rv2.get ey
    have hh : X.A.in1.handled = none := I.ok.hd hc
    have d1 := draws_k (prog := X.prog) (w := X.w) (k := k1) hh D.l1i1 its.toArray
    have d2 := draws_k (prog := X.prog) (w := X.w) (k := k2) hh D.l2i2 its2.toArray
    have n1 : i < its.toArray.size := by have := (List.getElem?_eq_some_iff.mp hu).1; simpa using this
    have n2 : i < its2.toArray.size := by have := (List.getElem?_eq_some_iff.mp hu2).1; simpa using this
    have zl : z < s.heap.objs.size := Heap.lt_size hz
    refine wpAny_pyNext_zipD2_item (sep_k D) d1 d2 hz ht ho ⟨j1, p1⟩ ⟨j2, p2⟩ n1 n2 ?_
    intro v1 v2 h' tk e1 e2 z' o' q1 q2 hT hsz hk
    have e1 : u = v1 := by simpa [hu] using e1
    have e2 : u2 = v2 := by simpa [hu2] using e2
    subst e1 e2
    refine ⟨_, rfl, wpAny_letOwnedTupleGo_zip (s := { s with heap := h', toks := tk }) z' ?_⟩
    intro h'' z'' sb
    have T2 := (sb.2 _ (Nat.ne_of_gt zl)).trans hT
    have nw : ObjOk X.prog X.w (upd H s.heap.objs.size (.frz { cls := .type "tuple", data := .seq #[u, u2] } (.tup [x, y]))) h'' s.heap.objs.size (.frz { cls := .type "tuple", data := .seq #[u, u2] } (.tup [x, y])) := by
      refine ⟨T2, ?_, [u, u2], .cons ru (.cons ru2 .nil), _, T2, rfl, _, rfl⟩
      show 2 ≤ sizeLine
      decide
    have other : ∀ (c : Addr) (o : Obj), c ∉ [z, TI, TO, i1, i2] → s.heap.get? c = some o → h''.get? c = some o := fun c o hb q => by
      simp only [List.mem_cons, List.not_mem_nil, or_false, not_or] at hb
      exact (sb.2 c hb.1).trans (hk c o hb.1 hb.2.2.1 hb.2.2.2.1 hb.2.2.2.2 q)
    have I1 : Inv X pins σ (upd H s.heap.objs.size (.frz { cls := .type "tuple", data := .seq #[u, u2] } (.tup [x, y]))) { s with heap := h'', toks := tk } := I.turnedNew (t' := tk) (ch := [z, TI, TO, i1, i2]) other hf (Nat.le_refl _) nw
    refine ⟨.ref s.heap.objs.size, _, I1, rfl, ⟨_, x, y, ⟨rfl, I.hok.fresh (Nat.le_refl _), _, rfl, rfl⟩, fun l hl => by rw [inj_k I hl hx]; exact ex, fun l hl => by rw [inj_k I hl hy]; exact ey⟩, ⟨⟨z'', ?_, u, u2, ?_⟩, ?_, ?_⟩, ?_⟩
    · exact (sb.2 _ D.TIz).trans (hk _ _ D.TIz D.TITO D.TIi1 D.TIi2 ht)
    · exact (sb.2 _ D.TOz).trans o'
    · exact keepI q1.1 fun o e => (sb.2 _ D.i1z).trans e
    · exact keepI q2.1 fun o e => (sb.2 _ D.i2z).trans e
    · intro c hm
      have lt : c < s.heap.objs.size := by
        obtain ⟨o1, g1, _⟩ := j1
        obtain ⟨o2, g2, _⟩ := j2
        have hm := hm
        simp only [List.mem_cons, List.not_mem_nil, or_false] at hm
        rcases hm with rfl | rfl | rfl | rfl | rfl
        · exact zl
        · exact Heap.lt_size ht
        · exact Heap.lt_size ho
        · exact Heap.lt_size g1
        · exact Heap.lt_size g2
      rw [upd_ne (Nat.ne_of_lt lt)]
      exact (hf c hm).1
  · intro X hP hw hK hc i pins s σ H E I hf st hg
    subst hP hw hK
    obtain ⟨⟨hz, ht, x0, y0, ho⟩, j1, j2⟩ := st
    obtain ⟨xs, ys, ⟨hx, hy⟩, he⟩ := hg
    obtain ⟨its, rv, p1, _⟩ := inv_k I hx
    obtain ⟨its2, rv2, p2, _⟩ := inv_k I hy
    have m1 := rv.length
    have m2 := rv2.length
    have hh : X.A.in1.handled = none := I.ok.hd hc
    have d1 := draws_k (prog := X.prog) (w := X.w) (k := k1) hh D.l1i1 its.toArray
    have d2 := draws_k (prog := X.prog) (w := X.w) (k := k2) hh D.l2i2 its2.toArray
    refine wpAny_pyNext_zipD2_end (sep_k D) d1 d2 hz ht ho ⟨j1, p1⟩ ⟨j2, p2⟩ (by simp; omega) (by simp; omega) (by simp; omega) ?_
    intro h' tk hk
    refine ⟨rfl, I.turnedL (t' := tk) (ch := [z, TI, TO, i1, i2]) ?_ hf⟩
    intro c o hb q
    simp only [List.mem_cons, List.not_mem_nil, or_false, not_or] at hb
    exact hk c o hb.1 hb.2.2.1 hb.2.2.2.1 hb.2.2.2.2 q
end
section
variable {prog : Program} {w : World} {A : Around} {E : Value → Shared → Prop} {s : Shared}
theorem new_ll (l1 l2 : Addr) (xs ys : Array Value) : NewK "list_iterator" "list_iterator" (fun h => h.IsList l1 xs ∧ h.IsList l2 ys) l1 l2 :=
  .of_wp fun prog w A R s h => by
    obtain ⟨hp, g, d, tk, os⟩ := s
    obtain ⟨⟨q1, q2⟩, h⟩ := h
    have hsub := sub_zip
    have a1 : Heap.IsList (Shared.heap ⟨hp, g, d, tk, os⟩) l1 xs := q1
    have a2 : Heap.IsList (Shared.heap ⟨zk1 "list_iterator" hp l1, g, d, tk, os⟩) l2 ys := Heap.IsList.push q2 _
    wp_walk using wpAny_pyIter_list a1, wpAny_pyIter_list a2
    exact ⟨_, rfl, h⟩
theorem new_tt (l1 l2 : Addr) (xs ys : Array Value) : NewK "tuple_iterator" "tuple_iterator" (fun h => h.IsTuple l1 xs ∧ h.IsTuple l2 ys) l1 l2 :=
  .of_wp fun prog w A R s h => by
    obtain ⟨hp, g, d, tk, os⟩ := s
    obtain ⟨⟨q1, q2⟩, h⟩ := h
    have hsub := sub_zip
    have a1 : Heap.IsTuple (Shared.heap ⟨hp, g, d, tk, os⟩) l1 xs := q1
    have a2 : Heap.IsTuple (Shared.heap ⟨zk1 "tuple_iterator" hp l1, g, d, tk, os⟩) l2 ys := Heap.IsTuple.push q2 _
    wp_walk using wpAny_pyIter_tuple a1, wpAny_pyIter_tuple a2
    exact ⟨_, rfl, h⟩
theorem new_k (k1 k2 : Bool) (l1 l2 : Addr) (xs ys : Array Value) : NewK (kCls k1) (kCls k2) (fun h => kSeq k1 h l1 xs ∧ kSeq k2 h l2 ys) l1 l2 := by
  cases k1 <;> cases k2
  · exact new_tt l1 l2 xs ys
  · exact new_tl l1 l2 xs ys
  · exact new_lt l1 l2 xs ys
  · exact new_ll l1 l2 xs ys
end
def iZk (K : PySem.W.Frag) (ta : TA) : TI := fun σ H R => ta σ H fun vs H1 => ∃ (a b : Addr) (k1 k2 : Bool) (xs ys : List V), vs = [.ref a, .ref b] ∧ (kSq k1 K H1 a xs ∧ kSq k2 K H1 b ys) ∧ R (ItK k1 k2 K a b) H1
theorem pi_zk {X : Cx} {e e2 : Expr} {ta : TA} {p pos tpos : Pos} {elts : List Expr} {kk : Nat} (hg : Gl X "zip") (hm : X.mg "zip" = none) (ha : PA X [e, e2] ta)
    (hs : starEach [e, e2] X.env = (false, eval e X.env) :: starEach [e2] X.env := by rfl)
    (hpl : (backTo pos (starEach [e2] X.env)).any (·.1) = false := by rfl) : PI X (.Tuple elts kk tpos) (.Call (.Name "zip" p) [e, e2] [] pos) (iZk X.K ta) := by
  refine ⟨?_⟩
  intro pins s σ H R I h
  refine Call_ (ld_blt I hg hm PyProof.Rows.boot_zip ?_)
  refine PyProof.Rows.callWith_type1 (thn (ha.run pos pins s σ H _ I h) ?_) hs hpl
  rintro us s1 ⟨vs, H1, I1, r1, a, b, k1, k2, xs, ys, rfl, ⟨hx, hy⟩, q⟩
  cases r1 with
  | cons r rr =>
  cases rr with
  | cons r' rr =>
  cases rr
  cases r
  cases r'
  obtain ⟨its, rv, p1, la⟩ := inv_k I1 hx
  obtain ⟨its2, rv2, p2, lb⟩ := inv_k I1 hy
  refine call_zk (new_k k1 k2 a b its.toArray its2.toArray) ⟨p1, p2⟩ ?_
  intro h' Z
  refine wpAny_pyIter_zip Z.z ?_
  have I2 : Inv X pins σ H1 { s1 with heap := h' } := I1.kept (t' := s1.toks) Z.keep
  obtain ⟨n, en⟩ : ∃ n, n = s1.heap.objs.size := ⟨_, rfl⟩
  have T := turn_k (P := X.prog) (w := X.w) (K := X.K) (k1 := k1) (k2 := k2) (elts := elts) (kk := kk) (tpos := tpos) (PySem.W.ktu_apart s1.heap.objs.size a b la lb)
  refine ⟨s1.heap.objs.size + 4, _, _, _, H1, rfl, I2, T, ⟨⟨Z.z, Z.i, _, _, Z.o⟩, Z.i1, Z.i2⟩, ?_, q⟩
  intro c hm
  simp only [List.mem_cons, List.not_mem_nil, or_false] at hm
  have le : s1.heap.objs.size ≤ c := by
    rcases hm with rfl | rfl | rfl | rfl | rfl
    · exact Nat.le_add_right _ _
    · exact Nat.le_add_right _ _
    · exact Nat.le_add_right _ _
    · exact Nat.le_refl _
    · exact Nat.le_add_right _ _
  exact I1.fpOk le (I1.hok.fresh le)
theorem zipD_at {xs ys : List D} {i : Nat} {d : D} (h : (zipD xs ys)[i]? = some d) : ∃ x y, xs[i]? = some x ∧ ys[i]? = some y ∧ d = .tup [x, y] := by
  unfold zipD at h
  rw [List.getElem?_map] at h
  cases hz : (List.zip xs ys)[i]? with
  | none =>
    rw [hz] at h
    cases h
  | some q =>
    rw [hz] at h
    cases h
    obtain ⟨h1, h2⟩ := List.getElem?_zip_eq_some.mp hz
    exact ⟨_, _, h1, h2, rfl⟩
theorem zipD_len (xs ys : List D) : (zipD xs ys).length = min xs.length ys.length := by
  unfold zipD
  rw [List.length_map, List.length_zip]
theorem j_zk {K : KW} {m0 : List Addr} {H0 : Hp} {k1 k2 : Bool} {a b : Addr} {q : Sq} {xs ys : List D} (hi : q.items = zipD xs ys)
    (h : ∀ (m : List Addr) (H : Hp) (st : Store), Ext K m0 H0 m H → SS K m st H → q.chk st = true → ∃ vs us, (kSq k1 K H a vs ∧ kSq k2 K H b us) ∧ RDs K m H xs vs ∧ RDs K m H ys us) : JOk K m0 H0 q (ItK k1 k2 K a b) := by
  intro m H st e s hc
  obtain ⟨vs, us, ⟨q1, q2⟩, r1, r2⟩ := h m H st e s hc
  refine ⟨?_, vs, us, ⟨q1, q2⟩, ?_⟩
  · intro i d hd
    rw [hi] at hd
    obtain ⟨x, y, hx, hy, rfl⟩ := zipD_at hd
    obtain ⟨v, hv, rv⟩ := r1.get hx
    obtain ⟨u, hu, ru⟩ := r2.get hy
    refine ⟨⟨vs, us, v, u, ⟨q1, q2⟩, hv, hu⟩, ?_⟩
    rintro z H' ⟨T, v', u', ⟨rfl, hT, ob, hob, rfl⟩, g1, g2⟩
    have z1 := g1 vs q1
    have z2 := g2 us q2
    rw [hv] at z1
    rw [hu] at z2
    cases z1
    cases z2
    have f := Ext.fresh (K := K) (m := m) (H := H) (o := .frz ob (.tup [v, u])) hT
    exact ⟨f, s.fresh hT, .tup (PlT.of hob) (.cons (rv.mono f) (.cons (ru.mono f) .nil))⟩
  · rw [hi, zipD_len, r1.len, r2.len]
    omega
end HM

/-! HM, part 13: max and min of tuples, index. -/
namespace HM
open PySem PySem.Spec PyProof.Rows L2
section
variable {prog : Program} {w : World} {A : Around} {E : Value → Shared → Prop} {s : Shared}
/-- the greatest of a tuple's ints -/
theorem tup_max {t : Addr} {xs : Array (Int × Tok)} {Q : Value → Shared → Prop} (hh : A.handled = none) (ht : s.heap.IsTuple t (intItems xs)) (hne : 0 < xs.size)
    (h : ∀ v h' tk, (intItems xs)[argBest (fun i j => decide (numAt xs i > numAt xs j)) (xs.size - 1)]? = some v → (∀ b o, s.heap.get? b = some o → h'.get? b = some o) → Q v { s with heap := h', toks := tk }) :
    wpAny (model prog w) A (call (.builtin "max") [.ref t]) Q E s := by
  obtain ⟨ob, o1, _, _, _⟩ := id ht
  have sz : (intItems xs).size = xs.size := by simp [intItems]
  refine call_max_walk (wpAny_pyIter_tuple ht ?_)
  refine ⟨_, [_, t], [_], _, _, _, _, rfl, Walks.tuple (A := A.in1) hh s.heap.objs.size t (Nat.ne_of_lt (Heap.lt_size o1)) (intItems xs), ⟨⟨_, Heap.get?_push_size _ rfl, rfl, rfl⟩, ht.push _⟩, fun b hb => ?_, by omega, CmpOf.ints_gt (numAt xs) (fun _ _ => intItems_at), fun v h' tk hP hk => ?_⟩
  · rcases List.mem_cons.mp hb with rfl | hb
    · exact Heap.lt_size (Heap.get?_push_size _ rfl)
    · rw [List.mem_singleton.mp hb]
      exact Heap.lt_size (Heap.get?_push_of_some _ o1)
  · rw [sz] at hP
    exact h v h' tk hP fun b o e => hk b o (fun hm => absurd (Heap.lt_size e) (by rw [List.mem_singleton.mp hm]; exact Nat.lt_irrefl _)) (Heap.get?_push_of_some _ e)
theorem tup_min {t : Addr} {xs : Array (Int × Tok)} {Q : Value → Shared → Prop} (hh : A.handled = none) (ht : s.heap.IsTuple t (intItems xs)) (hne : 0 < xs.size)
    (h : ∀ v h' tk, (intItems xs)[argBest (fun i j => decide (numAt xs i < numAt xs j)) (xs.size - 1)]? = some v → (∀ b o, s.heap.get? b = some o → h'.get? b = some o) → Q v { s with heap := h', toks := tk }) :
    wpAny (model prog w) A (call (.builtin "min") [.ref t]) Q E s := by
  obtain ⟨ob, o1, _, _, _⟩ := id ht
  have sz : (intItems xs).size = xs.size := by simp [intItems]
  refine call_min_walk (wpAny_pyIter_tuple ht ?_)
  refine ⟨_, [_, t], [_], _, _, _, _, rfl, Walks.tuple (A := A.in1) hh s.heap.objs.size t (Nat.ne_of_lt (Heap.lt_size o1)) (intItems xs), ⟨⟨_, Heap.get?_push_size _ rfl, rfl, rfl⟩, ht.push _⟩, fun b hb => ?_, by omega, CmpOf.ints_lt (numAt xs) (fun _ _ => intItems_at), fun v h' tk hP hk => ?_⟩
  · rcases List.mem_cons.mp hb with rfl | hb
    · exact Heap.lt_size (Heap.get?_push_size _ rfl)
    · rw [List.mem_singleton.mp hb]
      exact Heap.lt_size (Heap.get?_push_of_some _ o1)
  · rw [sz] at hP
    exact h v h' tk hP fun b o e => hk b o (fun hm => absurd (Heap.lt_size e) (by rw [List.mem_singleton.mp hm]; exact Nat.lt_irrefl _)) (Heap.get?_push_of_some _ e)
end
section
variable {X : Cx} {W : WX} {e : Expr} {pos p : Pos}
def rMaxT (K : PySem.W.Frag) : List V → Hp → VK → Prop := fun vs H Q => ∃ (a : Addr) (ns : List Int), vs = [V.ref a] ∧ SqT K H a (ns.map V.int) ∧ 0 < ns.length ∧ ∀ m, m ∈ ns → (∀ y, y ∈ ns → y ≤ m) → Q (.int m) H
def rMinT (K : PySem.W.Frag) : List V → Hp → VK → Prop := fun vs H Q => ∃ (a : Addr) (ns : List Int), vs = [V.ref a] ∧ SqT K H a (ns.map V.int) ∧ 0 < ns.length ∧ ∀ m, m ∈ ns → (∀ y, y ∈ ns → m ≤ y) → Q (.int m) H
theorem cr_maxT (hc : X.calm = true) : CallR X (.builtin "max") (rMaxT X.K) := by
  intro pins s σ H vs us Q I r h
  obtain ⟨a, ns, rfl, hs, hne, q⟩ := h
  obtain ⟨its, rv, hl, _⟩ := I.tuple hs
  rw [Vals.ref1 r]
  have hi := rv.ints
  obtain ⟨xs, e⟩ := hi.allInts.items
  have hn : numsOf (intItems xs).toList = ns := by rw [← e]; exact hi.numsOf
  rw [nums_intItems] at hn
  subst hn
  obtain ⟨ob, ho, hcl, n, hd⟩ := hl
  have ht : s.heap.IsTuple a (intItems xs) := by
    rw [← e]
    exact ⟨ob, ho, hcl, n, hd⟩
  have hsz : 0 < xs.size := by simpa using hne
  refine tup_max (I.ok.hd hc) ht hsz fun v h' tk hv hk => ?_
  obtain ⟨t, rfl⟩ := intItems_at hv
  obtain ⟨h1, h2⟩ := argBest_gt (numAt xs) (xs.size - 1)
  refine ⟨.int _, H, I.kept hk, ⟨_, rfl⟩, q _ ?_ fun y hy => ?_⟩
  · rw [numAt_eq]
    exact PySem.getD_mem (by rw [List.length_map, Array.length_toList]; omega)
  · obtain ⟨j, hj, rfl⟩ := mem_getD hy
    rw [List.length_map, Array.length_toList] at hj
    rw [← numAt_eq]
    exact h2 j (by omega)
theorem cr_minT (hc : X.calm = true) : CallR X (.builtin "min") (rMinT X.K) := by
  intro pins s σ H vs us Q I r h
  obtain ⟨a, ns, rfl, hs, hne, q⟩ := h
  obtain ⟨its, rv, hl, _⟩ := I.tuple hs
  rw [Vals.ref1 r]
  have hi := rv.ints
  obtain ⟨xs, e⟩ := hi.allInts.items
  have hn : numsOf (intItems xs).toList = ns := by rw [← e]; exact hi.numsOf
  rw [nums_intItems] at hn
  subst hn
  obtain ⟨ob, ho, hcl, n, hd⟩ := hl
  have ht : s.heap.IsTuple a (intItems xs) := by
    rw [← e]
    exact ⟨ob, ho, hcl, n, hd⟩
  have hsz : 0 < xs.size := by simpa using hne
  refine tup_min (I.ok.hd hc) ht hsz fun v h' tk hv hk => ?_
  obtain ⟨t, rfl⟩ := intItems_at hv
  obtain ⟨h1, h2⟩ := argBest_lt (numAt xs) (xs.size - 1)
  refine ⟨.int _, H, I.kept hk, ⟨_, rfl⟩, q _ ?_ fun y hy => ?_⟩
  · rw [numAt_eq]
    exact PySem.getD_mem (by rw [List.length_map, Array.length_toList]; omega)
  · obtain ⟨j, hj, rfl⟩ := mem_getD hy
    rw [List.length_map, Array.length_toList] at hj
    rw [← numAt_eq]
    exact h2 j (by omega)
theorem max_uniq {ns : List Int} {k m : Int} (hk : maxI ns = some k) (hm : m ∈ ns) (hy : ∀ y ∈ ns, y ≤ m) : m = k := by
  cases ns with
  | nil => cases hk
  | cons n ns =>
    have hk : some (ns.foldl max n) = some k := hk
    cases hk
    obtain ⟨h1, h2, h3⟩ := foldl_max_ge ns n
    refine Int.le_antisymm ?_ ?_
    · rcases List.mem_cons.mp hm with rfl | hm
      · exact h1
      · exact h2 m hm
    · rcases h3 with h3 | h3
      · rw [h3]
        exact hy n (List.mem_cons_self ..)
      · exact hy _ (List.mem_cons_of_mem _ h3)
theorem min_uniq {ns : List Int} {k m : Int} (hk : minI ns = some k) (hm : m ∈ ns) (hy : ∀ y ∈ ns, m ≤ y) : m = k := by
  cases ns with
  | nil => cases hk
  | cons n ns =>
    have hk : some (ns.foldl min n) = some k := hk
    cases hk
    obtain ⟨h1, h2, h3⟩ := foldl_min_le ns n
    refine Int.le_antisymm ?_ ?_
    · rcases h3 with h3 | h3
      · rw [h3]
        exact hy n (List.mem_cons_self ..)
      · exact hy _ (List.mem_cons_of_mem _ h3)
    · rcases List.mem_cons.mp hm with rfl | hm
      · exact h1
      · exact h2 m hm
theorem maxI_pos {ns : List Int} {k : Int} (hk : maxI ns = some k) : 0 < ns.length := by
  cases ns with
  | nil => cases hk
  | cons n ns => simp
theorem minI_pos {ns : List Int} {k : Int} (hk : minI ns = some k) : 0 < ns.length := by
  cases ns with
  | nil => cases hk
  | cons n ns => simp
theorem sv_max (hc : X.calm = true) : CallS X (.builtin "max") gMax := ⟨_, (cr_max hc).or (cr_maxT hc), fun m st H ds v E Q hS r hP => by
  obtain ⟨a, vs, rfl, q, rs⟩ := r
  unfold gMax at hP
  split at hP
  · rename_i k hk
    cases hn : intsD ds with
    | none =>
      rw [hn] at hk
      cases hk
    | some ns =>
      rw [hn] at hk
      have hk : maxI ns = some k := hk
      have e := intsD_V rs hn
      subst e
      have fin : ∀ mm, mm ∈ ns → (∀ y, y ∈ ns → y ≤ mm) → Q (.int mm) H := fun mm hm hy => by
        rw [max_uniq hk hm hy]
        exact hP.now hS (.int _)
      rcases q with q | q
      · exact .inl ⟨a, ns, rfl, q, maxI_pos hk, fin⟩
      · exact .inr ⟨a, ns, rfl, q.sq, maxI_pos hk, fin⟩
  · exact hP.elim⟩
theorem sv_min (hc : X.calm = true) : CallS X (.builtin "min") gMin := ⟨_, (cr_min hc).or (cr_minT hc), fun m st H ds v E Q hS r hP => by
  obtain ⟨a, vs, rfl, q, rs⟩ := r
  unfold gMin at hP
  split at hP
  · rename_i k hk
    cases hn : intsD ds with
    | none =>
      rw [hn] at hk
      cases hk
    | some ns =>
      rw [hn] at hk
      have hk : minI ns = some k := hk
      have e := intsD_V rs hn
      subst e
      have fin : ∀ mm, mm ∈ ns → (∀ y, y ∈ ns → mm ≤ y) → Q (.int mm) H := fun mm hm hy => by
        rw [min_uniq hk hm hy]
        exact hP.now hS (.int _)
      rcases q with q | q
      · exact .inl ⟨a, ns, rfl, q, minI_pos hk, fin⟩
      · exact .inr ⟨a, ns, rfl, q.sq, minI_pos hk, fin⟩
  · exact hP.elim⟩
end
/-! ### tuple(range(..)), list(range(..)) -/
section
variable {X : Cx} {W : WX} {e a b : Expr} {pos p p2 : Pos} {fa fb : EM D}
def okLen (j : Int) : Bool := decide (j.toNat ≤ 16777216) && decide (0 ≤ j)
theorem rng_rds {K : PySem.W.Frag} {m : List Addr} {H : Hp} {i j : Int} : RDs K m H (rng i j) (rgV i j) := by
  have e1 : rng i j = ((List.range (j - i).toNat).map fun k : Nat => i + (k : Int)).map D.int := by
    unfold rng
    rw [List.map_map]
    rfl
  have e2 : rgV i j = ((List.range (j - i).toNat).map fun k : Nat => i + (k : Int)).map V.int := by
    unfold rgV
    rw [List.map_map]
    rfl
  rw [e1, e2]
  exact RDs.ints _
theorem rg_ok {i j : Int} (hi : okLen i = true) (hj : okLen j = true) : RgOk i j := by
  unfold okLen at hi hj
  rw [Bool.and_eq_true, decide_eq_true_eq, decide_eq_true_eq] at hi hj
  exact RgOk.of_le hi.2 (by omega) (by omega) hj.2
def kTup (i j : Int) (st : Store) : ER D := if okLen i && okLen j then .ok (.tup (rng i j)) st else .bad
def kLst (i j : Int) (st : Store) : ER D := if okLen i && okLen j then .ok (.ref st.length) (st ++ [.lst (rng i j)]) else .bad
def eRg1 (k : Int → Int → Store → ER D) (fa : EM D) : EM D := fun τ st => (fa τ st).bind fun d s1 => match d with
  | .int j => k 0 j s1
  | _ => .bad
def eRg2 (k : Int → Int → Store → ER D) (fa fb : EM D) : EM D := fun τ st => (fa τ st).bind fun d s1 => (fb τ s1).bind fun e s2 => match d, e with
  | .int i, .int j => k i j s2
  | _, _ => .bad
theorem kTup_ok {K : KW} {E : XK} {m : List Addr} {st : Store} {H : Hp} {Q : VK} {i j : Int} (hS : SS K m st H) (hP : Pe K E (RD K) m H (kTup i j st) Q) : RgOk i j ∧ TNew Q H (rgV i j) := by
  unfold kTup at hP
  split at hP
  · rename_i hc
    rw [Bool.and_eq_true] at hc
    exact ⟨rg_ok hc.1 hc.2, hP.tup hS rng_rds⟩
  · exact hP.elim
theorem kLst_ok {K : KW} {E : XK} {m : List Addr} {st : Store} {H : Hp} {Q : VK} {i j : Int} (hS : SS K m st H) (hP : Pe K E (RD K) m H (kLst i j st) Q) : RgOk i j ∧ ∀ q, H q = none → Q (.ref q) (upd H q (.lst (rgV i j))) := by
  unfold kLst at hP
  split at hP
  · rename_i hc
    rw [Bool.and_eq_true] at hc
    exact ⟨rg_ok hc.1 hc.2, hP.lst hS rng_rds⟩
  · exact hP.elim
theorem ex_tupRg1 (hc : X.calm = true) (hg : Gl X "tuple") (hm : X.mg "tuple" = none) (hg2 : Gl X "range") (hm2 : X.mg "range" = none) (ha : Ex X W a fa) (na : starEach [.Call (.Name "range" p2) [a] [] pos] X.env = (false, eval (.Call (.Name "range" p2) [a] [] pos) X.env) :: starEach [] X.env := by rfl) (nb : starEach [a] X.env = (false, eval a X.env) :: starEach [] X.env := by rfl) {pos2 : Pos} :
    Ex X W (.Call (.Name "tuple" p) [.Call (.Name "range" p2) [a] [] pos] [] pos2) (eRg1 kTup fa) := by
  refine ⟨fun m τ st σ H Q hL hS hP pins s I => (pe_tupRgF hc hg hm (prg_1 hg2 hm2 peW nb) na).run pins s σ H Q I ?_⟩
  refine ha.run m τ st σ H _ hL hS (hP.bind fun d s1 m1 H1 v e1 hS1 r1 hP1 => ?_)
  split at hP1
  · cases r1
    exact ⟨_, rfl, kTup_ok hS1 hP1⟩
  · exact hP1.elim
theorem ex_lstRg1 (hc : X.calm = true) (hg : Gl X "list") (hm : X.mg "list" = none) (hg2 : Gl X "range") (hm2 : X.mg "range" = none) (ha : Ex X W a fa) (na : starEach [.Call (.Name "range" p2) [a] [] pos] X.env = (false, eval (.Call (.Name "range" p2) [a] [] pos) X.env) :: starEach [] X.env := by rfl) (nb : starEach [a] X.env = (false, eval a X.env) :: starEach [] X.env := by rfl) {pos2 : Pos} :
    Ex X W (.Call (.Name "list" p) [.Call (.Name "range" p2) [a] [] pos] [] pos2) (eRg1 kLst fa) := by
  refine ⟨fun m τ st σ H Q hL hS hP pins s I => (pe_listRg hc hg hm (prg_1 hg2 hm2 peW nb) na).run pins s σ H Q I ?_⟩
  refine ha.run m τ st σ H _ hL hS (hP.bind fun d s1 m1 H1 v e1 hS1 r1 hP1 => ?_)
  split at hP1
  · cases r1
    exact ⟨_, rfl, kLst_ok hS1 hP1⟩
  · exact hP1.elim
end
/-! ### zip of two -/
section
variable {X : Cx} {W : WX} {a b : Expr} {pos p tpos : Pos} {fa fb : EM D}
def zip2 (d e : D) (st : Store) : ER Sq := match d, e with
  | .tup xs, .tup ys => .ok (.fix (zipD xs ys)) st
  | .ref n, .ref k => match lstAt st n, lstAt st k with
    | some xs, some ys => .ok (.two n k xs ys) st
    | _, _ => .bad
  | .ref n, .tup ys => match lstAt st n with
    | some xs => .ok (.mix true n xs ys) st
    | none => .bad
  | .tup xs, .ref n => match lstAt st n with
    | some ys => .ok (.mix false n xs ys) st
    | none => .bad
  | _, _ => .bad
def iZip (fa fb : EM D) : EM Sq := fun τ st => (fa τ st).bind fun d s1 => (fb τ s1).bind fun e s2 => zip2 d e s2
theorem ei_zip {elts : List Expr} {kk : Nat} (hg : Gl X "zip") (hm : X.mg "zip" = none) (ha : Ex X W a fa) (hb : Ex X W b fb)
    (hs : starEach [a, b] X.env = (false, eval a X.env) :: starEach [b] X.env := by rfl) (hs2 : starEach [b] X.env = (false, eval b X.env) :: starEach [] X.env := by rfl) (hpl : (backTo pos (starEach [b] X.env)).any (·.1) = false := by rfl) :
    Ei X W (.Tuple elts kk tpos) (.Call (.Name "zip" p) [a, b] [] pos) (iZip fa fb) := by
  refine ⟨fun m τ st σ H R hL hS hP pins s I => (pi_zk (elts := elts) (kk := kk) (tpos := tpos) hg hm (pa_cons peW (pa_cons peW pa_nil hs2) hs) hs hpl).run pins s σ H R I ?_⟩
  refine two ha hb hL hS hP fun m2 st2 H2 dx dy x y e2 hS2 r1 r2 hP2 => ?_
  unfold zip2 at hP2
  split at hP2
  · cases r1 with
    | tup q rs =>
      cases r2 with
      | tup q2 rs2 => exact ⟨_, _, false, false, _, _, rfl, ⟨q.sq, q2.sq⟩, hP2.now hS2 (j_zk rfl fun m H st e s _ => ⟨_, _, ⟨e.tup _ _ q.sq, e.tup _ _ q2.sq⟩, rs.mono e, rs2.mono e⟩)⟩
  · split at hP2
    · rename_i xs ys hx hy
      cases r1 with
      | ref q =>
        cases r2 with
        | ref q2 =>
          obtain ⟨vs, h1, _⟩ := hS2.list hx q
          obtain ⟨us, h2, _⟩ := hS2.list hy q2
          refine ⟨_, _, true, true, vs, us, rfl, ⟨SqL.of h1, SqL.of h2⟩, hP2.now hS2 (j_zk rfl fun m H st e s hc => ?_)⟩
          have hc : (decide (lstAt st _ = some xs) && decide (lstAt st _ = some ys)) = true := hc
          rw [Bool.and_eq_true, decide_eq_true_eq, decide_eq_true_eq] at hc
          obtain ⟨vs, h1, r1⟩ := s.list hc.1 (e.pre _ _ q)
          obtain ⟨us, h2, r2⟩ := s.list hc.2 (e.pre _ _ q2)
          exact ⟨vs, us, ⟨SqL.of h1, SqL.of h2⟩, r1, r2⟩
    · exact hP2.elim
  · split at hP2
    · rename_i xs hx
      cases r1 with
      | ref q =>
        cases r2 with
        | tup q2 rs2 =>
          obtain ⟨vs, h1, _⟩ := hS2.list hx q
          refine ⟨_, _, true, false, vs, _, rfl, ⟨SqL.of h1, q2.sq⟩, hP2.now hS2 (j_zk rfl fun m H st e s hc => ?_)⟩
          have hc : decide (lstAt st _ = some xs) = true := hc
          rw [decide_eq_true_eq] at hc
          obtain ⟨vs, h1, r1⟩ := s.list hc (e.pre _ _ q)
          exact ⟨vs, _, ⟨SqL.of h1, e.tup _ _ q2.sq⟩, r1, rs2.mono e⟩
    · exact hP2.elim
  · split at hP2
    · rename_i ys hy
      cases r1 with
      | tup q rs =>
        cases r2 with
        | ref q2 =>
          obtain ⟨us, h2, _⟩ := hS2.list hy q2
          refine ⟨_, _, false, true, _, us, rfl, ⟨q.sq, SqL.of h2⟩, hP2.now hS2 (j_zk rfl fun m H st e s hc => ?_)⟩
          have hc : decide (lstAt st _ = some ys) = true := hc
          rw [decide_eq_true_eq] at hc
          obtain ⟨us, h2, r2⟩ := s.list hc (e.pre _ _ q2)
          exact ⟨_, us, ⟨e.tup _ _ q.sq, SqL.of h2⟩, rs.mono e, r2⟩
    · exact hP2.elim
  · exact hP2.elim
end
end HM

/-! HM, part D: dicts. -/
namespace HM
open PySem PySem.Spec PyProof.Rows L2

/-! ### keys -/
mutual
inductive NV (K : PySem.W.Frag) (H : Hp) : NestedKey → V → Prop
  | non : NV K H .none .non
  | int (i : Int) : NV K H (.num i) (.int i)
  | str (x : PySem.Str) : NV K H (.text x) (.str x)
  | tup {a : Addr} {vs : List V} {ks : List NestedKey} : SqT K H a vs → NVs K H ks vs → NV K H (.tup ks) (.ref a)
inductive NVs (K : PySem.W.Frag) (H : Hp) : List NestedKey → List V → Prop
  | nil : NVs K H [] []
  | cons {k : NestedKey} {v : V} {ks : List NestedKey} {vs : List V} : NV K H k v → NVs K H ks vs → NVs K H (k :: ks) (v :: vs)
end
section
variable {X : Cx} {pins : List (Addr × Obj)} {σ : L2.St} {H : Hp} {s : Shared}
mutual
theorem nv_is (I : Inv X pins σ H s) : ∀ {k : NestedKey} {v : V} {u : Value}, NV X.K H k v → RelV v u → NestedIs s.heap k u
  | _, _, _, .non, r => by
    cases (show _ = Value.none from r)
    exact .none
  | _, _, _, .int i, r => by
    obtain ⟨t, rfl⟩ := r
    exact .int i t
  | _, _, _, .str x, r => by
    obtain ⟨t, rfl⟩ := r
    exact .text x t
  | _, _, _, .tup q n, r => by
    cases (show _ = Value.ref _ from r)
    obtain ⟨its, rs, ⟨o, e, c, k, d⟩, _⟩ := I.tuple q
    exact .tup e c d (by simpa using nvs_is I n rs)
theorem nvs_is (I : Inv X pins σ H s) : ∀ {ks : List NestedKey} {vs : List V} {us : List Value}, NVs X.K H ks vs → Vals vs us → NestedAll s.heap ks us
  | _, _, _, .nil, r => by
    cases r
    exact .nil
  | _, _, _, .cons h t, r => by
    cases r with
    | cons r1 r2 => exact .cons (nv_is I h r1) (nvs_is I t r2)
end
end
section
variable {K : PySem.W.Frag} {m : List Addr} {H : Hp}
theorem nvs_of {n : Nat} (ih : ∀ (d : D) (v : V), d.plain n = true → RD K m H d v → NV K H d.nk v ∧ d.nk.depth ≤ n) : ∀ (ds : List D) (vs : List V), ds.all (D.plain n) = true → RDs K m H ds vs → NVs K H (D.nks ds) vs ∧ NestedKey.depthAll (D.nks ds) ≤ n
  | [], _, _, r => by
    cases r
    exact ⟨.nil, Nat.zero_le _⟩
  | d :: ds, _, h, r => by
    cases r with
    | cons r1 r2 =>
      rw [List.all_cons, Bool.and_eq_true] at h
      obtain ⟨a1, a2⟩ := ih d _ h.1 r1
      obtain ⟨b1, b2⟩ := nvs_of ih ds _ h.2 r2
      refine ⟨.cons a1 b1, ?_⟩
      simp only [D.nks, NestedKey.depthAll]
      omega
theorem nv_of : ∀ (n : Nat) (d : D) (v : V), d.plain n = true → RD K m H d v → NV K H d.nk v ∧ d.nk.depth ≤ n := by
  intro n
  induction n with
  | zero =>
    intro d v h r
    cases r <;> simp [D.plain] at h
    · exact ⟨.non, Nat.zero_le _⟩
    · exact ⟨.int _, Nat.zero_le _⟩
    · exact ⟨.str _, Nat.zero_le _⟩
  | succ n ih =>
    intro d v h r
    cases r with
    | non => exact ⟨.non, Nat.zero_le _⟩
    | int i => exact ⟨.int _, Nat.zero_le _⟩
    | str x => exact ⟨.str _, Nat.zero_le _⟩
    | tup s rs =>
      rename_i a vs ds
      obtain ⟨b1, b2⟩ := nvs_of ih ds vs h rs
      refine ⟨.tup s.sq b1, ?_⟩
      simp only [D.nk, NestedKey.depth]
      omega
    | _ => simp [D.plain] at h
end
theorem nks_inj {n : Nat} (ih : ∀ x y : D, x.plain n = true → y.plain n = true → x.nk = y.nk → x = y) : ∀ xs ys : List D, xs.all (D.plain n) = true → ys.all (D.plain n) = true → D.nks xs = D.nks ys → xs = ys
  | [], [], _, _, _ => rfl
  | [], _ :: _, _, _, h => by simp [D.nks] at h
  | _ :: _, [], _, _, h => by simp [D.nks] at h
  | x :: xs, y :: ys, h1, h2, h => by
    rw [List.all_cons, Bool.and_eq_true] at h1 h2
    simp only [D.nks, List.cons.injEq] at h
    rw [ih x y h1.1 h2.1 h.1, nks_inj ih xs ys h1.2 h2.2 h.2]
theorem nk_inj : ∀ (n : Nat) (x y : D), x.plain n = true → y.plain n = true → x.nk = y.nk → x = y := by
  intro n
  induction n with
  | zero => intro x y h1 h2 h; cases x <;> simp [D.plain] at h1 <;> cases y <;> simp [D.plain] at h2 <;> simp [D.nk] at h <;> first | rfl | rw [h]
  | succ n ih =>
    intro x y h1 h2 h
    cases x <;> simp only [D.plain, Bool.false_eq_true] at h1 <;> cases y <;> simp only [D.plain, Bool.false_eq_true] at h2 <;> simp [D.nk] at h <;> first
      | rfl
      | rw [h]
      | rw [nks_inj ih _ _ h1 h2 h]
/-! ### a dict's cell -/
def dctAt (st : Store) (n : Nat) : Option (List (D × D)) := match st[n]? with
  | some (.dct kvs) => some kvs
  | _ => none
theorem dct_lst {st : Store} {n : Nat} {xs : List D} (h : lstAt st n = some xs) : dctAt st n = none := by
  unfold lstAt at h
  unfold dctAt
  split at h
  · rename_i e
    rw [e]
  · cases h
theorem lst_dct {st : Store} {n : Nat} {kvs : List (D × D)} (h : dctAt st n = some kvs) : lstAt st n = none := by
  unfold dctAt at h
  unfold lstAt
  split at h
  · rename_i e
    rw [e]
  · cases h
theorem SS.dict {K : KW} {m : List Addr} {st : Store} {H : Hp} {n : Nat} {kvs : List (D × D)} {a : Addr} (s : SS K m st H) (h : dctAt st n = some kvs) (e : m[n]? = some a) : RC K m H a (.dct kvs) := by
  unfold dctAt at h
  split at h
  · rename_i q
    cases h
    exact s.cel n _ a q e
  · cases h
def D.flatK (d : D) : Bool := match d with
  | .int _ => true
  | .str _ => true
  | _ => false
def keyFit (kvs : List (D × D)) (k : D) : Bool := (k.flatK && kvs.all fun p => p.1.flatK) || (k.tupQ && kvs.all fun p => p.1.tupQ)
def dGet (kvs : List (D × D)) (k : D) : Option D := (kvs.find? fun p => decide (p.1 = k)).map (·.2)
def dPut (kvs : List (D × D)) (k v : D) : List (D × D) := if (dGet kvs k).isSome then kvs.map (fun p => if p.1 = k then (p.1, v) else p) else kvs ++ [(k, v)]
/-- what the dict at a holds at y -/
def DG (K : KW) (H : Hp) (a : Addr) (y : V) (o : Option V) : Prop :=
  (∃ us k, H a = some (.dK us) ∧ y = kV k ∧ o = valV us k) ∨
  (∃ k b, H a = some (.dK []) ∧ y = .ref b ∧ NV K H k (.ref b) ∧ k.depth ≤ 8 ∧ o = none) ∨
  (∃ xs k b, H a = some (.ext (DObj K.w a xs)) ∧ y = .ref b ∧ NV K H k (.ref b) ∧ k.depth ≤ 8 ∧ (∀ x ∈ xs, NV K H x.1 (.ref x.2.1) ∧ x.1.depth ≤ 8) ∧ o = (xs.find? fun x => decide (x.1 = k)).map (·.2.2))
theorem keyD_inj {a b : Key} (h : keyD a = keyD b) : a = b := by
  cases a <;> cases b <;> simp [keyD] at h
  · rw [h]
  · rename_i x y
    have : x = y := by
      cases x; cases y
      simp only [PySem.Str.mk.injEq]
      exact h
    rw [this]
theorem flatK_of {K : PySem.W.Frag} {m : List Addr} {H : Hp} {k : D} {v : V} (h : k.flatK = true) (r : RD K m H k v) : ∃ q : Key, k = keyD q ∧ v = kV q := by
  cases r with
  | int i => exact ⟨.inl i, rfl, rfl⟩
  | str x => exact ⟨.inr ⟨x.toArray⟩, by simp [keyD], rfl⟩
  | _ => cases h
theorem tupQ_of {K : PySem.W.Frag} {m : List Addr} {H : Hp} {k : D} {v : V} (h : k.tupQ = true) (r : RD K m H k v) : ∃ b, v = .ref b ∧ NV K H k.nk (.ref b) ∧ k.nk.depth ≤ 8 := by
  cases r with
  | tup s rs =>
    obtain ⟨z1, z2⟩ := nv_of 8 _ _ h (.tup s rs)
    exact ⟨_, rfl, z1, z2⟩
  | _ => cases h
/-- a found value and its value -/
def OptR (K : PySem.W.Frag) (m : List Addr) (H : Hp) (o : Option D) (u : Option V) : Prop := match o, u with
  | none, none => True
  | some d, some v => RD K m H d v
  | _, _ => False
section
variable {K : PySem.W.Frag} {m : List Addr} {H : Hp}
theorem get1 {kvs : List (D × D)} {us : List (Key × V)} (r : DRel1 K m H kvs us) (k : Key) : OptR K m H (dGet kvs (keyD k)) (valV us k) := by
  unfold dGet valV
  induction r with
  | nil => exact True.intro
  | @cons p q ps qs h t ih =>
    obtain ⟨h1, h2⟩ := h
    by_cases e : q.1 = k
    · rw [List.find?_cons_of_pos (by simp [h1, e]), List.find?_cons_of_pos (by simp [e])]
      exact h2
    · rw [List.find?_cons_of_neg (by simp only [h1, decide_eq_true_eq]; exact fun z => e (keyD_inj z)), List.find?_cons_of_neg (by simpa using e)]
      exact ih
theorem tupQ_plain {d : D} (h : d.tupQ = true) : d.plain 8 = true := by
  cases d <;> first | exact h | cases h
theorem get2 {kvs : List (D × D)} {xs : List (NestedKey × Addr × V)} (r : DRel2 K m H kvs xs) {k : D} (hk : k.tupQ = true) : OptR K m H (dGet kvs k) ((xs.find? fun x => decide (x.1 = k.nk)).map (·.2.2)) := by
  unfold dGet
  induction r with
  | nil => exact True.intro
  | @cons p q ps qs h t ih =>
    obtain ⟨h1, h2, h3, h4⟩ := h
    by_cases e : p.1 = k
    · rw [List.find?_cons_of_pos (by simp [e]), List.find?_cons_of_pos (by simp [h2, e])]
      exact h4
    · rw [List.find?_cons_of_neg (by simpa using e), List.find?_cons_of_neg (by simp only [h2, decide_eq_true_eq]; exact fun z => e (nk_inj 8 _ _ (tupQ_plain h1) (tupQ_plain hk) z))]
      exact ih
theorem keys2 {kvs : List (D × D)} {xs : List (NestedKey × Addr × V)} (r : DRel2 K m H kvs xs) : ∀ x ∈ xs, NV K H x.1 (.ref x.2.1) ∧ x.1.depth ≤ 8 := by
  induction r with
  | nil => exact fun _ h => nomatch h
  | @cons p q ps qs h t ih =>
    intro x hx
    obtain ⟨h1, h2, h3, h4⟩ := h
    rcases List.mem_cons.mp hx with rfl | hx
    · obtain ⟨b, e, z1, z2⟩ := tupQ_of h1 h3
      cases e
      rw [h2]
      exact ⟨z1, z2⟩
    · exact ih x hx
theorem not_both {d : D} (h1 : d.flatK = true) (h2 : d.tupQ = true) : False := by cases d <;> simp [D.flatK, D.tupQ] at h1 h2
end
theorem dg_of {K : KW} {m : List Addr} {H : Hp} {a : Addr} {kvs : List (D × D)} {k : D} {v : V} (c : RC K m H a (.dct kvs)) (r : RD K m H k v) (f : keyFit kvs k = true) : ∃ o, DG K H a v o ∧ OptR K m H (dGet kvs k) o := by
  unfold keyFit at f
  rw [Bool.or_eq_true, Bool.and_eq_true, Bool.and_eq_true] at f
  rcases c with ⟨us, e, q⟩ | ⟨xs, e, ne, q⟩
  · rcases f with ⟨f1, _⟩ | ⟨f1, f2⟩
    · obtain ⟨y, rfl, rfl⟩ := flatK_of f1 r
      exact ⟨_, .inl ⟨us, y, e, rfl, rfl⟩, get1 q y⟩
    · cases q with
      | nil =>
        obtain ⟨b, rfl, z1, z2⟩ := tupQ_of f1 r
        exact ⟨none, .inr (.inl ⟨_, b, e, rfl, z1, z2, rfl⟩), True.intro⟩
      | @cons p u ps us h t =>
        rw [List.all_cons, Bool.and_eq_true] at f2
        obtain ⟨h1, _⟩ := h
        rw [h1] at f2
        cases hu : u.1 <;> rw [hu] at f2 <;> exact absurd f2.1 (by simp [keyD, D.tupQ])
  · rcases f with ⟨f1, f2⟩ | ⟨f1, _⟩
    · cases q with
      | nil => exact absurd rfl ne
      | @cons p u ps us h t =>
        rw [List.all_cons, Bool.and_eq_true] at f2
        exact (not_both f2.1 h.1).elim
    · obtain ⟨b, rfl, z1, z2⟩ := tupQ_of f1 r
      exact ⟨_, .inr (.inr ⟨xs, _, b, e, rfl, z1, z2, keys2 q, rfl⟩), get2 q f1⟩

/-! ### the operations -/
theorem paired_find {k : NestedKey} : ∀ {xs : List (NestedKey × Addr × V)} {zs : List (NestedKey × Addr × Value)}, Paired (fun p q => p.1 = q.1 ∧ p.2.1 = q.2.1 ∧ RelV p.2.2 q.2.2) xs zs → RelO ((xs.find? fun x => decide (x.1 = k)).map (·.2.2)) ((atKey zs k).map (·.2))
  | _, _, .nil => True.intro
  | _, _, .cons (a := p) (b := q) h t => by
    have ih := paired_find (k := k) t
    unfold atKey at ih ⊢
    by_cases e : p.1 = k
    · rw [List.find?_cons_of_pos (by simp [e]), List.find?_cons_of_pos (by simp [← h.1, e])]
      exact h.2.2
    · rw [List.find?_cons_of_neg (by simpa using e), List.find?_cons_of_neg (by simpa [← h.1] using e)]
      exact ih
theorem paired_is {P : Program} {w : World} {h : Heap} : ∀ {xs : List (NestedKey × Addr × V)} {zs : List (NestedKey × Addr × Value)}, Paired (fun p q => p.1 = q.1 ∧ p.2.1 = q.2.1 ∧ RelV p.2.2 q.2.2) xs zs → (∀ x ∈ xs, (nestedKind P w).is h x.1 x.2.1) → ∀ z ∈ zs, (nestedKind P w).is h z.1 z.2.1
  | _, _, .nil, _ => fun _ h => nomatch h
  | _, _, .cons (a := p) (b := q) r t, hs => fun z hz => by
    rcases List.mem_cons.mp hz with rfl | hz
    · rw [← r.1, ← r.2.1]
      exact hs p (List.mem_cons_self ..)
    · exact paired_is t (fun x hx => hs x (List.mem_cons_of_mem _ hx)) z hz
section
variable {X : Cx} {pins : List (Addr × Obj)} {σ : L2.St} {H : Hp} {s : Shared} {a : Addr} {y v : V} {u r : Value} {o : Option V} {A : Around} {E : Value → Shared → Prop}
/-- a dict of tuple keys, as the library tells it -/
theorem dobj_at {xs : List (NestedKey × Addr × V)} (I : Inv X pins σ H s) (e : H a = some (.ext (DObj X.kw.w a xs))) (hx : ∀ x ∈ xs, NV X.K H x.1 (.ref x.2.1) ∧ x.1.depth ≤ 8) :
    (a == sysModules) = false ∧ xs.length ≤ sizeLine ∧ ∃ zs, Paired (fun p q => p.1 = q.1 ∧ p.2.1 = q.2.1 ∧ RelV p.2.2 q.2.2) xs zs ∧ s.heap.DictOfH (nestedKind X.prog X.w) a zs := by
  obtain ⟨⟨hd, hz, zs, rel, ob, es, ep, h1, h2, h3, h4, h5⟩, _, _⟩ := (show ObjOk X.prog X.w H s.heap a (.ext (DObj X.w a xs)) from I.hok a _ e)
  exact ⟨hd, hz, zs, rel, ob, es, ep, h1, h2, h3, h4, paired_is rel fun x hm => ⟨nv_is I (hx x hm).1 rfl, (hx x hm).2⟩, h5⟩
theorem dk_empty_at (I : Inv X pins σ H s) (e : H a = some (.dK [])) : (a == sysModules) = false ∧ s.heap.DictOfH (nestedKind X.prog X.w) a [] := by
  obtain ⟨_, hd, vs, rel, dd⟩ := dk_of I.hok e
  cases rel
  obtain ⟨ob, es, ep, h1, h2, h3, _, h5, _⟩ := dd
  have z : es.toList = [] := by
    generalize es.toList = l at h5
    cases h5
    rfl
  exact ⟨hd, ob, es, ep, h1, h2, h3, by rw [z]; rfl, (fun _ h => nomatch h), by simp⟩
theorem nroom (hu : A.units + 10 < cLine) : (nestedKind X.prog X.w).room A.in1 := by
  show A.units + 1 + 8 < cLine
  omega
/-- d[y], there -/
theorem dg_getItem {Q : Value → Shared → Prop} (hu : A.units + 10 < cLine) (I : Inv X pins σ H s) (g : DG X.kw H a y (some v)) (ry : RelV y u) (h : ∀ w' s', Inv X pins σ H s' → RelV v w' → Q w' s') :
    wpAny (model X.prog X.w) A (getItem (.ref a) u) Q E s := by
  rcases g with ⟨us, k, e, ey, l⟩ | ⟨k, b, e, ey, n, dp, l⟩ | ⟨xs, k, b, e, ey, n, dp, hx, l⟩
  · exact d_getItem (by omega) I (.inl ⟨us, k, .inl e, ey, l⟩) ry h
  · cases l
  · subst ey
    cases (show u = Value.ref b from ry)
    obtain ⟨hd, hz, zs, rel, dd⟩ := dobj_at I e hx
    obtain ⟨w', hw, rw'⟩ := RelO.some_of (v := v) (o := (atKey zs k).map (·.2)) (by rw [l]; exact paired_find rel)
    obtain ⟨p, hp, hp2⟩ := Option.map_eq_some_iff.mp hw
    refine wpAny_getItem_heap (nroom hu) ⟨nv_is I n rfl, dp⟩ dd hp ?_
    rw [hp2]
    exact h w' _ (I.tok _) rw'
theorem dg_in {Q : Value → Shared → Prop} (hu : A.units + 10 < cLine) (I : Inv X pins σ H s) (g : DG X.kw H a y o) (ry : RelV y u) (h : ∀ s', Inv X pins σ H s' → Q (.bool o.isSome) s') :
    wpAny (model X.prog X.w) A (compareOp .In u (.ref a)) Q E s := by
  rcases g with ⟨us, k, e, ey, l⟩ | ⟨k, b, e, ey, n, dp, l⟩ | ⟨xs, k, b, e, ey, n, dp, hx, l⟩
  · exact d_in (by omega) I (.inl ⟨us, k, .inl e, ey, l⟩) ry h
  · subst ey l
    cases (show u = Value.ref b from ry)
    obtain ⟨hd, dd⟩ := dk_empty_at I e
    exact wpAny_in_heap (nroom hu) ⟨nv_is I n rfl, dp⟩ hd dd (h _ (I.tok _))
  · subst ey
    cases (show u = Value.ref b from ry)
    obtain ⟨hd, hz, zs, rel, dd⟩ := dobj_at I e hx
    refine wpAny_in_heap (nroom hu) ⟨nv_is I n rfl, dp⟩ hd dd ?_
    have q := (paired_find (k := k) rel).isSome_eq
    rw [Option.isSome_map (x := atKey zs k)] at q
    rw [← q, ← l]
    exact h _ (I.tok _)
theorem dg_notIn {Q : Value → Shared → Prop} (hu : A.units + 10 < cLine) (I : Inv X pins σ H s) (g : DG X.kw H a y o) (ry : RelV y u) (h : ∀ s', Inv X pins σ H s' → Q (.bool (!o.isSome)) s') :
    wpAny (model X.prog X.w) A (compareOp .NotIn u (.ref a)) Q E s := by
  rcases g with ⟨us, k, e, ey, l⟩ | ⟨k, b, e, ey, n, dp, l⟩ | ⟨xs, k, b, e, ey, n, dp, hx, l⟩
  · exact d_notIn (by omega) I (.inl ⟨us, k, .inl e, ey, l⟩) ry h
  · subst ey l
    cases (show u = Value.ref b from ry)
    obtain ⟨hd, dd⟩ := dk_empty_at I e
    exact wpAny_notIn_heap (nroom hu) ⟨nv_is I n rfl, dp⟩ hd dd (h _ (I.tok _))
  · subst ey
    cases (show u = Value.ref b from ry)
    obtain ⟨hd, hz, zs, rel, dd⟩ := dobj_at I e hx
    refine wpAny_notIn_heap (nroom hu) ⟨nv_is I n rfl, dp⟩ hd dd ?_
    have q := (paired_find (k := k) rel).isSome_eq
    rw [Option.isSome_map (x := atKey zs k)] at q
    rw [← q, ← l]
    exact h _ (I.tok _)
/-- d.get(y), d.get(y, x) -/
theorem dg_get1 {Q : Value → Shared → Prop} (hu : A.units + 10 < cLine) (I : Inv X pins σ H s) (g : DG X.kw H a y o) (ry : RelV y u) (h : ∀ w' s', Inv X pins σ H s' → RelV (o.getD .non) w' → Q w' s') :
    wpAny (model X.prog X.w) A (call (.builtin "dict.get") [.ref a, u]) Q E s := by
  rcases g with ⟨us, k, e, ey, l⟩ | ⟨k, b, e, ey, n, dp, l⟩ | ⟨xs, k, b, e, ey, n, dp, hx, l⟩
  · exact d_get1 (by omega) I (.inl ⟨us, k, .inl e, ey, l⟩) ry h
  · subst ey l
    cases (show u = Value.ref b from ry)
    obtain ⟨hd, dd⟩ := dk_empty_at I e
    exact call_meetsIn PySem.F.slot_dict_get dd.typeIs PySem.F.entry_dict_get (PySem.F.args_dict_get_2 _ _) (meetsH_dict_get (nestedKind X.prog X.w) a b hd) ⟨nroom hu, k, [], ⟨nv_is I n rfl, dp⟩, dd, h _ _ (I.tok _) rfl⟩
  · subst ey
    cases (show u = Value.ref b from ry)
    obtain ⟨hd, hz, zs, rel, dd⟩ := dobj_at I e hx
    refine call_meetsIn PySem.F.slot_dict_get dd.typeIs PySem.F.entry_dict_get (PySem.F.args_dict_get_2 _ _) (meetsH_dict_get (nestedKind X.prog X.w) a b hd) ⟨nroom hu, k, zs, ⟨nv_is I n rfl, dp⟩, dd, h _ _ (I.tok _) ?_⟩
    rw [l]
    exact (paired_find (k := k) rel).getD rfl
theorem dg_get2 {d : V} {Q : Value → Shared → Prop} (hu : A.units + 10 < cLine) (I : Inv X pins σ H s) (g : DG X.kw H a y o) (ry : RelV y u) (rd : RelV d r) (h : ∀ w' s', Inv X pins σ H s' → RelV (o.getD d) w' → Q w' s') :
    wpAny (model X.prog X.w) A (call (.builtin "dict.get") [.ref a, u, r]) Q E s := by
  rcases g with ⟨us, k, e, ey, l⟩ | ⟨k, b, e, ey, n, dp, l⟩ | ⟨xs, k, b, e, ey, n, dp, hx, l⟩
  · exact d_get2 (by omega) I (.inl ⟨us, k, .inl e, ey, l⟩) ry rd h
  · subst ey l
    cases (show u = Value.ref b from ry)
    obtain ⟨hd, dd⟩ := dk_empty_at I e
    exact call_meetsIn PySem.F.slot_dict_get dd.typeIs PySem.F.entry_dict_get (PySem.F.args_dict_get_3 _ _ _) (meetsH_dict_get_default (nestedKind X.prog X.w) a b hd r) ⟨nroom hu, k, [], ⟨nv_is I n rfl, dp⟩, dd, h _ _ (I.tok _) rd⟩
  · subst ey
    cases (show u = Value.ref b from ry)
    obtain ⟨hd, hz, zs, rel, dd⟩ := dobj_at I e hx
    refine call_meetsIn PySem.F.slot_dict_get dd.typeIs PySem.F.entry_dict_get (PySem.F.args_dict_get_3 _ _ _) (meetsH_dict_get_default (nestedKind X.prog X.w) a b hd r) ⟨nroom hu, k, zs, ⟨nv_is I n rfl, dp⟩, dd, h _ _ (I.tok _) ?_⟩
    rw [l]
    exact (paired_find (k := k) rel).getD rd
end
/-! ### d[y] = v -/
def putX (xs : List (NestedKey × Addr × V)) (k : NestedKey) (b : Addr) (v : V) : List (NestedKey × Addr × V) := if (xs.any fun x => decide (x.1 = k)) then xs.map (fun x => if x.1 = k then (x.1, x.2.1, v) else x) else xs ++ [(k, b, v)]
theorem paired_any {k : NestedKey} : ∀ {xs : List (NestedKey × Addr × V)} {zs : List (NestedKey × Addr × Value)}, Paired (fun p q => p.1 = q.1 ∧ p.2.1 = q.2.1 ∧ RelV p.2.2 q.2.2) xs zs → (xs.any fun x => decide (x.1 = k)) = (atKey zs k).isSome
  | _, _, .nil => rfl
  | _, _, .cons (a := p) (b := q) h t => by
    have ih := paired_any (k := k) t
    unfold atKey at ih ⊢
    rw [List.any_cons, ih]
    by_cases e : p.1 = k
    · rw [List.find?_cons_of_pos (by simp [← h.1, e])]
      simp [e]
    · rw [List.find?_cons_of_neg (by simpa [← h.1] using e)]
      simp [e]
theorem paired_map {k : NestedKey} {v : V} {r : Value} (rv : RelV v r) : ∀ {xs : List (NestedKey × Addr × V)} {zs : List (NestedKey × Addr × Value)}, Paired (fun p q => p.1 = q.1 ∧ p.2.1 = q.2.1 ∧ RelV p.2.2 q.2.2) xs zs → Paired (fun p q => p.1 = q.1 ∧ p.2.1 = q.2.1 ∧ RelV p.2.2 q.2.2) (xs.map (fun x => if x.1 = k then (x.1, x.2.1, v) else x)) (zs.map (putAt k r))
  | _, _, .nil => .nil
  | _, _, .cons (a := p) (b := q) h t => by
    refine .cons ?_ (paired_map rv t)
    unfold putAt
    simp only []
    by_cases e : p.1 = k
    · rw [if_pos e, if_pos (by rw [← h.1]; exact e)]
      exact ⟨h.1, h.2.1, rv⟩
    · rw [if_neg e, if_neg (by rw [← h.1]; exact e)]
      exact h
theorem paired_put {k : NestedKey} {b : Addr} {v : V} {r : Value} (rv : RelV v r) {xs : List (NestedKey × Addr × V)} {zs : List (NestedKey × Addr × Value)} (rel : Paired (fun p q => p.1 = q.1 ∧ p.2.1 = q.2.1 ∧ RelV p.2.2 q.2.2) xs zs) :
    Paired (fun p q => p.1 = q.1 ∧ p.2.1 = q.2.1 ∧ RelV p.2.2 q.2.2) (putX xs k b v) (storedH zs k b r) := by
  unfold putX storedH
  rw [paired_any rel]
  by_cases e : (atKey zs k).isSome = true
  · rw [if_pos e, if_pos e]
    exact paired_map rv rel
  · rw [if_neg e, if_neg e]
    exact Paired.snoc rel ⟨rfl, rfl, rv⟩
theorem putX_len {xs : List (NestedKey × Addr × V)} {k : NestedKey} {b : Addr} {v : V} : (putX xs k b v).length ≤ xs.length + 1 := by
  unfold putX
  split <;> simp
/-- the heap behind a[y] = v -/
def DP (K : KW) (H : Hp) (a : Addr) (y v : V) (H' : Hp) : Prop :=
  (∃ us k, H a = some (.dK us) ∧ y = kV k ∧ us.length < sizeLine ∧ H' = upd H a (.dK (putK us k v))) ∨
  (∃ k b, H a = some (.dK []) ∧ y = .ref b ∧ NV K H k (.ref b) ∧ k.depth ≤ 8 ∧ H' = upd H a (.ext (DObj K.w a [(k, b, v)]))) ∨
  (∃ xs k b, H a = some (.ext (DObj K.w a xs)) ∧ y = .ref b ∧ NV K H k (.ref b) ∧ k.depth ≤ 8 ∧ (∀ x ∈ xs, NV K H x.1 (.ref x.2.1) ∧ x.1.depth ≤ 8) ∧ xs.length < sizeLine ∧ H' = upd H a (.ext (DObj K.w a (putX xs k b v))))
theorem dobj_ok {P : Program} {w : World} {a : Addr} {xs : List (NestedKey × Addr × V)} {H' : Hp} {h' : Heap} {zs : List (NestedKey × Addr × Value)} (hd : (a == sysModules) = false) (hz : xs.length ≤ sizeLine) (rel : Paired (fun p q => p.1 = q.1 ∧ p.2.1 = q.2.1 ∧ RelV p.2.2 q.2.2) xs zs)
    (dd : h'.DictOfH (nestedKind P w) a zs) : ObjOk P w H' h' a (.ext (DObj w a xs)) := by
  obtain ⟨ob, es, ep, h1, h2, h3, h4, _, h5⟩ := dd
  refine ⟨⟨hd, hz, zs, rel, ob, es, ep, h1, h2, h3, h4, h5⟩, ⟨ob, h1⟩, fun g1 g2 ⟨_, _, zs', rel', ob', es', ep', h1', r'⟩ st => ⟨hd, hz, zs', rel', ob', es', ep', st _ h1', r'⟩⟩
section
variable {X : Cx} {pins : List (Addr × Obj)} {σ : L2.St} {H H' : Hp} {s : Shared} {a : Addr} {y v : V} {u r : Value} {A : Around} {E : Value → Shared → Prop}
theorem dg_set {Q : Unit → Shared → Prop} (hu : A.units + 10 < cLine) (I : Inv X pins σ H s) (g : DP X.kw H a y v H') (ry : RelV y u) (rv : RelV v r) (h : ∀ s', Inv X pins σ H' s' → Q () s') :
    wpAny (model X.prog X.w) A (setItem (.ref a) u r) Q E s := by
  rcases g with ⟨us, k, e, ey, l, eH⟩ | ⟨k, b, e, ey, n, dp, eH⟩ | ⟨xs, k, b, e, ey, n, dp, hx, l, eH⟩
  · exact d_setItem (by omega) I (.inl ⟨us, k, e, ey, l, eH⟩) ry rv h
  · subst ey eH
    cases (show u = Value.ref b from ry)
    obtain ⟨hd, dd⟩ := dk_empty_at I e
    refine wpAny_setItem_heap (hsz := Nat.zero_le _) (nroom hu) ⟨nv_is I n rfl, dp⟩ dd fun h' dd' hs => h _ ?_
    have he : ∃ q, h'.get? a = some q := let ⟨q, _, _, hq, _⟩ := dd'; ⟨q, hq⟩
    refine d_write I (by rw [e]; exact True.intro) hs he (dobj_ok hd (by rw [PySem.sizeLine_eq]; show 1 ≤ _; omega) ?_ dd')
    exact .cons ⟨rfl, rfl, rv⟩ .nil
  · subst ey eH
    cases (show u = Value.ref b from ry)
    obtain ⟨hd, hz, zs, rel, dd⟩ := dobj_at I e hx
    refine wpAny_setItem_heap (hsz := by rw [← Paired.length rel]; exact hz) (nroom hu) ⟨nv_is I n rfl, dp⟩ dd fun h' dd' hs => h _ ?_
    have he : ∃ q, h'.get? a = some q := let ⟨q, _, _, hq, _⟩ := dd'; ⟨q, hq⟩
    exact d_write I (by rw [e]; exact True.intro) hs he (dobj_ok hd (by have := putX_len (xs := xs) (k := k) (b := b) (v := v); omega) (paired_put rv rel) dd')
end

/-! ### the store's side -/
theorem dp_of {K : KW} {m : List Addr} {st : Store} {H : Hp} {n : Nat} {kvs : List (D × D)} {k d : D} {y v : V} {a : Addr} (hS : SS K m st H) (hk : dctAt st n = some kvs) (hn : m[n]? = some a) (rk : RD K m H k y) (rv : RD K m H d v) (f : keyFit kvs k = true) (hl : kvs.length < 16777216) :
    ∃ H', DP K H a y v H' ∧ Ext K m H m H' ∧ SS K m (st.set n (.dct (dPut kvs k d))) H' := by
  have c := hS.dict hk hn
  have f' := f
  unfold keyFit at f'
  rw [Bool.or_eq_true, Bool.and_eq_true, Bool.and_eq_true] at f'
  rcases c with ⟨us, e, q⟩ | ⟨xs, e, ne, q⟩
  · have mu : Mut (H a) := by rw [e]; exact True.intro
    rcases f' with ⟨f1, _⟩ | ⟨f1, f2⟩
    · obtain ⟨w, rfl, rfl⟩ := flatK_of f1 rk
      refine ⟨_, .inl ⟨us, w, e, rfl, below_line (by rw [← Paired.length q]; exact hl), rfl⟩, Ext.writeM mu hn, hS.writeM mu hn (.inl ⟨_, upd_same, ?_⟩)⟩
      have kp : ∀ o : HO, Kp K m H m (upd H a o) := fun _ => Kp.writeM mu
      unfold dPut putK
      have ea : (dGet kvs (keyD w)).isSome = (us.any fun kv => decide (kv.1 = w)) := by
        have z := get1 q w
        rw [valV_any]
        cases h1 : dGet kvs (keyD w) <;> cases h2 : valV us w <;> rw [h1, h2] at z <;> first | rfl | exact z.elim
      rw [ea]
      split
      · have go : ∀ {kvs us}, DRel1 K m H kvs us → Paired (fun (p : D × D) (q : Key × V) => p.1 = keyD q.1 ∧ RD K m H p.2 q.2) (kvs.map fun p => if p.1 = keyD w then (p.1, d) else p) (us.map fun kv => if kv.1 = w then (kv.1, v) else kv) := fun {kvs us} r => by
          induction r with
          | nil => exact .nil
          | @cons p u ps us h t ih =>
            refine .cons ?_ ih
            simp only []
            by_cases e : u.1 = w
            · rw [if_pos e, if_pos (by rw [h.1, e])]
              exact ⟨h.1, rv⟩
            · rw [if_neg e, if_neg (by rw [h.1]; exact fun z => e (keyD_inj z))]
              exact h
        exact DRel1.kp (go q) (kp _)
      · exact DRel1.kp (Paired.snoc q ⟨rfl, rv⟩) (kp _)
    · have hnil : kvs = [] ∧ us = [] := by
        cases q with
        | nil => exact ⟨rfl, rfl⟩
        | @cons p u ps us h t =>
          rw [List.all_cons, Bool.and_eq_true] at f2
          obtain ⟨h1, _⟩ := h
          rw [h1] at f2
          cases hu : u.1 <;> rw [hu] at f2 <;> exact absurd f2.1 (by simp [keyD, D.tupQ])
      obtain ⟨rfl, rfl⟩ := hnil
      obtain ⟨b, rfl, z1, z2⟩ := tupQ_of f1 rk
      refine ⟨_, .inr (.inl ⟨k.nk, b, e, rfl, z1, z2, rfl⟩), Ext.writeM mu hn, hS.writeM mu hn (.inr ⟨_, upd_same, by simp, ?_⟩)⟩
      have kp : ∀ o : HO, Kp K m H m (upd H a o) := fun _ => Kp.writeM mu
      have e0 : dPut [] k d = [(k, d)] := rfl
      rw [e0]
      exact .cons ⟨f1, rfl, rk.kp (kp _), rv.kp (kp _)⟩ .nil
  · have mu : Mut (H a) := by rw [e]; exact True.intro
    rcases f' with ⟨f1, f2⟩ | ⟨f1, _⟩
    · cases q with
      | nil => exact absurd rfl ne
      | @cons p u ps us h t =>
        rw [List.all_cons, Bool.and_eq_true] at f2
        exact (not_both f2.1 h.1).elim
    · obtain ⟨b, rfl, z1, z2⟩ := tupQ_of f1 rk
      refine ⟨_, .inr (.inr ⟨xs, k.nk, b, e, rfl, z1, z2, keys2 q, below_line (by rw [← Paired.length q]; exact hl), rfl⟩), Ext.writeM mu hn, hS.writeM mu hn (.inr ⟨_, upd_same, ?_, ?_⟩)⟩
      · unfold putX
        split
        · intro z
          exact ne (List.map_eq_nil_iff.mp z)
        · simp
      · have kp : ∀ o : HO, Kp K m H m (upd H a o) := fun _ => Kp.writeM mu
        unfold dPut putX
        have ea : (dGet kvs k).isSome = (xs.any fun x => decide (x.1 = k.nk)) := by
          have z := get2 q f1
          have z2 : (xs.any fun x => decide (x.1 = k.nk)) = ((xs.find? fun x => decide (x.1 = k.nk)).map (·.2.2)).isSome := by
            rw [Option.isSome_map, Bool.eq_iff_iff, List.find?_isSome]
            simp
          rw [z2]
          cases h1 : dGet kvs k <;> cases h2 : (xs.find? fun x => decide (x.1 = k.nk)).map (·.2.2) <;> rw [h1, h2] at z <;> first | rfl | exact z.elim
        rw [ea]
        split
        · have go : ∀ {kvs xs}, DRel2 K m H kvs xs → DRel2 K m H (kvs.map fun p => if p.1 = k then (p.1, d) else p) (xs.map fun x => if x.1 = k.nk then (x.1, x.2.1, v) else x) := fun {kvs xs} r => by
            induction r with
            | nil => exact .nil
            | @cons p u ps us h t ih =>
              refine .cons ?_ ih
              simp only []
              by_cases e : p.1 = k
              · rw [if_pos e, if_pos (by rw [h.2.1, e])]
                exact ⟨h.1, h.2.1, h.2.2.1, rv⟩
              · rw [if_neg e, if_neg (by rw [h.2.1]; exact fun z => e (nk_inj 8 _ _ (tupQ_plain h.1) (tupQ_plain f1) z))]
                exact h
          exact DRel2.kp (go q) (kp _)
        · exact DRel2.kp (Paired.snoc q ⟨f1, rfl, rk, rv⟩) (kp _)
/-! ### {}, d[k], k in d, d[k] = v, len(d) -/
section
variable {X : Cx} {W : WX} {e o a b c : Expr} {es : List Expr} {pos p : Pos} {f fo fa fb fe fi : EM D} {fs : EM (List D)}
def eDct : EM D := fun _ st => .ok (.ref st.length) (st ++ [.dct []])
theorem ex_dct : Ex X W (.Dict [] [] pos) eDct := ⟨fun m τ st σ H Q hL hS hP pins s I => pe_dnewK.run pins s σ H Q I fun p hp => by
  refine hP (m ++ [p]) _ _ (Ext.app hp) (hS.app hp (.inl ⟨[], upd_same, .nil⟩)) (.ref ?_)
  rw [← hS.len]
  simp⟩
def rDG (K : KW) : R2 := fun x y H Q => ∃ a v, x = .ref a ∧ DG K H a y (some v) ∧ Q v H
theorem dg_typeIs {pins : List (Addr × Obj)} {σ : L2.St} {H : Hp} {s : Shared} {a : Addr} {y : V} {o : Option V} (I : Inv X pins σ H s) (g : DG X.kw H a y o) : s.TypeIs (.ref a) "dict" := by
  rcases g with ⟨us, k, e, ey, l⟩ | ⟨k, b, e, ey, n, dp, l⟩ | ⟨xs, k, b, e, ey, n, dp, hx, l⟩
  · obtain ⟨_, _, vs, _, dd⟩ := dk_of I.hok e
    exact dd.typeIs
  · exact (dk_empty_at I e).2.typeIs
  · obtain ⟨_, _, zs, _, dd⟩ := dobj_at I e hx
    exact dd.typeIs
theorem ix_dg (hu : X.A.units + 10 < cLine) : IxR X (rDG X.kw) := by
  intro value slice pins s σ H x y v u Q I rx ry h hs
  obtain ⟨a, z, rfl, g, q⟩ := h
  cases (show v = Value.ref a from rx)
  exact tail_any (dg_typeIs I g) PySem.F.slot_dict_getitem.lookup (dg_getItem hu I g ry fun w' s' I' rw' => ⟨z, H, I', rw', q⟩) hs
theorem get_dg (hu : X.A.units + 10 < cLine) : PGet X (rDG X.kw) := by
  intro pins s σ H x y v u Q I rx ry h
  obtain ⟨a, z, rfl, g, q⟩ := h
  cases (show v = Value.ref a from rx)
  exact dg_getItem hu I g ry fun w' s' I' rw' => ⟨z, H, I', rw', q⟩
def oIx : O2 := fun x y st => match x with
  | .ref n => match dctAt st n with
    | some kvs => if keyFit kvs y then match dGet kvs y with
        | some d => .ok d st
        | none => .bad
      else .bad
    | none => oIxS x y st
  | _ => oIxS x y st
theorem dg_some {m : List Addr} {st : Store} {H : Hp} {n : Nat} {kvs : List (D × D)} {dy d : D} {vx vy : V} {E : XK} {Q : VK} (hS : SS X.kw m st H) (hk : dctAt st n = some kvs) (rx : RD X.K m H (.ref n) vx) (ry : RD X.K m H dy vy) (f : keyFit kvs dy = true) (hd : dGet kvs dy = some d)
    (hP : Pe X.kw E (RD X.K) m H (.ok d st) Q) : rDG X.kw vx vy H Q := by
  cases rx with
  | ref q =>
    obtain ⟨o, g, r⟩ := dg_of (hS.dict hk q) ry f
    rw [hd] at r
    cases o with
    | none => exact r.elim
    | some v => exact ⟨_, v, rfl, g, hP.now hS r⟩
theorem m_ix (hu : X.A.units + 65 < cLine) : IxM X W oIx := by
  obtain ⟨r, hr, h⟩ := m_ixS (X := X) (W := W)
  refine ⟨_, hr.or (ix_dg (by omega)), fun m st H dx dy x y E Q hS r1 r2 hP => ?_⟩
  unfold oIx at hP
  split at hP
  · split at hP
    · rename_i kvs hk
      split at hP
      · rename_i f
        split at hP
        · rename_i d hd
          exact .inr (dg_some hS hk r1 r2 f hd hP)
        · exact hP.elim
      · exact hP.elim
    · exact .inl (h m st H _ dy x y E Q hS r1 r2 hP)
  · exact .inl (h m st H dx dy x y E Q hS r1 r2 hP)
/-! in -/
def dIn (x y : D) (st : Store) : Option Bool := match y with
  | .ref n => match dctAt st n with
    | some kvs => if keyFit kvs x then some (dGet kvs x).isSome else none
    | none => dInS x y st
  | _ => dInS x y st
def oIn : O2 := fun x y st => match dIn x y st with
  | some b => .ok (.bl b) st
  | none => .bad
def oNotIn : O2 := fun x y st => match dIn x y st with
  | some b => .ok (.bl !b) st
  | none => .bad
theorem optR_some {K : PySem.W.Frag} {m : List Addr} {H : Hp} {o : Option D} {u : Option V} (r : OptR K m H o u) : o.isSome = u.isSome := by
  cases o <;> cases u <;> first | rfl | exact r.elim
theorem m_in (hu : X.A.units + 65 < cLine) : OpM X W (compareOp .In) oIn := fun m st σ H dx dy x y Q hS r1 r2 hP pins s v u I rx ry => by
  have old := fun hP => m_inS (W := W) hu m st σ H dx dy x y Q hS r1 r2 hP pins s v u I rx ry
  unfold oIn dIn at hP
  unfold oInS at old
  cases dy with
  | ref n =>
    simp only at hP
    cases hk : dctAt st n with
    | some kvs =>
      rw [hk] at hP
      simp only at hP
      by_cases f : keyFit kvs dx = true
      · rw [if_pos f] at hP
        cases r2 with
        | ref q =>
          obtain ⟨o, g, r⟩ := dg_of (hS.dict hk q) r1 f
          cases (show u = Value.ref _ from ry)
          refine dg_in (by omega) I g rx fun s' I' => ⟨.bl o.isSome, H, I', rfl, ?_⟩
          rw [← optR_some r]
          exact hP.now hS (.bl _)
      · rw [if_neg f] at hP
        exact hP.elim
    | none =>
      rw [hk] at hP
      exact old hP
  | _ => exact old hP
theorem m_notin (hu : X.A.units + 65 < cLine) : OpM X W (compareOp .NotIn) oNotIn := fun m st σ H dx dy x y Q hS r1 r2 hP pins s v u I rx ry => by
  have old := fun hP => m_notinS (W := W) hu m st σ H dx dy x y Q hS r1 r2 hP pins s v u I rx ry
  unfold oNotIn dIn at hP
  unfold oNotInS at old
  cases dy with
  | ref n =>
    simp only at hP
    cases hk : dctAt st n with
    | some kvs =>
      rw [hk] at hP
      simp only at hP
      by_cases f : keyFit kvs dx = true
      · rw [if_pos f] at hP
        cases r2 with
        | ref q =>
          obtain ⟨o, g, r⟩ := dg_of (hS.dict hk q) r1 f
          cases (show u = Value.ref _ from ry)
          refine dg_notIn (by omega) I g rx fun s' I' => ⟨.bl (!o.isSome), H, I', rfl, ?_⟩
          rw [← optR_some r]
          exact hP.now hS (.bl _)
      · rw [if_neg f] at hP
        exact hP.elim
    | none =>
      rw [hk] at hP
      exact old hP
  | _ => exact old hP
/-! o[i] = v -/
def rSet (K : KW) : V → V → V → Hp → (Hp → Prop) → Prop := fun o i v H Q => rSetL o i v H Q ∨ ∃ a H', o = .ref a ∧ DP K H a i v H' ∧ Q H'
theorem set_any (hu : X.A.units + 10 < cLine) : PSet X (rSet X.kw) := by
  intro pins s σ H o i v ov iv u Q I ro ri rv h
  rcases h with h | ⟨a, H', rfl, g, q⟩
  · exact set_list pins s σ H o i v ov iv u Q I ro ri rv h
  · cases (show ov = Value.ref a from ro)
    exact dg_set hu I g ri rv fun s' I' => ⟨H', I', q⟩
def oSet : D → D → D → Store → Option Store := fun o i v st => match o with
  | .ref n => match dctAt st n with
    | some kvs => if keyFit kvs i && decide (kvs.length < 16777216) then some (st.set n (.dct (dPut kvs i v))) else none
    | none => oSetS o i v st
  | _ => oSetS o i v st
theorem set_read {K : KW} {m : List Addr} {st st' : Store} {H : Hp} {o i v : D} {vo vi vv : V} (hS : SS K m st H) (ro : RD K m H o vo) (ri : RD K m H i vi) (rv : RD K m H v vv) (h : oSet o i v st = some st') :
    ∃ H', Ext K m H m H' ∧ SS K m st' H' ∧ ∀ Q : Hp → Prop, Q H' → rSet K vo vi vv H Q := by
  have old : oSetS o i v st = some st' → ∃ H', Ext K m H m H' ∧ SS K m st' H' ∧ ∀ Q : Hp → Prop, Q H' → rSet K vo vi vv H Q := fun h => by
    obtain ⟨p, xs, k, j, q1, q2, q3, q4, q5, q6⟩ := set_readS hS ro ri rv h
    exact ⟨_, q5, q6, fun Q q => .inl ⟨p, xs, k, j, q1, q2, q3, q4, q⟩⟩
  unfold oSet at h
  cases o with
  | ref n =>
    simp only at h
    cases hk : dctAt st n with
    | some kvs =>
      rw [hk] at h
      simp only at h
      by_cases f : (keyFit kvs i && decide (kvs.length < 16777216)) = true
      · rw [if_pos f] at h
        cases h
        rw [Bool.and_eq_true, decide_eq_true_eq] at f
        cases ro with
        | ref q =>
          obtain ⟨H', g, e, s⟩ := dp_of hS hk q ri rv f.1 f.2
          exact ⟨H', e, s, fun Q z => .inr ⟨_, H', rfl, g, z⟩⟩
      · rw [if_neg f] at h
        cases h
    | none =>
      rw [hk] at h
      exact old h
  | _ => exact old h
def sSub (fo fi fe : EM D) : SM := fun τ st => bindE (fe τ st) τ fun v s1 => bindE (fo τ s1) τ fun o s2 => bindE (fi τ s2) τ fun i s3 => match oSet o i v s3 with
  | some s4 => .nx τ s4
  | none => .bad
theorem sx_sub {o i : Expr} {p' : Pos} {fo fi : EM D} (hu : X.A.units + 65 < cLine) (he : Ex X W e fe) (ho : Ex X W o fo) (hi : Ex X W i fi)
    (ha : ∀ v, assign (.Subscript o i p') X.env v = (do
      let ov ← holding [v] (eval o X.env)
      let iv ← holding [v, ov] (eval i X.env)
      standAt p'
      holding [v, ov, iv] (setItem ov iv v)
      release [v, ov, iv] []) := by intro _; rfl)
    (hs : swapsWithSole [.Subscript o i p'] e pos.line X.env = pure false := by rfl) (hw : swappedStores [.Subscript o i p'] e X.env = pure none := by rfl) (h1 : (assignEach [.Subscript o i p'] X.env).map (·.2) = [assign (.Subscript o i p') X.env] := by rfl) : Sx X W (.Assign [.Subscript o i p'] e pos) (sSub fo fi fe) := by
  refine ⟨fun m τ s σ H D hL hS hP pins sh I => (ps_asg peW (pg_sub peW peW (set_any (by omega)) ha) hs hw h1).run pins sh σ H D I ?_⟩
  refine he.run m τ s σ H _ hL hS (hP.bind hL fun v s1 m1 H1 vv e1 hS1 r1 hP1 => ?_)
  refine ho.run m1 τ s1 σ H1 _ (hL.mono e1) hS1 (hP1.bind (hL.mono e1) fun o s2 m2 H2 vo e2 hS2 r2 hP2 => ?_)
  refine hi.run m2 τ s2 σ H2 _ ((hL.mono e1).mono e2) hS2 (hP2.bind ((hL.mono e1).mono e2) fun i s3 m3 H3 vi e3 hS3 r3 hP3 => ?_)
  split at hP3
  · rename_i s4 h4
    obtain ⟨H4, q5, q6, q7⟩ := set_read hS3 (r2.mono e3) r3 ((r1.mono e2).mono e3) h4
    exact q7 _ (hP3 m3 _ σ q5 q6 ((((hL.mono e1).mono e2).mono e3).mono q5))
  · exact hP3.elim
/-! o[i] op= e -/
def oGetL : O2 := fun x i st => match x with
  | .ref n => match dctAt st n with
    | some kvs => if keyFit kvs i then match dGet kvs i with
        | some d => .ok d st
        | none => .bad
      else .bad
    | none => oGetLS x i st
  | _ => oGetLS x i st
def sAugS (o : O2) (fo fi fe : EM D) : SM := fun τ st => bindE (fo τ st) τ fun x s1 => bindE (fi τ s1) τ fun i s2 => bindE (oGetL x i s2) τ fun y s3 => bindE (fe τ s3) τ fun z s4 => bindE (o y z s4) τ fun v s5 => match oSet x i v s5 with
  | some s6 => .nx τ s6
  | none => .bad
def rGet (K : KW) : R2 := fun x y H Q => rIxL K x y H Q ∨ rDG K x y H Q
theorem get_any (hu : X.A.units + 10 < cLine) : PGet X (rGet X.kw) := by
  intro pins s σ H x y v u Q I rx ry h
  rcases h with h | h
  · exact get_list pins s σ H x y v u Q I rx ry h
  · exact get_dg hu pins s σ H x y v u Q I rx ry h
theorem getL_read {m : List Addr} {st : Store} {H : Hp} {x i : D} {vx vi : V} {E : XK} {Q : VK} (hS : SS X.kw m st H) (rx : RD X.K m H x vx) (ri : RD X.K m H i vi) (h : Pe X.kw E (RD X.K) m H (oGetL x i st) Q) : rGet X.kw vx vi H Q := by
  unfold oGetL at h
  split at h
  · split at h
    · rename_i kvs hk
      split at h
      · rename_i f
        split at h
        · rename_i d hd
          exact .inr (dg_some hS hk rx ri f hd h)
        · exact h.elim
      · exact h.elim
    · exact .inl (getL_readS hS rx ri h)
  · exact .inl (getL_readS hS rx ri h)
end
section
variable {X : Cx} {W : WX} {e o a b c : Expr} {es : List Expr} {pos p : Pos} {f fo fa fb fe fi : EM D} {fs : EM (List D)}
theorem sx_augS {o i : Expr} {p' : Pos} {fo fi : EM D} {op : Operator} {op2 : O2} (hu : X.A.units + 65 < cLine) (ho : Ex X W o fo) (hi : Ex X W i fi) (he : Ex X W e fe) (hop : OpM X W (inplaceOp op) op2)
    (ha : ∀ ov iv new, augStore i ov iv new = (do holding [new, ov, iv] (setItem ov iv new); release [new, ov, iv] []; pure .next) := by intros; rfl) : Sx X W (.AugAssign (.Subscript o i p') op e pos) (sAugS op2 fo fi fe) := by
  refine ⟨fun m τ s σ H D hL hS hP pins sh I => ?_⟩
  have read : wE X o σ H fun vo H1 => wE X i σ H1 fun vi H2 => rGet X.kw vo vi H2 fun vy H3 => wE X e σ H3 fun vz H4 => wR2 X (inplaceOp op) σ vy vz H4 fun vv H5 => rSet X.kw vo vi vv H5 fun H6 => D.nx σ H6 := by
    refine ho.run m τ s σ H _ hL hS (hP.bind hL fun dx s1 m1 H1 vx e1 hS1 r1 hP1 => ?_)
    have hL1 := hL.mono e1
    refine hi.run m1 τ s1 σ H1 _ hL1 hS1 (hP1.bind hL1 fun di s2 m2 H2 vi e2 hS2 r2 hP2 => ?_)
    have hL2 := hL1.mono e2
    refine getL_read hS2 (r1.mono e2) r2 (hP2.bind hL2 fun dy s3 m3 H3 vy e3 hS3 r3 hP3 => ?_)
    have hL3 := hL2.mono e3
    refine he.run m3 τ s3 σ H3 _ hL3 hS3 (hP3.bind hL3 fun dz s4 m4 H4 vz e4 hS4 r4 hP4 => ?_)
    have hL4 := hL3.mono e4
    intro pins s v u I rv ru
    refine hop m4 s4 σ H4 dy dz vy vz _ hS4 (r3.mono e4) r4 (hP4.bind hL4 fun dv s5 m5 H5 vv e5 hS5 r5 hP5 => ?_) pins s v u I rv ru
    have hL5 := hL4.mono e5
    split at hP5
    · rename_i s6 h6
      have e25 := ((e3.trans e4).trans e5)
      obtain ⟨H6, q5, q6, q7⟩ := set_read hS5 ((r1.mono e2).mono e25) (r2.mono e25) r5 h6
      exact q7 _ (hP5 m5 _ σ q5 q6 (hL5.mono q5))
    · exact hP5.elim
  refine wpAny_AugAssign_SubscriptAny (thn (read pins sh I) fun ov s1 ⟨x1, H1, I1, r1, q1⟩ => ?_) ha
  refine thn (q1 pins s1 I1) fun iv s2 ⟨x2, H2, I2, r2, q2⟩ => ?_
  refine thn (get_any (by omega) pins s2 σ H2 x1 x2 ov iv _ I2 r1 r2 q2) fun old s3 ⟨x3, H3, I3, r3, q3⟩ => ?_
  refine thn (q3 pins s3 I3) fun v s4 ⟨x4, H4, I4, r4, q4⟩ => ?_
  refine thn (q4 pins s4 old v I4 r3 r4) fun new s5 ⟨x5, H5, I5, r5, q5⟩ => ?_
  exact thn (set_any (by omega) pins s5 σ H5 x1 x2 x5 ov iv new _ I5 r1 r2 r5 q5) fun _ s6 ⟨H6, I6, q6⟩ => ⟨σ, H6, I6, q6⟩
/-! len -/
/-- it is a dict with so many entries -/
def IsDG (K : KW) (H : Hp) (a : Addr) (n : Nat) : Prop := (∃ us, H a = some (.dK us) ∧ us.length = n) ∨ ∃ xs, H a = some (.ext (DObj K.w a xs)) ∧ (∀ x ∈ xs, NV K H x.1 (.ref x.2.1) ∧ x.1.depth ≤ 8) ∧ xs.length = n
theorem isDG_of {K : KW} {m : List Addr} {st : Store} {H : Hp} {n : Nat} {kvs : List (D × D)} {v : V} (hS : SS K m st H) (hk : dctAt st n = some kvs) (r : RD K m H (.ref n) v) : ∃ a, v = .ref a ∧ IsDG K H a kvs.length := by
  cases r with
  | ref q =>
    rcases hS.dict hk q with ⟨us, e, r⟩ | ⟨xs, e, ne, r⟩
    · exact ⟨_, rfl, .inl ⟨us, e, (Paired.length r).symm⟩⟩
    · exact ⟨_, rfl, .inr ⟨xs, e, keys2 r, (Paired.length r).symm⟩⟩
theorem call_len_dg : CallR X (.builtin "len") (fun xs H Q => ∃ a n, xs = [.ref a] ∧ IsDG X.kw H a n ∧ Q (.int (n : Nat)) H) := by
  intro pins s σ H xs us Q I r h
  obtain ⟨a, n, rfl, g, q⟩ := h
  obtain ⟨u, rfl, rx⟩ := vals1 r
  cases (show u = Value.ref a from rx)
  rcases g with ⟨us, e, rfl⟩ | ⟨xs, e, hx, rfl⟩
  · exact d_len I (.inl e) fun t s' I' => ⟨.int us.length, H, I', ⟨t, rfl⟩, q⟩
  · obtain ⟨hd, hz, zs, rel, dd⟩ := dobj_at I e hx
    have hl : xs.length = zs.length := Paired.length rel
    refine call_len_dictH hd dd (by rw [← hl]; rw [sizeLine_eq] at hz; omega) ?_
    rw [hl] at q
    exact ⟨.int zs.length, H, I.tok _, ⟨_, rfl⟩, q⟩
def fLen : FM := fun ds st => match ds with
  | [.ref n] => match dctAt st n with
    | some kvs => .ok (.int kvs.length) st
    | none => fLenS ds st
  | _ => fLenS ds st
theorem c_len : CallM X (.builtin "len") fLen := by
  obtain ⟨r, hr, h⟩ := c_lenS (X := X)
  refine ⟨_, hr.or call_len_dg, fun m st H ds vs E Q hS rs hP => ?_⟩
  unfold fLen at hP
  split at hP
  · split at hP
    · rename_i kvs hk
      obtain ⟨v, rfl, r1⟩ := rs.one
      obtain ⟨a, rfl, g⟩ := isDG_of hS hk r1
      exact .inr ⟨a, _, rfl, g, hP.now hS (.int _)⟩
    · exact .inl (h m st H _ vs E Q hS rs hP)
  · exact .inl (h m st H _ vs E Q hS rs hP)
/-! d.get(k), d.get(k, x) -/
theorem isDG_at {pins : List (Addr × Obj)} {σ : L2.St} {H : Hp} {s : Shared} {a : Addr} {n : Nat} (I : Inv X pins σ H s) (g : IsDG X.kw H a n) : s.TypeIs (.ref a) "dict" ∧ ∀ b, Value.ref a = .ref b → ∃ ob, s.heap.get? b = some ob ∧ ob.dict = none := by
  rcases g with ⟨us, e, rfl⟩ | ⟨xs, e, hx, rfl⟩
  · obtain ⟨_, hd, vs, _, dd⟩ := dk_of I.hok e
    refine ⟨dd.typeIs, fun b q => ?_⟩
    cases q
    obtain ⟨ob, _, _, h1, h2, _⟩ := dd
    exact ⟨ob, h1, h2.2.1⟩
  · obtain ⟨_, _, zs, _, dd⟩ := dobj_at I e hx
    refine ⟨dd.typeIs, fun b q => ?_⟩
    cases q
    obtain ⟨ob, _, _, h1, h2, _⟩ := dd
    exact ⟨ob, h1, h2.2.1⟩
def isDct (st : Store) (d : D) : Bool := match d with
  | .ref n => (dctAt st n).isSome
  | _ => false
def oDGet (d k x : D) (st : Store) : ER D := match d with
  | .ref n => match dctAt st n with
    | some kvs => if keyFit kvs k then .ok ((dGet kvs k).getD x) st else .bad
    | none => .bad
  | _ => .bad
def eGet2 (fo fa fb : EM D) : EM D := fun τ st => (fo τ st).bind fun d s1 => if isDct s1 d then (fa τ s1).bind fun k s2 => (fb τ s2).bind fun x s3 => oDGet d k x s3 else .bad
def eGet1 (fo fa : EM D) : EM D := fun τ st => (fo τ st).bind fun d s1 => if isDct s1 d then (fa τ s1).bind fun k s2 => oDGet d k .non s2 else .bad
theorem isDct_of {m : List Addr} {st : Store} {H : Hp} {d : D} {v : V} (hS : SS X.kw m st H) (h : isDct st d = true) (r : RD X.K m H d v) : ∃ a n, v = .ref a ∧ IsDG X.kw H a n := by
  unfold isDct at h
  split at h
  · obtain ⟨kvs, hk⟩ := Option.isSome_iff_exists.mp h
    obtain ⟨a, e, g⟩ := isDG_of hS hk r
    exact ⟨a, _, e, g⟩
  · cases h
theorem oDGet_of {m : List Addr} {st : Store} {H : Hp} {d k x : D} {v y z : V} {E : XK} {Q : VK} (hS : SS X.kw m st H) (r : RD X.K m H d v) (rk : RD X.K m H k y) (rx : RD X.K m H x z) (hP : Pe X.kw E (RD X.K) m H (oDGet d k x st) Q) : ∃ a o, v = .ref a ∧ DG X.kw H a y o ∧ Q (o.getD z) H := by
  unfold oDGet at hP
  split at hP
  · split at hP
    · rename_i kvs hk
      split at hP
      · rename_i f
        cases r with
        | ref q =>
          obtain ⟨o, g, ro⟩ := dg_of (hS.dict hk q) rk f
          refine ⟨_, o, rfl, g, hP.now hS ?_⟩
          cases h1 : dGet kvs k <;> cases h2 : o <;> rw [h1, h2] at ro <;> first | exact rx | exact ro | exact ro.elim
      · exact hP.elim
    · exact hP.elim
  · exact hP.elim
theorem ex_get2 {apos cpos : Pos} (hu : X.A.units + 65 < cLine) (ho : Ex X W o fo) (ha : Ex X W a fa) (hb : Ex X W b fb) (m : M2 X o "get" apos a b cpos) : Ex X W (.Call (.Attribute o "get" apos) [a, b] [] cpos) (eGet2 fo fa fb) := by
  refine ⟨fun m0 τ st σ H Q hL hS hP pins s I => ?_⟩
  have read : wE X o σ H fun vo H1 => ∃ p n, vo = .ref p ∧ IsDG X.kw H1 p n ∧ wE X a σ H1 fun y H2 => wE X b σ H2 fun z H3 => ∃ q, DG X.kw H3 p y q ∧ Q (q.getD z) H3 := by
    refine ho.run m0 τ st σ H _ hL hS (hP.bind fun d s1 m1 H1 v e1 hS1 r1 hP1 => ?_)
    split at hP1
    · rename_i hk
      obtain ⟨p, n, rfl, g⟩ := isDct_of hS1 hk r1
      refine ⟨p, n, rfl, g, ha.run m1 τ s1 σ H1 _ (hL.mono e1) hS1 (hP1.bind fun k s2 m2 H2 y e2 hS2 r2 hP2 => ?_)⟩
      refine hb.run m2 τ s2 σ H2 _ ((hL.mono e1).mono e2) hS2 (hP2.bind fun x s3 m3 H3 z e3 hS3 r3 hP3 => ?_)
      obtain ⟨p', q, e, g', hq⟩ := oDGet_of hS3 ((r1.mono e2).mono e3) (r2.mono e3) r3 hP3
      cases e
      exact ⟨q, g', hq⟩
    · exact hP1.elim
  refine wpAny_Call_method m.base m.few m.line PySem.F.plainAttrs_dict PySem.F.slot_dict_get PySem.F.type_dict_get (thn (read pins s I) fun u s1 ⟨x, H1, I1, rx, p, n, ex, g, q1⟩ => ?_)
  subst ex
  obtain rfl : u = Value.ref p := rx
  obtain ⟨t1, t2⟩ := isDG_at I1 g
  refine ⟨t1, t2, ?_⟩
  rw [m.trees]
  refine Calls.callWith_builtin rfl (Calls.evalArgs_plain (Calls.spliced_cons (thn (q1 pins s1 I1) fun iv s2 ⟨y, H2, I2, ry, q2⟩ =>
    Calls.spliced_cons (thn (q2 pins s2 I2) fun fv s3 ⟨z, H3, I3, rz, ov, g3, q3⟩ => Calls.spliced_nil ?_))))
  exact dg_get2 (by omega) I3 g3 ry rz fun w' s4 I4 rw' => ⟨_, H3, I4, rw', q3⟩
theorem ex_get1 {apos cpos : Pos} (hu : X.A.units + 65 < cLine) (ho : Ex X W o fo) (ha : Ex X W a fa) (m : M1 X o "get" apos a cpos) : Ex X W (.Call (.Attribute o "get" apos) [a] [] cpos) (eGet1 fo fa) := by
  refine ⟨fun m0 τ st σ H Q hL hS hP pins s I => ?_⟩
  have read : wE X o σ H fun vo H1 => ∃ p n, vo = .ref p ∧ IsDG X.kw H1 p n ∧ wE X a σ H1 fun y H2 => ∃ q, DG X.kw H2 p y q ∧ Q (q.getD .non) H2 := by
    refine ho.run m0 τ st σ H _ hL hS (hP.bind fun d s1 m1 H1 v e1 hS1 r1 hP1 => ?_)
    split at hP1
    · rename_i hk
      obtain ⟨p, n, rfl, g⟩ := isDct_of hS1 hk r1
      refine ⟨p, n, rfl, g, ha.run m1 τ s1 σ H1 _ (hL.mono e1) hS1 (hP1.bind fun k s2 m2 H2 y e2 hS2 r2 hP2 => ?_)⟩
      obtain ⟨p', q, e, g', hq⟩ := oDGet_of hS2 (r1.mono e2) r2 .non hP2
      cases e
      exact ⟨q, g', hq⟩
    · exact hP1.elim
  refine wpAny_Call_method m.base m.few m.line PySem.F.plainAttrs_dict PySem.F.slot_dict_get PySem.F.type_dict_get (thn (read pins s I) fun u s1 ⟨x, H1, I1, rx, p, n, ex, g, q1⟩ => ?_)
  subst ex
  obtain rfl : u = Value.ref p := rx
  obtain ⟨t1, t2⟩ := isDG_at I1 g
  refine ⟨t1, t2, ?_⟩
  rw [m.trees]
  refine Calls.callWith_builtin rfl (Calls.evalArgs_plain (Calls.spliced_cons (thn (q1 pins s1 I1) fun iv s2 ⟨y, H2, I2, ry, ov, g3, q3⟩ => Calls.spliced_nil ?_)))
  exact dg_get1 (by omega) I2 g3 ry fun w' s4 I4 rw' => ⟨_, H2, I4, rw', q3⟩
end
end HM

/-! HM, part O: sorting tuples of which some are empty. -/
namespace HM
open PySem PySem.Calls PySem.Spec PyProof.Rows PySem.W PySem.SeqAt
section
variable {prog : Program} {w : World} {A : Around} {E : Value → Shared → Prop} {s : Shared}
theorem call_tuple_lt {Q : Value → Shared → Prop} {l b : Addr} {items items2 : Array Value} {e r : Nat → Bool} (hl : s.heap.IsTuple l items) (hb : s.heap.IsTuple b items2)
    (he : ∀ j (h1 : j < items.size) (h2 : j < items2.size), EqAt A.in1 s items[j] items2[j] (e j)) (hr : ∀ j (h1 : j < items.size) (h2 : j < items2.size), e j = false → RcLt A.in1 s items[j] items2[j] (r j))
    (h : Q (.bool (firstLt e r (decide (items.size < items2.size)) (List.range (min items.size items2.size)))) s) : wpAny (model prog w) A (call (.builtin "tuple.__lt__") [.ref l, .ref b]) Q E s := by
  obtain ⟨⟨cls, dd, data, sl⟩, ho, hc, n, hd⟩ := id hl
  obtain ⟨⟨cls2, dd2, data2, sl2⟩, ho2, hc2, n2, hd2⟩ := id hb
  simp only at hc hd hc2 hd2
  subst hc hd hc2 hd2
  exact call_meets PySem.F.slot_tuple_lt ⟨_, ho, rfl⟩ PySem.F.entry_tuple_lt (PySem.F.args_tuple_lt_2 _ _) (PySem.SeqAt.tuple_ltAt l b items items2 n n2 dd dd2 sl sl2 e r) ⟨ho, ho2, he, hr, h⟩
theorem oneLt_tup {xs ys : List PyData} {a b : Value} {as bs : List Addr} {Q : Bool → Shared → Prop} (f : Bool) (ra : PySem.Reads s.heap a (.tuple xs) as) (rb : PySem.Reads s.heap b (.tuple ys) bs) (h : alike (.tuple xs) (.tuple ys) = true)
    (hu : A.units + min (PyData.tuple xs).depth (PyData.tuple ys).depth < cLine) (hq : Q (dataLt (.tuple xs) (.tuple ys)) s) : wpAny (model prog w) A (oneLt' f a b) Q E s := by
  cases f with
  | false =>
    rw [oneLt'_eq]
    simp only [Bool.false_eq_true, if_false]
    exact wpAny_bind (rcLt_alike _ _ A s a b as bs ra rb h (by simp) hu prog w E _ (wpAny_truthy_bool hq))
  | true =>
    have hal : alikeAll xs ys = true := by simpa [alike] using h
    cases ra with
    | @tuple l o vs n _ as₁ h1 h2 h3 h4 =>
      cases rb with
      | @tuple l' o' vs' n' _ bs₁ k1 k2 k3 k4 =>
        have n1 : vs.size = xs.length := by simpa using ReadsAll.length _ _ _ h4
        have n2 : vs'.size = ys.length := by simpa using ReadsAll.length _ _ _ k4
        rw [dataLt_tuple, ← firstLt_toks xs ys hal, ← n1, ← n2] at hq
        rw [oneLt'_eq]
        simp only [if_true]
        refine wpAny_bind (wpAny_cRoomFor (room_here hu) ?_)
        refine wpAny_bind (wpAny_callSpecialIfBound?_slot (T := "tuple") ⟨_, h1, h2⟩ PySem.F.slot_tuple_lt (call_tuple_lt (e := pairEq xs ys) (r := fun j => dataLt (xs.getD j .none) (ys.getD j .none)) ⟨_, h1, h2, _, h3⟩ ⟨_, k1, k2, _, k3⟩ (fun j j1 j2 => ?_) (fun j j1 j2 hj => ?_) ?_))
        · have := eqAt_alikeAll xs ys A.in1 s vs.toList vs'.toList _ _ h4 k4 hal (room_in hu) j (by simpa using j1) (by simpa using j2)
          simpa using this
        · have := rcLt_alikeAll xs ys A.in1 s vs.toList vs'.toList _ _ h4 k4 hal (room_in hu) j (by simpa using j1) (by simpa using j2) hj
          simpa using this
        · exact wpAny_truthy_bool hq
/-- the firsts of tuples -/
theorem firsts_tup : ∀ {vs : List Value} {ds : List PyData} {Q : List (Option Value) → Shared → Prop}, EachIs (fun v d => ∃ as, PySem.Reads s.heap v d as) vs ds → (∀ d, d ∈ ds → ∃ r, d = PyData.tuple r) →
    (∀ fs : List (Option Value), fs.length = vs.length → (∀ i : Nat, (fs[i]?.bind id).isSome = true ↔ ∃ (x : PyData) (r : List PyData), ds[i]? = some (PyData.tuple (x :: r))) → Q fs s) → wpAny (model prog w) A (vs.mapM firstOfTuple') Q E s
  | [], [], Q, .nil, _, h => by
    rw [List.mapM_nil]
    exact wpAny_pure (h [] rfl fun i => by simp)
  | v :: vs, d :: ds, Q, .cons ⟨as, r⟩ t, ht, h => by
    obtain ⟨xs, rfl⟩ := ht d (List.mem_cons_self ..)
    rw [List.mapM_cons]
    cases r with
    | @tuple a o its n _ _ ho hc hd hr =>
      refine wpAny_bind ?_
      rw [kas_first_eq]
      refine wpAny_bind (Looks.here (show Looks (model prog w) s.heap (typeOf (.ref a)) o.cls from (Looks.ld ho).andThen .now) ?_)
      rw [hc, if_neg (by first | decide | simp)]
      refine wpAny_bind (listItems_at ho hd (wpAny_pure ?_))
      refine wpAny_bind (firsts_tup t (fun d hd => ht d (List.mem_cons_of_mem _ hd)) fun fs h1 h2 => wpAny_pure (h _ (by simp [h1]) fun i => ?_))
      cases i with
      | zero =>
        have hl := SeqAt.ReadsAll.length _ _ _ hr
        cases xs with
        | nil =>
          have : its.size = 0 := by simpa using hl
          simp [this]
        | cons x r =>
          have : 0 < its.size := by
            have : its.size = r.length + 1 := by simpa using hl
            omega
          simp [this]
      | succ i => simpa using h2 i
theorem fst_of {fs : List (Option Value)} (h : fs.all (·.isSome) = false) : ∃ i, (fs[i]?.bind id).isSome = false ∧ i < fs.length := by
  induction fs with
  | nil => simp at h
  | cons f fs ih =>
    cases hf : f.isSome with
    | false => exact ⟨0, by simpa using hf, by simp⟩
    | true =>
      rw [List.all_cons, hf, Bool.true_and] at h
      obtain ⟨i, h1, h2⟩ := ih h
      exact ⟨i + 1, by simpa using h1, by simpa using h2⟩
/-- tuples of which some are empty -/
theorem SortsAt_tups {vs : List Value} {ds : List PyData} (e : EachIs (fun v d => ∃ as, PySem.Reads s.heap v d as) vs ds) (hal : AllAlike ds) (hk : ∀ d, d ∈ ds → ∃ r, d = .tuple r) (h0 : PyData.tuple [] ∈ ds) (hu : ∀ d, d ∈ ds → A.units + d.depth < cLine) : SortsAt prog w A s (dataKind s.heap ds) vs := by
  have room : ∀ {d d' : PyData}, d ∈ ds → A.units + min d.depth d'.depth < cLine := fun {d d'} hd => Nat.lt_of_le_of_lt (Nat.add_le_add_left (Nat.min_le_left _ _) _) (hu d hd)
  have lt : ∀ (f : Bool) (E : Value → Shared → Prop) (x y : Value) (a b : (dataKind s.heap ds).α) (Q : Bool → Shared → Prop), (dataKind s.heap ds).keyOf x = some a → (dataKind s.heap ds).keyOf y = some b → Q ((dataKind s.heap ds).blt a b) s → wpAny (model prog w) A (oneLt' f x y) Q E s := fun f E x y a b Q ha hb hq => by
    obtain ⟨d, as, hd, ra, rfl⟩ := dataKind_inv ha
    obtain ⟨d', as', hd', rb, rfl⟩ := dataKind_inv hb
    obtain ⟨r1, rfl⟩ := hk d hd
    obtain ⟨r2, rfl⟩ := hk d' hd'
    exact oneLt_tup f ra rb (hal _ hd _ hd') (room hd) hq
  refine ⟨fun v hv => ?_, ?_⟩
  · obtain ⟨d, hd, as, r⟩ := e.left v hv
    exact ⟨_, dataKind_some hal hd r⟩
  · cases ds with
    | nil => cases h0
    | cons d₀ ds₀ =>
      obtain ⟨r₀, rfl⟩ := hk d₀ (List.mem_cons_self ..)
      have kinds : ∀ (E : Value → Shared → Prop) {Q : SortKind → Shared → Prop}, Q (if r₀ = [] then oneType' else general') s → wpAny (model prog w) A (keyKind' vs.toArray) Q E s := fun E Q hq => by
        rw [keyKind'_eq, List.mapM_toArray, map_eq_pure_bind]
        refine wpAny_bind (wpAny_bind (firsts_tup e hk fun fs h1 h2 => wpAny_pure ?_))
        have hz : fs.all (·.isSome) = false := by
          obtain ⟨i, hi⟩ := List.getElem?_of_mem h0
          cases hq : fs.all (·.isSome) with
          | false => rfl
          | true =>
            rw [List.all_eq_true] at hq
            have hn : ¬ (fs[i]?.bind id).isSome = true := by
              rw [h2 i, hi]
              rintro ⟨x, r, h⟩
              cases h
            have hil : i < fs.length := by
              rw [h1, e.length]
              exact (List.getElem?_eq_some_iff.mp hi).1
            have := hq fs[i] (List.getElem_mem hil)
            rw [List.getElem?_eq_getElem hil] at hn
            exact absurd this hn
        rw [if_neg (by simpa using hz)]
        have hf := h2 0
        simp only [List.getElem?_cons_zero, Option.some.injEq, PyData.tuple.injEq] at hf
        cases r₀ with
        | cons x r =>
          have hf : (fs[0]?.bind id).isSome = true := hf.mpr ⟨x, r, rfl⟩
          rw [if_pos (by simpa using hf)]
          rw [if_neg (by simp)] at hq
          exact wpAny_pure hq
        | nil =>
          have hf : ¬ (fs[0]?.bind id).isSome = true := fun h => by
            obtain ⟨x, r, h⟩ := hf.mp h
            cases h
          rw [if_neg (by simpa using hf)]
          rw [if_pos rfl] at hq
          rw [oneTypeOnly'_eq, List.mapM_toArray, map_eq_pure_bind]
          refine wpAny_bind (wpAny_bind (wpAny_bind (kas_mapM (r := Value.type "tuple") _ (fun v hv Q' hq => ?_) (wpAny_pure ?_))))
          · obtain ⟨d, hd, as, r⟩ := e.left v hv
            obtain ⟨xs, rfl⟩ := hk d hd
            exact (looks_reads r).here hq
          · have hall : ((List.map (fun _ => Value.type "tuple") vs).toArray.all fun x => x == Value.type "tuple") = true := by
              simp only [List.all_toArray, List.all_map, List.all_eq_true]
              intro _ _
              rfl
            cases vs with
            | nil => cases e
            | cons v vs =>
              have h0 : (List.map (fun _ => Value.type "tuple") (v :: vs)).toArray[0]? = some (Value.type "tuple") := by simp
              rw [h0]
              simp only [hall, if_true]
              exact wpAny_pure (wpAny_pure hq)
      by_cases hr : r₀ = []
      · rw [if_pos hr] at kinds
        exact ⟨oneType', fun E x y a b Q ha hb hq => by rw [keyLt'_oneType]; exact lt true E x y a b Q ha hb hq, fun _ E Q hq => kinds E hq⟩
      · rw [if_neg hr] at kinds
        exact ⟨general', fun E x y a b Q ha hb hq => lt false E x y a b Q ha hb hq, fun _ E Q hq => kinds E hq⟩
/-- what can be sorted: data of one kind, or tuples -/
def Sortable2 (ds : List PyData) : Prop := Sortable ds ∨ ((∀ d, d ∈ ds → ∃ r, d = PyData.tuple r) ∧ PyData.tuple [] ∈ ds)
theorem SortsAt_data2 {vs : List Value} {ds : List PyData} (e : EachIs (fun v d => ∃ as, PySem.Reads s.heap v d as) vs ds) (hal : AllAlike ds) (hk : Sortable2 ds) (hu : ∀ d, d ∈ ds → A.units + d.depth < cLine) : SortsAt prog w A s (dataKind s.heap ds) vs := by
  rcases hk with hk | ⟨hk, h0⟩
  · exact SortsAt.data e hal hk hu
  · exact SortsAt_tups e hal hk h0 hu
theorem bound_map2 {β : Type} {bs : List β} {enc : β → PyData} (hu : ∀ b, b ∈ bs → A.units + 2 + (enc b).depth < cLine) : ∀ d, d ∈ bs.map enc → A.in1.in1.units + d.depth < cLine := by
  intro d hd
  obtain ⟨b, hb, rfl⟩ := List.mem_map.mp hd
  exact hu b hb
/-- sorted(xs) -/
theorem sorted_data2 {β : Type} {R : Value → β → Prop} {enc : β → PyData} {bs : List β} {vs : List Value} {l : Addr} {Q : Value → Shared → Prop} (hl : s.heap.IsList l vs.toArray) (e : EachIs R vs bs) (er : EachIs (fun v b => ∃ as, PySem.Reads s.heap v (enc b) as) vs bs) (hal : AllAlike (bs.map enc)) (hk : Sortable2 (bs.map enc)) (hL : bs.length ≤ sizeLine)
    (hu : ∀ b, b ∈ bs → A.units + 2 + (enc b).depth < cLine) (h : ∀ out, out.length = bs.length → EachIs R out (bs.mergeSort (dataLe false enc)) → Q (.ref (s.heap.objs.size + 1)) { s with heap := PyProof.Rows.sortedAll s.heap vs (List.toArray out) }) :
    wpAny (model prog w) A (call (.builtin "sorted") [.ref l]) Q E s := by
  have er' : EachIs (fun v b => ∃ as, PySem.Reads (sortingHeap (copyHeap s.heap vs) (s.heap.objs.size + 1) vs) v (enc b) as) vs bs := er.mono fun _ _ ⟨as, r⟩ => ⟨as, PyProof.Rows.Reads.keeps (fun _ _ => sorting_copy_old) r⟩
  exact sorted_vals hl (SortsAt_data2 (s := { s with heap := sortingHeap (copyHeap s.heap vs) (s.heap.objs.size + 1) vs }) (each_map (R := fun v d => ∃ as, PySem.Reads (sortingHeap (copyHeap s.heap vs) (s.heap.objs.size + 1) vs) v d as) enc er') hal hk (bound_map2 hu)) (by rw [e.length]; exact hL)
    (h _ (by rw [sortVals_length false rfl]; exact e.length) (sortVals_data false e er' hal))
end
end HM

/-! HM, part E: order, sorted, places. -/
namespace HM
open PySem PySem.Spec PyProof.Rows L2
section
variable {X : Cx} {W : WX} {e o a b c : Expr} {es : List Expr} {pos p : Pos} {f fo fa fb : EM D} {fs : EM (List D)}
/-! ### < -/
def D.isTup (d : D) : Bool := match d with
  | .tup _ => true
  | _ => false
def dLt (x y : D) : Option Bool := if x.isTup && x.plain 60 && y.plain 60 && PySem.W.alike (x.toP 60) (y.toP 60) then some (PySem.W.dataLt (x.toP 60) (y.toP 60)) else none
def oLt : O2 := fun x y st => match x, y with
  | .int i, .int j => .ok (.bl (decide (i < j))) st
  | x, y => match dLt x y with
    | some b => .ok (.bl b) st
    | none => .bad
theorem toP_tup {x : D} (h : x.isTup = true) : x.toP 60 ≠ .none := by
  cases x <;> simp [D.isTup] at h <;> simp [D.toP]
theorem m_lt (hu : X.A.units + 65 < cLine) : OpM X W (compareOp .Lt) oLt := fun m st σ H dx dy x y Q hS r1 r2 hP pins s v u I rx ry => by
  unfold oLt at hP
  split at hP
  · exact m_ltI (W := W) m st σ H _ _ x y Q hS r1 r2 hP pins s v u I rx ry
  · split at hP
    · rename_i b hb
      unfold dLt at hb
      split at hb
      · rename_i hc
        cases hb
        simp only [Bool.and_eq_true] at hc
        obtain ⟨⟨⟨h1, h2⟩, h3⟩, h4⟩ := hc
        obtain ⟨a1, a2, a3⟩ := plain_dp 60 dx x h2 r1
        obtain ⟨b1, b2, b3⟩ := plain_dp 60 dy y h3 r2
        obtain ⟨as, ra⟩ := Dp.reads I _ x v a1 rx
        obtain ⟨bs, rb⟩ := Dp.reads I _ y u b1 ry
        exact PySem.W.lt_data ra rb h4 (toP_tup h1) (by omega) ⟨.bl _, H, I, rfl, hP.now hS (.bl _)⟩
      · cases hb
    · exact hP.elim
end

/-! ### sorted -/
section
open PySem.W PySem.Calls
variable {prog : Program} {w : World} {A : Around} {E : Value → Shared → Prop} {s : Shared}
theorem collect_tup {l : Addr} {vs : List Value} {Q : List Value → Shared → Prop} (hl : PyProof.Rows.IsTup s.heap l vs.toArray)
    (h : Q vs { s with heap := (s.heap.push (seqObj "list" #[] 0)).update s.heap.objs.size (Obj.mapSeq (· ++ vs.toArray)) }) (hsz : vs.length ≤ sizeLine) :
    wpAny (model prog w) A (collect (.ref l)) Q E s := by
  obtain ⟨o, ho, hc, n, hd⟩ := id hl
  unfold collect
  refine wpAny_bind (wpAny_runValue (codeAny_builtin entry_proto_collect' ?_))
  show wpAny _ _ (do again (.builtin "list.__iadd__" ⟨[← newList [], .ref l], []⟩)) _ _ s
  refine wpAny_bind (wpAny_newList (wpAny_pure ⟨Code.quiet_builtin _ (by decide +kernel), codeAny_builtin entry_list_iadd' ?_⟩))
  show wpAny _ _ (Builtin.List.listExtendWith (.ref s.heap.objs.size) (.ref l) (.ref s.heap.objs.size)) _ _ { s with heap := s.heap.push (seqObj "list" #[] 0) }
  unfold Builtin.List.listExtendWith
  have ho' : (s.heap.push (seqObj "list" #[] 0)).get? l = some o := Heap.get?_push_of_some _ ho
  refine wpAny_bind (wpAny_typeOf (T := "tuple") ⟨o, ho', hc⟩ ?_)
  have ht : (Value.type "tuple" == Value.type "tuple") = true := by rfl
  rw [if_pos (by rw [ht]; simp)]
  refine wpAny_bind (listItems_at ho' hd ?_)
  refine wpAny_bind (listItems_at (xs := #[]) (n := 0) (Heap.get?_push_size _ rfl) rfl ?_)
  rw [if_neg (by simp)]
  refine wpAny_bind (listUpdate_at (xs := #[]) (n := 0) (Heap.get?_push_size _ rfl) rfl ?_ (Nat.zero_le _) (by show (#[] ++ vs.toArray).size ≤ sizeLine + 1; simp only [Array.size_append, List.size_toArray, List.length_nil]; omega))
  refine wpAny_pure ?_
  show wpAny (model prog w) A (do
      let o ← load s.heap.objs.size
      match o.data with
      | .seq xs _ => pure xs.toList
      | _ => unsupported "internal:collect") Q E { s with heap := (s.heap.push (seqObj "list" #[] 0)).update s.heap.objs.size (Obj.mapSeq (· ++ vs.toArray)) }
  refine wpAny_bind (wpAny_load (get?_update_seq (Heap.get?_push_size _ rfl) _) ?_)
  show wpAny _ _ (pure ((#[] : Array Value) ++ vs.toArray).toList) Q E _
  rw [show ((#[] : Array Value) ++ vs.toArray).toList = vs by simp]
  exact wpAny_pure h
theorem sorted_of_sortT {l : Addr} {vs : List Value} {kw : List (PySem.Str × Value)} {Q : Value → Shared → Prop} (hl : PyProof.Rows.IsTup s.heap l vs.toArray) (hL : vs.length ≤ sizeLine) (ha1 : argsOk "sorted" ⟨[.ref l], kw⟩) (ha2 : ∀ x, argsOk "list.sort" ⟨[.ref x], kw⟩)
    (body : ∀ E' : Value → Shared → Prop, wpAny (model prog w) A.in1.in1 (Builtin.«list.sort» ⟨[.ref (s.heap.objs.size + 1)], kw⟩) (fun f s' => f = .done (.ret .none) ∧ Q (.ref (s.heap.objs.size + 1)) s') E' { s with heap := copyHeap s.heap vs }) :
    wpAny (model prog w) A (call (.builtin "sorted") [.ref l] kw) Q E s := by
  refine call_function_entry_kw kind_sorted plain_sorted entry_sorted ha1 ?_
  unfold Builtin.«sorted»
  refine wpAny_bind (m := checkCount "sorted" 1 1 _) (wpAny_pure ?_)
  refine wpAny_bind (collect_tup hl ?_ hL)
  refine wpAny_bind (wpAny_newList ?_ hL)
  have hsz : ((s.heap.push (seqObj "list" #[] 0)).update s.heap.objs.size (Obj.mapSeq (· ++ vs.toArray))).objs.size = s.heap.objs.size + 1 := by
    rw [Heap.size_update, size_push']
  show wpAny _ _ _ _ _ { s with heap := copyHeap s.heap vs }
  rw [hsz]
  refine wpAny_bind (wpAny_holding (wpAny_call_entry_kw slot_list_sort ⟨_, copyHeap_at s.heap vs, rfl⟩ entry_list_sort ?body (ha2 _)))
  case body =>
    show wpAny (model prog w) A.in1.in1 (Builtin.«list.sort» ⟨[.ref (s.heap.objs.size + 1)], kw⟩) _ _ _
    refine wpAny_mono (body _) (fun f s' hf => ?_) fun _ _ e => e
    obtain ⟨rfl, hq⟩ := hf
    exact ⟨_, rfl, wpAny_pure ⟨_, rfl, hq⟩⟩
theorem bound_mapT {β : Type} {bs : List β} {enc : β → PyData} (hu : ∀ b, b ∈ bs → A.units + 2 + (enc b).depth < cLine) : ∀ d, d ∈ bs.map enc → A.in1.in1.units + d.depth < cLine := by
  intro d hd
  obtain ⟨b, hb, rfl⟩ := List.mem_map.mp hd
  exact hu b hb
theorem sorted_dataT {β : Type} {R : Value → β → Prop} {enc : β → PyData} {bs : List β} {vs : List Value} {l : Addr} {Q : Value → Shared → Prop} (hl : PyProof.Rows.IsTup s.heap l vs.toArray) (e : EachIs R vs bs) (er : EachIs (fun v b => ∃ as, PySem.Reads s.heap v (enc b) as) vs bs) (hal : AllAlike (bs.map enc)) (hk : Sortable2 (bs.map enc)) (hL : bs.length ≤ sizeLine)
    (hu : ∀ b, b ∈ bs → A.units + 2 + (enc b).depth < cLine) (h : ∀ out, out.length = bs.length → EachIs R out (bs.mergeSort (dataLe false enc)) → Q (.ref (s.heap.objs.size + 1)) { s with heap := sortedAll s.heap vs (List.toArray out) }) :
    wpAny (model prog w) A (call (.builtin "sorted") [.ref l]) Q E s := by
  have er' : EachIs (fun v b => ∃ as, PySem.Reads (sortingHeap (copyHeap s.heap vs) (s.heap.objs.size + 1) vs) v (enc b) as) vs bs := er.mono fun _ _ ⟨as, r⟩ => ⟨as, PyProof.Rows.Reads.keeps (fun _ _ => sorting_copy_old) r⟩
  have hL' : vs.length ≤ sizeLine := by rw [e.length]; exact hL
  exact sorted_of_sortT hl hL' (args_sorted1 _) (fun _ => args_list_sort _) fun _ => list_sort_vals (s := { s with heap := copyHeap s.heap vs }) (copyHeap_at s.heap vs)
    (SortsAt_data2 (s := { s with heap := sortingHeap (copyHeap s.heap vs) (s.heap.objs.size + 1) vs }) (each_map (R := fun v d => ∃ as, PySem.Reads (sortingHeap (copyHeap s.heap vs) (s.heap.objs.size + 1) vs) v d as) enc er') hal hk (bound_mapT hu)) hL'
    ⟨rfl, h _ (by rw [sortVals_length false rfl]; exact e.length) (sortVals_data false e er' hal)⟩
end

section
open PySem.W
variable {X : Cx} {W : WX} {e o a b c : Expr} {es : List Expr} {pos p : Pos} {f fo fa fb : EM D} {fs : EM (List D)}
def rSortedD (K : PySem.W.Frag) : List V → Hp → VK → Prop := fun xs H Q => ∃ (a : Addr) (bs : List (D × V)), xs = [.ref a] ∧ (SqL K H a (bs.map (·.2)) ∨ SqT K H a (bs.map (·.2))) ∧ (∀ b ∈ bs, Dp K H b.2 (b.1.toP 60) ∧ (b.1.toP 60).depth ≤ 60) ∧
  AllAlike (bs.map fun b => b.1.toP 60) ∧ Sortable2 (bs.map fun b => b.1.toP 60) ∧ ∀ p, H p = none → Q (.ref p) (upd H p (.lst ((bs.mergeSort (dataLe false fun b => b.1.toP 60)).map (·.2))))
theorem each_of {β : Type} {R : Value → β → Prop} {f : β → V} : ∀ {bs : List β} {us : List Value}, Vals (bs.map f) us → (∀ b ∈ bs, ∀ u, RelV (f b) u → R u b) → EachIs R us bs
  | [], _, r, _ => by
    cases r
    exact .nil
  | b :: bs, _, r, h => by
    cases r with
    | cons r1 r2 => exact .cons (h b (List.mem_cons_self ..) _ r1) (each_of r2 fun b hb => h b (List.mem_cons_of_mem _ hb))
theorem vals_of_each {β : Type} {f : β → V} : ∀ {bs : List β} {us : List Value}, EachIs (fun u b => RelV (f b) u) us bs → Vals (bs.map f) us
  | _, _, .nil => .nil
  | _, _, .cons h t => .cons h (vals_of_each t)
theorem cr_sortedD (hu : X.A.units + 65 < cLine) : CallR X (.builtin "sorted") (rSortedD X.K) := by
  intro pins s σ H vs us Q I r h
  obtain ⟨a, bs, rfl, hs, hb, hal, hk, q⟩ := h
  rw [Vals.ref1 r]
  have main : ∀ its : List Value, Vals (bs.map (·.2)) its → (bs.map (·.2)).length ≤ sizeLine → (∀ Q : Value → Shared → Prop, (∀ out, out.length = bs.length → EachIs (fun u (b : D × V) => RelV b.2 u) out (bs.mergeSort (dataLe false fun b => b.1.toP 60)) → Q (.ref (s.heap.objs.size + 1)) { s with heap := PyProof.Rows.sortedAll s.heap its (List.toArray out) }) →
      wpAny (model X.prog X.w) X.A (call (.builtin "sorted") [.ref a]) Q X.xe s) → wpAny (model X.prog X.w) X.A (call (.builtin "sorted") [.ref a]) (EP X pins σ Q) X.xe s := fun its rv hz go => by
    refine go _ fun out h1 h2 => ?_
    obtain ⟨ep, he'⟩ := PyProof.Rows.sortedAll_at s.heap its out.toArray
    have rv' := vals_of_each (f := fun b : D × V => b.2) h2
    have hlen : ((bs.mergeSort (dataLe false fun b => b.1.toP 60)).map (·.2)).length ≤ sizeLine := by
      rw [List.length_map, List.length_mergeSort]
      rwa [List.length_map] at hz
    exact ⟨.ref _, upd H (s.heap.objs.size + 1) (.lst ((bs.mergeSort (dataLe false fun b => b.1.toP 60)).map (·.2))), I.laid (t' := s.toks) (fun _ _ => PyProof.Rows.sortedAll_old) (Nat.le_succ _) ⟨hlen, out, ep, rv', he'⟩, rfl, q _ (I.hok.fresh (Nat.le_succ _))⟩
  have ee : ∀ its : List Value, Vals (bs.map (·.2)) its → EachIs (fun u (b : D × V) => RelV b.2 u) its bs := fun its rv => each_of (f := fun b : D × V => b.2) rv fun b _ u h => h
  have er : ∀ its : List Value, Vals (bs.map (·.2)) its → EachIs (fun v (b : D × V) => ∃ as, PySem.Reads s.heap v (b.1.toP 60) as) its bs := fun its rv => each_of (f := fun b : D × V => b.2) rv fun b hm u h => Dp.reads I _ _ _ (hb b hm).1 h
  have hd : ∀ b, b ∈ bs → X.A.units + 2 + (b.1.toP 60).depth < cLine := fun b hm => by
    have := (hb b hm).2
    omega
  rcases hs with hs | hs
  · obtain ⟨its, rv, hl, hz⟩ := I.list hs
    exact main its rv hz fun Q hQ => sorted_data2 (enc := fun b : D × V => b.1.toP 60) hl.isList (ee its rv) (er its rv) hal hk (by rwa [List.length_map] at hz) hd hQ
  · obtain ⟨its, rv, hl, hz⟩ := I.tuple hs
    exact main its rv hz fun Q hQ => sorted_dataT (enc := fun b : D × V => b.1.toP 60) hl (ee its rv) (er its rv) hal hk (by rwa [List.length_map] at hz) hd hQ
def sortLeD (a b : D) : Bool := !dataLt (b.toP 60) (a.toP 60)
def sortD (xs : List D) : List D := xs.mergeSort sortLeD
def D.neTup (d : D) : Bool := match d with
  | .tup (_ :: _) => true
  | _ => false
def D.atom (d : D) : Bool := match d with
  | .int _ => true
  | .str _ => true
  | _ => false
def sortable (xs : List D) : Bool := (xs.all (D.plain 60)) && (xs.all fun x => xs.all fun y => alike (x.toP 60) (y.toP 60)) && (xs.all D.neTup || xs.all D.atom || (xs.all D.isTup && xs.any fun x => decide (x = .tup [])))
def gSorted : SM1 := fun xs st => if sortable xs then .ok (.ref st.length) (st ++ [.lst (sortD xs)]) else .bad
theorem rds_zip {K : PySem.W.Frag} {m : List Addr} {H : Hp} : ∀ {ds : List D} {vs : List V}, RDs K m H ds vs → (ds.zip vs).map (·.1) = ds ∧ (ds.zip vs).map (·.2) = vs ∧ ∀ b ∈ ds.zip vs, RD K m H b.1 b.2
  | _, _, .nil => ⟨rfl, rfl, fun _ h => nomatch h⟩
  | _, _, .cons h t => by
    obtain ⟨a1, a2, a3⟩ := rds_zip t
    refine ⟨by simp [a1], by simp [a2], fun b hb => ?_⟩
    rw [List.zip_cons_cons] at hb
    rcases List.mem_cons.mp hb with rfl | hb
    · exact h
    · exact a3 b hb
theorem rds_of {K : PySem.W.Frag} {m : List Addr} {H : Hp} : ∀ {bs : List (D × V)}, (∀ b ∈ bs, RD K m H b.1 b.2) → RDs K m H (bs.map (·.1)) (bs.map (·.2))
  | [], _ => .nil
  | b :: bs, h => .cons (h b (List.mem_cons_self ..)) (rds_of fun b hb => h b (List.mem_cons_of_mem _ hb))
theorem s_sorted (hu : X.A.units + 65 < cLine) : CallS X (.builtin "sorted") gSorted := ⟨_, cr_sortedD hu, fun m st H ds v E Q hS r hP => by
  unfold gSorted at hP
  split at hP
  · rename_i hc
    unfold sortable at hc
    simp only [Bool.and_eq_true, Bool.or_eq_true, List.all_eq_true] at hc
    obtain ⟨⟨h1, h2⟩, h3⟩ := hc
    obtain ⟨a, vs, rfl, q, rs⟩ := r
    obtain ⟨z1, z2, z3⟩ := rds_zip rs
    have hmem : ∀ b ∈ ds.zip vs, b.1 ∈ ds := fun b hb => by
      rw [← z1]
      exact List.mem_map_of_mem hb
    have hmap : (ds.zip vs).map (fun b => b.1.toP 60) = ds.map (D.toP 60) := by
      conv => rhs; rw [← z1]
      rw [List.map_map]
      rfl
    refine ⟨a, ds.zip vs, rfl, by rw [z2]; exact q.imp id PlT.sq, fun b hb => ?_, ?_, ?_, ?_⟩
    · obtain ⟨a1, a2, a3⟩ := plain_dp 60 b.1 b.2 (h1 _ (hmem b hb)) (z3 b hb)
      exact ⟨a1, a3⟩
    · rw [hmap]
      intro d hd d' hd'
      obtain ⟨x, hx, rfl⟩ := List.mem_map.mp hd
      obtain ⟨y, hy, rfl⟩ := List.mem_map.mp hd'
      exact h2 x hx y hy
    · rw [hmap]
      rcases h3 with (h3 | h3) | ⟨h3, h4⟩
      · refine .inl (.inl fun d hd => ?_)
        obtain ⟨x, hx, rfl⟩ := List.mem_map.mp hd
        have := h3 x hx
        unfold D.neTup at this
        split at this
        · exact ⟨_, _, rfl⟩
        · cases this
      · refine .inl (.inr fun d hd => ?_)
        obtain ⟨x, hx, rfl⟩ := List.mem_map.mp hd
        have := h3 x hx
        unfold D.atom at this
        split at this
        · exact ⟨nofun, fun _ => nofun⟩
        · exact ⟨nofun, fun _ => nofun⟩
        · cases this
      · refine .inr ⟨fun d hd => ?_, ?_⟩
        · obtain ⟨x, hx, rfl⟩ := List.mem_map.mp hd
          have := h3 x hx
          unfold D.isTup at this
          split at this
          · exact ⟨_, rfl⟩
          · cases this
        · rw [List.any_eq_true] at h4
          obtain ⟨x, hx, e⟩ := h4
          have e := of_decide_eq_true e
          subst e
          exact List.mem_map.mpr ⟨_, hx, rfl⟩
    · have e : (ds.zip vs).mergeSort (dataLe false fun b => b.1.toP 60) = (ds.zip vs).mergeSort (fun b c => sortLeD b.1 c.1) := rfl
      have e2 : ((ds.zip vs).mergeSort (fun b c => sortLeD b.1 c.1)).map (·.1) = sortD ds := by
        refine (sort_maps (s := sortLeD) (Prod.fst : D × V → D) (fun _ _ _ _ => rfl)).trans ?_
        show ((ds.zip vs).map fun b => b.1).mergeSort sortLeD = sortD ds
        rw [z1]
        rfl
      rw [e]
      have z4 : ∀ b ∈ (ds.zip vs).mergeSort (fun b c => sortLeD b.1 c.1), RD X.K m H b.1 b.2 := fun b hb => z3 b (List.mem_mergeSort.mp hb)
      have z5 := rds_of z4
      rw [e2] at z5
      exact hP.lst hS z5
  · exact hP.elim⟩
end
end HM

/-! HM, part Q: the keys of a dict; sorted of a dict. -/
namespace HM
open PySem PySem.Calls PySem.Spec PyProof.Rows L2 PySem.W
/-- the keys of the dict at a -/
def DKeys (K : KW) (H : Hp) (a : Addr) (vs : List V) : Prop :=
  (∃ us, H a = some (.dK us) ∧ vs = us.map fun u => kV u.1) ∨ ∃ xs, H a = some (.ext (DObj K.w a xs)) ∧ vs = xs.map fun x => V.ref x.2.1
theorem rd_key {K : PySem.W.Frag} {m : List Addr} {H : Hp} (k : Key) : RD K m H (keyD k) (kV k) := by
  cases k with
  | inl i => exact .int i
  | inr x =>
    have e : x = ⟨x.cps.toList.toArray⟩ := by simp
    exact e ▸ .str x.cps.toList
theorem keys_rd1 {K : PySem.W.Frag} {m : List Addr} {H : Hp} : ∀ {kvs : List (D × D)} {us : List (Key × V)}, DRel1 K m H kvs us → RDs K m H (kvs.map (·.1)) (us.map fun u => kV u.1)
  | _, _, .nil => .nil
  | _, _, .cons h t => by
    rw [List.map_cons, List.map_cons, h.1]
    exact .cons (rd_key _) (keys_rd1 t)
theorem keys_rd2 {K : PySem.W.Frag} {m : List Addr} {H : Hp} : ∀ {kvs : List (D × D)} {xs : List (NestedKey × Addr × V)}, DRel2 K m H kvs xs → RDs K m H (kvs.map (·.1)) (xs.map fun x => V.ref x.2.1)
  | _, _, .nil => .nil
  | _, _, .cons h t => .cons h.2.2.1 (keys_rd2 t)
theorem dkeys_of {K : KW} {m : List Addr} {st : Store} {H : Hp} {n : Nat} {kvs : List (D × D)} {v : V} (hS : SS K m st H) (hk : dctAt st n = some kvs) (r : RD K m H (.ref n) v) : ∃ a vs, v = .ref a ∧ DKeys K H a vs ∧ RDs K m H (kvs.map (·.1)) vs := by
  cases r with
  | ref h =>
    rename_i a
    rcases hS.dict hk h with ⟨us, e, rel⟩ | ⟨xs, e, _, rel⟩
    · exact ⟨a, _, rfl, .inl ⟨us, e, rfl⟩, keys_rd1 rel⟩
    · exact ⟨a, _, rfl, .inr ⟨xs, e, rfl⟩, keys_rd2 rel⟩
theorem paired_at {α β : Type} {F : α → β → Prop} : ∀ {l₁ : List α} {l₂ : List β}, Paired F l₁ l₂ → ∀ {j : Nat} {a : α}, l₁[j]? = some a → ∃ b, l₂[j]? = some b ∧ F a b
  | _, _, .nil, _, _, h => by simp at h
  | _, _, .cons r t, 0, _, h => by
    simp at h
    subst h
    exact ⟨_, rfl, r⟩
  | _, _, .cons r t, j + 1, _, h => by
    obtain ⟨b, e, f⟩ := paired_at t (j := j) (by simpa using h)
    exact ⟨b, by simpa using e, f⟩
section
variable {X : Cx} {pins : List (Addr × Obj)} {σ : L2.St} {H : Hp} {s : Shared} {a : Addr} {vs : List V}
theorem collect_keys {T : List Value → Shared → Prop} {E : Value → Shared → Prop} {A : Around} (hh : A.handled = none) (I : Inv X pins σ H s) (c : DKeys X.kw H a vs)
    (h : ∀ (h' : Heap) (tk : Nat) (acc : List Value), (∀ b o, s.heap.get? b = some o → h'.get? b = some o) → Vals vs acc → vs.length ≤ sizeLine → T acc { s with heap := h', toks := tk }) : wpAny (model X.prog X.w) A (collect (.ref a)) T E s := by
  rcases c with ⟨us, e, rfl⟩ | ⟨xs, e, rfl⟩
  · obtain ⟨z, lo, ws, rk, hd⟩ := (show ObjOk X.prog X.w H s.heap a (.dK us) from I.hok a _ e)
    obtain ⟨ep, hat⟩ := hd.dictAt
    have hl : us.length = ws.length := Paired.length rk
    refine PySem.W.kdu_collect (A := A) (PySem.W.kdl_dict (knd := mixKind X.prog X.w) (kvs := ws) (ep := ep) lo) hh hat (by rw [← hl]; exact z) fun h' tk acc hk hacc => ?_
    have el : acc.toList.length = acc.size := by simp
    refine h h' tk acc.toList hk ?_ (by rw [List.length_map]; exact z)
    refine vals_of_at (by rw [List.length_map, el, hacc.1, hl]) fun j x w h1 h2 => ?_
    obtain ⟨k, y, hky, hi⟩ := hacc.2 j w (by rw [← Array.getElem?_toList]; exact h2)
    have e1 : (us.map (·.1))[j]? = some k := by
      rw [KV.keys rk, List.getElem?_map, hky] <;> rfl
    have e2 : (us.map fun kv => kV kv.1)[j]? = some (kV k) := by
      have e3 : (us.map fun kv => kV kv.1) = (us.map (·.1)).map kV := by rw [List.map_map] <;> rfl
      rw [e3, List.getElem?_map, e1] <;> rfl
    rw [e2] at h1
    cases h1
    exact keyIs_rel hi
  · obtain ⟨⟨lo, hz, zs, rel, ob, es, ep, ho, hx, hdt, he, _⟩, _, _⟩ := (show ObjOk X.prog X.w H s.heap a (.ext (DObj X.w a xs)) from I.hok a _ e)
    have l0 : xs.length = zs.length := Paired.length rel
    have l1 : es.size = zs.length := by
      rw [← Array.length_toList, he, List.length_map]
    refine PySem.W.kdu_collect (A := A) (kdl_raw lo hx hdt) hh ho (by omega) fun h' tk acc hk hacc => ?_
    have el : acc.toList.length = acc.size := by simp
    refine h h' tk acc.toList hk ?_ (by rw [List.length_map]; exact hz)
    refine vals_of_at (by rw [List.length_map, el, hacc.1, l1, l0]) fun j x w h1 h2 => ?_
    obtain ⟨en, hen, hv⟩ := hacc.2 j w (by rw [← Array.getElem?_toList]; exact h2)
    rw [List.getElem?_map] at h1
    cases hx : xs[j]? with
    | none => rw [hx] at h1; cases h1
    | some y =>
      rw [hx] at h1
      cases h1
      obtain ⟨q, hq, e1, e2, e3⟩ := paired_at rel hx
      have qe : es.toList[j]? = some (⟨NestedKey.hash X.w q.1, .ref q.2.1, q.2.2⟩ : DictEntry) := by
        rw [he, List.getElem?_map, hq] <;> rfl
      rw [Array.getElem?_toList, hen] at qe
      cases qe
      rw [hv]
      exact congrArg Value.ref e2.symm
theorem sorted_keys {β : Type} {R : Value → β → Prop} {enc : β → PyData} {bs : List β} {A : Around} {E : Value → Shared → Prop} {Q : Value → Shared → Prop}
    (coll : ∀ T : List Value → Shared → Prop, (∀ (h' : Heap) (tk : Nat) (acc : List Value), (∀ b o, s.heap.get? b = some o → h'.get? b = some o) → EachIs R acc bs → EachIs (fun v b => ∃ as, PySem.Reads h' v (enc b) as) acc bs → T acc { s with heap := h', toks := tk }) → wpAny (model X.prog X.w) A.in1 (collect (.ref a)) T E s)
    (hal : AllAlike (bs.map enc)) (hk : Sortable2 (bs.map enc)) (hL : bs.length ≤ sizeLine) (hu : ∀ b, b ∈ bs → A.units + 2 + (enc b).depth < cLine)
    (h : ∀ (h' : Heap) (tk : Nat) (acc out : List Value), (∀ b o, s.heap.get? b = some o → h'.get? b = some o) → out.length = bs.length → EachIs R out (bs.mergeSort (dataLe false enc)) → Q (.ref h'.objs.size) { s with heap := PyProof.Rows.sortedHeap (h'.push (seqObj "list" acc.toArray 0)) h'.objs.size acc out.toArray, toks := tk }) :
    wpAny (model X.prog X.w) A (call (.builtin "sorted") [.ref a]) Q E s := by
  refine Calls.call_function_entry PyProof.Rows.kind_sorted PyProof.Rows.plain_sorted PyProof.Rows.entry_sorted (PyProof.Rows.args_sorted1 _) ?_
  unfold Builtin.«sorted»
  refine wpAny_bind (m := checkCount "sorted" 1 1 _) (wpAny_pure ?_)
  refine wpAny_bind (coll _ fun h' tk acc hk' e er => ?_)
  have hl : acc.length ≤ sizeLine := by rw [e.length]; exact hL
  refine wpAny_bind (wpAny_newList ?_ hl)
  have hoL : (h'.push (seqObj "list" acc.toArray 0)).get? h'.objs.size = some (seqObj "list" acc.toArray 0) := Heap.get?_push_size _ rfl
  show wpAny _ _ _ _ _ { s with heap := h'.push (seqObj "list" acc.toArray 0), toks := tk }
  have er2 : EachIs (fun v b => ∃ as, PySem.Reads (sortingHeap (h'.push (seqObj "list" acc.toArray 0)) h'.objs.size acc) v (enc b) as) acc bs := er.mono fun _ _ ⟨as, r⟩ => ⟨as, PyProof.Rows.Reads.keeps (fun b o hb => sortingHeap_old (Nat.ne_of_lt (Heap.lt_size hb)) (Heap.get?_push_of_some _ hb)) r⟩
  refine wpAny_bind (wpAny_holding (wpAny_call_entry PyProof.Rows.slot_list_sort ⟨_, hoL, rfl⟩ PyProof.Rows.entry_list_sort
    (list_sort_vals (s := { s with heap := h'.push (seqObj "list" acc.toArray 0), toks := tk }) hoL
      (SortsAt_data2 (s := { s with heap := sortingHeap (h'.push (seqObj "list" acc.toArray 0)) h'.objs.size acc, toks := tk }) (each_map (R := fun v d => ∃ as, PySem.Reads (sortingHeap (h'.push (seqObj "list" acc.toArray 0)) h'.objs.size acc) v d as) enc er2) hal hk (bound_map2 hu)) hl ⟨_, rfl, wpAny_pure ⟨_, rfl, ?_⟩⟩)
    (PyProof.Rows.args_list_sort _)))
  exact h h' tk acc _ hk' (by rw [sortVals_length false rfl]; exact e.length) (sortVals_data false e er2 hal)
end
section
variable {X : Cx}
def rSortedK (K : KW) : List V → Hp → VK → Prop := fun xs H Q => ∃ (a : Addr) (bs : List (D × V)), xs = [.ref a] ∧ DKeys K H a (bs.map (·.2)) ∧ (∀ b ∈ bs, Dp K H b.2 (b.1.toP 60) ∧ (b.1.toP 60).depth ≤ 60) ∧
  AllAlike (bs.map fun b => b.1.toP 60) ∧ Sortable2 (bs.map fun b => b.1.toP 60) ∧ ∀ p, H p = none → Q (.ref p) (upd H p (.lst ((bs.mergeSort (dataLe false fun b => b.1.toP 60)).map (·.2))))
theorem cr_sortedK (hc : X.calm = true) (hu : X.A.units + 65 < cLine) : CallR X (.builtin "sorted") (rSortedK X.kw) := by
  intro pins s σ H vs us Q I r h
  obtain ⟨a, bs, rfl, hd, hb, hal, hk, q⟩ := h
  rw [Vals.ref1 r]
  have hz : bs.length ≤ sizeLine := by
    have hm : ∀ {vs : List V}, DKeys X.kw H a vs → vs.length ≤ sizeLine := fun c => by
      rcases c with ⟨us, e, rfl⟩ | ⟨xs, e, rfl⟩
      · obtain ⟨z, _⟩ := (show ObjOk X.prog X.w H s.heap a (.dK us) from I.hok a _ e)
        rw [List.length_map]
        exact z
      · obtain ⟨⟨_, z, _⟩, _, _⟩ := (show ObjOk X.prog X.w H s.heap a (.ext (DObj X.w a xs)) from I.hok a _ e)
        rw [List.length_map]
        exact z
    have := hm hd
    rwa [List.length_map] at this
  refine sorted_keys (X := X) (R := fun u (b : D × V) => RelV b.2 u) (enc := fun b : D × V => b.1.toP 60) (bs := bs) (fun T hT => ?_) hal hk hz (fun b hm => by
    have := (hb b hm).2
    omega) fun h' tk acc out hk' h1 h2 => ?_
  · refine collect_keys (A := X.A.in1) (I.ok.hd hc) I hd fun h' tk acc hk' rv _ => ?_
    refine hT h' tk acc hk' (each_of (f := fun b : D × V => b.2) rv fun b _ u h => h) (each_of (f := fun b : D × V => b.2) rv fun b hm u h => ?_)
    obtain ⟨as, r⟩ := Dp.reads I _ _ _ (hb b hm).1 h
    exact ⟨as, PyProof.Rows.Reads.keeps hk' r⟩
  · have hoL : (h'.push (seqObj "list" acc.toArray 0)).get? h'.objs.size = some (seqObj "list" acc.toArray 0) := Heap.get?_push_size _ rfl
    obtain ⟨ep, he'⟩ := PyProof.Rows.sortedHeap_at (vs := acc) (out := out.toArray) hoL
    have I1 : Inv X pins σ H { s with heap := h', toks := tk } := I.kept hk'
    have rv' := vals_of_each (f := fun b : D × V => b.2) h2
    have hlen : ((bs.mergeSort (dataLe false fun b => b.1.toP 60)).map (·.2)).length ≤ sizeLine := by
      rw [List.length_map, List.length_mergeSort]
      exact hz
    refine ⟨.ref h'.objs.size, upd H h'.objs.size (.lst ((bs.mergeSort (dataLe false fun b => b.1.toP 60)).map (·.2))), I1.laid (t' := tk) (fun b u e => ?_) (Nat.le_refl _) ⟨hlen, out, ep, rv', he'⟩, rfl, q _ (I1.hok.fresh (Nat.le_refl _))⟩
    have hb : b < h'.objs.size := Heap.lt_size e
    rw [PyProof.Rows.sortedHeap_old (Nat.ne_of_lt hb) (by rw [size_push']; exact Nat.lt_succ_of_lt hb)]
    exact Heap.get?_push_of_some _ e
/-- sorted(x), x a list, a tuple or a dict -/
def fSorted : FM := fun ds st => match ds with
  | [d] => match dSeq st d with
    | some xs => gSorted xs st
    | none => match d with
      | .ref n => match dctAt st n with
        | some kvs => gSorted (kvs.map (·.1)) st
        | none => .bad
      | _ => .bad
  | _ => .bad
/-- what sorting asks, of any row of values -/
theorem sorted_ask {K : KW} {m : List Addr} {st : Store} {H : Hp} {ds : List D} {vs : List V} {E : XK} {Q : VK} (hS : SS K m st H) (rs : RDs K m H ds vs) (hP : Pe K E (RD K) m H (gSorted ds st) Q) :
    ∃ bs : List (D × V), bs.map (·.2) = vs ∧ (∀ b ∈ bs, Dp K H b.2 (b.1.toP 60) ∧ (b.1.toP 60).depth ≤ 60) ∧ AllAlike (bs.map fun b => b.1.toP 60) ∧ Sortable2 (bs.map fun b => b.1.toP 60) ∧ ∀ p, H p = none → Q (.ref p) (upd H p (.lst ((bs.mergeSort (dataLe false fun b => b.1.toP 60)).map (·.2)))) := by
  unfold gSorted at hP
  split at hP
  · rename_i hc
    unfold sortable at hc
    simp only [Bool.and_eq_true, Bool.or_eq_true, List.all_eq_true] at hc
    obtain ⟨⟨h1, h2⟩, h3⟩ := hc
    obtain ⟨z1, z2, z3⟩ := rds_zip rs
    have hmem : ∀ b ∈ ds.zip vs, b.1 ∈ ds := fun b hb => by
      rw [← z1]
      exact List.mem_map_of_mem hb
    have hmap : (ds.zip vs).map (fun b => b.1.toP 60) = ds.map (D.toP 60) := by
      conv => rhs; rw [← z1]
      rw [List.map_map]
      rfl
    refine ⟨ds.zip vs, z2, fun b hb => ?_, ?_, ?_, ?_⟩
    · obtain ⟨a1, a2, a3⟩ := plain_dp 60 b.1 b.2 (h1 _ (hmem b hb)) (z3 b hb)
      exact ⟨a1, a3⟩
    · rw [hmap]
      intro d hd d' hd'
      obtain ⟨x, hx, rfl⟩ := List.mem_map.mp hd
      obtain ⟨y, hy, rfl⟩ := List.mem_map.mp hd'
      exact h2 x hx y hy
    · rw [hmap]
      rcases h3 with (h3 | h3) | ⟨h3, h4⟩
      · refine .inl (.inl fun d hd => ?_)
        obtain ⟨x, hx, rfl⟩ := List.mem_map.mp hd
        have := h3 x hx
        unfold D.neTup at this
        split at this
        · exact ⟨_, _, rfl⟩
        · cases this
      · refine .inl (.inr fun d hd => ?_)
        obtain ⟨x, hx, rfl⟩ := List.mem_map.mp hd
        have := h3 x hx
        unfold D.atom at this
        split at this
        · exact ⟨nofun, fun _ => nofun⟩
        · exact ⟨nofun, fun _ => nofun⟩
        · cases this
      · refine .inr ⟨fun d hd => ?_, ?_⟩
        · obtain ⟨x, hx, rfl⟩ := List.mem_map.mp hd
          have := h3 x hx
          unfold D.isTup at this
          split at this
          · exact ⟨_, rfl⟩
          · cases this
        · rw [List.any_eq_true] at h4
          obtain ⟨x, hx, e⟩ := h4
          have e := of_decide_eq_true e
          subst e
          exact List.mem_map.mpr ⟨_, hx, rfl⟩
    · have e : (ds.zip vs).mergeSort (dataLe false fun b => b.1.toP 60) = (ds.zip vs).mergeSort (fun b c => sortLeD b.1 c.1) := rfl
      have e2 : ((ds.zip vs).mergeSort (fun b c => sortLeD b.1 c.1)).map (·.1) = sortD ds := by
        refine (sort_maps (s := sortLeD) (Prod.fst : D × V → D) (fun _ _ _ _ => rfl)).trans ?_
        show ((ds.zip vs).map fun b => b.1).mergeSort sortLeD = sortD ds
        rw [z1]
        rfl
      rw [e]
      have z4 : ∀ b ∈ (ds.zip vs).mergeSort (fun b c => sortLeD b.1 c.1), RD K m H b.1 b.2 := fun b hb => z3 b (List.mem_mergeSort.mp hb)
      have z5 := rds_of z4
      rw [e2] at z5
      exact hP.lst hS z5
  · exact hP.elim
theorem c_sorted (hc : X.calm = true) (hu : X.A.units + 65 < cLine) : CallM X (.builtin "sorted") fSorted :=
  ⟨fun vs H Q => rSortedD X.K vs H Q ∨ rSortedK X.kw vs H Q, fun pins s σ H vs us Q I r h => h.elim (fun h => cr_sortedD hu pins s σ H vs us Q I r h) (fun h => cr_sortedK hc hu pins s σ H vs us Q I r h), fun m st H ds vs E Q hS r hP => by
    unfold fSorted at hP
    split at hP
    · rename_i d
      obtain ⟨v, rfl, rv⟩ := r.one
      split at hP
      · rename_i xs hx
        obtain ⟨a, ws, rfl, hq, rs⟩ := dSeq_read hS hx rv
        obtain ⟨bs, e, h1, h2, h3, h4⟩ := sorted_ask hS rs hP
        exact .inl ⟨a, bs, rfl, by rw [e]; exact hq.imp id PlT.sq, h1, h2, h3, h4⟩
      · split at hP
        · rename_i n
          split at hP
          · rename_i kvs hk
            obtain ⟨a, ws, rfl, hd, rs⟩ := dkeys_of hS hk rv
            obtain ⟨bs, e, h1, h2, h3, h4⟩ := sorted_ask hS rs hP
            exact .inr ⟨a, bs, rfl, by rw [e]; exact hd, h1, h2, h3, h4⟩
          · exact hP.elim
        · exact hP.elim
    · exact hP.elim⟩
end
end HM

/-! HM, part DD: a dict of one pair. -/
namespace HM
open PySem PySem.Spec PyProof.Rows L2
section
variable {X : Cx} {W : WX} {a b : Expr} {pos : Pos} {fa fb : EM D} {A : Around} {E : Value → Shared → Prop} {s : Shared}
theorem wpAny_Dict_one {prog : Program} {w : World} {env : Env} {k v : Expr} {Q : Value → Shared → Prop}
    (h : wpAny (model prog w) A (eval k env) (fun kv s1 => wpAny (model prog w) A (eval v env) (fun vv s2 => wpAny (model prog w) A (dictSet s.heap.objs.size kv vv) (fun _ s3 => Q (.ref s.heap.objs.size) s3) E s2) E s1) E { s with heap := s.heap.push { cls := .type "dict", data := .dict #[] } }) :
    wpAny (model prog w) A (eval (.Dict [some k] [v] pos) env) Q E s := by
  rw [arm_eval_Dict, zip_pairTrees [some k] [v] env pos rfl rfl, dictDisplay_pairs _ (by simp [pairTrees]) (by simp [pairTrees])]
  refine wpAny_bind (wpAny_standAt (wpAny_bind ?_))
  unfold subDict
  refine wpAny_bind (wpAny_alloc (wpAny_bind (wpAny_holding ?_)))
  rw [if_pos (by simp [pairTrees])]
  refine wpAny_bind (pairTrees_cons_walk (wpAny_mono h (fun kv s1 h1 => wpAny_mono h1 (fun vv s2 h2 => pairTrees_nil_walk ?_) fun _ _ e => e) fun _ _ e => e))
  refine wpAny_holding ?_
  rw [List.forIn_cons]
  refine wpAny_bind (wpAny_bind (wpAny_bind (wpAny_mono h2 (fun _ s3 h3 => wpAny_pure ?_) fun _ _ e => e)))
  show wpAny _ _ (forIn [] PUnit.unit _) _ _ _
  rw [List.forIn_nil]
  exact wpAny_pure (wpAny_pure (wpAny_pure (wpAny_pure h3)))
end
section
variable {X : Cx} {pins : List (Addr × Obj)} {σ : L2.St} {H : Hp} {s : Shared} {p : Addr} {A : Around} {E : Value → Shared → Prop} {K : KW} {m m2 : List Addr} {st : Store}
/-- the first pair of a dict -/
theorem dictSet_first {k d : D} {y v : V} {u r : Value} {Q : Unit → Shared → Prop} (hu : A.units + 10 < cLine) (I : Inv X pins σ H s) (e : H p = some (.dK [])) (f : (k.flatK || k.tupQ) = true) (rk : RD X.K m H k y) (rv : RD X.K m H d v) (ru : RelV y u) (rr : RelV v r)
    (h : ∀ (o : HO) (s' : Shared), Inv X pins σ (upd H p o) s' → (∀ m', (∀ (n : Nat) (a : Addr), m[n]? = some a → m'[n]? = some a) → RC X.kw m' (upd H p o) p (.dct [(k, d)])) → Q () s') : wpAny (model X.prog X.w) A (dictSet p u r) Q E s := by
  have mu : Mut (H p) := by rw [e]; exact True.intro
  have kp : ∀ (o : HO) (m' : List Addr), (∀ (n : Nat) (a : Addr), m[n]? = some a → m'[n]? = some a) → Kp X.K m H m' (upd H p o) := fun o m' hm => by
    have z : Kp X.K m H m (upd H p o) := Kp.writeM mu
    exact ⟨fun n a q => hm n a q, z.tup, z.plt, z.fzl, z.xdk⟩
  rw [Bool.or_eq_true] at f
  rcases f with f | f
  · obtain ⟨q, rfl, rfl⟩ := flatK_of f rk
    obtain ⟨z, hd, vs0, r0, dd⟩ := dk_of I.hok e
    cases r0
    refine wpAny_dictSet_pairs (hsz := Nat.zero_le _) (kV_is ru) dd fun h' dd' hs => h (.dK (putK [] q v)) _ ?_ fun m' hm => .inl ⟨_, upd_same, .cons ⟨rfl, rv.kp (kp _ m' hm)⟩ .nil⟩
    have he : ∃ q, h'.get? p = some q := let ⟨q, _, _, hq, _⟩ := dd'; ⟨q, hq⟩
    refine d_write I mu hs he (dk_new (by rw [PySem.sizeLine_eq]; show 1 ≤ _; omega) hd ?_ dd')
    exact .cons ⟨rfl, rr⟩ .nil
  · obtain ⟨b, rfl, z1, z2⟩ := tupQ_of f rk
    cases (show u = Value.ref b from ru)
    obtain ⟨hd, dd⟩ := dk_empty_at I e
    refine wpAny_dictSet_heap (knd := nestedKind X.prog X.w) (hsz := Nat.zero_le _) ?_ ⟨nv_is I z1 rfl, z2⟩ dd fun h' dd' hs => h (.ext (DObj X.w p [(k.nk, b, v)])) _ ?_ fun m' hm => .inr ⟨_, upd_same, by simp, .cons ⟨f, rfl, rk.kp (kp _ m' hm), rv.kp (kp _ m' hm)⟩ .nil⟩
    · show A.units + 8 < cLine
      omega
    have he : ∃ q, h'.get? p = some q := let ⟨q, _, _, hq, _⟩ := dd'; ⟨q, hq⟩
    exact d_write I mu hs he (dobj_ok hd (by rw [PySem.sizeLine_eq]; show 1 ≤ _; omega) (.cons ⟨rfl, rfl, rr⟩ .nil) dd')
/-- an object that the store does not hold is written and becomes the store's -/
theorem Ext.ownW {H0 : Hp} {o : HO} (e : Ext K.F m H0 m2 H) (h0 : H0 p = none) (hp : p ∉ m2) (mu : Mut (H p)) : Ext K.F m H0 (m2 ++ [p]) (upd H p o) where
  pre := fun n a q => by
    have := e.pre n a q
    rw [List.getElem?_append_left (List.getElem?_eq_some_iff.mp this).1]
    exact this
  tup := fun a vs q => (Kp.writeM (K := K.F) (m := m2) mu).tup a vs (e.tup a vs q)
  plt := fun a vs q => (Kp.writeM (K := K.F) (m := m2) mu).plt a vs (e.plt a vs q)
  fzl := fun a vs q => (Kp.writeM (K := K.F) (m := m2) mu).fzl a vs (e.fzl a vs q)
  xdk := fun a vs q => (Kp.writeM (K := K.F) (m := m2) mu).xdk a vs (e.xdk a vs q)
  frm := fun a ob n q => by
    have : a ≠ p := fun z => by rw [z, h0] at q; cases q
    rw [upd_ne this]
    exact e.frm a ob n q
  new := fun a q n => by
    rcases List.mem_append.mp q with q | q
    · exact e.new a q n
    · have z : a = p := by simpa using q
      rw [z]
      exact h0
theorem SS.ownW {o : HO} {c : Cell} (hS : SS K m st H) (hp : p ∉ m) (mu : Mut (H p)) (r : RC K (m ++ [p]) (upd H p o) p c) : SS K (m ++ [p]) (st ++ [c]) (upd H p o) := by
  have s1 : SS K m st (upd H p o) := ⟨hS.len, hS.nd, fun n c a h1 h2 => (hS.cel n c a h1 h2).kp (Kp.writeM mu) fun ob q => by
    have : a ≠ p := fun z => by rw [z] at h2; exact hp (List.mem_of_getElem? h2)
    rw [upd_ne this]
    exact q⟩
  exact s1.grow hp r
end
section
variable {X : Cx} {W : WX} {a b : Expr} {pos : Pos} {fa fb : EM D}
def eDct1 (fk fv : EM D) : EM D := fun τ st => (fk τ st).bind fun k s1 => (fv τ s1).bind fun v s2 => if k.flatK || k.tupQ then .ok (.ref s2.length) (s2 ++ [.dct [(k, v)]]) else .bad
theorem ex_dct1 (hu : X.A.units + 65 < cLine) (hk : Ex X W a fa) (hv : Ex X W b fb) : Ex X W (.Dict [some a] [b] pos) (eDct1 fa fb) := by
  refine ⟨fun m τ st σ H Q hL hS hP pins s I => wpAny_Dict_one ?_⟩
  have hn := I.hok.fresh (Nat.le_refl s.heap.objs.size)
  obtain ⟨p, hp⟩ : ∃ p, p = s.heap.objs.size := ⟨_, rfl⟩
  have I1 := I.laid (a := s.heap.objs.size) (o := .dK []) (h' := s.heap.push { cls := .type "dict", data := .dict #[] }) (t' := s.toks) (fun _ _ q => Heap.get?_push_of_some _ q) (Nat.le_refl _) (dk_empty s.heap I.big)
  rw [← hp] at I1 hn ⊢
  have e0 : Ext X.K m H m (upd H p (.dK [])) := Ext.fresh hn
  have np := hS.notin hn
  unfold eDct1 at hP
  cases h1 : fa τ st with
  | bad => rw [h1] at hP; exact hP.elim
  | exc x s1 =>
    rw [h1] at hP
    refine wpAny_mono (hk.run m τ st σ _ (fun _ _ => False) (hL.mono e0) (hS.fresh hn) ?_ pins _ I1) (fun _ _ h => ?_) fun _ _ h => h
    · rw [h1]
      exact fun m' H' c d e q r => hP m' H' c d (e0.trans e) q r
    · obtain ⟨_, _, _, _, f⟩ := h
      exact f.elim
  | ok k s1 =>
    rw [h1, ER.bind_ok] at hP
    have J1 : ∀ {m1 : List Addr} {H1 : Hp}, Ext X.K m (upd H p (.dK [])) m1 H1 → H1 p = some (.dK []) ∧ p ∉ m1 := fun e => by
      refine ⟨e.frm p _ np upd_same, fun q => ?_⟩
      have := e.new p q np
      rw [upd_same] at this
      cases this
    refine wpAny_mono (hk.run m τ st σ _ (fun y H1 => ∃ m1, Ext X.K m (upd H p (.dK [])) m1 H1 ∧ SS X.kw m1 s1 H1 ∧ RD X.K m1 H1 k y) (hL.mono e0) (hS.fresh hn) ?_ pins _ I1) (fun u t1 hh => ?_) fun _ _ h => h
    · rw [h1]
      exact fun m' H' y e q r => ⟨m', e, q, r⟩
    obtain ⟨y, H1, I2, ru, m1, e1, hS1, rk⟩ := hh
    cases h2 : fb τ s1 with
    | bad => rw [h2] at hP; exact hP.elim
    | exc x s2 =>
      rw [h2] at hP
      refine wpAny_mono (hv.run m1 τ s1 σ H1 (fun _ _ => False) (hL.mono (e0.trans e1)) hS1 ?_ pins _ I2) (fun _ _ h => ?_) fun _ _ h => h
      · rw [h2]
        exact fun m' H' c d e q r => hP m' H' c d ((e0.trans e1).trans e) q r
      · obtain ⟨_, _, _, _, f⟩ := h
        exact f.elim
    | ok v s2 =>
      rw [h2, ER.bind_ok] at hP
      refine wpAny_mono (hv.run m1 τ s1 σ H1 (fun z H2 => ∃ m2, Ext X.K m1 H1 m2 H2 ∧ SS X.kw m2 s2 H2 ∧ RD X.K m2 H2 v z) (hL.mono (e0.trans e1)) hS1 ?_ pins _ I2) (fun w t2 hh => ?_) fun _ _ h => h
      · rw [h2]
        exact fun m' H' y e q r => ⟨m', e, q, r⟩
      obtain ⟨z, H2, I3, rw', m2, e2, hS2, rv⟩ := hh
      obtain ⟨q2, n2⟩ := J1 (e1.trans e2)
      have rk2 := rk.mono e2
      split at hP
      · rename_i hf
        have mu : Mut (H2 p) := by rw [q2]; exact True.intro
        refine dictSet_first (by omega) I3 q2 hf rk2 rv ru rw' fun o t3 I4 rc => ?_
        have pre : ∀ (n : Nat) (a : Addr), m2[n]? = some a → (m2 ++ [p])[n]? = some a := fun n a q => by
          rw [List.getElem?_append_left (List.getElem?_eq_some_iff.mp q).1]
          exact q
        have hS3 := SS.ownW hS2 n2 mu (rc _ pre)
        refine ⟨.ref p, _, I4, rfl, hP _ _ _ (Ext.ownW (K := X.kw) ((e0.trans e1).trans e2) hn n2 mu) hS3 (.ref ?_)⟩
        rw [← hS2.len]
        simp
      · exact hP.elim
end
end HM

/-! HM, part M: min of tuples. -/
namespace HM
open PySem PySem.Spec PyProof.Rows L2
section
open PySem.W PySem.Calls
variable {prog : Program} {w : World} {A : Around} {E : Value → Shared → Prop} {s : Shared}
theorem min_list_ix {l : Addr} {vs : Array Value} {ys : List PyData} {as : List Addr} {Q : Value → Shared → Prop} (hh : A.handled = none) (hl : s.heap.IsList l vs) (hr : ReadsAll s.heap vs.toList ys as) (hn : vs.size = ys.length) (h0 : 0 < ys.length) (ha : AlikeAll ys) (hu : A.units + 1 + PyData.depthAll ys < cLine)
    (h : ∀ v h' tk, vs[argBest (fun i j => PySem.W.dataLt (ys.getD i .none) (ys.getD j .none)) (ys.length - 1)]? = some v → (∀ b o, s.heap.get? b = some o → h'.get? b = some o) → Q v { s with heap := h', toks := tk }) :
    wpAny (model prog w) A (call (.builtin "min") [.ref l]) Q E s := by
  refine call_min_walkH (iter_listW (A := A.in1) hh hl fun s₂ e W st hfp hw hk => ?_)
  refine ⟨_, _, _, _, _, _, _, s.heap, _, rfl, W, st, hfp, by omega, hw, hk, cmpIn_lt (A := A.in1) hr ha (by show A.units + 1 + _ < _; exact hu), fun v s' hP m => ?_⟩
  obtain ⟨h', tk, rfl, hk'⟩ := moved_old e rfl m
  rw [hn] at hP
  exact h v h' tk hP hk'
theorem min_tuple_ix {l : Addr} {vs : Array Value} {ys : List PyData} {as : List Addr} {Q : Value → Shared → Prop} (hh : A.handled = none) (hl : s.heap.IsTuple l vs) (hr : ReadsAll s.heap vs.toList ys as) (hn : vs.size = ys.length) (h0 : 0 < ys.length) (ha : AlikeAll ys) (hu : A.units + 1 + PyData.depthAll ys < cLine)
    (h : ∀ v h' tk, vs[argBest (fun i j => PySem.W.dataLt (ys.getD i .none) (ys.getD j .none)) (ys.length - 1)]? = some v → (∀ b o, s.heap.get? b = some o → h'.get? b = some o) → Q v { s with heap := h', toks := tk }) :
    wpAny (model prog w) A (call (.builtin "min") [.ref l]) Q E s := by
  refine call_min_walkH (iter_tupleW (A := A.in1) hh hl fun s₂ e W st hfp hw hk => ?_)
  refine ⟨_, _, _, _, _, _, _, s.heap, _, rfl, W, st, hfp, by omega, hw, hk, cmpIn_lt (A := A.in1) hr ha (by show A.units + 1 + _ < _; exact hu), fun v s' hP m => ?_⟩
  obtain ⟨h', tk, rfl, hk'⟩ := moved_old e rfl m
  rw [hn] at hP
  exact h v h' tk hP hk'
end
section
open PySem.W PySem.Calls
variable {X : Cx} {W : WX} {e o a b c : Expr} {es : List Expr} {pos p : Pos} {f fo fa fb : EM D} {fs : EM (List D)}
/-- the place of the first of the least -/
def minIx (ds : List D) : Nat := argBest (fun i j => PySem.W.dataLt ((ds.getD i .non).toP 60) ((ds.getD j .non).toP 60)) (ds.length - 1)
def minable (xs : List D) : Bool := xs.all D.isTup && xs.all (D.plain 60) && xs.all fun x => xs.all fun y => PySem.W.alike (x.toP 60) (y.toP 60)
def gMinT : SM1 := fun xs st => match (intsD xs).bind minI with
  | some n => .ok (.int n) st
  | none => match minable xs, xs[minIx xs]? with
    | true, some d => .ok d st
    | _, _ => .bad
def rMinD (K : PySem.W.Frag) : List V → Hp → VK → Prop := fun xs H Q => ∃ (a : Addr) (bs : List (D × V)), xs = [.ref a] ∧ (SqL K H a (bs.map (·.2)) ∨ SqT K H a (bs.map (·.2))) ∧ (∀ b ∈ bs, Dp K H b.2 (b.1.toP 60) ∧ (b.1.toP 60).depth ≤ 60) ∧
  AlikeAll (bs.map fun b => b.1.toP 60) ∧ 0 < bs.length ∧ ∀ b, bs[minIx (bs.map (·.1))]? = some b → Q b.2 H
theorem depthAll_le {n : Nat} : ∀ {ys : List PyData}, (∀ y ∈ ys, y.depth ≤ n) → PyData.depthAll ys ≤ n
  | [], _ => by simp [PyData.depthAll]
  | y :: ys, h => by
    have h1 := h y (List.mem_cons_self ..)
    have h2 := depthAll_le (ys := ys) fun z hz => h z (List.mem_cons_of_mem _ hz)
    simp only [PyData.depthAll]
    omega
theorem cr_minD (hc : X.calm = true) (hu : X.A.units + 65 < cLine) : CallR X (.builtin "min") (rMinD X.K) := by
  intro pins s σ H vs us Q I r h
  obtain ⟨a, bs, rfl, hs, hb, hal, h0, q⟩ := h
  rw [Vals.ref1 r]
  have ee : ∀ its : List Value, Vals (bs.map (·.2)) its → EachIs (fun u (b : D × V) => RelV b.2 u) its bs := fun its rv => each_of (f := fun b : D × V => b.2) rv fun b _ u h => h
  have er : ∀ its : List Value, Vals (bs.map (·.2)) its → EachIs (fun v (b : D × V) => ∃ as, PySem.Reads s.heap v (b.1.toP 60) as) its bs := fun its rv => each_of (f := fun b : D × V => b.2) rv fun b hm u h => Dp.reads I _ _ _ (hb b hm).1 h
  have hd : PyData.depthAll (bs.map fun b => b.1.toP 60) ≤ 60 := depthAll_le fun y hy => by
    obtain ⟨b, hb', rfl⟩ := List.mem_map.mp hy
    exact (hb b hb').2
  have ix : argBest (fun i j => PySem.W.dataLt ((bs.map fun b => b.1.toP 60).getD i .none) ((bs.map fun b => b.1.toP 60).getD j .none)) ((bs.map fun b => b.1.toP 60).length - 1) = minIx (bs.map (·.1)) := by
    unfold minIx
    have g : ∀ i, (bs.map fun b => b.1.toP 60).getD i .none = ((bs.map (·.1)).getD i D.non).toP 60 := fun i => by
      simp only [List.getD_eq_getElem?_getD, List.getElem?_map]
      cases bs[i]? <;> simp [D.toP]
    simp only [g, List.length_map]
  have fin : ∀ its : List Value, Vals (bs.map (·.2)) its → ∀ v h' tk, its.toArray[minIx (bs.map (·.1))]? = some v → (∀ b o, s.heap.get? b = some o → h'.get? b = some o) → EP X pins σ Q v { s with heap := h', toks := tk } := fun its rv v h' tk hv hk => by
    have hv' : its[minIx (bs.map (·.1))]? = some v := by simpa using hv
    have len := EachIs.length (ee its rv)
    have hi := (List.getElem?_eq_some_iff.mp hv').1
    have hb' : bs[minIx (bs.map (·.1))]? = some bs[minIx (bs.map (·.1))] := List.getElem?_eq_getElem (by omega)
    obtain ⟨u, hu', ru⟩ := rv.get (i := minIx (bs.map (·.1))) (x := (bs[minIx (bs.map (·.1))]'(by omega)).2) (by rw [List.getElem?_map, hb']; rfl)
    rw [hv'] at hu'
    cases hu'
    exact ⟨_, H, I.kept hk, ru, q _ hb'⟩
  have sz : ∀ its : List Value, Vals (bs.map (·.2)) its → its.toArray.size = (bs.map fun b => b.1.toP 60).length := fun its rv => by
    have len := EachIs.length (ee its rv)
    simp
    omega
  have l0 : 0 < (bs.map fun b => b.1.toP 60).length := by rw [List.length_map]; exact h0
  rcases hs with hs | hs
  · obtain ⟨its, rv, hl, hz⟩ := I.list hs
    obtain ⟨as, ra⟩ := PySem.W.each_readsAll (fun b : D × V => b.1.toP 60) (er its rv)
    refine min_list_ix (vs := its.toArray) (I.ok.hd hc) hl.isList (by simpa using ra) (sz its rv) l0 hal (by omega) fun v h' tk hv hk => ?_
    rw [ix] at hv
    exact fin its rv v h' tk hv hk
  · obtain ⟨its, rv, hl, hz⟩ := I.tuple hs
    obtain ⟨as, ra⟩ := PySem.W.each_readsAll (fun b : D × V => b.1.toP 60) (er its rv)
    obtain ⟨ob, ho, hcl, n, hd'⟩ := hl
    refine min_tuple_ix (vs := its.toArray) (I.ok.hd hc) ⟨ob, ho, hcl, n, hd'⟩ (by simpa using ra) (sz its rv) l0 hal (by omega) fun v h' tk hv hk => ?_
    rw [ix] at hv
    exact fin its rv v h' tk hv hk
theorem sv_minD (hc : X.calm = true) (hu : X.A.units + 65 < cLine) : CallS X (.builtin "min") gMinT := ⟨_, ((cr_min hc).or (cr_minT hc)).or (cr_minD hc hu), fun m st H ds v E Q hS r hP => by
  obtain ⟨a, vs, rfl, q, rs⟩ := r
  unfold gMinT at hP
  split at hP
  · rename_i k hk
    cases hn : intsD ds with
    | none =>
      rw [hn] at hk
      cases hk
    | some ns =>
      rw [hn] at hk
      have hk : minI ns = some k := hk
      have e := intsD_V rs hn
      subst e
      have fin : ∀ mm, mm ∈ ns → (∀ y, y ∈ ns → mm ≤ y) → Q (.int mm) H := fun mm hm hy => by
        rw [min_uniq hk hm hy]
        exact hP.now hS (.int _)
      rcases q with q | q
      · exact .inl (.inl ⟨a, ns, rfl, q, minI_pos hk, fin⟩)
      · exact .inl (.inr ⟨a, ns, rfl, q.sq, minI_pos hk, fin⟩)
  · split at hP
    · rename_i d hm hd
      unfold minable at hm
      simp only [Bool.and_eq_true, List.all_eq_true] at hm
      obtain ⟨⟨h0, h1⟩, h2⟩ := hm
      obtain ⟨z1, z2, z3⟩ := rds_zip rs
      have hmem : ∀ b ∈ ds.zip vs, b.1 ∈ ds := fun b hb => by
        rw [← z1]
        exact List.mem_map_of_mem hb
      have hmap : (ds.zip vs).map (fun b => b.1.toP 60) = ds.map (D.toP 60) := by
        conv => rhs; rw [← z1]
        rw [List.map_map]
        rfl
      refine .inr ⟨a, ds.zip vs, rfl, by rw [z2]; exact q.imp id PlT.sq, fun b hb => ?_, ?_, ?_, fun b hb => ?_⟩
      · obtain ⟨a1, a2, a3⟩ := plain_dp 60 b.1 b.2 (h1 _ (hmem b hb)) (z3 b hb)
        exact ⟨a1, a3⟩
      · rw [hmap]
        refine ⟨fun d hd d' hd' => ?_, fun d hd => ?_⟩
        · obtain ⟨x, hx, rfl⟩ := List.mem_map.mp hd
          obtain ⟨y, hy, rfl⟩ := List.mem_map.mp hd'
          exact h2 x hx y hy
        · obtain ⟨x, hx, rfl⟩ := List.mem_map.mp hd
          exact toP_tup (h0 x hx)
      · have : (ds.zip vs).length = ds.length := by rw [← z1, List.length_map, z1]
        rw [this]
        have := (List.getElem?_eq_some_iff.mp hd).1
        omega
      · rw [z1] at hb
        have e : b.1 = d := by
          have : ((ds.zip vs).map (·.1))[minIx ds]? = some b.1 := by rw [List.getElem?_map, hb]; rfl
          rw [z1, hd] at this
          exact (Option.some.inj this).symm
        have rb := z3 b (List.mem_of_getElem? hb)
        rw [e] at rb
        exact hP.now hS rb
    · exact hP.elim⟩
/-! ### index -/
def mIndexT : MM := fun d ds st => match d, ds with
  | .tup xs, [.int k] => match intsD xs with
    | some ns => if k ∈ ns then .ok (.int (ns.idxOf k : Nat)) st else .bad
    | none => .bad
  | _, _ => .bad
theorem me_indexT : MethM X "tuple.index" mIndexT := ⟨fun v vs H Q => ∃ (p : Addr) (ns : List Int) (k : Int), v = .ref p ∧ vs = [.int k] ∧ SqT X.K H p (ns.map V.int) ∧ k ∈ ns ∧ Q (.int (ns.idxOf k : Nat)) H,
  fun pins s σ H x xs v us Q I r rs h => by
    obtain ⟨p, ns, k, rfl, rfl, hq, hk, q⟩ := h
    cases r
    obtain ⟨u, rfl, ru⟩ := vals1 rs
    obtain ⟨t, rfl⟩ := ru
    obtain ⟨its, rv, ⟨ob, ho, hc, n, hd⟩, hz⟩ := I.tuple hq
    exact PySem.SeqAt.tuple_index_ints (vs := its) ⟨ob, ho, hc, n, hd⟩ rv.ints hk ⟨.int _, H, I.tok _, ⟨_, rfl⟩, q⟩,
  fun m st H d v ds vs E Q hS r rs hP => by
    unfold mIndexT at hP
    split at hP
    · split at hP
      · rename_i ns hn
        split at hP
        · rename_i hk
          cases r with
          | tup q r2 =>
            obtain ⟨w, rfl, rw'⟩ := rs.one
            cases rw'
            have e := intsD_V r2 hn
            subst e
            exact ⟨_, ns, _, rfl, rfl, q.sq, hk, hP.now hS (.int _)⟩
        · exact hP.elim
      · exact hP.elim
    · exact hP.elim⟩
def mIndexL : MM := fun d ds st => match d, ds with
  | .ref n, [.int k] => match (lstAt st n).bind intsD with
    | some ns => if k ∈ ns then .ok (.int (ns.idxOf k : Nat)) st else .bad
    | none => .bad
  | _, _ => .bad
theorem me_indexL : MethM X "list.index" mIndexL := ⟨fun v vs H Q => ∃ (p : Addr) (ns : List Int) (k : Int), v = .ref p ∧ vs = [.int k] ∧ SqL X.K H p (ns.map V.int) ∧ k ∈ ns ∧ Q (.int (ns.idxOf k : Nat)) H,
  fun pins s σ H x xs v us Q I r rs h => by
    obtain ⟨p, ns, k, rfl, rfl, hq, hk, q⟩ := h
    cases r
    obtain ⟨u, rfl, ru⟩ := vals1 rs
    obtain ⟨t, rfl⟩ := ru
    obtain ⟨its, rv, hl, hz⟩ := I.list hq
    exact PySem.SeqAt.list_index_ints (vs := its) hl.isList rv.ints (by rw [← List.length_map (f := V.int)]; exact hz) hk ⟨.int _, H, I.tok _, ⟨_, rfl⟩, q⟩,
  fun m st H d v ds vs E Q hS r rs hP => by
    unfold mIndexL at hP
    split at hP
    · split at hP
      · rename_i ns hn
        split at hP
        · rename_i hk
          cases r with
          | ref q =>
            obtain ⟨w, rfl, rw'⟩ := rs.one
            cases rw'
            obtain ⟨xs, hx, hn⟩ := Option.bind_eq_some_iff.mp hn
            obtain ⟨us, h1, h2⟩ := hS.list hx q
            have e := intsD_V h2 hn
            subst e
            exact ⟨_, ns, _, rfl, rfl, SqL.of h1, hk, hP.now hS (.int _)⟩
        · exact hP.elim
      · exact hP.elim
    · exact hP.elim⟩
end
end HM

/-! HM, part S: how mirrors are computed (simp). -/
namespace HM
open PySem PySem.Spec PyProof.Rows L2
section
variable {α β : Type} {τ : Sl} {st : Store} {f g h fa fb fc fe fo fi : EM D} {fs : EM (List D)} {ga gb : EM Bool} {i n : Nat} {d : D} {u v : SM}
@[simp] theorem eVar_e (hh : τ[i]? = some (some d)) : eVar i τ st = .ok d st := by unfold eVar; rw [hh]
@[simp] theorem eC_e : eC d τ st = .ok d st := rfl
@[simp] theorem eBin_e {o : O2} : eBin o fa fb τ st = (fa τ st).bind fun x s1 => (fb τ s1).bind fun y s2 => o x y s2 := rfl
@[simp] theorem eUn_e {o : O1} : eUn o fa τ st = (fa τ st).bind o := rfl
@[simp] theorem tBl_e : tBl fa τ st = (fa τ st).bind dBl := rfl
@[simp] theorem dBl_e {b : Bool} : dBl (.bl b) st = .ok b st := rfl
def oTru (d : D) (st : Store) : ER Bool := match dTru st d with
  | some b => .ok b st
  | none => .bad
@[simp] theorem tVal_e : tVal fa τ st = (fa τ st).bind oTru := rfl
@[simp] theorem oTru_bl {b : Bool} : oTru (.bl b) st = .ok b st := rfl
@[simp] theorem oTru_int {k : Int} : oTru (.int k) st = .ok (k != 0) st := rfl
@[simp] theorem oTru_non : oTru .non st = .ok false st := rfl
@[simp] theorem oTru_tup {xs : List D} : oTru (.tup xs) st = .ok (!xs.isEmpty) st := rfl
@[simp] theorem tAnd_e : HM.tAnd ga gb τ st = (ga τ st).bind fun x s1 => if x then gb τ s1 else .ok false s1 := rfl
@[simp] theorem tOr_e : HM.tOr ga gb τ st = (ga τ st).bind fun x s1 => if x then .ok true s1 else gb τ s1 := rfl
@[simp] theorem tNot_e : HM.tNot ga τ st = (ga τ st).bind fun x s1 => .ok (!x) s1 := rfl
@[simp] theorem tYes_e : HM.tYes τ st = .ok true st := rfl
def oAndV (k : Store → ER D) (d : D) (st : Store) : ER D := match dTru st d with
  | some true => k st
  | some false => .ok d st
  | none => .bad
def oOrV (k : Store → ER D) (d : D) (st : Store) : ER D := match dTru st d with
  | some true => .ok d st
  | some false => k st
  | none => .bad
def oNotV (d : D) (st : Store) : ER D := match dTru st d with
  | some b => .ok (.bl !b) st
  | none => .bad
@[simp] theorem eAnd_e : eAnd fa fb τ st = (fa τ st).bind (oAndV (fb τ)) := rfl
@[simp] theorem eOr_e : eOr fa fb τ st = (fa τ st).bind (oOrV (fb τ)) := rfl
@[simp] theorem eNot_e : eNot fa τ st = (fa τ st).bind oNotV := rfl
@[simp] theorem oAndV_bl {k : Store → ER D} {b : Bool} : oAndV k (.bl b) st = if b then k st else .ok (.bl false) st := by cases b <;> rfl
@[simp] theorem oOrV_bl {k : Store → ER D} {b : Bool} : oOrV k (.bl b) st = if b then .ok (.bl true) st else k st := by cases b <;> rfl
@[simp] theorem oNotV_bl {b : Bool} : oNotV (.bl b) st = .ok (.bl !b) st := rfl
@[simp] theorem eIf_e : eIf ga fa fb τ st = (ga τ st).bind fun x s1 => if x then fa τ s1 else fb τ s1 := rfl
@[simp] theorem aNil_e : aNil τ st = .ok [] st := rfl
@[simp] theorem aCons_e : aCons f fs τ st = (f τ st).bind fun x s1 => (fs τ s1).bind fun xs s2 => .ok (x :: xs) s2 := rfl
@[simp] theorem eTup_e : eTup fs τ st = (fs τ st).bind fun xs s1 => if xs.length ≤ 16777216 then .ok (.tup xs) s1 else .bad := rfl
@[simp] theorem eLst_e : eLst fs τ st = (fs τ st).bind fun xs s1 => if xs.length ≤ 16777216 then .ok (.ref s1.length) (s1 ++ [.lst xs]) else .bad := rfl
@[simp] theorem eCall_e {mf : FM} : eCall n mf fs τ st = (fs τ st).bind fun ds s1 => if ds.length = n then mf ds s1 else .bad := rfl
@[simp] theorem eCB_e {mf : FM} : eCB mf fs τ st = (fs τ st).bind mf := rfl
@[simp] theorem eCS_e {g : SM1} : eCS g fs τ st = (fs τ st).bind g := rfl
@[simp] theorem eEl_e : eEl fs τ st = (fs τ st).bind fun ds s1 => .ok (.ref s1.length) (s1 ++ [.lst ds]) := rfl
def oSeq (d : D) (st : Store) : ER (List D) := match dSeq st d with
  | some xs => .ok xs st
  | none => .bad
@[simp] theorem sEx_e : sEx f τ st = (f τ st).bind oSeq := rfl
@[simp] theorem oSeq_tup {xs : List D} : oSeq (.tup xs) st = .ok xs st := rfl
@[simp] theorem oSeq_rol {xs : List D} : oSeq (.rol xs) st = .ok xs st := rfl
@[simp] theorem eChain_e {o o' : O2} : eChain o o' fa fb fc τ st = (fa τ st).bind fun x s1 => (fb τ s1).bind fun y s2 => (o x y s2).bind fun z s3 => match z with
  | .bl true => (fc τ s3).bind fun w s4 => o' y w s4
  | .bl false => .ok (.bl false) s3
  | _ => .bad := rfl
/-! values -/
@[simp] theorem oAdd_int {i j : Int} : oAdd (.int i) (.int j) st = .ok (.int (i + j)) st := rfl
@[simp] theorem oIAdd_int {i j : Int} : oIAdd (.int i) (.int j) st = .ok (.int (i + j)) st := rfl
@[simp] theorem oAdd_str {a b : List Nat} : oAdd (.str a) (.str b) st = if a.length + b.length ≤ 16777216 then .ok (.str (a ++ b)) st else .bad := rfl
@[simp] theorem oAdd_tup {a b : List D} : oAdd (.tup a) (.tup b) st = if a.length + b.length ≤ 16777216 then .ok (.tup (a ++ b)) st else .bad := rfl
@[simp] theorem oInt_e {i j : Int} {k : Int → Int → Int} : oInt k (.int i) (.int j) st = .ok (.int (k i j)) st := rfl
@[simp] theorem oIntC_e {i j : Int} {C : Int → Int → Bool} {k : Int → Int → Int} (hc : C i j = true) : oIntC C k (.int i) (.int j) st = .ok (.int (k i j)) st := by
  show (if C i j = true then _ else _) = _
  rw [if_pos hc]
@[simp] theorem oCmp_e {i j : Int} {k : Int → Int → Bool} : oCmp k (.int i) (.int j) st = .ok (.bl (k i j)) st := rfl
@[simp] theorem oNeg_e {i : Int} : oNeg (.int i) st = .ok (.int (-i)) st := rfl
@[simp] theorem oEq_int {i j : Int} : oEq (.int i) (.int j) st = .ok (.bl (decide (i = j))) st := rfl
@[simp] theorem oNe_int {i j : Int} : oNe (.int i) (.int j) st = .ok (.bl !(decide (i = j))) st := rfl
@[simp] theorem oEq_str {a b : List Nat} : oEq (.str a) (.str b) st = .ok (.bl (decide (a = b))) st := rfl
@[simp] theorem oNe_str {a b : List Nat} : oNe (.str a) (.str b) st = .ok (.bl !(decide (a = b))) st := rfl
@[simp] theorem oEq_bl {a b : Bool} : oEq (.bl a) (.bl b) st = .ok (.bl (decide (a = b))) st := rfl
@[simp] theorem oNe_bl {a b : Bool} : oNe (.bl a) (.bl b) st = .ok (.bl !(decide (a = b))) st := rfl
@[simp] theorem oEq_tup {a b : List D} (ha : (D.tup a).plain 60 = true) (hb : (D.tup b).plain 60 = true) : oEq (.tup a) (.tup b) st = .ok (.bl (decide (a = b))) st := by
  simp [oEq, dEq, D.pd, ha, hb]
@[simp] theorem oNe_tup {a b : List D} (ha : (D.tup a).plain 60 = true) (hb : (D.tup b).plain 60 = true) : oNe (.tup a) (.tup b) st = .ok (.bl !(decide (a = b))) st := by
  simp [oNe, dEq, D.pd, ha, hb]
@[simp] theorem plain_tup {n : Nat} {xs : List D} : (D.tup xs).plain (n + 1) = xs.all (D.plain n) := rfl
@[simp] theorem plain_int {n : Nat} {k : Int} : (D.int k).plain n = true := by cases n <;> rfl
@[simp] theorem plain_non {n : Nat} : D.non.plain n = true := by cases n <;> rfl
@[simp] theorem plain_str {n : Nat} {x : List Nat} : (D.str x).plain n = x.all fun c => decide (c < 1114112) := by cases n <;> rfl
@[simp] theorem oIs_bl {a b : Bool} : oIs (.bl a) (.bl b) st = .ok (.bl (decide (a = b))) st := rfl
@[simp] theorem oIsNot_bl {a b : Bool} : oIsNot (.bl a) (.bl b) st = .ok (.bl !(decide (a = b))) st := rfl
@[simp] theorem oIs_non : oIs .non .non st = .ok (.bl true) st := rfl
@[simp] theorem oIs_int {i : Int} : oIs (.int i) .non st = .ok (.bl false) st := rfl
@[simp] theorem oIs_tup {xs : List D} : oIs (.tup xs) .non st = .ok (.bl false) st := rfl
@[simp] theorem oIsNot_non : oIsNot .non .non st = .ok (.bl false) st := rfl
@[simp] theorem oIsNot_int {i : Int} : oIsNot (.int i) .non st = .ok (.bl true) st := rfl
@[simp] theorem oIsNot_tup {xs : List D} : oIsNot (.tup xs) .non st = .ok (.bl true) st := rfl
def ofO (st : Store) : Option D → ER D
  | some d => .ok d st
  | none => .bad
@[simp] theorem ofO_some : ofO st (some d) = .ok d st := rfl
@[simp] theorem oIx_tup {xs : List D} {k : Int} : oIx (.tup xs) (.int k) st = ofO st (atI xs k) := by
  unfold oIx oIxS ofO
  simp only <;> (split <;> simp_all)
theorem oIx_ref {xs : List D} {m : Nat} {k : Int} (hh : lstAt st m = some xs) : oIx (.ref m) (.int k) st = ofO st (atI xs k) := by
  unfold oIx oIxS ofO
  simp only [dct_lst hh, hh] <;> (split <;> simp_all)
/-- d[k] -/
theorem oIx_dct {kvs : List (D × D)} {m : Nat} {k d : D} (hh : dctAt st m = some kvs) (hf : keyFit kvs k = true) (hg : dGet kvs k = some d) : oIx (.ref m) k st = .ok d st := by
  unfold oIx
  simp only [hh, hf, hg, if_true]
@[simp] theorem oLt_int {i j : Int} : oLt (.int i) (.int j) st = .ok (.bl (decide (i < j))) st := rfl
@[simp] theorem eDct_e : eDct τ st = .ok (.ref st.length) (st ++ [.dct []]) := rfl
@[simp] theorem atI_0 {α : Type} {x : α} {xs : List α} : atI (x :: xs) 0 = some x := by simp [atI, ixN]
@[simp] theorem atI_1 {α : Type} {x y : α} {xs : List α} : atI (x :: y :: xs) 1 = some y := atI_nat (j := 1) rfl
@[simp] theorem atI_2 {α : Type} {x y z : α} {xs : List α} : atI (x :: y :: z :: xs) 2 = some z := atI_nat (j := 2) rfl
@[simp] theorem atI_3 {α : Type} {x y z w : α} {xs : List α} : atI (x :: y :: z :: w :: xs) 3 = some w := atI_nat (j := 3) rfl
/-! built-ins -/
@[simp] theorem fInt_int {i : Int} : fInt [.int i] st = .ok (.int i) st := rfl
@[simp] theorem fInt_bl {b : Bool} : fInt [.bl b] st = .ok (.int (if b then 1 else 0)) st := rfl
@[simp] theorem fAbs_e {i : Int} : fAbs [.int i] st = .ok (.int (i.natAbs : Nat)) st := rfl
@[simp] theorem fGcd_e {i j : Int} : fGcd [.int i, .int j] st = .ok (.int (Nat.gcd i.natAbs j.natAbs : Nat)) st := rfl
@[simp] theorem fLen_tup {xs : List D} : fLen [.tup xs] st = .ok (.int xs.length) st := rfl
@[simp] theorem fLen_rol {xs : List D} : fLen [.rol xs] st = .ok (.int xs.length) st := rfl
theorem fLen_ref {xs : List D} {m : Nat} (hh : lstAt st m = some xs) : fLen [.ref m] st = .ok (.int xs.length) st := by simp [fLen, fLenS, dSeq, hh, dct_lst hh]
theorem fLen_dct {kvs : List (D × D)} {m : Nat} (hh : dctAt st m = some kvs) : fLen [.ref m] st = .ok (.int kvs.length) st := by simp [fLen, hh]
@[simp] theorem fTuple_tup {xs : List D} : fTuple [.tup xs] st = .ok (.tup xs) st := rfl
theorem fTuple_ref {xs : List D} {m : Nat} (hh : lstAt st m = some xs) : fTuple [.ref m] st = .ok (.tup xs) st := by simp [fTuple, dSeq, hh]
@[simp] theorem gTuple_e {xs : List D} : gTuple xs st = .ok (.tup xs) st := rfl
@[simp] theorem gLen_e {xs : List D} : gLen xs st = .ok (.int xs.length) st := rfl
@[simp] theorem fMin2_e {i j : Int} : fMin2 [.int i, .int j] st = .ok (.int (if j < i then j else i)) st := rfl
@[simp] theorem fMax2_e {i j : Int} : fMax2 [.int i, .int j] st = .ok (.int (if j > i then j else i)) st := rfl
theorem fIsi_e {t c : String} {b : Bool} (h1 : dTy st d = some t) (h2 : isiT t c = some b) : fIsi [d, .ty c] st = .ok (.bl b) st := by simp [fIsi, h1, h2]
theorem isi1 : isiT "int" "int" = some true := by decide +kernel
theorem isi2 : isiT "int" "bool" = some false := by decide +kernel
theorem isi3 : isiT "bool" "int" = some true := by decide +kernel
theorem isi4 : isiT "bool" "bool" = some true := by decide +kernel
theorem isi5 : isiT "tuple" "tuple" = some true := by decide +kernel
theorem isi6 : isiT "tuple" "int" = some false := by decide +kernel
theorem isi7 : isiT "str" "str" = some true := by decide +kernel
theorem isi8 : isiT "str" "int" = some false := by decide +kernel
theorem isi9 : isiT "NoneType" "int" = some false := by decide +kernel
@[simp] theorem fIsi_ii {i : Int} : fIsi [.int i, .ty "int"] st = .ok (.bl true) st := fIsi_e rfl isi1
@[simp] theorem fIsi_ib {i : Int} : fIsi [.int i, .ty "bool"] st = .ok (.bl false) st := fIsi_e rfl isi2
@[simp] theorem fIsi_bi {i : Bool} : fIsi [.bl i, .ty "int"] st = .ok (.bl true) st := fIsi_e rfl isi3
@[simp] theorem fIsi_bb {i : Bool} : fIsi [.bl i, .ty "bool"] st = .ok (.bl true) st := fIsi_e rfl isi4
@[simp] theorem fIsi_tt {xs : List D} : fIsi [.tup xs, .ty "tuple"] st = .ok (.bl true) st := fIsi_e rfl isi5
@[simp] theorem fIsi_ti {xs : List D} : fIsi [.tup xs, .ty "int"] st = .ok (.bl false) st := fIsi_e rfl isi6
@[simp] theorem fIsi_ss {x : List Nat} : fIsi [.str x, .ty "str"] st = .ok (.bl true) st := fIsi_e rfl isi7
@[simp] theorem fIsi_si {x : List Nat} : fIsi [.str x, .ty "int"] st = .ok (.bl false) st := fIsi_e rfl isi8
@[simp] theorem fIsi_ni : fIsi [.non, .ty "int"] st = .ok (.bl false) st := fIsi_e rfl isi9
/-! statements -/
def SR.seq (r : SR) (k : SM) : SR := match r with
  | .nx τ s => k τ s
  | r => r
@[simp] theorem seq_nx {k : SM} : (SR.nx τ st).seq k = k τ st := rfl
@[simp] theorem seq_rt {k : SM} : (SR.rt d st).seq k = .rt d st := rfl
@[simp] theorem seq_bad {k : SM} : SR.bad.seq k = .bad := rfl
@[simp] theorem seq_exc {x : Xc} {k : SM} : (SR.exc x τ st).seq k = .exc x τ st := rfl
@[simp] theorem seq_bk {k : SM} : (SR.bk τ st).seq k = .bk τ st := rfl
@[simp] theorem seq_ct {k : SM} : (SR.ct τ st).seq k = .ct τ st := rfl
@[simp] theorem sSeq_e : sSeq u v τ st = (u τ st).seq v := by
  unfold sSeq SR.seq
  rfl
@[simp] theorem sNil_e : sNil τ st = .nx τ st := rfl
@[simp] theorem sIf_e : sIf ga u v τ st = bindE (ga τ st) τ fun b s1 => if b then u τ s1 else v τ s1 := rfl
@[simp] theorem sSet_e : sSet i fe τ st = bindE (fe τ st) τ fun d s1 => .nx (τ.set i (some d)) s1 := rfl
@[simp] theorem sRet_e : sRet fe τ st = bindE (fe τ st) τ fun d s1 => .rt d s1 := rfl
@[simp] theorem sRetN_e : sRetN τ st = .rt .non st := rfl
@[simp] theorem sExpr_e : sExpr fe τ st = bindE (fe τ st) τ fun _ s1 => .nx τ s1 := rfl
@[simp] theorem sRaise_e {x : Xc} : sRaise x τ st = .exc x τ st := rfl
@[simp] theorem sBrk_e : sBrk τ st = .bk τ st := rfl
@[simp] theorem sCnt_e : sCnt τ st = .ct τ st := rfl
@[simp] theorem bindE_bind {r : ER α} {k : α → Store → ER β} {k' : β → Store → SR} : bindE (r.bind k) τ k' = bindE r τ fun a s => bindE (k a s) τ k' := by cases r <;> rfl
@[simp] theorem bind_bind {γ : Type} {r : ER α} {k : α → Store → ER β} {k' : β → Store → ER γ} : (r.bind k).bind k' = r.bind fun a s => (k a s).bind k' := by cases r <;> rfl
@[simp] theorem bind_ite {c : Prop} [Decidable c] {r r' : ER α} {k : α → Store → ER β} : (if c then r else r').bind k = if c then r.bind k else r'.bind k := by split <;> rfl
@[simp] theorem bindE_ite {c : Prop} [Decidable c] {r r' : ER α} {k : α → Store → SR} : bindE (if c then r else r') τ k = if c then bindE r τ k else bindE r' τ k := by split <;> rfl
def SR.fin : SR → ER D
  | .nx _ s => .ok .non s
  | .rt d s => .ok d s
  | .exc x _ s => .exc x s
  | _ => .bad
@[simp] theorem fin_nx : (SR.nx τ st).fin = .ok .non st := rfl
@[simp] theorem fin_rt : (SR.rt d st).fin = .ok d st := rfl
@[simp] theorem fin_exc {x : Xc} : (SR.exc x τ st).fin = .exc x st := rfl
@[simp] theorem fin_bad : SR.bad.fin = .bad := rfl
theorem runB_e {ds : List D} : runB n u ds st = (u (ent n ds) st).fin := rfl
@[simp] theorem fin_ite {c : Prop} [Decidable c] {r r' : SR} : (if c then r else r').fin = if c then r.fin else r'.fin := by split <;> rfl
@[simp] theorem seq_ite {c : Prop} [Decidable c] {r r' : SR} {k : SM} : (if c then r else r').seq k = if c then r.seq k else r'.seq k := by split <;> rfl
@[simp] theorem ent_0 : ent n [] = List.replicate n none := by simp [ent]
@[simp] theorem ent_cons {x : D} {xs : List D} : ent (n + 1) (x :: xs) = some x :: ent n xs := by
  simp [ent]
end
end HM

/-! HM, part T: lists written to, loops, the draws' store. -/
namespace HM
open PySem PySem.Spec PyProof.Rows L2
section
variable {α β : Type} {τ : Sl} {st : Store} {f g h fa fb fc fe fo fi : EM D} {fs : EM (List D)} {ga gb : EM Bool} {i n m : Nat} {d v : D} {xs ys : List D} {u w : SM}
theorem lstAt_set (hh : lstAt st n = some xs) : lstAt (st.set n (.lst ys)) n = some ys := by
  have : n < st.length := by
    unfold lstAt at hh
    split at hh
    · rename_i e
      exact (List.getElem?_eq_some_iff.mp e).1
    · cases hh
  simp [lstAt, this]
theorem lstAt_ne {c : Cell} (hh : m ≠ n) : lstAt (st.set n c) m = lstAt st m := by
  unfold lstAt
  rw [List.getElem?_set_ne (Ne.symm hh)]
theorem oSet_ref {k : Int} {j : Nat} (hh : lstAt st m = some xs) (hj : ixN xs.length k = some j) : oSet (.ref m) (.int k) v st = some (st.set m (.lst (xs.set j v))) := by
  simp [oSet, oSetS, dct_lst hh, hh, hj]
theorem oSet_dct {kvs : List (D × D)} {k : D} (hh : dctAt st m = some kvs) (hf : keyFit kvs k = true) (hl : kvs.length < 16777216) : oSet (.ref m) k v st = some (st.set m (.dct (dPut kvs k v))) := by
  simp [oSet, hh, hf, hl]
theorem oGetL_ref {k : Int} (hh : lstAt st m = some xs) : oGetL (.ref m) (.int k) st = ofO st (atI xs k) := by
  unfold oGetL oGetLS ofO
  simp only [dct_lst hh, hh] <;> (split <;> simp_all)
def ofS (τ : Sl) : Option Store → SR
  | some s => .nx τ s
  | none => .bad
@[simp] theorem ofS_some : ofS τ (some st) = .nx τ st := rfl
@[simp] theorem sSub_e : sSub fo fi fe τ st = bindE (fe τ st) τ fun v s1 => bindE (fo τ s1) τ fun o s2 => bindE (fi τ s2) τ fun i s3 => ofS τ (oSet o i v s3) := by
  unfold sSub ofS
  rfl
@[simp] theorem sAugS_e {o : O2} : sAugS o fo fi fe τ st = bindE (fo τ st) τ fun x s1 => bindE (fi τ s1) τ fun i s2 => bindE (oGetL x i s2) τ fun y s3 => bindE (fe τ s3) τ fun z s4 => bindE (o y z s4) τ fun v s5 => ofS τ (oSet x i v s5) := by
  unfold sAugS ofS
  rfl
theorem sAug_e {o : O2} (hh : τ[i]? = some (some d)) : sAug i o fe τ st = bindE (fe τ st) τ fun y s1 => bindE (o d y s1) τ fun z s2 => .nx (τ.set i (some z)) s2 := by
  unfold sAug
  rw [hh]
def ofA (set : D → Sl → Option Sl) (τ : Sl) (d : D) (st : Store) : SR := match set d τ with
  | some τ1 => .nx τ1 st
  | none => .bad
@[simp] theorem sAsg_e {set : D → Sl → Option Sl} : sAsg set fe τ st = bindE (fe τ st) τ (ofA set τ) := rfl
@[simp] theorem okMul_l {i j : Int} (hh : i.natAbs < 18446744073709551616) : okMul i j = true := decide_eq_true (.inl (.inl hh))
@[simp] theorem okMul_r {i j : Int} (hh : j.natAbs < 18446744073709551616) : okMul i j = true := decide_eq_true (.inl (.inr hh))
theorem okMod_of {i j : Int} (hh : j ≠ 0) : okMod i j = true := decide_eq_true hh
theorem okDiv_of {i j : Int} (hh : j ≠ 0) (h2 : j.natAbs.log2 < 9000) : okDiv i j = true := decide_eq_true ⟨hh, h2⟩
theorem log2_le {x k : Nat} (h : x < 2 ^ k) : x.log2 ≤ k := by
  by_cases z : x = 0
  · subst z
    exact Nat.zero_le _
  · exact Nat.le_of_lt ((Nat.log2_lt z).mpr h)
/-! for loops -/
theorem sFor_e {fi : EM Sq} {set : D → Sl → Option Sl} : sFor fi set u τ st = bindE (fi τ st) τ fun q s1 => forL q set u q.items τ s1 := rfl
def ofQ (st : Store) : Option Sq → ER Sq
  | some q => .ok q st
  | none => .bad
@[simp] theorem ofQ_some {q : Sq} : ofQ st (some q) = .ok q st := rfl
@[simp] theorem iEx_e : iEx f τ st = (f τ st).bind fun d s1 => ofQ s1 (dSq s1 d) := by
  unfold iEx ofQ
  rfl
@[simp] theorem dSq_tup : dSq st (.tup xs) = some (.fix xs) := rfl
@[simp] theorem dSq_rol : dSq st (.rol xs) = some (.fix xs) := rfl
theorem dSq_ref (hh : lstAt st n = some xs) : dSq st (.ref n) = some (.cell n xs) := by simp [dSq, hh]
@[simp] theorem items_fix : (Sq.fix xs).items = xs := rfl
@[simp] theorem items_cell : (Sq.cell n xs).items = xs := rfl
@[simp] theorem iEl_e : iEl fs τ st = (fs τ st).bind fun xs s1 => .ok (.fix xs) s1 := rfl
def rg1 (d : D) (st : Store) : ER Sq := match d with
  | .int j => if okRng j then .ok (.fix (rng 0 j)) st else .bad
  | _ => .bad
def rg2 (d e : D) (st : Store) : ER Sq := match d, e with
  | .int i, .int j => if okRng i && okRng j then .ok (.fix (rng i j)) st else .bad
  | _, _ => .bad
@[simp] theorem iRg1_e : iRg1 f τ st = (f τ st).bind rg1 := rfl
@[simp] theorem iRg2_e : iRg2 fa fb τ st = (fa τ st).bind fun d s1 => (fb τ s1).bind fun e s2 => rg2 d e s2 := rfl
theorem okRng_of {j : Int} (hh : j.natAbs < 4611686018427387904) : okRng j = true := decide_eq_true hh
theorem rg1_int {j : Int} (hh : j.natAbs < 4611686018427387904) : rg1 (.int j) st = .ok (.fix (rng 0 j)) st := by simp [rg1, okRng_of hh]
theorem rg2_int {i j : Int} (hi : i.natAbs < 4611686018427387904) (hh : j.natAbs < 4611686018427387904) : rg2 (.int i) (.int j) st = .ok (.fix (rng i j)) st := by simp [rg2, okRng_of hh, okRng_of hi]
/-- a loop, by an invariant -/
theorem for_inv {set : D → Sl → Option Sl} {q : Sq} (P : Nat → Sl → Store → Prop) (hc : ∀ k τ st, P k τ st → q.chk st = true) :
    ∀ (xs : List D) (k : Nat) (τ : Sl) (st : Store), P k τ st →
    (∀ i d τ st, xs[i]? = some d → P (k + i) τ st → ∃ τ1, set d τ = some τ1 ∧ ∃ τ2 s2, (u τ1 st = .nx τ2 s2 ∨ u τ1 st = .ct τ2 s2) ∧ P (k + i + 1) τ2 s2) →
    ∃ τ' st', forL q set u xs τ st = .nx τ' st' ∧ P (k + xs.length) τ' st'
  | [], k, τ, st, h0, _ => ⟨τ, st, by
      unfold forL
      rw [if_pos (hc _ _ _ h0)], h0⟩
  | d :: ds, k, τ, st, h0, hs => by
    obtain ⟨τ1, e1, τ2, s2, e2, h2⟩ := hs 0 d τ st rfl h0
    obtain ⟨τ', st', e3, h3⟩ := for_inv (q := q) P hc ds (k + 1) τ2 s2 h2 fun i d τ st hi hp => by
      have := hs (i + 1) d τ st hi (by rwa [show k + (i + 1) = k + 1 + i by omega])
      rwa [show k + (i + 1) + 1 = k + 1 + i + 1 by omega] at this
    refine ⟨τ', st', ?_, ?_⟩
    · unfold forL
      rw [if_pos (hc _ _ _ h0), e1]
      rcases e2 with e2 | e2 <;> simp only [e2, e3]
    · rw [List.length_cons]
      rwa [show k + (ds.length + 1) = k + 1 + ds.length by omega]
/-! comprehensions -/
def lc1 (own : List Nat) (set : D → Sl → Option Sl) (ft : EM Bool) (fe : EM D) (τ : Sl) (q : Sq) (st : Store) : ER (List D) := if q.items.length ≤ 16777216 then compL q set ft fe (wipeD τ own) q.items [] st else .bad
theorem lComp_e {own : List Nat} {fi : EM Sq} {set : D → Sl → Option Sl} {ft : EM Bool} : lComp own fi set ft fe τ st = (fi τ st).bind (lc1 own set ft fe τ) := rfl
/-- a comprehension without tests -/
theorem comp_inv {set : D → Sl → Option Sl} {q : Sq} (P : List D → Store → Prop) (hc : ∀ acc st, P acc st → q.chk st = true) :
    ∀ (xs acc : List D) (st : Store), P acc st →
    (∀ i d acc' st, xs[i]? = some d → acc'.length = acc.length + i → P acc' st → ∃ τ1, set d τ = some τ1 ∧ ∃ x s2, fe τ1 st = .ok x s2 ∧ P (acc' ++ [x]) s2) →
    ∃ ys st', compL q set tYes fe τ xs acc st = .ok ys st' ∧ P ys st' ∧ ys.length = acc.length + xs.length
  | [], acc, st, h0, _ => ⟨acc, st, by
      unfold compL
      rw [if_pos (hc _ _ h0)], h0, rfl⟩
  | d :: ds, acc, st, h0, hs => by
    obtain ⟨τ1, e1, x, s2, e2, h2⟩ := hs 0 d acc st rfl rfl h0
    obtain ⟨ys, st', e3, h3, h4⟩ := comp_inv (q := q) P hc ds (acc ++ [x]) s2 h2 fun i d acc' st hi ha hp => hs (i + 1) d acc' st hi (by simp at ha; omega) hp
    refine ⟨ys, st', ?_, h3, by simp at h4; simp; omega⟩
    unfold compL
    rw [if_pos (hc _ _ h0), e1]
    simp only [tYes, ER.bindN_ok, if_true, e2]
    exact e3
end
/-! the draws' store: cell 0 holds the script's numbers, cell 1 the place -/
structure DS (ns : List Int) (st : Store) : Prop where
  c0 : lstAt st 0 = some (ns.map D.int)
  c1 : ∃ p h q : Int, 0 ≤ p ∧ lstAt st 1 = some [.ref 0, .int p, .int h, .int q]
/-- what a draw may change -/
structure Fr (a b : Store) : Prop where
  len : a.length ≤ b.length
  at' : ∀ n, n ≠ 1 → n < a.length → b[n]? = a[n]?
theorem Fr.refl {a : Store} : Fr a a := ⟨Nat.le_refl _, fun _ _ _ => rfl⟩
theorem Fr.trans {a b c : Store} (x : Fr a b) (y : Fr b c) : Fr a c := ⟨Nat.le_trans x.len y.len, fun n h1 h2 => (y.at' n h1 (Nat.lt_of_lt_of_le h2 x.len)).trans (x.at' n h1 h2)⟩
theorem Fr.lst {a b : Store} {n : Nat} {xs : List D} (x : Fr a b) (h : lstAt a n = some xs) (hn : n ≠ 1) : lstAt b n = some xs := by
  have := x.at' n hn (lstAt_lt h)
  unfold lstAt at h ⊢
  rwa [this]
theorem Fr.app {a : Store} {c : Cell} : Fr a (a ++ [c]) := ⟨by simp, fun n _ h => by rw [List.getElem?_append_left h]⟩
theorem DS.app {ns : List Int} {st : Store} {c : Cell} (h : DS ns st) : DS ns (st ++ [c]) := by
  obtain ⟨c0, p, hh, q, hp, c1⟩ := h
  exact ⟨by rw [lstAt_left (lstAt_lt c0)]; exact c0, p, hh, q, hp, by rw [lstAt_left (lstAt_lt c1)]; exact c1⟩
end HM

/-! HM, part U: how the mirrors of parts 10 to 12 are computed. -/
namespace HM
open PySem PySem.Spec PyProof.Rows L2
section
variable {τ : Sl} {st : Store} {f g fo fi : EM D} {fs : EM (List D)} {fl fh : EM (Option Int)} {i n m : Nat} {d v x : D} {xs ys : List D}
@[simp] theorem eM_e {T : String} {g : MM} : eM T g fo fs τ st = (fo τ st).bind fun d s1 => if okT T s1 d then (fs τ s1).bind fun ds s2 => g d ds s2 else .bad := rfl
theorem okT_ref (hh : lstAt st n = some xs) : okT "list" st (.ref n) = true := by simp [okT, hh]
@[simp] theorem okT_str {z : List Nat} : okT "str" st (.str z) = true := rfl
theorem mAppend_ref (hh : lstAt st n = some xs) (hl : xs.length < 16777216) : mAppend (.ref n) [x] st = .ok .non (st.set n (.lst (xs ++ [x]))) := by simp [mAppend, hh, hl]
theorem mInsert_ref {k : Nat} (hh : lstAt st n = some xs) (hl : xs.length < 16777216) (hk : k < 9223372036854775808) : mInsert (.ref n) [.int k, x] st = .ok .non (st.set n (.lst (xs.take k ++ [x] ++ xs.drop k))) := by
  have h2 : okIx (k : Int) = true := decide_eq_true (by omega)
  simp [mInsert, hh, hl, h2]
theorem mExtend_ref (hh : lstAt st n = some xs) (h2 : lstAt st m = some ys) (hl : xs.length + ys.length ≤ 16777216) : mExtend (.ref n) [.ref m] st = .ok .non (st.set n (.lst (xs ++ ys))) := by simp [mExtend, hh, h2, hl]
theorem mPop_ref (hh : lstAt st n = some (xs ++ [x])) : mPop (.ref n) [] st = .ok x (st.set n (.lst xs)) := by simp [mPop, hh]
theorem mJoin_tup {a : List Nat} {ys : List (List Nat)} (hl : (ys.map List.length).sum + ys.length * a.length ≤ 16777216) : mJoin (.str a) [.tup (ys.map D.str)] st = .ok (.str (joinD a ys)) st := by
  simp [mJoin, dSeq, strsD_map, hl]
theorem mJoin_ref {a : List Nat} {ys : List (List Nat)} (hh : lstAt st n = some (ys.map D.str)) (hl : (ys.map List.length).sum + ys.length * a.length ≤ 16777216) : mJoin (.str a) [.ref n] st = .ok (.str (joinD a ys)) st := by
  simp [mJoin, dSeq, hh, strsD_map, hl]
def ofB (st : Store) : Option Bool → ER D
  | some b => .ok (.bl b) st
  | none => .bad
@[simp] theorem ofB_some {b : Bool} : ofB st (some b) = .ok (.bl b) st := rfl
@[simp] theorem oIn_e : oIn x v st = ofB st (dIn x v st) := by
  unfold oIn ofB
  rfl
@[simp] theorem oNotIn_e : oNotIn x v st = ofB st ((dIn x v st).map fun b => !b) := by
  unfold oNotIn ofB
  cases dIn x v st <;> rfl
@[simp] theorem dIn_sign {c : Nat} {z : List Nat} : dIn (.str [c]) (.str z) st = some (decide (c ∈ z)) := rfl
theorem dIn_S (hy : dSeq st v = some ys) : dIn x v st = dInS x v st := by
  unfold dIn
  cases v with
  | ref n => simp only [dct_lst (show lstAt st n = some ys from hy)]
  | _ => rfl
theorem dIn_dct {kvs : List (D × D)} (hh : dctAt st n = some kvs) (hf : keyFit kvs x = true) : dIn x (.ref n) st = some (dGet kvs x).isSome := by
  unfold dIn
  simp only [hh, hf, if_true]
theorem dIn_flat (hy : dSeq st v = some ys) (h1 : x.flat = true) (h2 : ys.all D.flat = true) : dIn x v st = some (ys.any fun y => eqF y x) := by
  rw [dIn_S hy]
  unfold dInS
  split
  · rename_i c z
    cases hy
  · simp [hy, h1, h2]
@[simp] theorem dSeq_tup : dSeq st (.tup xs) = some xs := rfl
@[simp] theorem dSeq_rol : dSeq st (.rol xs) = some xs := rfl
theorem dSeq_ref (hh : lstAt st n = some xs) : dSeq st (.ref n) = some xs := hh
@[simp] theorem flat_int {k : Int} : (D.int k).flat = true := rfl
@[simp] theorem flat_str {k : List Nat} : (D.str k).flat = true := rfl
@[simp] theorem flat_bl {k : Bool} : (D.bl k).flat = true := rfl
@[simp] theorem flat_non : D.non.flat = true := rfl
@[simp] theorem eqF_int {a b : Int} : eqF (.int a) (.int b) = decide (a = b) := rfl
@[simp] theorem eqF_str {a b : List Nat} : eqF (.str a) (.str b) = decide (a = b) := rfl
@[simp] theorem dIn_tup {k : Int} : dIn (.int k) (.tup ys) st = if ys.all D.flat then some (ys.any fun y => eqF y (.int k)) else if ys.all (D.plain 59) then some (decide (D.int k ∈ ys)) else none := by
  simp [dIn, dInS, dSeq] <;> rfl
@[simp] theorem eSl_e : eSl f fl fh τ st = (f τ st).bind fun d s1 => (fl τ s1).bind fun l s2 => (fh τ s2).bind fun h s3 => dCut d l h s3 := rfl
@[simp] theorem oNone_e : oNone τ st = .ok none st := rfl
def ofI (d : D) (st : Store) : ER (Option Int) := match d with
  | .int i => .ok (some i) st
  | _ => .bad
@[simp] theorem ofI_int {k : Int} : ofI (.int k) st = .ok (some k) st := rfl
@[simp] theorem oSome_e : oSome f τ st = (f τ st).bind ofI := rfl
theorem sIx_n {n d k : Nat} : HT.sIx n d (some (k : Int)) = min k n := HT.sIx_nat n d k
@[simp] theorem sIx_0 {n d : Nat} : HT.sIx n d none = d := rfl
theorem dCut_str {z : List Nat} {lo hi : Option Int} (hz : z.length ≤ 16777216) : dCut (.str z) lo hi st = .ok (.str (cutD z lo hi)) st := by simp [dCut, hz]
theorem dCut_ref {lo hi : Option Int} (hh : lstAt st n = some xs) : dCut (.ref n) lo hi st = .ok (.ref st.length) (st ++ [.lst (cutD xs lo hi)]) := by simp [dCut, hh]
theorem cutD_nn {α : Type} {zs : List α} {a b : Nat} : cutD zs (some (a : Int)) (some (b : Int)) = (zs.drop (min a zs.length)).take (min b zs.length - min a zs.length) := by
  unfold cutD
  rw [sIx_n, sIx_n]
theorem cutD_to {α : Type} {zs : List α} {b : Nat} : cutD zs none (some (b : Int)) = zs.take b := by
  unfold cutD
  rw [sIx_n, sIx_0, List.drop_zero, Nat.sub_zero]
  exact PySem.W.kmk_take_min ..
theorem cutD_from {α : Type} {zs : List α} {a : Nat} : cutD zs (some (a : Int)) none = zs.drop a := by
  unfold cutD
  rw [sIx_n, sIx_0]
  rw [show zs.drop (min a zs.length) = zs.drop a from PySem.W.kmk_drop_min ..]
  refine List.take_of_length_le ?_
  rw [List.length_drop]
  omega
theorem gSum_ints {ns : List Int} : gSum (ns.map D.int) st = .ok (.int ns.sum) st := by simp [gSum, intsD_map]
theorem gAllB_bls {bs : List Bool} : gAllB (bs.map D.bl) st = .ok (.bl (bs.all id)) st := by simp [gAllB, blsD_map]
theorem gAnyB_bls {bs : List Bool} : gAnyB (bs.map D.bl) st = .ok (.bl (bs.any id)) st := by simp [gAnyB, blsD_map]
@[simp] theorem oMul_int {a b : Int} (hc : okMul a b = true) : oMul (.int a) (.int b) st = .ok (.int (a * b)) st := by simp [oMul, hc]
theorem oMul_str {z : List Nat} {k : Int} (h2 : 2 ≤ k) (hz : k ≤ 16777216) (hl : z.length * k.toNat ≤ 16777216) : oMul (.str z) (.int k) st = .ok (.str (repD k.toNat z)) st := by
  simp [oMul, h2, hz, hl]
theorem fLcm_W {a b : Int} (ha : a.natAbs < 2 ^ 9000) (hb : b.natAbs < 2 ^ 9000) : fLcm [.int a, .int b] st = .ok (.int (Nat.lcm a.natAbs b.natAbs : Nat)) st := by
  unfold fLcm
  simp only [decide_eq_true ha, decide_eq_true hb, Bool.and_self, if_true]
theorem fLcm_e {a b : Int} (ha : a.natAbs < 18446744073709551616) (hb : b.natAbs < 18446744073709551616) : fLcm [.int a, .int b] st = .ok (.int (Nat.lcm a.natAbs b.natAbs : Nat)) st :=
  fLcm_W (Nat.lt_of_lt_of_le ha (Nat.pow_le_pow_right (n := 2) (i := 64) (by decide) (by decide))) (Nat.lt_of_lt_of_le hb (Nat.pow_le_pow_right (n := 2) (i := 64) (by decide) (by decide)))
theorem fList_tup : fList [.tup xs] st = .ok (.ref st.length) (st ++ [.lst xs]) := rfl
theorem fList_ref (hh : lstAt st n = some xs) : fList [.ref n] st = .ok (.ref st.length) (st ++ [.lst xs]) := by simp [fList, dSeq, hh]
theorem sExL_e : sExL f τ st = (f τ st).bind fun d s1 => match dSeqL s1 d with
  | some xs => .ok xs s1
  | none => .bad := rfl
theorem oAdd_ref (hh : lstAt st n = some xs) (h2 : lstAt st m = some ys) (hl : xs.length + ys.length ≤ 16777216) : oAdd (.ref n) (.ref m) st = .ok (.ref st.length) (st ++ [.lst (xs ++ ys)]) := by simp [oAdd, hh, h2, hl]
theorem oIx_str {z : List Nat} {k : Nat} {c : Nat} (hz : z.length ≤ 16777216) (hk : z[k]? = some c) : oIx (.str z) (.int k) st = .ok (.str [c]) st := by
  have := atI_nat (xs := z) (j := k) (v := c) hk
  simp [oIx, oIxS, hz, this]
theorem fLen_str {z : List Nat} (hz : z.length ≤ 16777216) : fLen [.str z] st = .ok (.int z.length) st := by simp [fLen, fLenS, hz]
end
/-- a while loop, by an invariant with a measure -/
theorem while_inv {g : EM Bool} {u : SM} (P : Nat → Sl → Store → Prop) (Done : Sl → Store → Prop)
    (hs : ∀ n τ st, P n τ st → (∃ s1, g τ st = .ok false s1 ∧ Done τ s1) ∨ (∃ s1, g τ st = .ok true s1 ∧ ∃ τ2 s2, (u τ s1 = .nx τ2 s2 ∨ u τ s1 = .ct τ2 s2) ∧ ∃ m, m < n ∧ P m τ2 s2)) :
    ∀ (k n : Nat) (τ : Sl) (st : Store), n < k → P n τ st → ∃ τ' st', whileN g u k τ st = .nx τ' st' ∧ Done τ' st'
  | 0, _, _, _, h, _ => absurd h (Nat.not_lt_zero _)
  | k + 1, n, τ, st, h, hp => by
    unfold whileN
    rcases hs n τ st hp with ⟨s1, e, hd⟩ | ⟨s1, e, τ2, s2, e2, m, hm, hp2⟩
    · rw [e, bindE_ok, if_neg Bool.false_ne_true]
      exact ⟨τ, s1, rfl, hd⟩
    · rw [e, bindE_ok, if_pos rfl]
      obtain ⟨τ', st', e3, hd⟩ := while_inv P Done hs k m τ2 s2 (by omega) hp2
      refine ⟨τ', st', ?_, hd⟩
      rcases e2 with e2 | e2 <;> simp only [e2] <;> exact e3
/-- a comprehension that reads alone -/
theorem comp_map {α : Type} {q : Sq} {set : D → Sl → Option Sl} {fe : EM D} {τ : Sl} {st : Store} (hq : q.chk st = true) (g h : α → D) : ∀ (xs : List α) (acc : List D), (∀ a ∈ xs, ∃ τ1, set (g a) τ = some τ1 ∧ fe τ1 st = .ok (h a) st) → compL q set tYes fe τ (xs.map g) acc st = .ok (acc ++ xs.map h) st
  | [], acc, _ => by
    rw [List.map_nil, List.map_nil, List.append_nil]
    unfold compL
    rw [if_pos hq]
  | a :: xs, acc, hs => by
    obtain ⟨τ1, e1, e2⟩ := hs a (List.mem_cons_self ..)
    rw [List.map_cons]
    unfold compL
    rw [if_pos hq, e1]
    simp only [tYes, ER.bindN_ok, if_true, e2]
    rw [comp_map hq g h xs (acc ++ [h a]) fun b hb => hs b (List.mem_cons_of_mem _ hb), List.map_cons, List.append_assoc]
    rfl
/-- a loop that folds -/
theorem for_fold {α β : Type} {q : Sq} {set : D → Sl → Option Sl} {u : SM} {st : Store} (hq : q.chk st = true) (g : α → D) (F : β → α → β) (E : β → Option D → Sl) (I : β → Prop) : ∀ (xs : List α) (b : β) (t : Option D), I b →
    (∀ b t a, a ∈ xs → I b → I (F b a) ∧ ∃ τ1, set (g a) (E b t) = some τ1 ∧ u τ1 st = .nx (E (F b a) (some (g a))) st) → (∃ t', forL q set u (xs.map g) (E b t) st = .nx (E (xs.foldl F b) t') st) ∧ I (xs.foldl F b)
  | [], b, t, hI, _ => ⟨⟨t, by rw [List.map_nil, forL, if_pos hq]; rfl⟩, hI⟩
  | a :: xs, b, t, hI, hs => by
    obtain ⟨h1, τ1, e1, e2⟩ := hs b t a (List.mem_cons_self ..) hI
    obtain ⟨⟨t', e3⟩, h3⟩ := for_fold hq g F E I xs (F b a) (some (g a)) h1 fun b t a ha => hs b t a (List.mem_cons_of_mem _ ha)
    refine ⟨⟨t', ?_⟩, h3⟩
    rw [List.map_cons, forL, if_pos hq, e1]
    simp only [e2]
    exact e3
end HM

/-! HM, part V: growth of stores, comprehensions with tests, keyword calls. -/
namespace HM
open PySem PySem.Spec PyProof.Rows L2
section
variable {τ : Sl} {st : Store} {fs fk : EM (List D)} {n k np : Nat} {is : List Nat} {mf : FM}
@[simp] theorem eCallK_e : eCallK n k np is mf fs fk τ st = (fs τ st).bind fun ds s1 => (fk τ s1).bind fun es s2 => if ds.length = n ∧ es.length = k ∧ (arr is (ds ++ es)).length = np then mf (arr is (ds ++ es)) s2 else .bad := rfl
end
/-- cells are added alone -/
structure Gr (a b : Store) : Prop where
  ex : ∃ l, b = a ++ l
theorem Gr.refl {a : Store} : Gr a a := ⟨[], by simp⟩
theorem Gr.app {a : Store} {c : Cell} : Gr a (a ++ [c]) := ⟨[c], rfl⟩
theorem Gr.trans {a b c : Store} (x : Gr a b) (y : Gr b c) : Gr a c := by
  obtain ⟨l, rfl⟩ := x.ex
  obtain ⟨m, rfl⟩ := y.ex
  exact ⟨l ++ m, by simp⟩
theorem Gr.lst {a b : Store} {n : Nat} {xs : List D} (x : Gr a b) (h : lstAt a n = some xs) : lstAt b n = some xs := by
  obtain ⟨l, rfl⟩ := x.ex
  rw [lstAt_left (lstAt_lt h)]
  exact h
theorem Gr.fr {a b : Store} (x : Gr a b) : Fr a b := by
  obtain ⟨l, rfl⟩ := x.ex
  exact ⟨by simp, fun n _ h => by rw [List.getElem?_append_left h]⟩
theorem Gr.ds {a b : Store} {ns : List Int} (x : Gr a b) (H : DS ns a) : DS ns b := by
  obtain ⟨c0, p, h, q, hp, c1⟩ := H
  exact ⟨x.lst c0, p, h, q, hp, x.lst c1⟩
/-- the last cell is written -/
theorem Gr.put {a b : Store} {m : Nat} {c : Cell} (x : Gr a b) (h : a.length ≤ m) : Gr a (b.set m c) := by
  obtain ⟨l, rfl⟩ := x.ex
  exact ⟨l.set (m - a.length) c, List.set_append_right m c h⟩
theorem Gr.len {a b : Store} (x : Gr a b) : a.length ≤ b.length := by
  obtain ⟨l, rfl⟩ := x.ex
  simp
theorem DS.put2 {ns : List Int} {s : Store} {m : Nat} {c : Cell} (H : DS ns s) (h0 : m ≠ 0) (h1 : m ≠ 1) : DS ns (s.set m c) := by
  obtain ⟨c0, p, h, q, hp, c1⟩ := H
  exact ⟨by rw [lstAt_ne (Ne.symm h0)]; exact c0, p, h, q, hp, by rw [lstAt_ne (Ne.symm h1)]; exact c1⟩
theorem Fr.put2 {st s : Store} {m : Nat} {c : Cell} (F : Fr st s) (h : st.length ≤ m) : Fr st (s.set m c) :=
  ⟨by rw [List.length_set]; exact F.len, fun n h1 h2 => by rw [List.getElem?_set_ne (by omega)]; exact F.at' n h1 h2⟩
theorem DS.len {ns : List Int} {s : Store} (H : DS ns s) : 2 ≤ s.length := by
  obtain ⟨p, h, q, _, c1⟩ := H.c1
  exact lstAt_lt c1
theorem rng_eq (n : Nat) : rng 0 n = (List.range n).map fun k => D.int (k : Nat) := by
  unfold rng
  simp
theorem rng_mem {n : Nat} {i : Nat} {d : D} (h : (rng 0 n)[i]? = some d) : ∃ k : Nat, k < n ∧ d = .int k := by
  rw [rng_eq, List.getElem?_map] at h
  cases hx : (List.range n)[i]? with
  | none => rw [hx] at h; cases h
  | some a =>
    have := List.mem_range.mp (List.mem_of_getElem? hx)
    rw [hx] at h
    exact ⟨a, this, (Option.some.inj h).symm⟩
@[simp] theorem iZip_e {fa fb : EM D} {τ : Sl} {st : Store} : iZip fa fb τ st = (fa τ st).bind fun d s1 => (fb τ s1).bind fun e s2 => zip2 d e s2 := rfl
@[simp] theorem zip2_tup {xs ys : List D} {st : Store} : zip2 (.tup xs) (.tup ys) st = .ok (.fix (zipD xs ys)) st := rfl
def okRg (k : Int → Int → Store → ER D) (d : D) (st : Store) : ER D := match d with
  | .int j => k 0 j st
  | _ => .bad
@[simp] theorem eRg1_e {k : Int → Int → Store → ER D} {fa : EM D} {τ : Sl} {st : Store} : eRg1 k fa τ st = (fa τ st).bind (okRg k) := rfl
@[simp] theorem okRg_int {k : Int → Int → Store → ER D} {j : Int} {st : Store} : okRg k (.int j) st = k 0 j st := rfl
theorem rng_len {n : Nat} : (rng 0 (n : Nat)).length = n := by
  unfold rng
  simp
theorem lstAt_new {a : Store} {xs : List D} : lstAt (a ++ [.lst xs]) a.length = some xs := by simp [lstAt]
/-- a comprehension with a test -/
theorem comp_gen {q : Sq} {set : D → Sl → Option Sl} {ft : EM Bool} {fe : EM D} {τ : Sl} (P : Nat → List D → Store → Prop) (hc : ∀ k acc st, P k acc st → q.chk st = true) :
    ∀ (xs : List D) (k : Nat) (acc : List D) (st : Store), P k acc st →
    (∀ (i : Nat) (d : D) (acc' : List D) (st : Store), xs[i]? = some d → P (k + i) acc' st → ∃ τ1, set d τ = some τ1 ∧ ∃ b s1, ft τ1 st = .ok b s1 ∧ (b = false → P (k + i + 1) acc' s1) ∧ (b = true → ∃ x s2, fe τ1 s1 = .ok x s2 ∧ P (k + i + 1) (acc' ++ [x]) s2)) →
    ∃ ys st', compL q set ft fe τ xs acc st = .ok ys st' ∧ P (k + xs.length) ys st'
  | [], k, acc, st, h0, _ => ⟨acc, st, by
      unfold compL
      rw [if_pos (hc _ _ _ h0)], h0⟩
  | d :: ds, k, acc, st, h0, hs => by
    obtain ⟨τ1, e1, b, s1, e2, h2, h3⟩ := hs 0 d acc st rfl h0
    have next : ∀ acc s, P (k + 1) acc s → ∃ ys st', compL q set ft fe τ ds acc s = .ok ys st' ∧ P (k + (d :: ds).length) ys st' := fun acc s h => by
      rw [List.length_cons, show k + (ds.length + 1) = k + 1 + ds.length by omega]
      refine comp_gen P hc ds (k + 1) acc s h fun i d acc' st hi hp => ?_
      rw [show k + 1 + i = k + (i + 1) by omega] at hp ⊢
      exact hs (i + 1) d acc' st hi hp
    unfold compL
    rw [if_pos (hc _ _ _ h0), e1]
    simp only [e2, ER.bindN_ok]
    cases b with
    | false => exact next _ _ (h2 rfl)
    | true =>
      obtain ⟨x, s2, e3, h4⟩ := h3 rfl
      simp only [if_true, e3, ER.bindN_ok]
      exact next _ _ h4
/-- a comprehension with a test that reads alone -/
theorem comp_fil {α : Type} {q : Sq} {set : D → Sl → Option Sl} {ft : EM Bool} {fe : EM D} {τ : Sl} {st : Store} (hq : q.chk st = true) (g h : α → D) (p : α → Bool) : ∀ (xs : List α) (acc : List D), (∀ a ∈ xs, ∃ τ1, set (g a) τ = some τ1 ∧ ft τ1 st = .ok (p a) st ∧ (p a = true → fe τ1 st = .ok (h a) st)) → compL q set ft fe τ (xs.map g) acc st = .ok (acc ++ (xs.filter p).map h) st
  | [], acc, _ => by
    rw [List.map_nil, List.filter_nil, List.map_nil, List.append_nil]
    unfold compL
    rw [if_pos hq]
  | a :: xs, acc, hs => by
    obtain ⟨τ1, e1, e2, e3⟩ := hs a (List.mem_cons_self ..)
    have ih := fun acc => comp_fil hq g h p xs acc fun b hb => hs b (List.mem_cons_of_mem _ hb)
    rw [List.map_cons, List.filter_cons]
    unfold compL
    rw [if_pos hq, e1]
    simp only [e2, ER.bindN_ok]
    cases hp : p a with
    | false => simp only [Bool.false_eq_true, if_false]; exact ih acc
    | true =>
      simp only [if_true, e3 hp, ER.bindN_ok]
      rw [ih, List.map_cons, List.append_assoc]
      rfl
theorem forL_nil {set : D → Sl → Option Sl} {u : SM} {q : Sq} {τ : Sl} {st : Store} (hq : q.chk st = true) : forL q set u [] τ st = .nx τ st := by
  rw [forL, if_pos hq]
theorem forL_nx {set : D → Sl → Option Sl} {u : SM} {q : Sq} {τ τ1 τ2 : Sl} {st s2 : Store} {d : D} {ds : List D} (hq : q.chk st = true) (h1 : set d τ = some τ1) (h2 : u τ1 st = .nx τ2 s2) : forL q set u (d :: ds) τ st = forL q set u ds τ2 s2 := by
  rw [forL, if_pos hq, h1]
  simp only [h2]
theorem forL_ct {set : D → Sl → Option Sl} {u : SM} {q : Sq} {τ τ1 τ2 : Sl} {st s2 : Store} {d : D} {ds : List D} (hq : q.chk st = true) (h1 : set d τ = some τ1) (h2 : u τ1 st = .ct τ2 s2) : forL q set u (d :: ds) τ st = forL q set u ds τ2 s2 := by
  rw [forL, if_pos hq, h1]
  simp only [h2]
theorem forL_rt {set : D → Sl → Option Sl} {u : SM} {q : Sq} {τ τ1 : Sl} {st s2 : Store} {d x : D} {ds : List D} (hq : q.chk st = true) (h1 : set d τ = some τ1) (h2 : u τ1 st = .rt x s2) : forL q set u (d :: ds) τ st = .rt x s2 := by
  rw [forL, if_pos hq, h1]
  simp only [h2]
theorem forL_bk {set : D → Sl → Option Sl} {u : SM} {q : Sq} {τ τ1 τ2 : Sl} {st s2 : Store} {d : D} {ds : List D} (hq : q.chk st = true) (h1 : set d τ = some τ1) (h2 : u τ1 st = .bk τ2 s2) : forL q set u (d :: ds) τ st = .nx τ2 s2 := by
  rw [forL, if_pos hq, h1]
  simp only [h2]
theorem map_mem {α : Type} {f : α → D} {xs : List α} {i : Nat} {d : D} (h : (xs.map f)[i]? = some d) : ∃ a ∈ xs, d = f a := by
  rw [List.getElem?_map] at h
  cases hx : xs[i]? with
  | none => simp [hx] at h
  | some a => exact ⟨a, List.mem_of_getElem? hx, by simpa [hx] using h.symm⟩
theorem any_eqF {cs : List Int} {k : Int} : ((cs.map D.int).any fun y => eqF y (.int k)) = decide (k ∈ cs) := by
  induction cs with
  | nil => rfl
  | cons c cs ih =>
    rw [List.map_cons, List.any_cons, ih]
    by_cases h : k = c <;> simp [h, eq_comm]
theorem dIn_ints {cs : List Int} {k : Int} {st : Store} : dIn (.int k) (.tup (cs.map D.int)) st = some (decide (k ∈ cs)) := by
  rw [dIn_tup, if_pos, any_eqF]
  rw [List.all_eq_true]
  intro x hx
  obtain ⟨c, _, rfl⟩ := List.mem_map.mp hx
  rfl
end HM

/-! HM, part W: what holds behind a run. -/
namespace HM
open PySem PySem.Spec PyProof.Rows L2
section
variable {α β : Type} {r : ER α} {Q Q' : α → Store → Prop} {st : Store} {τ : Sl}
def W (r : ER α) (Q : α → Store → Prop) : Prop := match r with
  | .ok a s => Q a s
  | _ => False
def WS (r : SR) (N : Sl → Store → Prop) (R : D → Store → Prop) (B C : Sl → Store → Prop) : Prop := match r with
  | .nx τ s => N τ s
  | .rt d s => R d s
  | .bk τ s => B τ s
  | .ct τ s => C τ s
  | _ => False
theorem W.ex (h : W r Q) : ∃ a s, r = .ok a s ∧ Q a s := by
  cases r with
  | ok a s => exact ⟨a, s, rfl, h⟩
  | _ => exact h.elim
theorem W.of {a : α} {s : Store} (h : r = .ok a s) (q : Q a s) : W r Q := by rw [h]; exact q
theorem W.mono (h : W r Q) (i : ∀ a s, Q a s → Q' a s) : W r Q' := by
  cases r with
  | ok a s => exact i a s h
  | _ => exact h.elim
@[simp] theorem W_ok {a : α} {s : Store} : W (.ok a s) Q = Q a s := rfl
@[simp] theorem W_bad : W (.bad : ER α) Q = False := rfl
@[simp] theorem W_bind {k : α → Store → ER β} {Q : β → Store → Prop} : W (r.bind k) Q = W r fun a s => W (k a s) Q := by cases r <;> rfl
theorem W_ite {c : Prop} [Decidable c] {r' : ER α} : W (if c then r else r') Q = if c then W r Q else W r' Q := by split <;> rfl
section
variable {N : Sl → Store → Prop} {R : D → Store → Prop} {B C : Sl → Store → Prop}
@[simp] theorem WS_nx : WS (.nx τ st) N R B C = N τ st := rfl
@[simp] theorem WS_rt {d : D} : WS (.rt d st) N R B C = R d st := rfl
@[simp] theorem WS_bk : WS (.bk τ st) N R B C = B τ st := rfl
@[simp] theorem WS_ct : WS (.ct τ st) N R B C = C τ st := rfl
@[simp] theorem WS_bindE {k : α → Store → SR} : WS (bindE r τ k) N R B C = W r fun a s => WS (k a s) N R B C := by cases r <;> rfl
@[simp] theorem WS_seq {s : SR} {v : SM} : WS (s.seq v) N R B C = WS s (fun τ st => WS (v τ st) N R B C) R B C := by cases s <;> rfl
theorem WS_ite {c : Prop} [Decidable c] {a b : SR} : WS (if c then a else b) N R B C = if c then WS a N R B C else WS b N R B C := by split <;> rfl
@[simp] theorem W_fin {s : SR} {Q : D → Store → Prop} : W s.fin Q = WS s (fun _ st => Q .non st) Q (fun _ _ => False) (fun _ _ => False) := by cases s <;> rfl
theorem WS.mono {s : SR} {N' : Sl → Store → Prop} {R' : D → Store → Prop} {B' C' : Sl → Store → Prop} (h : WS s N R B C) (n : ∀ τ st, N τ st → N' τ st) (r : ∀ d st, R d st → R' d st) (b : ∀ τ st, B τ st → B' τ st) (c : ∀ τ st, C τ st → C' τ st) : WS s N' R' B' C' := by
  cases s with
  | nx τ s => exact n _ _ h
  | rt d s => exact r _ _ h
  | bk τ s => exact b _ _ h
  | ct τ s => exact c _ _ h
  | _ => exact h.elim
/-- a for loop -/
theorem ws_for {q : Sq} {set : D → Sl → Option Sl} {u : SM} (P : Nat → Sl → Store → Prop) (hc : ∀ k τ st, P k τ st → q.chk st = true) :
    ∀ (xs : List D) (k : Nat) (τ : Sl) (st : Store), P k τ st →
    (∀ i d τ st, xs[i]? = some d → P (k + i) τ st → ∃ τ1, set d τ = some τ1 ∧ WS (u τ1 st) (P (k + i + 1)) R N (P (k + i + 1))) →
    (∀ τ st, P (k + xs.length) τ st → N τ st) → WS (forL q set u xs τ st) N R B C
  | [], k, τ, st, h0, _, hN => by
    unfold forL
    rw [if_pos (hc _ _ _ h0)]
    exact hN _ _ h0
  | d :: ds, k, τ, st, h0, hs, hN => by
    obtain ⟨τ1, e1, h1⟩ := hs 0 d τ st rfl h0
    have rest := fun τ st h => ws_for (q := q) (set := set) (u := u) P hc ds (k + 1) τ st h (fun i d τ st hi hp => by
      have := hs (i + 1) d τ st hi (by rwa [show k + (i + 1) = k + 1 + i by omega])
      rwa [show k + (i + 1) + 1 = k + 1 + i + 1 by omega] at this) (fun τ st h => hN τ st (by rw [List.length_cons]; rwa [show k + (ds.length + 1) = k + 1 + ds.length by omega]))
    unfold forL
    rw [if_pos (hc _ _ _ h0), e1]
    simp only
    generalize u τ1 st = r at h1
    cases r with
    | nx τ s => exact rest τ s h1
    | ct τ s => exact rest τ s h1
    | bk τ s => exact h1
    | rt d s => exact h1
    | _ => exact h1.elim
/-- a for loop over given items -/
theorem ws_for0 {q : Sq} {set : D → Sl → Option Sl} {u : SM} {xs : List D} (P : Nat → Sl → Store → Prop) (hc : ∀ k τ st, P k τ st → q.chk st = true) (h0 : P 0 τ st)
    (hs : ∀ i d τ st, xs[i]? = some d → P i τ st → ∃ τ1, set d τ = some τ1 ∧ WS (u τ1 st) (P (i + 1)) R N (P (i + 1)))
    (hN : ∀ τ st, P xs.length τ st → N τ st) : WS (forL q set u xs τ st) N R B C :=
  ws_for P hc xs 0 τ st h0 (fun i d τ st hi hp => by
    rw [Nat.zero_add] at hp ⊢
    exact hs i d τ st hi hp) (fun τ st h => hN τ st (by rwa [Nat.zero_add] at h))
/-- a while loop -/
theorem ws_while {g : EM Bool} {u : SM} (P : Nat → Sl → Store → Prop)
    (hs : ∀ n τ st, P n τ st → W (g τ st) fun b s1 => if b then WS (u τ s1) (fun τ s => ∃ m, m < n ∧ P m τ s) R N (fun τ s => ∃ m, m < n ∧ P m τ s) else N τ s1) :
    ∀ (k n : Nat) (τ : Sl) (st : Store), n < k → P n τ st → WS (whileN g u k τ st) N R B C
  | 0, _, _, _, h, _ => absurd h (Nat.not_lt_zero _)
  | k + 1, n, τ, st, h, hp => by
    unfold whileN
    obtain ⟨b, s1, e, h1⟩ := (hs n τ st hp).ex
    rw [e, bindE_ok]
    cases b with
    | false => exact h1
    | true =>
      rw [if_pos rfl] at h1 ⊢
      generalize u τ s1 = r at h1
      cases r with
      | nx τ s =>
        obtain ⟨m, hm, hp2⟩ := h1
        exact ws_while P hs k m τ s (by omega) hp2
      | ct τ s =>
        obtain ⟨m, hm, hp2⟩ := h1
        exact ws_while P hs k m τ s (by omega) hp2
      | bk τ s => exact h1
      | rt d s => exact h1
      | _ => exact h1.elim
end
/-- a comprehension -/
theorem w_comp {q : Sq} {set : D → Sl → Option Sl} {ft : EM Bool} {fe : EM D} {Q : List D → Store → Prop} (P : Nat → List D → Store → Prop) (hc : ∀ k acc st, P k acc st → q.chk st = true) :
    ∀ (xs : List D) (k : Nat) (acc : List D) (st : Store), P k acc st →
    (∀ (i : Nat) (d : D) (acc' : List D) (st : Store), xs[i]? = some d → P (k + i) acc' st → ∃ τ1, set d τ = some τ1 ∧ W (ft τ1 st) fun b s1 => if b then W (fe τ1 s1) fun x s2 => P (k + i + 1) (acc' ++ [x]) s2 else P (k + i + 1) acc' s1) →
    (∀ acc st, P (k + xs.length) acc st → Q acc st) → W (compL q set ft fe τ xs acc st) Q
  | [], k, acc, st, h0, _, hQ => by
    unfold compL
    rw [if_pos (hc _ _ _ h0)]
    exact hQ _ _ h0
  | d :: ds, k, acc, st, h0, hs, hQ => by
    obtain ⟨τ1, e1, h1⟩ := hs 0 d acc st rfl h0
    obtain ⟨b, s1, e2, h2⟩ := h1.ex
    have rest := fun acc st h => w_comp (q := q) (set := set) (ft := ft) (fe := fe) P hc ds (k + 1) acc st h (fun i d acc' st hi hp => by
      have := hs (i + 1) d acc' st hi (by rwa [show k + (i + 1) = k + 1 + i by omega])
      rwa [show k + (i + 1) + 1 = k + 1 + i + 1 by omega] at this) (fun acc st h => hQ acc st (by rw [List.length_cons]; rwa [show k + (ds.length + 1) = k + 1 + ds.length by omega]))
    unfold compL
    rw [if_pos (hc _ _ _ h0), e1]
    simp only [e2, ER.bindN_ok]
    cases b with
    | false => exact rest _ _ h2
    | true =>
      rw [if_pos rfl] at h2
      obtain ⟨x, s2, e3, h3⟩ := h2.ex
      simp only [if_true, e3, ER.bindN_ok]
      exact rest _ _ h3
theorem w_comp0 {q : Sq} {set : D → Sl → Option Sl} {ft : EM Bool} {fe : EM D} {Q : List D → Store → Prop} {xs : List D} (P : Nat → List D → Store → Prop) (hc : ∀ k acc st, P k acc st → q.chk st = true) (h0 : P 0 [] st)
    (hs : ∀ (i : Nat) (d : D) (acc : List D) (st : Store), xs[i]? = some d → P i acc st → ∃ τ1, set d τ = some τ1 ∧ W (ft τ1 st) fun b s1 => if b then W (fe τ1 s1) fun x s2 => P (i + 1) (acc ++ [x]) s2 else P (i + 1) acc s1)
    (hQ : ∀ acc st, P xs.length acc st → Q acc st) : W (compL q set ft fe τ xs [] st) Q :=
  w_comp P hc xs 0 [] st h0 (fun i d acc st hi hp => by
    rw [Nat.zero_add] at hp ⊢
    exact hs i d acc st hi hp) (fun acc st h => hQ acc st (by rwa [Nat.zero_add] at h))
theorem w_lc {own : List Nat} {set : D → Sl → Option Sl} {ft : EM Bool} {fe : EM D} {q : Sq} {Q : List D → Store → Prop} (hl : q.items.length ≤ 16777216) (h : W (compL q set ft fe (wipeD τ own) q.items [] st) Q) : W (lc1 own set ft fe τ q st) Q := by
  unfold lc1
  rw [if_pos hl]
  exact h
/-- a comprehension that reads alone -/
theorem w_map {α : Type} {q : Sq} {set : D → Sl → Option Sl} {fe : EM D} {Q : List D → Store → Prop} {ds : List D} (g h : α → D) (xs : List α) (hd : ds = xs.map g) (hq : q.chk st = true) (hs : ∀ a ∈ xs, ∃ τ1, set (g a) τ = some τ1 ∧ W (fe τ1 st) fun d s => d = h a ∧ s = st) (hQ : Q (xs.map h) st) :
    W (compL q set tYes fe τ ds [] st) Q := by
  subst hd
  have e := comp_map (set := set) (fe := fe) (τ := τ) hq g h xs [] (fun a ha => by
    obtain ⟨τ1, e1, hw⟩ := hs a ha
    obtain ⟨d, s, e2, e3, e4⟩ := hw.ex
    rw [e3, e4] at e2
    exact ⟨τ1, e1, e2⟩)
  rw [e]
  exact hQ
/-- a comprehension with a test that reads alone -/
theorem w_fil {α : Type} {q : Sq} {set : D → Sl → Option Sl} {ft : EM Bool} {fe : EM D} {Q : List D → Store → Prop} {ds : List D} (g h : α → D) (p : α → Bool) (xs : List α) (hd : ds = xs.map g) (hq : q.chk st = true)
    (hs : ∀ a ∈ xs, ∃ τ1, set (g a) τ = some τ1 ∧ W (ft τ1 st) fun b s => b = p a ∧ s = st ∧ (b = true → W (fe τ1 st) fun d s => d = h a ∧ s = st)) (hQ : Q ((xs.filter p).map h) st) :
    W (compL q set ft fe τ ds [] st) Q := by
  subst hd
  have e := comp_fil (set := set) (ft := ft) (fe := fe) (τ := τ) hq g h p xs [] (fun a ha => by
    obtain ⟨τ1, e1, hw⟩ := hs a ha
    obtain ⟨b, s, e2, e3, e4, h3⟩ := hw.ex
    rw [e3, e4] at e2
    refine ⟨τ1, e1, e2, fun hb => ?_⟩
    obtain ⟨d, s, e5, e6, e7⟩ := (h3 (e3.trans hb)).ex
    rw [e6, e7] at e5
    exact e5)
  rw [e]
  exact hQ
/-- a loop that folds, the store as it is -/
theorem ws_fold {α β : Type} {q : Sq} {set : D → Sl → Option Sl} {u : SM} {ds : List D} {N : Sl → Store → Prop} {R : D → Store → Prop} {B C : Sl → Store → Prop} (g : α → D) (F : β → α → β) (E : β → Option D → Sl) (xs : List α) (b0 : β) (t0 : Option D) (hd : ds = xs.map g) (hτ : τ = E b0 t0) (hq : q.chk st = true)
    (hs : ∀ b t a, a ∈ xs → ∃ τ1, set (g a) (E b t) = some τ1 ∧ WS (u τ1 st) (fun τ s => (∃ t, τ = E (F b a) t) ∧ s = st) R (fun _ _ => False) (fun τ s => (∃ t, τ = E (F b a) t) ∧ s = st))
    (hN : ∀ t, N (E (xs.foldl F b0) t) st) : WS (forL q set u ds τ st) N R B C := by
  subst hd hτ
  induction xs generalizing b0 t0 with
  | nil =>
    rw [List.map_nil, forL, if_pos hq]
    exact hN t0
  | cons a xs ih =>
    obtain ⟨τ1, e1, h1⟩ := hs b0 t0 a (List.mem_cons_self ..)
    rw [List.map_cons, forL, if_pos hq, e1]
    simp only
    have go : ∀ τ s, ((∃ t, τ = E (F b0 a) t) ∧ s = st) → WS (forL q set u (xs.map g) τ s) N R B C := fun τ s h => by
      obtain ⟨⟨t, rfl⟩, rfl⟩ := h
      exact ih (F b0 a) t (fun b t a' ha => hs b t a' (List.mem_cons_of_mem _ ha)) hN
    generalize u τ1 st = r at h1
    cases r with
    | nx τ s => exact go τ s h1
    | ct τ s => exact go τ s h1
    | rt d s => exact h1
    | _ => exact h1.elim
end
theorem rng_at {n i : Nat} {d : D} (h : (rng 0 (n : Nat))[i]? = some d) : i < n ∧ d = .int (i : Nat) := by
  have hin : i < n := by
    have := (List.getElem?_eq_some_iff.mp h).1
    rwa [rng_len] at this
  rw [rng_eq, List.getElem?_map, List.getElem?_range hin] at h
  exact ⟨hin, (Option.some.inj h).symm⟩
section
variable {q : Sq} {set : D → Sl → Option Sl} {u : SM} {τ : Sl} {st : Store} {N : Sl → Store → Prop} {R : D → Store → Prop} {B C : Sl → Store → Prop} {ft : EM Bool} {fe : EM D} {Q : List D → Store → Prop}
/-- over range(n) -/
theorem ws_rng {n : Nat} (P : Nat → Sl → Store → Prop) (hc : ∀ k τ st, P k τ st → q.chk st = true) (h0 : P 0 τ st)
    (hs : ∀ i τ st, i < n → P i τ st → ∃ τ1, set (.int (i : Nat)) τ = some τ1 ∧ WS (u τ1 st) (P (i + 1)) R N (P (i + 1)))
    (hN : ∀ τ st, P n τ st → N τ st) : WS (forL q set u (rng 0 (n : Nat)) τ st) N R B C :=
  ws_for0 P hc h0 (fun i d τ st hi hp => by
    obtain ⟨hin, rfl⟩ := rng_at hi
    exact hs i τ st hin hp) (fun τ st h => hN τ st (by rwa [rng_len] at h))
theorem w_rng {n : Nat} (P : Nat → List D → Store → Prop) (hc : ∀ k acc st, P k acc st → q.chk st = true) (h0 : P 0 [] st)
    (hs : ∀ (i : Nat) (acc : List D) (st : Store), i < n → P i acc st → ∃ τ1, set (.int (i : Nat)) τ = some τ1 ∧ W (ft τ1 st) fun b s1 => if b then W (fe τ1 s1) fun x s2 => P (i + 1) (acc ++ [x]) s2 else P (i + 1) acc s1)
    (hQ : ∀ acc st, P n acc st → Q acc st) : W (compL q set ft fe τ (rng 0 (n : Nat)) [] st) Q :=
  w_comp0 P hc h0 (fun i d acc st hi hp => by
    obtain ⟨hin, rfl⟩ := rng_at hi
    exact hs i acc st hin hp) (fun acc st h => hQ acc st (by rwa [rng_len] at h))
/-- over things that are told by others -/
theorem ws_map {α : Type} {ds : List D} (g : α → D) (xs : List α) (hd : ds = xs.map g) (P : Nat → Sl → Store → Prop) (hc : ∀ k τ st, P k τ st → q.chk st = true) (h0 : P 0 τ st)
    (hs : ∀ i a τ st, xs[i]? = some a → P i τ st → ∃ τ1, set (g a) τ = some τ1 ∧ WS (u τ1 st) (P (i + 1)) R N (P (i + 1)))
    (hN : ∀ τ st, P xs.length τ st → N τ st) : WS (forL q set u ds τ st) N R B C :=
  ws_for0 P hc h0 (fun i d τ st hi hp => by
    rw [hd, List.getElem?_map] at hi
    cases hx : xs[i]? with
    | none => rw [hx] at hi; cases hi
    | some a =>
      rw [hx] at hi
      cases hi
      exact hs i a τ st hx hp) (fun τ st h => hN τ st (by rwa [hd, List.length_map] at h))
theorem w_mapc {α : Type} {ds : List D} (g : α → D) (xs : List α) (hd : ds = xs.map g) (P : Nat → List D → Store → Prop) (hc : ∀ k acc st, P k acc st → q.chk st = true) (h0 : P 0 [] st)
    (hs : ∀ (i : Nat) (a : α) (acc : List D) (st : Store), xs[i]? = some a → P i acc st → ∃ τ1, set (g a) τ = some τ1 ∧ W (ft τ1 st) fun b s1 => if b then W (fe τ1 s1) fun x s2 => P (i + 1) (acc ++ [x]) s2 else P (i + 1) acc s1)
    (hQ : ∀ acc st, P xs.length acc st → Q acc st) : W (compL q set ft fe τ ds [] st) Q :=
  w_comp0 P hc h0 (fun i d acc st hi hp => by
    rw [hd, List.getElem?_map] at hi
    cases hx : xs[i]? with
    | none => rw [hx] at hi; cases hi
    | some a =>
      rw [hx] at hi
      cases hi
      exact hs i a acc st hx hp) (fun acc st h => hQ acc st (by rwa [hd, List.length_map] at h))
end
section
variable {q : Sq} {set : D → Sl → Option Sl} {u : SM} {τ : Sl} {st : Store} {N : Sl → Store → Prop} {R : D → Store → Prop} {B C : Sl → Store → Prop}
/-- a loop that returns False at the first that fails -/
theorem ws_all {α : Type} (g : α → D) (p : α → Bool) (I : Sl → Prop) (J : Store → Prop) (hc : ∀ st, J st → q.chk st = true) : ∀ (xs : List α) (ds : List D) (τ : Sl) (st : Store), ds = xs.map g → I τ → J st →
    (∀ a ∈ xs, ∀ τ st, I τ → J st → ∃ τ1, set (g a) τ = some τ1 ∧ WS (u τ1 st) (fun τ s => p a = true ∧ I τ ∧ J s) (fun d s => p a = false ∧ d = .bl false ∧ J s) (fun _ _ => False) (fun τ s => p a = true ∧ I τ ∧ J s)) →
    (∀ τ s, xs.all p = true → I τ → J s → N τ s) → (∀ s, xs.all p = false → J s → R (.bl false) s) → WS (forL q set u ds τ st) N R B C
  | [], ds, τ, st, hd, h0, j0, _, kN, _ => by
    subst hd
    rw [List.map_nil, forL, if_pos (hc st j0)]
    exact kN τ st rfl h0 j0
  | a :: xs, ds, τ, st, hd, h0, j0, hs, kN, kR => by
    subst hd
    obtain ⟨τ1, e1, h1⟩ := hs a (List.mem_cons_self ..) τ st h0 j0
    rw [List.map_cons, forL, if_pos (hc st j0), e1]
    simp only
    have go : ∀ τ s, (p a = true ∧ I τ ∧ J s) → WS (forL q set u (xs.map g) τ s) N R B C := fun τ s ⟨hp, h2, h3⟩ =>
      ws_all g p I J hc xs _ τ s rfl h2 h3 (fun b hb => hs b (List.mem_cons_of_mem _ hb)) (fun τ s h => kN τ s (by rw [List.all_cons, hp, h]; rfl)) (fun s h => kR s (by rw [List.all_cons, hp, h]; rfl))
    generalize u τ1 st = r at h1
    cases r with
    | nx τ s => exact go τ s h1
    | ct τ s => exact go τ s h1
    | rt d s =>
      obtain ⟨hp, rfl, h3⟩ := h1
      exact kR s (by rw [List.all_cons, hp]; rfl) h3
    | _ => exact h1.elim
theorem ws_allR {n : Nat} (p : Nat → Bool) (I : Sl → Prop) (J : Store → Prop) (hc : ∀ st, J st → q.chk st = true) (h0 : I τ) (j0 : J st)
    (hs : ∀ a, a < n → ∀ τ st, I τ → J st → ∃ τ1, set (.int (a : Nat)) τ = some τ1 ∧ WS (u τ1 st) (fun τ s => p a = true ∧ I τ ∧ J s) (fun d s => p a = false ∧ d = .bl false ∧ J s) (fun _ _ => False) (fun τ s => p a = true ∧ I τ ∧ J s))
    (kN : ∀ τ s, (List.range n).all p = true → I τ → J s → N τ s) (kR : ∀ s, (List.range n).all p = false → J s → R (.bl false) s) : WS (forL q set u (rng 0 (n : Nat)) τ st) N R B C :=
  ws_all (fun k : Nat => D.int k) p I J hc (List.range n) _ τ st (rng_eq n) h0 j0 (fun a ha => hs a (List.mem_range.mp ha)) kN kR
theorem WS.cut {r : SR} {N' : Sl → Store → Prop} (h : WS r N' R B C) (k : ∀ τ s, N' τ s → N τ s) : WS r N R B C := h.mono k (fun _ _ h => h) (fun _ _ h => h) (fun _ _ h => h)
end
/-! dicts -/
theorem dGet_put {kvs : List (D × D)} {k k' v : D} : dGet (dPut kvs k v) k' = if k' = k then some v else dGet kvs k' := by
  have h1 : ∀ kvs : List (D × D), dGet (kvs.map fun p => if p.1 = k then (p.1, v) else p) k' = (dGet kvs k').map fun x => if k' = k then v else x := fun kvs => by
    unfold dGet
    induction kvs with
    | nil => rfl
    | cons p kvs ih =>
      rw [List.map_cons]
      by_cases e : p.1 = k'
      · rw [List.find?_cons_of_pos (by split <;> simpa using e), List.find?_cons_of_pos (by simpa using e)]
        by_cases e2 : p.1 = k
        · have : k' = k := by rw [← e, e2]
          simp [e2, this]
        · have : ¬ k' = k := by rw [← e]; exact e2
          simp [e2, this]
      · rw [List.find?_cons_of_neg (by split <;> simpa using e), List.find?_cons_of_neg (by simpa using e)]
        exact ih
  unfold dPut
  split
  · rename_i h
    rw [h1]
    by_cases e : k' = k
    · obtain ⟨x, hx⟩ := Option.isSome_iff_exists.mp h
      subst e
      simp [hx]
    · rw [if_neg e]
      cases dGet kvs k' <;> simp [e]
  · rename_i h
    unfold dGet at h ⊢
    rw [List.find?_append]
    by_cases e : k' = k
    · subst e
      have : kvs.find? (fun p => decide (p.1 = k')) = none := by
        cases hz : kvs.find? (fun p => decide (p.1 = k')) with
        | none => rfl
        | some x => rw [hz] at h; exact absurd rfl h
      simp [this]
    · rw [if_neg e]
      cases hz : kvs.find? (fun p => decide (p.1 = k')) with
      | some x => simp
      | none => simp [Ne.symm e]
theorem dPut_keys {kvs : List (D × D)} {k v : D} {p : D → Bool} (h : (kvs.all fun q => p q.1) = true) (hk : p k = true) : ((dPut kvs k v).all fun q => p q.1) = true := by
  unfold dPut
  rw [List.all_eq_true] at h
  split
  · rw [List.all_eq_true]
    intro x hx
    obtain ⟨y, hy, rfl⟩ := List.mem_map.mp hx
    have := h y hy
    split <;> exact this
  · rw [List.all_append, List.all_eq_true.mpr h]
    simpa using hk
theorem dPut_len {kvs : List (D × D)} {k v : D} : (dPut kvs k v).length ≤ kvs.length + 1 := by
  unfold dPut
  split <;> simp
theorem keyFit_tup {kvs : List (D × D)} {k : D} (h : (kvs.all fun q => q.1.tupQ) = true) (hk : k.tupQ = true) : keyFit kvs k = true := by simp [keyFit, h, hk]
theorem keyFit_flat {kvs : List (D × D)} {k : D} (h : (kvs.all fun q => q.1.flatK) = true) (hk : k.flatK = true) : keyFit kvs k = true := by simp [keyFit, h, hk]
theorem dctAt_new {a : Store} {kvs : List (D × D)} : dctAt (a ++ [.dct kvs]) a.length = some kvs := by simp [dctAt]
theorem dctAt_lt {st : Store} {n : Nat} {kvs : List (D × D)} (h : dctAt st n = some kvs) : n < st.length := by
  unfold dctAt at h
  split at h
  · rename_i e
    exact (List.getElem?_eq_some_iff.mp e).1
  · cases h
theorem dctAt_set {st : Store} {n : Nat} {kvs kvs' : List (D × D)} (h : dctAt st n = some kvs) : dctAt (st.set n (.dct kvs')) n = some kvs' := by
  have := dctAt_lt h
  simp [dctAt, this]
theorem dctAt_ne {st : Store} {n m : Nat} {c : Cell} (h : m ≠ n) : dctAt (st.set n c) m = dctAt st m := by
  unfold dctAt
  rw [List.getElem?_set_ne (Ne.symm h)]
theorem Gr.dct {a b : Store} {n : Nat} {kvs : List (D × D)} (x : Gr a b) (h : dctAt a n = some kvs) : dctAt b n = some kvs := by
  obtain ⟨l, rfl⟩ := x.ex
  unfold dctAt at h ⊢
  rw [List.getElem?_append_left (dctAt_lt (kvs := kvs) (by unfold dctAt; exact h))]
  exact h
theorem Fr.dct {a b : Store} {n : Nat} {kvs : List (D × D)} (x : Fr a b) (h : dctAt a n = some kvs) (hn : n ≠ 1) : dctAt b n = some kvs := by
  have := x.at' n hn (dctAt_lt h)
  unfold dctAt at h ⊢
  rwa [this]
section
variable {g : EM Bool} {u v w : SM} {τ : Sl} {st s1 : Store} {N : Sl → Store → Prop} {R : D → Store → Prop} {B C : Sl → Store → Prop}
theorem ws_skip (h : g τ st = .ok false st) (k : WS (w τ st) N R B C) : WS (sSeq (sIf g u sNil) w τ st) N R B C := by
  rw [sSeq_e, WS_seq, sIf_e, h]
  simpa using k
theorem ws_take (h : g τ st = .ok true st) (k : WS (u τ st) (fun τ s => WS (w τ s) N R B C) R B C) : WS (sSeq (sIf g u v) w τ st) N R B C := by
  rw [sSeq_e, WS_seq, sIf_e, h]
  simpa using k
theorem ws_else (h : g τ st = .ok false st) (k : WS (v τ st) (fun τ s => WS (w τ s) N R B C) R B C) : WS (sSeq (sIf g u v) w τ st) N R B C := by
  rw [sSeq_e, WS_seq, sIf_e, h]
  simpa using k
/-- one statement, then the rest -/
theorem ws_cons {N' : Sl → Store → Prop} (h : WS (u τ st) N' R B C) (k : ∀ τ s, N' τ s → WS (w τ s) N R B C) : WS (sSeq u w τ st) N R B C := by
  rw [sSeq_e, WS_seq]
  exact h.cut k
end
end HM

/-! HM, part X: texts split. -/
namespace HM
open PySem PySem.Spec PyProof.Rows L2
section
variable {X : Cx}
theorem strs_rds {K : KW} {m : List Addr} {H : Hp} : ∀ ys : List Str, RDs K m H (ys.map fun y => D.str y.cps.toList) (ys.map V.str)
  | [] => .nil
  | y :: ys => .cons (.str y.cps.toList) (strs_rds ys)
def mSplit : MM := fun d ds st => match d, ds with
  | .str a, [.str b] => if b ≠ [] ∧ a.length + 2 ≤ 16777216 then .ok (.ref st.length) (st ++ [.lst ((Txt.split ⟨a.toArray⟩ ⟨b.toArray⟩).map fun y => D.str y.cps.toList)]) else .bad
  | _, _ => .bad
theorem me_split : MethM X "str.split" mSplit := ⟨_, mt_split, fun m st H d v ds vs E Q hS r rs hP => by
  unfold mSplit at hP
  split at hP
  · rename_i a b
    split at hP
    · rename_i hc
      cases r
      obtain ⟨u, rfl, ru⟩ := rs.one
      cases ru
      refine ⟨_, _, rfl, rfl, ?_, ?_, hP.lst hS (strs_rds _)⟩
      · cases b with
        | nil => exact absurd rfl hc.1
        | cons x b => rfl
      · rw [PySem.sizeLine_eq]
        exact hc.2
    · exact hP.elim
  · exact hP.elim⟩
end
/-! ### dict(pairs) -/
section
variable {X : Cx} {pins : List (Addr × Obj)} {σ : L2.St} {H : Hp} {s : Shared} {a : Addr} {xs : List V}
theorem plain_seq (I : Inv X pins σ H s) (h : PlT X.K H a xs) : ∃ its : List Value, Vals xs its ∧ PlainSeq "tuple" s.heap a its.toArray ∧ xs.length ≤ sizeLine := by
  obtain ⟨its, r, pl, hz⟩ := I.tuple h.sq
  obtain ⟨ob, ho, hc, n, hd⟩ := pl
  rcases h with ⟨o, hn, h⟩ | ⟨o, its', n', hk, hc', hn, hs, hz', r'⟩
  · have z : s.heap.get? a = some o := (I.hok a _ h).1
    rw [z] at ho
    cases ho
    exact ⟨its, r, ⟨ob, n, z, hc, hn, hd⟩, hz⟩
  · have z := I.kIn a o hk
    rw [z] at ho
    cases ho
    exact ⟨its, r, ⟨ob, n, z, hc, hn, hd⟩, hz⟩
theorem pairs2 (I : Inv X pins σ H s) : ∀ {ps : List Addr} {kvs : List (Key × V)}, Paired (fun p kv => SqT X.K H p [kV kv.1, kv.2]) ps kvs →
    ∃ (prs : List (Key × Value)) (qs : List (Value × Value)), KV kvs prs ∧ prs.length = ps.length ∧ qs.length = ps.length ∧ ∀ (j : Nat) (q : Value × Value), qs[j]? = some q → ∃ (b : Addr) (k : Key), ps[j]? = some b ∧ prs[j]? = some (k, q.2) ∧ IsTup s.heap b #[q.1, q.2] ∧ (mixKind X.prog X.w).is k q.1 = true
  | _, _, .nil => ⟨[], [], .nil, rfl, rfl, fun j q e => by simp at e⟩
  | _, _, .cons (a := p) (b := kv) h t => by
    obtain ⟨prs, qs, r, hl, hl2, hp⟩ := pairs2 I t
    obtain ⟨its, rv, ht, _⟩ := I.tuple h
    obtain ⟨u, y, ei, ru, ry⟩ := vals2 rv
    subst ei
    refine ⟨(kv.1, y) :: prs, (u, y) :: qs, .cons ⟨rfl, ry⟩ r, by rw [List.length_cons, List.length_cons, hl], by rw [List.length_cons, List.length_cons, hl2], fun j q e => ?_⟩
    cases j with
    | zero =>
      have e' : (u, y) = q := Option.some.inj e
      subst e'
      exact ⟨p, kv.1, rfl, rfl, ht, kV_is ru⟩
    | succ j =>
      obtain ⟨b, k', e1, e2, e3⟩ := hp j q (by simpa using e)
      exact ⟨b, k', by simpa using e1, by simpa using e2, e3⟩
theorem call_dictT (hcalm : X.calm = true) : CallR X (.type "dict") (fun xs H Q => ∃ (a : Addr) (ps : List Addr) (kvs : List (Key × V)), xs = [.ref a] ∧ PlT X.K H a (ps.map V.ref) ∧ Paired (fun p kv => SqT X.K H p [kV kv.1, kv.2]) ps kvs ∧
    ∀ p, H p = none → Q (.ref p) (upd H p (.dK (mergeK [] kvs)))) := by
  intro pins s σ H xs us Q I r q
  obtain ⟨a, ps, kvs, rfl, hq, hp, q⟩ := q
  obtain ⟨u, rfl, rx⟩ := vals1 r
  cases rx
  obtain ⟨its, rv, pl, hz⟩ := plain_seq I hq
  have ei := refs_at rv
  subst ei
  rw [List.length_map] at hz
  obtain ⟨prs, qs, rel, hl, hl2, hpr⟩ := pairs2 I hp
  have P := PairArg.tuple (prog := X.prog) (w := X.w) a (ps.map Value.ref).toArray (fun j => ps.getD j 0) qs
  refine PySem.call_dict_pairs (knd := mixKind X.prog X.w) (kvs := prs) P (I.ok.hd hcalm) ⟨pl, by simp [hl2], fun j k v e => ?_⟩ ⟨by rw [hl, hl2], fun j k v e => ?_⟩ (by rw [hl2]; exact hz) fun h' tk hd' k => ?_
  · obtain ⟨b, k', e1, e2, e3, e4⟩ := hpr j _ e
    obtain ⟨o, ho, hc, n, hd⟩ := e3
    exact ⟨by simp [e1], .inl (by simp only [List.getD_eq_getElem?_getD, e1]; exact ⟨o, ho, hc, n, hd⟩)⟩
  · obtain ⟨b, k', e1, e2, e3, e4⟩ := hpr j _ e
    exact ⟨k', e2, e4⟩
  · have hm : (s.heap.objs.size == sysModules) = false := beq_eq_false_iff_ne.mpr (Nat.ne_of_gt I.big)
    have hlen : (mergeK [] kvs).length ≤ sizeLine := by
      refine Nat.le_trans (length_mergeK kvs []) ?_
      rw [List.length_nil, Nat.zero_add, rel.length, hl]
      exact hz
    exact ⟨.ref s.heap.objs.size, upd H s.heap.objs.size (.dK (mergeK [] kvs)), I.laid (t' := tk) (fun b o e => k b o (fun z => nomatch z) e) (Nat.le_refl _) (show ObjOk X.prog X.w _ _ _ (.dK (mergeK [] kvs)) from ⟨hlen, hm, merged [] prs, KV.merge rel .nil, hd'⟩), rfl, q _ (I.hok.fresh (Nat.le_refl _))⟩
end
section
variable {K : PySem.W.Frag} {m : List Addr} {H : Hp}
theorem DRel1.put {kvs : List (D × D)} {us : List (Key × V)} (q : DRel1 K m H kvs us) {d : D} {v : V} (rv : RD K m H d v) (w : Key) : DRel1 K m H (dPut kvs (keyD w) d) (putK us w v) := by
  unfold dPut putK
  have ea : (dGet kvs (keyD w)).isSome = (us.any fun kv => decide (kv.1 = w)) := by
    have z := get1 q w
    rw [valV_any]
    cases h1 : dGet kvs (keyD w) <;> cases h2 : valV us w <;> rw [h1, h2] at z <;> first | rfl | exact z.elim
  rw [ea]
  split
  · have go : ∀ {kvs us}, DRel1 K m H kvs us → DRel1 K m H (kvs.map fun p => if p.1 = keyD w then (p.1, d) else p) (us.map fun kv => if kv.1 = w then (kv.1, v) else kv) := fun {kvs us} r => by
      induction r with
      | nil => exact .nil
      | @cons p u ps us h t ih =>
        refine .cons ?_ ih
        simp only []
        by_cases e : u.1 = w
        · rw [if_pos e, if_pos (by rw [h.1, e])]
          exact ⟨h.1, rv⟩
        · rw [if_neg e, if_neg (by rw [h.1]; exact fun z => e (keyD_inj z))]
          exact h
    exact go q
  · exact Paired.snoc q ⟨rfl, rv⟩
def mergeD (acc ps : List (D × D)) : List (D × D) := ps.foldl (fun acc p => dPut acc p.1 p.2) acc
theorem DRel1.merge {ps : List (D × D)} {kvs : List (Key × V)} (r : DRel1 K m H ps kvs) : ∀ {acc : List (D × D)} {us : List (Key × V)}, DRel1 K m H acc us → DRel1 K m H (mergeD acc ps) (mergeK us kvs) := by
  induction r with
  | nil => exact fun q => q
  | @cons p q ps kvs h t ih =>
    intro acc us z
    have e := ih (z.put h.2 q.1)
    rw [← h.1] at e
    exact e
/-- a pair whose first is a number or a text -/
def pairD (d : D) : Option (D × D) := match d with
  | .tup [k, v] => if k.flatK then some (k, v) else none
  | _ => none
def pairsD : List D → Option (List (D × D))
  | [] => some []
  | d :: ds => match pairD d, pairsD ds with
    | some p, some ps => some (p :: ps)
    | _, _ => none
theorem pairsD_read : ∀ {ds : List D} {vs : List V} {ps : List (D × D)}, RDs K m H ds vs → pairsD ds = some ps → ∃ (as : List Addr) (kvs : List (Key × V)), vs = as.map V.ref ∧ Paired (fun p kv => SqT K H p [kV kv.1, kv.2]) as kvs ∧ DRel1 K m H ps kvs
  | _, _, _, .nil, e => by
    cases e
    exact ⟨[], [], rfl, .nil, .nil⟩
  | _, _, _, .cons (d := d) r rs, e => by
    unfold pairsD at e
    split at e
    · rename_i p ps hp hps
      cases e
      obtain ⟨as, kvs, rfl, q1, q2⟩ := pairsD_read rs hps
      unfold pairD at hp
      split at hp
      · rename_i k v
        split at hp
        · rename_i hf
          cases hp
          cases r with
          | tup sq r2 =>
            cases r2 with
            | cons rk r3 =>
              cases r3 with
              | cons rv r4 =>
                cases r4
                obtain ⟨w, e1, e2⟩ := flatK_of hf rk
                subst e2
                exact ⟨_ :: as, (w, _) :: kvs, rfl, .cons sq.sq q1, .cons ⟨e1, rv⟩ q2⟩
        · cases hp
      · cases hp
    · cases e
end
section
variable {X : Cx}
def gDict : SM1 := fun ds st => match pairsD ds with
  | some ps => .ok (.ref st.length) (st ++ [.dct (mergeD [] ps)])
  | none => .bad
theorem s_dict (hc : X.calm = true) : CallS X (.type "dict") gDict := ⟨_, (call_dictP hc).or (call_dictT hc), fun m st H ds v E Q hS r hP => by
  obtain ⟨a, vs, rfl, q, rs⟩ := r
  unfold gDict at hP
  split at hP
  · rename_i ps hps
    obtain ⟨as, kvs, rfl, q1, q2⟩ := pairsD_read rs hps
    have fin : ∀ p, H p = none → Q (.ref p) (upd H p (.dK (mergeK [] kvs))) := fun p hp => by
      refine hP (m ++ [p]) _ _ (Ext.app hp) (hS.app hp (.inl ⟨_, upd_same, DRel1.kp (DRel1.merge q2 .nil) (Ext.app hp).toKp⟩)) (.ref ?_)
      rw [← hS.len]
      simp
    rcases q with q | q
    · exact .inl ⟨a, as, kvs, rfl, q, q1, fin⟩
    · exact .inr ⟨a, as, kvs, rfl, q, q1, fin⟩
  · exact hP.elim⟩
end
theorem bt_dict : bootBuiltins "dict" = some (.type "dict") := by decide +kernel
end HM

/-! HM, part Y: more of what holds behind a run. -/
namespace HM
open PySem PySem.Spec PyProof.Rows L2
/-- what is to hold is kept from the simplifier -/
theorem W.opq {α : Type} {r : ER α} {Q : α → Store → Prop} (h : ∀ Q' : α → Store → Prop, (∀ a s, Q a s → Q' a s) → W r Q') : W r Q := h Q fun _ _ h => h
section
variable {g : EM Bool} {u v w : SM} {τ : Sl} {st s1 : Store} {N : Sl → Store → Prop} {R : D → Store → Prop} {B C : Sl → Store → Prop}
/-- an if whose test changes the store -/
theorem ws_ifd (P : Bool → Store → Prop) (h : W (g τ st) P) (k1 : ∀ s, P true s → WS (u τ s) N R B C) (k2 : ∀ s, P false s → WS (v τ s) N R B C) : WS (sIf g u v τ st) N R B C := by
  rw [sIf_e, WS_bindE]
  refine h.mono fun b s hp => ?_
  cases b with
  | true => exact k1 s hp
  | false => exact k2 s hp
/-- a test that must be passed: if not g: return False -/
theorem ws_must {f : EM D} (P : Store → Prop) (h : W (f τ st) fun d s => d = .bl true ∧ P s) (k : ∀ s, P s → N τ s) : WS (sIf (HM.tNot (tVal f)) u sNil τ st) N R B C := by
  rw [sIf_e, WS_bindE, tNot_e, tVal_e]
  rw [W_bind, W_bind]
  refine h.mono fun d s hp => ?_
  obtain ⟨rfl, hp⟩ := hp
  simpa using k s hp
theorem ws_forD {fi : EM Sq} {set : D → Sl → Option Sl} (P : Sq → Store → Prop) (h : W (fi τ st) P) (k : ∀ q s, P q s → WS (forL q set u q.items τ s) N R B C) : WS (sFor fi set u τ st) N R B C := by
  rw [sFor_e, WS_bindE]
  exact h.mono k
theorem ws_set {i : Nat} {f : EM D} (h : W (f τ st) fun d s => N (τ.set i (some d)) s) : WS (sSet i f τ st) N R B C := by
  rw [sSet_e, WS_bindE]
  exact h
theorem ws_ret {f : EM D} (h : W (f τ st) R) : WS (sRet f τ st) N R B C := by
  rw [sRet_e, WS_bindE]
  exact h
theorem ws_expr {f : EM D} (h : W (f τ st) fun _ s => N τ s) : WS (sExpr f τ st) N R B C := by
  rw [sExpr_e, WS_bindE]
  exact h
/-- a name bound to a comprehension's list -/
theorem ws_setLc {i : Nat} {own : List Nat} {fi : EM Sq} {set : D → Sl → Option Sl} {ft : EM Bool} {fe : EM D} (P : Sq → Store → Prop) (h : W (fi τ st) P) (hl : ∀ q s, P q s → q.items.length ≤ 16777216)
    (k : ∀ q s, P q s → W (compL q set ft fe (wipeD τ own) q.items [] s) fun ys s1 => N (τ.set i (some (.ref s1.length))) (s1 ++ [.lst ys])) : WS (sSet i (eEl (lComp own fi set ft fe)) τ st) N R B C := by
  refine ws_set ?_
  rw [eEl_e, W_bind, lComp_e, W_bind]
  refine h.mono fun q s hp => w_lc (hl q s hp) ?_
  exact k q s hp
end
section
variable {q : Sq} {set : D → Sl → Option Sl} {u : SM} {N : Sl → Store → Prop} {R : D → Store → Prop} {B C : Sl → Store → Prop}
/-- a loop that returns the first that fits -/
theorem ws_find {α : Type} (g : α → D) (p : α → Bool) (I : Sl → Prop) (J : Store → Prop) (hc : ∀ st, J st → q.chk st = true) : ∀ (xs : List α) (ds : List D) (τ : Sl) (st : Store), ds = xs.map g → I τ → J st →
    (∀ a ∈ xs, ∀ τ st, I τ → J st → ∃ τ1, set (g a) τ = some τ1 ∧ WS (u τ1 st) (fun τ s => p a = false ∧ I τ ∧ J s) (fun d s => p a = true ∧ d = g a ∧ J s) (fun _ _ => False) (fun τ s => p a = false ∧ I τ ∧ J s)) →
    (∀ τ s, xs.find? p = none → I τ → J s → N τ s) → (∀ a s, xs.find? p = some a → J s → R (g a) s) → WS (forL q set u ds τ st) N R B C
  | [], ds, τ, st, hd, h0, j0, _, kN, _ => by
    subst hd
    rw [List.map_nil, forL, if_pos (hc st j0)]
    exact kN τ st rfl h0 j0
  | a :: xs, ds, τ, st, hd, h0, j0, hs, kN, kR => by
    subst hd
    obtain ⟨τ1, e1, h1⟩ := hs a (List.mem_cons_self ..) τ st h0 j0
    rw [List.map_cons, forL, if_pos (hc st j0), e1]
    simp only
    have go : ∀ τ s, (p a = false ∧ I τ ∧ J s) → WS (forL q set u (xs.map g) τ s) N R B C := fun τ s ⟨hp, h2, h3⟩ =>
      ws_find g p I J hc xs _ τ s rfl h2 h3 (fun b hb => hs b (List.mem_cons_of_mem _ hb)) (fun τ s h => kN τ s (by rw [List.find?_cons_of_neg (by rw [hp]; decide)]; exact h)) (fun a' s h => kR a' s (by rw [List.find?_cons_of_neg (by rw [hp]; decide)]; exact h))
    generalize u τ1 st = r at h1
    cases r with
    | nx τ s => exact go τ s h1
    | ct τ s => exact go τ s h1
    | rt d s =>
      obtain ⟨hp, rfl, h3⟩ := h1
      exact kR a s (by rw [List.find?_cons_of_pos hp]) h3
    | _ => exact h1.elim
end
/-! dicts of one pair; sorted -/
section
variable {τ : Sl} {st : Store} {f g : EM D} {n : Nat} {xs : List D} {kvs : List (D × D)}
@[simp] theorem eDct1_e : eDct1 f g τ st = (f τ st).bind fun k s1 => (g τ s1).bind fun v s2 => if k.flatK || k.tupQ then .ok (.ref s2.length) (s2 ++ [.dct [(k, v)]]) else .bad := rfl
theorem fSorted_ref (h : lstAt st n = some xs) : fSorted [.ref n] st = gSorted xs st := by simp [fSorted, dSeq, h]
@[simp] theorem fSorted_tup : fSorted [.tup xs] st = gSorted xs st := rfl
theorem fSorted_dct (h : dctAt st n = some kvs) : fSorted [.ref n] st = gSorted (kvs.map (·.1)) st := by
  have := lst_dct h
  simp [fSorted, dSeq, this, h]
end
end HM

/-! HM, own exceptions over ValueError: the class called. -/
namespace HM
namespace XE
open PySem PySem.W PySem.Calls PyProof.Rows PySem.HandSPX
/-- the parameters: self, perhaps a field -/
def iF (p2 : Pos) : Option Str → List Arg
  | some f => [{ arg := f, annotation := none, pos := p2 }]
  | none => []
def iA (p1 p2 : Pos) (fld : Option Str) : Arguments := { posonlyargs := [], args := { arg := "self", annotation := none, pos := p1 } :: iF p2 fld, vararg := none, kwonlyargs := [], kw_defaults := [], kwarg := none, defaults := [] }
def iG (q7 q8 q9 q10 : Pos) : Option Str → List Stmt
  | some f => [.Assign [.Attribute (.Name "self" q7) f q8] (.Name f q9) q10]
  | none => []
/-- super().__init__(msg), perhaps self.f = f -/
def iB (msg : Str) (j : Nat) (q1 q2 q3 q4 q5 q6 q7 q8 q9 q10 : Pos) (fld : Option Str) : List Stmt := .Expr (.Call (.Attribute (.Call (.Name "super" q1) [] [] q2) "__init__" q3) [.Constant (.str msg) j q4] [] q5) q6 :: iG q7 q8 q9 q10 fld
def iL : Option Str → List (Str × NameKind)
  | some f => [(f, NameKind.local)]
  | none => []
def iS (fld : Option Str) : Scope := { kind := .function, names := (PySem.Str.ofString "self", .local) :: (iL fld ++ [(PySem.Str.ofString "__class__", NameKind.free), (PySem.Str.ofString "super", NameKind.globalImplicit)]), isGenerator := false, isCoroutine := false, more := [] }
/-- the def's data -/
abbrev fnX (name qual : Str) (params : Arguments) (body : List Stmt) (scope : Scope) (dV kV doc pm : Value) (an : Option Addr) (cdv ct : Value) (cc : Addr) : FuncData :=
  { name, qualname := qual, params, body := .stmts body, scope, globals := mainGlobals, closure := [("__class__", cc)], defaults := dV, kwdefaults := kV, doc, pyModule := pm, annotations := an, code := cdv, closureTuple := ct, builtins := builtinsNs }
/-- the parameters take self and the field: by rfl for a known name -/
def BdOk (f : Str) : Prop := ∀ (q : Str) (bd : List Stmt) (doc pm : Value) (an : Option Addr) (cdv ct : Value) (cc : Addr) (p1 p2 : Pos) (x v : Value), bindArgs (fnX "__init__" q (iA p1 p2 (some f)) bd (iS (some f)) .none .none doc pm an cdv ct cc) ⟨[x, v], []⟩ = pure [(("self" : Str), x), (f, v)]
example : BdOk "part" := fun _ _ _ _ _ _ _ _ _ _ _ _ => rfl
/-- what the written part says of a class C with its __init__ at fI -/
structure Txt (prog : Program) (K : Frag) (C fI : Addr) (fld : Option Str) : Prop where
  cls : ∃ nm q N bs bm sn sub ab col dd k0 k1 k2 k3 k5, K.lookup C = some (excClassObj nm q C N bs bm true sn sub ab col dd k0 k1 k2 k3 k5 "ValueError.__new__") ∧ refsVE bm = true
  sa : findIn K (.ref C) "__setattr__" = some (some (.builtin "object.__setattr__"))
  ga : findIn K (.ref C) "__getattribute__" = some (some (.builtin "BaseException.__getattribute__"))
  gg : findIn K (.ref C) "__getattr__" = some none
  noN : ∀ f, fld = some f → findIn K (.ref C) f = some none ∧ f ≠ "self" ∧ (f == ("__debug__" : Str)) = false ∧ f ≠ "__class__" ∧ f ≠ "super"
  bd : ∀ f, fld = some f → BdOk f
  iC : findIn K (.ref C) "__init__" = some (some (.ref fI))
  tC : typeIn K (.ref fI) = some (.type "function")
  kC : keepIn K (.ref C) = true
  exC : subIn K (.ref C) (.type "BaseException") = some true
  veC : subIn K (.ref C) (.type "ValueError") = some true
  tyC : typeIn K (.ref C) = some (.type "type")
  hdC : hasDictIn K C = true
  sup : ks_superIn K C C "__init__" = some (some (.builtin "ValueError.__init__"))
  own : mroIn K C (.ref C) = some true
  st : nsIn K cStatics "thirdparty.any" = some none
  noS : nsIn K mainGlobals "super" = some none
  fn : ∃ (oc : Value) (od : Option Addr) (q : Str) (doc pm : Value) (an : Option Addr) (cda : Addr) (ct : Value) (cc : Addr) (osl : Array (Option Value)) (p1 p2 q1 q2 q3 q4 q5 q6 q7 q8 q9 q10 : Pos) (msg : Str) (j : Nat),
    K.lookup fI = some ⟨oc, od, .func (fnX "__init__" q (iA p1 p2 fld) (iB msg j q1 q2 q3 q4 q5 q6 q7 q8 q9 q10 fld) (iS fld) .none .none doc pm an (.ref cda) ct cc), osl⟩ ∧ codeIn K (.ref cda) q = true ∧ (q3.endLine == q5.line) = true ∧
      (∃ cl cld csl, K.lookup cc = some ⟨cl, cld, .cell (some (.ref C)), csl⟩) ∧
      (∃ ccl cdd vs ccs file tf, K.lookup cda = some ⟨ccl, cdd, .fields vs, ccs⟩ ∧ vs[2]? = some (.str file tf) ∧ ((prog.main.file : Str) == file) = true)
  top : (prog.main.scope.names.lookup ("super" : Str)).isSome = false
theorem kept_but {K : Frag} {h h' : Heap} {x : Addr} (X : K.In h) (hx : K.lookup x = none) (k : ∀ b o, b ≠ x → h.get? b = some o → h'.get? b = some o) : K.In h' := fun a o e =>
  k a o (fun z => by rw [z, hx] at e; cases e) (X a o e)
/-- what __init__ leaves of a fresh exception at x -/
structure InitEnd (h h' : Heap) (x C : Addr) (fld : Option (Str × Value)) (dx : Option Addr) : Prop where
  keep : ∀ b o, b ≠ x → h.get? b = some o → h'.get? b = some o
  obj : ∃ t1 : Addr, h'.get? x = some { cls := .ref C, dict := dx, data := .fields #[.ref t1, .none, .none, .none, .bool false, .none] }
  fld : match fld, dx with
    | some (f, v), some d => h.objs.size ≤ d ∧ d ≠ x ∧ h'.Ns1 d (fun y => if y = f then some v else none)
    | none, none => True
    | _, _ => False
section
variable {prog : Program} {w : World} {M : Model} {A : Around} {E : Value → Shared → Prop} {h : Heap} {g : Array GenState} {d : Drawn} {t : Nat} {os : OsState}
variable {nm q : Str} {C N : Addr} {bs bm : List Value} {hdct : Bool} {sn : List Str} {sub : List Value} {ab : Bool} {col : Option Bool} {dd : Option Addr} {k0 k1 k2 k3 k5 : Option Value}
/-- ValueError.__init__ bound to e, called -/
theorem call_mw {u e t0 : Addr} {rest : List Value} {Q : Value → Shared → Prop}
    (hC : h.get? C = some (excClassObj nm q C N bs bm hdct sn sub ab col dd k0 k1 k2 k3 k5 "ValueError.__new__")) (he : h.get? e = some (HandSPX.excO C t0)) (hu : h.get? u = some (kxs_mw "ValueError.__init__" e)) (hrest : rest.length ≤ sizeLine)
    (hq : ∀ h' t1, (∀ b o, b ≠ e → h.get? b = some o → h'.get? b = some o) → h'.get? e = some (HandSPX.excO C t1) → Q .none ⟨h', g, d, t, os⟩) :
    wpAny (model prog w) A (call (.ref u) rest) Q E ⟨h, g, d, t, os⟩ := by
  refine wpAny_call (codeAny_of_tree ?_)
  show wpAny _ A.in1 (callAny (.ref u) ⟨rest, []⟩) _ _ _
  simp only [callAny]
  refine wpAny_bind (wpAny_load hu ?_)
  simp only [kxs_mw, show (Value.type "method-wrapper" == Value.type "method" || Value.type "method-wrapper" == Value.type "builtin_function_or_method" || Value.type "method-wrapper" == Value.type "method-wrapper") = true by decide, if_true]
  refine W.KFB.if_so (by decide) ?_
  refine wpAny_bind (ESX.check_bound F.excBase_ValueError hC he rfl ?_)
  refine wpAny_bind (wpAny_pure (wpAny_pure ?_))
  refine ⟨Code.quiet_builtin _ (by decide +kernel), codeAny_builtin F.excBase_ValueError.initEntry ?_⟩
  rw [Around.under_plainId F.excBase_ValueError.init.plain _]
  wp_walk
  refine hq _ h.objs.size (fun b o hb ho => ?_) ?_
  · rw [Heap.get?_update_other _ _ (Ne.symm hb)]
    exact Heap.get?_push_of_some _ ho
  · rw [Heap.get?_update_self _ (Heap.get?_push_of_some _ he) rfl]
    rfl
end
section
variable {prog : Program} {w : World} {A : Around} {E : Value → Shared → Prop} {h : Heap} {g : Array GenState} {d : Drawn} {t : Nat} {os : OsState} {K : Frag} {C fI x t0 L cda cc : Addr} {fld : Option Str} {mg mb m : Str → Option Value}
/-- super().__init__(msg) -/
theorem super_stmt {q : Str} {body : List Stmt} {oc : Value} {od : Option Addr} {osl : Array (Option Value)} {dV kV doc pm ct : Value} {an : Option Addr} {p1 p2 q1 q2 q3 q4 q5 q6 : Pos} {msg : Str} {j : Nat} {bd : List Stmt} {Q : Flow → Shared → Prop}
    (T : Txt prog K C fI fld) (hf : K.lookup fI = some ⟨oc, od, .func (fnX "__init__" q (iA p1 p2 fld) bd (iS fld) dV kV doc pm an (.ref cda) ct cc), osl⟩)
    (hcell : ∃ cl cld csl, K.lookup cc = some ⟨cl, cld, .cell (some (.ref C)), csl⟩) (hcode : ∃ ccl cdd vs ccs file tf, K.lookup cda = some ⟨ccl, cdd, .fields vs, ccs⟩ ∧ vs[2]? = some (.str file tf) ∧ ((prog.main.file : Str) == file) = true)
    (hl : (q3.endLine == q5.line) = true) (hks : (iS fld).names.lookup ("super" : Str) = some .globalImplicit) (hkc : (iS fld).names.lookup ("__class__" : Str) = some .free) (hka : (iS fld).names.lookup ("self" : Str) = some .local)
    (X : K.In h) (G : h.Ns mainGlobals mg) (hb : h.Ns builtinsNs mb) (hbs : mb "super" = some (.type "super")) (hn : h.Ns L m) (hself : m "self" = some (.ref x)) (hx : h.get? x = some (excO C t0))
    (hq : ∀ h' tk t1, (∀ b o, b ≠ x → h.get? b = some o → h'.get? b = some o) → h'.get? x = some (excO C t1) → Q .next ⟨h', g, d, tk, os⟩) :
    _root_.PySem.wpAt (model prog w) A (.func body (ksEnv q (iS fld) L fI (.ref cda) cc)) (exec (.Expr (.Call (.Attribute (.Call (.Name "super" q1) [] [] q2) "__init__" q3) [.Constant (.str msg) j q4] [] q5) q6) (ksEnv q (iS fld) L fI (.ref cda) cc)) Q E ⟨h, g, d, t, os⟩ := by
  obtain ⟨cl, cld, csl, hcell⟩ := hcell
  obtain ⟨ccl, cdd, vs, ccs, file, tf, hcode, hvs, hfile⟩ := hcode
  obtain ⟨nm, qn, N, bs, bm, sn, sub, ab, col, dd, k0, k1, k2, k3, k5, hC, hbm⟩ := T.cls
  have hC' := X _ _ hC
  have ox : excO C t0 = { cls := .ref C, dict := none, data := .fields #[.ref t0, .none, .none, .none, .bool false, .none] } := rfl
  have hcl : clsIn K C = some { name := nm, bases := bs, mro := .ref C :: bm, ns := N, qualname := qn, hasDict := true, slotNames := sn, subclasses := sub, abstract := ab, collection := col, hasDel := false } := by unfold clsIn; rw [hC] <;> rfl
  have I : InstAt h x (excO C t0) C none := ⟨hx, rfl, rfl, trivial⟩
  have he : eval (.Call (.Attribute (.Call (.Name "super" q1) [] [] q2) "__init__" q3) [.Constant (.str msg) j q4] [] q5) (ksEnv q (iS fld) L fI (.ref cda) cc) = (do
      let ov ← attributeBase (.Call (.Name "super" q1) [] [] q2) "__init__" (ksEnv q (iS fld) L fI (.ref cda) cc) (eval (.Call (.Name "super" q1) [] [] q2) (ksEnv q (iS fld) L fI (.ref cda) cc))
      standAt q3.atName
      let (f, first) ← holding [ov] (getMethod ov "__init__" (L2.plainOf (.Call (.Name "super" q1) [] [] q2) (ksEnv q (iS fld) L fI (.ref cda) cc)))
      callWith q5 f first (backTo q5 (starEach [.Constant (.str msg) j q4] (ksEnv q (iS fld) L fI (.ref cda) cc))) []) := by
    refine Eq.trans (b := do
      let ov ← attributeBase (.Call (.Name "super" q1) [] [] q2) "__init__" (ksEnv q (iS fld) L fI (.ref cda) cc) (eval (.Call (.Name "super" q1) [] [] q2) (ksEnv q (iS fld) L fI (.ref cda) cc))
      standAt q3.atName
      methodCall (.Call (.Name "super" q1) [] [] q2) "__init__" q3 q5 (ksEnv q (iS fld) L fI (.ref cda) cc) ov 1 (backTo q5 (starEach [.Constant (.str msg) j q4] (ksEnv q (iS fld) L fI (.ref cda) cc))) []) rfl ?_
    exact bind_congr fun ov => bind_congr fun _ => L2.mcall_line (by rfl) hl
  refine ks_wpAt_Expr_any (ks_wpAt_MethodCall ?_ he)
  refine ks_wpAt_super_base (env := ksEnv q (iS fld) L fI (.ref cda) cc) hks hkc (by decide) rfl (X _ _ hf) rfl (ar := { arg := "self", annotation := none, pos := p1 }) rfl rfl (X _ _ hcode) rfl hvs hfile T.top ?_
  refine ks_loadName_global rfl hks (loadGlobal_builtin (env := ksEnv q (iS fld) L fI (.ref cda) cc) G (mg_none_of X G T.noS) hb hbs ⟨rfl, ?_⟩)
  refine wpAny_loadName_free rfl hkc rfl ⟨_, X _ _ hcell, rfl⟩ ?_
  refine wpAny_loadName_local rfl hka hn hself ?_
  refine ks_wpAny_isType_cls hC' rfl ⟨rfl, ?_⟩
  refine ks_wpAny_call_super hC' rfl hx rfl (fun c e => by cases e) (looks_mroIn X T.own) (fun h1 e1 k1 => ?_)
  have X1 : K.In h1 := X.keeps k1
  have hx1 := k1 _ _ hx
  have I1 : InstAt h1 x (excO C t0) C none := ⟨hx1, rfl, rfl, trivial⟩
  have hsup := T.sup
  unfold ks_superIn at hsup
  rw [hcl] at hsup
  refine kxs_getMethod kxs_ValueError e1 (looks_opaque X1 T.st) (l₀ := .ref C :: bm) (fun A Q E s k q => wpAny_bind ((looks_clsIn X1 hcl) A _ E s k (wpAny_pure q))) rfl X1 hsup (I1.type.andThen (looks_subIn X1 T.veC)) (ks_ne X1 I1 hcl) (by decide) ?_
  have e2 : (h1.push (kxs_mw "ValueError.__init__" x)).get? h1.objs.size = some (kxs_mw "ValueError.__init__" x) := Heap.get?_push_at rfl rfl
  have k2 : ∀ b o, h1.get? b = some o → (h1.push (kxs_mw "ValueError.__init__" x)).get? b = some o := fun b o e => Heap.get?_push_of_some _ e
  refine kxs_callWith (i := "ValueError.__init__") (x := x) rfl ?_
  show wpAny _ _ (evalArgs (.ref h1.objs.size) true ((false, eval (.Constant (.str msg) j q4) (ksEnv q (iS fld) L fI (.ref cda) cc)) :: []) []) _ _ _
  refine evalArgs_plain (spliced_cons (wpAny_Constant_str (spliced_nil ⟨e2, ?_⟩)))
  refine call_mw (k2 _ _ (k1 _ _ hC')) (k2 _ _ hx1) e2 (by rw [sizeLine_eq]; exact (by decide : 1 ≤ 16777216)) fun h' t1 k3 hx' => ?_
  exact hq h' _ t1 (fun b o hb e => k3 b o hb (k2 _ _ (k1 _ _ e))) hx'
end
section
variable {prog : Program} {w : World} {A : Around} {E : Value → Shared → Prop} {R : Result → Shared → Prop} {s : Shared} {K : Frag} {C fI x t0 : Addr} {mg mb : Str → Option Value}
theorem fr_ne {h : Heap} {b x : Addr} {o : Obj} (hb : h.objs.size = b) (hx : h.get? x = some o) : b ≠ x := by
  have := Heap.lt_size hx
  intro e
  rw [← e, ← hb] at this
  exact Nat.lt_irrefl _ this
theorem init0 (T : Txt prog K C fI none) (X : K.In s.heap) (hlim : s.heap.NoLimit) (G : s.heap.Ns mainGlobals mg) (hb : s.heap.Ns builtinsNs mb) (hbs : mb "super" = some (.type "super")) (hx : s.heap.get? x = some (excO C t0)) (hroom : A.depth < recursionLimit)
    (hq : ∀ h' tk t1, (∀ b o, b ≠ x → s.heap.get? b = some o → h'.get? b = some o) → h'.get? x = some (excO C t1) → R (.ok (.ret .none)) { s with heap := h', toks := tk }) :
    codeAny (model prog w) A (.call (.ref fI) ⟨[.ref x], []⟩) R s := by
  obtain ⟨oc, od, q, doc, pm, an, cda, ct, cc, osl, p1, p2, q1, q2, q3, q4, q5, q6, q7, q8, q9, q10, msg, j, ho, hcd, hl, hcell, hcode⟩ := T.fn
  refine ks_codeAny_call_defAt (binds := [("self", .ref x)]) hroom (X _ _ ho) rfl hlim (codeRec_of X hcd) rfl (BindsTo.of_eq (by first | rfl | with_unfolding_all rfl)) (by intro y hy; simp [iS, iL] at hy; rcases hy with rfl | rfl | rfl <;> simp) (by intro y hy; simp at hy; subst hy; rfl) (fun h₀ hns k => ?_) rfl rfl rfl
  obtain ⟨hp, g, d, t, os⟩ := s
  refine ks_wpAt_execs_cons ?_
  show _root_.PySem.wpAt (model prog w) _ (.func _ (ksEnv q (iS none) hp.objs.size fI (.ref cda) cc)) (exec _ (ksEnv q (iS none) hp.objs.size fI (.ref cda) cc)) _ _ ⟨h₀, g, d, t + 1, os⟩
  refine super_stmt T ho hcell hcode hl rfl rfl rfl (X.keeps k) (G.keeps k) (hb.keeps k) hbs hns rfl (k _ _ hx) fun h' tk t1 k' hx' => ?_
  refine wpAt_of_wpAny (wpAny_execs_nil ?_)
  exact hq h' tk t1 (fun b o hb e => k' b o hb (k b o e)) hx'
theorem init1 {f : Str} {v : Value} (T : Txt prog K C fI (some f)) (X : K.In s.heap) (hlim : s.heap.NoLimit) (G : s.heap.Ns mainGlobals mg) (hb : s.heap.Ns builtinsNs mb) (hbs : mb "super" = some (.type "super")) (hx : s.heap.get? x = some (excO C t0)) (hnx : K.lookup x = none) (hroom : A.depth < recursionLimit)
    (hq : ∀ h' tk t1 dx, (∀ b o, b ≠ x → s.heap.get? b = some o → h'.get? b = some o) → h'.get? x = some { cls := .ref C, dict := some dx, data := .fields #[.ref t1, .none, .none, .none, .bool false, .none] } → s.heap.objs.size ≤ dx → dx ≠ x → h'.Ns1 dx (fun y => if y = f then some v else none) → R (.ok (.ret .none)) { s with heap := h', toks := tk }) :
    codeAny (model prog w) A (.call (.ref fI) ⟨[.ref x, v], []⟩) R s := by
  obtain ⟨oc, od, q, doc, pm, an, cda, ct, cc, osl, p1, p2, q1, q2, q3, q4, q5, q6, q7, q8, q9, q10, msg, j, ho, hcd, hl, hcell, hcode⟩ := T.fn
  obtain ⟨nm, qn, N, bs, bm, sn, sub, ab, col, dd, k0, k1, k2, k3, k5, hC, hbm⟩ := T.cls
  have hcl : clsIn K C = some { name := nm, bases := bs, mro := .ref C :: bm, ns := N, qualname := qn, hasDict := true, slotNames := sn, subclasses := sub, abstract := ab, collection := col, hasDel := false } := by unfold clsIn; rw [hC] <;> rfl
  obtain ⟨noN, fs, fd, fc, fu⟩ := T.noN f rfl
  have fs' : ("self" == f) = false := by simpa using Ne.symm fs
  have fs2 : (f == "self") = false := by simpa using fs
  have fc' : (("__class__" : Str) == f) = false := by simpa using Ne.symm fc
  have fu' : (("super" : Str) == f) = false := by simpa using Ne.symm fu
  have nmS : (iS (some f)).names = [(("self" : Str), .local), (f, .local), (("__class__" : Str), .free), (("super" : Str), .globalImplicit)] := rfl
  have lf : (iS (some f)).names.lookup f = some .local := by rw [nmS]; simp [List.lookup, fs2]
  refine ks_codeAny_call_defAt (binds := [("self", .ref x), (f, v)]) hroom (X _ _ ho) rfl hlim (codeRec_of X hcd) rfl (BindsTo.of_eq ((T.bd f rfl : BdOk f) q _ doc pm an (.ref cda) ct cc p1 p2 (.ref x) v)) (by intro y hy; simp [iS, iL] at hy; rcases hy with rfl | rfl | rfl | rfl <;> simp) (by
    intro y hy
    simp at hy
    rcases hy with rfl | rfl
    · rfl
    · exact lf) (fun h₀ hns k => ?_) rfl rfl rfl
  obtain ⟨hp, g, d, t, os⟩ := s
  have mself : (fun y => ([(("self" : Str), Value.ref x), (f, v)] : List (Str × Value)).reverse.lookup y) "self" = some (.ref x) := by
    show List.lookup ("self" : Str) [(f, v), (("self" : Str), Value.ref x)] = _
    simp [List.lookup, fs']
  have mf : (fun y => ([(("self" : Str), Value.ref x), (f, v)] : List (Str × Value)).reverse.lookup y) f = some v := by
    show List.lookup f [(f, v), (("self" : Str), Value.ref x)] = _
    simp [List.lookup]
  refine ks_wpAt_execs_cons ?_
  show _root_.PySem.wpAt (model prog w) _ (.func _ (ksEnv q (iS (some f)) hp.objs.size fI (.ref cda) cc)) (exec _ (ksEnv q (iS (some f)) hp.objs.size fI (.ref cda) cc)) _ _ ⟨h₀, g, d, t + 2, os⟩
  refine super_stmt T ho hcell hcode hl (by rw [nmS]; simp [List.lookup, fu'] <;> rfl) (by rw [nmS]; simp [List.lookup, fc'] <;> rfl) rfl (X.keeps k) (G.keeps k) (hb.keeps k) hbs hns mself (k _ _ hx) fun h' tk t1 k' hx' => ?_
  have hne : hp.objs.size ≠ x := fr_ne rfl hx
  have hn' := hns.at fun o e => k' _ o hne e
  have X' : K.In h' := fun a o e => k' a o (fun z => by rw [z, hnx] at e; cases e) (k a o (X a o e))
  refine wpAt_of_wpAny (wpAny_execs_cons (plainObj_wpAny_Assign_Attribute ?_))
  refine wpAny_Name (wpAny_loadName_local rfl lf hn' mf ?_) fd
  refine wpAny_Name (wpAny_loadName_local rfl rfl hn' mself ?_) (by decide)
  refine set_plain X' (ox := excO C t1) (od := none) ⟨hx', rfl, rfl, trivial⟩ T.sa ?_
  refine exc_osa X' hx' hcl (show refsVE (.ref C :: bm) = true from hbm) rfl noN (fun h₃ tk₃ dx k₃ dn dne hx₃ hn₃ => ?_)
  have z : hp.objs.size < h'.objs.size := hn'.lt
  exact wpAny_execs_nil (hq h₃ tk₃ t1 dx (fun b o hb e => k₃ b o hb (k' b o hb (k b o e))) hx₃ (Nat.le_of_lt (Nat.lt_of_lt_of_le z dn)) dne hn₃)
end
end XE
end HM

/-! HM, own exceptions: made, raised. -/
namespace HM
namespace XE
open PySem PySem.W PySem.Calls PyProof.Rows PySem.HandSPX
section
variable {prog : Program} {w : World} {A : Around} {E : Value → Shared → Prop} {R : Result → Shared → Prop} {s : Shared} {K : Frag} {C fI : Addr} {mg mb : Str → Option Value}
theorem one_size (v : Value) : [v].length ≤ sizeLine := by
  rw [sizeLine_eq]
  exact (by decide : 1 ≤ 16777216)
theorem made1 {f : Str} {v : Value} (T : Txt prog K C fI (some f)) (X : K.In s.heap) (hlim : s.heap.NoLimit) (G : s.heap.Ns mainGlobals mg) (hb : s.heap.Ns builtinsNs mb) (hbs : mb "super" = some (.type "super")) (hroom : A.depth + 1 < recursionLimit)
    (hq : ∀ h' tk (e dx t1 : Addr), (∀ b o, s.heap.get? b = some o → h'.get? b = some o) → s.heap.objs.size ≤ e → h'.get? e = some { cls := .ref C, dict := some dx, data := .fields #[.ref t1, .none, .none, .none, .bool false, .none] } → s.heap.objs.size ≤ dx → dx ≠ e → h'.Ns1 dx (fun y => if y = f then some v else none) → R (.ok (.ret (.ref e))) { s with heap := h', toks := tk }) :
    codeAny (model prog w) A (.call (.ref C) ⟨[v], []⟩) R s := by
  obtain ⟨nm, q, N, bs, bm, sn, sub, ab, col, dd, k0, k1, k2, k3, k5, hC, hbm⟩ := T.cls
  obtain ⟨hp, g, dr, tk, os⟩ := s
  have k : ∀ b o, hp.get? b = some o → ((hp.push (kdv_tup [v])).push (excO C hp.objs.size)).get? b = some o := fun b o e => Heap.get?_push_of_some _ (Heap.get?_push_of_some _ e)
  have hget : ((hp.push (kdv_tup [v])).push (excO C hp.objs.size)).get? (hp.objs.size + 1) = some (excO C hp.objs.size) := by heap_get
  have hnx : K.lookup (hp.objs.size + 1) = none := by
    cases e : K.lookup (hp.objs.size + 1) with
    | none => rfl
    | some o =>
      have z : hp.get? (hp.objs.size + 1) = some o := X _ _ e
      exact absurd (Nat.lt_of_succ_lt (Heap.lt_size z)) (Nat.lt_irrefl _)
  refine call_own F.excBase_ValueError (fun X => refsVE_contains X bm hbm) (X _ _ hC) (looks_findIn X T.iC) (fun self => bind_fn X self T.tC) (one_size v) ?_
  refine init1 (s := ⟨(hp.push (kdv_tup [v])).push (excO C hp.objs.size), g, dr, tk, os⟩) T (X.keeps k) (hlim.keeps k) (G.keeps k) (hb.keeps k) hbs hget hnx ?_ fun h' tk' t1 dx k' hx dn dne hns => ?_
  · show A.depth + 1 < recursionLimit
    exact hroom
  · have old : ∀ b o, hp.get? b = some o → h'.get? b = some o := fun b o e => k' b o (Nat.ne_of_lt (Nat.lt_succ_of_lt (Heap.lt_size e))) (k b o e)
    have z : hp.objs.size + 1 + 1 ≤ dx := by
      first
        | (simpa only [Heap.size_push] using dn)
        | exact dn
        | (have q := dn; rw [Heap.size_push, Heap.size_push] at q; exact q)
    exact ⟨rfl, hq h' tk' (hp.objs.size + 1) dx t1 old (Nat.le_succ _) hx (Nat.le_trans (Nat.le_trans (Nat.le_succ _) (Nat.le_succ _)) z) dne hns⟩
theorem made0 (T : Txt prog K C fI none) (X : K.In s.heap) (hlim : s.heap.NoLimit) (G : s.heap.Ns mainGlobals mg) (hb : s.heap.Ns builtinsNs mb) (hbs : mb "super" = some (.type "super")) (hroom : A.depth + 1 < recursionLimit)
    (hq : ∀ h' tk (e t1 : Addr), (∀ b o, s.heap.get? b = some o → h'.get? b = some o) → s.heap.objs.size ≤ e → h'.get? e = some { cls := .ref C, dict := none, data := .fields #[.ref t1, .none, .none, .none, .bool false, .none] } → R (.ok (.ret (.ref e))) { s with heap := h', toks := tk }) :
    codeAny (model prog w) A (.call (.ref C) ⟨[], []⟩) R s := by
  obtain ⟨nm, q, N, bs, bm, sn, sub, ab, col, dd, k0, k1, k2, k3, k5, hC, hbm⟩ := T.cls
  obtain ⟨hp, g, dr, tk, os⟩ := s
  have k : ∀ b o, hp.get? b = some o → ((hp.push (kdv_tup [])).push (excO C hp.objs.size)).get? b = some o := fun b o e => Heap.get?_push_of_some _ (Heap.get?_push_of_some _ e)
  have hget : ((hp.push (kdv_tup [])).push (excO C hp.objs.size)).get? (hp.objs.size + 1) = some (excO C hp.objs.size) := by heap_get
  refine call_own F.excBase_ValueError (fun X => refsVE_contains X bm hbm) (X _ _ hC) (looks_findIn X T.iC) (fun self => bind_fn X self T.tC) (Nat.zero_le _) ?_
  refine init0 (s := ⟨(hp.push (kdv_tup [])).push (excO C hp.objs.size), g, dr, tk, os⟩) T (X.keeps k) (hlim.keeps k) (G.keeps k) (hb.keeps k) hbs hget ?_ fun h' tk' t1 k' hx => ?_
  · show A.depth + 1 < recursionLimit
    exact hroom
  · have old : ∀ b o, hp.get? b = some o → h'.get? b = some o := fun b o e => k' b o (Nat.ne_of_lt (Nat.lt_succ_of_lt (Heap.lt_size e))) (k b o e)
    exact ⟨rfl, hq h' tk' (hp.objs.size + 1) t1 old (Nat.le_succ _) hx⟩
end
end XE
end HM
namespace HM
open PySem PySem.Spec PyProof.Rows L2
theorem relO_fld {v : V} {v' : Value} {f : Str} (r : RelV v v') (g : Str) : RelO (List.lookup g [(f, v)]) (if g = f then some v' else none) := by
  by_cases hw : g = f
  · subst hw
    rw [if_pos rfl]
    have q : List.lookup g [(g, v)] = some v := by simp [List.lookup]
    rw [q]
    exact r
  · rw [if_neg hw]
    have qw : (g == f) = false := by simpa using hw
    have q2 : List.lookup g [(f, v)] = none := by simp [List.lookup, qw]
    rw [q2]
    trivial
section
variable {X : Cx} {C fI : Addr}
/-- C(e) -/
def tMk1 (C : Addr) (f : Str) (ta : TA) : L2.St → Hp → XK → Prop := fun σ H Q => ta σ H fun vs H1 => ∃ v, vs = [v] ∧ ∀ d, H1 d = none → Q (.ref C) (some d) (upd H1 d (.xd [(f, v)]))
theorem pmk1 {n f : Str} {a : Expr} {ta : TA} {p pos : Pos} {k : Nat} (T : XE.Txt X.prog X.K C fI (some f)) (gC : X.mg n = some (.ref C)) (hr : Room k X.A) (ha : PA X [a] ta) (hg : Gl X n) (hk : 0 < k) (hn : (n == ("__debug__" : Str)) = false := by decide)
    (he : starEach (a :: []) X.env = (false, eval a X.env) :: starEach [] X.env := by rfl) (hpl : (backTo pos (starEach [] X.env)).any (·.1) = false := by rfl) :
    PMk X (.Call (.Name n p) [a] [] pos) (tMk1 C f ta) := by
  intro pins s σ H Q I h
  refine wpAny_Call_Name_kw (ld_glob I hg gC ?_ hn)
  refine PySem.W.callWith_K (h₀ := X.base) I.ok.mod.kin T.kC (thn (ha.run pos pins s σ H _ I h) fun us s1 hh => ?_) he hpl
  obtain ⟨vs, H1, I1, r1, v, ev, q1⟩ := hh
  subst ev
  refine ⟨I1.kIn, ?_⟩
  cases r1 with
  | cons rv rn =>
    rename_i v' us'
    cases rn
    show wpAny _ _ (call (.ref C) [v']) _ _ _
    have hlim := I1.nolimit
    obtain ⟨mb, hb1, hb2⟩ := I1.mod.blt
    have G1 := I1.mod.glob.keeps I1.bk
    have B1 := hb1.keeps I1.bk
    have bs : mb "super" = some (.type "super") := (hb2 "super" (by decide)).trans (by decide +kernel)
    obtain ⟨hp, g, dr, tk, os⟩ := s1
    refine wpAny_call (XE.made1 T I1.kIn hlim G1 B1 bs (by have := hr.dp; omega) fun h' tk' e d t1 keep new obj dbig dne hns => ?_)
    show MkP X pins σ Q (.ref e) ⟨h', g, dr, tk', os⟩
    obtain ⟨G', g1, g2⟩ := restrict h' fun b => decide (b ≠ e)
    have gk : ∀ b, b ≠ e → G'.get? b = h'.get? b := fun b hb => g1 b (decide_eq_true hb)
    have ge : G'.get? e = none := g2 e (by simp)
    have old : ∀ b o, hp.get? b = some o → G'.get? b = some o := fun b o q => (gk b (Nat.ne_of_lt (Nat.lt_of_lt_of_le (Heap.lt_size q) new))).trans (keep b o q)
    have ob : ObjOk X.prog X.w (upd H1 d (.xd [(f, v)])) G' d (.xd [(f, v)]) :=
      ⟨_, hns.at (fun o q => (gk d dne).trans q), fun g => relO_fld rv g⟩
    have J : Inv X pins σ (upd H1 d (.xd [(f, v)])) ⟨G', g, dr, tk', os⟩ := I1.laid (t' := tk') old dbig ob
    refine ⟨e, _, _, ⟨G', g, dr, tk', os⟩, _, .ref C, some d, rfl, J, fun b o q => ?_, ge, obj, ⟨rfl, rfl⟩, rfl, rfl, ?_, rfl, I1.bare, raises_own T.exC T.tyC, q1 d (I1.hok.fresh dbig)⟩
    · by_cases hb : b = e
      · have q' : G'.get? b = some o := q
        rw [hb, ge] at q'; cases q'
      · exact (gk b hb).symm.trans q
    · rw [upd_ne (Ne.symm dne)]
      exact I1.hok.fresh new
def tMk0 (C : Addr) : L2.St → Hp → XK → Prop := fun σ H Q => Q (.ref C) none H
theorem pmk0 {n : Str} {p pos : Pos} {k : Nat} (T : XE.Txt X.prog X.K C fI none) (gC : X.mg n = some (.ref C)) (hr : Room k X.A) (hg : Gl X n) (hk : 0 < k) (hn : (n == ("__debug__" : Str)) = false := by decide) :
    PMk X (.Call (.Name n p) [] [] pos) (tMk0 C) := by
  intro pins s σ H Q I h
  refine wpAny_Call_Name_kw (ld_glob I hg gC ?_ hn)
  refine PySem.W.callWith_K0 I.kIn T.kC ?_
  show wpAny _ _ (call (.ref C) []) _ _ _
  have hlim := I.nolimit
  obtain ⟨mb, hb1, hb2⟩ := I.mod.blt
  have G1 := I.mod.glob.keeps I.bk
  have B1 := hb1.keeps I.bk
  have bs : mb "super" = some (.type "super") := (hb2 "super" (by decide)).trans (by decide +kernel)
  have kin := I.kIn
  obtain ⟨hp, g, dr, tk, os⟩ := s
  refine wpAny_call (XE.made0 T kin hlim G1 B1 bs (by have := hr.dp; omega) fun h' tk' e t1 keep new obj => ?_)
  show MkP X pins σ Q (.ref e) ⟨h', g, dr, tk', os⟩
  obtain ⟨G', g1, g2⟩ := restrict h' fun b => decide (b ≠ e)
  have gk : ∀ b, b ≠ e → G'.get? b = h'.get? b := fun b hb => g1 b (decide_eq_true hb)
  have ge : G'.get? e = none := g2 e (by simp)
  have old : ∀ b o, hp.get? b = some o → G'.get? b = some o := fun b o q => (gk b (Nat.ne_of_lt (Nat.lt_of_lt_of_le (Heap.lt_size q) new))).trans (keep b o q)
  have J : Inv X pins σ H ⟨G', g, dr, tk', os⟩ := I.kept (t' := tk') old
  refine ⟨e, _, _, ⟨G', g, dr, tk', os⟩, _, .ref C, none, rfl, J, fun b o q => ?_, ge, obj, ⟨rfl, rfl⟩, rfl, rfl, ?_, rfl, I.bare, raises_own T.exC T.tyC, h⟩
  · by_cases hb : b = e
    · have q' : G'.get? b = some o := q
      rw [hb, ge] at q'; cases q'
    · exact (gk b hb).symm.trans q
  · exact I.hok.fresh new
end
end HM

/-! HM, own exceptions: what the head tells of a class; the Hook with classes. -/
namespace HM
open PySem PySem.Spec PyProof.Rows L2
/-- the object of a class over ValueError -/
def vcB (K : PySem.W.Frag) (C : Addr) : Bool := match K.lookup C with
  | some ⟨.type "type", _, .cls cd, sl⟩ => (match cd.mro, sl.toList with
    | .ref C' :: bm, [_, _, _, _, some (.builtin n), _] => (C' == C && n == "ValueError.__new__") && ((!cd.hasDel && cd.hasDict) && PySem.HandSPX.refsVE bm)
    | _, _ => false)
  | _ => false
theorem vcB_ok {K : PySem.W.Frag} {C : Addr} (q : vcB K C = true) : ∃ nm q N bs bm sn sub ab col dd k0 k1 k2 k3 k5, K.lookup C = some (excClassObj nm q C N bs bm true sn sub ab col dd k0 k1 k2 k3 k5 "ValueError.__new__") ∧ PySem.HandSPX.refsVE bm = true := by
  unfold vcB at q
  split at q
  · rename_i dd cd sl ho
    split at q
    · rename_i C' bm k0 k1 k2 k3 n k5 hm hs
      simp only [Bool.and_eq_true, beq_iff_eq, Bool.not_eq_true'] at q
      obtain ⟨⟨rfl, rfl⟩, ⟨hdel, hdi⟩, ht⟩ := q
      obtain ⟨nm, bs, mro, ns, qn, hd, sn, sub, ab, col, del⟩ := cd
      dsimp only at hm hdel hdi
      subst hm hdel hdi
      have hsl : sl = #[k0, k1, k2, k3, some (.builtin "ValueError.__new__"), k5] := by
        obtain ⟨l⟩ := sl
        simp only at hs
        rw [hs]
      subst hsl
      exact ⟨nm, qn, ns, bs, bm, sn, sub, ab, col, dd, k0, k1, k2, k3, k5, ho, ht⟩
    · cases q
  · cases q
def fileB (file : Str) : Option Value → Bool
  | some (.str f _) => file == f
  | _ => false
theorem fileB_ok {file : Str} {v : Option Value} (h : fileB file v = true) : ∃ f t, v = some (.str f t) ∧ (file == f) = true := by
  unfold fileB at h
  split at h
  · exact ⟨_, _, rfl, h⟩
  · cases h
/-- __init__'s own: where it stands, its cell, its code's file -/
def inB (K : PySem.W.Frag) (C : Addr) (q file : Str) : Bool := match K.lookup (He.ma K C "__init__") with
  | some ⟨_, _, .func fd, _⟩ => (match fd.closure with
      | [(x, cc)] => x == ("__class__" : Str) && (match K.lookup cc with
        | some ⟨_, _, .cell (some (.ref C')), _⟩ => C' == C
        | _ => false)
      | _ => false) && (PySem.W.codeIn K fd.code q && (match fd.code with
      | .ref cda => (match K.lookup cda with
        | some ⟨_, _, .fields vs, _⟩ => fileB file vs[2]?
        | _ => false)
      | _ => false))
  | _ => false
abbrev FnI : Type := Option (Str × Str × Arguments × FuncBody × Scope × Addr × Value × Value × Addr)
def fnI (K : PySem.W.Frag) (n : Str) : FnI := match K.lookup (He.ma K (He.ga K n) "__init__") with
  | some ⟨_, _, .func fd, _⟩ => some (fd.name, fd.qualname, fd.params, fd.body, fd.scope, fd.globals, fd.defaults, fd.kwdefaults, fd.builtins)
  | _ => none
/-- the def in a class statement -/
def clsFn : Stmt → Stmt
  | .ClassDef _ _ _ (b :: _) _ _ _ _ _ _ _ => b
  | s => s
/-- an own class: its name, its __init__'s qualified name, the def, the field -/
structure InD where
  n : Str
  qual : Str
  st : Stmt
  fld : Option Str
def InD.val (d : InD) : FnI := some ("__init__", d.qual, defArgs d.st, .stmts (defBody d.st), defScope d.st, mainGlobals, .none, .none, builtinsNs)
/-- the statement's shape -/
structure InD.Shape (d : InD) : Prop where
  ex : ∃ (p1 p2 q1 q2 q3 q4 q5 q6 q7 q8 q9 q10 : Pos) (msg : Str) (j : Nat), (q3.endLine == q5.line) = true ∧ defArgs d.st = XE.iA p1 p2 d.fld ∧ defBody d.st = XE.iB msg j q1 q2 q3 q4 q5 q6 q7 q8 q9 q10 d.fld ∧ defScope d.st = XE.iS d.fld
  bd : ∀ f, d.fld = some f → XE.BdOk f
  nm : ∀ f, d.fld = some f → f ≠ "self" ∧ (f == ("__debug__" : Str)) = false ∧ f ≠ "__class__" ∧ f ≠ "super"
def fldB (K : PySem.W.Frag) (C : Addr) : Option Str → Bool
  | some f => He.eqO (PySem.W.findIn K (.ref C) f) (some none)
  | none => true
def InD.ok (K : PySem.W.Frag) (file : Str) (d : InD) : Bool :=
  (He.eqO (PySem.W.nsIn K mainGlobals d.n) (some (some (.ref (He.ga K d.n)))) && (vcB K (He.ga K d.n) && inB K (He.ga K d.n) d.qual file)) &&
  ((He.eqO (PySem.W.findIn K (.ref (He.ga K d.n)) "__setattr__") (some (some (.builtin "object.__setattr__"))) && (He.eqO (PySem.W.findIn K (.ref (He.ga K d.n)) "__getattribute__") (some (some (.builtin "BaseException.__getattribute__"))) && (He.eqO (PySem.W.findIn K (.ref (He.ga K d.n)) "__getattr__") (some none) && (He.eqO (PySem.W.findIn K (.ref (He.ga K d.n)) "__init__") (some (some (.ref (He.ma K (He.ga K d.n) "__init__")))) && fldB K (He.ga K d.n) d.fld)))) &&
  ((decide (PySem.W.typeIn K (.ref (He.ma K (He.ga K d.n) "__init__")) = some (.type "function")) && (PySem.W.keepIn K (.ref (He.ga K d.n)) && (decide (PySem.W.subIn K (.ref (He.ga K d.n)) (.type "BaseException") = some true) && (decide (PySem.W.subIn K (.ref (He.ga K d.n)) (.type "ValueError") = some true) && decide (PySem.W.typeIn K (.ref (He.ga K d.n)) = some (.type "type")))))) &&
  ((PySem.W.hasDictIn K (He.ga K d.n) && (He.eqO (PySem.W.ks_superIn K (He.ga K d.n) (He.ga K d.n) "__init__") (some (some (.builtin "ValueError.__init__"))) && (decide (PySem.W.mroIn K (He.ga K d.n) (.ref (He.ga K d.n)) = some true) && (He.eqO (PySem.W.nsIn K cStatics "thirdparty.any") (some none) && He.eqO (PySem.W.nsIn K mainGlobals "super") (some none))))) &&
  ((PySem.W.clsIn K (He.ga K d.n)).isSome && (He.eqO (PySem.W.findIn K (.ref (He.ga K d.n)) "__class__") (some (some (.builtin "object.__class__"))) && (He.eqO (PySem.W.specialIn K (.builtin "object.__class__") "__get__") (some (some (.builtin "getset_descriptor.__get__"))) && (decide (PySem.W.takesIn K (.builtin "object.__class__") = some true) && decide (PySem.W.mroIn K (He.ga K d.n) (.type "object") = some true))))))))
/-- what isinstance of a caught one asks -/
structure IsC (K : PySem.W.Frag) (C : Addr) : Prop where
  cl : (PySem.W.clsIn K C).isSome = true
  ga : PySem.W.findIn K (.ref C) "__getattribute__" = some (some (.builtin "BaseException.__getattribute__"))
  gg : PySem.W.findIn K (.ref C) "__getattr__" = some none
  ex : PySem.W.subIn K (.ref C) (.type "BaseException") = some true
  ca : PySem.W.findIn K (.ref C) "__class__" = some (some (.builtin "object.__class__"))
  sp : PySem.W.specialIn K (.builtin "object.__class__") "__get__" = some (some (.builtin "getset_descriptor.__get__"))
  tk : PySem.W.takesIn K (.builtin "object.__class__") = some true
  ob : PySem.W.mroIn K C (.type "object") = some true
/-- an own class, as a def that raises it or looks at it wants it -/
structure Own (P : Program) (K : PySem.W.Frag) (mg : Str → Option Value) (n : Str) (fld : Option Str) : Prop where
  txt : ∃ fI, XE.Txt P K (He.ga K n) fI fld
  glob : mg n = some (.ref (He.ga K n))
  isc : IsC K (He.ga K n)
theorem InD.own {P : Program} {K : PySem.W.Frag} {h : Heap} {mg : Str → Option Value} {file : Str} {d : InD} (X : K.In h) (G : h.Ns mainGlobals mg) (S : d.Shape) (hfile : P.main.file = file) (htop : (P.main.scope.names.lookup ("super" : Str)).isSome = false) (e : fnI K d.n = d.val) (c : d.ok K file = true) : Own P K mg d.n d.fld := by
  unfold InD.ok at c
  simp only [Bool.and_eq_true, decide_eq_true_eq] at c
  obtain ⟨⟨c1, c2, c3⟩, ⟨c4, c5, c6, c7, c8⟩, ⟨c9, c10, c11, c12, c13⟩, ⟨c14, c15, c16, c17, c18⟩, c19, c20, c21, c22, c23⟩ := c
  have c1 := He.eqO_ok c1
  have c4 := He.eqO_ok c4
  have c5 := He.eqO_ok c5
  have c6 := He.eqO_ok c6
  have c7 := He.eqO_ok c7
  have c15 := He.eqO_ok c15
  have c17 := He.eqO_ok c17
  have c18 := He.eqO_ok c18
  have c20 := He.eqO_ok c20
  have c21 := He.eqO_ok c21
  refine ⟨⟨He.ma K (He.ga K d.n) "__init__", ?_⟩, PySem.W.mg_of X G c1, ⟨c19, c5, c6, c11, c20, c21, c22, c23⟩⟩
  obtain ⟨p1, p2, q1, q2, q3, q4, q5, q6, q7, q8, q9, q10, msg, j, hl, s1, s2, s3⟩ := S.ex
  refine ⟨vcB_ok c2, c4, c5, c6, fun f hf => ?_, S.bd, c7, c9, c10, c11, c12, c13, c14, c15, c16, c17, c18, ?_, htop⟩
  · rw [hf] at c8
    exact ⟨He.eqO_ok c8, S.nm f hf⟩
  · unfold fnI InD.val at e
    unfold inB at c3
    split at e
    · rename_i oc od fd osl lk
      rw [lk] at c3
      simp only [Option.some.injEq, Prod.mk.injEq] at e
      obtain ⟨e1, e2, e3, e4, e5, e6, e7, e8, e9⟩ := e
      simp only [Bool.and_eq_true] at c3
      obtain ⟨k1, k2, k3⟩ := c3
      obtain ⟨name, qn, params, body, scope, gl, clo, df, kd, doc, pm, an, code, ct, bn⟩ := fd
      dsimp only at e1 e2 e3 e4 e5 e6 e7 e8 e9 k1 k2 k3
      subst e1 e2 e3 e4 e5 e6 e7 e8 e9
      split at k1
      · rename_i x cc
        simp only [Bool.and_eq_true, beq_iff_eq] at k1
        obtain ⟨rfl, k1⟩ := k1
        split at k3
        · rename_i cda
          refine ⟨oc, od, d.qual, doc, pm, an, cda, ct, cc, osl, p1, p2, q1, q2, q3, q4, q5, q6, q7, q8, q9, q10, msg, j, ?_, k2, hl, ?_, ?_⟩
          · rw [lk, ← s1, ← s2, ← s3]
          · split at k1
            · rename_i cl cld C' csl hcc
              have : C' = He.ga K d.n := beq_iff_eq.mp k1
              subst this
              exact ⟨_, _, _, hcc⟩
            · cases k1
          · split at k3
            · rename_i ccl cdd vs ccs hcd
              obtain ⟨f, tf, hv, k3⟩ := fileB_ok k3
              exact ⟨_, _, vs, _, f, tf, hcd, hv, by rw [hfile]; exact k3⟩
            · cases k3
        · cases k3
      · cases k1
    · cases e
/-! ### answers about classes -/
def isB (K : PySem.W.Frag) (C : Addr) : Bool := (PySem.W.clsIn K C).isSome && (He.eqO (PySem.W.findIn K (.ref C) "__getattribute__") (some (some (.builtin "BaseException.__getattribute__"))) && (He.eqO (PySem.W.findIn K (.ref C) "__getattr__") (some none) && (decide (PySem.W.subIn K (.ref C) (.type "BaseException") = some true) && (He.eqO (PySem.W.findIn K (.ref C) "__class__") (some (some (.builtin "object.__class__"))) && (He.eqO (PySem.W.specialIn K (.builtin "object.__class__") "__get__") (some (some (.builtin "getset_descriptor.__get__"))) && (decide (PySem.W.takesIn K (.builtin "object.__class__") = some true) && decide (PySem.W.mroIn K C (.type "object") = some true)))))))
theorem isB_ok {K : PySem.W.Frag} {C : Addr} (c : isB K C = true) : IsC K C := by
  unfold isB at c
  simp only [Bool.and_eq_true, decide_eq_true_eq] at c
  obtain ⟨c1, c2, c3, c4, c5, c6, c7, c8⟩ := c
  exact ⟨c1, He.eqO_ok c2, He.eqO_ok c3, c4, He.eqO_ok c5, He.eqO_ok c6, c7, c8⟩
inductive Fz where
  /-- an instance of the class n is caught by «except y» -/
  | exm (n y : Str)
  /-- isinstance of an instance of n: an own class, a built-in one -/
  | isx (n y : Str) (b : Bool)
  | isb (n : Str) (T : String) (b : Bool)
def Fz.ok (K : PySem.W.Frag) : Fz → Bool
  | .exm n y => He.eqO (PySem.W.nsIn K mainGlobals y) (some (some (.ref (He.ga K y)))) && (isB K (He.ga K n) && decide (PySem.W.exmOne K (.ref (He.ga K n)) (.ref (He.ga K y)) = some true))
  | .isx n y b => He.eqO (PySem.W.nsIn K mainGlobals y) (some (some (.ref (He.ga K y)))) && decide (PySem.W.kitOne K (.ref (He.ga K n)) (.ref (He.ga K y)) = some b)
  | .isb n T b => decide (PySem.W.kitOne K (.ref (He.ga K n)) (.type T) = some b)
section
variable {K : PySem.W.Frag} {h : Heap} {mg : Str → Option Value}
structure Exm (K : PySem.W.Frag) (mg : Str → Option Value) (n y : Str) : Prop where
  glob : mg y = some (.ref (He.ga K y))
  is : PySem.W.exmOne K (.ref (He.ga K n)) (.ref (He.ga K y)) = some true
  isc : IsC K (He.ga K n)
structure Isx (K : PySem.W.Frag) (mg : Str → Option Value) (n y : Str) (b : Bool) : Prop where
  glob : mg y = some (.ref (He.ga K y))
  is : PySem.W.kitOne K (.ref (He.ga K n)) (.ref (He.ga K y)) = some b
structure Isb (K : PySem.W.Frag) (n : Str) (T : String) (b : Bool) : Prop where
  is : PySem.W.kitOne K (.ref (He.ga K n)) (.type T) = some b
theorem exm_ok (X : K.In h) (G : h.Ns mainGlobals mg) {n y : Str} (c : (Fz.exm n y).ok K = true) : Exm K mg n y := by
  obtain ⟨c1, c2⟩ := He.ba (show (He.eqO _ _ && (isB _ _ && decide _)) = true from c)
  obtain ⟨c2, c3⟩ := He.ba c2
  exact ⟨PySem.W.mg_of X G (He.eqO_ok c1), of_decide_eq_true c3, isB_ok c2⟩
theorem isx_ok (X : K.In h) (G : h.Ns mainGlobals mg) {n y : Str} {b : Bool} (c : (Fz.isx n y b).ok K = true) : Isx K mg n y b := by
  obtain ⟨c1, c2⟩ := He.ba (show (He.eqO _ _ && decide _) = true from c)
  exact ⟨PySem.W.mg_of X G (He.eqO_ok c1), of_decide_eq_true c2⟩
theorem isb_ok {n : Str} {T : String} {b : Bool} (c : (Fz.isb n T b).ok K = true) : Isb K n T b := ⟨of_decide_eq_true (show decide _ = true from c)⟩
end
/-- the tables' answers -/
def fzOf (tX : List (Str × Str × Bool)) (tB : List (Str × String × Bool)) (tM : List (Str × Str)) : List Fz := tX.map (fun r => Fz.isx r.1 r.2.1 r.2.2) ++ (tB.map (fun r => Fz.isb r.1 r.2.1 r.2.2) ++ tM.map fun r => Fz.exm r.1 r.2)
/-! ### the Hook with classes -/
abbrev AlC : Type := He.AlD × (Bool × List FnI)
def asC (g : Addr → Option Obj) (n : Nat) : List Addr := He.asD g n ++ [cStatics]
def obsC (fa : List He.Fa) (fx : List Fx) (fn : List He.DefD) (fz : List Fz) (ins : List InD) (file : Str) (K : PySem.W.Frag) : AlC := (obsM fa fx fn K, ((fz.all fun f => f.ok K) && ins.all fun d => d.ok K file, ins.map fun d => fnI K d.n))
def valC (fn : List He.DefD) (ins : List InD) : AlC := (He.valD fn, (true, ins.map InD.val))
def SaysC (fa : List He.Fa) (fx : List Fx) (fn : List He.DefD) (fz : List Fz) (ins : List InD) (file : Str) (K : PySem.W.Frag) : Prop := obsC fa fx fn fz ins file K = valC fn ins
def obsCG (n : Nat) (fa : List He.Fa) (fx : List Fx) (fn : List He.DefD) (fz : List Fz) (ins : List InD) (file : Str) (g : Addr → Option Obj) : AlC := obsC fa fx fn fz ins file (He.frG g (asC g n))
def hookC (n : Nat) (fa : List He.Fa) (fx : List Fx) (fn : List He.DefD) (fz : List Fz) (ins : List InD) (file : Str) : PySem.W.Hook where
  α := AlC
  obs := fun s => obsCG n fa fx fn fz ins file s.heap.get?
  val := fun _ => valC fn ins
  says := fun _ h => ∃ K : PySem.W.Frag, K.In h ∧ SaysC fa fx fn fz ins file K
  of := fun _ _ e => ⟨_, He.frG_in, e⟩
  keeps := fun _ _ _ ⟨K, hK, c⟩ k => ⟨K, PySem.W.Frag.In.keeps hK k, c⟩
theorem obsCG_eq {n : Nat} {fa : List He.Fa} {fx : List Fx} {fn : List He.DefD} {fz : List Fz} {ins : List InD} {file : Str} {g : Addr → Option Obj} {s : Shared} (h : ∀ a, g a = s.heap.get? a) : obsCG n fa fx fn fz ins file g = (hookC n fa fx fn fz ins file).obs s := by
  have e : g = s.heap.get? := funext h
  rw [e] <;> rfl
section
variable {fa : List He.Fa} {fx : List Fx} {fn : List He.DefD} {fz : List Fz} {ins : List InD} {file : Str} {K : PySem.W.Frag}
theorem SaysC.m (c : SaysC fa fx fn fz ins file K) : SaysM fa fx fn K := congrArg (fun z : AlC => z.1) c
theorem SaysC.z (c : SaysC fa fx fn fz ins file K) (i : Nat) {f : Fz} (h : fz[i]? = some f := by rfl) : f.ok K = true := by
  have c1 := (He.ba (show ((fz.all fun f => f.ok K) && ins.all fun d => d.ok K file) = true from congrArg (fun z : AlC => z.2.1) c)).1
  exact List.all_eq_true.mp c1 f (List.mem_of_getElem? h)
theorem SaysC.zm (c : SaysC fa fx fn fz ins file K) {f : Fz} (h : f ∈ fz) : f.ok K = true := by
  have c1 := (He.ba (show ((fz.all fun f => f.ok K) && ins.all fun d => d.ok K file) = true from congrArg (fun z : AlC => z.2.1) c)).1
  exact List.all_eq_true.mp c1 f h
theorem SaysC.x {h : Heap} {mg : Str → Option Value} {tX : List (Str × Str × Bool)} {tB : List (Str × String × Bool)} {tM : List (Str × Str)} (c : SaysC fa fx fn (fzOf tX tB tM) ins file K) (X : K.In h) (G : h.Ns mainGlobals mg) : ∀ r ∈ tX, Isx K mg r.1 r.2.1 r.2.2 := fun r hr =>
  isx_ok X G (c.zm (List.mem_append_left _ (List.mem_map.mpr ⟨r, hr, rfl⟩)))
theorem SaysC.b {tX : List (Str × Str × Bool)} {tB : List (Str × String × Bool)} {tM : List (Str × Str)} (c : SaysC fa fx fn (fzOf tX tB tM) ins file K) : ∀ r ∈ tB, Isb K r.1 r.2.1 r.2.2 := fun r hr =>
  isb_ok (c.zm (List.mem_append_right _ (List.mem_append_left _ (List.mem_map.mpr ⟨r, hr, rfl⟩))))
theorem SaysC.e {h : Heap} {mg : Str → Option Value} {tX : List (Str × Str × Bool)} {tB : List (Str × String × Bool)} {tM : List (Str × Str)} (c : SaysC fa fx fn (fzOf tX tB tM) ins file K) (X : K.In h) (G : h.Ns mainGlobals mg) : ∀ r ∈ tM, Exm K mg r.1 r.2 := fun r hr =>
  exm_ok X G (c.zm (List.mem_append_right _ (List.mem_append_right _ (List.mem_map.mpr ⟨r, hr, rfl⟩))))
theorem SaysC.cls (c : SaysC fa fx fn fz ins file K) (i : Nat) {d : InD} (h : ins[i]? = some d := by rfl) : fnI K d.n = d.val ∧ d.ok K file = true := by
  have c2 := (He.ba (show ((fz.all fun f => f.ok K) && ins.all fun d => d.ok K file) = true from congrArg (fun z : AlC => z.2.1) c)).2
  have e : ins.map (fun d => fnI K d.n) = ins.map InD.val := congrArg (fun z : AlC => z.2.2) c
  have e2 : (ins.map fun d => fnI K d.n)[i]? = (ins.map InD.val)[i]? := by rw [e]
  rw [List.getElem?_map, List.getElem?_map, h] at e2
  exact ⟨Option.some.inj e2, List.all_eq_true.mp c2 d (List.mem_of_getElem? h)⟩
end
end HM

/-! HM, own exceptions: raise, try .. except X as e, isinstance(e, C), e.f. -/
namespace HM
open PySem PySem.Spec PyProof.Rows L2
/-- a class of the module's, by its name -/
def cN (n : Str) : D := .adr 0 none n .non
section
variable {X : Cx} {W : WX} {a e : Expr} {pos p pos' : Pos} {fs : EM (List D)} {k : Nat}
def sRaise1 (n f : Str) (fs : EM (List D)) : SM := fun τ st => bindE (fs τ st) τ fun ds s => match ds with
  | [d] => .exc ⟨cN n, [(f, d)]⟩ τ s
  | _ => .bad
theorem sx_raise1 {n f : Str} (hc : X.calm = true) (tk : Takes X W) (O : Own X.prog X.K X.mg n (some f)) (hr : Room k X.A) (hk : 0 < k) (ha : Ea X W [a] fs) (hg : Gl X n := by rfl) (hn : (n == ("__debug__" : Str)) = false := by decide)
    (he : starEach (a :: []) X.env = (false, eval a X.env) :: starEach [] X.env := by rfl) (hpl : (backTo pos (starEach [] X.env)).any (·.1) = false := by rfl) :
    Sx X W (.Raise (some (.Call (.Name n p) [a] [] pos)) none pos') (sRaise1 n f fs) := by
  refine ⟨fun m τ s σ H D hL hS hP pins sh I => ?_⟩
  obtain ⟨fI, T⟩ := O.txt
  refine (ps_raise hc tk (pmk1 T O.glob hr paW hg hk hn he hpl)).run pins sh σ H D I ?_
  show wA X [a] σ H fun vs H1 => ∃ v, vs = [v] ∧ ∀ d, H1 d = none → W (.ref (He.ga X.K n)) (some d) σ (upd H1 d (.xd [(f, v)]))
  refine ha.run m τ s σ H _ hL hS ?_
  unfold sRaise1 at hP
  cases hq : fs τ s with
  | ok ds s1 =>
    rw [hq, bindE_ok] at hP
    intro m1 H1 vs e1 hS1 r1
    match ds, r1, hP with
    | [], _, hP => exact hP.elim
    | _ :: _ :: _, _, hP => exact hP.elim
    | [d], r1, hP =>
      obtain ⟨v, rfl, rv⟩ := r1.one
      refine ⟨v, rfl, fun dd hd => ?_⟩
      have eF : Ext X.K m1 H1 m1 (upd H1 dd (.xd [(f, v)])) := Ext.fresh hd
      exact hP m1 _ σ (.ref (He.ga X.K n)) (some dd) (e1.trans eF) (hS1.fresh hd) (hL.mono (e1.trans eF)) ⟨rfl, .inr ⟨f, d, dd, v, rfl, rfl, upd_same, rv.mono eF⟩⟩
  | exc x s1 =>
    rw [hq] at hP
    intro m1 H1 c d e1 hS1 hX
    exact hP m1 H1 σ c d e1 hS1 (hL.mono e1) hX
  | bad =>
    rw [hq] at hP
    exact hP.elim
def sRaise0 (n : Str) : SM := fun τ st => .exc ⟨cN n, []⟩ τ st
theorem sx_raise0 {n : Str} (hc : X.calm = true) (tk : Takes X W) (O : Own X.prog X.K X.mg n none) (hr : Room k X.A) (hk : 0 < k) (hg : Gl X n := by rfl) (hn : (n == ("__debug__" : Str)) = false := by decide) :
    Sx X W (.Raise (some (.Call (.Name n p) [] [] pos)) none pos') (sRaise0 n) := by
  refine ⟨fun m τ s σ H D hL hS hP pins sh I => ?_⟩
  obtain ⟨fI, T⟩ := O.txt
  refine (ps_raise hc tk (pmk0 T O.glob hr hg hk hn)).run pins sh σ H D I ?_
  exact hP m H σ _ _ .refl hS hL ⟨rfl, .inl ⟨rfl, rfl⟩⟩
end
/-! ### the suite's own -/
def dOf (x : Xc) : Option Addr := match x.fs with
  | [] => none
  | _ => some 0
def xcD (a : Addr) (d : Option Addr) (x : Xc) : D := match x.fs with
  | [(f, v)] => .adr a d f v
  | _ => .adr a none Str.empty .non
/-- isinstance(e, ..), e in slot i the exception at a -/
def eIs (i : Nat) (a : Addr) (d : Option Addr) (b : Option Bool) : EM D := fun τ st => match τ[i]? with
  | some (some (.adr a' d' _ _)) => if a' = a ∧ d' = d then match b with
    | some b => .ok (.bl b) st
    | none => .bad
    else .bad
  | _ => .bad
/-- e.f -/
def eFl (i : Nat) (a : Addr) (d : Option Addr) (f : Str) : EM D := fun τ st => match τ[i]? with
  | some (some (.adr a' (some d') g x)) => if (a' = a ∧ some d' = d) ∧ g = f then .ok x st else .bad
  | _ => .bad
def rIsE2 (K : PySem.W.Frag) (D a : Addr) (d : Option Addr) : List V → Hp → VK → Prop := fun xs H Q => ∃ (c : V) (cv : Value) (b : Bool), xs = [.ref a, c] ∧ (∀ u, RelV c u → u = cv) ∧ PySem.W.kitOne K (.ref D) cv = some b ∧ (∀ dd, d = some dd → ∃ fs, H dd = some (.xd fs)) ∧ Q (.bl b) H
theorem call_isE2 {X : Cx} {a D : Addr} {oe : Obj} {d : Option Addr} {pn : List (Addr × Obj)} (C : IsC X.K D) (hz : Zc (.ref D) d oe) (hf : ∃ vs, oe.data = .fields vs) : CallR (X.suite a ((a, oe) :: pn)) (.builtin "isinstance") (rIsE2 X.K D a d) := by
  intro pins s σ H xs us Q I r h
  obtain ⟨c, cv, b, rfl, hcv, e, hd, q⟩ := h
  cases r with
  | cons rx rr =>
    cases rr with
    | cons rt rr =>
      cases rr
      cases rx
      have ec := hcv _ rt
      subst ec
      obtain ⟨hget, _⟩ := I.pin (a, oe) (List.mem_append.mpr (.inl List.mem_cons_self))
      obtain ⟨vs, hv⟩ := hf
      have J : ∃ od, PySem.W.InstAt s.heap a oe D od := by
        obtain ⟨oc, od, oda, osl⟩ := oe
        obtain ⟨h1, h2⟩ := hz
        dsimp only at h1 h2 hv
        subst h1 h2 hv
        cases od with
        | none => exact ⟨none, hget, rfl, rfl, trivial⟩
        | some dd =>
          obtain ⟨fs, hx⟩ := hd dd rfl
          have hx : ObjOk X.prog X.w H s.heap dd (.xd fs) := I.hok dd _ hx
          obtain ⟨mA, hns, hr⟩ := hx
          obtain ⟨od, ho, hl⟩ := lookIn_ns hns
          exact ⟨some od, hget, rfl, rfl, ho⟩
      obtain ⟨od, J⟩ := J
      exact PySem.W.kia_one (PySem.W.kitx_exc C.cl C.ga C.gg C.ex C.ca C.sp C.tk C.ob) I.kIn J e (fun z => nomatch z) fun tk => ⟨.bl b, H, I.kept (t' := tk) fun _ _ z => z, rfl, q⟩
section
variable {X : Cx} {W : WX} {a : Addr} {oe : Obj} {d : Option Addr} {pn : List (Addr × Obj)} {n e : Str} {i : Nat} {pos p p1 p2 : Pos}
theorem slot_adr {K : PySem.W.Frag} {m : List Addr} {H : Hp} {τ : Sl} {σ : L2.St} {a' : Addr} {d' : Option Addr} {f : Str} {x : D} (hL : SL K m H τ σ) (h : τ[i]? = some (some (.adr a' d' f x))) : σ[i]? = some (some (.ref a')) ∧ ∀ dd, d' = some dd → ∃ v, H dd = some (.xd [(f, v)]) ∧ RD K m H x v := by
  obtain ⟨v, h1, h2⟩ := hL.get i _ h
  cases h2 with
  | adr => exact ⟨h1, fun dd z => by cases z⟩
  | adrF h r => exact ⟨h1, fun dd z => by cases z; exact ⟨_, h, r⟩⟩
/-- isinstance(e, c) -/
theorem ex_isE {c : Expr} {cv : Value} {v : V} {b : Bool} (C : IsC X.K (He.ga X.K n)) (hz : Zc (.ref (He.ga X.K n)) d oe) (hf : ∃ vs, oe.data = .fields vs) (hN : X.N[i]? = some e) (hv : Vis X.env.scope e) (hcd : PE (X.suite a ((a, oe) :: pn)) c (tC v)) (hcv : ∀ u, RelV v u → u = cv) (hk : PySem.W.kitOne X.K (.ref (He.ga X.K n)) cv = some b)
    (hg : Gl X "isinstance") (hm : X.mg "isinstance" = none) (hd1 : (e == ("__debug__" : Str)) = false := by decide) (hd2 : (e == ("__classdict__" : Str)) = false := by decide)
    (he : starEach [.Name e p1, c] X.env = (false, eval (.Name e p1) X.env) :: starEach [c] X.env := by rfl) (he2 : starEach [c] X.env = (false, eval c X.env) :: starEach [] X.env := by rfl) (hpl : (backTo pos (starEach [c] X.env)).any (·.1) = false := by rfl) :
    Ex (X.suite a ((a, oe) :: pn)) W (.Call (.Name "isinstance" p) [.Name e p1, c] [] pos) (eIs i a d (some b)) := by
  refine ⟨fun m τ st σ H Q hL hS hP pins s I => ?_⟩
  refine (pe_callB (X := X.suite a ((a, oe) :: pn)) (call_isE2 C hz hf) hg hm PyProof.Rows.boot_isinstance (pa_cons (pe_var (X := X.suite a ((a, oe) :: pn)) hN hv hd1 hd2) (pa_cons hcd pa_nil he2) he) (by decide) (by decide) he hpl).run pins s σ H Q I ?_
  unfold eIs at hP
  split at hP
  · rename_i a' d' f x hi
    split at hP
    · rename_i hh
      obtain ⟨rfl, rfl⟩ := hh
      obtain ⟨h1, h2⟩ := slot_adr hL hi
      refine ⟨_, h1, ?_⟩
      refine ⟨v, cv, b, rfl, hcv, hk, fun dd z => ?_, hP.now hS (.bl b)⟩
      obtain ⟨u, hu, _⟩ := h2 dd z
      exact ⟨_, hu⟩
    · exact hP.elim
  · exact hP.elim
/-- e.f -/
theorem ex_fl {f : Str} (C : IsC X.K (He.ga X.K n)) (hz : Zc (.ref (He.ga X.K n)) d oe) (hf : ∃ vs, oe.data = .fields vs) (hd : PySem.W.hasDictIn X.K (He.ga X.K n) = true) (hno : PySem.W.findIn X.K (.ref (He.ga X.K n)) f = some none) (hN : X.N[i]? = some e) (hv : Vis X.env.scope e)
    (hd1 : (e == ("__debug__" : Str)) = false := by decide) (hd2 : (e == ("__classdict__" : Str)) = false := by decide) (hb : attributeBase (.Name e p1) f X.env (eval (.Name e p1) X.env) = eval (.Name e p1) X.env := by rfl) :
    Ex (X.suite a ((a, oe) :: pn)) W (.Attribute (.Name e p1) f pos) (eFl i a d f) := by
  refine ⟨fun m τ st σ H Q hL hS hP pins s I => ?_⟩
  refine (pe_xf (te := tVar i) ⟨C.ga, C.gg, C.ex, hd⟩ hno hz hf (pe_var (X := X.suite a ((a, oe) :: pn)) hN hv hd1 hd2) hb).run pins s σ H Q I ?_
  unfold eFl at hP
  split at hP
  · rename_i a' d' g x hi
    split at hP
    · rename_i hh
      obtain ⟨⟨rfl, rfl⟩, rfl⟩ := hh
      obtain ⟨h1, h2⟩ := slot_adr hL hi
      obtain ⟨u, hu, ru⟩ := h2 d' rfl
      refine ⟨_, h1, rfl, rfl, d', _, u, rfl, hu, by simp [List.lookup], hP.now hS ru⟩
    · exact hP.elim
  · exact hP.elim
end
end HM

/-! HM, own exceptions: try .. except X as e. -/
namespace HM
open PySem PySem.Spec PyProof.Rows L2
/-! ### what does not lean on the exception's address -/
def IndE {α : Type} (i : Nat) (x : Xc) (f : Addr → Option Addr → EM α) : Prop := ∀ (a : Addr) (d : Option Addr), d.isSome = (dOf x).isSome → ∀ (τ : Sl) (s : Store), f a d (τ.set i (some (xcD a d x))) s = f 0 (dOf x) (τ.set i (some (xcD 0 (dOf x) x))) s
/-- the same end, but for the slot -/
def SRr (i : Nat) (X0 Xa : D) (r r' : SR) : Prop := match r with
  | .rt v s => r' = .rt v s
  | .nx τ s => ∃ τ0 : Sl, τ = τ0.set i (some X0) ∧ r' = .nx (τ0.set i (some Xa)) s
  | _ => True
def IndS (i : Nat) (x : Xc) (h : Addr → Option Addr → SM) : Prop := ∀ (a : Addr) (d : Option Addr), d.isSome = (dOf x).isSome → ∀ (τ : Sl) (s : Store), SRr i (xcD 0 (dOf x) x) (xcD a d x) (h 0 (dOf x) (τ.set i (some (xcD 0 (dOf x) x))) s) (h a d (τ.set i (some (xcD a d x))) s)
section
variable {i j : Nat} {x : Xc} {α β : Type}
theorem ind_c {v : D} : IndE i x (fun _ _ => eC v) := fun _ _ _ _ _ => rfl
theorem ind_v (h : i ≠ j) : IndE i x (fun _ _ => eVar j) := fun a d _ τ s => by
  show eVar j _ s = eVar j _ s
  unfold eVar
  rw [List.getElem?_set_ne h, List.getElem?_set_ne h]
theorem ind_is {b : Option Bool} : IndE i x (fun a d => eIs i a d b) := fun a d hd τ s => by
  show eIs i a d b _ s = eIs i 0 (dOf x) b _ s
  unfold eIs
  by_cases hi : i < τ.length
  · rw [List.getElem?_set_self hi, List.getElem?_set_self hi]
    obtain ⟨cls, fs⟩ := x
    match fs, hd with
    | [], hd =>
      cases d with
      | none =>
        show (if a = a ∧ (none : Option Addr) = none then _ else _) = (if (0 : Addr) = 0 ∧ (none : Option Addr) = none then _ else _)
        rw [if_pos ⟨rfl, rfl⟩, if_pos ⟨rfl, rfl⟩]
      | some d => cases hd
    | [(f, v)], hd =>
      show (if a = a ∧ d = d then _ else _) = (if (0 : Addr) = 0 ∧ dOf _ = dOf _ then _ else _)
      rw [if_pos ⟨rfl, rfl⟩, if_pos ⟨rfl, rfl⟩]
    | _ :: _ :: _, hd =>
      cases d with
      | none => cases hd
      | some d =>
        show (if a = a ∧ none = some d then _ else _) = (if (0 : Addr) = 0 ∧ none = some 0 then _ else _)
        rw [if_neg (fun z => by cases z.2), if_neg (fun z => by cases z.2)]
  · rw [List.getElem?_eq_none (by simpa using hi), List.getElem?_eq_none (by simpa using hi)]
theorem ind_fl {f : Str} : IndE i x (fun a d => eFl i a d f) := fun a d hd τ s => by
  show eFl i a d f _ s = eFl i 0 (dOf x) f _ s
  unfold eFl
  by_cases hi : i < τ.length
  · rw [List.getElem?_set_self hi, List.getElem?_set_self hi]
    obtain ⟨cls, fs⟩ := x
    match fs, hd with
    | [], hd => rfl
    | [(g, v)], hd =>
      cases d with
      | none => cases hd
      | some d =>
        show (if (a = a ∧ some d = some d) ∧ g = f then _ else _) = (if ((0 : Addr) = 0 ∧ some (0 : Addr) = some 0) ∧ g = f then _ else _)
        by_cases h : g = f
        · rw [if_pos ⟨⟨rfl, rfl⟩, h⟩, if_pos ⟨⟨rfl, rfl⟩, h⟩]
        · rw [if_neg fun z => h z.2, if_neg fun z => h z.2]
    | _ :: _ :: _, hd => rfl
  · rw [List.getElem?_eq_none (by simpa using hi), List.getElem?_eq_none (by simpa using hi)]
theorem ind_bind {f : Addr → Option Addr → EM α} {k : α → Store → ER β} (h : IndE i x f) : IndE i x (fun a d τ s => (f a d τ s).bind k) := fun a d hd τ s => by
  show (f a d _ s).bind k = (f 0 (dOf x) _ s).bind k
  rw [h a d hd τ s]
theorem ind_bind2 {f : Addr → Option Addr → EM α} {g : Addr → Option Addr → EM β} {γ : Type} {k : α → β → Store → ER γ} (h : IndE i x f) (h2 : IndE i x g) : IndE i x (fun a d τ s => (f a d τ s).bind fun y s1 => (g a d τ s1).bind fun z s2 => k y z s2) := fun a d hd τ s => by
  show (f a d _ s).bind _ = (f 0 (dOf x) _ s).bind _
  rw [h a d hd τ s]
  congr 1
  funext y s1
  rw [h2 a d hd τ s1]
theorem ind_bin {o : O2} {f g : Addr → Option Addr → EM D} (h : IndE i x f) (h2 : IndE i x g) : IndE i x (fun a d => eBin o (f a d) (g a d)) := ind_bind2 (k := o) h h2
theorem ind_aNil : IndE i x (fun _ _ => aNil) := fun _ _ _ _ _ => rfl
theorem ind_aCons {f : Addr → Option Addr → EM D} {g : Addr → Option Addr → EM (List D)} (h : IndE i x f) (h2 : IndE i x g) : IndE i x (fun a d => aCons (f a d) (g a d)) := ind_bind2 (k := fun y z s => .ok (y :: z) s) h h2
theorem ind_tup {f : Addr → Option Addr → EM (List D)} (h : IndE i x f) : IndE i x (fun a d => eTup (f a d)) := ind_bind h
theorem ind_call {k : Nat} {m : FM} {f : Addr → Option Addr → EM (List D)} (h : IndE i x f) : IndE i x (fun a d => eCall k m (f a d)) := fun a d hd τ s => by
  show (f a d _ s).bind _ = (f 0 (dOf x) _ s).bind _
  rw [h a d hd τ s]
theorem ind_cb {m : FM} {f : Addr → Option Addr → EM (List D)} (h : IndE i x f) : IndE i x (fun a d => eCB m (f a d)) := ind_bind (k := m) h
theorem ind_and {f g : Addr → Option Addr → EM D} (h : IndE i x f) (h2 : IndE i x g) : IndE i x (fun a d => eAnd (f a d) (g a d)) := fun a d hd τ s => by
  show (f a d _ s).bind _ = (f 0 (dOf x) _ s).bind _
  rw [h a d hd τ s]
  congr 1
  funext y s1
  rw [h2 a d hd τ s1]
theorem ind_or {f g : Addr → Option Addr → EM D} (h : IndE i x f) (h2 : IndE i x g) : IndE i x (fun a d => eOr (f a d) (g a d)) := fun a d hd τ s => by
  show (f a d _ s).bind _ = (f 0 (dOf x) _ s).bind _
  rw [h a d hd τ s]
  congr 1
  funext y s1
  rw [h2 a d hd τ s1]
theorem ind_not {f : Addr → Option Addr → EM D} (h : IndE i x f) : IndE i x (fun a d => eNot (f a d)) := fun a d hd τ s => by
  show (f a d _ s).bind _ = (f 0 (dOf x) _ s).bind _
  rw [h a d hd τ s]
theorem ind_tVal {f : Addr → Option Addr → EM D} (h : IndE i x f) : IndE i x (fun a d => tVal (f a d)) := fun a d hd τ s => by
  show (f a d _ s).bind _ = (f 0 (dOf x) _ s).bind _
  rw [h a d hd τ s]
theorem ind_tBl {f : Addr → Option Addr → EM D} (h : IndE i x f) : IndE i x (fun a d => tBl (f a d)) := fun a d hd τ s => by
  show (f a d _ s).bind _ = (f 0 (dOf x) _ s).bind _
  rw [h a d hd τ s]
theorem ind_tNot {f : Addr → Option Addr → EM Bool} (h : IndE i x f) : IndE i x (fun a d => HM.tNot (f a d)) := fun a d hd τ s => by
  show (f a d _ s).bind _ = (f 0 (dOf x) _ s).bind _
  rw [h a d hd τ s]
theorem ind_tOr {f g : Addr → Option Addr → EM Bool} (h : IndE i x f) (h2 : IndE i x g) : IndE i x (fun a d => tOr (f a d) (g a d)) := fun a d hd τ s => by
  show (f a d _ s).bind _ = (f 0 (dOf x) _ s).bind _
  rw [h a d hd τ s]
  congr 1
  funext y s1
  rw [h2 a d hd τ s1]
theorem ind_tAnd {f g : Addr → Option Addr → EM Bool} (h : IndE i x f) (h2 : IndE i x g) : IndE i x (fun a d => tAnd (f a d) (g a d)) := fun a d hd τ s => by
  show (f a d _ s).bind _ = (f 0 (dOf x) _ s).bind _
  rw [h a d hd τ s]
  congr 1
  funext y s1
  rw [h2 a d hd τ s1]
theorem ind_eIf {t : Addr → Option Addr → EM Bool} {f g : Addr → Option Addr → EM D} (ht : IndE i x t) (h : IndE i x f) (h2 : IndE i x g) : IndE i x (fun a d => eIf (t a d) (f a d) (g a d)) := fun a d hd τ s => by
  show (t a d _ s).bind _ = (t 0 (dOf x) _ s).bind _
  rw [ht a d hd τ s]
  congr 1
  funext y s1
  rw [h a d hd τ s1, h2 a d hd τ s1]
/-! ### statements -/
theorem inds_ret {f : Addr → Option Addr → EM D} (h : IndE i x f) : IndS i x (fun a d => sRet (f a d)) := fun a d hd τ s => by
  show SRr i _ _ (bindE (f 0 (dOf x) _ s) _ fun d s1 => .rt d s1) (bindE (f a d _ s) _ fun d s1 => .rt d s1)
  rw [h a d hd τ s]
  cases f 0 (dOf x) (τ.set i (some (xcD 0 (dOf x) x))) s <;> first | exact rfl | exact True.intro
theorem inds_nil : IndS i x (fun _ _ => sNil) := fun a d hd τ s => ⟨τ, rfl, rfl⟩
theorem inds_if {t : Addr → Option Addr → EM Bool} {p q : Addr → Option Addr → SM} (ht : IndE i x t) (hp : IndS i x p) (hq : IndS i x q) : IndS i x (fun a d => sIf (t a d) (p a d) (q a d)) := fun a d hd τ s => by
  show SRr i _ _ (bindE (t 0 (dOf x) _ s) _ fun b s1 => if b then p 0 (dOf x) _ s1 else q 0 (dOf x) _ s1) (bindE (t a d _ s) _ fun b s1 => if b then p a d _ s1 else q a d _ s1)
  rw [ht a d hd τ s]
  cases t 0 (dOf x) (τ.set i (some (xcD 0 (dOf x) x))) s with
  | ok b s1 =>
    cases b
    · exact hq a d hd τ s1
    · exact hp a d hd τ s1
  | exc _ _ => exact True.intro
  | bad => exact True.intro
theorem inds_seq {p q : Addr → Option Addr → SM} (hp : IndS i x p) (hq : IndS i x q) : IndS i x (fun a d => sSeq (p a d) (q a d)) := fun a d hd τ s => by
  have h := hp a d hd τ s
  show SRr i _ _ (sSeq (p 0 (dOf x)) (q 0 (dOf x)) _ s) (sSeq (p a d) (q a d) _ s)
  unfold sSeq
  revert h
  generalize p 0 (dOf x) (τ.set i (some (xcD 0 (dOf x) x))) s = r
  generalize p a d (τ.set i (some (xcD a d x))) s = r'
  intro h
  cases r with
  | nx τ1 s1 =>
    obtain ⟨τ0, rfl, rfl⟩ := h
    exact hq a d hd τ0 s1
  | rt v s1 =>
    cases (show r' = .rt v s1 from h)
    exact rfl
  | _ => exact True.intro
theorem inds_set {f : Addr → Option Addr → EM D} (hij : i ≠ j) (h : IndE i x f) : IndS i x (fun a d => sSet j (f a d)) := fun a d hd τ s => by
  show SRr i _ _ (bindE (f 0 (dOf x) _ s) _ fun v s1 => .nx ((τ.set i _).set j (some v)) s1) (bindE (f a d _ s) _ fun v s1 => .nx ((τ.set i _).set j (some v)) s1)
  rw [h a d hd τ s]
  cases f 0 (dOf x) (τ.set i (some (xcD 0 (dOf x) x))) s with
  | ok v s1 =>
    refine ⟨τ.set j (some v), ?_, ?_⟩
    · exact List.set_comm _ _ hij
    · show SR.nx ((τ.set i _).set j _) s1 = SR.nx _ s1
      rw [List.set_comm _ _ hij]
  | exc _ _ => exact True.intro
  | bad => exact True.intro
end
/-! ### the statement -/
def ClsN (x : D) (c : Str) : Prop := ∃ a d v, x = .adr a d c v
def isT (tab : Str → Str → Option Bool) (x : D) (y : Str) : Option Bool := match x with
  | .adr _ _ n _ => tab n y
  | _ => none
theorem isT_of {tab : Str → Str → Option Bool} {x : D} {c y : Str} (h : ClsN x c) : isT tab x y = tab c y := by
  obtain ⟨a, d, v, rfl⟩ := h
  rfl
def mtO (tab : Str → Bool) : D → Option Bool
  | .adr _ _ n _ => if tab n then some true else none
  | _ => none
def sTryAs (i : Nat) (f : SM) (mt : D → Option Bool) (h : Xc → Addr → Option Addr → SM) : SM := fun τ st => match f τ st with
  | .exc x τ1 s1 => match mt x.cls with
    | some true => match h x 0 (dOf x) (τ1.set i (some (xcD 0 (dOf x) x))) s1 with
      | .rt d s => .rt d s
      | .nx τ2 s => .nx (τ2.set i none) s
      | _ => .bad
    | _ => .bad
  | r => r
theorem SL.unset {K : PySem.W.Frag} {m : List Addr} {H : Hp} {τ : Sl} {σ : L2.St} (s : SL K m H τ σ) (i : Nat) : SL K m H (τ.set i none) (σ.set i none) := by
  refine ⟨by simpa using s.len, fun j e h => ?_⟩
  by_cases hj : i = j
  · subst hj
    by_cases hl : i < τ.length
    · rw [List.getElem?_set_self hl] at h
      cases h
    · rw [List.getElem?_eq_none (by simpa using hl)] at h
      cases h
  · rw [List.getElem?_set_ne hj] at h
    rw [List.getElem?_set_ne hj]
    exact s.get j e h
section
variable {X : Cx} {W : WX} {pos pos' np : Pos} {x n : Str} {i : Nat} {body suite : List Stmt} {b₀ : Stmt} {f : SM} {h : Xc → Addr → Option Addr → SM} {tab : Str → Bool} {y : Str}
theorem sx_tryAs (hs : X.stack = X.env :: X.outer) (hf : X.env.frame = some X.env.locals) (hN : X.N.Nodup) (hi : X.N[i]? = some n) (hln : X.env.kindOf n = some .local) (hg : Gl X y) (hgl : X.mg y = some (.ref (He.ga X.K y))) (tk : Takes X W)
    (hmt : ∀ c, tab c = true → PySem.W.exmOne X.K (.ref (He.ga X.K c)) (.ref (He.ga X.K y)) = some true)
    (hb : ∀ (W : WX) (pn : List (Addr × Obj)) (xe : Value → Shared → Prop), Takes (X.tr pn xe) W → PassesOwn (model X.prog X.w) X.A X.env xe → Sxs (X.tr pn xe) W body f)
    (hsu : ∀ (a : Addr) (oe : Obj) (d : Option Addr) (pn : List (Addr × Obj)) (xc : Xc) (c : Str), ClsN xc.cls c → tab c = true → Zc (.ref (He.ga X.K c)) d oe → (∃ vs, oe.data = .fields vs) → Sxs (X.suite a ((a, oe) :: pn)) (fun _ _ _ _ => False) (b₀ :: suite) (h xc a d))
    (hind : ∀ xc, IndS i xc (h xc)) (hy : (y == ("__debug__" : Str)) = false := by decide) :
    Sx X W (.Try body [.ExceptHandler (some (.Name y np)) (some n) (b₀ :: suite) pos'] [] [] pos) (sTryAs i f (mtO tab) h) := by
  refine ⟨fun m τ s σ H D hL hS hP pins sh I => ?_⟩
  refine (ps_try_as (tb := fun W => fun D σ H => ∀ (pn : List (Addr × Obj)) (xe : Value → Shared → Prop), Takes (X.tr pn xe) W → PassesOwn (model X.prog X.w) X.A X.env xe → wSs (X.tr pn xe) body D σ H)
    (ts := fun a cls d => fun D σ H => ∀ (oe : Obj) (pn : List (Addr × Obj)), Zc cls d oe → (∃ vs, oe.data = .fields vs) → wSs (X.suite a ((a, oe) :: pn)) (b₀ :: suite) D σ H) hs hf hN hi hln ⟨hg, hy, .inl hgl⟩ tk (fun W pn xe t1 t2 => ⟨fun pins s σ H D I h => h pn xe t1 t2 pins s I⟩) (fun a oe cls d pn z1 z2 => ⟨fun pins s σ H D I h => h oe pn z1 z2 pins s I⟩)).run pins sh σ H D I ?_
  intro pn xe t1 t2
  refine (hb _ pn xe t1 t2).run m τ s σ H D hL hS ?_
  unfold sTryAs at hP
  cases hq : f τ s with
  | exc z τ1 s1 =>
    rw [hq] at hP
    intro m1 H1 σ1 cls d e1 hS1 hL1 hX
    have hP : Ps X.kw W m H (match mtO tab z.cls with
      | some true => match h z 0 (dOf z) (τ1.set i (some (xcD 0 (dOf z) z))) s1 with
        | .rt d s => .rt d s
        | .nx τ2 s => .nx (τ2.set i none) s
        | _ => .bad
      | _ => .bad) D := hP
    obtain ⟨c, hc, htab⟩ : ∃ c, (∃ a d v, z.cls = .adr a d c v) ∧ tab c = true := by
      unfold mtO at hP
      split at hP
      · rename_i e
        split at e
        · rename_i a d c v ec
          split at e
          · rename_i ht
            exact ⟨c, ⟨a, d, v, ec⟩, ht⟩
          · cases e
        · cases e
      · exact hP.elim
    obtain ⟨a9, d9, v9, hc⟩ := hc
    have hm : mtO tab z.cls = some true := by
      rw [hc]
      show (if tab c = true then some true else none) = some true
      rw [if_pos htab]
    rw [hm] at hP
    unfold XR at hX
    rw [hc] at hX
    obtain ⟨rfl, hX⟩ := hX
    refine ⟨true, hmt c htab, fun _ a na oe pn hz hfd => ?_, fun q => by cases q⟩
    have hcond : d.isSome = (dOf z).isSome := by
      rcases hX with ⟨h1, h2⟩ | ⟨g, y, da, v, h1, h2, _⟩
      · rw [h2]
        unfold dOf
        rw [h1]
      · rw [h2]
        unfold dOf
        rw [h1]
        rfl
    have rd : RD X.K m1 H1 (xcD a d z) (.ref a) := by
      rcases hX with ⟨h1, h2⟩ | ⟨g, y, da, v, h1, h2, h3, h4⟩
      · unfold xcD
        rw [h1]
        exact .adr a _ _
      · unfold xcD
        rw [h1, h2]
        exact .adrF h3 h4
    have hI := hind z a d hcond τ1 s1
    refine (hsu a oe d pn z c ⟨a9, d9, v9, hc⟩ htab hz hfd).run m1 _ s1 _ H1 _ (hL1.set i rd) hS1 ?_
    revert hI hP
    generalize h z 0 (dOf z) (τ1.set i (some (xcD 0 (dOf z) z))) s1 = r
    generalize h z a d (τ1.set i (some (xcD a d z))) s1 = r'
    intro hP hI
    cases r with
    | rt v s2 =>
      cases (show r' = .rt v s2 from hI)
      exact fun m' H' u e' q1 q2 => hP m' H' u (e1.trans e') q1 q2
    | nx τ2 s2 =>
      obtain ⟨τ0, rfl, rfl⟩ := hI
      intro m' H' σ' e' q1 q2
      refine hP m' H' (σ'.set i none) (e1.trans e') q1 ?_
      have := q2.unset i
      simpa only [List.set_set] using this
    | bk _ _ => exact hP.elim
    | ct _ _ => exact hP.elim
    | exc _ _ _ => exact hP.elim
    | bad => exact hP.elim
  | nx _ _ =>
    rw [hq] at hP
    exact hP
  | bk _ _ =>
    rw [hq] at hP
    exact hP
  | ct _ _ =>
    rw [hq] at hP
    exact hP
  | rt _ _ =>
    rw [hq] at hP
    exact hP
  | bad =>
    rw [hq] at hP
    exact hP
end
section
variable {X : Cx} {W : WX} {a : Addr} {oe : Obj} {d : Option Addr} {pn : List (Addr × Obj)} {n e : Str} {i : Nat} {pos p p1 p2 : Pos}
theorem ex_isBad : ∀ {ex : Expr}, Ex X W ex (eIs i a d none) := ⟨fun m τ st σ H Q hL hS hP pins s I => by
  unfold eIs at hP
  split at hP
  · split at hP <;> exact hP.elim
  · exact hP.elim⟩
/-- isinstance(e, y), y a class of the module's -/
theorem ex_isX {y : Str} {o : Option Bool} (C : IsC X.K (He.ga X.K n)) (F : ∀ b, o = some b → Isx X.K X.mg n y b) (hz : Zc (.ref (He.ga X.K n)) d oe) (hf : ∃ vs, oe.data = .fields vs) (hN : X.N[i]? = some e) (hv : Vis X.env.scope e) (hgy : Gl X y)
    (hg : Gl X "isinstance") (hm : X.mg "isinstance" = none) (hy : (y == ("__debug__" : Str)) = false := by decide) (hd1 : (e == ("__debug__" : Str)) = false := by decide) (hd2 : (e == ("__classdict__" : Str)) = false := by decide)
    (he : starEach [.Name e p1, .Name y p2] X.env = (false, eval (.Name e p1) X.env) :: starEach [.Name y p2] X.env := by rfl) (he2 : starEach [.Name y p2] X.env = (false, eval (.Name y p2) X.env) :: starEach [] X.env := by rfl) (hpl : (backTo pos (starEach [.Name y p2] X.env)).any (·.1) = false := by rfl) :
    Ex (X.suite a ((a, oe) :: pn)) W (.Call (.Name "isinstance" p) [.Name e p1, .Name y p2] [] pos) (eIs i a d o) := by
  cases o with
  | none => exact ex_isBad
  | some b =>
    have F := F b rfl
    exact ex_isE (cv := .ref (He.ga X.K y)) (v := .ref (He.ga X.K y)) C hz hf hN hv (pe_glob (X := X.suite a ((a, oe) :: pn)) hgy F.glob (show RelV (.ref _) (.ref _) from rfl) hy) (fun u r => r) F.is hg hm hd1 hd2 he he2 hpl
/-- isinstance(e, T), T a built-in class -/
theorem ex_isB {T : String} {y : Str} {o : Option Bool} (C : IsC X.K (He.ga X.K n)) (F : ∀ b, o = some b → Isb X.K n T b) (hz : Zc (.ref (He.ga X.K n)) d oe) (hf : ∃ vs, oe.data = .fields vs) (hN : X.N[i]? = some e) (hv : Vis X.env.scope e) (hgy : Gl X y) (hmy : X.mg y = none) (hby : bootBuiltins y = some (.type T))
    (hg : Gl X "isinstance") (hm : X.mg "isinstance" = none) (hny : y ≠ "__name__" := by decide) (hy : (y == ("__debug__" : Str)) = false := by decide) (hd1 : (e == ("__debug__" : Str)) = false := by decide) (hd2 : (e == ("__classdict__" : Str)) = false := by decide)
    (he : starEach [.Name e p1, .Name y p2] X.env = (false, eval (.Name e p1) X.env) :: starEach [.Name y p2] X.env := by rfl) (he2 : starEach [.Name y p2] X.env = (false, eval (.Name y p2) X.env) :: starEach [] X.env := by rfl) (hpl : (backTo pos (starEach [.Name y p2] X.env)).any (·.1) = false := by rfl) :
    Ex (X.suite a ((a, oe) :: pn)) W (.Call (.Name "isinstance" p) [.Name e p1, .Name y p2] [] pos) (eIs i a d o) := by
  cases o with
  | none => exact ex_isBad
  | some b =>
    have F := F b rfl
    exact ex_isE (cv := .type T) (v := .ty T) C hz hf hN hv (pe_bltn (X := X.suite a ((a, oe) :: pn)) hgy hmy hby (show RelV (.ty T) (.type T) from rfl) hny hy) (fun u r => r) F.is hg hm hd1 hd2 he he2 hpl
def isF (fl : Str → Option Str) (x : D) (f : Str) : Bool := match x with
  | .adr _ _ n _ => decide (fl n = some f)
  | _ => false
theorem isF_of {fl : Str → Option Str} {x : D} {c f : Str} (h : ClsN x c) : isF fl x f = decide (fl c = some f) := by
  obtain ⟨a, d, v, rfl⟩ := h
  rfl
def eFc (b : Bool) (i : Nat) (a : Addr) (d : Option Addr) (f : Str) : EM D := fun τ st => if b then eFl i a d f τ st else .bad
theorem ind_fc {b : Bool} {x : Xc} {f : Str} : IndE i x (fun a d => eFc b i a d f) := fun a d hd τ s => by
  cases b
  · rfl
  · exact ind_fl a d hd τ s
/-- e.f, whatever its class is -/
theorem ex_flX {f : Str} {fl : Str → Option Str} (O : ∀ g, fl n = some g → Own X.prog X.K X.mg n (some g)) (C : IsC X.K (He.ga X.K n)) (hz : Zc (.ref (He.ga X.K n)) d oe) (hf : ∃ vs, oe.data = .fields vs) (hN : X.N[i]? = some e) (hv : Vis X.env.scope e)
    (hd1 : (e == ("__debug__" : Str)) = false := by decide) (hd2 : (e == ("__classdict__" : Str)) = false := by decide) (hb : attributeBase (.Name e p1) f X.env (eval (.Name e p1) X.env) = eval (.Name e p1) X.env := by rfl) :
    Ex (X.suite a ((a, oe) :: pn)) W (.Attribute (.Name e p1) f pos) (eFc (decide (fl n = some f)) i a d f) := by
  by_cases h : fl n = some f
  · obtain ⟨fI, T⟩ := (O f h).txt
    have := ex_fl (W := W) (a := a) (pn := pn) (pos := pos) (p1 := p1) C hz hf T.hdC (T.noN f rfl).1 hN hv hd1 hd2 hb
    refine ⟨fun m τ st σ H Q hL hS hP pins s I => this.run m τ st σ H Q hL hS ?_ pins s I⟩
    unfold eFc at hP
    rw [if_pos (decide_eq_true h)] at hP
    exact hP
  · refine ⟨fun m τ st σ H Q hL hS hP pins s I => ?_⟩
    unfold eFc at hP
    rw [if_neg (by simpa using h)] at hP
    exact hP.elim
end
/-! ### tables -/
def lkX (L : List (Str × Str × Bool)) (c y : Str) : Option Bool := (L.find? fun r => decide (r.1 = c) && decide (r.2.1 = y)).map (·.2.2)
def lkB (L : List (Str × String × Bool)) (T : String) (c _y : Str) : Option Bool := (L.find? fun r => decide (r.1 = c) && decide (r.2.1 = T)).map (·.2.2)
def flO (L : List (Str × Option Str)) (c : Str) : Option Str := match L.find? fun r => decide (r.1 = c) with
  | some r => r.2
  | none => none
def tbM (L : List (Str × Str)) (y c : Str) : Bool := decide ((c, y) ∈ L)
section
variable {P : Program} {K : PySem.W.Frag} {mg : Str → Option Value} {c y : Str}
theorem lkX_ok {L : List (Str × Str × Bool)} (h : ∀ r ∈ L, Isx K mg r.1 r.2.1 r.2.2) : ∀ b, lkX L c y = some b → Isx K mg c y b := fun b e => by
  unfold lkX at e
  obtain ⟨r, hr, rfl⟩ := Option.map_eq_some_iff.mp e
  have h1 := List.find?_some hr
  rw [Bool.and_eq_true, decide_eq_true_eq, decide_eq_true_eq] at h1
  have := h r (List.mem_of_find?_eq_some hr)
  rw [h1.1, h1.2] at this
  exact this
theorem lkB_ok {L : List (Str × String × Bool)} {T : String} (h : ∀ r ∈ L, Isb K r.1 r.2.1 r.2.2) : ∀ b, lkB L T c y = some b → Isb K c T b := fun b e => by
  unfold lkB at e
  obtain ⟨r, hr, rfl⟩ := Option.map_eq_some_iff.mp e
  have h1 := List.find?_some hr
  rw [Bool.and_eq_true, decide_eq_true_eq, decide_eq_true_eq] at h1
  have := h r (List.mem_of_find?_eq_some hr)
  rw [h1.1, h1.2] at this
  exact this
theorem flO_ok {L : List (Str × Option Str)} (h : ∀ r ∈ L, Own P K mg r.1 r.2) : ∀ g, flO L c = some g → Own P K mg c (some g) := fun g e => by
  unfold flO at e
  split at e
  · rename_i r hr
    have h1 := List.find?_some hr
    rw [decide_eq_true_eq] at h1
    have := h r (List.mem_of_find?_eq_some hr)
    rw [h1, e] at this
    exact this
  · cases e
theorem tbM_ok {L : List (Str × Str)} (h : ∀ r ∈ L, Exm K mg r.1 r.2) : ∀ c, tbM L y c = true → PySem.W.exmOne K (.ref (He.ga K c)) (.ref (He.ga K y)) = some true := fun c e => (h (c, y) (of_decide_eq_true e)).is
theorem tbM_is {L : List (Str × Str)} (h : ∀ r ∈ L, Exm K mg r.1 r.2) (e : tbM L y c = true) : IsC K (He.ga K c) := (h (c, y) (of_decide_eq_true e)).isc
theorem aln {α : Type} {p : α → Prop} : ∀ r ∈ ([] : List α), p r := fun _ h => nomatch h
theorem alc {α : Type} {p : α → Prop} {a : α} {l : List α} (h : p a) (t : ∀ r ∈ l, p r) : ∀ r ∈ a :: l, p r := fun r hr => by
  rcases List.mem_cons.mp hr with rfl | q
  · exact h
  · exact t r q
theorem ex_isT {X : Cx} {W : WX} {ex : Expr} {i : Nat} {a : Addr} {d : Option Addr} {tab : Str → Str → Option Bool} {x : D} (h : ClsN x c) (e : Ex X W ex (eIs i a d (tab c y))) : Ex X W ex (eIs i a d (isT tab x y)) := by
  rw [isT_of h]
  exact e
theorem ex_fT {X : Cx} {W : WX} {ex : Expr} {i : Nat} {a : Addr} {d : Option Addr} {fl : Str → Option Str} {x : D} {f : Str} (h : ClsN x c) (e : Ex X W ex (eFc (decide (fl c = some f)) i a d f)) : Ex X W ex (eFc (isF fl x f) i a d f) := by
  rw [isF_of h]
  exact e
end
end HM

/-! HM, weakest preconditions with exceptions. -/
namespace HM
def WX {α : Type} (r : ER α) (Q : α → Store → Prop) (E : Xc → Store → Prop) : Prop := match r with
  | .ok a s => Q a s
  | .exc x s => E x s
  | .bad => False
def WSX (r : SR) (N : Sl → Store → Prop) (R : D → Store → Prop) (E : Xc → Store → Prop) : Prop := match r with
  | .nx τ s => N τ s
  | .rt d s => R d s
  | .exc x _ s => E x s
  | _ => False
section
variable {α β : Type} {r : ER α} {Q Q' : α → Store → Prop} {E E' : Xc → Store → Prop} {N N' : Sl → Store → Prop} {R : D → Store → Prop}
theorem W.x (h : W r Q) : WX r Q E := by
  cases r with
  | ok a s => exact h
  | _ => exact h.elim
theorem WS.x {r : SR} (h : WS r N R (fun _ _ => False) (fun _ _ => False)) : WSX r N R E := by
  cases r with
  | nx _ _ => exact h
  | rt _ _ => exact h
  | _ => exact h.elim
theorem WX.mono (h : WX r Q E) (i : ∀ a s, Q a s → Q' a s) (j : ∀ x s, E x s → E' x s) : WX r Q' E' := by
  cases r with
  | ok a s => exact i _ _ h
  | exc x s => exact j _ _ h
  | bad => exact h
theorem WX.bind {k : α → Store → ER β} {Q : β → Store → Prop} (h : W r fun a s => WX (k a s) Q E) : WX (r.bind k) Q E := by
  cases r with
  | ok a s => exact h
  | _ => exact h.elim
theorem WX.cases (h : WX r Q E) : (∃ a s, r = .ok a s ∧ Q a s) ∨ ∃ x s, r = .exc x s ∧ E x s := by
  cases r with
  | ok a s => exact .inl ⟨a, s, rfl, h⟩
  | exc x s => exact .inr ⟨x, s, rfl, h⟩
  | bad => exact h.elim
theorem WX_fin {s : SR} {Q : D → Store → Prop} : WX s.fin Q E = WSX s (fun _ st => Q .non st) Q E := by cases s <;> rfl
theorem wsx_cons {u w : SM} {τ : Sl} {st : Store} (h : WSX (u τ st) N' R E) (k : ∀ τ s, N' τ s → WSX (w τ s) N R E) : WSX (sSeq u w τ st) N R E := by
  unfold sSeq
  revert h
  generalize u τ st = r
  intro h
  cases r with
  | nx τ s => exact k τ s h
  | rt d s => exact h
  | exc x τ s => exact h
  | bk _ _ => exact h.elim
  | ct _ _ => exact h.elim
  | bad => exact h.elim
theorem wsx_if {g : EM Bool} {u v : SM} {τ : Sl} {st : Store} {b : Bool} {s : Store} (h : g τ st = .ok b s) (k1 : b = true → WSX (u τ s) N R E) (k2 : b = false → WSX (v τ s) N R E) : WSX (sIf g u v τ st) N R E := by
  unfold sIf
  rw [h, bindE_ok]
  cases b with
  | true => exact k1 rfl
  | false => exact k2 rfl
theorem wsx_expr {f : EM D} {τ : Sl} {st : Store} (h : WX (f τ st) (fun _ s => N τ s) E) : WSX (sExpr f τ st) N R E := by
  unfold sExpr
  revert h
  generalize f τ st = r
  intro h
  cases r with
  | ok d s => exact h
  | exc x s => exact h
  | bad => exact h.elim
theorem wsx_set {i : Nat} {f : EM D} {τ : Sl} {st : Store} (h : WX (f τ st) (fun d s => N (τ.set i (some d)) s) E) : WSX (sSet i f τ st) N R E := by
  unfold sSet
  revert h
  generalize f τ st = r
  intro h
  cases r with
  | ok d s => exact h
  | exc x s => exact h
  | bad => exact h.elim
theorem wsx_ret {f : EM D} {τ : Sl} {st : Store} (h : WX (f τ st) R E) : WSX (sRet f τ st) N R E := by
  unfold sRet
  revert h
  generalize f τ st = r
  intro h
  cases r with
  | ok d s => exact h
  | exc x s => exact h
  | bad => exact h.elim
theorem wsx_for {q : Sq} {set : D → Sl → Option Sl} {u : SM} (P : Nat → Sl → Store → Prop) (hc : ∀ k τ st, P k τ st → q.chk st = true) :
    ∀ (xs : List D) (k : Nat) (τ : Sl) (st : Store), P k τ st →
    (∀ i d τ st, xs[i]? = some d → P (k + i) τ st → ∃ τ1, set d τ = some τ1 ∧ WSX (u τ1 st) (P (k + i + 1)) R E) →
    (∀ τ st, P (k + xs.length) τ st → N τ st) → WSX (forL q set u xs τ st) N R E
  | [], k, τ, st, h0, _, hN => by
    unfold forL
    rw [if_pos (hc _ _ _ h0)]
    exact hN _ _ h0
  | d :: ds, k, τ, st, h0, hs, hN => by
    obtain ⟨τ1, e1, h1⟩ := hs 0 d τ st rfl h0
    have rest := fun τ st h => wsx_for (q := q) (set := set) (u := u) P hc ds (k + 1) τ st h (fun i d τ st hi hp => by
      have := hs (i + 1) d τ st hi (by rwa [show k + (i + 1) = k + 1 + i by omega])
      rwa [show k + (i + 1) + 1 = k + 1 + i + 1 by omega] at this) (fun τ st h => hN τ st (by rw [List.length_cons]; rwa [show k + (ds.length + 1) = k + 1 + ds.length by omega]))
    unfold forL
    rw [if_pos (hc _ _ _ h0), e1]
    simp only
    generalize u τ1 st = r at h1
    cases r with
    | nx τ s => exact rest τ s h1
    | rt d s => exact h1
    | exc x τ s => exact h1
    | ct τ s => exact h1.elim
    | bk τ s => exact h1.elim
    | bad => exact h1.elim
theorem wsx_rng {q : Sq} {set : D → Sl → Option Sl} {u : SM} {τ : Sl} {st : Store} {n : Nat} (P : Nat → Sl → Store → Prop) (hc : ∀ k τ st, P k τ st → q.chk st = true) (h0 : P 0 τ st)
    (hs : ∀ i τ st, i < n → P i τ st → ∃ τ1, set (.int (i : Nat)) τ = some τ1 ∧ WSX (u τ1 st) (P (i + 1)) R E)
    (hN : ∀ τ st, P n τ st → N τ st) : WSX (forL q set u (rng 0 (n : Nat)) τ st) N R E :=
  wsx_for P hc (rng 0 (n : Nat)) 0 τ st h0 (fun i d τ st hi hp => by
    rw [Nat.zero_add] at hp ⊢
    obtain ⟨hin, rfl⟩ := rng_at hi
    exact hs i τ st hin hp) (fun τ st h => hN τ st (by rw [Nat.zero_add] at h; rwa [rng_len] at h))
theorem wsx_forD {fi : EM Sq} {set : D → Sl → Option Sl} {u : SM} {τ : Sl} {st : Store} (P : Sq → Store → Prop) (h : W (fi τ st) P) (k : ∀ q s, P q s → WSX (forL q set u q.items τ s) N R E) : WSX (sFor fi set u τ st) N R E := by
  obtain ⟨q, s, e, hp⟩ := h.ex
  unfold sFor
  rw [e]
  exact k q s hp
theorem wsx_while {g : EM Bool} {u : SM} (P : Nat → Sl → Store → Prop)
    (hs : ∀ n τ st, P n τ st → W (g τ st) fun b s1 => if b then WSX (u τ s1) (fun τ s => ∃ m, m < n ∧ P m τ s) R E else N τ s1) :
    ∀ (k n : Nat) (τ : Sl) (st : Store), n < k → P n τ st → WSX (whileN g u k τ st) N R E
  | 0, _, _, _, h, _ => absurd h (Nat.not_lt_zero _)
  | k + 1, n, τ, st, h, hp => by
    unfold whileN
    obtain ⟨b, s1, e, h1⟩ := (hs n τ st hp).ex
    rw [e, bindE_ok]
    cases b with
    | false => exact h1
    | true =>
      rw [if_pos rfl] at h1 ⊢
      generalize u τ s1 = r at h1
      cases r with
      | nx τ s =>
        obtain ⟨m, hm, hp2⟩ := h1
        exact wsx_while P hs k m τ s (by omega) hp2
      | rt d s => exact h1
      | exc x τ s => exact h1
      | ct τ s => exact h1.elim
      | bk τ s => exact h1.elim
      | bad => exact h1.elim
end
end HM

namespace K10
open PySem PySem.Spec PyProof.Rows L2 HM
def top (i : Nat) : Stmt := PySem.Challenge.pw_closedratios_k10_whole_machines.main.body.getD i (.Pass ⟨0, 0, 0, 0⟩)
abbrev s_stepped : Stmt := top 6
abbrev s_stepped_seen : Stmt := top 7
abbrev s_stepped_count : Stmt := top 8
abbrev s_first_values : Stmt := top 9
abbrev s_stepped_all : Stmt := top 10
abbrev s_kinds_of : Stmt := top 13
abbrev s_after : Stmt := top 14
abbrev s_state_of : Stmt := top 15
abbrev s_first_tables : Stmt := top 16
abbrev s_reached : Stmt := top 17
abbrev s_check_room : Stmt := top 19
abbrev s_machine : Stmt := top 20
abbrev s__law_begin : Stmt := top 22
abbrev s__law_draw : Stmt := top 23
abbrev s__law_pick : Stmt := top 24
abbrev s__law_rare : Stmt := top 25
abbrev s__law_shuffled : Stmt := top 26
abbrev s__law_is_int : Stmt := top 27
abbrev s__law_table : Stmt := top 28
abbrev s__law_state : Stmt := top 29
abbrev s__law_told : Stmt := top 30
abbrev s__law_machine : Stmt := top 31
abbrev s__law_subset : Stmt := top 32
abbrev s__law_wide_gauge : Stmt := top 33
abbrev s__law_sized_gauge : Stmt := top 34
abbrev s__law_edge_plan : Stmt := top 35
abbrev s__law_plan : Stmt := top 36
abbrev s__law_same : Stmt := top 37
abbrev s__law_is_refused : Stmt := top 38
abbrev s__law_least_tables : Stmt := top 39
abbrev s__law_values : Stmt := top 40
abbrev s__law_holds : Stmt := top 41
abbrev s_law : Stmt := top 42
def q_MOST_STATES : D := .int 40
def tO : List (PySem.Str × Option PySem.Str) := [("TooMany", some "part")]
def tX : List (PySem.Str × PySem.Str × Bool) := [("TooMany", "TooMany", true), ("TooMany", "ProgramError", false), ("TooMany", "Unlike", false)]
def tB : List (PySem.Str × String × Bool) := [("TooMany", "ValueError", true)]
def tM : List (PySem.Str × PySem.Str) := [("TooMany", "ReleaseError")]
def N_stepped : List PySem.Str := ["gauge", "value", "kind", "word"]
theorem sc_stepped : FnScope N_stepped ["gauge", "value", "kind"] (defScope s_stepped) := ⟨rfl, rfl, rfl, by decide +kernel, rfl, by decide +kernel, by decide +kernel⟩
def m_stepped (f_stepped_seen : FM) (f_stepped_count : FM) : SM := (sSeq (sSet 3 (eBin oIx (eVar 0) (eC (.int 0))))
    (sSeq (sIf (tBl (eBin oEq (eVar 3) (eC (.str [108, 97, 115, 116])))) (sRet (eBin oAdd (eVar 2) (eC (.int 1)))) sNil)
    (sSeq (sIf (tBl (eBin oEq (eVar 3) (eC (.str [109, 111, 115, 116])))) (sRet (eCB fMax2 (aCons (eVar 1) (aCons (eBin oAdd (eVar 2) (eC (.int 1))) aNil)))) sNil)
    (sSeq (sIf (tBl (eBin oEq (eVar 3) (eC (.str [115, 101, 101, 110])))) (sRet (eCall 3 f_stepped_seen (aCons (eBin oIx (eVar 0) (eC (.int 1))) (aCons (eVar 1) (aCons (eVar 2) aNil))))) sNil)
    (sSeq (sIf (tBl (eBin oEq (eVar 3) (eC (.str [115, 117, 109])))) (sRet (eCB fMin2 (aCons (eBin oIx (eVar 0) (eC (.int 2))) (aCons (eBin oAdd (eVar 1) (eBin oIx (eBin oIx (eVar 0) (eC (.int 1))) (eVar 2))) aNil)))) sNil)
    (sRet (eCall 3 f_stepped_count (aCons (eVar 0) (aCons (eVar 1) (aCons (eVar 2) aNil))))))))))
theorem ok_stepped {P : Program} {w : World} {K : PySem.W.Frag} {mg : PySem.Str → Option Value} {base : Heap} {f : Addr} {fd : FuncData} {f_stepped_seen f_stepped_count : FM} (F : FnP K "stepped" s_stepped f fd) (gx : mg "stepped" = some (.ref f)) (c_stepped_seen : Cal P w K mg base "stepped_seen" 1 ["row", "value", "kind"] f_stepped_seen) (c_stepped_count : Cal P w K mg base "stepped_count" 1 ["gauge", "value", "kind"] f_stepped_count) (z_max : mg "max" = none) (z_min : mg "min" = none) :
    Cal P w K mg base "stepped" 2 ["gauge", "value", "kind"] (runB 4 (m_stepped f_stepped_seen f_stepped_count)) :=
  cal_mk (k := 1) F sc_stepped gx (fun _ _ _ _ _ _ us hl => match us, hl with | [_, _, _], _ => rfl) fun cdv A outer s H E hr tk hp =>
    (sx_cons (sx_set sc_stepped.nd (ex_ix (m_ix hr.units65) (xv 0) ex_int))
    (sx_cons (sx_if (et_cmp (m_eq hr.units) (xv 3) (ex_strc [108, 97, 115, 116] (by decide +kernel)) (nomark _)) (sx_one (sx_ret (ex_op m_add (xv 2) ex_int))) sx_nil)
    (sx_cons (sx_if (et_cmp (m_eq hr.units) (xv 3) (ex_strc [109, 111, 115, 116] (by decide +kernel)) (nomark _)) (sx_one (sx_ret (ex_callB (c_max2 (by rfl)) (by rfl) z_max bt_max (ea_cons (xv 1) (ea_cons (ex_op m_add (xv 2) ex_int) ea_nil))))) sx_nil)
    (sx_cons (sx_if (et_cmp (m_eq hr.units) (xv 3) (ex_strc [115, 101, 101, 110] (by decide +kernel)) (nomark _)) (sx_one (sx_ret (ex_c1 c_stepped_seen tk hr (by decide) (ea_cons (ex_ix (m_ix hr.units65) (xv 0) ex_int) (ea_cons (xv 1) (ea_cons (xv 2) ea_nil)))))) sx_nil)
    (sx_cons (sx_if (et_cmp (m_eq hr.units) (xv 3) (ex_strc [115, 117, 109] (by decide +kernel)) (nomark _)) (sx_one (sx_ret (ex_callB (c_min2 (by rfl)) (by rfl) z_min bt_min (ea_cons (ex_ix (m_ix hr.units65) (xv 0) ex_int) (ea_cons (ex_op m_add (xv 1) (ex_ix (m_ix hr.units65) (ex_ix (m_ix hr.units65) (xv 0) ex_int) (xv 2))) ea_nil))))) sx_nil)
    (sx_one (sx_ret (ex_c1 c_stepped_count tk hr (by decide) (ea_cons (xv 0) (ea_cons (xv 1) (ea_cons (xv 2) ea_nil)))))))))))
def N_stepped_seen : List PySem.Str := ["row", "value", "kind"]
theorem sc_stepped_seen : FnScope N_stepped_seen ["row", "value", "kind"] (defScope s_stepped_seen) := ⟨rfl, rfl, rfl, by decide +kernel, rfl, by decide +kernel, by decide +kernel⟩
def m_stepped_seen : SM := (sSeq (sIf (tAnd (tBl (eBin oLt (eVar 1) (eCB fLen (aCons (eVar 0) aNil)))) (tBl (eBin oEq (eBin oIx (eVar 0) (eVar 1)) (eVar 2)))) (sRet (eBin oAdd (eVar 1) (eC (.int 1)))) sNil)
    (sRet (eVar 1)))
theorem ok_stepped_seen {P : Program} {w : World} {K : PySem.W.Frag} {mg : PySem.Str → Option Value} {base : Heap} {f : Addr} {fd : FuncData} (F : FnP K "stepped_seen" s_stepped_seen f fd) (gx : mg "stepped_seen" = some (.ref f)) (z_len : mg "len" = none) :
    Cal P w K mg base "stepped_seen" 1 ["row", "value", "kind"] (runB 3 (m_stepped_seen)) :=
  cal_mk (k := 0) F sc_stepped_seen gx (fun _ _ _ _ _ _ us hl => match us, hl with | [_, _, _], _ => rfl) fun cdv A outer s H E hr tk hp =>
    (sx_cons (sx_if (Ew.et (ew_and (et_cmp (m_lt hr.units65) (xv 1) (ex_callB c_len (by rfl) z_len bt_len (ea_cons (xv 0) ea_nil)) (nomark _)) (ew_and1 (et_cmp (m_eq hr.units) (ex_ix (m_ix hr.units65) (xv 0) (xv 1)) (xv 2) (nomark _))))) (sx_one (sx_ret (ex_op m_add (xv 1) ex_int))) sx_nil)
    (sx_one (sx_ret (xv 1))))
def N_stepped_count : List PySem.Str := ["gauge", "value", "kind", "word", "kinds", "bound"]
theorem sc_stepped_count : FnScope N_stepped_count ["gauge", "value", "kind"] (defScope s_stepped_count) := ⟨rfl, rfl, rfl, by decide +kernel, rfl, by decide +kernel, by decide +kernel⟩
def m_stepped_count : SM := (sSeq (sAsg (gT 3 (gCs 3 (gCs 4 (gCs 5 gNil0)))) (eVar 0))
    (sSeq (sIf (tBl (eBin oNotIn (eVar 2) (eVar 4))) (sRet (eIf (tBl (eBin oEq (eVar 3) (eC (.str [114, 117, 110])))) (eC (.int 0)) (eVar 1))) sNil)
    (sSeq (sIf (tBl (eBin oEq (eVar 3) (eC (.str [114, 101, 115, 116])))) (sRet (eBin oMod (eBin oAdd (eVar 1) (eC (.int 1))) (eVar 5))) sNil)
    (sRet (eCB fMin2 (aCons (eVar 5) (aCons (eBin oAdd (eVar 1) (eC (.int 1))) aNil)))))))
theorem ok_stepped_count {P : Program} {w : World} {K : PySem.W.Frag} {mg : PySem.Str → Option Value} {base : Heap} {f : Addr} {fd : FuncData} (F : FnP K "stepped_count" s_stepped_count f fd) (gx : mg "stepped_count" = some (.ref f)) (z_min : mg "min" = none) :
    Cal P w K mg base "stepped_count" 1 ["gauge", "value", "kind"] (runB 6 (m_stepped_count)) :=
  cal_mk (k := 0) F sc_stepped_count gx (fun _ _ _ _ _ _ us hl => match us, hl with | [_, _, _], _ => rfl) fun cdv A outer s H E hr tk hp =>
    (sx_cons (sx_asg (xv 0) (eg_tup (by rfl) (egs_cons sc_stepped_count.nd (egs_cons sc_stepped_count.nd (egs_cons sc_stepped_count.nd egs_nil)))))
    (sx_cons (sx_if (et_cmp (m_notin hr.units65) (xv 2) (xv 4) (by rfl)) (sx_one (sx_ret (ex_if (et_cmp (m_eq hr.units) (xv 3) (ex_strc [114, 117, 110] (by decide +kernel)) (nomark _)) ex_int (xv 1)))) sx_nil)
    (sx_cons (sx_if (et_cmp (m_eq hr.units) (xv 3) (ex_strc [114, 101, 115, 116] (by decide +kernel)) (nomark _)) (sx_one (sx_ret (ex_op m_mod (ex_op m_add (xv 1) ex_int) (xv 5)))) sx_nil)
    (sx_one (sx_ret (ex_callB (c_min2 (by rfl)) (by rfl) z_min bt_min (ea_cons (xv 5) (ea_cons (ex_op m_add (xv 1) ex_int) ea_nil))))))))
def N_first_values : List PySem.Str := ["gauges", "gauge"]
theorem sc_first_values : FnScope N_first_values ["gauges"] (defScope s_first_values) := ⟨rfl, rfl, rfl, by decide +kernel, rfl, by decide +kernel, by decide +kernel⟩
def m_first_values : SM := (sRet (eCS gTuple (lComp [1] (iEx (eVar 0)) (gN 1) tYes (eC (.int 0)))))
theorem ok_first_values {P : Program} {w : World} {K : PySem.W.Frag} {mg : PySem.Str → Option Value} {base : Heap} {f : Addr} {fd : FuncData} (F : FnP K "first_values" s_first_values f fd) (gx : mg "first_values" = some (.ref f)) (z_tuple : mg "tuple" = none) :
    Cal P w K mg base "first_values" 1 ["gauges"] (runB 2 (m_first_values)) :=
  cal_mk (k := 0) F sc_first_values gx (fun _ _ _ _ _ _ us hl => match us, hl with | [_], _ => rfl) fun cdv A outer s H E hr tk hp =>
    (sx_one (sx_ret (ex_callTs s_tuple (by rfl) z_tuple bt_tuple (es_el (el_comp (own := [(("gauge" : PySem.Str), 1)]) (by rfl) sc_first_values.nd (ei_ex (xv 0)) (blkOk_by (N := N_first_values) (sc := (defScope s_first_values)) (by decide +kernel)) (fun _ _ _ _ _ => (eg_name sc_first_values.nd)) (fun _ _ _ _ _ => ets_nil) (fun _ _ _ _ _ => ex_int))))))
def N_stepped_all : List PySem.Str := ["gauges", "row", "kind", "gauge", "value"]
theorem sc_stepped_all : FnScope N_stepped_all ["gauges", "row", "kind"] (defScope s_stepped_all) := ⟨rfl, rfl, rfl, by decide +kernel, rfl, by decide +kernel, by decide +kernel⟩
def m_stepped_all (f_stepped : FM) : SM := (sRet (eCS gTuple (lComp [3, 4] (iZip (eVar 0) (eVar 1)) (gT 2 (gCs 3 (gCs 4 gNil0))) tYes (eCall 3 f_stepped (aCons (eVar 3) (aCons (eVar 4) (aCons (eVar 2) aNil)))))))
theorem ok_stepped_all {P : Program} {w : World} {K : PySem.W.Frag} {mg : PySem.Str → Option Value} {base : Heap} {f : Addr} {fd : FuncData} {f_stepped : FM} (F : FnP K "stepped_all" s_stepped_all f fd) (gx : mg "stepped_all" = some (.ref f)) (c_stepped : Cal P w K mg base "stepped" 2 ["gauge", "value", "kind"] f_stepped) (z_zip : mg "zip" = none) (z_tuple : mg "tuple" = none) :
    Cal P w K mg base "stepped_all" 3 ["gauges", "row", "kind"] (runB 5 (m_stepped_all f_stepped)) :=
  cal_mk (k := 2) F sc_stepped_all gx (fun _ _ _ _ _ _ us hl => match us, hl with | [_, _, _], _ => rfl) fun cdv A outer s H E hr tk hp =>
    (sx_one (sx_ret (ex_callTs s_tuple (by rfl) z_tuple bt_tuple (es_el (el_comp (own := [(("gauge" : PySem.Str), 3), (("value" : PySem.Str), 4)]) (by rfl) sc_stepped_all.nd (ei_zip (by rfl) z_zip (xv 0) (xv 1)) (blkOk_by (N := N_stepped_all) (sc := (defScope s_stepped_all)) (by decide +kernel)) (fun _ _ _ _ _ => (eg_tup (by rfl) (egs_cons sc_stepped_all.nd (egs_cons sc_stepped_all.nd egs_nil)))) (fun _ _ _ _ _ => ets_nil) (fun _ _ _ _ _ => (ex_c1 c_stepped tk0 hr (by decide) (ea_cons (xv 3) (ea_cons (xv 4) (ea_cons (xv 2) ea_nil))))))))))
def N_kinds_of : List PySem.Str := ["reader"]
theorem sc_kinds_of : FnScope N_kinds_of ["reader"] (defScope s_kinds_of) := ⟨rfl, rfl, rfl, by decide +kernel, rfl, by decide +kernel, by decide +kernel⟩
def m_kinds_of : SM := (sRet (eCB fLen (aCons (eBin oIx (eBin oIx (eVar 0) (eC (.int 1))) (eC (.int 0))) aNil)))
theorem ok_kinds_of {P : Program} {w : World} {K : PySem.W.Frag} {mg : PySem.Str → Option Value} {base : Heap} {f : Addr} {fd : FuncData} (F : FnP K "kinds_of" s_kinds_of f fd) (gx : mg "kinds_of" = some (.ref f)) (z_len : mg "len" = none) :
    Cal P w K mg base "kinds_of" 1 ["reader"] (runB 1 (m_kinds_of)) :=
  cal_mk (k := 0) F sc_kinds_of gx (fun _ _ _ _ _ _ us hl => match us, hl with | [_], _ => rfl) fun cdv A outer s H E hr tk hp =>
    (sx_one (sx_ret (ex_callB c_len (by rfl) z_len bt_len (ea_cons (ex_ix (m_ix hr.units65) (ex_ix (m_ix hr.units65) (xv 0) ex_int) ex_int) ea_nil))))
def N_after : List PySem.Str := ["reader", "state", "kind"]
theorem sc_after : FnScope N_after ["reader", "state", "kind"] (defScope s_after) := ⟨rfl, rfl, rfl, by decide +kernel, rfl, by decide +kernel, by decide +kernel⟩
def m_after : SM := (sRet (eBin oIx (eBin oIx (eBin oIx (eVar 0) (eC (.int 1))) (eVar 1)) (eVar 2)))
theorem ok_after {P : Program} {w : World} {K : PySem.W.Frag} {mg : PySem.Str → Option Value} {base : Heap} {f : Addr} {fd : FuncData} (F : FnP K "after" s_after f fd) (gx : mg "after" = some (.ref f))  :
    Cal P w K mg base "after" 1 ["reader", "state", "kind"] (runB 3 (m_after)) :=
  cal_mk (k := 0) F sc_after gx (fun _ _ _ _ _ _ us hl => match us, hl with | [_, _, _], _ => rfl) fun cdv A outer s H E hr tk hp =>
    (sx_one (sx_ret (ex_ix (m_ix hr.units65) (ex_ix (m_ix hr.units65) (ex_ix (m_ix hr.units65) (xv 0) ex_int) (xv 1)) (xv 2))))
def N_state_of : List PySem.Str := ["reader", "table", "state", "kind"]
theorem sc_state_of : FnScope N_state_of ["reader", "table"] (defScope s_state_of) := ⟨rfl, rfl, rfl, by decide +kernel, rfl, by decide +kernel, by decide +kernel⟩
def m_state_of (f_after : FM) : SM := (sSeq (sSet 2 (eC (.int 0)))
    (sSeq (sFor (iEx (eVar 1)) (gN 3) (sSet 2 (eCall 3 f_after (aCons (eVar 0) (aCons (eVar 2) (aCons (eVar 3) aNil))))))
    (sRet (eVar 2))))
theorem ok_state_of {P : Program} {w : World} {K : PySem.W.Frag} {mg : PySem.Str → Option Value} {base : Heap} {f : Addr} {fd : FuncData} {f_after : FM} (F : FnP K "state_of" s_state_of f fd) (gx : mg "state_of" = some (.ref f)) (c_after : Cal P w K mg base "after" 1 ["reader", "state", "kind"] f_after) :
    Cal P w K mg base "state_of" 2 ["reader", "table"] (runB 4 (m_state_of f_after)) :=
  cal_mk (k := 1) F sc_state_of gx (fun _ _ _ _ _ _ us hl => match us, hl with | [_, _], _ => rfl) fun cdv A outer s H E hr tk hp =>
    (sx_cons (sx_set sc_state_of.nd ex_int)
    (sx_cons (sx_for hp (by rfl) (ei_ex (xv 1)) (eg_name sc_state_of.nd) (sx_one (sx_set sc_state_of.nd (ex_c1 c_after tk hr (by decide) (ea_cons (xv 0) (ea_cons (xv 2) (ea_cons (xv 3) ea_nil)))))))
    (sx_one (sx_ret (xv 2)))))
def N_first_tables : List PySem.Str := ["reader", "tables", "waiting", "at", "state", "kind", "behind"]
theorem sc_first_tables : FnScope N_first_tables ["reader"] (defScope s_first_tables) := ⟨rfl, rfl, rfl, by decide +kernel, rfl, by decide +kernel, by decide +kernel⟩
def m_first_tables (f_kinds_of : FM) (f_after : FM) : SM := (sSeq (sSet 1 (eDct1 (eC (.int 0)) (eTup aNil)))
    (sSeq (sSet 2 (eLst (aCons (eC (.int 0)) aNil)))
    (sSeq (sSet 3 (eC (.int 0)))
    (sSeq (whileN (tBl (eBin oLt (eVar 3) (eCB fLen (aCons (eVar 2) aNil)))) (sSeq (sSet 4 (eBin oIx (eVar 2) (eVar 3)))
    (sSeq (sFor (iRg1 (eCall 1 f_kinds_of (aCons (eVar 0) aNil))) (gN 5) (sSeq (sSet 6 (eCall 3 f_after (aCons (eVar 0) (aCons (eVar 4) (aCons (eVar 5) aNil)))))
    (sIf (tBl (eBin oNotIn (eVar 6) (eVar 1))) (sSeq (sSub (eVar 1) (eVar 6) (eBin oAdd (eBin oIx (eVar 1) (eVar 4)) (eTup (aCons (eVar 5) aNil))))
    (sExpr (eM "list" mAppend (eVar 2) (aCons (eVar 6) aNil)))) sNil)))
    (sSet 3 (eBin oAdd (eVar 3) (eC (.int 1)))))) big)
    (sRet (eVar 1))))))
theorem ok_first_tables {P : Program} {w : World} {K : PySem.W.Frag} {mg : PySem.Str → Option Value} {base : Heap} {f : Addr} {fd : FuncData} {f_kinds_of f_after : FM} (F : FnP K "first_tables" s_first_tables f fd) (gx : mg "first_tables" = some (.ref f)) (c_kinds_of : Cal P w K mg base "kinds_of" 1 ["reader"] f_kinds_of) (c_after : Cal P w K mg base "after" 1 ["reader", "state", "kind"] f_after) (z_len : mg "len" = none) (z_range : mg "range" = none) :
    Cal P w K mg base "first_tables" 2 ["reader"] (runB 7 (m_first_tables f_kinds_of f_after)) :=
  cal_mk (k := 1) F sc_first_tables gx (fun _ _ _ _ _ _ us hl => match us, hl with | [_], _ => rfl) fun cdv A outer s H E hr tk hp =>
    (sx_cons (sx_set sc_first_tables.nd (ex_dct1 hr.units65 ex_int (ex_tup ea_nil)))
    (sx_cons (sx_set sc_first_tables.nd (ex_lst (ea_cons ex_int ea_nil)))
    (sx_cons (sx_set sc_first_tables.nd ex_int)
    (sx_cons (sx_while big hp (et_cmp (m_lt hr.units65) (xv 3) (ex_callB c_len (by rfl) z_len bt_len (ea_cons (xv 2) ea_nil)) (nomark _)) (sx_cons (sx_set sc_first_tables.nd (ex_ix (m_ix hr.units65) (xv 2) (xv 3)))
    (sx_cons (sx_for hp (by rfl) (ei_range1 (by rfl) z_range (ex_c1 c_kinds_of tk hr (by decide) (ea_cons (xv 0) ea_nil))) (eg_name sc_first_tables.nd) (sx_cons (sx_set sc_first_tables.nd (ex_c1 c_after tk hr (by decide) (ea_cons (xv 0) (ea_cons (xv 4) (ea_cons (xv 5) ea_nil)))))
    (sx_one (sx_if (et_cmp (m_notin hr.units65) (xv 6) (xv 1) (by rfl)) (sx_cons (sx_sub hr.units65 (ex_op m_add (ex_ix (m_ix hr.units65) (xv 1) (xv 4)) (ex_tup (ea_cons (xv 5) ea_nil))) (xv 1) (xv 6))
    (sx_one (sx_expr (ex_m PySem.F.plainAttrs_list PySem.F.slot_list_append PySem.F.type_list_append me_append (xv 2) (ea_cons (xv 6) ea_nil))))) sx_nil))))
    (sx_one (sx_set sc_first_tables.nd (ex_op m_add (xv 3) ex_int))))))
    (sx_one (sx_ret (xv 1)))))))
def N_reached : List PySem.Str := ["reader", "tables", "state"]
theorem sc_reached : FnScope N_reached ["reader"] (defScope s_reached) := ⟨rfl, rfl, rfl, by decide +kernel, rfl, by decide +kernel, by decide +kernel⟩
def m_reached (f_first_tables : FM) : SM := (sSeq (sSet 1 (eCall 1 f_first_tables (aCons (eVar 0) aNil)))
    (sRet (eCS gTuple (lComp [2] (iEx (eCB fSorted (aCons (eVar 1) aNil))) (gN 2) tYes (eTup (aCons (eVar 2) (aCons (eBin oIx (eVar 1) (eVar 2)) aNil)))))))
theorem ok_reached {P : Program} {w : World} {K : PySem.W.Frag} {mg : PySem.Str → Option Value} {base : Heap} {f : Addr} {fd : FuncData} {f_first_tables : FM} (F : FnP K "reached" s_reached f fd) (gx : mg "reached" = some (.ref f)) (c_first_tables : Cal P w K mg base "first_tables" 2 ["reader"] f_first_tables) (z_sorted : mg "sorted" = none) (z_tuple : mg "tuple" = none) :
    Cal P w K mg base "reached" 3 ["reader"] (runB 3 (m_reached f_first_tables)) :=
  cal_mk (k := 2) F sc_reached gx (fun _ _ _ _ _ _ us hl => match us, hl with | [_], _ => rfl) fun cdv A outer s H E hr tk hp =>
    (sx_cons (sx_set sc_reached.nd (ex_c1 c_first_tables tk hr (by decide) (ea_cons (xv 0) ea_nil)))
    (sx_one (sx_ret (ex_callTs s_tuple (by rfl) z_tuple bt_tuple (es_el (el_comp (own := [(("state" : PySem.Str), 2)]) (by rfl) sc_reached.nd (ei_ex (ex_callB (c_sorted (by rfl) hr.units65) (by rfl) z_sorted bt_sorted (ea_cons (xv 1) ea_nil))) (blkOk_by (N := N_reached) (sc := (defScope s_reached)) (by decide +kernel)) (fun _ _ _ _ _ => (eg_name sc_reached.nd)) (fun _ _ _ _ _ => ets_nil) (fun _ _ _ _ _ => (ex_tup (ea_cons (xv 2) (ea_cons (ex_ix (m_ix hr.units65) (xv 1) (xv 2)) ea_nil))))))))))
def N_check_room : List PySem.Str := ["states"]
theorem sc_check_room : FnScope N_check_room ["states"] (defScope s_check_room) := ⟨rfl, rfl, rfl, by decide +kernel, rfl, by decide +kernel, by decide +kernel⟩
def m_check_room : SM := (sIf (tBl (eBin oGe (eCB fLen (aCons (eVar 0) aNil)) (eC q_MOST_STATES))) (sRaise1 "TooMany" "part" (aCons (eC (.str [115, 116, 97, 116, 101, 115])) aNil)) sNil)
theorem ok_check_room {P : Program} {w : World} {K : PySem.W.Frag} {mg : PySem.Str → Option Value} {base : Heap} {f : Addr} {fd : FuncData} (F : FnP K "check_room" s_check_room f fd) (gx : mg "check_room" = some (.ref f)) (k_MOST_STATES : Con K mg "MOST_STATES" q_MOST_STATES) (z_len : mg "len" = none) (eO : ∀ r ∈ tO, Own P K mg r.1 r.2) :
    Cal P w K mg base "check_room" 2 ["states"] (runB 1 (m_check_room)) :=
  cal_mk (k := 1) F sc_check_room gx (fun _ _ _ _ _ _ us hl => match us, hl with | [_], _ => rfl) fun cdv A outer s H E hr tk hp =>
    (sx_one (sx_if (et_cmp m_ge (ex_callB c_len (by rfl) z_len bt_len (ea_cons (xv 0) ea_nil)) (ex_con k_MOST_STATES) (nomark _)) (sx_one (sx_raise1 (by rfl) tk (eO ("TooMany", some "part") (List.mem_of_getElem? (i := 0) rfl)) hr (by decide) (ea_cons (ex_strc [115, 116, 97, 116, 101, 115] (by decide +kernel)) ea_nil))) sx_nil))
def N_machine : List PySem.Str := ["kinds", "gauges", "values", "number", "rows", "here", "row", "kind", "behind"]
theorem sc_machine : FnScope N_machine ["kinds", "gauges"] (defScope s_machine) := ⟨rfl, rfl, rfl, by decide +kernel, rfl, by decide +kernel, by decide +kernel⟩
def m_machine (f_first_values : FM) (f_stepped_all : FM) (f_check_room : FM) : SM := (sSeq (sSet 2 (eLst (aCons (eCall 1 f_first_values (aCons (eVar 1) aNil)) aNil)))
    (sSeq (sSet 3 (eDct1 (eBin oIx (eVar 2) (eC (.int 0))) (eC (.int 0))))
    (sSeq (sSet 4 (eLst aNil))
    (sSeq (whileN (tBl (eBin oLt (eCB fLen (aCons (eVar 4) aNil)) (eCB fLen (aCons (eVar 2) aNil)))) (sSeq (sSet 5 (eBin oIx (eVar 2) (eCB fLen (aCons (eVar 4) aNil))))
    (sSeq (sSet 6 (eLst aNil))
    (sSeq (sFor (iRg1 (eVar 0)) (gN 7) (sSeq (sSet 8 (eCall 3 f_stepped_all (aCons (eVar 1) (aCons (eVar 5) (aCons (eVar 7) aNil)))))
    (sSeq (sIf (tBl (eBin oNotIn (eVar 8) (eVar 3))) (sSeq (sExpr (eCall 1 f_check_room (aCons (eVar 2) aNil)))
    (sSeq (sSub (eVar 3) (eVar 8) (eCB fLen (aCons (eVar 2) aNil)))
    (sExpr (eM "list" mAppend (eVar 2) (aCons (eVar 8) aNil))))) sNil)
    (sExpr (eM "list" mAppend (eVar 6) (aCons (eBin oIx (eVar 3) (eVar 8)) aNil))))))
    (sExpr (eM "list" mAppend (eVar 4) (aCons (eCB fTuple (aCons (eVar 6) aNil)) aNil)))))) big)
    (sRet (eTup (aCons (eTup (aCons (eC (.str [114, 101, 97, 100, 101, 114])) (aCons (eCB fTuple (aCons (eVar 4) aNil)) aNil))) (aCons (eCB fTuple (aCons (eVar 2) aNil)) aNil))))))))
theorem ok_machine {P : Program} {w : World} {K : PySem.W.Frag} {mg : PySem.Str → Option Value} {base : Heap} {f : Addr} {fd : FuncData} {f_first_values f_stepped_all f_check_room : FM} (F : FnP K "machine" s_machine f fd) (gx : mg "machine" = some (.ref f)) (c_first_values : Cal P w K mg base "first_values" 1 ["gauges"] f_first_values) (c_stepped_all : Cal P w K mg base "stepped_all" 3 ["gauges", "row", "kind"] f_stepped_all) (c_check_room : Cal P w K mg base "check_room" 2 ["states"] f_check_room) (z_len : mg "len" = none) (z_range : mg "range" = none) (z_tuple : mg "tuple" = none) :
    Cal P w K mg base "machine" 4 ["kinds", "gauges"] (runB 9 (m_machine f_first_values f_stepped_all f_check_room)) :=
  cal_mk (k := 3) F sc_machine gx (fun _ _ _ _ _ _ us hl => match us, hl with | [_, _], _ => rfl) fun cdv A outer s H E hr tk hp =>
    (sx_cons (sx_set sc_machine.nd (ex_lst (ea_cons (ex_c1 c_first_values tk hr (by decide) (ea_cons (xv 1) ea_nil)) ea_nil)))
    (sx_cons (sx_set sc_machine.nd (ex_dct1 hr.units65 (ex_ix (m_ix hr.units65) (xv 2) ex_int) ex_int))
    (sx_cons (sx_set sc_machine.nd (ex_lst ea_nil))
    (sx_cons (sx_while big hp (et_cmp (m_lt hr.units65) (ex_callB c_len (by rfl) z_len bt_len (ea_cons (xv 4) ea_nil)) (ex_callB c_len (by rfl) z_len bt_len (ea_cons (xv 2) ea_nil)) (nomark _)) (sx_cons (sx_set sc_machine.nd (ex_ix (m_ix hr.units65) (xv 2) (ex_callB c_len (by rfl) z_len bt_len (ea_cons (xv 4) ea_nil))))
    (sx_cons (sx_set sc_machine.nd (ex_lst ea_nil))
    (sx_cons (sx_for hp (by rfl) (ei_range1 (by rfl) z_range (xv 0)) (eg_name sc_machine.nd) (sx_cons (sx_set sc_machine.nd (ex_c1 c_stepped_all tk hr (by decide) (ea_cons (xv 1) (ea_cons (xv 5) (ea_cons (xv 7) ea_nil)))))
    (sx_cons (sx_if (et_cmp (m_notin hr.units65) (xv 8) (xv 3) (by rfl)) (sx_cons (sx_expr (ex_c1 c_check_room tk hr (by decide) (ea_cons (xv 2) ea_nil)))
    (sx_cons (sx_sub hr.units65 (ex_callB c_len (by rfl) z_len bt_len (ea_cons (xv 2) ea_nil)) (xv 3) (xv 8))
    (sx_one (sx_expr (ex_m PySem.F.plainAttrs_list PySem.F.slot_list_append PySem.F.type_list_append me_append (xv 2) (ea_cons (xv 8) ea_nil)))))) sx_nil)
    (sx_one (sx_expr (ex_m PySem.F.plainAttrs_list PySem.F.slot_list_append PySem.F.type_list_append me_append (xv 6) (ea_cons (ex_ix (m_ix hr.units65) (xv 3) (xv 8)) ea_nil)))))))
    (sx_one (sx_expr (ex_m PySem.F.plainAttrs_list PySem.F.slot_list_append PySem.F.type_list_append me_append (xv 4) (ea_cons (ex_callT c_tuple (by rfl) z_tuple bt_tuple (ea_cons (xv 6) ea_nil)) ea_nil))))))))
    (sx_one (sx_ret (ex_tup (ea_cons (ex_tup (ea_cons (ex_strc [114, 101, 97, 100, 101, 114] (by decide +kernel)) (ea_cons (ex_callT c_tuple (by rfl) z_tuple bt_tuple (ea_cons (xv 4) ea_nil)) ea_nil))) (ea_cons (ex_callT c_tuple (by rfl) z_tuple bt_tuple (ea_cons (xv 2) ea_nil)) ea_nil)))))))))
def N__law_begin : List PySem.Str := ["script", "cell"]
theorem sc__law_begin : FnScope N__law_begin ["script"] (defScope s__law_begin) := ⟨rfl, rfl, rfl, by decide +kernel, rfl, by decide +kernel, by decide +kernel⟩
def m__law_begin : SM := (sRet (eLst (aCons (eEl (lComp [1] (iEx (eVar 0)) (gN 1) tYes (eCB fInt (aCons (eVar 1) aNil)))) (aCons (eC (.int 0)) (aCons (eC (.int 0)) (aCons (eC (.int 7)) aNil))))))
theorem ok__law_begin {P : Program} {w : World} {K : PySem.W.Frag} {mg : PySem.Str → Option Value} {base : Heap} {f : Addr} {fd : FuncData} (F : FnP K "_law_begin" s__law_begin f fd) (gx : mg "_law_begin" = some (.ref f)) (z_int : mg "int" = none) :
    Cal P w K mg base "_law_begin" 1 ["script"] (runB 2 (m__law_begin)) :=
  cal_mk (k := 0) F sc__law_begin gx (fun _ _ _ _ _ _ us hl => match us, hl with | [_], _ => rfl) fun cdv A outer s H E hr tk hp =>
    (sx_one (sx_ret (ex_lst (ea_cons (ex_el (el_comp (own := [(("cell" : PySem.Str), 1)]) (by rfl) sc__law_begin.nd (ei_ex (xv 0)) (blkOk_by (N := N__law_begin) (sc := (defScope s__law_begin)) (by decide +kernel)) (fun _ _ _ _ _ => (eg_name sc__law_begin.nd)) (fun _ _ _ _ _ => ets_nil) (fun _ _ _ _ _ => (ex_callT c_int (by rfl) z_int bt_int (ea_cons (xv 1) ea_nil))))) (ea_cons ex_int (ea_cons ex_int (ea_cons ex_int ea_nil)))))))
def N__law_draw : List PySem.Str := ["d", "many", "found", "size", "cell"]
theorem sc__law_draw : FnScope N__law_draw ["d", "many"] (defScope s__law_draw) := ⟨rfl, rfl, rfl, by decide +kernel, rfl, by decide +kernel, by decide +kernel⟩
def m__law_draw : SM := (sSeq (sIf (tBl (eBin oGt (eBin oIx (eVar 0) (eC (.int 2))) (eC (.int 0)))) (sSeq (sSet 2 (eBin oIx (eVar 0) (eC (.int 2))))
    (sSeq (sSub (eVar 0) (eC (.int 2)) (eBin oDiv (eVar 2) (eVar 1)))
    (sRet (eBin oMod (eCB fInt (aCons (eVar 2) aNil)) (eVar 1))))) sNil)
    (sSeq (sSet 3 (eC (.int 0)))
    (sSeq (sIf (tBl (eBin oLt (eBin oIx (eVar 0) (eC (.int 1))) (eCB fLen (aCons (eBin oIx (eVar 0) (eC (.int 0))) aNil)))) (sSeq (sSet 4 (eBin oIx (eBin oIx (eVar 0) (eC (.int 0))) (eBin oIx (eVar 0) (eC (.int 1)))))
    (sSet 3 (eBin oAdd (eBin oMul (eC (.int 2)) (eCB fAbs (aCons (eVar 4) aNil))) (eCB fInt (aCons (eBin oLt (eVar 4) (eC (.int 0))) aNil))))) sNil)
    (sSeq (sAugS oIAdd (eVar 0) (eC (.int 1)) (eC (.int 1)))
    (sSeq (sIf (tBl (eBin oGe (eVar 3) (eBin oMul (eC (.int 2)) (eBin oPow (eC (.int 10)) (eC (.int 18)))))) (sSeq (sSet 2 (eBin oMod (eCB fInt (aCons (eBin oDiv (eVar 3) (eC (.int 2))) aNil)) (eBin oShl (eC (.int 1)) (eC (.int 6000)))))
    (sSeq (sSub (eVar 0) (eC (.int 2)) (eBin oDiv (eVar 2) (eVar 1)))
    (sRet (eBin oMod (eCB fInt (aCons (eVar 2) aNil)) (eVar 1))))) sNil)
    (sSeq (sSub (eVar 0) (eC (.int 3)) (eBin oMod (eCB fInt (aCons (eBin oAdd (eBin oAdd (eBin oAdd (eBin oMul (eBin oIx (eVar 0) (eC (.int 3))) (eC (.int 48271))) (eBin oMul (eBin oMod (eCB fInt (aCons (eVar 3) aNil)) (eC (.int 2147483629))) (eC (.int 16807)))) (eBin oMul (eBin oIx (eVar 0) (eC (.int 1))) (eC (.int 69621)))) (eC (.int 11))) aNil)) (eC (.int 2147483647))))
    (sRet (eBin oMod (eCB fInt (aCons (eBin oDiv (eBin oIx (eVar 0) (eC (.int 3))) (eC (.int 16))) aNil)) (eVar 1)))))))))
theorem ok__law_draw {P : Program} {w : World} {K : PySem.W.Frag} {mg : PySem.Str → Option Value} {base : Heap} {f : Addr} {fd : FuncData} (F : FnP K "_law_draw" s__law_draw f fd) (gx : mg "_law_draw" = some (.ref f)) (z_int : mg "int" = none) (z_len : mg "len" = none) (z_abs : mg "abs" = none) :
    Cal P w K mg base "_law_draw" 1 ["d", "many"] (runB 5 (m__law_draw)) :=
  cal_mk (k := 0) F sc__law_draw gx (fun _ _ _ _ _ _ us hl => match us, hl with | [_, _], _ => rfl) fun cdv A outer s H E hr tk hp =>
    (sx_cons (sx_if (et_cmp m_gt (ex_ix (m_ix hr.units65) (xv 0) ex_int) ex_int (nomark _)) (sx_cons (sx_set sc__law_draw.nd (ex_ix (m_ix hr.units65) (xv 0) ex_int))
    (sx_cons (sx_sub hr.units65 (ex_op m_div (xv 2) (xv 1)) (xv 0) ex_int)
    (sx_one (sx_ret (ex_op m_mod (ex_callT c_int (by rfl) z_int bt_int (ea_cons (xv 2) ea_nil)) (xv 1)))))) sx_nil)
    (sx_cons (sx_set sc__law_draw.nd ex_int)
    (sx_cons (sx_if (et_cmp (m_lt hr.units65) (ex_ix (m_ix hr.units65) (xv 0) ex_int) (ex_callB c_len (by rfl) z_len bt_len (ea_cons (ex_ix (m_ix hr.units65) (xv 0) ex_int) ea_nil)) (nomark _)) (sx_cons (sx_set sc__law_draw.nd (ex_ix (m_ix hr.units65) (ex_ix (m_ix hr.units65) (xv 0) ex_int) (ex_ix (m_ix hr.units65) (xv 0) ex_int)))
    (sx_one (sx_set sc__law_draw.nd (ex_op m_add (ex_op m_mul ex_int (ex_callB c_abs (by rfl) z_abs bt_abs (ea_cons (xv 4) ea_nil))) (ex_callT c_int (by rfl) z_int bt_int (ea_cons (ex_cmp (m_lt hr.units65) (xv 4) ex_int (nomark _)) ea_nil)))))) sx_nil)
    (sx_cons (sx_augS hr.units65 (xv 0) ex_int ex_int mi_add)
    (sx_cons (sx_if (et_cmp m_ge (xv 3) (ex_op m_mul ex_int (ex_op m_pow ex_int ex_int)) (nomark _)) (sx_cons (sx_set sc__law_draw.nd (ex_op m_mod (ex_callT c_int (by rfl) z_int bt_int (ea_cons (ex_op m_div (xv 3) ex_int) ea_nil)) (ex_op m_shl ex_int ex_int)))
    (sx_cons (sx_sub hr.units65 (ex_op m_div (xv 2) (xv 1)) (xv 0) ex_int)
    (sx_one (sx_ret (ex_op m_mod (ex_callT c_int (by rfl) z_int bt_int (ea_cons (xv 2) ea_nil)) (xv 1)))))) sx_nil)
    (sx_cons (sx_sub hr.units65 (ex_op m_mod (ex_callT c_int (by rfl) z_int bt_int (ea_cons (ex_op m_add (ex_op m_add (ex_op m_add (ex_op m_mul (ex_ix (m_ix hr.units65) (xv 0) ex_int) ex_int) (ex_op m_mul (ex_op m_mod (ex_callT c_int (by rfl) z_int bt_int (ea_cons (xv 3) ea_nil)) ex_int) ex_int)) (ex_op m_mul (ex_ix (m_ix hr.units65) (xv 0) ex_int) ex_int)) ex_int) ea_nil)) ex_int) (xv 0) ex_int)
    (sx_one (sx_ret (ex_op m_mod (ex_callT c_int (by rfl) z_int bt_int (ea_cons (ex_op m_div (ex_ix (m_ix hr.units65) (xv 0) ex_int) ex_int) ea_nil)) (xv 1))))))))))
def N__law_pick : List PySem.Str := ["d", "row"]
theorem sc__law_pick : FnScope N__law_pick ["d", "row"] (defScope s__law_pick) := ⟨rfl, rfl, rfl, by decide +kernel, rfl, by decide +kernel, by decide +kernel⟩
def m__law_pick (f__law_draw : FM) : SM := (sRet (eBin oIx (eVar 1) (eCall 2 f__law_draw (aCons (eVar 0) (aCons (eCB fLen (aCons (eVar 1) aNil)) aNil)))))
theorem ok__law_pick {P : Program} {w : World} {K : PySem.W.Frag} {mg : PySem.Str → Option Value} {base : Heap} {f : Addr} {fd : FuncData} {f__law_draw : FM} (F : FnP K "_law_pick" s__law_pick f fd) (gx : mg "_law_pick" = some (.ref f)) (c__law_draw : Cal P w K mg base "_law_draw" 1 ["d", "many"] f__law_draw) (z_len : mg "len" = none) :
    Cal P w K mg base "_law_pick" 2 ["d", "row"] (runB 2 (m__law_pick f__law_draw)) :=
  cal_mk (k := 1) F sc__law_pick gx (fun _ _ _ _ _ _ us hl => match us, hl with | [_, _], _ => rfl) fun cdv A outer s H E hr tk hp =>
    (sx_one (sx_ret (ex_ix (m_ix hr.units65) (xv 1) (ex_c1 c__law_draw tk hr (by decide) (ea_cons (xv 0) (ea_cons (ex_callB c_len (by rfl) z_len bt_len (ea_cons (xv 1) ea_nil)) ea_nil))))))
def N__law_rare : List PySem.Str := ["d", "many"]
theorem sc__law_rare : FnScope N__law_rare ["d", "many"] (defScope s__law_rare) := ⟨rfl, rfl, rfl, by decide +kernel, rfl, by decide +kernel, by decide +kernel⟩
def m__law_rare (f__law_draw : FM) : SM := (sRet (eBin oEq (eCall 2 f__law_draw (aCons (eVar 0) (aCons (eVar 1) aNil))) (eBin oDiv (eVar 1) (eC (.int 2)))))
theorem ok__law_rare {P : Program} {w : World} {K : PySem.W.Frag} {mg : PySem.Str → Option Value} {base : Heap} {f : Addr} {fd : FuncData} {f__law_draw : FM} (F : FnP K "_law_rare" s__law_rare f fd) (gx : mg "_law_rare" = some (.ref f)) (c__law_draw : Cal P w K mg base "_law_draw" 1 ["d", "many"] f__law_draw) :
    Cal P w K mg base "_law_rare" 2 ["d", "many"] (runB 2 (m__law_rare f__law_draw)) :=
  cal_mk (k := 1) F sc__law_rare gx (fun _ _ _ _ _ _ us hl => match us, hl with | [_, _], _ => rfl) fun cdv A outer s H E hr tk hp =>
    (sx_one (sx_ret (ex_cmp (m_eq hr.units) (ex_c1 c__law_draw tk hr (by decide) (ea_cons (xv 0) (ea_cons (xv 1) ea_nil))) (ex_op m_div (xv 1) ex_int) (nomark _))))
def N__law_shuffled : List PySem.Str := ["d", "row", "left", "found", "k"]
theorem sc__law_shuffled : FnScope N__law_shuffled ["d", "row"] (defScope s__law_shuffled) := ⟨rfl, rfl, rfl, by decide +kernel, rfl, by decide +kernel, by decide +kernel⟩
def m__law_shuffled (f__law_draw : FM) : SM := (sSeq (sSet 2 (eCB fList (aCons (eVar 1) aNil)))
    (sSeq (sSet 3 (eLst aNil))
    (sSeq (sFor (iRg1 (eCB fLen (aCons (eVar 2) aNil))) (gN 4) (sExpr (eM "list" mAppend (eVar 3) (aCons (eM "list" mPopAt (eVar 2) (aCons (eCall 2 f__law_draw (aCons (eVar 0) (aCons (eCB fLen (aCons (eVar 2) aNil)) aNil))) aNil)) aNil))))
    (sRet (eVar 3)))))
theorem ok__law_shuffled {P : Program} {w : World} {K : PySem.W.Frag} {mg : PySem.Str → Option Value} {base : Heap} {f : Addr} {fd : FuncData} {f__law_draw : FM} (F : FnP K "_law_shuffled" s__law_shuffled f fd) (gx : mg "_law_shuffled" = some (.ref f)) (c__law_draw : Cal P w K mg base "_law_draw" 1 ["d", "many"] f__law_draw) (z_list : mg "list" = none) (z_range : mg "range" = none) (z_len : mg "len" = none) :
    Cal P w K mg base "_law_shuffled" 2 ["d", "row"] (runB 5 (m__law_shuffled f__law_draw)) :=
  cal_mk (k := 1) F sc__law_shuffled gx (fun _ _ _ _ _ _ us hl => match us, hl with | [_, _], _ => rfl) fun cdv A outer s H E hr tk hp =>
    (sx_cons (sx_set sc__law_shuffled.nd (ex_callT c_list (by rfl) z_list bt_list (ea_cons (xv 1) ea_nil)))
    (sx_cons (sx_set sc__law_shuffled.nd (ex_lst ea_nil))
    (sx_cons (sx_for hp (by rfl) (ei_range1 (by rfl) z_range (ex_callB c_len (by rfl) z_len bt_len (ea_cons (xv 2) ea_nil))) (eg_name sc__law_shuffled.nd) (sx_one (sx_expr (ex_m PySem.F.plainAttrs_list PySem.F.slot_list_append PySem.F.type_list_append me_append (xv 3) (ea_cons (ex_m PySem.F.plainAttrs_list PySem.F.slot_list_pop PySem.F.type_list_pop me_popAt (xv 2) (ea_cons (ex_c1 c__law_draw tk hr (by decide) (ea_cons (xv 0) (ea_cons (ex_callB c_len (by rfl) z_len bt_len (ea_cons (xv 2) ea_nil)) ea_nil))) ea_nil)) ea_nil)))))
    (sx_one (sx_ret (xv 3))))))
def N__law_is_int : List PySem.Str := ["thing"]
theorem sc__law_is_int : FnScope N__law_is_int ["thing"] (defScope s__law_is_int) := ⟨rfl, rfl, rfl, by decide +kernel, rfl, by decide +kernel, by decide +kernel⟩
def m__law_is_int : SM := (sRet (eAnd (eCB fIsi (aCons (eVar 0) (aCons (eC (.ty "int")) aNil))) (eNot (eCB fIsi (aCons (eVar 0) (aCons (eC (.ty "bool")) aNil))))))
theorem ok__law_is_int {P : Program} {w : World} {K : PySem.W.Frag} {mg : PySem.Str → Option Value} {base : Heap} {f : Addr} {fd : FuncData} (F : FnP K "_law_is_int" s__law_is_int f fd) (gx : mg "_law_is_int" = some (.ref f)) (z_int : mg "int" = none) (z_isinstance : mg "isinstance" = none) (z_bool : mg "bool" = none) :
    Cal P w K mg base "_law_is_int" 1 ["thing"] (runB 1 (m__law_is_int)) :=
  cal_mk (k := 0) F sc__law_is_int gx (fun _ _ _ _ _ _ us hl => match us, hl with | [_], _ => rfl) fun cdv A outer s H E hr tk hp =>
    (sx_one (sx_ret (ex_and (ex_callB c_isi (by rfl) z_isinstance bt_isinstance (ea_cons (xv 0) (ea_cons (ex_bltn (by rfl) z_int bt_int (by rfl) (fun _ _ => .ty _)) ea_nil))) (ex_one (ex_not (ex_callB c_isi (by rfl) z_isinstance bt_isinstance (ea_cons (xv 0) (ea_cons (ex_bltn (by rfl) z_bool bt_bool (by rfl) (fun _ _ => .ty _)) ea_nil))))))))
def N__law_table : List PySem.Str := ["d", "kinds", "most", "size", "k"]
theorem sc__law_table : FnScope N__law_table ["d", "kinds", "most"] (defScope s__law_table) := ⟨rfl, rfl, rfl, by decide +kernel, rfl, by decide +kernel, by decide +kernel⟩
def m__law_table (f__law_draw : FM) : SM := (sSeq (sSet 3 (eCall 2 f__law_draw (aCons (eVar 0) (aCons (eBin oAdd (eVar 2) (eC (.int 1))) aNil))))
    (sRet (eCS gTuple (lComp [4] (iRg1 (eVar 3)) (gN 4) tYes (eCall 2 f__law_draw (aCons (eVar 0) (aCons (eVar 1) aNil)))))))
theorem ok__law_table {P : Program} {w : World} {K : PySem.W.Frag} {mg : PySem.Str → Option Value} {base : Heap} {f : Addr} {fd : FuncData} {f__law_draw : FM} (F : FnP K "_law_table" s__law_table f fd) (gx : mg "_law_table" = some (.ref f)) (c__law_draw : Cal P w K mg base "_law_draw" 1 ["d", "many"] f__law_draw) (z_range : mg "range" = none) (z_tuple : mg "tuple" = none) :
    Cal P w K mg base "_law_table" 2 ["d", "kinds", "most"] (runB 5 (m__law_table f__law_draw)) :=
  cal_mk (k := 1) F sc__law_table gx (fun _ _ _ _ _ _ us hl => match us, hl with | [_, _, _], _ => rfl) fun cdv A outer s H E hr tk hp =>
    (sx_cons (sx_set sc__law_table.nd (ex_c1 c__law_draw tk hr (by decide) (ea_cons (xv 0) (ea_cons (ex_op m_add (xv 2) ex_int) ea_nil))))
    (sx_one (sx_ret (ex_callTs s_tuple (by rfl) z_tuple bt_tuple (es_el (el_comp (own := [(("k" : PySem.Str), 4)]) (by rfl) sc__law_table.nd (ei_range1 (by rfl) z_range (xv 3)) (blkOk_by (N := N__law_table) (sc := (defScope s__law_table)) (by decide +kernel)) (fun _ _ _ _ _ => (eg_name sc__law_table.nd)) (fun _ _ _ _ _ => ets_nil) (fun _ _ _ _ _ => (ex_c1 c__law_draw tk0 hr (by decide) (ea_cons (xv 0) (ea_cons (xv 1) ea_nil))))))))))
def N__law_state : List PySem.Str := ["reader", "table", "state", "kind"]
theorem sc__law_state : FnScope N__law_state ["reader", "table"] (defScope s__law_state) := ⟨rfl, rfl, rfl, by decide +kernel, rfl, by decide +kernel, by decide +kernel⟩
def m__law_state : SM := (sSeq (sSet 2 (eC (.int 0)))
    (sSeq (sFor (iEx (eVar 1)) (gN 3) (sSet 2 (eBin oIx (eBin oIx (eBin oIx (eVar 0) (eC (.int 1))) (eVar 2)) (eVar 3))))
    (sRet (eVar 2))))
theorem ok__law_state {P : Program} {w : World} {K : PySem.W.Frag} {mg : PySem.Str → Option Value} {base : Heap} {f : Addr} {fd : FuncData} (F : FnP K "_law_state" s__law_state f fd) (gx : mg "_law_state" = some (.ref f))  :
    Cal P w K mg base "_law_state" 1 ["reader", "table"] (runB 4 (m__law_state)) :=
  cal_mk (k := 0) F sc__law_state gx (fun _ _ _ _ _ _ us hl => match us, hl with | [_, _], _ => rfl) fun cdv A outer s H E hr tk hp =>
    (sx_cons (sx_set sc__law_state.nd ex_int)
    (sx_cons (sx_for hp (by rfl) (ei_ex (xv 1)) (eg_name sc__law_state.nd) (sx_one (sx_set sc__law_state.nd (ex_ix (m_ix hr.units65) (ex_ix (m_ix hr.units65) (ex_ix (m_ix hr.units65) (xv 0) ex_int) (xv 2)) (xv 3)))))
    (sx_one (sx_ret (xv 2)))))
def N__law_told : List PySem.Str := ["gauge", "table", "many", "kind"]
theorem sc__law_told : FnScope N__law_told ["gauge", "table"] (defScope s__law_told) := ⟨rfl, rfl, rfl, by decide +kernel, rfl, by decide +kernel, by decide +kernel⟩
def m__law_told : SM := (sSeq (sIf (tBl (eBin oIn (eBin oIx (eVar 0) (eC (.int 0))) (eTup (aCons (eC (.str [99, 111, 117, 110, 116])) (aCons (eC (.str [114, 101, 115, 116])) aNil))))) (sSeq (sSet 2 (eCS gLen (lComp [3] (iEx (eVar 1)) (gN 3) (tBl (eBin oIn (eVar 3) (eBin oIx (eVar 0) (eC (.int 1))))) (eVar 3))))
    (sRet (eIf (tBl (eBin oEq (eBin oIx (eVar 0) (eC (.int 0))) (eC (.str [99, 111, 117, 110, 116])))) (eCB fMin2 (aCons (eVar 2) (aCons (eBin oIx (eVar 0) (eC (.int 2))) aNil))) (eBin oMod (eCB fInt (aCons (eVar 2) aNil)) (eBin oIx (eVar 0) (eC (.int 2))))))) sNil)
    (sSeq (sIf (tBl (eBin oEq (eBin oIx (eVar 0) (eC (.int 0))) (eC (.str [114, 117, 110])))) (sSeq (sSet 2 (eC (.int 0)))
    (sSeq (whileN (tAnd (tBl (eBin oLt (eVar 2) (eCB fLen (aCons (eVar 1) aNil)))) (tBl (eBin oIn (eBin oIx (eVar 1) (eBin oSub (eBin oSub (eCB fLen (aCons (eVar 1) aNil)) (eC (.int 1))) (eVar 2))) (eBin oIx (eVar 0) (eC (.int 1)))))) (sAug 2 oIAdd (eC (.int 1))) big)
    (sRet (eCB fMin2 (aCons (eVar 2) (aCons (eBin oIx (eVar 0) (eC (.int 2))) aNil)))))) sNil)
    (sSeq (sIf (tBl (eBin oEq (eBin oIx (eVar 0) (eC (.int 0))) (eC (.str [115, 117, 109])))) (sRet (eCB fMin2 (aCons (eCS gSum (lComp [3] (iEx (eVar 1)) (gN 3) tYes (eBin oIx (eBin oIx (eVar 0) (eC (.int 1))) (eVar 3)))) (aCons (eBin oIx (eVar 0) (eC (.int 2))) aNil)))) sNil)
    (sSeq (sIf (tBl (eBin oEq (eBin oIx (eVar 0) (eC (.int 0))) (eC (.str [108, 97, 115, 116])))) (sRet (eIf (tBl (eBin oGt (eCB fLen (aCons (eVar 1) aNil)) (eC (.int 0)))) (eBin oAdd (eBin oIx (eVar 1) (eUn oNeg (eC (.int 1)))) (eC (.int 1))) (eC (.int 0)))) sNil)
    (sSeq (sIf (tBl (eBin oEq (eBin oIx (eVar 0) (eC (.int 0))) (eC (.str [109, 111, 115, 116])))) (sRet (eIf (tBl (eBin oGt (eCB fLen (aCons (eVar 1) aNil)) (eC (.int 0)))) (eBin oAdd (eCS gMax (sEx (eVar 1))) (eC (.int 1))) (eC (.int 0)))) sNil)
    (sSeq (sSet 2 (eC (.int 0)))
    (sSeq (sFor (iEx (eVar 1)) (gN 3) (sIf (tAnd (tBl (eBin oLt (eVar 2) (eCB fLen (aCons (eBin oIx (eVar 0) (eC (.int 1))) aNil)))) (tBl (eBin oEq (eBin oIx (eBin oIx (eVar 0) (eC (.int 1))) (eVar 2)) (eVar 3)))) (sAug 2 oIAdd (eC (.int 1))) sNil))
    (sRet (eVar 2)))))))))
theorem ok__law_told {P : Program} {w : World} {K : PySem.W.Frag} {mg : PySem.Str → Option Value} {base : Heap} {f : Addr} {fd : FuncData} (F : FnP K "_law_told" s__law_told f fd) (gx : mg "_law_told" = some (.ref f)) (z_len : mg "len" = none) (z_min : mg "min" = none) (z_int : mg "int" = none) (z_sum : mg "sum" = none) (z_max : mg "max" = none) :
    Cal P w K mg base "_law_told" 1 ["gauge", "table"] (runB 4 (m__law_told)) :=
  cal_mk (k := 0) F sc__law_told gx (fun _ _ _ _ _ _ us hl => match us, hl with | [_, _], _ => rfl) fun cdv A outer s H E hr tk hp =>
    (sx_cons (sx_if (et_cmp (m_in hr.units65) (ex_ix (m_ix hr.units65) (xv 0) ex_int) (ex_tup (ea_cons (ex_strc [99, 111, 117, 110, 116] (by decide +kernel)) (ea_cons (ex_strc [114, 101, 115, 116] (by decide +kernel)) ea_nil))) (by rfl)) (sx_cons (sx_set sc__law_told.nd (ex_callBs s_len (by rfl) z_len bt_len (es_el (el_comp (own := [(("kind" : PySem.Str), 3)]) (by rfl) sc__law_told.nd (ei_ex (xv 1)) (blkOk_by (N := N__law_told) (sc := (defScope s__law_told)) (by decide +kernel)) (fun _ _ _ _ _ => (eg_name sc__law_told.nd)) (fun _ _ _ _ _ => (ets_one (et_cmp (m_in hr.units65) (xv 3) (ex_ix (m_ix hr.units65) (xv 0) ex_int) (by rfl)))) (fun _ _ _ _ _ => (xv 3))))))
    (sx_one (sx_ret (ex_if (et_cmp (m_eq hr.units) (ex_ix (m_ix hr.units65) (xv 0) ex_int) (ex_strc [99, 111, 117, 110, 116] (by decide +kernel)) (nomark _)) (ex_callB (c_min2 (by rfl)) (by rfl) z_min bt_min (ea_cons (xv 2) (ea_cons (ex_ix (m_ix hr.units65) (xv 0) ex_int) ea_nil))) (ex_op m_mod (ex_callT c_int (by rfl) z_int bt_int (ea_cons (xv 2) ea_nil)) (ex_ix (m_ix hr.units65) (xv 0) ex_int)))))) sx_nil)
    (sx_cons (sx_if (et_cmp (m_eq hr.units) (ex_ix (m_ix hr.units65) (xv 0) ex_int) (ex_strc [114, 117, 110] (by decide +kernel)) (nomark _)) (sx_cons (sx_set sc__law_told.nd ex_int)
    (sx_cons (sx_while big hp (Ew.et (ew_and (et_cmp (m_lt hr.units65) (xv 2) (ex_callB c_len (by rfl) z_len bt_len (ea_cons (xv 1) ea_nil)) (nomark _)) (ew_and1 (et_cmp (m_in hr.units65) (ex_ix (m_ix hr.units65) (xv 1) (ex_op m_sub (ex_op m_sub (ex_callB c_len (by rfl) z_len bt_len (ea_cons (xv 1) ea_nil)) ex_int) (xv 2))) (ex_ix (m_ix hr.units65) (xv 0) ex_int) (by rfl))))) (sx_one (sx_aug sc__law_told.nd ex_int mi_add)))
    (sx_one (sx_ret (ex_callB (c_min2 (by rfl)) (by rfl) z_min bt_min (ea_cons (xv 2) (ea_cons (ex_ix (m_ix hr.units65) (xv 0) ex_int) ea_nil))))))) sx_nil)
    (sx_cons (sx_if (et_cmp (m_eq hr.units) (ex_ix (m_ix hr.units65) (xv 0) ex_int) (ex_strc [115, 117, 109] (by decide +kernel)) (nomark _)) (sx_one (sx_ret (ex_callB (c_min2 (by rfl)) (by rfl) z_min bt_min (ea_cons (ex_callBs (s_sum (by rfl)) (by rfl) z_sum bt_sum (es_el (el_comp (own := [(("kind" : PySem.Str), 3)]) (by rfl) sc__law_told.nd (ei_ex (xv 1)) (blkOk_by (N := N__law_told) (sc := (defScope s__law_told)) (by decide +kernel)) (fun _ _ _ _ _ => (eg_name sc__law_told.nd)) (fun _ _ _ _ _ => ets_nil) (fun _ _ _ _ _ => (ex_ix (m_ix hr.units65) (ex_ix (m_ix hr.units65) (xv 0) ex_int) (xv 3)))))) (ea_cons (ex_ix (m_ix hr.units65) (xv 0) ex_int) ea_nil))))) sx_nil)
    (sx_cons (sx_if (et_cmp (m_eq hr.units) (ex_ix (m_ix hr.units65) (xv 0) ex_int) (ex_strc [108, 97, 115, 116] (by decide +kernel)) (nomark _)) (sx_one (sx_ret (ex_if (et_cmp m_gt (ex_callB c_len (by rfl) z_len bt_len (ea_cons (xv 1) ea_nil)) ex_int (nomark _)) (ex_op m_add (ex_ix (m_ix hr.units65) (xv 1) (ex_un m_neg ex_int)) ex_int) ex_int))) sx_nil)
    (sx_cons (sx_if (et_cmp (m_eq hr.units) (ex_ix (m_ix hr.units65) (xv 0) ex_int) (ex_strc [109, 111, 115, 116] (by decide +kernel)) (nomark _)) (sx_one (sx_ret (ex_if (et_cmp m_gt (ex_callB c_len (by rfl) z_len bt_len (ea_cons (xv 1) ea_nil)) ex_int (nomark _)) (ex_op m_add (ex_callBs (sv_max (by rfl)) (by rfl) z_max bt_max (es_ex (xv 1))) ex_int) ex_int))) sx_nil)
    (sx_cons (sx_set sc__law_told.nd ex_int)
    (sx_cons (sx_for hp (by rfl) (ei_ex (xv 1)) (eg_name sc__law_told.nd) (sx_one (sx_if (Ew.et (ew_and (et_cmp (m_lt hr.units65) (xv 2) (ex_callB c_len (by rfl) z_len bt_len (ea_cons (ex_ix (m_ix hr.units65) (xv 0) ex_int) ea_nil)) (nomark _)) (ew_and1 (et_cmp (m_eq hr.units) (ex_ix (m_ix hr.units65) (ex_ix (m_ix hr.units65) (xv 0) ex_int) (xv 2)) (xv 3) (nomark _))))) (sx_one (sx_aug sc__law_told.nd ex_int mi_add)) sx_nil)))
    (sx_one (sx_ret (xv 2))))))))))
def N__law_machine : List PySem.Str := ["kinds", "gauges", "start", "found", "tables", "number", "rows", "at", "row", "kind", "longer", "told", "gauge"]
theorem sc__law_machine : FnScope N__law_machine ["kinds", "gauges"] (defScope s__law_machine) := ⟨rfl, rfl, rfl, by decide +kernel, rfl, by decide +kernel, by decide +kernel⟩
def m__law_machine (f__law_told : FM) : SM := (sSeq (sSet 2 (eCS gTuple (lComp [12] (iEx (eVar 1)) (gN 12) tYes (eC (.int 0)))))
    (sSeq (sSet 3 (eLst (aCons (eVar 2) aNil)))
    (sSeq (sSet 4 (eLst (aCons (eTup aNil) aNil)))
    (sSeq (sSet 5 (eDct1 (eVar 2) (eC (.int 0))))
    (sSeq (sSet 6 (eLst aNil))
    (sSeq (sSet 7 (eC (.int 0)))
    (sSeq (whileN (tAnd (tBl (eBin oLt (eVar 7) (eCB fLen (aCons (eVar 3) aNil)))) (tBl (eBin oLe (eCB fLen (aCons (eVar 3) aNil)) (eC (.int 41))))) (sSeq (sSet 8 (eLst aNil))
    (sSeq (sFor (iRg1 (eVar 0)) (gN 9) (sSeq (sSet 10 (eBin oAdd (eBin oIx (eVar 4) (eVar 7)) (eTup (aCons (eVar 9) aNil))))
    (sSeq (sSet 11 (eCS gTuple (lComp [12] (iEx (eVar 1)) (gN 12) tYes (eCall 2 f__law_told (aCons (eVar 12) (aCons (eVar 10) aNil))))))
    (sSeq (sIf (tBl (eBin oNotIn (eVar 11) (eVar 5))) (sSeq (sSub (eVar 5) (eVar 11) (eCB fLen (aCons (eVar 3) aNil)))
    (sSeq (sExpr (eM "list" mAppend (eVar 3) (aCons (eVar 11) aNil)))
    (sExpr (eM "list" mAppend (eVar 4) (aCons (eVar 10) aNil))))) sNil)
    (sExpr (eM "list" mAppend (eVar 8) (aCons (eBin oIx (eVar 5) (eVar 11)) aNil)))))))
    (sSeq (sExpr (eM "list" mAppend (eVar 6) (aCons (eCB fTuple (aCons (eVar 8) aNil)) aNil)))
    (sAug 7 oIAdd (eC (.int 1)))))) big)
    (sRet (eTup (aCons (eTup (aCons (eC (.str [114, 101, 97, 100, 101, 114])) (aCons (eCB fTuple (aCons (eVar 6) aNil)) aNil))) (aCons (eCB fTuple (aCons (eVar 3) aNil)) aNil)))))))))))
theorem ok__law_machine {P : Program} {w : World} {K : PySem.W.Frag} {mg : PySem.Str → Option Value} {base : Heap} {f : Addr} {fd : FuncData} {f__law_told : FM} (F : FnP K "_law_machine" s__law_machine f fd) (gx : mg "_law_machine" = some (.ref f)) (c__law_told : Cal P w K mg base "_law_told" 1 ["gauge", "table"] f__law_told) (z_tuple : mg "tuple" = none) (z_len : mg "len" = none) (z_range : mg "range" = none) :
    Cal P w K mg base "_law_machine" 2 ["kinds", "gauges"] (runB 13 (m__law_machine f__law_told)) :=
  cal_mk (k := 1) F sc__law_machine gx (fun _ _ _ _ _ _ us hl => match us, hl with | [_, _], _ => rfl) fun cdv A outer s H E hr tk hp =>
    (sx_cons (sx_set sc__law_machine.nd (ex_callTs s_tuple (by rfl) z_tuple bt_tuple (es_el (el_comp (own := [(("gauge" : PySem.Str), 12)]) (by rfl) sc__law_machine.nd (ei_ex (xv 1)) (blkOk_by (N := N__law_machine) (sc := (defScope s__law_machine)) (by decide +kernel)) (fun _ _ _ _ _ => (eg_name sc__law_machine.nd)) (fun _ _ _ _ _ => ets_nil) (fun _ _ _ _ _ => ex_int)))))
    (sx_cons (sx_set sc__law_machine.nd (ex_lst (ea_cons (xv 2) ea_nil)))
    (sx_cons (sx_set sc__law_machine.nd (ex_lst (ea_cons (ex_tup ea_nil) ea_nil)))
    (sx_cons (sx_set sc__law_machine.nd (ex_dct1 hr.units65 (xv 2) ex_int))
    (sx_cons (sx_set sc__law_machine.nd (ex_lst ea_nil))
    (sx_cons (sx_set sc__law_machine.nd ex_int)
    (sx_cons (sx_while big hp (Ew.et (ew_and (et_cmp (m_lt hr.units65) (xv 7) (ex_callB c_len (by rfl) z_len bt_len (ea_cons (xv 3) ea_nil)) (nomark _)) (ew_and1 (et_cmp m_le (ex_callB c_len (by rfl) z_len bt_len (ea_cons (xv 3) ea_nil)) ex_int (nomark _))))) (sx_cons (sx_set sc__law_machine.nd (ex_lst ea_nil))
    (sx_cons (sx_for hp (by rfl) (ei_range1 (by rfl) z_range (xv 0)) (eg_name sc__law_machine.nd) (sx_cons (sx_set sc__law_machine.nd (ex_op m_add (ex_ix (m_ix hr.units65) (xv 4) (xv 7)) (ex_tup (ea_cons (xv 9) ea_nil))))
    (sx_cons (sx_set sc__law_machine.nd (ex_callTs s_tuple (by rfl) z_tuple bt_tuple (es_el (el_comp (own := [(("gauge" : PySem.Str), 12)]) (by rfl) sc__law_machine.nd (ei_ex (xv 1)) (blkOk_by (N := N__law_machine) (sc := (defScope s__law_machine)) (by decide +kernel)) (fun _ _ _ _ _ => (eg_name sc__law_machine.nd)) (fun _ _ _ _ _ => ets_nil) (fun _ _ _ _ _ => (ex_c1 c__law_told tk0 hr (by decide) (ea_cons (xv 12) (ea_cons (xv 10) ea_nil))))))))
    (sx_cons (sx_if (et_cmp (m_notin hr.units65) (xv 11) (xv 5) (by rfl)) (sx_cons (sx_sub hr.units65 (ex_callB c_len (by rfl) z_len bt_len (ea_cons (xv 3) ea_nil)) (xv 5) (xv 11))
    (sx_cons (sx_expr (ex_m PySem.F.plainAttrs_list PySem.F.slot_list_append PySem.F.type_list_append me_append (xv 3) (ea_cons (xv 11) ea_nil)))
    (sx_one (sx_expr (ex_m PySem.F.plainAttrs_list PySem.F.slot_list_append PySem.F.type_list_append me_append (xv 4) (ea_cons (xv 10) ea_nil)))))) sx_nil)
    (sx_one (sx_expr (ex_m PySem.F.plainAttrs_list PySem.F.slot_list_append PySem.F.type_list_append me_append (xv 8) (ea_cons (ex_ix (m_ix hr.units65) (xv 5) (xv 11)) ea_nil))))))))
    (sx_cons (sx_expr (ex_m PySem.F.plainAttrs_list PySem.F.slot_list_append PySem.F.type_list_append me_append (xv 6) (ea_cons (ex_callT c_tuple (by rfl) z_tuple bt_tuple (ea_cons (xv 8) ea_nil)) ea_nil)))
    (sx_one (sx_aug sc__law_machine.nd ex_int mi_add))))))
    (sx_one (sx_ret (ex_tup (ea_cons (ex_tup (ea_cons (ex_strc [114, 101, 97, 100, 101, 114] (by decide +kernel)) (ea_cons (ex_callT c_tuple (by rfl) z_tuple bt_tuple (ea_cons (xv 6) ea_nil)) ea_nil))) (ea_cons (ex_callT c_tuple (by rfl) z_tuple bt_tuple (ea_cons (xv 3) ea_nil)) ea_nil))))))))))))
def N__law_subset : List PySem.Str := ["d", "kinds", "found", "kind"]
theorem sc__law_subset : FnScope N__law_subset ["d", "kinds"] (defScope s__law_subset) := ⟨rfl, rfl, rfl, by decide +kernel, rfl, by decide +kernel, by decide +kernel⟩
def m__law_subset (f__law_draw : FM) : SM := (sSeq (sSet 2 (eEl (lComp [3] (iRg1 (eVar 1)) (gN 3) (tBl (eBin oEq (eCall 2 f__law_draw (aCons (eVar 0) (aCons (eC (.int 2)) aNil))) (eC (.int 1)))) (eVar 3))))
    (sSeq (sIf (tBl (eBin oEq (eCB fLen (aCons (eVar 2) aNil)) (eC (.int 0)))) (sExpr (eM "list" mAppend (eVar 2) (aCons (eCall 2 f__law_draw (aCons (eVar 0) (aCons (eVar 1) aNil))) aNil))) sNil)
    (sRet (eCB fTuple (aCons (eVar 2) aNil)))))
theorem ok__law_subset {P : Program} {w : World} {K : PySem.W.Frag} {mg : PySem.Str → Option Value} {base : Heap} {f : Addr} {fd : FuncData} {f__law_draw : FM} (F : FnP K "_law_subset" s__law_subset f fd) (gx : mg "_law_subset" = some (.ref f)) (c__law_draw : Cal P w K mg base "_law_draw" 1 ["d", "many"] f__law_draw) (z_range : mg "range" = none) (z_len : mg "len" = none) (z_tuple : mg "tuple" = none) :
    Cal P w K mg base "_law_subset" 2 ["d", "kinds"] (runB 4 (m__law_subset f__law_draw)) :=
  cal_mk (k := 1) F sc__law_subset gx (fun _ _ _ _ _ _ us hl => match us, hl with | [_, _], _ => rfl) fun cdv A outer s H E hr tk hp =>
    (sx_cons (sx_setLc (own := [(("kind" : PySem.Str), 3)]) (by rfl) sc__law_subset.nd (ei_range1 (by rfl) z_range (xv 1)) (blkOk_by (N := N__law_subset) (sc := (defScope s__law_subset)) (by decide +kernel)) (fun _ _ _ _ _ => (eg_name sc__law_subset.nd)) (fun _ _ _ _ _ => (ets_one (et_cmp (m_eq hr.units) (ex_c1 c__law_draw tk0 hr (by decide) (ea_cons (xv 0) (ea_cons ex_int ea_nil))) ex_int (nomark _)))) (fun _ _ _ _ _ => (xv 3)))
    (sx_cons (sx_if (et_cmp (m_eq hr.units) (ex_callB c_len (by rfl) z_len bt_len (ea_cons (xv 2) ea_nil)) ex_int (nomark _)) (sx_one (sx_expr (ex_m PySem.F.plainAttrs_list PySem.F.slot_list_append PySem.F.type_list_append me_append (xv 2) (ea_cons (ex_c1 c__law_draw tk hr (by decide) (ea_cons (xv 0) (ea_cons (xv 1) ea_nil))) ea_nil)))) sx_nil)
    (sx_one (sx_ret (ex_callT c_tuple (by rfl) z_tuple bt_tuple (ea_cons (xv 2) ea_nil))))))
def N__law_wide_gauge : List PySem.Str := ["d", "kinds", "word", "k"]
theorem sc__law_wide_gauge : FnScope N__law_wide_gauge ["d", "kinds"] (defScope s__law_wide_gauge) := ⟨rfl, rfl, rfl, by decide +kernel, rfl, by decide +kernel, by decide +kernel⟩
def m__law_wide_gauge (f__law_pick : FM) (f__law_draw : FM) (f__law_subset : FM) : SM := (sSeq (sSet 2 (eCall 2 f__law_pick (aCons (eVar 0) (aCons (eLst (aCons (eC (.str [99, 111, 117, 110, 116])) (aCons (eC (.str [114, 101, 115, 116])) (aCons (eC (.str [114, 117, 110])) (aCons (eC (.str [115, 117, 109])) (aCons (eC (.str [108, 97, 115, 116])) (aCons (eC (.str [109, 111, 115, 116])) (aCons (eC (.str [115, 101, 101, 110])) aNil)))))))) aNil))))
    (sSeq (sIf (tBl (eBin oIn (eVar 2) (eTup (aCons (eC (.str [108, 97, 115, 116])) (aCons (eC (.str [109, 111, 115, 116])) aNil))))) (sRet (eTup (aCons (eVar 2) aNil))) sNil)
    (sSeq (sIf (tBl (eBin oEq (eVar 2) (eC (.str [115, 101, 101, 110])))) (sRet (eTup (aCons (eVar 2) (aCons (eCS gTuple (lComp [3] (iRg1 (eBin oAdd (eC (.int 1)) (eCall 2 f__law_draw (aCons (eVar 0) (aCons (eC (.int 6)) aNil))))) (gN 3) tYes (eCall 2 f__law_draw (aCons (eVar 0) (aCons (eVar 1) aNil))))) aNil)))) sNil)
    (sSeq (sIf (tBl (eBin oEq (eVar 2) (eC (.str [115, 117, 109])))) (sRet (eTup (aCons (eVar 2) (aCons (eCS gTuple (lComp [3] (iRg1 (eVar 1)) (gN 3) tYes (eCall 2 f__law_draw (aCons (eVar 0) (aCons (eC (.int 10)) aNil))))) (aCons (eBin oAdd (eC (.int 1)) (eCall 2 f__law_draw (aCons (eVar 0) (aCons (eC (.int 12)) aNil)))) aNil))))) sNil)
    (sSeq (sIf (tBl (eBin oEq (eVar 2) (eC (.str [114, 101, 115, 116])))) (sRet (eTup (aCons (eVar 2) (aCons (eCall 2 f__law_subset (aCons (eVar 0) (aCons (eVar 1) aNil))) (aCons (eBin oAdd (eC (.int 2)) (eCall 2 f__law_draw (aCons (eVar 0) (aCons (eC (.int 5)) aNil)))) aNil))))) sNil)
    (sRet (eTup (aCons (eVar 2) (aCons (eCall 2 f__law_subset (aCons (eVar 0) (aCons (eVar 1) aNil))) (aCons (eBin oAdd (eC (.int 1)) (eCall 2 f__law_draw (aCons (eVar 0) (aCons (eC (.int 12)) aNil)))) aNil))))))))))
theorem ok__law_wide_gauge {P : Program} {w : World} {K : PySem.W.Frag} {mg : PySem.Str → Option Value} {base : Heap} {f : Addr} {fd : FuncData} {f__law_pick f__law_draw f__law_subset : FM} (F : FnP K "_law_wide_gauge" s__law_wide_gauge f fd) (gx : mg "_law_wide_gauge" = some (.ref f)) (c__law_pick : Cal P w K mg base "_law_pick" 2 ["d", "row"] f__law_pick) (c__law_draw : Cal P w K mg base "_law_draw" 1 ["d", "many"] f__law_draw) (c__law_subset : Cal P w K mg base "_law_subset" 2 ["d", "kinds"] f__law_subset) (z_range : mg "range" = none) (z_tuple : mg "tuple" = none) :
    Cal P w K mg base "_law_wide_gauge" 3 ["d", "kinds"] (runB 4 (m__law_wide_gauge f__law_pick f__law_draw f__law_subset)) :=
  cal_mk (k := 2) F sc__law_wide_gauge gx (fun _ _ _ _ _ _ us hl => match us, hl with | [_, _], _ => rfl) fun cdv A outer s H E hr tk hp =>
    (sx_cons (sx_set sc__law_wide_gauge.nd (ex_c1 c__law_pick tk hr (by decide) (ea_cons (xv 0) (ea_cons (ex_lst (ea_cons (ex_strc [99, 111, 117, 110, 116] (by decide +kernel)) (ea_cons (ex_strc [114, 101, 115, 116] (by decide +kernel)) (ea_cons (ex_strc [114, 117, 110] (by decide +kernel)) (ea_cons (ex_strc [115, 117, 109] (by decide +kernel)) (ea_cons (ex_strc [108, 97, 115, 116] (by decide +kernel)) (ea_cons (ex_strc [109, 111, 115, 116] (by decide +kernel)) (ea_cons (ex_strc [115, 101, 101, 110] (by decide +kernel)) ea_nil)))))))) ea_nil))))
    (sx_cons (sx_if (et_cmp (m_in hr.units65) (xv 2) (ex_tup (ea_cons (ex_strc [108, 97, 115, 116] (by decide +kernel)) (ea_cons (ex_strc [109, 111, 115, 116] (by decide +kernel)) ea_nil))) (by rfl)) (sx_one (sx_ret (ex_tup (ea_cons (xv 2) ea_nil)))) sx_nil)
    (sx_cons (sx_if (et_cmp (m_eq hr.units) (xv 2) (ex_strc [115, 101, 101, 110] (by decide +kernel)) (nomark _)) (sx_one (sx_ret (ex_tup (ea_cons (xv 2) (ea_cons (ex_callTs s_tuple (by rfl) z_tuple bt_tuple (es_el (el_comp (own := [(("k" : PySem.Str), 3)]) (by rfl) sc__law_wide_gauge.nd (ei_range1 (by rfl) z_range (ex_op m_add ex_int (ex_c1 c__law_draw tk hr (by decide) (ea_cons (xv 0) (ea_cons ex_int ea_nil))))) (blkOk_by (N := N__law_wide_gauge) (sc := (defScope s__law_wide_gauge)) (by decide +kernel)) (fun _ _ _ _ _ => (eg_name sc__law_wide_gauge.nd)) (fun _ _ _ _ _ => ets_nil) (fun _ _ _ _ _ => (ex_c1 c__law_draw tk0 hr (by decide) (ea_cons (xv 0) (ea_cons (xv 1) ea_nil))))))) ea_nil))))) sx_nil)
    (sx_cons (sx_if (et_cmp (m_eq hr.units) (xv 2) (ex_strc [115, 117, 109] (by decide +kernel)) (nomark _)) (sx_one (sx_ret (ex_tup (ea_cons (xv 2) (ea_cons (ex_callTs s_tuple (by rfl) z_tuple bt_tuple (es_el (el_comp (own := [(("k" : PySem.Str), 3)]) (by rfl) sc__law_wide_gauge.nd (ei_range1 (by rfl) z_range (xv 1)) (blkOk_by (N := N__law_wide_gauge) (sc := (defScope s__law_wide_gauge)) (by decide +kernel)) (fun _ _ _ _ _ => (eg_name sc__law_wide_gauge.nd)) (fun _ _ _ _ _ => ets_nil) (fun _ _ _ _ _ => (ex_c1 c__law_draw tk0 hr (by decide) (ea_cons (xv 0) (ea_cons ex_int ea_nil))))))) (ea_cons (ex_op m_add ex_int (ex_c1 c__law_draw tk hr (by decide) (ea_cons (xv 0) (ea_cons ex_int ea_nil)))) ea_nil)))))) sx_nil)
    (sx_cons (sx_if (et_cmp (m_eq hr.units) (xv 2) (ex_strc [114, 101, 115, 116] (by decide +kernel)) (nomark _)) (sx_one (sx_ret (ex_tup (ea_cons (xv 2) (ea_cons (ex_c1 c__law_subset tk hr (by decide) (ea_cons (xv 0) (ea_cons (xv 1) ea_nil))) (ea_cons (ex_op m_add ex_int (ex_c1 c__law_draw tk hr (by decide) (ea_cons (xv 0) (ea_cons ex_int ea_nil)))) ea_nil)))))) sx_nil)
    (sx_one (sx_ret (ex_tup (ea_cons (xv 2) (ea_cons (ex_c1 c__law_subset tk hr (by decide) (ea_cons (xv 0) (ea_cons (xv 1) ea_nil))) (ea_cons (ex_op m_add ex_int (ex_c1 c__law_draw tk hr (by decide) (ea_cons (xv 0) (ea_cons ex_int ea_nil)))) ea_nil)))))))))))
def N__law_sized_gauge : List PySem.Str := ["d", "kinds", "most", "word", "k"]
theorem sc__law_sized_gauge : FnScope N__law_sized_gauge ["d", "kinds", "most"] (defScope s__law_sized_gauge) := ⟨rfl, rfl, rfl, by decide +kernel, rfl, by decide +kernel, by decide +kernel⟩
def m__law_sized_gauge (f__law_pick : FM) (f__law_draw : FM) (f__law_subset : FM) : SM := (sSeq (sSet 3 (eCall 2 f__law_pick (aCons (eVar 0) (aCons (eLst (aCons (eC (.str [99, 111, 117, 110, 116])) (aCons (eC (.str [114, 101, 115, 116])) (aCons (eC (.str [99, 111, 117, 110, 116])) (aCons (eC (.str [114, 117, 110])) (aCons (eC (.str [115, 117, 109])) (aCons (eC (.str [108, 97, 115, 116])) (aCons (eC (.str [109, 111, 115, 116])) (aCons (eC (.str [115, 101, 101, 110])) aNil))))))))) aNil))))
    (sSeq (sIf (tBl (eBin oIn (eVar 3) (eTup (aCons (eC (.str [108, 97, 115, 116])) (aCons (eC (.str [109, 111, 115, 116])) aNil))))) (sRet (eTup (aCons (eVar 3) aNil))) sNil)
    (sSeq (sIf (tBl (eBin oEq (eVar 3) (eC (.str [115, 101, 101, 110])))) (sRet (eTup (aCons (eVar 3) (aCons (eCS gTuple (lComp [4] (iRg1 (eBin oAdd (eC (.int 1)) (eCall 2 f__law_draw (aCons (eVar 0) (aCons (eVar 2) aNil))))) (gN 4) tYes (eCall 2 f__law_draw (aCons (eVar 0) (aCons (eVar 1) aNil))))) aNil)))) sNil)
    (sSeq (sIf (tBl (eBin oEq (eVar 3) (eC (.str [115, 117, 109])))) (sRet (eTup (aCons (eVar 3) (aCons (eCS gTuple (lComp [4] (iRg1 (eVar 1)) (gN 4) tYes (eCall 2 f__law_draw (aCons (eVar 0) (aCons (eC (.int 3)) aNil))))) (aCons (eBin oAdd (eC (.int 1)) (eCall 2 f__law_draw (aCons (eVar 0) (aCons (eVar 2) aNil)))) aNil))))) sNil)
    (sSeq (sIf (tBl (eBin oEq (eVar 3) (eC (.str [114, 101, 115, 116])))) (sRet (eTup (aCons (eVar 3) (aCons (eCall 2 f__law_subset (aCons (eVar 0) (aCons (eVar 1) aNil))) (aCons (eBin oAdd (eC (.int 2)) (eCall 2 f__law_draw (aCons (eVar 0) (aCons (eVar 2) aNil)))) aNil))))) sNil)
    (sRet (eTup (aCons (eVar 3) (aCons (eCall 2 f__law_subset (aCons (eVar 0) (aCons (eVar 1) aNil))) (aCons (eBin oAdd (eC (.int 1)) (eCall 2 f__law_draw (aCons (eVar 0) (aCons (eVar 2) aNil)))) aNil))))))))))
theorem ok__law_sized_gauge {P : Program} {w : World} {K : PySem.W.Frag} {mg : PySem.Str → Option Value} {base : Heap} {f : Addr} {fd : FuncData} {f__law_pick f__law_draw f__law_subset : FM} (F : FnP K "_law_sized_gauge" s__law_sized_gauge f fd) (gx : mg "_law_sized_gauge" = some (.ref f)) (c__law_pick : Cal P w K mg base "_law_pick" 2 ["d", "row"] f__law_pick) (c__law_draw : Cal P w K mg base "_law_draw" 1 ["d", "many"] f__law_draw) (c__law_subset : Cal P w K mg base "_law_subset" 2 ["d", "kinds"] f__law_subset) (z_range : mg "range" = none) (z_tuple : mg "tuple" = none) :
    Cal P w K mg base "_law_sized_gauge" 3 ["d", "kinds", "most"] (runB 5 (m__law_sized_gauge f__law_pick f__law_draw f__law_subset)) :=
  cal_mk (k := 2) F sc__law_sized_gauge gx (fun _ _ _ _ _ _ us hl => match us, hl with | [_, _, _], _ => rfl) fun cdv A outer s H E hr tk hp =>
    (sx_cons (sx_set sc__law_sized_gauge.nd (ex_c1 c__law_pick tk hr (by decide) (ea_cons (xv 0) (ea_cons (ex_lst (ea_cons (ex_strc [99, 111, 117, 110, 116] (by decide +kernel)) (ea_cons (ex_strc [114, 101, 115, 116] (by decide +kernel)) (ea_cons (ex_strc [99, 111, 117, 110, 116] (by decide +kernel)) (ea_cons (ex_strc [114, 117, 110] (by decide +kernel)) (ea_cons (ex_strc [115, 117, 109] (by decide +kernel)) (ea_cons (ex_strc [108, 97, 115, 116] (by decide +kernel)) (ea_cons (ex_strc [109, 111, 115, 116] (by decide +kernel)) (ea_cons (ex_strc [115, 101, 101, 110] (by decide +kernel)) ea_nil))))))))) ea_nil))))
    (sx_cons (sx_if (et_cmp (m_in hr.units65) (xv 3) (ex_tup (ea_cons (ex_strc [108, 97, 115, 116] (by decide +kernel)) (ea_cons (ex_strc [109, 111, 115, 116] (by decide +kernel)) ea_nil))) (by rfl)) (sx_one (sx_ret (ex_tup (ea_cons (xv 3) ea_nil)))) sx_nil)
    (sx_cons (sx_if (et_cmp (m_eq hr.units) (xv 3) (ex_strc [115, 101, 101, 110] (by decide +kernel)) (nomark _)) (sx_one (sx_ret (ex_tup (ea_cons (xv 3) (ea_cons (ex_callTs s_tuple (by rfl) z_tuple bt_tuple (es_el (el_comp (own := [(("k" : PySem.Str), 4)]) (by rfl) sc__law_sized_gauge.nd (ei_range1 (by rfl) z_range (ex_op m_add ex_int (ex_c1 c__law_draw tk hr (by decide) (ea_cons (xv 0) (ea_cons (xv 2) ea_nil))))) (blkOk_by (N := N__law_sized_gauge) (sc := (defScope s__law_sized_gauge)) (by decide +kernel)) (fun _ _ _ _ _ => (eg_name sc__law_sized_gauge.nd)) (fun _ _ _ _ _ => ets_nil) (fun _ _ _ _ _ => (ex_c1 c__law_draw tk0 hr (by decide) (ea_cons (xv 0) (ea_cons (xv 1) ea_nil))))))) ea_nil))))) sx_nil)
    (sx_cons (sx_if (et_cmp (m_eq hr.units) (xv 3) (ex_strc [115, 117, 109] (by decide +kernel)) (nomark _)) (sx_one (sx_ret (ex_tup (ea_cons (xv 3) (ea_cons (ex_callTs s_tuple (by rfl) z_tuple bt_tuple (es_el (el_comp (own := [(("k" : PySem.Str), 4)]) (by rfl) sc__law_sized_gauge.nd (ei_range1 (by rfl) z_range (xv 1)) (blkOk_by (N := N__law_sized_gauge) (sc := (defScope s__law_sized_gauge)) (by decide +kernel)) (fun _ _ _ _ _ => (eg_name sc__law_sized_gauge.nd)) (fun _ _ _ _ _ => ets_nil) (fun _ _ _ _ _ => (ex_c1 c__law_draw tk0 hr (by decide) (ea_cons (xv 0) (ea_cons ex_int ea_nil))))))) (ea_cons (ex_op m_add ex_int (ex_c1 c__law_draw tk hr (by decide) (ea_cons (xv 0) (ea_cons (xv 2) ea_nil)))) ea_nil)))))) sx_nil)
    (sx_cons (sx_if (et_cmp (m_eq hr.units) (xv 3) (ex_strc [114, 101, 115, 116] (by decide +kernel)) (nomark _)) (sx_one (sx_ret (ex_tup (ea_cons (xv 3) (ea_cons (ex_c1 c__law_subset tk hr (by decide) (ea_cons (xv 0) (ea_cons (xv 1) ea_nil))) (ea_cons (ex_op m_add ex_int (ex_c1 c__law_draw tk hr (by decide) (ea_cons (xv 0) (ea_cons (xv 2) ea_nil)))) ea_nil)))))) sx_nil)
    (sx_one (sx_ret (ex_tup (ea_cons (xv 3) (ea_cons (ex_c1 c__law_subset tk hr (by decide) (ea_cons (xv 0) (ea_cons (xv 1) ea_nil))) (ea_cons (ex_op m_add ex_int (ex_c1 c__law_draw tk hr (by decide) (ea_cons (xv 0) (ea_cons (xv 2) ea_nil)))) ea_nil)))))))))))
def N__law_edge_plan : List PySem.Str := ["d", "pair", "one", "plan", "more", "top", "kinds"]
theorem sc__law_edge_plan : FnScope N__law_edge_plan ["d"] (defScope s__law_edge_plan) := ⟨rfl, rfl, rfl, by decide +kernel, rfl, by decide +kernel, by decide +kernel⟩
def m__law_edge_plan (f__law_shuffled : FM) (f__law_draw : FM) (f__law_pick : FM) : SM := (sSeq (sSet 1 (eCall 2 f__law_shuffled (aCons (eVar 0) (aCons (eLst (aCons (eC (.int 0)) (aCons (eC (.int 1)) aNil))) aNil))))
    (sSeq (sSet 2 (eTup (aCons (eBin oIx (eVar 1) (eC (.int 0))) aNil)))
    (sSeq (sSet 3 (eCall 2 f__law_draw (aCons (eVar 0) (aCons (eC (.int 6)) aNil))))
    (sSeq (sSet 4 (eCall 2 f__law_draw (aCons (eVar 0) (aCons (eC (.int 2)) aNil))))
    (sSeq (sIf (tBl (eBin oLt (eVar 3) (eC (.int 2)))) (sSeq (sSet 5 (eBin oAdd (eC (.int 9)) (eCall 2 f__law_draw (aCons (eVar 0) (aCons (eC (.int 4)) aNil)))))
    (sRet (eTup (aCons (eC (.int 1)) (aCons (eLst (aCons (eTup (aCons (eC (.str [114, 101, 115, 116])) (aCons (eTup (aCons (eC (.int 0)) aNil)) (aCons (eC (.int 5)) aNil)))) (aCons (eTup (aCons (eC (.str [114, 101, 115, 116])) (aCons (eTup (aCons (eC (.int 0)) aNil)) (aCons (eC (.int 6)) aNil)))) (aCons (eTup (aCons (eCall 2 f__law_pick (aCons (eVar 0) (aCons (eLst (aCons (eC (.str [99, 111, 117, 110, 116])) (aCons (eC (.str [114, 117, 110])) aNil))) aNil))) (aCons (eTup (aCons (eC (.int 0)) aNil)) (aCons (eVar 5) aNil)))) aNil)))) aNil))))) sNil)
    (sSeq (sIf (tBl (eBin oEq (eVar 3) (eC (.int 2)))) (sRet (eTup (aCons (eC (.int 2)) (aCons (eLst (aCons (eTup (aCons (eC (.str [99, 111, 117, 110, 116])) (aCons (eVar 2) (aCons (eC (.int 4)) aNil)))) (aCons (eTup (aCons (eC (.str [99, 111, 117, 110, 116])) (aCons (eTup (aCons (eBin oIx (eVar 1) (eC (.int 1))) aNil)) (aCons (eBin oAdd (eC (.int 7)) (eVar 4)) aNil)))) aNil))) aNil)))) sNil)
    (sSeq (sIf (tBl (eBin oEq (eVar 3) (eC (.int 3)))) (sRet (eTup (aCons (eC (.int 2)) (aCons (eLst (aCons (eTup (aCons (eC (.str [99, 111, 117, 110, 116])) (aCons (eVar 2) (aCons (eBin oAdd (eC (.int 9)) (eVar 4)) aNil)))) (aCons (eTup (aCons (eC (.str [114, 117, 110])) (aCons (eVar 2) (aCons (eC (.int 4)) aNil)))) aNil))) aNil)))) sNil)
    (sSeq (sIf (tBl (eBin oEq (eVar 3) (eC (.int 4)))) (sRet (eTup (aCons (eC (.int 2)) (aCons (eLst (aCons (eTup (aCons (eC (.str [99, 111, 117, 110, 116])) (aCons (eVar 2) (aCons (eC (.int 4)) aNil)))) (aCons (eTup (aCons (eC (.str [99, 111, 117, 110, 116])) (aCons (eTup (aCons (eBin oIx (eVar 1) (eC (.int 1))) aNil)) (aCons (eC (.int 4)) aNil)))) (aCons (eTup (aCons (eC (.str [108, 97, 115, 116])) aNil)) aNil)))) aNil)))) sNil)
    (sSeq (sSet 6 (eBin oAdd (eC (.int 4)) (eVar 4)))
    (sRet (eTup (aCons (eVar 6) (aCons (eLst (aCons (eTup (aCons (eC (.str [108, 97, 115, 116])) aNil)) (aCons (eTup (aCons (eC (.str [99, 111, 117, 110, 116])) (aCons (eTup (aCons (eCall 2 f__law_draw (aCons (eVar 0) (aCons (eVar 6) aNil))) aNil)) (aCons (eBin oAdd (eC (.int 7)) (eCall 2 f__law_draw (aCons (eVar 0) (aCons (eC (.int 3)) aNil)))) aNil)))) aNil))) aNil)))))))))))))
theorem ok__law_edge_plan {P : Program} {w : World} {K : PySem.W.Frag} {mg : PySem.Str → Option Value} {base : Heap} {f : Addr} {fd : FuncData} {f__law_shuffled f__law_draw f__law_pick : FM} (F : FnP K "_law_edge_plan" s__law_edge_plan f fd) (gx : mg "_law_edge_plan" = some (.ref f)) (c__law_shuffled : Cal P w K mg base "_law_shuffled" 2 ["d", "row"] f__law_shuffled) (c__law_draw : Cal P w K mg base "_law_draw" 1 ["d", "many"] f__law_draw) (c__law_pick : Cal P w K mg base "_law_pick" 2 ["d", "row"] f__law_pick) :
    Cal P w K mg base "_law_edge_plan" 3 ["d"] (runB 7 (m__law_edge_plan f__law_shuffled f__law_draw f__law_pick)) :=
  cal_mk (k := 2) F sc__law_edge_plan gx (fun _ _ _ _ _ _ us hl => match us, hl with | [_], _ => rfl) fun cdv A outer s H E hr tk hp =>
    (sx_cons (sx_set sc__law_edge_plan.nd (ex_c1 c__law_shuffled tk hr (by decide) (ea_cons (xv 0) (ea_cons (ex_lst (ea_cons ex_int (ea_cons ex_int ea_nil))) ea_nil))))
    (sx_cons (sx_set sc__law_edge_plan.nd (ex_tup (ea_cons (ex_ix (m_ix hr.units65) (xv 1) ex_int) ea_nil)))
    (sx_cons (sx_set sc__law_edge_plan.nd (ex_c1 c__law_draw tk hr (by decide) (ea_cons (xv 0) (ea_cons ex_int ea_nil))))
    (sx_cons (sx_set sc__law_edge_plan.nd (ex_c1 c__law_draw tk hr (by decide) (ea_cons (xv 0) (ea_cons ex_int ea_nil))))
    (sx_cons (sx_if (et_cmp (m_lt hr.units65) (xv 3) ex_int (nomark _)) (sx_cons (sx_set sc__law_edge_plan.nd (ex_op m_add ex_int (ex_c1 c__law_draw tk hr (by decide) (ea_cons (xv 0) (ea_cons ex_int ea_nil)))))
    (sx_one (sx_ret (ex_tup (ea_cons ex_int (ea_cons (ex_lst (ea_cons (ex_tup (ea_cons (ex_strc [114, 101, 115, 116] (by decide +kernel)) (ea_cons (ex_tup (ea_cons ex_int ea_nil)) (ea_cons ex_int ea_nil)))) (ea_cons (ex_tup (ea_cons (ex_strc [114, 101, 115, 116] (by decide +kernel)) (ea_cons (ex_tup (ea_cons ex_int ea_nil)) (ea_cons ex_int ea_nil)))) (ea_cons (ex_tup (ea_cons (ex_c1 c__law_pick tk hr (by decide) (ea_cons (xv 0) (ea_cons (ex_lst (ea_cons (ex_strc [99, 111, 117, 110, 116] (by decide +kernel)) (ea_cons (ex_strc [114, 117, 110] (by decide +kernel)) ea_nil))) ea_nil))) (ea_cons (ex_tup (ea_cons ex_int ea_nil)) (ea_cons (xv 5) ea_nil)))) ea_nil)))) ea_nil)))))) sx_nil)
    (sx_cons (sx_if (et_cmp (m_eq hr.units) (xv 3) ex_int (nomark _)) (sx_one (sx_ret (ex_tup (ea_cons ex_int (ea_cons (ex_lst (ea_cons (ex_tup (ea_cons (ex_strc [99, 111, 117, 110, 116] (by decide +kernel)) (ea_cons (xv 2) (ea_cons ex_int ea_nil)))) (ea_cons (ex_tup (ea_cons (ex_strc [99, 111, 117, 110, 116] (by decide +kernel)) (ea_cons (ex_tup (ea_cons (ex_ix (m_ix hr.units65) (xv 1) ex_int) ea_nil)) (ea_cons (ex_op m_add ex_int (xv 4)) ea_nil)))) ea_nil))) ea_nil))))) sx_nil)
    (sx_cons (sx_if (et_cmp (m_eq hr.units) (xv 3) ex_int (nomark _)) (sx_one (sx_ret (ex_tup (ea_cons ex_int (ea_cons (ex_lst (ea_cons (ex_tup (ea_cons (ex_strc [99, 111, 117, 110, 116] (by decide +kernel)) (ea_cons (xv 2) (ea_cons (ex_op m_add ex_int (xv 4)) ea_nil)))) (ea_cons (ex_tup (ea_cons (ex_strc [114, 117, 110] (by decide +kernel)) (ea_cons (xv 2) (ea_cons ex_int ea_nil)))) ea_nil))) ea_nil))))) sx_nil)
    (sx_cons (sx_if (et_cmp (m_eq hr.units) (xv 3) ex_int (nomark _)) (sx_one (sx_ret (ex_tup (ea_cons ex_int (ea_cons (ex_lst (ea_cons (ex_tup (ea_cons (ex_strc [99, 111, 117, 110, 116] (by decide +kernel)) (ea_cons (xv 2) (ea_cons ex_int ea_nil)))) (ea_cons (ex_tup (ea_cons (ex_strc [99, 111, 117, 110, 116] (by decide +kernel)) (ea_cons (ex_tup (ea_cons (ex_ix (m_ix hr.units65) (xv 1) ex_int) ea_nil)) (ea_cons ex_int ea_nil)))) (ea_cons (ex_tup (ea_cons (ex_strc [108, 97, 115, 116] (by decide +kernel)) ea_nil)) ea_nil)))) ea_nil))))) sx_nil)
    (sx_cons (sx_set sc__law_edge_plan.nd (ex_op m_add ex_int (xv 4)))
    (sx_one (sx_ret (ex_tup (ea_cons (xv 6) (ea_cons (ex_lst (ea_cons (ex_tup (ea_cons (ex_strc [108, 97, 115, 116] (by decide +kernel)) ea_nil)) (ea_cons (ex_tup (ea_cons (ex_strc [99, 111, 117, 110, 116] (by decide +kernel)) (ea_cons (ex_tup (ea_cons (ex_c1 c__law_draw tk hr (by decide) (ea_cons (xv 0) (ea_cons (xv 6) ea_nil))) ea_nil)) (ea_cons (ex_op m_add ex_int (ex_c1 c__law_draw tk hr (by decide) (ea_cons (xv 0) (ea_cons ex_int ea_nil)))) ea_nil)))) ea_nil))) ea_nil))))))))))))))
def N__law_plan : List PySem.Str := ["d", "style", "plan", "kinds", "k"]
theorem sc__law_plan : FnScope N__law_plan ["d"] (defScope s__law_plan) := ⟨rfl, rfl, rfl, by decide +kernel, rfl, by decide +kernel, by decide +kernel⟩
def m__law_plan (f__law_draw : FM) (f__law_edge_plan : FM) (f__law_shuffled : FM) (f__law_wide_gauge : FM) (f__law_sized_gauge : FM) : SM := (sSeq (sSet 1 (eCall 2 f__law_draw (aCons (eVar 0) (aCons (eC (.int 6)) aNil))))
    (sSeq (sIf (tBl (eBin oGt (eVar 1) (eC (.int 3)))) (sSeq (sSet 2 (eCall 1 f__law_edge_plan (aCons (eVar 0) aNil)))
    (sRet (eTup (aCons (eBin oIx (eVar 2) (eC (.int 0))) (aCons (eCB fTuple (aCons (eCall 2 f__law_shuffled (aCons (eVar 0) (aCons (eBin oIx (eVar 2) (eC (.int 1))) aNil))) aNil)) aNil))))) sNil)
    (sSeq (sSet 3 (eBin oAdd (eC (.int 1)) (eCall 2 f__law_draw (aCons (eVar 0) (aCons (eC (.int 5)) aNil)))))
    (sSeq (sIf (tBl (eBin oEq (eVar 1) (eC (.int 0)))) (sRet (eTup (aCons (eVar 3) (aCons (eCS gTuple (lComp [4] (iRg1 (eCB fMin2 (aCons (eC (.int 1)) (aCons (eCall 2 f__law_draw (aCons (eVar 0) (aCons (eC (.int 4)) aNil))) aNil)))) (gN 4) tYes (eCall 2 f__law_wide_gauge (aCons (eVar 0) (aCons (eVar 3) aNil))))) aNil)))) sNil)
    (sSeq (sIf (tBl (eBin oEq (eVar 1) (eC (.int 1)))) (sRet (eTup (aCons (eVar 3) (aCons (eCS gTuple (lComp [4] (iRg1 (eC (.int 2))) (gN 4) tYes (eCall 3 f__law_sized_gauge (aCons (eVar 0) (aCons (eVar 3) (aCons (eC (.int 5)) aNil)))))) aNil)))) sNil)
    (sSeq (sIf (tBl (eBin oEq (eVar 1) (eC (.int 2)))) (sRet (eTup (aCons (eVar 3) (aCons (eCS gTuple (lComp [4] (iRg1 (eC (.int 3))) (gN 4) tYes (eCall 3 f__law_sized_gauge (aCons (eVar 0) (aCons (eVar 3) (aCons (eC (.int 3)) aNil)))))) aNil)))) sNil)
    (sRet (eTup (aCons (eVar 3) (aCons (eCS gTuple (lComp [4] (iRg1 (eBin oAdd (eC (.int 4)) (eCall 2 f__law_draw (aCons (eVar 0) (aCons (eC (.int 3)) aNil))))) (gN 4) tYes (eCall 3 f__law_sized_gauge (aCons (eVar 0) (aCons (eVar 3) (aCons (eC (.int 1)) aNil)))))) aNil))))))))))
theorem ok__law_plan {P : Program} {w : World} {K : PySem.W.Frag} {mg : PySem.Str → Option Value} {base : Heap} {f : Addr} {fd : FuncData} {f__law_draw f__law_edge_plan f__law_shuffled f__law_wide_gauge f__law_sized_gauge : FM} (F : FnP K "_law_plan" s__law_plan f fd) (gx : mg "_law_plan" = some (.ref f)) (c__law_draw : Cal P w K mg base "_law_draw" 1 ["d", "many"] f__law_draw) (c__law_edge_plan : Cal P w K mg base "_law_edge_plan" 3 ["d"] f__law_edge_plan) (c__law_shuffled : Cal P w K mg base "_law_shuffled" 2 ["d", "row"] f__law_shuffled) (c__law_wide_gauge : Cal P w K mg base "_law_wide_gauge" 3 ["d", "kinds"] f__law_wide_gauge) (c__law_sized_gauge : Cal P w K mg base "_law_sized_gauge" 3 ["d", "kinds", "most"] f__law_sized_gauge) (z_tuple : mg "tuple" = none) (z_range : mg "range" = none) (z_min : mg "min" = none) :
    Cal P w K mg base "_law_plan" 4 ["d"] (runB 5 (m__law_plan f__law_draw f__law_edge_plan f__law_shuffled f__law_wide_gauge f__law_sized_gauge)) :=
  cal_mk (k := 3) F sc__law_plan gx (fun _ _ _ _ _ _ us hl => match us, hl with | [_], _ => rfl) fun cdv A outer s H E hr tk hp =>
    (sx_cons (sx_set sc__law_plan.nd (ex_c1 c__law_draw tk hr (by decide) (ea_cons (xv 0) (ea_cons ex_int ea_nil))))
    (sx_cons (sx_if (et_cmp m_gt (xv 1) ex_int (nomark _)) (sx_cons (sx_set sc__law_plan.nd (ex_c1 c__law_edge_plan tk hr (by decide) (ea_cons (xv 0) ea_nil)))
    (sx_one (sx_ret (ex_tup (ea_cons (ex_ix (m_ix hr.units65) (xv 2) ex_int) (ea_cons (ex_callT c_tuple (by rfl) z_tuple bt_tuple (ea_cons (ex_c1 c__law_shuffled tk hr (by decide) (ea_cons (xv 0) (ea_cons (ex_ix (m_ix hr.units65) (xv 2) ex_int) ea_nil))) ea_nil)) ea_nil)))))) sx_nil)
    (sx_cons (sx_set sc__law_plan.nd (ex_op m_add ex_int (ex_c1 c__law_draw tk hr (by decide) (ea_cons (xv 0) (ea_cons ex_int ea_nil)))))
    (sx_cons (sx_if (et_cmp (m_eq hr.units) (xv 1) ex_int (nomark _)) (sx_one (sx_ret (ex_tup (ea_cons (xv 3) (ea_cons (ex_callTs s_tuple (by rfl) z_tuple bt_tuple (es_el (el_comp (own := [(("k" : PySem.Str), 4)]) (by rfl) sc__law_plan.nd (ei_range1 (by rfl) z_range (ex_callB (c_min2 (by rfl)) (by rfl) z_min bt_min (ea_cons ex_int (ea_cons (ex_c1 c__law_draw tk hr (by decide) (ea_cons (xv 0) (ea_cons ex_int ea_nil))) ea_nil)))) (blkOk_by (N := N__law_plan) (sc := (defScope s__law_plan)) (by decide +kernel)) (fun _ _ _ _ _ => (eg_name sc__law_plan.nd)) (fun _ _ _ _ _ => ets_nil) (fun _ _ _ _ _ => (ex_c1 c__law_wide_gauge tk0 hr (by decide) (ea_cons (xv 0) (ea_cons (xv 3) ea_nil))))))) ea_nil))))) sx_nil)
    (sx_cons (sx_if (et_cmp (m_eq hr.units) (xv 1) ex_int (nomark _)) (sx_one (sx_ret (ex_tup (ea_cons (xv 3) (ea_cons (ex_callTs s_tuple (by rfl) z_tuple bt_tuple (es_el (el_comp (own := [(("k" : PySem.Str), 4)]) (by rfl) sc__law_plan.nd (ei_range1 (by rfl) z_range ex_int) (blkOk_by (N := N__law_plan) (sc := (defScope s__law_plan)) (by decide +kernel)) (fun _ _ _ _ _ => (eg_name sc__law_plan.nd)) (fun _ _ _ _ _ => ets_nil) (fun _ _ _ _ _ => (ex_c1 c__law_sized_gauge tk0 hr (by decide) (ea_cons (xv 0) (ea_cons (xv 3) (ea_cons ex_int ea_nil)))))))) ea_nil))))) sx_nil)
    (sx_cons (sx_if (et_cmp (m_eq hr.units) (xv 1) ex_int (nomark _)) (sx_one (sx_ret (ex_tup (ea_cons (xv 3) (ea_cons (ex_callTs s_tuple (by rfl) z_tuple bt_tuple (es_el (el_comp (own := [(("k" : PySem.Str), 4)]) (by rfl) sc__law_plan.nd (ei_range1 (by rfl) z_range ex_int) (blkOk_by (N := N__law_plan) (sc := (defScope s__law_plan)) (by decide +kernel)) (fun _ _ _ _ _ => (eg_name sc__law_plan.nd)) (fun _ _ _ _ _ => ets_nil) (fun _ _ _ _ _ => (ex_c1 c__law_sized_gauge tk0 hr (by decide) (ea_cons (xv 0) (ea_cons (xv 3) (ea_cons ex_int ea_nil)))))))) ea_nil))))) sx_nil)
    (sx_one (sx_ret (ex_tup (ea_cons (xv 3) (ea_cons (ex_callTs s_tuple (by rfl) z_tuple bt_tuple (es_el (el_comp (own := [(("k" : PySem.Str), 4)]) (by rfl) sc__law_plan.nd (ei_range1 (by rfl) z_range (ex_op m_add ex_int (ex_c1 c__law_draw tk hr (by decide) (ea_cons (xv 0) (ea_cons ex_int ea_nil))))) (blkOk_by (N := N__law_plan) (sc := (defScope s__law_plan)) (by decide +kernel)) (fun _ _ _ _ _ => (eg_name sc__law_plan.nd)) (fun _ _ _ _ _ => ets_nil) (fun _ _ _ _ _ => (ex_c1 c__law_sized_gauge tk0 hr (by decide) (ea_cons (xv 0) (ea_cons (xv 3) (ea_cons ex_int ea_nil)))))))) ea_nil)))))))))))
def N__law_same : List PySem.Str := ["thing", "due", "k"]
theorem sc__law_same : FnScope N__law_same ["thing", "due"] (defScope s__law_same) := ⟨rfl, rfl, rfl, by decide +kernel, rfl, by decide +kernel, by decide +kernel⟩
def m__law_same (f__law_same : FM) (f__law_is_int : FM) : SM := (sSeq (sIf (tVal (eCB fIsi (aCons (eVar 1) (aCons (eC (.ty "tuple")) aNil)))) (sSeq (sIf (tOr (HM.tNot (tVal (eCB fIsi (aCons (eVar 0) (aCons (eC (.ty "tuple")) aNil))))) (tBl (eBin oNe (eCB fLen (aCons (eVar 0) aNil)) (eCB fLen (aCons (eVar 1) aNil))))) (sRet (eC (.bl false))) sNil)
    (sRet (eCS gAllB (lComp [2] (iRg1 (eCB fLen (aCons (eVar 1) aNil))) (gN 2) tYes (eCall 2 f__law_same (aCons (eBin oIx (eVar 0) (eVar 2)) (aCons (eBin oIx (eVar 1) (eVar 2)) aNil))))))) sNil)
    (sSeq (sIf (tVal (eCB fIsi (aCons (eVar 1) (aCons (eC (.ty "str")) aNil)))) (sRet (eAnd (eCB fIsi (aCons (eVar 0) (aCons (eC (.ty "str")) aNil))) (eBin oEq (eVar 0) (eVar 1)))) sNil)
    (sRet (eAnd (eCall 1 f__law_is_int (aCons (eVar 0) aNil)) (eBin oEq (eVar 0) (eVar 1))))))
theorem ok__law_same {P : Program} {w : World} {K : PySem.W.Frag} {mg : PySem.Str → Option Value} {base : Heap} {f : Addr} {fd : FuncData} {f__law_is_int : FM} {f__law_same : FM} {j : Nat} (hj : 1 ≤ j) (F : FnP K "_law_same" s__law_same f fd) (gx : mg "_law_same" = some (.ref f)) (c__law_is_int : Cal P w K mg base "_law_is_int" 1 ["thing"] f__law_is_int) (z_tuple : mg "tuple" = none) (z_isinstance : mg "isinstance" = none) (z_len : mg "len" = none) (z_range : mg "range" = none) (z_all : mg "all" = none) (z_str : mg "str" = none) (c__law_same : Cal P w K mg base "_law_same" j ["thing", "due"] f__law_same) :
    Cal P w K mg base "_law_same" (j + 1) ["thing", "due"] (runB 3 (m__law_same f__law_same f__law_is_int)) :=
  cal_mk (k := j) F sc__law_same gx (fun _ _ _ _ _ _ us hl => match us, hl with | [_, _], _ => rfl) fun cdv A outer s H E hr tk hp =>
    (sx_cons (sx_if (et_val (ex_callB c_isi (by rfl) z_isinstance bt_isinstance (ea_cons (xv 1) (ea_cons (ex_bltn (by rfl) z_tuple bt_tuple (by rfl) (fun _ _ => .ty _)) ea_nil)))) (sx_cons (sx_if (Ew.et (ew_or (et_not (et_val (ex_callB c_isi (by rfl) z_isinstance bt_isinstance (ea_cons (xv 0) (ea_cons (ex_bltn (by rfl) z_tuple bt_tuple (by rfl) (fun _ _ => .ty _)) ea_nil))))) (ew_or1 (et_cmp (m_ne hr.units) (ex_callB c_len (by rfl) z_len bt_len (ea_cons (xv 0) ea_nil)) (ex_callB c_len (by rfl) z_len bt_len (ea_cons (xv 1) ea_nil)) (nomark _))))) (sx_one (sx_ret ex_bl)) sx_nil)
    (sx_one (sx_ret (ex_callBl (s_all (by rfl)) (by rfl) z_all bt_all (esl_el (el_comp (own := [(("k" : PySem.Str), 2)]) (by rfl) sc__law_same.nd (ei_range1 (by rfl) z_range (ex_callB c_len (by rfl) z_len bt_len (ea_cons (xv 1) ea_nil))) (blkOk_by (N := N__law_same) (sc := (defScope s__law_same)) (by decide +kernel)) (fun _ _ _ _ _ => (eg_name sc__law_same.nd)) (fun _ _ _ _ _ => ets_nil) (fun _ _ _ _ _ => (ex_c1 c__law_same tk0 hr (by omega) (ea_cons (ex_ix (m_ix hr.units65) (xv 0) (xv 2)) (ea_cons (ex_ix (m_ix hr.units65) (xv 1) (xv 2)) ea_nil)))))))))) sx_nil)
    (sx_cons (sx_if (et_val (ex_callB c_isi (by rfl) z_isinstance bt_isinstance (ea_cons (xv 1) (ea_cons (ex_bltn (by rfl) z_str bt_str (by rfl) (fun _ _ => .ty _)) ea_nil)))) (sx_one (sx_ret (ex_and (ex_callB c_isi (by rfl) z_isinstance bt_isinstance (ea_cons (xv 0) (ea_cons (ex_bltn (by rfl) z_str bt_str (by rfl) (fun _ _ => .ty _)) ea_nil))) (ex_one (ex_cmp (m_eq hr.units) (xv 0) (xv 1) (nomark _)))))) sx_nil)
    (sx_one (sx_ret (ex_and (ex_c1 c__law_is_int tk hr (by omega) (ea_cons (xv 0) ea_nil)) (ex_one (ex_cmp (m_eq hr.units) (xv 0) (xv 1) (nomark _))))))))
def fr__law_same (f__law_is_int : FM) : Nat → FM
  | 0 => runB 3 (fun _ _ => .bad)
  | m + 1 => runB 3 (m__law_same (fr__law_same f__law_is_int m) f__law_is_int)
theorem rec__law_same {P : Program} {w : World} {K : PySem.W.Frag} {mg : PySem.Str → Option Value} {base : Heap} {f : Addr} {fd : FuncData} {f__law_is_int : FM} (F : FnP K "_law_same" s__law_same f fd) (gx : mg "_law_same" = some (.ref f)) (c__law_is_int : Cal P w K mg base "_law_is_int" 1 ["thing"] f__law_is_int) (z_tuple : mg "tuple" = none) (z_isinstance : mg "isinstance" = none) (z_len : mg "len" = none) (z_range : mg "range" = none) (z_all : mg "all" = none) (z_str : mg "str" = none) : ∀ m : Nat, Cal P w K mg base "_law_same" (1 + 1 + m) ["thing", "due"] (fr__law_same f__law_is_int m)
  | 0 => cal_mk (k := 1) F sc__law_same gx (fun _ _ _ _ _ _ us hl => match us, hl with | [_, _], _ => rfl) fun cdv A outer s H E hr tk hp => ⟨fun _ _ _ _ _ _ _ _ hP => hP.elim⟩
  | m + 1 => ok__law_same (j := 1 + 1 + m) (by omega) F gx c__law_is_int z_tuple z_isinstance z_len z_range z_all z_str (rec__law_same F gx c__law_is_int z_tuple z_isinstance z_len z_range z_all z_str m)
def N__law_is_refused : List PySem.Str := ["kinds", "gauges", "e"]
theorem sc__law_is_refused : FnScope N__law_is_refused ["kinds", "gauges"] (defScope s__law_is_refused) := ⟨rfl, rfl, rfl, by decide +kernel, rfl, by decide +kernel, by decide +kernel⟩
def m__law_is_refused (f_machine : FM) : SM := (sSeq (sTryAs 2 (sExpr (eCall 2 f_machine (aCons (eVar 0) (aCons (eVar 1) aNil)))) (mtO (tbM tM "ReleaseError")) (fun xc a d => (sSeq (sIf (tOr (HM.tNot (tVal (eIs 2 a d (isT (lkX tX) xc.cls "TooMany")))) (tOr (tVal (eIs 2 a d (isT (lkX tX) xc.cls "ProgramError"))) (tVal (eIs 2 a d (isT (lkX tX) xc.cls "Unlike"))))) (sRet (eC (.bl false))) sNil)
    (sRet (eAnd (eIs 2 a d (isT (lkB tB "ValueError") xc.cls "ValueError")) (eBin oEq (eFc (isF (flO tO) xc.cls "part") 2 a d "part") (eC (.str [115, 116, 97, 116, 101, 115]))))))))
    (sRet (eC (.bl false))))
theorem ok__law_is_refused {P : Program} {w : World} {K : PySem.W.Frag} {mg : PySem.Str → Option Value} {base : Heap} {f : Addr} {fd : FuncData} {f_machine : FM} (F : FnP K "_law_is_refused" s__law_is_refused f fd) (gx : mg "_law_is_refused" = some (.ref f)) (c_machine : Cal P w K mg base "machine" 4 ["kinds", "gauges"] f_machine) (z_isinstance : mg "isinstance" = none) (z_ValueError : mg "ValueError" = none) (eM : ∀ r ∈ tM, Exm K mg r.1 r.2) (eO : ∀ r ∈ tO, Own P K mg r.1 r.2) (eX : ∀ r ∈ tX, Isx K mg r.1 r.2.1 r.2.2) (eB : ∀ r ∈ tB, Isb K r.1 r.2.1 r.2.2) :
    Cal P w K mg base "_law_is_refused" 5 ["kinds", "gauges"] (runB 3 (m__law_is_refused f_machine)) :=
  cal_mk (k := 4) F sc__law_is_refused gx (fun _ _ _ _ _ _ us hl => match us, hl with | [_, _], _ => rfl) fun cdv A outer s H E hr tk hp =>
    (sx_cons (sx_tryAs (by rfl) (by rfl) sc__law_is_refused.nd (by rfl) (by rfl) (by rfl) (eM ("TooMany", "ReleaseError") (List.mem_of_getElem? (i := 0) rfl)).glob tk (tbM_ok eM) (fun _ _ _ t1 t2 => (sx_one (sx_expr (ex_c1 c_machine t1 hr (by decide) (ea_cons (xv 0) (ea_cons (xv 1) ea_nil)))))) (fun a oe d pn xc c hcn htab hz hfd => let hC := tbM_is eM htab; (sx_cons (sx_if (Ew.et (ew_or (et_not (et_val (ex_isT hcn (ex_isX hC (lkX_ok eX) hz hfd (by rfl) (.inl rfl) (by rfl) (by rfl) z_isinstance)))) (ew_or (et_val (ex_isT hcn (ex_isX hC (lkX_ok eX) hz hfd (by rfl) (.inl rfl) (by rfl) (by rfl) z_isinstance))) (ew_or1 (et_val (ex_isT hcn (ex_isX hC (lkX_ok eX) hz hfd (by rfl) (.inl rfl) (by rfl) (by rfl) z_isinstance))))))) (sx_one (sx_ret ex_bl)) sx_nil)
    (sx_one (sx_ret (ex_and (ex_isT (y := "ValueError") (tab := lkB tB "ValueError") hcn (ex_isB (T := "ValueError") hC (lkB_ok eB) hz hfd (by rfl) (.inl rfl) (by rfl) z_ValueError boot_ValueError (by rfl) z_isinstance)) (ex_one (ex_cmp (m_eq hr.units) (ex_fT hcn (ex_flX (fl := flO tO) (flO_ok eO) hC hz hfd (by rfl) (.inl rfl))) (ex_strc [115, 116, 97, 116, 101, 115] (by decide +kernel)) (nomark _)))))))) (by intro xc; repeat (first | exact inds_nil | refine inds_ret ?_ | refine inds_seq ?_ ?_ | refine inds_if ?_ ?_ ?_ | exact ind_is | exact ind_fc | exact ind_c | exact ind_v (by decide) | exact ind_aNil | refine ind_aCons ?_ ?_ | refine ind_tup ?_ | refine ind_bin ?_ ?_ | refine ind_and ?_ ?_ | refine ind_or ?_ ?_ | refine ind_not ?_ | refine ind_tVal ?_ | refine ind_tBl ?_ | refine ind_tNot ?_ | refine ind_tOr ?_ ?_ | refine ind_tAnd ?_ ?_ | refine ind_eIf ?_ ?_ ?_ | refine ind_call ?_ | refine ind_cb ?_)))
    (sx_one (sx_ret ex_bl)))
def N__law_least_tables : List PySem.Str := ["reader", "found", "met", "at", "kind", "behind"]
theorem sc__law_least_tables : FnScope N__law_least_tables ["reader"] (defScope s__law_least_tables) := ⟨rfl, rfl, rfl, by decide +kernel, rfl, by decide +kernel, by decide +kernel⟩
def m__law_least_tables : SM := (sSeq (sSet 1 (eLst (aCons (eTup (aCons (eC (.int 0)) (aCons (eTup aNil) aNil))) aNil)))
    (sSeq (sSet 2 (eDct1 (eC (.int 0)) (eC (.bl true))))
    (sSeq (sSet 3 (eC (.int 0)))
    (sSeq (whileN (tBl (eBin oLt (eVar 3) (eCB fLen (aCons (eVar 1) aNil)))) (sSeq (sFor (iRg1 (eCB fLen (aCons (eBin oIx (eBin oIx (eVar 0) (eC (.int 1))) (eC (.int 0))) aNil))) (gN 4) (sSeq (sSet 5 (eBin oIx (eBin oIx (eBin oIx (eVar 0) (eC (.int 1))) (eBin oIx (eBin oIx (eVar 1) (eVar 3)) (eC (.int 0)))) (eVar 4)))
    (sIf (tBl (eBin oNotIn (eVar 5) (eVar 2))) (sSeq (sSub (eVar 2) (eVar 5) (eC (.bl true)))
    (sExpr (eM "list" mAppend (eVar 1) (aCons (eTup (aCons (eVar 5) (aCons (eBin oAdd (eBin oIx (eBin oIx (eVar 1) (eVar 3)) (eC (.int 1))) (eTup (aCons (eVar 4) aNil))) aNil))) aNil)))) sNil)))
    (sAug 3 oIAdd (eC (.int 1)))) big)
    (sRet (eCB fTuple (aCons (eCB fSorted (aCons (eVar 1) aNil)) aNil)))))))
theorem ok__law_least_tables {P : Program} {w : World} {K : PySem.W.Frag} {mg : PySem.Str → Option Value} {base : Heap} {f : Addr} {fd : FuncData} (F : FnP K "_law_least_tables" s__law_least_tables f fd) (gx : mg "_law_least_tables" = some (.ref f)) (z_len : mg "len" = none) (z_range : mg "range" = none) (z_sorted : mg "sorted" = none) (z_tuple : mg "tuple" = none) :
    Cal P w K mg base "_law_least_tables" 1 ["reader"] (runB 6 (m__law_least_tables)) :=
  cal_mk (k := 0) F sc__law_least_tables gx (fun _ _ _ _ _ _ us hl => match us, hl with | [_], _ => rfl) fun cdv A outer s H E hr tk hp =>
    (sx_cons (sx_set sc__law_least_tables.nd (ex_lst (ea_cons (ex_tup (ea_cons ex_int (ea_cons (ex_tup ea_nil) ea_nil))) ea_nil)))
    (sx_cons (sx_set sc__law_least_tables.nd (ex_dct1 hr.units65 ex_int ex_bl))
    (sx_cons (sx_set sc__law_least_tables.nd ex_int)
    (sx_cons (sx_while big hp (et_cmp (m_lt hr.units65) (xv 3) (ex_callB c_len (by rfl) z_len bt_len (ea_cons (xv 1) ea_nil)) (nomark _)) (sx_cons (sx_for hp (by rfl) (ei_range1 (by rfl) z_range (ex_callB c_len (by rfl) z_len bt_len (ea_cons (ex_ix (m_ix hr.units65) (ex_ix (m_ix hr.units65) (xv 0) ex_int) ex_int) ea_nil))) (eg_name sc__law_least_tables.nd) (sx_cons (sx_set sc__law_least_tables.nd (ex_ix (m_ix hr.units65) (ex_ix (m_ix hr.units65) (ex_ix (m_ix hr.units65) (xv 0) ex_int) (ex_ix (m_ix hr.units65) (ex_ix (m_ix hr.units65) (xv 1) (xv 3)) ex_int)) (xv 4)))
    (sx_one (sx_if (et_cmp (m_notin hr.units65) (xv 5) (xv 2) (by rfl)) (sx_cons (sx_sub hr.units65 ex_bl (xv 2) (xv 5))
    (sx_one (sx_expr (ex_m PySem.F.plainAttrs_list PySem.F.slot_list_append PySem.F.type_list_append me_append (xv 1) (ea_cons (ex_tup (ea_cons (xv 5) (ea_cons (ex_op m_add (ex_ix (m_ix hr.units65) (ex_ix (m_ix hr.units65) (xv 1) (xv 3)) ex_int) (ex_tup (ea_cons (xv 4) ea_nil))) ea_nil))) ea_nil))))) sx_nil))))
    (sx_one (sx_aug sc__law_least_tables.nd ex_int mi_add))))
    (sx_one (sx_ret (ex_callT c_tuple (by rfl) z_tuple bt_tuple (ea_cons (ex_callB (c_sorted (by rfl) hr.units65) (by rfl) z_sorted bt_sorted (ea_cons (xv 1) ea_nil)) ea_nil))))))))
def N__law_values : List PySem.Str := ["gauges", "table", "gauge"]
theorem sc__law_values : FnScope N__law_values ["gauges", "table"] (defScope s__law_values) := ⟨rfl, rfl, rfl, by decide +kernel, rfl, by decide +kernel, by decide +kernel⟩
def m__law_values (f__law_told : FM) : SM := (sRet (eCS gTuple (lComp [2] (iEx (eVar 0)) (gN 2) tYes (eCall 2 f__law_told (aCons (eVar 2) (aCons (eVar 1) aNil))))))
theorem ok__law_values {P : Program} {w : World} {K : PySem.W.Frag} {mg : PySem.Str → Option Value} {base : Heap} {f : Addr} {fd : FuncData} {f__law_told : FM} (F : FnP K "_law_values" s__law_values f fd) (gx : mg "_law_values" = some (.ref f)) (c__law_told : Cal P w K mg base "_law_told" 1 ["gauge", "table"] f__law_told) (z_tuple : mg "tuple" = none) :
    Cal P w K mg base "_law_values" 2 ["gauges", "table"] (runB 3 (m__law_values f__law_told)) :=
  cal_mk (k := 1) F sc__law_values gx (fun _ _ _ _ _ _ us hl => match us, hl with | [_, _], _ => rfl) fun cdv A outer s H E hr tk hp =>
    (sx_one (sx_ret (ex_callTs s_tuple (by rfl) z_tuple bt_tuple (es_el (el_comp (own := [(("gauge" : PySem.Str), 2)]) (by rfl) sc__law_values.nd (ei_ex (xv 0)) (blkOk_by (N := N__law_values) (sc := (defScope s__law_values)) (by decide +kernel)) (fun _ _ _ _ _ => (eg_name sc__law_values.nd)) (fun _ _ _ _ _ => ets_nil) (fun _ _ _ _ _ => (ex_c1 c__law_told tk0 hr (by decide) (ea_cons (xv 2) (ea_cons (xv 1) ea_nil)))))))))
def N__law_holds : List PySem.Str := ["d", "kinds", "gauges", "due", "found", "most", "turn", "table", "state", "order", "turned", "bare", "row", "k", "kind"]
theorem sc__law_holds : FnScope N__law_holds ["d", "kinds", "gauges", "due"] (defScope s__law_holds) := ⟨rfl, rfl, rfl, by decide +kernel, rfl, by decide +kernel, by decide +kernel⟩
def m__law_holds (f_machine : FM) (f__law_same : FM) (f__law_rare : FM) (f__law_table : FM) (f_state_of : FM) (f__law_is_int : FM) (f__law_state : FM) (f__law_values : FM) (f_reached : FM) (f__law_least_tables : FM) (f__law_shuffled : FM) : SM := (sSeq (sSet 4 (eCall 2 f_machine (aCons (eVar 1) (aCons (eVar 2) aNil))))
    (sSeq (sIf (HM.tNot (tVal (eCall 2 f__law_same (aCons (eVar 4) (aCons (eVar 3) aNil))))) (sRet (eC (.bl false))) sNil)
    (sSeq (sSet 5 (eIf (tVal (eCall 2 f__law_rare (aCons (eVar 0) (aCons (eC (.int 9)) aNil)))) (eC (.int 400)) (eC (.int 9))))
    (sSeq (sFor (iRg1 (eC (.int 3))) (gN 6) (sSeq (sSet 7 (eCall 3 f__law_table (aCons (eVar 0) (aCons (eVar 1) (aCons (eVar 5) aNil)))))
    (sSeq (sSet 8 (eCall 2 f_state_of (aCons (eBin oIx (eVar 4) (eC (.int 0))) (aCons (eVar 7) aNil))))
    (sSeq (sIf (tOr (HM.tNot (tVal (eCall 1 f__law_is_int (aCons (eVar 8) aNil)))) (tBl (eBin oNe (eVar 8) (eCall 2 f__law_state (aCons (eBin oIx (eVar 3) (eC (.int 0))) (aCons (eVar 7) aNil)))))) (sRet (eC (.bl false))) sNil)
    (sIf (tBl (eBin oNe (eBin oIx (eBin oIx (eVar 4) (eC (.int 1))) (eVar 8)) (eCall 2 f__law_values (aCons (eVar 2) (aCons (eVar 7) aNil))))) (sRet (eC (.bl false))) sNil)))))
    (sSeq (sIf (HM.tNot (tVal (eCall 2 f__law_same (aCons (eCall 1 f_reached (aCons (eBin oIx (eVar 4) (eC (.int 0))) aNil)) (aCons (eCall 1 f__law_least_tables (aCons (eBin oIx (eVar 3) (eC (.int 0))) aNil)) aNil))))) (sRet (eC (.bl false))) sNil)
    (sSeq (sSet 9 (eCall 2 f__law_shuffled (aCons (eVar 0) (aCons (eRg1 kLst (eCB fLen (aCons (eVar 2) aNil))) aNil))))
    (sSeq (sSet 10 (eCS gTuple (lComp [12] (iEx (eBin oIx (eVar 3) (eC (.int 1)))) (gN 12) tYes (eCS gTuple (lComp [13] (iEx (eVar 9)) (gN 13) tYes (eBin oIx (eVar 12) (eVar 13)))))))
    (sSeq (sIf (HM.tNot (tVal (eCall 2 f__law_same (aCons (eCall 2 f_machine (aCons (eVar 1) (aCons (eCS gTuple (lComp [13] (iEx (eVar 9)) (gN 13) tYes (eBin oIx (eVar 2) (eVar 13)))) aNil))) (aCons (eTup (aCons (eBin oIx (eVar 3) (eC (.int 0))) (aCons (eVar 10) aNil))) aNil))))) (sRet (eC (.bl false))) sNil)
    (sSeq (sSet 11 (eTup (aCons (eTup (aCons (eC (.str [114, 101, 97, 100, 101, 114])) (aCons (eTup (aCons (eCS gTuple (lComp [14] (iRg1 (eVar 1)) (gN 14) tYes (eC (.int 0)))) aNil)) aNil))) (aCons (eTup (aCons (eTup aNil) aNil)) aNil))))
    (sSeq (sIf (HM.tNot (tVal (eCall 2 f__law_same (aCons (eCall 2 f_machine (aCons (eVar 1) (aCons (eTup aNil) aNil))) (aCons (eVar 11) aNil))))) (sRet (eC (.bl false))) sNil)
    (sRet (eCall 2 f__law_same (aCons (eCall 2 f_machine (aCons (eVar 1) (aCons (eVar 2) aNil))) (aCons (eVar 3) aNil))))))))))))))
theorem ok__law_holds {P : Program} {w : World} {K : PySem.W.Frag} {mg : PySem.Str → Option Value} {base : Heap} {f : Addr} {fd : FuncData} {f_machine f__law_same f__law_rare f__law_table f_state_of f__law_is_int f__law_state f__law_values f_reached f__law_least_tables f__law_shuffled : FM} (F : FnP K "_law_holds" s__law_holds f fd) (gx : mg "_law_holds" = some (.ref f)) (c_machine : Cal P w K mg base "machine" 4 ["kinds", "gauges"] f_machine) (c__law_same : Cal P w K mg base "_law_same" 42 ["thing", "due"] f__law_same) (c__law_rare : Cal P w K mg base "_law_rare" 2 ["d", "many"] f__law_rare) (c__law_table : Cal P w K mg base "_law_table" 2 ["d", "kinds", "most"] f__law_table) (c_state_of : Cal P w K mg base "state_of" 2 ["reader", "table"] f_state_of) (c__law_is_int : Cal P w K mg base "_law_is_int" 1 ["thing"] f__law_is_int) (c__law_state : Cal P w K mg base "_law_state" 1 ["reader", "table"] f__law_state) (c__law_values : Cal P w K mg base "_law_values" 2 ["gauges", "table"] f__law_values) (c_reached : Cal P w K mg base "reached" 3 ["reader"] f_reached) (c__law_least_tables : Cal P w K mg base "_law_least_tables" 1 ["reader"] f__law_least_tables) (c__law_shuffled : Cal P w K mg base "_law_shuffled" 2 ["d", "row"] f__law_shuffled) (z_range : mg "range" = none) (z_len : mg "len" = none) (z_list : mg "list" = none) (z_tuple : mg "tuple" = none) :
    Cal P w K mg base "_law_holds" 43 ["d", "kinds", "gauges", "due"] (runB 15 (m__law_holds f_machine f__law_same f__law_rare f__law_table f_state_of f__law_is_int f__law_state f__law_values f_reached f__law_least_tables f__law_shuffled)) :=
  cal_mk (k := 42) F sc__law_holds gx (fun _ _ _ _ _ _ us hl => match us, hl with | [_, _, _, _], _ => rfl) fun cdv A outer s H E hr tk hp =>
    (sx_cons (sx_set sc__law_holds.nd (ex_c1 c_machine tk hr (by decide) (ea_cons (xv 1) (ea_cons (xv 2) ea_nil))))
    (sx_cons (sx_if (et_not (et_val (ex_c1 c__law_same tk hr (by decide) (ea_cons (xv 4) (ea_cons (xv 3) ea_nil))))) (sx_one (sx_ret ex_bl)) sx_nil)
    (sx_cons (sx_set sc__law_holds.nd (ex_if (et_val (ex_c1 c__law_rare tk hr (by decide) (ea_cons (xv 0) (ea_cons ex_int ea_nil)))) ex_int ex_int))
    (sx_cons (sx_for hp (by rfl) (ei_range1 (by rfl) z_range ex_int) (eg_name sc__law_holds.nd) (sx_cons (sx_set sc__law_holds.nd (ex_c1 c__law_table tk hr (by decide) (ea_cons (xv 0) (ea_cons (xv 1) (ea_cons (xv 5) ea_nil)))))
    (sx_cons (sx_set sc__law_holds.nd (ex_c1 c_state_of tk hr (by decide) (ea_cons (ex_ix (m_ix hr.units65) (xv 4) ex_int) (ea_cons (xv 7) ea_nil))))
    (sx_cons (sx_if (Ew.et (ew_or (et_not (et_val (ex_c1 c__law_is_int tk hr (by decide) (ea_cons (xv 8) ea_nil)))) (ew_or1 (et_cmp (m_ne hr.units) (xv 8) (ex_c1 c__law_state tk hr (by decide) (ea_cons (ex_ix (m_ix hr.units65) (xv 3) ex_int) (ea_cons (xv 7) ea_nil))) (nomark _))))) (sx_one (sx_ret ex_bl)) sx_nil)
    (sx_one (sx_if (et_cmp (m_ne hr.units) (ex_ix (m_ix hr.units65) (ex_ix (m_ix hr.units65) (xv 4) ex_int) (xv 8)) (ex_c1 c__law_values tk hr (by decide) (ea_cons (xv 2) (ea_cons (xv 7) ea_nil))) (nomark _)) (sx_one (sx_ret ex_bl)) sx_nil))))))
    (sx_cons (sx_if (et_not (et_val (ex_c1 c__law_same tk hr (by decide) (ea_cons (ex_c1 c_reached tk hr (by decide) (ea_cons (ex_ix (m_ix hr.units65) (xv 4) ex_int) ea_nil)) (ea_cons (ex_c1 c__law_least_tables tk hr (by decide) (ea_cons (ex_ix (m_ix hr.units65) (xv 3) ex_int) ea_nil)) ea_nil))))) (sx_one (sx_ret ex_bl)) sx_nil)
    (sx_cons (sx_set sc__law_holds.nd (ex_c1 c__law_shuffled tk hr (by decide) (ea_cons (xv 0) (ea_cons (ex_lstRg1 (by rfl) (by rfl) z_list (by rfl) z_range (ex_callB c_len (by rfl) z_len bt_len (ea_cons (xv 2) ea_nil))) ea_nil))))
    (sx_cons (sx_set sc__law_holds.nd (ex_callTs s_tuple (by rfl) z_tuple bt_tuple (es_el (el_comp (own := [(("row" : PySem.Str), 12)]) (by rfl) sc__law_holds.nd (ei_ex (ex_ix (m_ix hr.units65) (xv 3) ex_int)) (blkOk_by (N := N__law_holds) (sc := (defScope s__law_holds)) (by decide +kernel)) (fun _ _ _ _ _ => (eg_name sc__law_holds.nd)) (fun _ _ _ _ _ => ets_nil) (fun _ _ _ _ _ => (ex_callTs s_tuple (by rfl) z_tuple bt_tuple (es_el (el_comp (own := [(("k" : PySem.Str), 13)]) (by rfl) sc__law_holds.nd (ei_ex (xv 9)) (blkOk_by (by kernel_rfl)) (fun _ _ _ _ _ => (eg_name sc__law_holds.nd)) (fun _ _ _ _ _ => ets_nil) (fun _ _ _ _ _ => (ex_ix (m_ix hr.units65) (xv 12) (xv 13)))))))))))
    (sx_cons (sx_if (et_not (et_val (ex_c1 c__law_same tk hr (by decide) (ea_cons (ex_c1 c_machine tk hr (by decide) (ea_cons (xv 1) (ea_cons (ex_callTs s_tuple (by rfl) z_tuple bt_tuple (es_el (el_comp (own := [(("k" : PySem.Str), 13)]) (by rfl) sc__law_holds.nd (ei_ex (xv 9)) (blkOk_by (N := N__law_holds) (sc := (defScope s__law_holds)) (by decide +kernel)) (fun _ _ _ _ _ => (eg_name sc__law_holds.nd)) (fun _ _ _ _ _ => ets_nil) (fun _ _ _ _ _ => (ex_ix (m_ix hr.units65) (xv 2) (xv 13)))))) ea_nil))) (ea_cons (ex_tup (ea_cons (ex_ix (m_ix hr.units65) (xv 3) ex_int) (ea_cons (xv 10) ea_nil))) ea_nil))))) (sx_one (sx_ret ex_bl)) sx_nil)
    (sx_cons (sx_set sc__law_holds.nd (ex_tup (ea_cons (ex_tup (ea_cons (ex_strc [114, 101, 97, 100, 101, 114] (by decide +kernel)) (ea_cons (ex_tup (ea_cons (ex_callTs s_tuple (by rfl) z_tuple bt_tuple (es_el (el_comp (own := [(("kind" : PySem.Str), 14)]) (by rfl) sc__law_holds.nd (ei_range1 (by rfl) z_range (xv 1)) (blkOk_by (N := N__law_holds) (sc := (defScope s__law_holds)) (by decide +kernel)) (fun _ _ _ _ _ => (eg_name sc__law_holds.nd)) (fun _ _ _ _ _ => ets_nil) (fun _ _ _ _ _ => ex_int)))) ea_nil)) ea_nil))) (ea_cons (ex_tup (ea_cons (ex_tup ea_nil) ea_nil)) ea_nil))))
    (sx_cons (sx_if (et_not (et_val (ex_c1 c__law_same tk hr (by decide) (ea_cons (ex_c1 c_machine tk hr (by decide) (ea_cons (xv 1) (ea_cons (ex_tup ea_nil) ea_nil))) (ea_cons (xv 11) ea_nil))))) (sx_one (sx_ret ex_bl)) sx_nil)
    (sx_one (sx_ret (ex_c1 c__law_same tk hr (by decide) (ea_cons (ex_c1 c_machine tk hr (by decide) (ea_cons (xv 1) (ea_cons (xv 2) ea_nil))) (ea_cons (xv 3) ea_nil)))))))))))))))
def N_law : List PySem.Str := ["script", "d", "kinds", "gauges", "many", "due"]
theorem sc_law : FnScope N_law ["script"] (defScope s_law) := ⟨rfl, rfl, rfl, by decide +kernel, rfl, by decide +kernel, by decide +kernel⟩
def m_law (f__law_begin : FM) (f__law_plan : FM) (f__law_machine : FM) (f__law_is_refused : FM) (f__law_holds : FM) : SM := (sSeq (sSet 1 (eCall 1 f__law_begin (aCons (eVar 0) aNil)))
    (sSeq (sAsg (gT 2 (gCs 2 (gCs 3 gNil0))) (eCall 1 f__law_plan (aCons (eVar 1) aNil)))
    (sSeq (sSet 4 (eCB fLen (aCons (eVar 3) aNil)))
    (sSeq (sSet 5 (eCall 2 f__law_machine (aCons (eVar 2) (aCons (eVar 3) aNil))))
    (sSeq (whileN (tBl (eBin oGt (eCB fLen (aCons (eBin oIx (eVar 5) (eC (.int 1))) aNil)) (eC (.int 40)))) (sSeq (sIf (HM.tNot (tVal (eCall 2 f__law_is_refused (aCons (eVar 2) (aCons (eSl (eVar 3) oNone (oSome (eVar 4))) aNil))))) (sRet (eC (.bl false))) sNil)
    (sSeq (sAug 4 oSub (eC (.int 1)))
    (sSet 5 (eCall 2 f__law_machine (aCons (eVar 2) (aCons (eSl (eVar 3) oNone (oSome (eVar 4))) aNil)))))) big)
    (sRet (eCall 4 f__law_holds (aCons (eVar 1) (aCons (eVar 2) (aCons (eSl (eVar 3) oNone (oSome (eVar 4))) (aCons (eVar 5) aNil)))))))))))
theorem ok_law {P : Program} {w : World} {K : PySem.W.Frag} {mg : PySem.Str → Option Value} {base : Heap} {f : Addr} {fd : FuncData} {f__law_begin f__law_plan f__law_machine f__law_is_refused f__law_holds : FM} (F : FnP K "law" s_law f fd) (c__law_begin : Cal P w K mg base "_law_begin" 1 ["script"] f__law_begin) (c__law_plan : Cal P w K mg base "_law_plan" 4 ["d"] f__law_plan) (c__law_machine : Cal P w K mg base "_law_machine" 2 ["kinds", "gauges"] f__law_machine) (c__law_is_refused : Cal P w K mg base "_law_is_refused" 5 ["kinds", "gauges"] f__law_is_refused) (c__law_holds : Cal P w K mg base "_law_holds" 43 ["d", "kinds", "gauges", "due"] f__law_holds) (z_len : mg "len" = none) :
    FnM P w K mg base 44 f fd ["script"] (runB 6 (m_law f__law_begin f__law_plan f__law_machine f__law_is_refused f__law_holds)) :=
  fn_def (k := 43) F sc_law fun cdv A outer s H E hr tk hp =>
    (sx_cons (sx_set sc_law.nd (ex_c1 c__law_begin tk hr (by decide) (ea_cons (xv 0) ea_nil)))
    (sx_cons (sx_asg (ex_c1 c__law_plan tk hr (by decide) (ea_cons (xv 1) ea_nil)) (eg_tup (by rfl) (egs_cons sc_law.nd (egs_cons sc_law.nd egs_nil))))
    (sx_cons (sx_set sc_law.nd (ex_callB c_len (by rfl) z_len bt_len (ea_cons (xv 3) ea_nil)))
    (sx_cons (sx_set sc_law.nd (ex_c1 c__law_machine tk hr (by decide) (ea_cons (xv 2) (ea_cons (xv 3) ea_nil))))
    (sx_cons (sx_while big hp (et_cmp m_gt (ex_callB c_len (by rfl) z_len bt_len (ea_cons (ex_ix (m_ix hr.units65) (xv 5) ex_int) ea_nil)) ex_int (nomark _)) (sx_cons (sx_if (et_not (et_val (ex_c1 c__law_is_refused tk hr (by decide) (ea_cons (xv 2) (ea_cons (ex_sl (xv 3) eo_none (eo_some (xv 4))) ea_nil))))) (sx_one (sx_ret ex_bl)) sx_nil)
    (sx_cons (sx_aug sc_law.nd ex_int mi_sub)
    (sx_one (sx_set sc_law.nd (ex_c1 c__law_machine tk hr (by decide) (ea_cons (xv 2) (ea_cons (ex_sl (xv 3) eo_none (eo_some (xv 4))) ea_nil))))))))
    (sx_one (sx_ret (ex_c1 c__law_holds tk hr (by decide) (ea_cons (xv 1) (ea_cons (xv 2) (ea_cons (ex_sl (xv 3) eo_none (eo_some (xv 4))) (ea_cons (xv 5) ea_nil))))))))))))
end K10

namespace K10
open PySem PySem.Spec PyProof.Rows L2 HM

def f_stepped_seen : FM := runB 3 (m_stepped_seen)
theorem le_stepped_seen : ∀ ds st, Le st (runB 3 (m_stepped_seen) ds st) (f_stepped_seen ds st) := fun _ _ => .refl _
def f_stepped_count : FM := runB 6 (m_stepped_count)
theorem le_stepped_count : ∀ ds st, Le st (runB 6 (m_stepped_count) ds st) (f_stepped_count ds st) := fun _ _ => .refl _
def f_stepped : FM := runB 4 (m_stepped f_stepped_seen f_stepped_count)
theorem le_stepped : ∀ ds st, Le st (runB 4 (m_stepped f_stepped_seen f_stepped_count) ds st) (f_stepped ds st) := fun _ _ => .refl _
def f_first_values : FM := runB 2 (m_first_values)
theorem le_first_values : ∀ ds st, Le st (runB 2 (m_first_values) ds st) (f_first_values ds st) := fun _ _ => .refl _
def f_stepped_all : FM := runB 5 (m_stepped_all f_stepped)
theorem le_stepped_all : ∀ ds st, Le st (runB 5 (m_stepped_all f_stepped) ds st) (f_stepped_all ds st) := fun _ _ => .refl _
def f_kinds_of : FM := runB 1 (m_kinds_of)
theorem le_kinds_of : ∀ ds st, Le st (runB 1 (m_kinds_of) ds st) (f_kinds_of ds st) := fun _ _ => .refl _
def f_after : FM := runB 3 (m_after)
theorem le_after : ∀ ds st, Le st (runB 3 (m_after) ds st) (f_after ds st) := fun _ _ => .refl _
def f_state_of : FM := runB 4 (m_state_of f_after)
theorem le_state_of : ∀ ds st, Le st (runB 4 (m_state_of f_after) ds st) (f_state_of ds st) := fun _ _ => .refl _
def f_first_tables : FM := runB 7 (m_first_tables f_kinds_of f_after)
theorem le_first_tables : ∀ ds st, Le st (runB 7 (m_first_tables f_kinds_of f_after) ds st) (f_first_tables ds st) := fun _ _ => .refl _
def f_reached : FM := runB 3 (m_reached f_first_tables)
theorem le_reached : ∀ ds st, Le st (runB 3 (m_reached f_first_tables) ds st) (f_reached ds st) := fun _ _ => .refl _
def f_check_room : FM := runB 1 (m_check_room)
theorem le_check_room : ∀ ds st, Le st (runB 1 (m_check_room) ds st) (f_check_room ds st) := fun _ _ => .refl _
def f_machine : FM := runB 9 (m_machine f_first_values f_stepped_all f_check_room)
theorem le_machine : ∀ ds st, Le st (runB 9 (m_machine f_first_values f_stepped_all f_check_room) ds st) (f_machine ds st) := fun _ _ => .refl _
def f__law_begin : FM := runB 2 (m__law_begin)
theorem le__law_begin : ∀ ds st, Le st (runB 2 (m__law_begin) ds st) (f__law_begin ds st) := fun _ _ => .refl _
def f__law_draw : FM := runB 5 (m__law_draw)
theorem le__law_draw : ∀ ds st, Le st (runB 5 (m__law_draw) ds st) (f__law_draw ds st) := fun _ _ => .refl _
def f__law_pick : FM := runB 2 (m__law_pick f__law_draw)
theorem le__law_pick : ∀ ds st, Le st (runB 2 (m__law_pick f__law_draw) ds st) (f__law_pick ds st) := fun _ _ => .refl _
def f__law_rare : FM := runB 2 (m__law_rare f__law_draw)
theorem le__law_rare : ∀ ds st, Le st (runB 2 (m__law_rare f__law_draw) ds st) (f__law_rare ds st) := fun _ _ => .refl _
def f__law_shuffled : FM := runB 5 (m__law_shuffled f__law_draw)
theorem le__law_shuffled : ∀ ds st, Le st (runB 5 (m__law_shuffled f__law_draw) ds st) (f__law_shuffled ds st) := fun _ _ => .refl _
def f__law_is_int : FM := runB 1 (m__law_is_int)
theorem le__law_is_int : ∀ ds st, Le st (runB 1 (m__law_is_int) ds st) (f__law_is_int ds st) := fun _ _ => .refl _
def f__law_table : FM := runB 5 (m__law_table f__law_draw)
theorem le__law_table : ∀ ds st, Le st (runB 5 (m__law_table f__law_draw) ds st) (f__law_table ds st) := fun _ _ => .refl _
def f__law_state : FM := runB 4 (m__law_state)
theorem le__law_state : ∀ ds st, Le st (runB 4 (m__law_state) ds st) (f__law_state ds st) := fun _ _ => .refl _
def f__law_told : FM := runB 4 (m__law_told)
theorem le__law_told : ∀ ds st, Le st (runB 4 (m__law_told) ds st) (f__law_told ds st) := fun _ _ => .refl _
def f__law_machine : FM := runB 13 (m__law_machine f__law_told)
theorem le__law_machine : ∀ ds st, Le st (runB 13 (m__law_machine f__law_told) ds st) (f__law_machine ds st) := fun _ _ => .refl _
def f__law_subset : FM := runB 4 (m__law_subset f__law_draw)
theorem le__law_subset : ∀ ds st, Le st (runB 4 (m__law_subset f__law_draw) ds st) (f__law_subset ds st) := fun _ _ => .refl _
def f__law_wide_gauge : FM := runB 4 (m__law_wide_gauge f__law_pick f__law_draw f__law_subset)
theorem le__law_wide_gauge : ∀ ds st, Le st (runB 4 (m__law_wide_gauge f__law_pick f__law_draw f__law_subset) ds st) (f__law_wide_gauge ds st) := fun _ _ => .refl _
def f__law_sized_gauge : FM := runB 5 (m__law_sized_gauge f__law_pick f__law_draw f__law_subset)
theorem le__law_sized_gauge : ∀ ds st, Le st (runB 5 (m__law_sized_gauge f__law_pick f__law_draw f__law_subset) ds st) (f__law_sized_gauge ds st) := fun _ _ => .refl _
def f__law_edge_plan : FM := runB 7 (m__law_edge_plan f__law_shuffled f__law_draw f__law_pick)
theorem le__law_edge_plan : ∀ ds st, Le st (runB 7 (m__law_edge_plan f__law_shuffled f__law_draw f__law_pick) ds st) (f__law_edge_plan ds st) := fun _ _ => .refl _
def f__law_plan : FM := runB 5 (m__law_plan f__law_draw f__law_edge_plan f__law_shuffled f__law_wide_gauge f__law_sized_gauge)
theorem le__law_plan : ∀ ds st, Le st (runB 5 (m__law_plan f__law_draw f__law_edge_plan f__law_shuffled f__law_wide_gauge f__law_sized_gauge) ds st) (f__law_plan ds st) := fun _ _ => .refl _
def f__law_same : FM := fr__law_same f__law_is_int 40
theorem le__law_same : ∀ ds st, Le st (fr__law_same f__law_is_int 40 ds st) (f__law_same ds st) := fun _ _ => .refl _
def f__law_is_refused : FM := runB 3 (m__law_is_refused f_machine)
theorem le__law_is_refused : ∀ ds st, Le st (runB 3 (m__law_is_refused f_machine) ds st) (f__law_is_refused ds st) := fun _ _ => .refl _
def f__law_least_tables : FM := runB 6 (m__law_least_tables)
theorem le__law_least_tables : ∀ ds st, Le st (runB 6 (m__law_least_tables) ds st) (f__law_least_tables ds st) := fun _ _ => .refl _
def f__law_values : FM := runB 3 (m__law_values f__law_told)
theorem le__law_values : ∀ ds st, Le st (runB 3 (m__law_values f__law_told) ds st) (f__law_values ds st) := fun _ _ => .refl _
def f__law_holds : FM := runB 15 (m__law_holds f_machine f__law_same f__law_rare f__law_table f_state_of f__law_is_int f__law_state f__law_values f_reached f__law_least_tables f__law_shuffled)
theorem le__law_holds : ∀ ds st, Le st (runB 15 (m__law_holds f_machine f__law_same f__law_rare f__law_table f_state_of f__law_is_int f__law_state f__law_values f_reached f__law_least_tables f__law_shuffled) ds st) (f__law_holds ds st) := fun _ _ => .refl _
def f_law : FM := runB 6 (m_law f__law_begin f__law_plan f__law_machine f__law_is_refused f__law_holds)
theorem le_law : ∀ ds st, Le st (runB 6 (m_law f__law_begin f__law_plan f__law_machine f__law_is_refused f__law_holds) ds st) (f_law ds st) := fun _ _ => .refl _

/-! draws -/
theorem r_begin {ns : List Int} (hl : ns.length ≤ 63) : ∃ st', f__law_begin [.rol (ns.map D.int)] [] = .ok (.ref 1) st' ∧ DS ns st' ∧ st'.length = 2 := by
  obtain ⟨ys, st1, e, ⟨h1, h2⟩, hl2⟩ := comp_inv (q := .fix (ns.map D.int)) (set := gN 1) (fe := eCB fInt (aCons (eVar 1) aNil)) (τ := [some (.rol (ns.map D.int)), none]) (fun acc s => acc = (ns.map D.int).take acc.length ∧ s = ([] : Store)) (fun _ _ _ => rfl) (ns.map D.int) [] [] ⟨rfl, rfl⟩ fun i d acc s hi ha hp => by
    obtain ⟨h1, rfl⟩ := hp
    refine ⟨_, rfl, d, [], ?_, ?_, rfl⟩
    · have : ∃ k, d = .int k := by
        rw [List.getElem?_map] at hi
        cases hz : ns[i]? with
        | none => simp [hz] at hi
        | some k => exact ⟨k, by simpa [hz] using hi.symm⟩
      obtain ⟨k, rfl⟩ := this
      simp [gN]
    · simp only [List.length_nil, Nat.zero_add] at ha
      rw [List.length_append, List.length_singleton, ha, List.take_succ, hi, ← ha, ← h1]
      rfl
  have hy : ys = ns.map D.int := by
    rw [h1, List.take_of_length_le]
    simp at hl2
    simp [hl2]
  subst hy h2
  refine ⟨[.lst (ns.map D.int), .lst [.ref 0, .int 0, .int 0, .int 7]], ?_, ⟨rfl, 0, 0, 7, by decide, rfl⟩, rfl⟩
  have e : compL (.fix (ns.map D.int)) (gN 1) tYes (eCB fInt (aCons (eVar 1) aNil)) (wipeD [some (.rol (ns.map D.int)), none] [1]) (ns.map D.int) [] [] = .ok (ns.map D.int) [] := e
  have hs : ns.length ≤ 16777216 := by omega
  simp [f__law_begin, runB_e, m__law_begin, lComp_e, lc1, hs, e]
theorem r_draw {ns : List Int} {st : Store} {many : Int} (H : DS ns st) (h0 : 0 < many) (h1 : many.natAbs.log2 < 9000) :
    ∃ v st', f__law_draw [.ref 1, .int many] st = .ok (.int v) st' ∧ 0 ≤ v ∧ v < many ∧ DS ns st' ∧ Fr st st' := by
  obtain ⟨c0, p, h, q, hp, c1⟩ := H
  have set1 : ∀ p' h' q' : Int, 0 ≤ p' → ∀ s, s = st ∨ (∃ ys, s = st.set 1 (.lst ys)) ∨ (∃ ys zs, s = (st.set 1 (.lst ys)).set 1 (.lst zs)) → DS ns (s.set 1 (.lst [.ref 0, .int p', .int h', .int q'])) ∧ Fr st (s.set 1 (.lst [.ref 0, .int p', .int h', .int q'])) := by
    intro p' h' q' hp' s hs
    have e : s.set 1 (.lst [.ref 0, .int p', .int h', .int q']) = st.set 1 (.lst [.ref 0, .int p', .int h', .int q']) := by
      rcases hs with rfl | ⟨ys, rfl⟩ | ⟨ys, zs, rfl⟩ <;> simp [List.set_set]
    rw [e]
    refine ⟨⟨by rw [lstAt_ne (by decide)]; exact c0, p', h', q', hp', lstAt_set c1⟩, by simp, fun n hn _ => ?_⟩
    rw [List.getElem?_set_ne (Ne.symm hn)]
  have od : ∀ i, okDiv i many = true := fun i => okDiv_of (by omega) h1
  have om : ∀ i, okMod i many = true := fun i => okMod_of (by omega)
  have b0 : ∀ i : Int, 0 ≤ i.fmod many := fun i => Int.fmod_nonneg_of_pos i h0
  have b1 : ∀ i : Int, i.fmod many < many := fun i => Int.fmod_lt_of_pos i h0
  unfold f__law_draw
  rw [runB_e]
  unfold m__law_draw
  by_cases hh : 0 < h
  · obtain ⟨d1, d2⟩ := set1 p (h.fdiv many) q hp st (.inl rfl)
    refine ⟨h.fmod many, _, ?_, b0 _, b1 _, d1, d2⟩
    have x2 : ixN 4 2 = some 2 := rfl
    simp [oIx_ref c1, hh, od, om, oSet_ref c1, x2]
  · -- the size of the script's number here
    have main : ∀ (size : Int) (c : Option D), (0 ≤ size) → ∃ v st', ((sSeq (sAugS oIAdd (eVar 0) (eC (.int 1)) (eC (.int 1)))
        (sSeq (sIf (tBl (eBin oGe (eVar 3) (eBin oMul (eC (.int 2)) (eBin oPow (eC (.int 10)) (eC (.int 18)))))) (sSeq (sSet 2 (eBin oMod (eCB fInt (aCons (eBin oDiv (eVar 3) (eC (.int 2))) aNil)) (eBin oShl (eC (.int 1)) (eC (.int 6000)))))
        (sSeq (sSub (eVar 0) (eC (.int 2)) (eBin oDiv (eVar 2) (eVar 1)))
        (sRet (eBin oMod (eCB fInt (aCons (eVar 2) aNil)) (eVar 1))))) sNil)
        (sSeq (sSub (eVar 0) (eC (.int 3)) (eBin oMod (eCB fInt (aCons (eBin oAdd (eBin oAdd (eBin oAdd (eBin oMul (eBin oIx (eVar 0) (eC (.int 3))) (eC (.int 48271))) (eBin oMul (eBin oMod (eCB fInt (aCons (eVar 3) aNil)) (eC (.int 2147483629))) (eC (.int 16807)))) (eBin oMul (eBin oIx (eVar 0) (eC (.int 1))) (eC (.int 69621)))) (eC (.int 11))) aNil)) (eC (.int 2147483647))))
        (sRet (eBin oMod (eCB fInt (aCons (eBin oDiv (eBin oIx (eVar 0) (eC (.int 3))) (eC (.int 16))) aNil)) (eVar 1)))))) [some (.ref 1), some (.int many), none, some (.int size), c] st).fin = .ok (.int v) st' ∧ 0 ≤ v ∧ v < many ∧ DS ns st' ∧ Fr st st' := by
      intro size c hs
      have x1 : ixN 4 1 = some 1 := rfl
      have x2 : ixN 4 2 = some 2 := rfl
      have x3 : ixN 4 3 = some 3 := rfl
      obtain ⟨st1, e1⟩ : ∃ st1, st1 = st.set 1 (.lst [.ref 0, .int (p + 1), .int h, .int q]) := ⟨_, rfl⟩
      have l1 : lstAt st1 1 = some [.ref 0, .int (p + 1), .int h, .int q] := by
        rw [e1]
        exact lstAt_set c1
      have d48 : okMul q 48271 = true := okMul_r (by decide)
      have d16 : ∀ i, okMul i 16807 = true := fun i => okMul_r (by decide)
      have d69 : ∀ i, okMul i 69621 = true := fun i => okMul_r (by decide)
      have m1 : ∀ i, okMod i 2147483629 = true := fun i => okMod_of (by decide)
      have m2 : ∀ i, okMod i 2147483647 = true := fun i => okMod_of (by decide)
      have v16 : ∀ i, okDiv i 16 = true := fun i => okDiv_of (by decide) (by decide)
      have v2 : ∀ i, okDiv i 2 = true := fun i => okDiv_of (by decide) (by decide)
      by_cases hz : 2000000000000000000 ≤ size
      · have p1 : okPow 10 18 = true := by decide
        have p2 : okMul 2 1000000000000000000 = true := okMul_r (by decide)
        have p3 : okPow 1 6000 = true := by decide
        obtain ⟨M, eM⟩ : ∃ M : Int, M = 2 ^ 6000 := ⟨_, rfl⟩
        have hM : M ≠ 0 := by
          have : (0 : Int) < 2 ^ 6000 := Int.pow_pos (by decide)
          omega
        have om2 : ∀ i, okMod i M = true := fun i => okMod_of hM
        obtain ⟨d1, d2⟩ := set1 (p + 1) (((size.fdiv 2).fmod M).fdiv many) q (by omega) st1 (.inr (.inl ⟨_, e1⟩))
        refine ⟨((size.fdiv 2).fmod M).fmod many, _, ?_, b0 _, b1 _, d1, d2⟩
        simp [oGetL_ref c1, oSet_ref c1, x1, x2, ← e1, hz, p1, p2, p3, v2, od, om, ← eM, om2, oSet_ref l1]
      · have p1 : okPow 10 18 = true := by decide
        have p2 : okMul 2 1000000000000000000 = true := okMul_r (by decide)
        obtain ⟨q', eq'⟩ : ∃ q', q' = (q * 48271 + size.fmod 2147483629 * 16807 + (p + 1) * 69621 + 11).fmod 2147483647 := ⟨_, rfl⟩
        obtain ⟨d1, d2⟩ := set1 (p + 1) h q' (by omega) st1 (.inr (.inl ⟨_, e1⟩))
        have l2 : lstAt (st1.set 1 (.lst [.ref 0, .int (p + 1), .int h, .int q'])) 1 = some [.ref 0, .int (p + 1), .int h, .int q'] := lstAt_set l1
        refine ⟨(q'.fdiv 16).fmod many, _, ?_, b0 _, b1 _, d1, d2⟩
        simp [oGetL_ref c1, oSet_ref c1, x1, x2, x3, ← e1, hz, p1, p2, v2, v16, od, om, m1, m2, d48, d16, d69, oIx_ref l1, oSet_ref l1, oIx_ref l2, ← eq']
    by_cases hp2 : p < ns.length
    · have hc : ∃ c : Int, atI (ns.map D.int) p = some (.int c) := by
        have hp3 : p.toNat < ns.length := by omega
        refine ⟨ns[p.toNat], ?_⟩
        have := atI_nat (xs := ns.map D.int) (j := p.toNat) (v := D.int ns[p.toNat]) (by simp [hp3])
        rwa [Int.toNat_of_nonneg hp] at this
      obtain ⟨c, hc⟩ := hc
      obtain ⟨v, st', e, r⟩ := main (2 * (c.natAbs : Nat) + (if c < 0 then 1 else 0)) (some (.int c)) (by split <;> omega)
      refine ⟨v, st', ?_, r⟩
      rw [← e]
      have k2 : okMul 2 (c.natAbs : Nat) = true := okMul_l (by decide)
      simp [oIx_ref c1, hh, oIx_ref c0, fLen_ref c0, hp2, hc, k2]
    · obtain ⟨v, st', e, r⟩ := main 0 none (by omega)
      refine ⟨v, st', ?_, r⟩
      rw [← e]
      simp [oIx_ref c1, hh, oIx_ref c0, fLen_ref c0, hp2]

/-- a draw, as a natural number -/
theorem r_drawN {ns : List Int} {st : Store} {many : Nat} (H : DS ns st) (h0 : 0 < many) (h1 : many < 2 ^ 60) :
    ∃ (v : Nat) (st' : Store), f__law_draw [.ref 1, .int (many : Nat)] st = .ok (.int (v : Nat)) st' ∧ v < many ∧ DS ns st' ∧ Fr st st' := by
  obtain ⟨v, s1, e, v0, v1, D1, F1⟩ := r_draw (many := (many : Nat)) H (by omega) (by
    rw [Int.natAbs_natCast]
    have := log2_le h1
    omega)
  refine ⟨v.toNat, s1, ?_, by omega, D1, F1⟩
  rw [Int.toNat_of_nonneg v0]
  exact e
theorem ixN_of {n j : Nat} (h : j < n) : ixN n (j : Nat) = some j := by
  unfold ixN
  rw [if_pos (by omega), if_pos (by simpa using h)]
  simp
theorem atI_of {xs : List D} {j : Nat} (h : j < xs.length) : atI xs (j : Nat) = some xs[j] := atI_nat (by simp [h])
theorem r_drawZ {ns : List Int} {st : Store} {many : Int} (H : DS ns st) (h0 : 0 < many) (h1 : many ≤ 1000) :
    ∃ v st', f__law_draw [.ref 1, .int many] st = .ok (.int v) st' ∧ 0 ≤ v ∧ v < many ∧ DS ns st' ∧ Fr st st' :=
  r_draw H h0 (Nat.lt_of_le_of_lt (log2_le (k := 10) (by omega)) (by decide))

theorem r_pick {ns : List Int} {st : Store} {m : Nat} {xs : List D} (H : DS ns st) (hx : lstAt st m = some xs) (hm : m ≠ 1) (h0 : 0 < xs.length) (h1 : xs.length < 2 ^ 60) :
    ∃ v st', f__law_pick [.ref 1, .ref m] st = .ok v st' ∧ v ∈ xs ∧ DS ns st' ∧ Fr st st' := by
  obtain ⟨v, s1, e, v0, v1, D1, F1⟩ := r_draw (many := (xs.length : Nat)) H (by omega) (by
    rw [Int.natAbs_natCast]
    have := log2_le h1
    omega)
  have hv : v.toNat < xs.length := by omega
  refine ⟨xs[v.toNat], s1, ?_, List.getElem_mem _, D1, F1⟩
  have ha : atI xs v = some xs[v.toNat] := by
    have := atI_nat (xs := xs) (j := v.toNat) (v := xs[v.toNat]) (by simp [hv])
    rwa [Int.toNat_of_nonneg v0] at this
  simp [f__law_pick, runB_e, m__law_pick, fLen_ref hx, e, oIx_ref (F1.lst hx hm), ha]

theorem r_rare {ns : List Int} {st : Store} {many : Int} (H : DS ns st) (h0 : 0 < many) (h1 : many.natAbs.log2 < 9000) :
    ∃ b st', f__law_rare [.ref 1, .int many] st = .ok (.bl b) st' ∧ DS ns st' ∧ Fr st st' := by
  obtain ⟨v, s1, e, v0, v1, D1, F1⟩ := r_draw H h0 h1
  have v2 : okDiv many 2 = true := okDiv_of (by decide) (by decide)
  exact ⟨decide (v = many.fdiv 2), s1, by simp [f__law_rare, runB_e, m__law_rare, e, v2], D1, F1⟩

/-- a loop that returns False at the first that fails -/
theorem for_all {α : Type} {q : Sq} {set : D → Sl → Option Sl} {u : SM} {st : Store} (hq : q.chk st = true) (g : α → D) (p : α → Bool) (I : Sl → Prop) : ∀ (xs : List α) (τ : Sl), I τ →
    (∀ a ∈ xs, ∀ τ, I τ → ∃ τ1, set (g a) τ = some τ1 ∧ (p a = true → ∃ τ2, u τ1 st = .nx τ2 st ∧ I τ2) ∧ (p a = false → u τ1 st = .rt (.bl false) st)) →
    (xs.all p = true ∧ ∃ τ', forL q set u (xs.map g) τ st = .nx τ' st ∧ I τ') ∨ (xs.all p = false ∧ forL q set u (xs.map g) τ st = .rt (.bl false) st)
  | [], τ, h0, _ => .inl ⟨rfl, τ, forL_nil hq, h0⟩
  | a :: xs, τ, h0, hs => by
    obtain ⟨τ1, e1, h1, h2⟩ := hs a (List.mem_cons_self ..) τ h0
    cases hp : p a with
    | true =>
      obtain ⟨τ2, e2, h3⟩ := h1 hp
      rcases for_all hq g p I xs τ2 h3 fun b hb => hs b (List.mem_cons_of_mem _ hb) with ⟨ha, τ', e3, h4⟩ | ⟨ha, e3⟩
      · exact .inl ⟨by rw [List.all_cons, hp, ha]; rfl, τ', by rw [List.map_cons, forL_nx hq e1 e2, e3], h4⟩
      · exact .inr ⟨by rw [List.all_cons, hp, ha]; rfl, by rw [List.map_cons, forL_nx hq e1 e2, e3]⟩
    | false => exact .inr ⟨by rw [List.all_cons, hp]; rfl, by rw [List.map_cons, forL_rt hq e1 (h2 hp)]⟩
theorem ch_le {fa fb fc : EM D} {τ : Sl} {st : Store} {a b c : Int} (ha : fa τ st = .ok (.int a) st) (hb : fb τ st = .ok (.int b) st) (hc : fc τ st = .ok (.int c) st) : eChain oLe oLe fa fb fc τ st = .ok (.bl (decide (a ≤ b) && decide (b ≤ c))) st := by
  by_cases h : a ≤ b <;> simp [ha, hb, hc, oLe, h]
theorem ch_lt {fa fb fc : EM D} {τ : Sl} {st : Store} {a b c : Int} (ha : fa τ st = .ok (.int a) st) (hb : fb τ st = .ok (.int b) st) (hc : fc τ st = .ok (.int c) st) : eChain oLe oLt fa fb fc τ st = .ok (.bl (decide (a ≤ b) && decide (b < c))) st := by
  by_cases h : a ≤ b <;> simp [ha, hb, hc, oLe, oLt, h]
theorem gAllB_map {α : Type} {f : α → Bool} {xs : List α} {st : Store} : gAllB (xs.map fun a => D.bl (f a)) st = .ok (.bl (xs.all f)) st := by
  have := gAllB_bls (bs := xs.map f) (st := st)
  rw [List.map_map, List.all_map] at this
  exact this

theorem r_is_int {st : Store} {i : Int} : f__law_is_int [.int i] st = .ok (.bl true) st := by
  simp [f__law_is_int, runB_e, m__law_is_int]

/-! draws, by what holds behind them -/
section
variable {ns : List Int} {st : Store}
theorem w_draw {many : Nat} {Q : D → Store → Prop} (H : DS ns st) (h0 : 0 < many) (h1 : many < 2 ^ 60) (hQ : ∀ (v : Nat) s, v < many → DS ns s → Fr st s → Q (.int (v : Nat)) s) : W (f__law_draw [.ref 1, .int (many : Nat)] st) Q := by
  obtain ⟨v, s, e, hv, D1, F1⟩ := r_drawN H h0 h1
  exact .of e (hQ v s hv D1 F1)
end

section
variable {ns : List Int} {st : Store}
theorem w_pick {m : Nat} {xs : List D} {Q : D → Store → Prop} (H : DS ns st) (hx : lstAt st m = some xs) (hm : m ≠ 1) (h0 : 0 < xs.length) (h1 : xs.length < 2 ^ 60) (hQ : ∀ v s, v ∈ xs → DS ns s → Fr st s → Q v s) : W (f__law_pick [.ref 1, .ref m] st) Q := by
  obtain ⟨v, s, e, hv, D1, F1⟩ := r_pick H hx hm h0 h1
  exact .of e (hQ v s hv D1 F1)
end

section
variable {ns : List Int} {st : Store}
theorem w_rare {many : Nat} {Q : D → Store → Prop} (H : DS ns st) (h0 : 0 < many) (h1 : many < 2 ^ 60) (hQ : ∀ b s, DS ns s → Fr st s → Q (.bl b) s) : W (f__law_rare [.ref 1, .int (many : Nat)] st) Q := by
  obtain ⟨b, s, e, D1, F1⟩ := r_rare (many := (many : Nat)) H (by omega) (by
    rw [Int.natAbs_natCast]
    have := log2_le h1
    omega)
  exact .of e (hQ b s D1 F1)
end

/-! gauges -/
def tb (t : List Int) : D := .tup (t.map D.int)
inductive Gg where
  | count (ks : List Int) (n : Int) | rest (ks : List Int) (n : Int) | run (ks : List Int) (n : Int) | sum (ws : List Int) (n : Int) | last | most | seen (r : List Int)
def Gg.d : Gg → D
  | .count ks n => .tup [.str [99, 111, 117, 110, 116], tb ks, .int n]
  | .rest ks n => .tup [.str [114, 101, 115, 116], tb ks, .int n]
  | .run ks n => .tup [.str [114, 117, 110], tb ks, .int n]
  | .sum ws n => .tup [.str [115, 117, 109], tb ws, .int n]
  | .last => .tup [.str [108, 97, 115, 116]]
  | .most => .tup [.str [109, 111, 115, 116]]
  | .seen r => .tup [.str [115, 101, 101, 110], tb r]
def cnF (ks : List Int) (m : Int) (x : Int) : Int := if x ∈ ks then m + 1 else m
def rnF (ks : List Int) (m : Int) (x : Int) : Int := if x ∈ ks then m + 1 else 0
def wgF (ws : List Int) (m : Int) (x : Int) : Int := m + ws.getD x.toNat 0
def snF (r : List Int) (m : Nat) (x : Int) : Nat := if m < r.length ∧ r.getD m 0 = x then m + 1 else m
def cn (ks t : List Int) : Int := t.foldl (cnF ks) 0
def rn (ks t : List Int) : Int := t.foldl (rnF ks) 0
def wg (ws t : List Int) : Int := t.foldl (wgF ws) 0
def sn (r t : List Int) : Nat := t.foldl (snF r) 0
def mx : List Int → Int
  | [] => -1
  | x :: r => r.foldl max x
def la (t : List Int) : Int := t.getLast?.getD (-1)
def mn (a b : Int) : Int := if b < a then b else a
/-- what a gauge tells -/
def tl : Gg → List Int → Int
  | .count ks n, t => mn n (cn ks t)
  | .rest ks n, t => (cn ks t).fmod n
  | .run ks n, t => mn n (rn ks t)
  | .sum ws n, t => mn n (wg ws t)
  | .last, t => la t + 1
  | .most, t => mx t + 1
  | .seen r, t => (sn r t : Nat)
def tp (k : Int) : Gg → Int
  | .count _ n => n
  | .rest _ n => n - 1
  | .run _ n => n
  | .sum _ n => n
  | .last => k
  | .most => k
  | .seen r => (r.length : Nat)
/-- of so many kinds -/
def Gg.ok (k : Nat) : Gg → Prop
  | .count ks n => ks ≠ [] ∧ (∀ x ∈ ks, 0 ≤ x ∧ x < k) ∧ 0 < n ∧ n ≤ 12 ∧ ks.length ≤ 6
  | .rest ks n => ks ≠ [] ∧ (∀ x ∈ ks, 0 ≤ x ∧ x < k) ∧ 1 < n ∧ n ≤ 12 ∧ ks.length ≤ 6
  | .run ks n => ks ≠ [] ∧ (∀ x ∈ ks, 0 ≤ x ∧ x < k) ∧ 0 < n ∧ n ≤ 12 ∧ ks.length ≤ 6
  | .sum ws n => ws.length = k ∧ (∀ x ∈ ws, 0 ≤ x) ∧ 0 < n ∧ n ≤ 12
  | .last => True
  | .most => True
  | .seen r => (∀ x ∈ r, 0 ≤ x ∧ x < k) ∧ r.length ≤ 6
theorem atI_last {α : Type} {l : List α} {n : Nat} {x : α} (hl : l.length = n + 1) (h : l[n]? = some x) : atI l (-1) = some x := by
  have : ixN (n + 1) (-1) = some n := by simp [ixN]; omega
  simp only [atI, hl, this]
  exact h
section
variable {st : Store} {ks t : List Int} {x k : Int}
theorem in_tb : dIn (.int x) (tb ks) st = some (decide (x ∈ ks)) := by
  rw [dIn_flat (ys := ks.map D.int) rfl rfl (by simp)]
  congr 1
  induction ks with
  | nil => rfl
  | cons y ks ih =>
    rw [List.map_cons, List.any_cons, ih, eqF_int]
    by_cases h : y = x
    · subst h
      simp
    · have : ¬ x = y := fun e => h e.symm
      simp [h, this]
theorem nin_tb : oNotIn (.int x) (tb ks) st = .ok (.bl (!decide (x ∈ ks))) st := by
  rw [oNotIn_e, in_tb]
  rfl
theorem is_tb : oIn (.int x) (tb ks) st = .ok (.bl (decide (x ∈ ks))) st := by
  rw [oIn_e, in_tb]
  rfl
theorem ix_tb {i : Nat} (h : i < ks.length) : oIx (tb ks) (.int (i : Nat)) st = .ok (.int (ks.getD i 0)) st := by
  show oIx (.tup (ks.map D.int)) _ st = _
  rw [oIx_tup, atI_nat (v := D.int (ks.getD i 0)) (by simp [h])]
  rfl
theorem len_tb : fLen [tb ks] st = .ok (.int (ks.length : Nat)) st := by simp [tb]
theorem seq_tb : oSeq (tb ks) st = .ok (ks.map D.int) st := rfl
theorem sq_tb : dSq st (tb ks) = some (.fix (ks.map D.int)) := rfl
theorem gmax_mx {y : Int} {r : List Int} : gMax ((y :: r).map D.int) st = .ok (.int (mx (y :: r))) st := by
  unfold gMax
  rw [intsD_map]
  rfl
/-- the last row, the greatest row, or 0 -/
theorem last_at (h : t ≠ []) : atI (t.map D.int) (-1) = some (.int (la t)) := by
  have hl : 0 < t.length := List.length_pos_iff.mpr h
  refine atI_last (n := t.length - 1) (by rw [List.length_map]; omega) ?_
  rw [List.getElem?_map, ← List.getLast?_eq_getElem?]
  unfold la
  cases hz : t.getLast? with
  | none => exact absurd (List.getLast?_eq_none_iff.mp hz) h
  | some v => rfl
end
section
variable {st : Store} {t : List Int} {k : Nat} {g : Gg}
theorem mn_e {a b : Int} : fMin2 [.int a, .int b] st = .ok (.int (mn a b)) st := rfl
theorem mx_nil : mx [] = -1 := rfl
end
theorem tw_len {α : Type} {p : α → Bool} : ∀ {l : List α} {m : Nat}, m ≤ (l.takeWhile p).length → ((∃ x, l[m]? = some x ∧ p x = true) ↔ m < (l.takeWhile p).length)
  | [], m, h => by simp
  | a :: l, m, h => by
    by_cases ha : p a = true
    · rw [List.takeWhile_cons_of_pos ha] at h ⊢
      cases m with
      | zero => simp [ha]
      | succ m =>
        have := tw_len (p := p) (l := l) (m := m) (by simpa using h)
        simpa using this
    · rw [List.takeWhile_cons_of_neg ha] at h ⊢
      have : m = 0 := by simpa using h
      subst this
      simp [ha]
theorem rn_snoc {ks t : List Int} {x : Int} : rn ks (t ++ [x]) = if x ∈ ks then rn ks t + 1 else 0 := by
  unfold rn
  rw [List.foldl_append]
  rfl
theorem rn_tw {ks : List Int} : ∀ r : List Int, rn ks r.reverse = ((r.takeWhile fun x => decide (x ∈ ks)).length : Nat)
  | [] => rfl
  | x :: r => by
    rw [List.reverse_cons, rn_snoc, rn_tw r]
    by_cases h : x ∈ ks
    · rw [if_pos h, List.takeWhile_cons_of_pos (by simpa using h)]
      simp
    · rw [if_neg h, List.takeWhile_cons_of_neg (by simpa using h)]
      rfl
theorem cn_acc {ks : List Int} : ∀ (t : List Int) (a : Int), t.foldl (cnF ks) a = a + ((t.filter fun x => decide (x ∈ ks)).length : Nat)
  | [], a => by simp
  | x :: t, a => by
    rw [List.foldl_cons, cn_acc t]
    unfold cnF
    by_cases h : x ∈ ks
    · simp [h]
      omega
    · simp [h]
theorem cn_len {ks t : List Int} : cn ks t = ((t.filter fun x => decide (x ∈ ks)).length : Nat) := by
  unfold cn
  rw [cn_acc]
  omega
theorem wg_acc {ws : List Int} : ∀ (t : List Int) (a : Int), t.foldl (wgF ws) a = a + (t.map fun x => ws.getD x.toNat 0).sum
  | [], a => by simp
  | x :: t, a => by
    rw [List.foldl_cons, wg_acc t]
    unfold wgF
    simp only [List.map_cons, List.sum_cons]
    omega
theorem wg_sum {ws t : List Int} : wg ws t = (t.map fun x => ws.getD x.toNat 0).sum := by
  unfold wg
  rw [wg_acc]
  omega
section
variable {st : Store} {t : List Int} {k : Nat} {g : Gg}
theorem w_ltold {Q : D → Store → Prop} (hg : g.ok k) (lt : t.length < 1000) (ht : ∀ x ∈ t, 0 ≤ x ∧ x < k) (hQ : Q (.int (tl g t)) st) : W (f__law_told [g.d, tb t] st) Q := by
  unfold f__law_told
  rw [runB_e]
  unfold m__law_told
  have i1 : ∀ z : List Nat, dIn (.str z) (.tup [.str [99, 111, 117, 110, 116], .str [114, 101, 115, 116]]) st = some (decide (z = [99, 111, 117, 110, 116]) || decide (z = [114, 101, 115, 116])) := fun z => by
    rw [dIn_flat (ys := [.str [99, 111, 117, 110, 116], .str [114, 101, 115, 116]]) rfl rfl rfl]
    simp [eq_comm]
  have fil : ∀ (ks : List Int) (τ : Sl) (w : List Nat) (n : Int) (Q : List D → Store → Prop), τ = [some (.tup [.str w, tb ks, .int n]), some (tb t), none, none] → Q ((t.filter fun x => decide (x ∈ ks)).map D.int) st → W (lc1 [3] (gN 3) (tBl (eBin oIn (eVar 3) (eBin oIx (eVar 0) (eC (.int 1))))) (eVar 3) τ (.fix (t.map D.int)) st) Q := fun ks τ w n Q hτ hq => by
    subst hτ
    refine w_lc (by show (t.map D.int).length ≤ _; rw [List.length_map]; omega) ?_
    exact w_fil D.int D.int (fun x => decide (x ∈ ks)) t rfl rfl (fun x _ => ⟨_, rfl, by simp [wipeD, in_tb]⟩) hq
  have mnc : ∀ n c : Int, (if n < c then n else c) = mn n c := fun n c => by
    unfold mn
    split <;> split <;> omega
  cases g with
  | count ks n =>
    simp only [sSeq_e, sIf_e, sSet_e, sExpr_e, sRet_e, sRetN_e, sNil_e, sFor_e, sBrk_e, sCnt_e, sSub_e, sAsg_e, W_fin, WS_seq, WS_bindE, WS_nx, WS_rt, WS_bk, WS_ct]
    simp [List.replicate, Gg.d, i1, lComp_e, sq_tb]
    refine fil ks _ _ n _ rfl ?_
    simp [gLen]
    rw [← cn_len, mnc]
    exact hQ
  | rest ks n =>
    obtain ⟨_, _, h, _⟩ := hg
    have hm : ∀ c, okMod c n = true := fun c => okMod_of (by omega)
    simp only [sSeq_e, sIf_e, sSet_e, sExpr_e, sRet_e, sRetN_e, sNil_e, sFor_e, sBrk_e, sCnt_e, sSub_e, sAsg_e, W_fin, WS_seq, WS_bindE, WS_nx, WS_rt, WS_bk, WS_ct]
    simp [List.replicate, Gg.d, i1, lComp_e, sq_tb]
    refine fil ks _ _ n _ rfl ?_
    simp [gLen, hm]
    rw [← cn_len]
    exact hQ
  | run ks n =>
    obtain ⟨R, hR⟩ : ∃ R, R = (t.reverse.takeWhile fun x => decide (x ∈ ks)).length := ⟨_, rfl⟩
    have eR : rn ks t = (R : Nat) := by
      have := rn_tw (ks := ks) t.reverse
      rw [List.reverse_reverse] at this
      rw [this, hR]
    have Rl : R ≤ t.length := by
      rw [hR]
      have := (List.takeWhile_prefix (l := t.reverse) fun x => decide (x ∈ ks)).length_le
      simpa using this
    rw [W_fin]
    refine ws_skip (by simp [List.replicate, Gg.d, i1]) ?_
    refine ws_take (by simp [List.replicate, Gg.d]) ?_
    refine ws_cons (N' := fun τ s => τ = [some (Gg.run ks n).d, some (tb t), some (.int 0), none] ∧ s = st) (by simp only [sSeq_e, sIf_e, sSet_e, sExpr_e, sRet_e, sRetN_e, sNil_e, sFor_e, sBrk_e, sCnt_e, sSub_e, sAsg_e, W_fin, WS_seq, WS_bindE, WS_nx, WS_rt, WS_bk, WS_ct]; simp [List.replicate]) fun τ s hp => ?_
    obtain ⟨rfl, rfl⟩ := hp
    refine ws_cons (N' := fun τ s' => τ = [some (Gg.run ks n).d, some (tb t), some (.int (R : Nat)), none] ∧ s' = s) ?_ fun τ s' hp => ?_
    · obtain ⟨P, hP⟩ : ∃ P : Nat → Sl → Store → Prop, P = fun j τ s' => ∃ m : Nat, j = t.length - m ∧ m ≤ R ∧ τ = [some (Gg.run ks n).d, some (tb t), some (.int (m : Nat)), none] ∧ s' = s := ⟨_, rfl⟩
      refine ws_while P ?_ big t.length _ _ (Nat.lt_of_lt_of_le (m := 2000) (by omega) (le_big (k := 11) (by decide) (by decide))) (by rw [hP]; exact ⟨0, by omega, by omega, rfl, rfl⟩)
      intro j τ s' hp
      rw [hP] at hp
      obtain ⟨m, rfl, hm, rfl, rfl⟩ := hp
      have tw := tw_len (p := fun x => decide (x ∈ ks)) (l := t.reverse) (m := m) (by rw [← hR]; exact hm)
      rw [← hR] at tw
      by_cases hmt : m < t.length
      · have ei : (t.length : Int) - 1 - (m : Int) = ((t.length - 1 - m : Nat) : Int) := by omega
        have ix := ix_tb (ks := t) (st := s') (i := t.length - 1 - m) (by omega)
        have er : t.reverse[m]? = some (t.getD (t.length - 1 - m) 0) := by
          rw [List.getElem?_reverse hmt]
          simp [List.getD, show t.length - 1 - m < t.length by omega]
        rw [er] at tw
        by_cases hin : t.getD (t.length - 1 - m) 0 ∈ ks
        · have hlt : m < R := tw.mp ⟨_, rfl, by simpa using hin⟩
          simp [-List.getD_eq_getElem?_getD, len_tb, hmt, ei, ix, Gg.d, in_tb, hin]
          rw [hP]
          refine ⟨t.length - (m + 1), by omega, m + 1, rfl, hlt, ?_, rfl⟩
          simp [Gg.d]
        · have hge : ¬ m < R := fun h => by
            obtain ⟨x, hx, hp⟩ := tw.mpr h
            cases hx
            exact hin (by simpa using hp)
          have : m = R := by omega
          simp [-List.getD_eq_getElem?_getD, len_tb, hmt, ei, ix, Gg.d, in_tb, hin]
          omega
      · have : m = R := by omega
        simp [len_tb, hmt, Gg.d]
        omega
    · obtain ⟨rfl, rfl⟩ := hp
      simp only [sSeq_e, sIf_e, sSet_e, sExpr_e, sRet_e, sRetN_e, sNil_e, sFor_e, sBrk_e, sCnt_e, sSub_e, sAsg_e, W_fin, WS_seq, WS_bindE, WS_nx, WS_rt, WS_bk, WS_ct]
      simp [Gg.d]
      rw [← eR, mnc]
      exact hQ
  | sum ws n =>
    obtain ⟨h1, h2, _⟩ := hg
    simp only [sSeq_e, sIf_e, sSet_e, sExpr_e, sRet_e, sRetN_e, sNil_e, sFor_e, sBrk_e, sCnt_e, sSub_e, sAsg_e, W_fin, WS_seq, WS_bindE, WS_nx, WS_rt, WS_bk, WS_ct]
    simp [List.replicate, Gg.d, i1, lComp_e, sq_tb]
    refine w_lc (by show (t.map D.int).length ≤ _; rw [List.length_map]; omega) ?_
    refine w_map D.int (fun x => D.int (ws.getD x.toNat 0)) t rfl rfl (fun x hx => ⟨_, rfl, ?_⟩) ?_
    · obtain ⟨h3, h4⟩ := ht x hx
      have e := ix_tb (ks := ws) (st := st) (i := x.toNat) (by omega)
      rw [Int.toNat_of_nonneg h3] at e
      simp [-List.getD_eq_getElem?_getD, wipeD, e]
    · have e := gSum_ints (st := st) (ns := t.map fun x => ws.getD x.toNat 0)
      rw [List.map_map] at e
      have e2 : gSum (t.map fun x => D.int (ws.getD x.toNat 0)) st = .ok (.int (wg ws t)) st := by
        rw [wg_sum]
        exact e
      rw [e2]
      simp
      rw [mnc]
      exact hQ
  | last =>
    simp only [sSeq_e, sIf_e, sSet_e, sExpr_e, sRet_e, sRetN_e, sNil_e, sFor_e, sBrk_e, sCnt_e, sSub_e, sAsg_e, W_fin, WS_seq, WS_bindE, WS_nx, WS_rt, WS_bk, WS_ct]
    cases t with
    | nil =>
      simp [List.replicate, Gg.d, len_tb, i1]
      exact hQ
    | cons x r =>
      have e := last_at (t := x :: r) (by simp)
      have l : fLen [tb (x :: r)] st = .ok (.int ((r.length + 1 : Nat) : Int)) st := len_tb
      have ix : oIx (tb (x :: r)) (.int (-1)) st = .ok (.int (la (x :: r))) st := by
        show oIx (.tup _) _ _ = _
        rw [oIx_tup, e]
        rfl
      have l0 : (0 : Int) < ((r.length + 1 : Nat) : Int) := by omega
      have l1 : (0 : Int) < (r.length : Int) + 1 := by omega
      simp [List.replicate, Gg.d, i1, l, ix, l1]
      exact hQ
  | most =>
    simp only [sSeq_e, sIf_e, sSet_e, sExpr_e, sRet_e, sRetN_e, sNil_e, sFor_e, sBrk_e, sCnt_e, sSub_e, sAsg_e, W_fin, WS_seq, WS_bindE, WS_nx, WS_rt, WS_bk, WS_ct]
    cases t with
    | nil =>
      simp [List.replicate, Gg.d, len_tb, i1]
      exact hQ
    | cons x r =>
      have e := gmax_mx (st := st) (y := x) (r := r)
      have l : fLen [tb (x :: r)] st = .ok (.int ((r.length + 1 : Nat) : Int)) st := len_tb
      have l1 : (0 : Int) < (r.length : Int) + 1 := by omega
      obtain ⟨R, hR⟩ : ∃ R, R = (x :: r).map D.int := ⟨_, rfl⟩
      have sq : oSeq (tb (x :: r)) st = .ok R st := by rw [hR]; rfl
      rw [← hR] at e
      obtain ⟨T, hT⟩ : ∃ T, T = x :: r := ⟨_, rfl⟩
      rw [← hT] at e l sq hQ ⊢
      simp [List.replicate, Gg.d, i1, l, sq, e, l1]
      exact hQ
  | seen r =>
    simp only [sSeq_e, sIf_e, sSet_e, sExpr_e, sRet_e, sRetN_e, sNil_e, sFor_e, sBrk_e, sCnt_e, sSub_e, sAsg_e, W_fin, WS_seq, WS_bindE, WS_nx, WS_rt, WS_bk, WS_ct]
    simp [List.replicate, Gg.d, i1, sq_tb]
    refine ws_fold D.int (snF r) (fun (b : Nat) a => [some (Gg.seen r).d, some (tb t), some (.int (b : Nat)), a]) t 0 none rfl rfl rfl (fun b a x hx => ⟨_, rfl, ?_⟩) fun a => ?_
    · by_cases h : b < r.length
      · have e := ix_tb (ks := r) (st := st) h
        by_cases h2 : r.getD b 0 = x
        · simp [-List.getD_eq_getElem?_getD, len_tb, e, h, h2, snF, sIf_e, Gg.d, sAug_e, oIAdd]
        · simp [-List.getD_eq_getElem?_getD, len_tb, e, h, h2, snF, sIf_e, Gg.d]
      · simp [-List.getD_eq_getElem?_getD, len_tb, h, snF, sIf_e, Gg.d]
    · simp
      exact hQ
end
theorem mx_snoc {t : List Int} {x : Int} (h0 : 0 ≤ x) : mx (t ++ [x]) = max (mx t) x := by
  cases t with
  | nil =>
    show x = max (-1) x
    omega
  | cons y r =>
    show ((r ++ [x]).foldl max y) = _
    rw [List.foldl_append]
    rfl
theorem la_snoc {t : List Int} {x : Int} : la (t ++ [x]) = x := by simp [la]
theorem wg_snoc {ws t : List Int} {x : Int} : wg ws (t ++ [x]) = wg ws t + ws.getD x.toNat 0 := by
  unfold wg
  rw [List.foldl_append]
  rfl
theorem cn_snoc {ks t : List Int} {x : Int} : cn ks (t ++ [x]) = if x ∈ ks then cn ks t + 1 else cn ks t := by
  unfold cn
  rw [List.foldl_append]
  rfl
theorem sn_snoc {r t : List Int} {x : Int} : sn r (t ++ [x]) = if sn r t < r.length ∧ r.getD (sn r t) 0 = x then sn r t + 1 else sn r t := by
  unfold sn
  rw [List.foldl_append]
  rfl
theorem mn_step {n c w : Int} (hw : 0 ≤ w) : mn n (mn n c + w) = mn n (c + w) := by
  unfold mn
  by_cases h1 : c < n
  · simp only [h1, if_true]
  · simp only [h1, if_false]
    split <;> split <;> omega
section
variable {st : Store} {t : List Int} {x : Int} {k : Nat} {g : Gg}
theorem r_stepped (hg : g.ok k) (hx : 0 ≤ x ∧ x < k) : f_stepped [g.d, .int (tl g t), .int x] st = .ok (.int (tl g (t ++ [x]))) st := by
  unfold f_stepped
  rw [runB_e]
  unfold m_stepped
  obtain ⟨v, hv⟩ : ∃ v, v = tl g t := ⟨_, rfl⟩
  rw [← hv]
  have sc : ∀ (w : List Nat) (ks : List Int) (n : Int), (w = [114, 101, 115, 116] → n ≠ 0) → f_stepped_count [.tup [.str w, tb ks, .int n], .int v, .int x] st = if x ∈ ks then (if w = [114, 101, 115, 116] then .ok (.int ((v + 1).fmod n)) st else .ok (.int (mn n (v + 1))) st) else .ok (if w = [114, 117, 110] then .int 0 else .int v) st := fun w ks n hn => by
    unfold f_stepped_count
    rw [runB_e]
    unfold m_stepped_count
    have oa : ∀ s, ofA (gT 3 (gCs 3 (gCs 4 (gCs 5 gNil0)))) [some (.tup [.str w, tb ks, .int n]), some (.int v), some (.int x), none, none, none] (.tup [.str w, tb ks, .int n]) s = .nx [some (.tup [.str w, tb ks, .int n]), some (.int v), some (.int x), some (.str w), some (tb ks), some (.int n)] s := fun _ => rfl
    by_cases h : x ∈ ks
    · by_cases h2 : w = [114, 101, 115, 116]
      · subst h2
        have hm : okMod (v + 1) n = true := okMod_of (hn rfl)
        simp [List.replicate, in_tb, h, mn_e, -fMin2_e, sAsg_e, oa, hm]
      · simp [List.replicate, in_tb, h, h2, mn_e, -fMin2_e, sAsg_e, oa]
    · by_cases h2 : w = [114, 117, 110]
      · subst h2
        simp [List.replicate, in_tb, h, sAsg_e, oa]
      · simp [List.replicate, in_tb, h, h2, sAsg_e, oa]
  cases g with
  | count ks n =>
    have e : tl (Gg.count ks n) (t ++ [x]) = if x ∈ ks then mn n (v + 1) else v := by
      rw [hv]
      show mn n (cn ks (t ++ [x])) = if x ∈ ks then mn n (mn n (cn ks t) + 1) else mn n (cn ks t)
      rw [cn_snoc, mn_step (by decide)]
      split <;> rfl
    rw [e]
    have s1 := sc [99, 111, 117, 110, 116] ks n (by simp)
    by_cases h : x ∈ ks <;> simp [List.replicate, Gg.d, s1, h]
  | rest ks n =>
    obtain ⟨_, _, h1, _⟩ := hg
    have hm : ∀ c, okMod c n = true := fun c => okMod_of (by omega)
    have e : tl (Gg.rest ks n) (t ++ [x]) = if x ∈ ks then (v + 1).fmod n else v := by
      rw [hv]
      show (cn ks (t ++ [x])).fmod n = if x ∈ ks then ((cn ks t).fmod n + 1).fmod n else (cn ks t).fmod n
      rw [cn_snoc]
      split
      · rw [Int.fmod_eq_emod_of_nonneg _ (by omega), Int.fmod_eq_emod_of_nonneg _ (by omega), Int.fmod_eq_emod_of_nonneg _ (by omega), Int.emod_add_emod]
      · rfl
    rw [e]
    have s1 := sc [114, 101, 115, 116] ks n (fun _ => by omega)
    by_cases h : x ∈ ks <;> simp [List.replicate, Gg.d, s1, h]
  | run ks n =>
    obtain ⟨_, _, h1, _⟩ := hg
    have e : tl (Gg.run ks n) (t ++ [x]) = if x ∈ ks then mn n (v + 1) else 0 := by
      rw [hv]
      show mn n (rn ks (t ++ [x])) = if x ∈ ks then mn n (mn n (rn ks t) + 1) else 0
      rw [rn_snoc, mn_step (by decide)]
      split
      · rfl
      · unfold mn
        rw [if_pos h1]
    rw [e]
    have s1 := sc [114, 117, 110] ks n (by simp)
    by_cases h : x ∈ ks <;> simp [List.replicate, Gg.d, s1, h]
  | sum ws n =>
    obtain ⟨h1, h2, _⟩ := hg
    have ei := ix_tb (ks := ws) (st := st) (i := x.toNat) (by omega)
    rw [Int.toNat_of_nonneg hx.1] at ei
    have hw : 0 ≤ ws.getD x.toNat 0 := by
      have hl : x.toNat < ws.length := by omega
      have := h2 ws[x.toNat] (List.getElem_mem hl)
      simpa [List.getD, hl] using this
    have e : tl (Gg.sum ws n) (t ++ [x]) = mn n (v + ws.getD x.toNat 0) := by
      rw [hv]
      show mn n (wg ws (t ++ [x])) = mn n (mn n (wg ws t) + ws.getD x.toNat 0)
      rw [wg_snoc, mn_step hw]
    rw [e]
    simp [-List.getD_eq_getElem?_getD, List.replicate, Gg.d, ei, mn_e, -fMin2_e]
  | last =>
    have e : tl Gg.last (t ++ [x]) = x + 1 := by
      show la (t ++ [x]) + 1 = _
      rw [la_snoc]
    rw [e]
    simp [List.replicate, Gg.d]
  | most =>
    have e : tl Gg.most (t ++ [x]) = if x + 1 > v then x + 1 else v := by
      rw [hv]
      show mx (t ++ [x]) + 1 = if x + 1 > mx t + 1 then x + 1 else mx t + 1
      rw [mx_snoc hx.1]
      split <;> omega
    rw [e]
    simp [List.replicate, Gg.d]
  | seen r =>
    have ss : f_stepped_seen [tb r, .int (sn r t : Nat), .int x] st = .ok (.int (sn r (t ++ [x]) : Nat)) st := by
      rw [sn_snoc]
      unfold f_stepped_seen
      rw [runB_e]
      unfold m_stepped_seen
      obtain ⟨b, hb⟩ : ∃ b, b = sn r t := ⟨_, rfl⟩
      rw [← hb]
      by_cases h : b < r.length
      · have e := ix_tb (ks := r) (st := st) h
        by_cases h2 : r.getD b 0 = x
        · simp [-List.getD_eq_getElem?_getD, List.replicate, len_tb, e, h, h2]
        · simp [-List.getD_eq_getElem?_getD, List.replicate, len_tb, e, h, h2]
      · simp [-List.getD_eq_getElem?_getD, List.replicate, len_tb, h]
    have hv' : v = (sn r t : Nat) := hv
    rw [hv']
    show _ = ER.ok (D.int (sn r (t ++ [x]) : Nat)) st
    simp [List.replicate, Gg.d, ss]
end

/-! words and what is told of them: the search -/
section
variable {κ : Type} [DecidableEq κ]
def seenT (f : List Int → κ) (T : List (List Int)) (t : List Int) : Bool := T.any fun u => decide (f u = f t)
def addT (f : List Int → κ) (T : List (List Int)) (t : List Int) : List (List Int) := if seenT f T t then T else T ++ [t]
def rowT (f : List Int → κ) (T : List (List Int)) (t0 : List Int) : Nat → List (List Int)
  | 0 => T
  | j + 1 => addT f (rowT f T t0 j) (t0 ++ [(j : Int)])
def bfs (f : List Int → κ) (k : Nat) : Nat → List (List Int)
  | 0 => [[]]
  | n + 1 => rowT f (bfs f k n) ((bfs f k n).getD n []) k
/-- the number of what is told -/
def ixT (f : List Int → κ) (T : List (List Int)) (t : List Int) : Nat := T.findIdx fun u => decide (f u = f t)
/-- the n-th word -/
def wdT (f : List Int → κ) (k n : Nat) : List Int := (bfs f k n).getD n []
def rowV (f : List Int → κ) (k n : Nat) : List Nat := (List.range k).map fun j : Nat => ixT f (bfs f k (n + 1)) (wdT f k n ++ [(j : Int)])
variable {f g : List Int → κ} {T T' : List (List Int)} {t t0 : List Int} {k n m j : Nat}
theorem addT_pre : T <+: addT f T t := by
  unfold addT
  split
  · exact List.prefix_refl _
  · exact List.prefix_append ..
theorem addT_len : (addT f T t).length ≤ T.length + 1 := by
  unfold addT
  split <;> simp
theorem seen_pre (h : T <+: T') (s : seenT f T t = true) : seenT f T' t = true := by
  obtain ⟨r, rfl⟩ := h
  unfold seenT at s ⊢
  rw [List.any_append, s, Bool.true_or]
theorem addT_seen : seenT f (addT f T t) t = true := by
  unfold addT
  split
  · assumption
  · unfold seenT
    simp
theorem rowT_step (h : j ≤ m) : rowT f T t0 j <+: rowT f T t0 m := by
  induction m with
  | zero => rw [Nat.le_zero.mp h]; exact List.prefix_refl _
  | succ m ih =>
    by_cases e : j = m + 1
    · rw [e]; exact List.prefix_refl _
    · exact (ih (by omega)).trans addT_pre
theorem rowT_len : (rowT f T t0 j).length ≤ T.length + j := by
  induction j with
  | zero => exact Nat.le_refl _
  | succ j ih => exact Nat.le_trans addT_len (by omega)
theorem bfs_pre (h : n ≤ m) : bfs f k n <+: bfs f k m := by
  induction m with
  | zero => rw [Nat.le_zero.mp h]; exact List.prefix_refl _
  | succ m ih =>
    by_cases e : n = m + 1
    · rw [e]; exact List.prefix_refl _
    · exact (ih (by omega)).trans (rowT_step (Nat.zero_le k))
theorem bfs_len : (bfs f k (n + 1)).length ≤ (bfs f k n).length + k := rowT_len
theorem bfs_pos : 0 < (bfs f k n).length := Nat.lt_of_lt_of_le (Nat.zero_lt_one) ((bfs_pre (f := f) (k := k) (Nat.zero_le n)).length_le)
theorem ix_pre (h : T <+: T') (s : seenT f T t = true) : ixT f T' t = ixT f T t := by
  obtain ⟨r, rfl⟩ := h
  unfold ixT
  unfold seenT at s
  obtain ⟨u, hu, h2⟩ := List.any_eq_true.mp s
  rw [List.findIdx_append, if_pos (List.findIdx_lt_length_of_exists ⟨u, hu, h2⟩)]
theorem ix_lt (s : seenT f T t = true) : ixT f T t < T.length := by
  obtain ⟨u, hu, h2⟩ := List.any_eq_true.mp s
  exact List.findIdx_lt_length_of_exists ⟨u, hu, h2⟩
theorem ix_at (s : seenT f T t = true) : f (T.getD (ixT f T t) []) = f t := by
  have h := ix_lt s
  have := List.findIdx_getElem (xs := T) (p := fun u => decide (f u = f t)) (w := h)
  rw [List.getD_eq_getElem?_getD, List.getElem?_eq_getElem h]
  exact of_decide_eq_true this
theorem ix_new (s : seenT f T t = false) : ixT f (T ++ [t]) t = T.length := by
  unfold ixT
  unfold seenT at s
  rw [List.findIdx_append, List.findIdx_eq_length_of_false]
  · simp
  · intro x hx
    have := List.any_eq_false.mp s x hx
    simpa using this
/-- what is told is told by different words -/
def Dif (f : List Int → κ) (T : List (List Int)) : Prop := T.Pairwise fun u v => f u ≠ f v
theorem Dif.add (h : Dif f T) : Dif f (addT f T t) := by
  unfold addT
  split
  · exact h
  · rename_i s
    unfold Dif
    rw [List.pairwise_append]
    refine ⟨h, by simp, fun a ha b hb => ?_⟩
    have : b = t := by simpa using hb
    subst this
    have s : seenT f T b = false := by simpa using s
    have := List.any_eq_false.mp s a ha
    simpa using this
theorem Dif.row (h : Dif f T) : Dif f (rowT f T t0 j) := by
  induction j with
  | zero => exact h
  | succ j ih => exact ih.add
theorem Dif.bfs : Dif f (bfs f k n) := by
  induction n with
  | zero => simp [Dif, K10.bfs]
  | succ n ih => exact ih.row
/-- a word's own number -/
theorem ix_self (h : Dif f T) {i : Nat} (hi : i < T.length) : ixT f T (T.getD i []) = i := by
  have e : T.getD i [] = T[i] := by rw [List.getD_eq_getElem?_getD, List.getElem?_eq_getElem hi]; rfl
  rw [e]
  unfold ixT
  rw [List.findIdx_eq hi]
  refine ⟨by simp, fun j hj => ?_⟩
  have := List.pairwise_iff_getElem.mp h j i (by omega) hi hj
  simpa using this
/-- what all words of the search are like -/
theorem addT_all {P : List Int → Prop} (h : ∀ u ∈ T, P u) (ht : P t) : ∀ u ∈ addT f T t, P u := by
  intro u hu
  unfold addT at hu
  split at hu
  · exact h u hu
  · rcases List.mem_append.mp hu with q | q
    · exact h u q
    · have : u = t := by simpa using q
      rw [this]
      exact ht
theorem rowT_all {P : List Int → Prop} (h : ∀ u ∈ T, P u) (ht : ∀ i, i < j → P (t0 ++ [(i : Int)])) : ∀ u ∈ rowT f T t0 j, P u := by
  induction j with
  | zero => exact h
  | succ j ih => exact addT_all (ih fun i hi => ht i (by omega)) (ht j (by omega))
theorem getD_mem {n : Nat} (h : n < T.length) : T.getD n [] ∈ T := by
  rw [List.getD_eq_getElem?_getD, List.getElem?_eq_getElem h]
  exact List.getElem_mem h
/-- a word of kinds, so long at most -/
structure Wd (k n : Nat) (t : List Int) : Prop where
  lt : ∀ x ∈ t, 0 ≤ x ∧ x < (k : Int)
  len : t.length ≤ n
theorem Wd.up (h : Wd k n t) (hm : n ≤ m) : Wd k m t := ⟨h.lt, Nat.le_trans h.len hm⟩
theorem Wd.snoc (h : Wd k n t) {i : Nat} (hi : i < k) : Wd k (n + 1) (t ++ [(i : Int)]) := ⟨fun x hx => by
  rcases List.mem_append.mp hx with q | q
  · exact h.lt x q
  · have : x = (i : Int) := by simpa using q
    omega, by rw [List.length_append]; have := h.len; simp; omega⟩
theorem Wd.nil : Wd k n [] := ⟨by simp, Nat.zero_le _⟩
theorem bfs_wd : ∀ u ∈ bfs f k n, Wd k n u := by
  induction n with
  | zero =>
    intro u hu
    have : u = [] := by simpa [bfs] using hu
    rw [this]
    exact Wd.nil
  | succ n ih =>
    refine rowT_all (fun u hu => (ih u hu).up (by omega)) fun i hi => ?_
    by_cases h : n < (bfs f k n).length
    · exact (ih _ (getD_mem h)).snoc hi
    · rw [List.getD_eq_getElem?_getD, List.getElem?_eq_none (by omega)]
      exact Wd.nil.snoc hi
theorem wd_wd : Wd k n (wdT f k n) := by
  unfold wdT
  by_cases h : n < (bfs f k n).length
  · exact bfs_wd _ (getD_mem h)
  · rw [List.getD_eq_getElem?_getD, List.getElem?_eq_none (by omega)]
    exact Wd.nil
/-- it is the same word later -/
theorem getD_pre {i : Nat} (h : T <+: T') (hi : i < T.length) : T'.getD i [] = T.getD i [] := by
  obtain ⟨r, rfl⟩ := h
  rw [List.getD_eq_getElem?_getD, List.getD_eq_getElem?_getD, List.getElem?_append_left hi]
/-- the same answers, the same search -/
theorem seen_congr (h : ∀ u v, f u = f v ↔ g u = g v) : seenT f T t = seenT g T t := by
  unfold seenT
  congr 1
  funext u
  exact decide_eq_decide.mpr (h u t)
theorem ix_congr (h : ∀ u v, f u = f v ↔ g u = g v) : ixT f T t = ixT g T t := by
  unfold ixT
  congr 1
  funext u
  exact decide_eq_decide.mpr (h u t)
theorem addT_congr (h : ∀ u v, f u = f v ↔ g u = g v) : addT f T t = addT g T t := by
  unfold addT
  rw [seen_congr h]
theorem rowT_congr (h : ∀ u v, f u = f v ↔ g u = g v) : rowT f T t0 j = rowT g T t0 j := by
  induction j with
  | zero => rfl
  | succ j ih =>
    show addT f (rowT f T t0 j) _ = addT g (rowT g T t0 j) _
    rw [ih, addT_congr h]
theorem bfs_congr (h : ∀ u v, f u = f v ↔ g u = g v) : bfs f k n = bfs g k n := by
  induction n with
  | zero => rfl
  | succ n ih =>
    show rowT f (bfs f k n) _ k = rowT g (bfs g k n) _ k
    rw [ih, rowT_congr h]
theorem rowV_congr (h : ∀ u v, f u = f v ↔ g u = g v) : rowV f k n = rowV g k n := by
  unfold rowV wdT
  rw [bfs_congr h, bfs_congr h]
  congr 1
  funext j
  exact ix_congr h
/-- where the law's search ends -/
structure Stop (f : List Int → κ) (k n : Nat) : Prop where
  go : ∀ m, m < n → m < (bfs f k m).length ∧ (bfs f k m).length ≤ 41
  at_ : n = (bfs f k n).length ∨ 41 < (bfs f k n).length
theorem Stop.fit (h : Stop f k n) (l : (bfs f k n).length ≤ 40) : n = (bfs f k n).length := by
  rcases h.at_ with q | q
  · exact q
  · omega
end

/-! k10: what the gauges tell, numbered -/
def vl (gs : List Gg) (t : List Int) : List Int := gs.map fun g => tl g t
def key (gs : List Gg) (t : List Int) : D := tb (vl gs t)
def gsd (gs : List Gg) : D := .tup (gs.map Gg.d)
theorem ints_inj {a b : List Int} (h : a.map D.int = b.map D.int) : a = b := by
  induction a generalizing b with
  | nil =>
    cases b with
    | nil => rfl
    | cons y b => cases h
  | cons x a ih =>
    cases b with
    | nil => cases h
    | cons y b =>
      simp only [List.map_cons, List.cons.injEq, D.int.injEq] at h
      rw [h.1, ih h.2]
theorem tb_inj {a b : List Int} (h : tb a = tb b) : a = b := ints_inj (D.tup.inj h)
theorem key_iff {gs : List Gg} {t u : List Int} : key gs t = key gs u ↔ vl gs t = vl gs u := ⟨fun h => tb_inj h, fun h => by unfold key; rw [h]⟩
theorem tupQ_tb {a : List Int} : (tb a).tupQ = true := by
  show (D.tup (a.map D.int)).plain 8 = true
  simp only [D.plain, List.all_map, List.all_eq_true]
  intro x _
  rfl
/-- the numbers noted in a dict -/
def numF (gs : List Gg) (n : Nat) (T : List (List Int)) : List (D × D) := (T.zipIdx n).map fun p => (key gs p.1, .int ((p.2 : Nat) : Int))
theorem num_keys {gs : List Gg} {n : Nat} {T : List (List Int)} : ((numF gs n T).all fun p => p.1.tupQ) = true := by
  unfold numF
  rw [List.all_map, List.all_eq_true]
  intro p _
  exact tupQ_tb
theorem num_get {gs : List Gg} {t : List Int} : ∀ (T : List (List Int)) (n : Nat), dGet (numF gs n T) (key gs t) = if seenT (vl gs) T t then some (.int ((n + ixT (vl gs) T t : Nat) : Int)) else none
  | [], n => rfl
  | u :: T, n => by
    have ih := num_get (gs := gs) (t := t) T (n + 1)
    unfold dGet at ih ⊢
    unfold numF at ih ⊢
    rw [List.zipIdx_cons, List.map_cons]
    by_cases e : vl gs u = vl gs t
    · rw [List.find?_cons_of_pos (by simpa using key_iff.mpr e)]
      have s : seenT (vl gs) (u :: T) t = true := by simp [seenT, e]
      have i : ixT (vl gs) (u :: T) t = 0 := by simp [ixT, List.findIdx_cons, e]
      rw [if_pos s, i]
      rfl
    · rw [List.find?_cons_of_neg (by simpa using fun h => e (key_iff.mp h)), ih]
      have s : seenT (vl gs) (u :: T) t = seenT (vl gs) T t := by simp [seenT, e]
      have i : ixT (vl gs) (u :: T) t = ixT (vl gs) T t + 1 := by simp [ixT, List.findIdx_cons, e]
      rw [s, i]
      split
      · congr 3
        omega
      · rfl
theorem num_put {gs : List Gg} {t : List Int} {T : List (List Int)} (s : seenT (vl gs) T t = false) : dPut (numF gs 0 T) (key gs t) (.int (T.length : Nat)) = numF gs 0 (T ++ [t]) := by
  unfold dPut
  rw [num_get, s]
  simp [numF, List.zipIdx_append]
theorem num_len {gs : List Gg} {n : Nat} {T : List (List Int)} : (numF gs n T).length = T.length := by simp [numF]
section
variable {st : Store} {gs : List Gg} {k n da : Nat} {t : List Int} {T : List (List Int)}
theorem num_in {s : Store} (h : dctAt s da = some (numF gs 0 T)) : dIn (key gs t) (.ref da) s = some (seenT (vl gs) T t) := by
  have := dIn_dct (x := key gs t) h (keyFit_tup num_keys tupQ_tb)
  rw [this, num_get]
  cases seenT (vl gs) T t <;> rfl
theorem num_ix {s : Store} (h : dctAt s da = some (numF gs 0 T)) (hs : seenT (vl gs) T t = true) : oIx (.ref da) (key gs t) s = .ok (.int (ixT (vl gs) T t : Nat)) s := by
  refine oIx_dct h (keyFit_tup num_keys (tupQ_tb : (key gs t).tupQ = true)) ?_
  rw [num_get, if_pos hs, Nat.zero_add]
theorem tl_nil {g : Gg} (h : g.ok k) : tl g [] = 0 := by
  cases g with
  | count ks n => have := h.2.2.1; simp [tl, cn, mn]; omega
  | rest ks n => simp [tl, cn]
  | run ks n => have := h.2.2.1; simp [tl, rn, mn]; omega
  | sum ws n => have := h.2.2.1; simp [tl, wg, mn]; omega
  | last => rfl
  | most => rfl
  | seen r => rfl
theorem vl_nil (h : ∀ g ∈ gs, g.ok k) : vl gs [] = gs.map fun _ => 0 := List.map_congr_left fun g hg => tl_nil (h g hg)
theorem w_zeros {τ : Sl} {i0 : Nat} {fe : EM D} {Q : List D → Store → Prop} (hset : ∀ g : Gg, ∃ τ1, gN i0 g.d τ = some τ1 ∧ fe τ1 st = .ok (.int 0) st) (hQ : Q (gs.map fun _ => D.int 0) st) : W (compL (.fix (gs.map Gg.d)) (gN i0) tYes fe τ (gs.map Gg.d) [] st) Q := by
  refine w_map Gg.d (fun _ => D.int 0) gs rfl rfl (fun g _ => ?_) hQ
  obtain ⟨τ1, h1, h2⟩ := hset g
  exact ⟨τ1, h1, W.of h2 ⟨rfl, rfl⟩⟩
theorem key_nil (h : ∀ g ∈ gs, g.ok k) : key gs [] = .tup (gs.map fun _ => D.int 0) := by
  unfold key tb
  rw [vl_nil h, List.map_map]
  rfl
theorem r_first_values (h : ∀ g ∈ gs, g.ok k) (hl : gs.length ≤ 100) : f_first_values [gsd gs] st = .ok (key gs []) st := by
  have key : W (f_first_values [gsd gs] st) fun d s => d = key gs [] ∧ s = st := by
    unfold f_first_values
    rw [runB_e]
    unfold m_first_values
    rw [W_fin]
    refine ws_ret ?_
    rw [eCS_e, W_bind, lComp_e, W_bind, iEx_e, W_bind, show ent 2 [gsd gs] = [some (gsd gs), none] from rfl, eVar_e rfl, W_ok, show dSq st (gsd gs) = some (.fix (gs.map Gg.d)) from rfl, ofQ_some, W_ok]
    refine w_lc (by show (gs.map Gg.d).length ≤ _; rw [List.length_map]; omega) ?_
    refine w_zeros (fun g => ⟨_, rfl, rfl⟩) ?_
    rw [gTuple_e, W_ok, key_nil h]
    exact ⟨rfl, rfl⟩
  obtain ⟨d, s, h, rfl, rfl⟩ := key.ex
  exact h
theorem zipD_self {α : Type} {f g : α → D} : ∀ {xs : List α}, zipD (xs.map f) (xs.map g) = xs.map fun a => .tup [f a, g a]
  | [] => rfl
  | x :: xs => by
    rw [List.map_cons, List.map_cons, List.map_cons, ← zipD_self]
    rfl
theorem r_stepped_all {x : Nat} (h : ∀ g ∈ gs, g.ok k) (hl : gs.length ≤ 100) (hx : x < k) : f_stepped_all [gsd gs, key gs t, .int (x : Nat)] st = .ok (key gs (t ++ [(x : Int)])) st := by
  have key : W (f_stepped_all [gsd gs, key gs t, .int (x : Nat)] st) fun d s => d = key gs (t ++ [(x : Int)]) ∧ s = st := by
    unfold f_stepped_all
    rw [runB_e]
    unfold m_stepped_all
    rw [W_fin]
    refine ws_ret ?_
    have ek : K10.key gs t = .tup (gs.map fun g => D.int (tl g t)) := by
      unfold K10.key tb vl
      rw [List.map_map]
      rfl
    rw [eCS_e, W_bind, lComp_e, W_bind, iZip_e, W_bind, show ent 5 [gsd gs, K10.key gs t, .int (x : Nat)] = [some (gsd gs), some (K10.key gs t), some (.int (x : Nat)), none, none] from rfl, eVar_e rfl, W_ok, W_bind, eVar_e rfl, W_ok]
    have ez : zip2 (gsd gs) (K10.key gs t) st = .ok (.fix (zipD (gs.map Gg.d) (gs.map fun g => D.int (tl g t)))) st := by
      rw [ek]
      rfl
    rw [ez, W_ok]
    refine w_lc (by show (zipD _ _).length ≤ _; rw [zipD_self, List.length_map]; omega) ?_
    refine w_map (fun g : Gg => D.tup [g.d, .int (tl g t)]) (fun g : Gg => D.int (tl g (t ++ [(x : Int)]))) gs zipD_self rfl (fun g hg => ⟨_, rfl, ?_⟩) ?_
    · refine W.of (a := .int (tl g (t ++ [(x : Int)]))) (s := st) ?_ ⟨rfl, rfl⟩
      have z := r_stepped (st := st) (t := t) (x := (x : Int)) (h g hg) ⟨by omega, by omega⟩
      simp [wipeD, z]
    · rw [gTuple_e, W_ok]
      refine ⟨?_, rfl⟩
      unfold K10.key tb vl
      rw [List.map_map]
      rfl
  obtain ⟨d, s, h, rfl, rfl⟩ := key.ex
  exact h
end

/-! k10: the machine -/
def tooMany : Xc := ⟨cN "TooMany", [("part", .str [115, 116, 97, 116, 101, 115])]⟩
/-- a row of a reader -/
def rowD (l : List Nat) : D := .tup (l.map fun i => .int (i : Nat))
def rowsD (gs : List Gg) (k n : Nat) : List D := (List.range n).map fun m => rowD (rowV (vl gs) k m)
/-- what a machine is -/
def mach (gs : List Gg) (k n : Nat) : D := .tup [.tup [.str [114, 101, 97, 100, 101, 114], .tup (rowsD gs k n)], .tup ((bfs (vl gs) k n).map (key gs))]
/-- a row under way -/
def rowP (gs : List Gg) (k n j : Nat) : List D := (List.range j).map fun i => .int ((ixT (vl gs) (rowT (vl gs) (bfs (vl gs) k n) (wdT (vl gs) k n) (i + 1)) (wdT (vl gs) k n ++ [(i : Int)]) : Nat) : Int)
theorem rowP_all {gs : List Gg} {k n : Nat} : D.tup (rowP gs k n k) = rowD (rowV (vl gs) k n) := by
  unfold rowP rowD rowV
  rw [List.map_map]
  congr 1
  refine List.map_congr_left fun i hi => ?_
  have hi := List.mem_range.mp hi
  show D.int _ = D.int _
  congr 2
  exact (ix_pre (T' := bfs (vl gs) k (n + 1)) (rowT_step (by omega)) addT_seen).symm
theorem rowP_snoc {gs : List Gg} {k n j : Nat} : rowP gs k n (j + 1) = rowP gs k n j ++ [.int ((ixT (vl gs) (rowT (vl gs) (bfs (vl gs) k n) (wdT (vl gs) k n) (j + 1)) (wdT (vl gs) k n ++ [(j : Int)]) : Nat) : Int)] := by
  unfold rowP
  rw [List.range_succ, List.map_append]
  rfl
theorem rowsD_snoc {gs : List Gg} {k n : Nat} : rowsD gs k (n + 1) = rowsD gs k n ++ [rowD (rowV (vl gs) k n)] := by
  unfold rowsD
  rw [List.range_succ, List.map_append]
  rfl
/-- the three cells of a search -/
structure Cel (st s : Store) (gs : List Gg) (T : List (List Int)) (rows : List D) : Prop where
  va : lstAt s st.length = some (T.map (key gs))
  da : dctAt s (st.length + 1) = some (numF gs 0 T)
  ra : lstAt s (st.length + 2) = some rows
  gr : Gr st s
theorem Cel.lt {st s : Store} {gs : List Gg} {T : List (List Int)} {rows : List D} (c : Cel st s gs T rows) : st.length + 2 < s.length := lstAt_lt c.ra
/-- a cell behind the three is written -/
theorem Cel.put {st s : Store} {gs : List Gg} {T : List (List Int)} {rows : List D} {i : Nat} {c : Cell} (h : Cel st s gs T rows) (hi : st.length + 2 < i) : Cel st (s.set i c) gs T rows :=
  ⟨by rw [lstAt_ne (by omega)]; exact h.va, by rw [dctAt_ne (by omega)]; exact h.da, by rw [lstAt_ne (by omega)]; exact h.ra, h.gr.put (by omega)⟩
theorem Cel.app {st s : Store} {gs : List Gg} {T : List (List Int)} {rows : List D} {c : Cell} (h : Cel st s gs T rows) : Cel st (s ++ [c]) gs T rows :=
  ⟨Gr.app.lst h.va, Gr.app.dct h.da, Gr.app.lst h.ra, h.gr.trans Gr.app⟩
/-- a row more -/
theorem Cel.row {st s : Store} {gs : List Gg} {T : List (List Int)} {rows rows' : List D} (h : Cel st s gs T rows) : Cel st (s.set (st.length + 2) (.lst rows')) gs T rows' :=
  ⟨by rw [lstAt_ne (by omega)]; exact h.va, by rw [dctAt_ne (by omega)]; exact h.da, by rw [lstAt_set h.ra], h.gr.put (by omega)⟩
/-- a word more -/
theorem Cel.more {st s : Store} {gs : List Gg} {T : List (List Int)} {rows : List D} {t : List Int} (h : Cel st s gs T rows) (hs : seenT (vl gs) T t = false) :
    Cel st ((s.set (st.length + 1) (.dct (dPut (numF gs 0 T) (key gs t) (.int (T.length : Nat))))).set st.length (.lst (T.map (key gs) ++ [key gs t]))) gs (T ++ [t]) rows := by
  have v2 : lstAt (s.set (st.length + 1) (.dct (dPut (numF gs 0 T) (key gs t) (.int (T.length : Nat))))) st.length = some (T.map (key gs)) := by rw [lstAt_ne (by omega)]; exact h.va
  refine ⟨by rw [lstAt_set v2, List.map_append]; rfl, ?_, ?_, (h.gr.put (by omega)).put (by omega)⟩
  · rw [dctAt_ne (by omega), dctAt_set h.da, num_put hs]
  · rw [lstAt_ne (by omega), lstAt_ne (by omega)]
    exact h.ra
section
variable {st : Store} {gs : List Gg} {k n : Nat}
theorem r_room {va : Nat} {xs : List D} (h : lstAt st va = some xs) : f_check_room [.ref va] st = if 40 ≤ xs.length then .exc tooMany st else .ok .non st := by
  have e := fLen_ref h
  have q : q_MOST_STATES = .int 40 := rfl
  unfold f_check_room
  rw [runB_e]
  unfold m_check_room
  by_cases c : 40 ≤ xs.length
  · have c' : (40 : Int) ≤ xs.length := by omega
    rw [if_pos c]
    simp [List.replicate, e, q, c', sRaise1, tooMany]
  · have c' : ¬ (40 : Int) ≤ xs.length := by omega
    rw [if_neg c]
    simp [List.replicate, e, q, c']
theorem wx_machine (hk : k ≤ 5) (hg : ∀ g ∈ gs, g.ok k) (hl : gs.length ≤ 100) (S : Stop (vl gs) k n) : WX (f_machine [.int (k : Nat), gsd gs] st) (fun d s => (bfs (vl gs) k n).length ≤ 40 ∧ d = mach gs k n ∧ Gr st s) (fun x s => 40 < (bfs (vl gs) k n).length ∧ x = tooMany ∧ Gr st s) := by
  unfold f_machine
  rw [runB_e]
  unfold m_machine
  rw [WX_fin]
  have e0 : ent 9 [D.int (k : Nat), gsd gs] = [some (.int (k : Nat)), some (gsd gs), none, none, none, none, none, none, none] := rfl
  rw [e0]
  have fv := r_first_values (st := st) hg hl
  obtain ⟨G, hG⟩ : ∃ G, G = gsd gs := ⟨_, rfl⟩
  rw [← hG] at fv ⊢
  refine wsx_cons (N' := fun τ s => τ = [some (.int (k : Nat)), some G, some (.ref st.length), none, none, none, none, none, none] ∧ s = st ++ [.lst [key gs []]]) (WS.x ?_) fun τ s hp => ?_
  · refine ws_set ?_
    refine W.of (a := .ref st.length) (s := st ++ [.lst [key gs []]]) (by simp [fv]) ⟨rfl, rfl⟩
  obtain ⟨rfl, hs⟩ := hp
  rw [hs]
  clear hs s
  refine wsx_cons (N' := fun τ s => τ = [some (.int (k : Nat)), some G, some (.ref st.length), some (.ref (st.length + 1)), none, none, none, none, none] ∧ s = st ++ [.lst [key gs []]] ++ [.dct (numF gs 0 [[]])]) (WS.x ?_) fun τ s hp => ?_
  · refine ws_set ?_
    have g : lstAt (st ++ [.lst [key gs []]]) st.length = some [key gs []] := lstAt_new
    have tq : (key gs []).tupQ = true := tupQ_tb
    have ix : oIx (.ref st.length) (.int 0) (st ++ [.lst [key gs []]]) = .ok (key gs []) (st ++ [.lst [key gs []]]) := by rw [oIx_ref g]; rfl
    refine W.of (a := .ref (st.length + 1)) (s := st ++ [.lst [key gs []]] ++ [.dct (numF gs 0 [[]])]) (by simp [ix, tq, numF]) ⟨rfl, rfl⟩
  obtain ⟨rfl, hs⟩ := hp
  rw [hs]
  clear hs s
  refine wsx_cons (N' := fun τ s => τ = [some (.int (k : Nat)), some G, some (.ref st.length), some (.ref (st.length + 1)), some (.ref (st.length + 2)), none, none, none, none] ∧ Cel st s gs [[]] []) (WS.x ?_) fun τ s hp => ?_
  · refine ws_set ?_
    refine W.of (a := .ref (st.length + 2)) (s := st ++ [.lst [key gs []]] ++ [.dct (numF gs 0 [[]])] ++ [.lst []]) (by simp) ⟨rfl, ?_⟩
    refine ⟨?_, ?_, ?_, (Gr.app.trans Gr.app).trans Gr.app⟩
    · exact Gr.app.lst (Gr.app.lst lstAt_new)
    · have := dctAt_new (a := st ++ [.lst [key gs []]]) (kvs := numF gs 0 [[]])
      have := (Gr.app (c := Cell.lst [])).dct this
      simpa using this
    · have := lstAt_new (a := st ++ [.lst [key gs []]] ++ [.dct (numF gs 0 [[]])]) (xs := [])
      simpa using this
  obtain ⟨rfl, C0⟩ := hp
  obtain ⟨P, hP⟩ : ∃ P : Nat → Sl → Store → Prop, P = fun z τ s => ∃ (m : Nat) (a b c d : Option D), τ = [some (.int (k : Nat)), some G, some (.ref st.length), some (.ref (st.length + 1)), some (.ref (st.length + 2)), a, b, c, d] ∧ m ≤ n ∧ z = n - m ∧ (bfs (vl gs) k m).length ≤ 40 ∧ Cel st s gs (bfs (vl gs) k m) (rowsD gs k m) := ⟨_, rfl⟩
  refine wsx_cons (N' := fun τ s => ∃ (a b c d : Option D), τ = [some (.int (k : Nat)), some G, some (.ref st.length), some (.ref (st.length + 1)), some (.ref (st.length + 2)), a, b, c, d] ∧ (bfs (vl gs) k n).length ≤ 40 ∧ Cel st s gs (bfs (vl gs) k n) (rowsD gs k n)) ?_ fun τ s hp => ?_
  · have hn41 : n ≤ 41 := by
      by_cases h : n = 0
      · omega
      · have := S.go (n - 1) (by omega)
        omega
    refine wsx_while P ?_ big n _ _ (Nat.lt_of_lt_of_le (m := 2000) (by omega) (le_big (k := 11) (by decide) (by decide))) (by rw [hP]; exact ⟨0, none, none, none, none, rfl, Nat.zero_le _, rfl, by show 1 ≤ 40; decide, C0⟩)
    intro z τ s hp
    rw [hP] at hp
    obtain ⟨m, a, b, c, d, rfl, hm, rfl, hle, C⟩ := hp
    have lv := fLen_ref C.va
    have lr := fLen_ref C.ra
    have hg2 : W (tBl (eBin oLt (eCB fLen (aCons (eVar 4) aNil)) (eCB fLen (aCons (eVar 2) aNil))) [some (.int (k : Nat)), some G, some (.ref st.length), some (.ref (st.length + 1)), some (.ref (st.length + 2)), a, b, c, d] s) fun b s1 => b = decide (m < (bfs (vl gs) k m).length) ∧ s1 = s := by
      simp [lv, lr, rowsD]
    refine hg2.mono fun b1 s1 hb => ?_
    obtain ⟨rfl, rfl⟩ := hb
    by_cases h2 : m < (bfs (vl gs) k m).length
    · rw [if_pos (decide_eq_true h2)]
      have hmn : m < n := by
        by_cases e : m = n
        · subst e
          rcases S.at_ with q | q <;> omega
        · omega
      obtain ⟨wd, hwd⟩ : ∃ wd, wd = wdT (vl gs) k m := ⟨_, rfl⟩
      refine wsx_cons (N' := fun τ s => τ = [some (.int (k : Nat)), some G, some (.ref st.length), some (.ref (st.length + 1)), some (.ref (st.length + 2)), some (key gs wd), b, c, d] ∧ s = s1) (WS.x ?_) fun τ s hp => ?_
      · refine ws_set ?_
        have ix : oIx (.ref st.length) (.int (m : Nat)) s1 = .ok (key gs wd) s1 := by
          rw [oIx_ref C.va, atI_nat (v := key gs wd) (by rw [List.getElem?_map, List.getElem?_eq_getElem h2, hwd]; unfold wdT; rw [List.getD_eq_getElem?_getD, List.getElem?_eq_getElem h2]; rfl)]
          rfl
        have lr' : fLen [.ref (st.length + 2)] s1 = .ok (.int (m : Nat)) s1 := by rw [lr]; simp [rowsD]
        refine W.of (a := key gs wd) (s := s1) (by simp [lr', ix]) ⟨rfl, rfl⟩
      obtain ⟨rfl, hs⟩ := hp
      rw [hs]
      clear hs s
      refine wsx_cons (N' := fun τ s => τ = [some (.int (k : Nat)), some G, some (.ref st.length), some (.ref (st.length + 1)), some (.ref (st.length + 2)), some (key gs wd), some (.ref s1.length), c, d] ∧ s = s1 ++ [.lst []]) (WS.x ?_) fun τ s hp => ?_
      · refine ws_set ?_
        refine W.of (a := .ref s1.length) (s := s1 ++ [.lst []]) (by simp) ⟨rfl, rfl⟩
      obtain ⟨rfl, hs⟩ := hp
      rw [hs]
      clear hs s
      have hrw := C.lt
      refine wsx_cons (N' := fun τ s => ∃ c d, τ = [some (.int (k : Nat)), some G, some (.ref st.length), some (.ref (st.length + 1)), some (.ref (st.length + 2)), some (key gs wd), some (.ref s1.length), c, d] ∧ (bfs (vl gs) k (m + 1)).length ≤ 40 ∧ lstAt s s1.length = some (rowP gs k m k) ∧ Cel st s gs (bfs (vl gs) k (m + 1)) (rowsD gs k m)) ?_ fun τ s hp => ?_
      · refine wsx_forD (fun q s => q = .fix (rng 0 (k : Nat)) ∧ s = s1 ++ [.lst []]) ?_ ?_
        · rw [iRg1_e, W_bind]
          refine W.of (a := .int (k : Nat)) (s := s1 ++ [.lst []]) rfl ?_
          rw [rg1_int (by omega), W_ok]
          exact ⟨rfl, rfl⟩
        · rintro _ s0 ⟨rfl, hs0⟩
          rw [hs0]
          clear hs0 s0
          obtain ⟨J, hJ⟩ : ∃ J : Nat → Sl → Store → Prop, J = fun j τ s => ∃ c d, τ = [some (.int (k : Nat)), some G, some (.ref st.length), some (.ref (st.length + 1)), some (.ref (st.length + 2)), some (key gs wd), some (.ref s1.length), c, d] ∧ (rowT (vl gs) (bfs (vl gs) k m) wd j).length ≤ 40 ∧ lstAt s s1.length = some (rowP gs k m j) ∧ Cel st s gs (rowT (vl gs) (bfs (vl gs) k m) wd j) (rowsD gs k m) := ⟨_, rfl⟩
          refine wsx_rng (n := k) J (fun _ _ _ _ => rfl) (by rw [hJ]; exact ⟨c, d, rfl, hle, lstAt_new, C.app⟩) (fun j τ s hj hp => ?_) fun τ s hp => ?_
          · rw [hJ] at hp
            obtain ⟨c, d, rfl, hl2, gr, C2⟩ := hp
            refine ⟨_, rfl, ?_⟩
            obtain ⟨T, hT⟩ : ∃ T, T = rowT (vl gs) (bfs (vl gs) k m) wd j := ⟨_, rfl⟩
            have hT1 : rowT (vl gs) (bfs (vl gs) k m) wd (j + 1) = addT (vl gs) T (wd ++ [(j : Int)]) := by rw [hT]; rfl
            rw [← hT] at hl2 C2
            have sa := r_stepped_all (st := s) (t := wd) hg hl hj
            rw [← hG] at sa
            refine wsx_cons (N' := fun τ s' => τ = [some (.int (k : Nat)), some G, some (.ref st.length), some (.ref (st.length + 1)), some (.ref (st.length + 2)), some (key gs wd), some (.ref s1.length), some (.int (j : Nat)), some (key gs (wd ++ [(j : Int)]))] ∧ s' = s) (WS.x ?_) fun τ s' hp => ?_
            · refine ws_set ?_
              refine W.of (a := key gs (wd ++ [(j : Int)])) (s := s) (by simp [sa]) ⟨rfl, rfl⟩
            obtain ⟨rfl, hs⟩ := hp
            rw [hs]
            clear hs s'
            refine wsx_cons (N' := fun τ s' => τ = [some (.int (k : Nat)), some G, some (.ref st.length), some (.ref (st.length + 1)), some (.ref (st.length + 2)), some (key gs wd), some (.ref s1.length), some (.int (j : Nat)), some (key gs (wd ++ [(j : Int)]))] ∧ (addT (vl gs) T (wd ++ [(j : Int)])).length ≤ 40 ∧ lstAt s' s1.length = some (rowP gs k m j) ∧ Cel st s' gs (addT (vl gs) T (wd ++ [(j : Int)])) (rowsD gs k m)) ?_ fun τ s' hp => ?_
            · have hin := num_in (t := wd ++ [(j : Int)]) C2.da
              refine wsx_if (b := !seenT (vl gs) T (wd ++ [(j : Int)])) (s := s) (by simp [hin]) (fun hb => ?_) (fun hb => ?_)
              · have hs : seenT (vl gs) T (wd ++ [(j : Int)]) = false := by simpa using hb
                have hadd : addT (vl gs) T (wd ++ [(j : Int)]) = T ++ [wd ++ [(j : Int)]] := by unfold addT; rw [if_neg (by rw [hs]; decide)]
                refine wsx_cons (N' := fun τ s' => τ = [some (.int (k : Nat)), some G, some (.ref st.length), some (.ref (st.length + 1)), some (.ref (st.length + 2)), some (key gs wd), some (.ref s1.length), some (.int (j : Nat)), some (key gs (wd ++ [(j : Int)]))] ∧ s' = s ∧ T.length < 40) ?_ fun τ s' hp => ?_
                · refine wsx_expr ?_
                  have rr := r_room C2.va
                  rw [List.length_map] at rr
                  by_cases c40 : 40 ≤ T.length
                  · rw [if_pos c40] at rr
                    have : eCall 1 f_check_room (aCons (eVar 2) aNil) [some (.int (k : Nat)), some G, some (.ref st.length), some (.ref (st.length + 1)), some (.ref (st.length + 2)), some (key gs wd), some (.ref s1.length), some (.int (j : Nat)), some (key gs (wd ++ [(j : Int)]))] s = .exc tooMany s := by simp [rr]
                    rw [this]
                    refine ⟨?_, rfl, C2.gr⟩
                    have p1 : rowT (vl gs) (bfs (vl gs) k m) wd (j + 1) <+: bfs (vl gs) k (m + 1) := by
                      rw [hwd]
                      exact rowT_step (by omega)
                    have p2 := (p1.trans (bfs_pre (by omega : m + 1 ≤ n))).length_le
                    rw [hT1, hadd, List.length_append] at p2
                    simp at p2
                    omega
                  · rw [if_neg c40] at rr
                    have : eCall 1 f_check_room (aCons (eVar 2) aNil) [some (.int (k : Nat)), some G, some (.ref st.length), some (.ref (st.length + 1)), some (.ref (st.length + 2)), some (key gs wd), some (.ref s1.length), some (.int (j : Nat)), some (key gs (wd ++ [(j : Int)]))] s = .ok .non s := by simp [rr]
                    rw [this]
                    exact ⟨rfl, rfl, by omega⟩
                obtain ⟨rfl, hs2, h40⟩ := hp
                rw [hs2]
                clear hs2 s'
                have lv2 := fLen_ref C2.va
                rw [List.length_map] at lv2
                have os := oSet_dct (v := .int (T.length : Nat)) C2.da (keyFit_tup (k := key gs (wd ++ [(j : Int)])) num_keys tupQ_tb) (by rw [num_len]; omega)
                have CM := C2.more hs
                refine wsx_cons (N' := fun τ s' => τ = [some (.int (k : Nat)), some G, some (.ref st.length), some (.ref (st.length + 1)), some (.ref (st.length + 2)), some (key gs wd), some (.ref s1.length), some (.int (j : Nat)), some (key gs (wd ++ [(j : Int)]))] ∧ s' = s.set (st.length + 1) (.dct (dPut (numF gs 0 T) (key gs (wd ++ [(j : Int)])) (.int (T.length : Nat))))) (WS.x ?_) fun τ s' hp => ?_
                · simp only [sSub_e, WS_bindE]
                  simp [lv2]
                  rw [os, ofS_some, WS_nx]
                  exact ⟨rfl, rfl⟩
                obtain ⟨rfl, hs2⟩ := hp
                rw [hs2]
                clear hs2 s'
                refine WS.x ?_
                refine ws_expr ?_
                have v2 : lstAt (s.set (st.length + 1) (.dct (dPut (numF gs 0 T) (key gs (wd ++ [(j : Int)])) (.int (T.length : Nat))))) st.length = some (T.map (key gs)) := by rw [lstAt_ne (by omega)]; exact C2.va
                have ap := mAppend_ref (x := key gs (wd ++ [(j : Int)])) v2 (by rw [List.length_map]; omega)
                refine W.of (a := .non) (s := _) (by simp [okT_ref v2]; exact ap) ?_
                refine ⟨rfl, by rw [hadd, List.length_append]; simp; omega, ?_, by rw [hadd]; exact CM⟩
                rw [lstAt_ne (by omega), lstAt_ne (by omega)]
                exact gr
              · have hs : seenT (vl gs) T (wd ++ [(j : Int)]) = true := by simpa using hb
                have hadd : addT (vl gs) T (wd ++ [(j : Int)]) = T := by unfold addT; rw [if_pos hs]
                refine WS.x ?_
                rw [sNil_e, WS_nx, hadd]
                exact ⟨rfl, hl2, gr, C2⟩
            obtain ⟨rfl, hl3, gr3, C3⟩ := hp
            refine WS.x ?_
            refine ws_expr ?_
            have ix := num_ix (t := wd ++ [(j : Int)]) C3.da addT_seen
            have ap := mAppend_ref (x := .int (ixT (vl gs) (addT (vl gs) T (wd ++ [(j : Int)])) (wd ++ [(j : Int)]) : Nat)) gr3 (by unfold rowP; rw [List.length_map, List.length_range]; omega)
            refine W.of (a := .non) (s := _) (by simp [okT_ref gr3, ix]; exact ap) ?_
            rw [hJ]
            refine ⟨_, _, rfl, by rw [hT1]; exact hl3, ?_, by rw [hT1]; exact C3.put hrw⟩
            rw [lstAt_set gr3, rowP_snoc, ← hwd, hT1]
          · rw [hJ] at hp
            obtain ⟨c, d, rfl, hl2, gr, C2⟩ := hp
            have eb : rowT (vl gs) (bfs (vl gs) k m) wd k = bfs (vl gs) k (m + 1) := by rw [hwd]; rfl
            rw [eb] at hl2 C2
            exact ⟨c, d, rfl, hl2, gr, C2⟩
      obtain ⟨c, d, rfl, hl2, gr, C2⟩ := hp
      refine WS.x ?_
      refine ws_expr ?_
      have t1 := fTuple_ref gr
      rw [rowP_all] at t1
      have ap := mAppend_ref (x := rowD (rowV (vl gs) k m)) C2.ra (by unfold rowsD; rw [List.length_map, List.length_range]; omega)
      refine W.of (a := .non) (s := _) (by simp [okT_ref C2.ra, t1]; exact ap) ?_
      rw [← rowsD_snoc, hP]
      exact ⟨n - (m + 1), by omega, m + 1, _, _, _, _, rfl, by omega, rfl, hl2, C2.row⟩
    · rw [if_neg (by simpa using h2)]
      have : m = n := by
        by_cases e : m = n
        · exact e
        · have := (S.go m (by omega)).1
          omega
      subst this
      exact ⟨a, b, c, d, rfl, hle, C⟩
  obtain ⟨a, b, c, d, rfl, hle, C⟩ := hp
  refine WS.x ?_
  refine ws_ret ?_
  refine W.of (a := mach gs k n) (s := s) ?_ ⟨hle, rfl, C.gr⟩
  have t1 := fTuple_ref C.ra
  have t2 := fTuple_ref C.va
  simp [t1, t2, mach]
end

/-! k10: the law's machine -/
structure Ce4 (st s : Store) (gs : List Gg) (T : List (List Int)) (rows : List D) : Prop where
  va : lstAt s st.length = some (T.map (key gs))
  ta : lstAt s (st.length + 1) = some (T.map tb)
  da : dctAt s (st.length + 2) = some (numF gs 0 T)
  ra : lstAt s (st.length + 3) = some rows
  gr : Gr st s
theorem Ce4.lt {st s : Store} {gs : List Gg} {T : List (List Int)} {rows : List D} (c : Ce4 st s gs T rows) : st.length + 3 < s.length := lstAt_lt c.ra
theorem Ce4.put {st s : Store} {gs : List Gg} {T : List (List Int)} {rows : List D} {i : Nat} {c : Cell} (h : Ce4 st s gs T rows) (hi : st.length + 3 < i) : Ce4 st (s.set i c) gs T rows :=
  ⟨by rw [lstAt_ne (by omega)]; exact h.va, by rw [lstAt_ne (by omega)]; exact h.ta, by rw [dctAt_ne (by omega)]; exact h.da, by rw [lstAt_ne (by omega)]; exact h.ra, h.gr.put (by omega)⟩
theorem Ce4.app {st s : Store} {gs : List Gg} {T : List (List Int)} {rows : List D} {c : Cell} (h : Ce4 st s gs T rows) : Ce4 st (s ++ [c]) gs T rows :=
  ⟨Gr.app.lst h.va, Gr.app.lst h.ta, Gr.app.dct h.da, Gr.app.lst h.ra, h.gr.trans Gr.app⟩
theorem Ce4.row {st s : Store} {gs : List Gg} {T : List (List Int)} {rows rows' : List D} (h : Ce4 st s gs T rows) : Ce4 st (s.set (st.length + 3) (.lst rows')) gs T rows' :=
  ⟨by rw [lstAt_ne (by omega)]; exact h.va, by rw [lstAt_ne (by omega)]; exact h.ta, by rw [dctAt_ne (by omega)]; exact h.da, by rw [lstAt_set h.ra], h.gr.put (by omega)⟩
section
variable {st : Store} {gs : List Gg} {k n : Nat}
theorem w_told_all {τ : Sl} {t : List Int} {Q : List D → Store → Prop} {fe : EM D} {i0 : Nat} (hg : ∀ g ∈ gs, g.ok k) (ht : ∀ x ∈ t, 0 ≤ x ∧ x < (k : Int)) (lt : t.length < 1000) (hset : ∀ g : Gg, ∃ τ1, gN i0 g.d τ = some τ1 ∧ fe τ1 st = f__law_told [g.d, tb t] st) (hQ : Q (gs.map fun g => D.int (tl g t)) st) :
    W (compL (.fix (gs.map Gg.d)) (gN i0) tYes fe τ (gs.map Gg.d) [] st) Q := by
  refine w_map Gg.d (fun g => D.int (tl g t)) gs rfl rfl (fun g hgm => ?_) hQ
  obtain ⟨τ1, h1, h2⟩ := hset g
  refine ⟨τ1, h1, ?_⟩
  rw [h2]
  exact w_ltold (hg g hgm) lt ht ⟨rfl, rfl⟩
theorem key_map {t : List Int} : key gs t = .tup (gs.map fun g => D.int (tl g t)) := by
  unfold key tb vl
  rw [List.map_map]
  rfl
theorem w_lmachine (hk : k ≤ 5) (hg : ∀ g ∈ gs, g.ok k) (hl : gs.length ≤ 100) : W (f__law_machine [.int (k : Nat), gsd gs] st) fun d s => ∃ n, Stop (vl gs) k n ∧ d = mach gs k n ∧ Gr st s := by
  unfold f__law_machine
  rw [runB_e]
  unfold m__law_machine
  rw [W_fin]
  have e0 : ent 13 [D.int (k : Nat), gsd gs] = [some (.int (k : Nat)), some (gsd gs), none, none, none, none, none, none, none, none, none, none, none] := rfl
  rw [e0]
  obtain ⟨G, hG⟩ : ∃ G, G = gsd gs := ⟨_, rfl⟩
  have dG : ∀ s, dSq s G = some (.fix (gs.map Gg.d)) := fun s => by rw [hG]; rfl
  have lG : (gs.map Gg.d).length ≤ 16777216 := by rw [List.length_map]; omega
  rw [← hG]
  refine ws_cons (N' := fun τ s => τ = [some (.int (k : Nat)), some G, some (key gs []), none, none, none, none, none, none, none, none, none, none] ∧ s = st) ?_ fun τ s hp => ?_
  · refine ws_set ?_
    rw [eCS_e, W_bind, lComp_e, W_bind, iEx_e, W_bind]
    refine W.of (a := G) (s := st) rfl ?_
    rw [dG, ofQ_some, W_ok]
    refine w_lc lG ?_
    refine w_zeros (fun g => ⟨_, rfl, rfl⟩) ?_
    rw [gTuple_e, W_ok, key_nil hg]
    exact ⟨rfl, rfl⟩
  obtain ⟨rfl, hs⟩ := hp
  rw [hs]
  clear hs s
  refine ws_cons (N' := fun τ s => τ = [some (.int (k : Nat)), some G, some (key gs []), some (.ref st.length), none, none, none, none, none, none, none, none, none] ∧ s = st ++ [.lst [key gs []]]) ?_ fun τ s hp => ?_
  · refine ws_set ?_
    refine W.of (a := .ref st.length) (s := st ++ [.lst [key gs []]]) (by simp) ⟨rfl, rfl⟩
  obtain ⟨rfl, hs⟩ := hp
  rw [hs]
  clear hs s
  refine ws_cons (N' := fun τ s => τ = [some (.int (k : Nat)), some G, some (key gs []), some (.ref st.length), some (.ref (st.length + 1)), none, none, none, none, none, none, none, none] ∧ s = st ++ [.lst [key gs []]] ++ [.lst [tb []]]) ?_ fun τ s hp => ?_
  · refine ws_set ?_
    refine W.of (a := .ref (st.length + 1)) (s := st ++ [.lst [key gs []]] ++ [.lst [tb []]]) (by simp [tb]) ⟨rfl, rfl⟩
  obtain ⟨rfl, hs⟩ := hp
  rw [hs]
  clear hs s
  refine ws_cons (N' := fun τ s => τ = [some (.int (k : Nat)), some G, some (key gs []), some (.ref st.length), some (.ref (st.length + 1)), some (.ref (st.length + 2)), none, none, none, none, none, none, none] ∧ s = st ++ [.lst [key gs []]] ++ [.lst [tb []]] ++ [.dct (numF gs 0 [[]])]) ?_ fun τ s hp => ?_
  · refine ws_set ?_
    have tq : (key gs []).tupQ = true := tupQ_tb
    refine W.of (a := .ref (st.length + 2)) (s := st ++ [.lst [key gs []]] ++ [.lst [tb []]] ++ [.dct (numF gs 0 [[]])]) (by simp [tq, numF]) ⟨rfl, rfl⟩
  obtain ⟨rfl, hs⟩ := hp
  rw [hs]
  clear hs s
  refine ws_cons (N' := fun τ s => τ = [some (.int (k : Nat)), some G, some (key gs []), some (.ref st.length), some (.ref (st.length + 1)), some (.ref (st.length + 2)), some (.ref (st.length + 3)), none, none, none, none, none, none] ∧ Ce4 st s gs [[]] []) ?_ fun τ s hp => ?_
  · refine ws_set ?_
    refine W.of (a := .ref (st.length + 3)) (s := st ++ [.lst [key gs []]] ++ [.lst [tb []]] ++ [.dct (numF gs 0 [[]])] ++ [.lst []]) (by simp) ⟨rfl, ?_⟩
    refine ⟨?_, ?_, ?_, ?_, ((Gr.app.trans Gr.app).trans Gr.app).trans Gr.app⟩
    · exact Gr.app.lst (Gr.app.lst (Gr.app.lst lstAt_new))
    · have := lstAt_new (a := st ++ [.lst [key gs []]]) (xs := [tb []])
      have := (Gr.app (c := Cell.lst [])).lst ((Gr.app (c := Cell.dct (numF gs 0 [[]]))).lst this)
      simpa using this
    · have := dctAt_new (a := st ++ [.lst [key gs []]] ++ [.lst [tb []]]) (kvs := numF gs 0 [[]])
      have := (Gr.app (c := Cell.lst [])).dct this
      simpa using this
    · have := lstAt_new (a := st ++ [.lst [key gs []]] ++ [.lst [tb []]] ++ [.dct (numF gs 0 [[]])]) (xs := [])
      simpa using this
  obtain ⟨rfl, C0⟩ := hp
  refine ws_cons (N' := fun τ s => τ = [some (.int (k : Nat)), some G, some (key gs []), some (.ref st.length), some (.ref (st.length + 1)), some (.ref (st.length + 2)), some (.ref (st.length + 3)), some (.int (0 : Nat)), none, none, none, none, none] ∧ Ce4 st s gs [[]] []) ?_ fun τ s' hp => ?_
  · refine ws_set ?_
    exact ⟨rfl, C0⟩
  clear C0
  obtain ⟨rfl, C0⟩ := hp
  obtain ⟨P, hP⟩ : ∃ P : Nat → Sl → Store → Prop, P = fun z τ s => ∃ (m : Nat) (a b c d e : Option D), τ = [some (.int (k : Nat)), some G, some (key gs []), some (.ref st.length), some (.ref (st.length + 1)), some (.ref (st.length + 2)), some (.ref (st.length + 3)), some (.int (m : Nat)), a, b, c, d, e] ∧ m ≤ 41 ∧ z = 50 - m ∧ (∀ i, i < m → i < (bfs (vl gs) k i).length ∧ (bfs (vl gs) k i).length ≤ 41) ∧ Ce4 st s gs (bfs (vl gs) k m) (rowsD gs k m) := ⟨_, rfl⟩
  refine ws_cons (N' := fun τ s => ∃ (m : Nat) (a b c d e : Option D), τ = [some (.int (k : Nat)), some G, some (key gs []), some (.ref st.length), some (.ref (st.length + 1)), some (.ref (st.length + 2)), some (.ref (st.length + 3)), some (.int (m : Nat)), a, b, c, d, e] ∧ Stop (vl gs) k m ∧ Ce4 st s gs (bfs (vl gs) k m) (rowsD gs k m)) ?_ fun τ s hp => ?_
  · refine ws_while P ?_ big 50 _ _ (Nat.lt_of_lt_of_le (m := 2000) (by omega) (le_big (k := 11) (by decide) (by decide))) (by rw [hP]; exact ⟨0, none, none, none, none, none, rfl, Nat.zero_le _, rfl, fun i h => absurd h (Nat.not_lt_zero _), C0⟩)
    intro z τ s hp
    rw [hP] at hp
    obtain ⟨m, a, b, c, d, e, rfl, hm, rfl, hgo, C⟩ := hp
    have lv := fLen_ref C.va
    rw [List.length_map] at lv
    have hg2 : W (tAnd (tBl (eBin oLt (eVar 7) (eCB fLen (aCons (eVar 3) aNil)))) (tBl (eBin oLe (eCB fLen (aCons (eVar 3) aNil)) (eC (.int 41)))) [some (.int (k : Nat)), some G, some (key gs []), some (.ref st.length), some (.ref (st.length + 1)), some (.ref (st.length + 2)), some (.ref (st.length + 3)), some (.int (m : Nat)), a, b, c, d, e] s) fun b s1 => b = decide (m < (bfs (vl gs) k m).length ∧ (bfs (vl gs) k m).length ≤ 41) ∧ s1 = s := by
      by_cases h1 : m < (bfs (vl gs) k m).length
      · by_cases h2 : (bfs (vl gs) k m).length ≤ 41
        · have h2' : ((bfs (vl gs) k m).length : Int) ≤ 41 := by omega
          simp [lv, h1, h2, h2']
        · have h2' : ¬ ((bfs (vl gs) k m).length : Int) ≤ 41 := by omega
          simp [lv, h1, h2, h2']
      · simp [lv, h1]
    refine hg2.mono fun b1 s1 hb => ?_
    obtain ⟨rfl, rfl⟩ := hb
    by_cases h2 : m < (bfs (vl gs) k m).length ∧ (bfs (vl gs) k m).length ≤ 41
    · rw [if_pos (decide_eq_true h2)]
      obtain ⟨wd, hwd⟩ : ∃ wd, wd = wdT (vl gs) k m := ⟨_, rfl⟩
      have hw : Wd k m wd := by rw [hwd]; exact wd_wd
      refine ws_cons (N' := fun τ s => τ = [some (.int (k : Nat)), some G, some (key gs []), some (.ref st.length), some (.ref (st.length + 1)), some (.ref (st.length + 2)), some (.ref (st.length + 3)), some (.int (m : Nat)), some (.ref s1.length), b, c, d, e] ∧ s = s1 ++ [.lst []]) ?_ fun τ s hp => ?_
      · refine ws_set ?_
        refine W.of (a := .ref s1.length) (s := s1 ++ [.lst []]) (by simp) ⟨rfl, rfl⟩
      obtain ⟨rfl, hs⟩ := hp
      rw [hs]
      clear hs s
      have hrw := C.lt
      refine ws_cons (N' := fun τ s => ∃ b c d, τ = [some (.int (k : Nat)), some G, some (key gs []), some (.ref st.length), some (.ref (st.length + 1)), some (.ref (st.length + 2)), some (.ref (st.length + 3)), some (.int (m : Nat)), some (.ref s1.length), b, c, d, e] ∧ lstAt s s1.length = some (rowP gs k m k) ∧ Ce4 st s gs (bfs (vl gs) k (m + 1)) (rowsD gs k m)) ?_ fun τ s hp => ?_
      · refine ws_forD (fun q s => q = .fix (rng 0 (k : Nat)) ∧ s = s1 ++ [.lst []]) ?_ ?_
        · rw [iRg1_e, W_bind]
          refine W.of (a := .int (k : Nat)) (s := s1 ++ [.lst []]) rfl ?_
          rw [rg1_int (by omega), W_ok]
          exact ⟨rfl, rfl⟩
        · rintro _ s0 ⟨rfl, hs0⟩
          rw [hs0]
          clear hs0 s0
          obtain ⟨J, hJ⟩ : ∃ J : Nat → Sl → Store → Prop, J = fun j τ s => ∃ b c d, τ = [some (.int (k : Nat)), some G, some (key gs []), some (.ref st.length), some (.ref (st.length + 1)), some (.ref (st.length + 2)), some (.ref (st.length + 3)), some (.int (m : Nat)), some (.ref s1.length), b, c, d, e] ∧ lstAt s s1.length = some (rowP gs k m j) ∧ Ce4 st s gs (rowT (vl gs) (bfs (vl gs) k m) wd j) (rowsD gs k m) := ⟨_, rfl⟩
          refine ws_rng (n := k) J (fun _ _ _ _ => rfl) (by rw [hJ]; exact ⟨b, c, d, rfl, lstAt_new, C.app⟩) (fun j τ s hj hp => ?_) fun τ s hp => ?_
          · rw [hJ] at hp
            obtain ⟨b, c, d, rfl, gr, C2⟩ := hp
            refine ⟨_, rfl, ?_⟩
            have p0 : bfs (vl gs) k m <+: rowT (vl gs) (bfs (vl gs) k m) wd j := rowT_step (Nat.zero_le j)
            have hTl : (rowT (vl gs) (bfs (vl gs) k m) wd j).length ≤ 60 := by have := rowT_len (f := vl gs) (T := bfs (vl gs) k m) (t0 := wd) (j := j); omega
            have hget : (rowT (vl gs) (bfs (vl gs) k m) wd j).getD m [] = wd := by
              rw [getD_pre p0 h2.1, hwd]
              rfl
            have hml : m < (rowT (vl gs) (bfs (vl gs) k m) wd j).length := Nat.lt_of_lt_of_le h2.1 p0.length_le
            obtain ⟨T, hT⟩ : ∃ T, T = rowT (vl gs) (bfs (vl gs) k m) wd j := ⟨_, rfl⟩
            have hT1 : rowT (vl gs) (bfs (vl gs) k m) wd (j + 1) = addT (vl gs) T (wd ++ [(j : Int)]) := by rw [hT]; rfl
            rw [← hT] at hTl hget hml C2
            refine ws_cons (N' := fun τ s' => τ = [some (.int (k : Nat)), some G, some (key gs []), some (.ref st.length), some (.ref (st.length + 1)), some (.ref (st.length + 2)), some (.ref (st.length + 3)), some (.int (m : Nat)), some (.ref s1.length), some (.int (j : Nat)), some (tb (wd ++ [(j : Int)])), d, e] ∧ s' = s) ?_ fun τ s' hp => ?_
            · refine ws_set ?_
              have ix : oIx (.ref (st.length + 1)) (.int (m : Nat)) s = .ok (tb wd) s := by
                rw [oIx_ref C2.ta, atI_nat (v := tb wd) (by
                  rw [List.getElem?_map, List.getElem?_eq_getElem hml]
                  rw [List.getD_eq_getElem?_getD, List.getElem?_eq_getElem hml] at hget
                  show some (tb T[m]) = some (tb wd)
                  rw [← hget]
                  rfl)]
                rfl
              have ad : oAdd (tb wd) (.tup [.int (j : Nat)]) s = .ok (tb (wd ++ [(j : Int)])) s := by
                have := hw.len
                unfold tb
                rw [oAdd_tup, if_pos (by simp; omega), List.map_append]
                rfl
              refine W.of (a := tb (wd ++ [(j : Int)])) (s := s) (by simp [ix, ad]) ⟨rfl, rfl⟩
            obtain ⟨rfl, hs⟩ := hp
            rw [hs]
            clear hs s'
            have hws := hw.snoc hj
            refine ws_cons (N' := fun τ s' => τ = [some (.int (k : Nat)), some G, some (key gs []), some (.ref st.length), some (.ref (st.length + 1)), some (.ref (st.length + 2)), some (.ref (st.length + 3)), some (.int (m : Nat)), some (.ref s1.length), some (.int (j : Nat)), some (tb (wd ++ [(j : Int)])), some (key gs (wd ++ [(j : Int)])), e] ∧ s' = s) ?_ fun τ s' hp => ?_
            · refine ws_set ?_
              rw [eCS_e, W_bind, lComp_e, W_bind, iEx_e, W_bind]
              refine W.of (a := G) (s := s) rfl ?_
              rw [dG, ofQ_some, W_ok]
              refine w_lc lG ?_
              refine w_told_all hg hws.lt (by have := hws.len; omega) (fun g => ⟨_, rfl, by simp [wipeD]⟩) ?_
              rw [gTuple_e, W_ok, ← key_map]
              exact ⟨rfl, rfl⟩
            obtain ⟨rfl, hs⟩ := hp
            rw [hs]
            clear hs s'
            refine ws_cons (N' := fun τ s' => τ = [some (.int (k : Nat)), some G, some (key gs []), some (.ref st.length), some (.ref (st.length + 1)), some (.ref (st.length + 2)), some (.ref (st.length + 3)), some (.int (m : Nat)), some (.ref s1.length), some (.int (j : Nat)), some (tb (wd ++ [(j : Int)])), some (key gs (wd ++ [(j : Int)])), e] ∧ lstAt s' s1.length = some (rowP gs k m j) ∧ Ce4 st s' gs (addT (vl gs) T (wd ++ [(j : Int)])) (rowsD gs k m)) ?_ fun τ s' hp => ?_
            · have hin := num_in (t := wd ++ [(j : Int)]) C2.da
              refine ws_ifd (fun b s' => b = (!seenT (vl gs) T (wd ++ [(j : Int)])) ∧ s' = s) (by simp [hin]) (fun s' hb => ?_) (fun s' hb => ?_)
              · obtain ⟨hb, hs0⟩ := hb
                rw [hs0]
                clear hs0 s'
                have hs : seenT (vl gs) T (wd ++ [(j : Int)]) = false := by simpa using hb.symm
                have hadd : addT (vl gs) T (wd ++ [(j : Int)]) = T ++ [wd ++ [(j : Int)]] := by unfold addT; rw [if_neg (by rw [hs]; decide)]
                have lv2 := fLen_ref C2.va
                rw [List.length_map] at lv2
                have os := oSet_dct (v := .int (T.length : Nat)) C2.da (keyFit_tup (k := key gs (wd ++ [(j : Int)])) num_keys tupQ_tb) (by rw [num_len]; omega)
                obtain ⟨sd, hsd⟩ : ∃ sd, sd = s.set (st.length + 2) (.dct (dPut (numF gs 0 T) (key gs (wd ++ [(j : Int)])) (.int (T.length : Nat)))) := ⟨_, rfl⟩
                rw [← hsd] at os
                have v2 : lstAt sd st.length = some (T.map (key gs)) := by rw [hsd, lstAt_ne (by omega)]; exact C2.va
                have t2 : lstAt sd (st.length + 1) = some (T.map tb) := by rw [hsd, lstAt_ne (by omega)]; exact C2.ta
                have r2 : lstAt sd (st.length + 3) = some (rowsD gs k m) := by rw [hsd, lstAt_ne (by omega)]; exact C2.ra
                have w2 : lstAt sd s1.length = some (rowP gs k m j) := by rw [hsd, lstAt_ne (by omega)]; exact gr
                have d2 : dctAt sd (st.length + 2) = some (numF gs 0 (T ++ [wd ++ [(j : Int)]])) := by rw [hsd, dctAt_set C2.da, num_put hs]
                have g2 : Gr st sd := by rw [hsd]; exact C2.gr.put (by omega)
                refine ws_cons (N' := fun τ s' => τ = [some (.int (k : Nat)), some G, some (key gs []), some (.ref st.length), some (.ref (st.length + 1)), some (.ref (st.length + 2)), some (.ref (st.length + 3)), some (.int (m : Nat)), some (.ref s1.length), some (.int (j : Nat)), some (tb (wd ++ [(j : Int)])), some (key gs (wd ++ [(j : Int)])), e] ∧ s' = sd) ?_ fun τ s' hp => ?_
                · simp only [sSub_e, WS_bindE]
                  simp [lv2]
                  rw [os, ofS_some, WS_nx]
                  exact ⟨rfl, rfl⟩
                obtain ⟨rfl, hs2⟩ := hp
                rw [hs2]
                clear hs2 s' hsd os
                have ap := mAppend_ref (x := key gs (wd ++ [(j : Int)])) v2 (by rw [List.length_map]; omega)
                obtain ⟨sv, hsv⟩ : ∃ sv, sv = sd.set st.length (.lst (T.map (key gs) ++ [key gs (wd ++ [(j : Int)])])) := ⟨_, rfl⟩
                rw [← hsv] at ap
                refine ws_cons (N' := fun τ s' => τ = [some (.int (k : Nat)), some G, some (key gs []), some (.ref st.length), some (.ref (st.length + 1)), some (.ref (st.length + 2)), some (.ref (st.length + 3)), some (.int (m : Nat)), some (.ref s1.length), some (.int (j : Nat)), some (tb (wd ++ [(j : Int)])), some (key gs (wd ++ [(j : Int)])), e] ∧ s' = sv) ?_ fun τ s' hp => ?_
                · refine ws_expr ?_
                  refine W.of (a := .non) (s := sv) (by simp [okT_ref v2]; exact ap) ⟨rfl, rfl⟩
                obtain ⟨rfl, hs2⟩ := hp
                rw [hs2]
                clear hs2 s'
                have t3 : lstAt sv (st.length + 1) = some (T.map tb) := by rw [hsv, lstAt_ne (by omega)]; exact t2
                have ap2 := mAppend_ref (x := tb (wd ++ [(j : Int)])) t3 (by rw [List.length_map]; omega)
                refine ws_expr ?_
                refine W.of (a := .non) (s := _) (by simp [okT_ref t3]; exact ap2) ?_
                rw [hadd, hsv]
                refine ⟨rfl, ?_, ?_, ?_, ?_, ?_, (g2.put (by omega)).put (by omega)⟩
                · rw [lstAt_ne (by omega), lstAt_ne (by omega)]
                  exact w2
                · rw [lstAt_ne (by omega), lstAt_set v2, List.map_append]
                  rfl
                · rw [← hsv, lstAt_set t3, List.map_append]
                  rfl
                · rw [dctAt_ne (by omega), dctAt_ne (by omega)]
                  exact d2
                · rw [lstAt_ne (by omega), lstAt_ne (by omega)]
                  exact r2
              · obtain ⟨hb, hs0⟩ := hb
                rw [hs0]
                clear hs0 s'
                have hs : seenT (vl gs) T (wd ++ [(j : Int)]) = true := by simpa using hb.symm
                have hadd : addT (vl gs) T (wd ++ [(j : Int)]) = T := by unfold addT; rw [if_pos hs]
                rw [sNil_e, WS_nx, hadd]
                exact ⟨rfl, gr, C2⟩
            obtain ⟨rfl, gr3, C3⟩ := hp
            refine ws_expr ?_
            have ix := num_ix (t := wd ++ [(j : Int)]) C3.da addT_seen
            have ap := mAppend_ref (x := .int (ixT (vl gs) (addT (vl gs) T (wd ++ [(j : Int)])) (wd ++ [(j : Int)]) : Nat)) gr3 (by unfold rowP; rw [List.length_map, List.length_range]; omega)
            refine W.of (a := .non) (s := _) (by simp [okT_ref gr3, ix]; exact ap) ?_
            rw [hJ]
            refine ⟨_, _, _, rfl, ?_, by rw [hT1]; exact C3.put hrw⟩
            rw [lstAt_set gr3, rowP_snoc, ← hwd, hT1]
          · rw [hJ] at hp
            obtain ⟨b, c, d, rfl, gr, C2⟩ := hp
            have eb : rowT (vl gs) (bfs (vl gs) k m) wd k = bfs (vl gs) k (m + 1) := by rw [hwd]; rfl
            rw [eb] at C2
            exact ⟨b, c, d, rfl, gr, C2⟩
      obtain ⟨b, c, d, rfl, gr, C2⟩ := hp
      refine ws_cons (N' := fun τ s' => τ = [some (.int (k : Nat)), some G, some (key gs []), some (.ref st.length), some (.ref (st.length + 1)), some (.ref (st.length + 2)), some (.ref (st.length + 3)), some (.int (m : Nat)), some (.ref s1.length), b, c, d, e] ∧ Ce4 st s' gs (bfs (vl gs) k (m + 1)) (rowsD gs k (m + 1))) ?_ fun τ s' hp => ?_
      · refine ws_expr ?_
        have t1 := fTuple_ref gr
        rw [rowP_all] at t1
        have ap := mAppend_ref (x := rowD (rowV (vl gs) k m)) C2.ra (by unfold rowsD; rw [List.length_map, List.length_range]; omega)
        refine W.of (a := .non) (s := _) (by simp [okT_ref C2.ra, t1]; exact ap) ?_
        rw [← rowsD_snoc]
        exact ⟨rfl, C2.row⟩
      obtain ⟨rfl, C3⟩ := hp
      have hau : W (eBin oIAdd (eVar 7) (eC (.int 1)) [some (.int (k : Nat)), some G, some (key gs []), some (.ref st.length), some (.ref (st.length + 1)), some (.ref (st.length + 2)), some (.ref (st.length + 3)), some (.int (m : Nat)), some (.ref s1.length), b, c, d, e] s') fun d s => d = .int ((m + 1 : Nat) : Int) ∧ s = s' := by
        refine W.of (a := .int ((m + 1 : Nat) : Int)) (s := s') ?_ ⟨rfl, rfl⟩
        show ER.ok (D.int ((m : Int) + 1)) s' = _
        congr 2
      simp
      rw [hP]
      refine ⟨50 - (m + 1), by omega, m + 1, some (.ref s1.length), b, c, d, e, by simp, by omega, rfl, fun i hi => ?_, C3⟩
      by_cases ei : i = m
      · rw [ei]; exact h2
      · exact hgo i (by omega)
    · rw [if_neg (by simpa using h2)]
      refine ⟨m, a, b, c, d, e, rfl, ⟨hgo, ?_⟩, C⟩
      by_cases h3 : 41 < (bfs (vl gs) k m).length
      · exact .inr h3
      · left
        have h4 : ¬ m < (bfs (vl gs) k m).length := fun q => h2 ⟨q, by omega⟩
        by_cases e0 : m = 0
        · subst e0
          exact absurd (bfs_pos (f := vl gs) (k := k) (n := 0)) h4
        · have := (hgo (m - 1) (by omega)).1
          have := (bfs_pre (f := vl gs) (k := k) (by omega : m - 1 ≤ m)).length_le
          omega
  obtain ⟨m, a, b, c, d, e, rfl, S, C⟩ := hp
  refine ws_ret ?_
  refine W.of (a := mach gs k m) (s := s) ?_ ⟨m, S, rfl, C.gr⟩
  have t1 := fTuple_ref C.ra
  have t2 := fTuple_ref C.va
  simp [t1, t2, mach]
end

/-! k10: the same, refused -/
theorem isiA : isiT "int" "tuple" = some false := by decide +kernel
theorem isiB : isiT "str" "tuple" = some false := by decide +kernel
theorem isiC : isiT "int" "str" = some false := by decide +kernel
theorem fIsi_it {i : Int} {st : Store} : fIsi [.int i, .ty "tuple"] st = .ok (.bl false) st := fIsi_e rfl isiA
theorem fIsi_st {x : List Nat} {st : Store} : fIsi [.str x, .ty "tuple"] st = .ok (.bl false) st := fIsi_e rfl isiB
theorem fIsi_is {i : Int} {st : Store} : fIsi [.int i, .ty "str"] st = .ok (.bl false) st := fIsi_e rfl isiC
def smQ : Nat → D → Bool
  | _, .int _ => true
  | _, .str _ => true
  | n + 1, .tup xs => decide (xs.length ≤ 1000) && xs.all (smQ n)
  | _, _ => false
theorem r_same_m {st : Store} : ∀ (m n : Nat) (d : D), smQ n d = true → n < m → fr__law_same f__law_is_int m [d, d] st = .ok (.bl true) st
  | 0, _, _, _, h => absurd h (Nat.not_lt_zero _)
  | m + 1, n, d, hq, hm => by
    show runB 3 (m__law_same (fr__law_same f__law_is_int m) f__law_is_int) [d, d] st = _
    rw [runB_e]
    unfold m__law_same
    cases d with
    | int i =>
      have h1 := r_is_int (i := i) (st := st)
      simp [List.replicate, h1, fIsi_it, fIsi_is]
    | str x => simp [List.replicate, fIsi_st]
    | tup xs =>
      cases n with
      | zero => cases hq
      | succ n =>
        simp only [smQ, Bool.and_eq_true, decide_eq_true_eq] at hq
        obtain ⟨hl, hall⟩ := hq
        rw [List.all_eq_true] at hall
        have key : W ((sSeq (sIf (tVal (eCB fIsi (aCons (eVar 1) (aCons (eC (.ty "tuple")) aNil)))) (sSeq (sIf (tOr (HM.tNot (tVal (eCB fIsi (aCons (eVar 0) (aCons (eC (.ty "tuple")) aNil))))) (tBl (eBin oNe (eCB fLen (aCons (eVar 0) aNil)) (eCB fLen (aCons (eVar 1) aNil))))) (sRet (eC (.bl false))) sNil)
    (sRet (eCS gAllB (lComp [2] (iRg1 (eCB fLen (aCons (eVar 1) aNil))) (gN 2) tYes (eCall 2 (fr__law_same f__law_is_int m) (aCons (eBin oIx (eVar 0) (eVar 2)) (aCons (eBin oIx (eVar 1) (eVar 2)) aNil))))))) sNil)
    (sSeq (sIf (tVal (eCB fIsi (aCons (eVar 1) (aCons (eC (.ty "str")) aNil)))) (sRet (eAnd (eCB fIsi (aCons (eVar 0) (aCons (eC (.ty "str")) aNil))) (eBin oEq (eVar 0) (eVar 1)))) sNil)
    (sRet (eAnd (eCall 1 f__law_is_int (aCons (eVar 0) aNil)) (eBin oEq (eVar 0) (eVar 1))))) (ent 3 [D.tup xs, D.tup xs]) st).fin) fun d s => d = .bl true ∧ s = st := by
          rw [W_fin]
          have e0 : ent 3 [D.tup xs, D.tup xs] = [some (.tup xs), some (.tup xs), none] := rfl
          rw [e0]
          refine ws_take (by simp) ?_
          refine ws_skip (by simp) ?_
          refine ws_ret ?_
          rw [eCS_e, W_bind, lComp_e, W_bind, iRg1_e, W_bind]
          refine W.of (a := .int (xs.length : Nat)) (s := st) (by simp) ?_
          rw [rg1_int (by omega), W_ok]
          refine w_lc (by show (rng 0 (xs.length : Nat)).length ≤ _; rw [rng_len]; omega) ?_
          refine w_map (fun k : Nat => D.int k) (fun _ : Nat => D.bl true) (List.range xs.length) (rng_eq _) rfl (fun k hk => ⟨_, rfl, ?_⟩) ?_
          · have hk := List.mem_range.mp hk
            have ix : oIx (.tup xs) (.int (k : Nat)) st = .ok xs[k] st := by
              rw [oIx_tup, atI_nat (v := xs[k]) (List.getElem?_eq_getElem hk)]
              rfl
            have z := r_same_m (st := st) m n xs[k] (hall _ (List.getElem_mem hk)) (by omega)
            refine W.of (a := .bl true) (s := st) ?_ ⟨rfl, rfl⟩
            obtain ⟨X, hX⟩ : ∃ X, X = D.tup xs := ⟨_, rfl⟩
            rw [← hX] at ix ⊢
            simp [wipeD, ix, z]
          · have := gAllB_map (f := fun _ : Nat => true) (xs := List.range xs.length) (st := st)
            rw [this, W_ok]
            exact ⟨by simp, rfl⟩
        obtain ⟨d, s, h, rfl, rfl⟩ := key.ex
        exact h
    | _ => simp [smQ] at hq
theorem r_same {st : Store} {n : Nat} {d : D} (h : smQ n d = true) (hn : n < 40) : f__law_same [d, d] st = .ok (.bl true) st := r_same_m 40 n d h hn
section
variable {st : Store} {gs : List Gg} {k n : Nat}
theorem w_refused (hk : k ≤ 5) (hg : ∀ g ∈ gs, g.ok k) (hl : gs.length ≤ 100) (S : Stop (vl gs) k n) (h : 40 < (bfs (vl gs) k n).length) : W (f__law_is_refused [.int (k : Nat), gsd gs] st) fun d s => d = .bl true ∧ Gr st s := by
  rcases (wx_machine (st := st) hk hg hl S).cases with ⟨d, s, _, h2, _⟩ | ⟨x, s, e, h2, rfl, G⟩
  · omega
  · obtain ⟨X, hX⟩ : ∃ X, X = gsd gs := ⟨_, rfl⟩
    rw [← hX] at e ⊢
    have : f__law_is_refused [.int (k : Nat), X] st = .ok (.bl true) s := by
      unfold f__law_is_refused
      rw [runB_e]
      unfold m__law_is_refused
      have e1 : sExpr (eCall 2 f_machine (aCons (eVar 0) (aCons (eVar 1) aNil))) (ent 3 [D.int (k : Nat), X]) st = .exc tooMany (ent 3 [D.int (k : Nat), X]) s := by
        simp [List.replicate, e]
      have t1 : isT (lkX tX) tooMany.cls "TooMany" = some true := by decide +kernel
      have t2 : isT (lkX tX) tooMany.cls "ProgramError" = some false := by decide +kernel
      have t3 : isT (lkX tX) tooMany.cls "Unlike" = some false := by decide +kernel
      have t4 : isT (lkB tB "ValueError") tooMany.cls "ValueError" = some true := by decide +kernel
      have t5 : isF (flO tO) tooMany.cls "part" = true := by decide +kernel
      have t6 : mtO (tbM tM "ReleaseError") tooMany.cls = some true := by decide +kernel
      have hd : dOf tooMany = some 0 := rfl
      have hx : xcD 0 (some 0) tooMany = .adr 0 (some 0) "part" (.str [115, 116, 97, 116, 101, 115]) := rfl
      rw [sSeq_e]
      unfold sTryAs
      rw [e1]
      simp only [t6, hd, hx]
      rw [t1, t2, t3, t4, t5]
      simp [List.replicate, eIs, eFc, eFl]
    exact W.of this ⟨rfl, G⟩
end

/-! k10: readers -/
def rdr (gs : List Gg) (k n : Nat) : D := .tup [.str [114, 101, 97, 100, 101, 114], .tup (rowsD gs k n)]
def nx (f : List Int → List Int) (T : List (List Int)) (m j : Nat) : Nat := ixT f T (T.getD m [] ++ [(j : Int)])
section
variable {f : List Int → List Int} {k n m j : Nat}
theorem Stop.wd (S : Stop f k n) (hm : m < n) : wdT f k m = (bfs f k n).getD m [] := (getD_pre (bfs_pre (by omega)) (S.go m hm).1).symm
theorem Stop.pre (S : Stop f k n) (hm : m < n) (hj : j ≤ k) : rowT f (bfs f k m) (wdT f k m) j <+: bfs f k n := (rowT_step (f := f) (T := bfs f k m) (t0 := wdT f k m) hj).trans (bfs_pre (f := f) (k := k) (n := m + 1) (m := n) (by omega))
theorem Stop.seen (S : Stop f k n) (hm : m < n) (hj : j < k) : seenT f (bfs f k n) ((bfs f k n).getD m [] ++ [(j : Int)]) = true := by
  rw [← S.wd hm]
  exact seen_pre (S.pre hm (j := j + 1) (by omega)) addT_seen
theorem Stop.nx_lt (S : Stop f k n) (hm : m < n) (hj : j < k) : nx f (bfs f k n) m j < (bfs f k n).length := ix_lt (S.seen hm hj)
theorem Stop.row (S : Stop f k n) (hm : m < n) : rowV f k m = (List.range k).map (nx f (bfs f k n) m) := by
  unfold rowV nx
  refine List.map_congr_left fun i hi => ?_
  have hi := List.mem_range.mp hi
  rw [← S.wd hm]
  exact (ix_pre (T' := bfs f k n) (bfs_pre (by omega)) (seen_pre (T' := bfs f k (m + 1)) (rowT_step (by omega : i + 1 ≤ k)) addT_seen)).symm
/-- known or the next one -/
theorem Stop.nx_row (S : Stop f k n) (hm : m < n) (hj : j < k) : nx f (bfs f k n) m j = if seenT f (rowT f (bfs f k m) (wdT f k m) j) (wdT f k m ++ [(j : Int)]) then ixT f (rowT f (bfs f k m) (wdT f k m) j) (wdT f k m ++ [(j : Int)]) else (rowT f (bfs f k m) (wdT f k m) j).length := by
  unfold nx
  rw [← S.wd hm]
  by_cases s : seenT f (rowT f (bfs f k m) (wdT f k m) j) (wdT f k m ++ [(j : Int)]) = true
  · rw [if_pos s]
    exact ix_pre (S.pre hm (by omega)) s
  · rw [if_neg s]
    have s' : seenT f (rowT f (bfs f k m) (wdT f k m) j) (wdT f k m ++ [(j : Int)]) = false := by simpa using s
    have p := S.pre hm (j := j + 1) (by omega)
    rw [ix_pre p addT_seen]
    show ixT f (addT f _ _) _ = _
    unfold addT
    rw [if_neg s]
    exact ix_new s'
end
section
variable {st : Store} {gs : List Gg} {k n m j : Nat}
theorem ix_tup {xs : List D} {i : Nat} {v : D} {s : Store} (h : xs[i]? = some v) : oIx (.tup xs) (.int (i : Nat)) s = .ok v s := by
  rw [oIx_tup, atI_nat h]
  rfl
theorem rdr_row (S : Stop (vl gs) k n) (hm : m < n) {s : Store} : oIx (.tup (rowsD gs k n)) (.int (m : Nat)) s = .ok (rowD (rowV (vl gs) k m)) s := by
  refine ix_tup ?_
  unfold rowsD
  rw [List.getElem?_map, List.getElem?_range hm]
  rfl
theorem row_at (S : Stop (vl gs) k n) (hm : m < n) (hj : j < k) {s : Store} : oIx (rowD (rowV (vl gs) k m)) (.int (j : Nat)) s = .ok (.int (nx (vl gs) (bfs (vl gs) k n) m j : Nat)) s := by
  refine ix_tup ?_
  rw [S.row hm, List.getElem?_map, List.getElem?_map, List.getElem?_range hj]
  rfl
theorem rdr_1 {s : Store} : oIx (rdr gs k n) (.int 1) s = .ok (.tup (rowsD gs k n)) s := ix_tup (i := 1) rfl
theorem r_after (S : Stop (vl gs) k n) (hm : m < n) (hj : j < k) : f_after [rdr gs k n, .int (m : Nat), .int (j : Nat)] st = .ok (.int (nx (vl gs) (bfs (vl gs) k n) m j : Nat)) st := by
  have h1 := rdr_1 (gs := gs) (k := k) (n := n) (s := st)
  have h2 := rdr_row S hm (s := st)
  have h3 := row_at S hm hj (s := st)
  obtain ⟨R, hR⟩ : ∃ R, R = rdr gs k n := ⟨_, rfl⟩
  obtain ⟨RS, hRS⟩ : ∃ RS, RS = D.tup (rowsD gs k n) := ⟨_, rfl⟩
  obtain ⟨rw', hrw⟩ : ∃ rw', rw' = rowD (rowV (vl gs) k m) := ⟨_, rfl⟩
  rw [← hR] at h1 ⊢
  rw [← hRS] at h1 h2
  rw [← hrw] at h2 h3
  unfold f_after
  rw [runB_e]
  unfold m_after
  simp [h1, h2, h3]
theorem len_row {s : Store} : fLen [rowD (rowV (vl gs) k m)] s = .ok (.int (k : Nat)) s := by simp [rowD, rowV]
theorem r_kinds (S : Stop (vl gs) k n) (hn : 0 < n) : f_kinds_of [rdr gs k n] st = .ok (.int (k : Nat)) st := by
  have h1 := rdr_1 (gs := gs) (k := k) (n := n) (s := st)
  have h2 := rdr_row S hn (s := st)
  have h3 := len_row (gs := gs) (k := k) (m := 0) (s := st)
  obtain ⟨R, hR⟩ : ∃ R, R = rdr gs k n := ⟨_, rfl⟩
  obtain ⟨RS, hRS⟩ : ∃ RS, RS = D.tup (rowsD gs k n) := ⟨_, rfl⟩
  obtain ⟨rw', hrw⟩ : ∃ rw', rw' = rowD (rowV (vl gs) k 0) := ⟨_, rfl⟩
  rw [← hR] at h1 ⊢
  rw [← hRS] at h1 h2
  rw [← hrw] at h2 h3
  have h2 : oIx RS (.int 0) st = .ok rw' st := h2
  unfold f_kinds_of
  rw [runB_e]
  unfold m_kinds_of
  simp [h1, h2, h3]
/-- words by their numbers -/
def wdF (n : Nat) (T : List (List Int)) : List (D × D) := (T.zipIdx n).map fun p => (.int ((p.2 : Nat) : Int), tb p.1)
theorem wd_keys {n : Nat} {T : List (List Int)} : ((wdF n T).all fun p => p.1.flatK) = true := by
  unfold wdF
  rw [List.all_map, List.all_eq_true]
  intro p _
  rfl
theorem wd_get : ∀ (T : List (List Int)) (n i : Nat), dGet (wdF n T) (.int (i : Nat)) = if n ≤ i ∧ i < n + T.length then some (tb (T.getD (i - n) [])) else none
  | [], n, i => by
    rw [if_neg (by intro q; have := q.2; simp at this; omega)]
    rfl
  | u :: T, n, i => by
    have ih := wd_get T (n + 1) i
    unfold dGet at ih ⊢
    unfold wdF at ih ⊢
    rw [List.zipIdx_cons, List.map_cons]
    by_cases e : n = i
    · subst e
      rw [List.find?_cons_of_pos (by simp), if_pos ⟨Nat.le_refl _, by simp⟩, Nat.sub_self]
      rfl
    · rw [List.find?_cons_of_neg (by simp; omega), ih]
      by_cases h : n + 1 ≤ i ∧ i < n + 1 + T.length
      · rw [if_pos h, if_pos ⟨by omega, by simp; omega⟩]
        have : i - n = (i - (n + 1)) + 1 := by omega
        rw [this]
        rfl
      · rw [if_neg h, if_neg (by simp; omega)]
theorem wd_put {T : List (List Int)} {t : List Int} : dPut (wdF 0 T) (.int (T.length : Nat)) (tb t) = wdF 0 (T ++ [t]) := by
  unfold dPut
  have h : ¬ (0 ≤ T.length ∧ T.length < 0 + T.length) := by omega
  rw [wd_get, if_neg h]
  simp [wdF, List.zipIdx_append]
theorem wd_len {n : Nat} {T : List (List Int)} : (wdF n T).length = T.length := by simp [wdF]
theorem wd_in {T : List (List Int)} {da i : Nat} {s : Store} (h : dctAt s da = some (wdF 0 T)) : dIn (.int (i : Nat)) (.ref da) s = some (decide (i < T.length)) := by
  have := dIn_dct (x := .int (i : Nat)) h (keyFit_flat wd_keys rfl)
  rw [this, wd_get]
  by_cases c : i < T.length
  · rw [if_pos ⟨Nat.zero_le _, by omega⟩]
    simp [c]
  · rw [if_neg (by omega)]
    simp [c]
theorem wd_ix {T : List (List Int)} {da i : Nat} {s : Store} (h : dctAt s da = some (wdF 0 T)) (hi : i < T.length) : oIx (.ref da) (.int (i : Nat)) s = .ok (tb (T.getD i [])) s := by
  refine oIx_dct h (keyFit_flat wd_keys rfl) ?_
  rw [wd_get, if_pos ⟨Nat.zero_le _, by omega⟩, Nat.sub_zero]
end

/-! k10: the first tables -/
def rngD (n : Nat) : List D := (List.range n).map fun i => .int ((i : Nat) : Int)
theorem rngD_snoc {n : Nat} : rngD (n + 1) = rngD n ++ [.int ((n : Nat) : Int)] := by
  unfold rngD
  rw [List.range_succ, List.map_append]
  rfl
theorem rngD_len {n : Nat} : (rngD n).length = n := by simp [rngD]
theorem rngD_at {n i : Nat} (h : i < n) : (rngD n)[i]? = some (.int ((i : Nat) : Int)) := by
  unfold rngD
  rw [List.getElem?_map, List.getElem?_range h]
  rfl
section
variable {st : Store} {gs : List Gg} {k n : Nat}
theorem w_first_tables (hk : k ≤ 5) (S : Stop (vl gs) k n) (hfit : n = (bfs (vl gs) k n).length) (hn40 : n ≤ 41) : W (f_first_tables [rdr gs k n] st) fun d s => ∃ m, d = .ref m ∧ dctAt s m = some (wdF 0 (bfs (vl gs) k n)) ∧ Gr st s := by
  have hn0 : 0 < n := by have := bfs_pos (f := vl gs) (k := k) (n := n); omega
  have hra : ∀ (m j : Nat) (s : Store), m < n → j < k → f_after [rdr gs k n, .int (m : Nat), .int (j : Nat)] s = .ok (.int (nx (vl gs) (bfs (vl gs) k n) m j : Nat)) s := fun m j s h1 h2 => r_after S h1 h2
  have hrk : ∀ s, f_kinds_of [rdr gs k n] s = .ok (.int (k : Nat)) s := fun s => r_kinds S hn0
  obtain ⟨R, hR⟩ : ∃ R, R = rdr gs k n := ⟨_, rfl⟩
  rw [← hR] at hra hrk ⊢
  unfold f_first_tables
  rw [runB_e]
  unfold m_first_tables
  rw [W_fin]
  have e0 : ent 7 [R] = [some R, none, none, none, none, none, none] := rfl
  rw [e0]
  refine ws_cons (N' := fun τ s => τ = [some R, some (.ref st.length), none, none, none, none, none] ∧ s = st ++ [.dct (wdF 0 [[]])]) ?_ fun τ s hp => ?_
  · refine ws_set ?_
    refine W.of (a := .ref st.length) (s := st ++ [.dct (wdF 0 [[]])]) (by simp [D.flatK, wdF, tb]) ⟨rfl, rfl⟩
  obtain ⟨rfl, hs⟩ := hp
  rw [hs]
  clear hs s
  refine ws_cons (N' := fun τ s => τ = [some R, some (.ref st.length), some (.ref (st.length + 1)), none, none, none, none] ∧ dctAt s st.length = some (wdF 0 [[]]) ∧ lstAt s (st.length + 1) = some (rngD 1) ∧ Gr st s) ?_ fun τ s hp => ?_
  · refine ws_set ?_
    refine W.of (a := .ref (st.length + 1)) (s := st ++ [.dct (wdF 0 [[]])] ++ [.lst (rngD 1)]) (by simp [rngD]) ⟨rfl, Gr.app.dct dctAt_new, ?_, Gr.app.trans Gr.app⟩
    have := lstAt_new (a := st ++ [.dct (wdF 0 [[]])]) (xs := rngD 1)
    simpa using this
  obtain ⟨rfl, d0, l0, G0⟩ := hp
  refine ws_cons (N' := fun τ s => τ = [some R, some (.ref st.length), some (.ref (st.length + 1)), some (.int (0 : Nat)), none, none, none] ∧ dctAt s st.length = some (wdF 0 [[]]) ∧ lstAt s (st.length + 1) = some (rngD 1) ∧ Gr st s) ?_ fun τ s hp => ?_
  · refine ws_set ?_
    exact ⟨rfl, d0, l0, G0⟩
  clear d0 l0 G0
  obtain ⟨rfl, d0, l0, G0⟩ := hp
  obtain ⟨P, hP⟩ : ∃ P : Nat → Sl → Store → Prop, P = fun z τ s => ∃ (m : Nat) (a b c : Option D), τ = [some R, some (.ref st.length), some (.ref (st.length + 1)), some (.int (m : Nat)), a, b, c] ∧ m ≤ n ∧ z = n - m ∧ dctAt s st.length = some (wdF 0 (bfs (vl gs) k m)) ∧ lstAt s (st.length + 1) = some (rngD (bfs (vl gs) k m).length) ∧ Gr st s := ⟨_, rfl⟩
  refine ws_cons (N' := fun τ s => ∃ (x a b c : Option D), τ = [some R, some (.ref st.length), some (.ref (st.length + 1)), x, a, b, c] ∧ dctAt s st.length = some (wdF 0 (bfs (vl gs) k n)) ∧ Gr st s) ?_ fun τ s hp => ?_
  · refine ws_while P ?_ big n _ _ (Nat.lt_of_lt_of_le (m := 2000) (by omega) (le_big (k := 11) (by decide) (by decide))) (by rw [hP]; exact ⟨0, none, none, none, rfl, Nat.zero_le _, rfl, d0, l0, G0⟩)
    intro z τ s hp
    rw [hP] at hp
    obtain ⟨m, a, b, c, rfl, hm, rfl, dm, lm, G⟩ := hp
    have lv := fLen_ref lm
    rw [rngD_len] at lv
    have hg2 : W (tBl (eBin oLt (eVar 3) (eCB fLen (aCons (eVar 2) aNil))) [some R, some (.ref st.length), some (.ref (st.length + 1)), some (.int (m : Nat)), a, b, c] s) fun b s1 => b = decide (m < (bfs (vl gs) k m).length) ∧ s1 = s := by
      simp [lv]
    refine hg2.mono fun b1 s1 hb => ?_
    obtain ⟨rfl, rfl⟩ := hb
    by_cases h2 : m < (bfs (vl gs) k m).length
    · rw [if_pos (decide_eq_true h2)]
      have hmn : m < n := by
        by_cases e : m = n
        · subst e
          omega
        · omega
      have h41 := (S.go m hmn).2
      obtain ⟨wd, hwd⟩ : ∃ wd, wd = wdT (vl gs) k m := ⟨_, rfl⟩
      have hw : Wd k m wd := by rw [hwd]; exact wd_wd
      refine ws_cons (N' := fun τ s => τ = [some R, some (.ref st.length), some (.ref (st.length + 1)), some (.int (m : Nat)), some (.int (m : Nat)), b, c] ∧ s = s1) ?_ fun τ s hp => ?_
      · refine ws_set ?_
        have ix : oIx (.ref (st.length + 1)) (.int (m : Nat)) s1 = .ok (.int (m : Nat)) s1 := by
          rw [oIx_ref lm, atI_nat (rngD_at h2)]
          rfl
        refine W.of (a := .int (m : Nat)) (s := s1) (by simp [ix]) ⟨rfl, rfl⟩
      obtain ⟨rfl, hs⟩ := hp
      rw [hs]
      clear hs s
      refine ws_cons (N' := fun τ s => ∃ b c, τ = [some R, some (.ref st.length), some (.ref (st.length + 1)), some (.int (m : Nat)), some (.int (m : Nat)), b, c] ∧ dctAt s st.length = some (wdF 0 (bfs (vl gs) k (m + 1))) ∧ lstAt s (st.length + 1) = some (rngD (bfs (vl gs) k (m + 1)).length) ∧ Gr st s) ?_ fun τ s hp => ?_
      · refine ws_forD (fun q s => q = .fix (rng 0 (k : Nat)) ∧ s = s1) ?_ ?_
        · rw [iRg1_e, W_bind]
          refine W.of (a := .int (k : Nat)) (s := s1) (by simp [hrk]) ?_
          rw [rg1_int (by omega), W_ok]
          exact ⟨rfl, rfl⟩
        · rintro _ s0 ⟨rfl, hs0⟩
          rw [hs0]
          clear hs0 s0
          obtain ⟨J, hJ⟩ : ∃ J : Nat → Sl → Store → Prop, J = fun j τ s => ∃ b c, τ = [some R, some (.ref st.length), some (.ref (st.length + 1)), some (.int (m : Nat)), some (.int (m : Nat)), b, c] ∧ dctAt s st.length = some (wdF 0 (rowT (vl gs) (bfs (vl gs) k m) wd j)) ∧ lstAt s (st.length + 1) = some (rngD (rowT (vl gs) (bfs (vl gs) k m) wd j).length) ∧ Gr st s := ⟨_, rfl⟩
          refine ws_rng (n := k) J (fun _ _ _ _ => rfl) (by rw [hJ]; exact ⟨b, c, rfl, dm, lm, G⟩) (fun j τ s hj hp => ?_) fun τ s hp => ?_
          · clear dm lm G
            rw [hJ] at hp
            obtain ⟨b, c, rfl, dm, lm, G⟩ := hp
            refine ⟨_, rfl, ?_⟩
            have p0 : bfs (vl gs) k m <+: rowT (vl gs) (bfs (vl gs) k m) wd j := rowT_step (Nat.zero_le j)
            have hTl : (rowT (vl gs) (bfs (vl gs) k m) wd j).length ≤ 60 := by have := rowT_len (f := vl gs) (T := bfs (vl gs) k m) (t0 := wd) (j := j); omega
            have hget : (rowT (vl gs) (bfs (vl gs) k m) wd j).getD m [] = wd := by
              rw [getD_pre p0 h2, hwd]
              rfl
            have hml : m < (rowT (vl gs) (bfs (vl gs) k m) wd j).length := Nat.lt_of_lt_of_le h2 p0.length_le
            have hnx := S.nx_row hmn hj
            rw [← hwd] at hnx
            have hT1 : rowT (vl gs) (bfs (vl gs) k m) wd (j + 1) = addT (vl gs) (rowT (vl gs) (bfs (vl gs) k m) wd j) (wd ++ [(j : Int)]) := rfl
            obtain ⟨T, hT⟩ : ∃ T, T = rowT (vl gs) (bfs (vl gs) k m) wd j := ⟨_, rfl⟩
            rw [← hT] at hTl hget hml hnx hT1 dm lm
            obtain ⟨B, hB⟩ : ∃ B, B = nx (vl gs) (bfs (vl gs) k n) m j := ⟨_, rfl⟩
            have ha := hra m j s hmn hj
            rw [← hB] at ha hnx
            refine ws_cons (N' := fun τ s' => τ = [some R, some (.ref st.length), some (.ref (st.length + 1)), some (.int (m : Nat)), some (.int (m : Nat)), some (.int (j : Nat)), some (.int (B : Nat))] ∧ s' = s) ?_ fun τ s' hp => ?_
            · refine ws_set ?_
              refine W.of (a := .int (B : Nat)) (s := s) (by simp [ha]) ⟨rfl, rfl⟩
            obtain ⟨rfl, hs⟩ := hp
            rw [hs]
            clear hs s'
            have hin := wd_in (i := B) dm
            by_cases hs : seenT (vl gs) T (wd ++ [(j : Int)]) = true
            · rw [if_pos hs] at hnx
              have hBl : B < T.length := by rw [hnx]; exact ix_lt hs
              have hadd : addT (vl gs) T (wd ++ [(j : Int)]) = T := by unfold addT; rw [if_pos hs]
              refine ws_ifd (fun b s' => b = false ∧ s' = s) (by simp [hin, hBl]) (fun s' hb => absurd hb.1 (by decide)) (fun s' hb => ?_)
              rw [sNil_e, WS_nx, hb.2, hJ]
              exact ⟨_, _, rfl, by rw [hT1, hadd]; exact dm, by rw [hT1, hadd]; exact lm, G⟩
            · rw [if_neg hs] at hnx
              have hadd : addT (vl gs) T (wd ++ [(j : Int)]) = T ++ [wd ++ [(j : Int)]] := by unfold addT; rw [if_neg hs]
              have hBl : ¬ B < T.length := by omega
              refine ws_ifd (fun b s' => b = true ∧ s' = s) (by simp [hin, hBl]) (fun s' hb => ?_) (fun s' hb => absurd hb.1 (by decide))
              rw [hb.2]
              clear hb s'
              have ixm := wd_ix (i := m) dm hml
              rw [hget] at ixm
              have ad : oAdd (tb wd) (.tup [.int (j : Nat)]) s = .ok (tb (wd ++ [(j : Int)])) s := by
                have := hw.len
                unfold tb
                rw [oAdd_tup, if_pos (by simp; omega), List.map_append]
                rfl
              have os := oSet_dct (v := tb (wd ++ [(j : Int)])) dm (keyFit_flat (k := .int (B : Nat)) wd_keys rfl) (by rw [wd_len]; omega)
              have eput : dPut (wdF 0 T) (.int (B : Nat)) (tb (wd ++ [(j : Int)])) = wdF 0 (T ++ [wd ++ [(j : Int)]]) := by rw [hnx]; exact wd_put
              rw [eput] at os
              have l2 : lstAt (s.set st.length (.dct (wdF 0 (T ++ [wd ++ [(j : Int)]])))) (st.length + 1) = some (rngD T.length) := by rw [lstAt_ne (by omega)]; exact lm
              refine ws_cons (N' := fun τ s' => τ = [some R, some (.ref st.length), some (.ref (st.length + 1)), some (.int (m : Nat)), some (.int (m : Nat)), some (.int (j : Nat)), some (.int (B : Nat))] ∧ s' = s.set st.length (.dct (wdF 0 (T ++ [wd ++ [(j : Int)]])))) ?_ fun τ s' hp => ?_
              · simp only [sSub_e, WS_bindE]
                simp [ixm, ad]
                rw [os, ofS_some, WS_nx]
                exact ⟨rfl, rfl⟩
              obtain ⟨rfl, hs2⟩ := hp
              rw [hs2]
              clear hs2 s'
              have ap := mAppend_ref (x := .int (B : Nat)) l2 (by rw [rngD_len]; omega)
              refine ws_expr ?_
              refine W.of (a := .non) (s := _) (by simp [okT_ref l2]; exact ap) ?_
              rw [hJ]
              refine ⟨_, _, rfl, ?_, ?_, (G.put (Nat.le_refl _)).put (by omega)⟩
              · rw [hT1, hadd, dctAt_ne (by omega), dctAt_set dm]
              · rw [hT1, hadd, lstAt_set l2, List.length_append, hnx]
                show some (rngD T.length ++ _) = some (rngD (T.length + 1))
                rw [rngD_snoc]
          · rw [hJ] at hp
            obtain ⟨b, c, rfl, dm, lm, G⟩ := hp
            have eb : rowT (vl gs) (bfs (vl gs) k m) wd k = bfs (vl gs) k (m + 1) := by rw [hwd]; rfl
            rw [eb] at dm lm
            exact ⟨b, c, rfl, dm, lm, G⟩
      clear dm lm G
      obtain ⟨b, c, rfl, dm, lm, G⟩ := hp
      refine ws_set ?_
      simp
      rw [hP]
      exact ⟨n - (m + 1), by omega, m + 1, some (.int (m : Nat)), b, c, by simp, by omega, rfl, dm, lm, G⟩
    · rw [if_neg (by simpa using h2)]
      have : m = n := by
        by_cases e : m = n
        · exact e
        · have := (S.go m (by omega)).1
          omega
      subst this
      exact ⟨_, a, b, c, rfl, dm, G⟩
  obtain ⟨x, a, b, c, rfl, dm, G⟩ := hp
  refine ws_ret ?_
  refine W.of (a := .ref st.length) (s := s) rfl ⟨_, rfl, dm, G⟩
/-- a state and its first table -/
def pr (i : Nat) (t : List Int) : D := .tup [.int ((i : Nat) : Int), tb t]
def prs (T : List (List Int)) : List D := T.zipIdx.map fun p => pr p.2 p.1
end

/-- numbers sorted -/
theorem lt_ints {a b : Int} : PySem.W.dataLt ((D.int a).toP 60) ((D.int b).toP 60) = decide (a < b) := by
  show PySem.W.dataLt (.int a) (.int b) = _
  rw [PySem.W.dataLt_int]
theorem gSorted_ints {l : List Nat} {st : Store} : gSorted (l.map fun k => D.int (k : Nat)) st = .ok (.ref st.length) (st ++ [.lst ((l.mergeSort fun a b => decide (a ≤ b)).map fun k => D.int (k : Nat))]) := by
  have hs : sortable (l.map fun k => D.int (k : Nat)) = true := by
    unfold sortable
    simp only [Bool.and_eq_true, Bool.or_eq_true, List.all_eq_true]
    refine ⟨⟨fun x hx => ?_, fun x hx y hy => ?_⟩, .inl (.inr fun x hx => ?_)⟩
    · obtain ⟨k, _, rfl⟩ := List.mem_map.mp hx
      simp
    · obtain ⟨k, _, rfl⟩ := List.mem_map.mp hx
      obtain ⟨j, _, rfl⟩ := List.mem_map.mp hy
      rfl
    · obtain ⟨k, _, rfl⟩ := List.mem_map.mp hx
      rfl
  unfold gSorted
  rw [if_pos hs]
  have : sortD (l.map fun k => D.int (k : Nat)) = (l.mergeSort fun a b => decide (a ≤ b)).map fun k => D.int (k : Nat) := by
    unfold sortD
    exact (PySem.W.sort_maps (s := sortLeD) (fun k : Nat => D.int (k : Nat)) fun a _ b _ => by
      show decide (a ≤ b) = !(PySem.W.dataLt ((D.int (b : Nat)).toP 60) ((D.int (a : Nat)).toP 60))
      rw [lt_ints, Bool.eq_iff_iff]
      simp).symm
  rw [this]

/-! k10: all that is reached -/
theorem mergeSort_range {n : Nat} : ((List.range n).mergeSort fun a b => decide (a ≤ b)) = List.range n := by
  refine List.mergeSort_of_pairwise ?_
  exact List.pairwise_lt_range.imp fun h => by simp; omega
theorem pr_toP {i : Nat} {t : List Int} : (pr i t).toP 60 = .tuple [.int ((i : Nat) : Int), .tuple (t.map PyData.int)] := by
  have e : ∀ (n : Nat) (t : List Int), (t.map D.int).map (D.toP n) = t.map PyData.int := fun n t => by
    rw [List.map_map]
    refine List.map_congr_left fun x _ => ?_
    cases n <;> rfl
  show PyData.tuple [_, PyData.tuple ((t.map D.int).map (D.toP 58))] = _
  rw [e]
  rfl
theorem pr_lt {i j : Nat} {t u : List Int} (h : i < j) : PySem.W.dataLt ((pr j u).toP 60) ((pr i t).toP 60) = false := by
  rw [pr_toP, pr_toP, PySem.W.dataLt_tuple]
  simp only [PySem.W.keyToksAll, PySem.W.keyToks, List.cons_append, List.nil_append]
  rw [PyProof.Rows.lex_cons, PyProof.Rows.lex_cons]
  have h1 : PyProof.Rows.itemOrd.blt (Sum.inl 1 : Int ⊕ List Nat) (Sum.inl 1) = false := rfl
  have h2 : ∀ a b : Nat, PyProof.Rows.itemOrd.blt (Sum.inl (a : Int) : Int ⊕ List Nat) (Sum.inl (b : Int)) = decide (a < b) := fun a b => by
    show decide ((a : Int) < (b : Int)) = _
    rw [Bool.eq_iff_iff]
    simp
  have h3 : ∀ a b : Nat, PyProof.Rows.itemLt (Sum.inl (a : Int) : Int ⊕ List Nat) (Sum.inl (b : Int)) = decide (a < b) := fun a b => by
    show decide ((a : Int) < (b : Int)) = _
    rw [Bool.eq_iff_iff]
    simp
  rw [h1, h2]
  have c1 : ¬ j < i := by omega
  have c2 : ¬ ((j : Int) = (i : Int)) := by omega
  have c3 : ¬ j = i := by omega
  simp [h2, h3, h, c1, c2, c3]
theorem alikeI : ∀ l m : List Int, PySem.W.alikeAll (l.map PyData.int) (m.map PyData.int) = true
  | [], [] => rfl
  | [], _ :: _ => rfl
  | _ :: _, [] => rfl
  | x :: r, y :: t => by
    rw [List.map_cons, List.map_cons]
    simp [PySem.W.alikeAll, PySem.W.alike, alikeI r t]
theorem sort_prs {T : List (List Int)} {st : Store} : gSorted (prs T) st = .ok (.ref st.length) (st ++ [.lst (prs T)]) := by
  have hs : sortable (prs T) = true := by
    unfold sortable prs
    simp only [Bool.and_eq_true, Bool.or_eq_true, List.all_eq_true]
    refine ⟨⟨fun x hx => ?_, fun x hx y hy => ?_⟩, .inl (.inl fun x hx => ?_)⟩
    · obtain ⟨p, _, rfl⟩ := List.mem_map.mp hx
      simp [pr, tb]
    · obtain ⟨p, _, rfl⟩ := List.mem_map.mp hx
      obtain ⟨q, _, rfl⟩ := List.mem_map.mp hy
      rw [pr_toP, pr_toP]
      simp [PySem.W.alike, PySem.W.alikeAll, alikeI]
    · obtain ⟨p, _, rfl⟩ := List.mem_map.mp hx
      rfl
  unfold gSorted
  rw [if_pos hs]
  have : sortD (prs T) = prs T := by
    unfold sortD
    refine List.mergeSort_of_pairwise ?_
    have key : ∀ (T : List (List Int)) (n : Nat), ((T.zipIdx n).map fun p => pr p.2 p.1).Pairwise (fun a b => sortLeD a b = true) := fun T => by
      induction T with
      | nil => intro n; exact .nil
      | cons u T ih =>
        intro n
        rw [List.zipIdx_cons, List.map_cons, List.pairwise_cons]
        refine ⟨fun b hb => ?_, ih (n + 1)⟩
        obtain ⟨p, hp, rfl⟩ := List.mem_map.mp hb
        have hle : n + 1 ≤ p.2 := by
          obtain ⟨x, i⟩ := p
          exact List.le_snd_of_mem_zipIdx hp
        unfold sortLeD
        rw [pr_lt (by omega)]
        rfl
    exact key T 0
  rw [this]
section
variable {st : Store} {gs : List Gg} {k n : Nat}
theorem prs_eq {T : List (List Int)} : prs T = (List.range T.length).map fun i => pr i (T.getD i []) := by
  unfold prs
  apply List.ext_getElem?
  intro i
  rw [List.getElem?_map, List.getElem?_map, List.getElem?_zipIdx]
  by_cases h : i < T.length
  · rw [List.getElem?_eq_getElem h, List.getElem?_range h]
    simp [h]
  · rw [List.getElem?_eq_none (by omega), List.getElem?_eq_none (by simpa using h)]
    rfl
theorem w_reached (hk : k ≤ 5) (S : Stop (vl gs) k n) (hfit : n = (bfs (vl gs) k n).length) (hn40 : n ≤ 41) : W (f_reached [rdr gs k n] st) fun d s => d = .tup (prs (bfs (vl gs) k n)) ∧ Gr st s := by
  unfold f_reached
  rw [runB_e]
  unfold m_reached
  rw [W_fin]
  obtain ⟨R, hR⟩ : ∃ R, R = rdr gs k n := ⟨_, rfl⟩
  have e0 : ent 3 [R] = [some R, none, none] := rfl
  rw [← hR, e0]
  refine ws_cons (N' := fun τ s => ∃ m, τ = [some R, some (.ref m), none] ∧ dctAt s m = some (wdF 0 (bfs (vl gs) k n)) ∧ Gr st s) ?_ fun τ s hp => ?_
  · refine ws_set ?_
    refine W.opq fun Q hQ => ?_
    simp
    rw [hR]
    refine (w_first_tables hk S hfit hn40).mono fun d s hp => ?_
    obtain ⟨m, rfl, hd, G⟩ := hp
    exact hQ _ _ ⟨m, rfl, hd, G⟩
  obtain ⟨m, rfl, hd, G⟩ := hp
  obtain ⟨T, hT⟩ : ∃ T, T = bfs (vl gs) k n := ⟨_, rfl⟩
  rw [← hT] at hd ⊢
  have hTl : T.length ≤ 41 := by rw [hT]; omega
  have hso : fSorted [.ref m] s = .ok (.ref s.length) (s ++ [.lst (rngD T.length)]) := by
    rw [fSorted_dct hd]
    have : (wdF 0 T).map (·.1) = (List.range T.length).map fun i => D.int ((i : Nat) : Int) := by
      unfold wdF
      rw [List.map_map]
      apply List.ext_getElem?
      intro i
      rw [List.getElem?_map, List.getElem?_map, List.getElem?_zipIdx]
      by_cases h : i < T.length
      · rw [List.getElem?_eq_getElem h, List.getElem?_range h]
        simp
      · rw [List.getElem?_eq_none (by omega), List.getElem?_eq_none (by simpa using h)]
        rfl
    rw [this, gSorted_ints, mergeSort_range]
    rfl
  refine ws_ret ?_
  rw [eCS_e, W_bind, lComp_e, W_bind, iEx_e, W_bind]
  refine W.of (a := .ref s.length) (s := s ++ [.lst (rngD T.length)]) (by simp [hso]) ?_
  rw [dSq_ref lstAt_new, ofQ_some, W_ok]
  refine w_lc (by show (rngD T.length).length ≤ _; rw [rngD_len]; omega) ?_
  refine w_map (fun i : Nat => D.int ((i : Nat) : Int)) (fun i : Nat => pr i (T.getD i [])) (List.range T.length) rfl (decide_eq_true lstAt_new) (fun i hi => ⟨_, rfl, ?_⟩) ?_
  · have hi := List.mem_range.mp hi
    have ix := wd_ix (i := i) ((Gr.app (c := Cell.lst (rngD T.length))).dct hd) hi
    refine W.of (a := pr i (T.getD i [])) (s := _) ?_ ⟨rfl, rfl⟩
    simp [-List.getD_eq_getElem?_getD, gN, wipeD, ix, pr]
  · rw [gTuple_e, W_ok, prs_eq]
    exact ⟨rfl, G.trans Gr.app⟩
end

/-! k10: the law's least tables -/
def metF (n : Nat) : List (D × D) := (List.range n).map fun i => (.int ((i : Nat) : Int), .bl true)
theorem met_len {n : Nat} : (metF n).length = n := by simp [metF]
theorem met_keys {n : Nat} : ((metF n).all fun p => p.1.flatK) = true := by
  unfold metF
  rw [List.all_map, List.all_eq_true]
  intro p _
  rfl
theorem met_snoc {n : Nat} : metF (n + 1) = metF n ++ [(.int ((n : Nat) : Int), .bl true)] := by
  unfold metF
  rw [List.range_succ, List.map_append]
  rfl
theorem met_get {n i : Nat} : dGet (metF n) (.int (i : Nat)) = if i < n then some (.bl true) else none := by
  induction n with
  | zero => rfl
  | succ n ih =>
    unfold dGet at ih ⊢
    rw [met_snoc, List.find?_append]
    by_cases h : i < n
    · rw [if_pos h] at ih
      rw [if_pos (by omega)]
      cases hf : (metF n).find? fun p => decide (p.1 = D.int (i : Nat)) with
      | none => rw [hf] at ih; cases ih
      | some q => rw [hf] at ih; exact ih
    · rw [if_neg h] at ih
      cases hf : (metF n).find? fun p => decide (p.1 = D.int (i : Nat)) with
      | some q => rw [hf] at ih; cases ih
      | none =>
        by_cases e : n = i
        · subst e
          simp
        · have : ¬ i < n + 1 := by omega
          rw [if_neg this]
          have : ¬ ((n : Int) = (i : Int)) := by omega
          simp [this]
theorem met_put {n : Nat} : dPut (metF n) (.int (n : Nat)) (.bl true) = metF (n + 1) := by
  unfold dPut
  rw [met_get, if_neg (Nat.lt_irrefl n), met_snoc]
  rfl
theorem met_in {n da i : Nat} {s : Store} (h : dctAt s da = some (metF n)) : dIn (.int (i : Nat)) (.ref da) s = some (decide (i < n)) := by
  have := dIn_dct (x := .int (i : Nat)) h (keyFit_flat met_keys rfl)
  rw [this, met_get]
  by_cases c : i < n <;> simp [c]
theorem prs_snoc {T : List (List Int)} {t : List Int} : prs (T ++ [t]) = prs T ++ [pr T.length t] := by
  unfold prs
  rw [List.zipIdx_append, List.map_append]
  simp
theorem prs_len {T : List (List Int)} : (prs T).length = T.length := by simp [prs]
theorem prs_at {T : List (List Int)} {i : Nat} (h : i < T.length) : (prs T)[i]? = some (pr i (T.getD i [])) := by
  rw [prs_eq, List.getElem?_map, List.getElem?_range h]
  rfl
section
variable {st : Store} {gs : List Gg} {k n : Nat}
theorem w_least_tables (hk : k ≤ 5) (S : Stop (vl gs) k n) (hfit : n = (bfs (vl gs) k n).length) (hn40 : n ≤ 41) : W (f__law_least_tables [rdr gs k n] st) fun d s => d = .tup (prs (bfs (vl gs) k n)) ∧ Gr st s := by
  have hn0 : 0 < n := by have := bfs_pos (f := vl gs) (k := k) (n := n); omega
  have h1 : ∀ s, oIx (rdr gs k n) (.int 1) s = .ok (.tup (rowsD gs k n)) s := fun s => rdr_1
  have h2 : ∀ (m : Nat) s, m < n → oIx (.tup (rowsD gs k n)) (.int (m : Nat)) s = .ok (rowD (rowV (vl gs) k m)) s := fun m s h => rdr_row S h
  have h3 : ∀ (m j : Nat) s, m < n → j < k → oIx (rowD (rowV (vl gs) k m)) (.int (j : Nat)) s = .ok (.int (nx (vl gs) (bfs (vl gs) k n) m j : Nat)) s := fun m j s a b => row_at S a b
  have h4 : ∀ (m : Nat) s, fLen [rowD (rowV (vl gs) k m)] s = .ok (.int (k : Nat)) s := fun m s => len_row
  obtain ⟨R, hR⟩ : ∃ R, R = rdr gs k n := ⟨_, rfl⟩
  obtain ⟨RS, hRS⟩ : ∃ RS, RS = D.tup (rowsD gs k n) := ⟨_, rfl⟩
  obtain ⟨rw', hrw⟩ : ∃ rw' : Nat → D, rw' = fun m => rowD (rowV (vl gs) k m) := ⟨_, rfl⟩
  have hrw' : ∀ m, rowD (rowV (vl gs) k m) = rw' m := fun m => by rw [hrw]
  simp only [← hR, ← hRS, hrw'] at h1 h2 h3 h4
  rw [← hR]
  have h20 : ∀ s, oIx RS (.int 0) s = .ok (rw' 0) s := fun s => h2 0 s hn0
  unfold f__law_least_tables
  rw [runB_e]
  unfold m__law_least_tables
  rw [W_fin]
  have e0 : ent 6 [R] = [some R, none, none, none, none, none] := rfl
  rw [e0]
  refine ws_cons (N' := fun τ s => τ = [some R, some (.ref st.length), none, none, none, none] ∧ s = st ++ [.lst (prs [[]])]) ?_ fun τ s hp => ?_
  · refine ws_set ?_
    refine W.of (a := .ref st.length) (s := st ++ [.lst (prs [[]])]) (by simp [prs, pr, tb]) ⟨rfl, rfl⟩
  obtain ⟨rfl, hs⟩ := hp
  rw [hs]
  clear hs s
  refine ws_cons (N' := fun τ s => τ = [some R, some (.ref st.length), some (.ref (st.length + 1)), none, none, none] ∧ lstAt s st.length = some (prs [[]]) ∧ dctAt s (st.length + 1) = some (metF 1) ∧ Gr st s) ?_ fun τ s hp => ?_
  · refine ws_set ?_
    refine W.of (a := .ref (st.length + 1)) (s := st ++ [.lst (prs [[]])] ++ [.dct (metF 1)]) (by simp [D.flatK, metF]) ⟨rfl, Gr.app.lst lstAt_new, ?_, Gr.app.trans Gr.app⟩
    have := dctAt_new (a := st ++ [.lst (prs [[]])]) (kvs := metF 1)
    simpa using this
  obtain ⟨rfl, l0, d0, G0⟩ := hp
  refine ws_cons (N' := fun τ s => τ = [some R, some (.ref st.length), some (.ref (st.length + 1)), some (.int (0 : Nat)), none, none] ∧ lstAt s st.length = some (prs [[]]) ∧ dctAt s (st.length + 1) = some (metF 1) ∧ Gr st s) ?_ fun τ s hp => ?_
  · refine ws_set ?_
    exact ⟨rfl, l0, d0, G0⟩
  clear d0 l0 G0
  obtain ⟨rfl, l0, d0, G0⟩ := hp
  obtain ⟨P, hP⟩ : ∃ P : Nat → Sl → Store → Prop, P = fun z τ s => ∃ (m : Nat) (a b : Option D), τ = [some R, some (.ref st.length), some (.ref (st.length + 1)), some (.int (m : Nat)), a, b] ∧ m ≤ n ∧ z = n - m ∧ lstAt s st.length = some (prs (bfs (vl gs) k m)) ∧ dctAt s (st.length + 1) = some (metF (bfs (vl gs) k m).length) ∧ Gr st s := ⟨_, rfl⟩
  refine ws_cons (N' := fun τ s => ∃ (x a b : Option D), τ = [some R, some (.ref st.length), some (.ref (st.length + 1)), x, a, b] ∧ lstAt s st.length = some (prs (bfs (vl gs) k n)) ∧ Gr st s) ?_ fun τ s hp => ?_
  · refine ws_while P ?_ big n _ _ (Nat.lt_of_lt_of_le (m := 2000) (by omega) (le_big (k := 11) (by decide) (by decide))) (by rw [hP]; exact ⟨0, none, none, rfl, Nat.zero_le _, rfl, l0, d0, G0⟩)
    intro z τ s hp
    rw [hP] at hp
    obtain ⟨m, a, b, rfl, hm, rfl, lm, dm, G⟩ := hp
    have lv := fLen_ref lm
    rw [prs_len] at lv
    have hg2 : W (tBl (eBin oLt (eVar 3) (eCB fLen (aCons (eVar 1) aNil))) [some R, some (.ref st.length), some (.ref (st.length + 1)), some (.int (m : Nat)), a, b] s) fun b s1 => b = decide (m < (bfs (vl gs) k m).length) ∧ s1 = s := by
      simp [lv]
    refine hg2.mono fun b1 s1 hb => ?_
    obtain ⟨rfl, rfl⟩ := hb
    by_cases hlt : m < (bfs (vl gs) k m).length
    · rw [if_pos (decide_eq_true hlt)]
      have hmn : m < n := by
        by_cases e : m = n
        · subst e
          omega
        · omega
      have h41 := (S.go m hmn).2
      obtain ⟨wd, hwd⟩ : ∃ wd, wd = wdT (vl gs) k m := ⟨_, rfl⟩
      have hw : Wd k m wd := by rw [hwd]; exact wd_wd
      refine ws_cons (N' := fun τ s => ∃ a b, τ = [some R, some (.ref st.length), some (.ref (st.length + 1)), some (.int (m : Nat)), a, b] ∧ lstAt s st.length = some (prs (bfs (vl gs) k (m + 1))) ∧ dctAt s (st.length + 1) = some (metF (bfs (vl gs) k (m + 1)).length) ∧ Gr st s) ?_ fun τ s hp => ?_
      · refine ws_forD (fun q s => q = .fix (rng 0 (k : Nat)) ∧ s = s1) ?_ ?_
        · rw [iRg1_e, W_bind]
          refine W.of (a := .int (k : Nat)) (s := s1) (by simp [h1, h20, h4]) ?_
          rw [rg1_int (by omega), W_ok]
          exact ⟨rfl, rfl⟩
        · rintro _ s0 ⟨rfl, hs0⟩
          rw [hs0]
          clear hs0 s0
          obtain ⟨J, hJ⟩ : ∃ J : Nat → Sl → Store → Prop, J = fun j τ s => ∃ a b, τ = [some R, some (.ref st.length), some (.ref (st.length + 1)), some (.int (m : Nat)), a, b] ∧ lstAt s st.length = some (prs (rowT (vl gs) (bfs (vl gs) k m) wd j)) ∧ dctAt s (st.length + 1) = some (metF (rowT (vl gs) (bfs (vl gs) k m) wd j).length) ∧ Gr st s := ⟨_, rfl⟩
          refine ws_rng (n := k) J (fun _ _ _ _ => rfl) (by rw [hJ]; exact ⟨a, b, rfl, lm, dm, G⟩) (fun j τ s hj hp => ?_) fun τ s hp => ?_
          · clear dm lm G
            rw [hJ] at hp
            obtain ⟨a, b, rfl, lm, dm, G⟩ := hp
            refine ⟨_, rfl, ?_⟩
            have p0 : bfs (vl gs) k m <+: rowT (vl gs) (bfs (vl gs) k m) wd j := rowT_step (Nat.zero_le j)
            have hTl : (rowT (vl gs) (bfs (vl gs) k m) wd j).length ≤ 60 := by have := rowT_len (f := vl gs) (T := bfs (vl gs) k m) (t0 := wd) (j := j); omega
            have hget : (rowT (vl gs) (bfs (vl gs) k m) wd j).getD m [] = wd := by
              rw [getD_pre p0 hlt, hwd]
              rfl
            have hml : m < (rowT (vl gs) (bfs (vl gs) k m) wd j).length := Nat.lt_of_lt_of_le hlt p0.length_le
            have hnx := S.nx_row hmn hj
            rw [← hwd] at hnx
            have hT1 : rowT (vl gs) (bfs (vl gs) k m) wd (j + 1) = addT (vl gs) (rowT (vl gs) (bfs (vl gs) k m) wd j) (wd ++ [(j : Int)]) := rfl
            obtain ⟨T, hT⟩ : ∃ T, T = rowT (vl gs) (bfs (vl gs) k m) wd j := ⟨_, rfl⟩
            rw [← hT] at hTl hget hml hnx hT1 dm lm
            obtain ⟨B, hB⟩ : ∃ B, B = nx (vl gs) (bfs (vl gs) k n) m j := ⟨_, rfl⟩
            have ha := h3 m j s hmn hj
            have hb2 := h2 m s hmn
            rw [← hB] at ha hnx
            have pm := prs_at hml
            rw [hget] at pm
            obtain ⟨X, hX⟩ : ∃ X, X = pr m wd := ⟨_, rfl⟩
            have x0 : oIx X (.int 0) s = .ok (.int (m : Nat)) s := by rw [hX]; exact ix_tup (i := 0) rfl
            have x1 : oIx X (.int 1) s = .ok (tb wd) s := by rw [hX]; exact ix_tup (i := 1) rfl
            rw [← hX] at pm
            have fx : oIx (.ref st.length) (.int (m : Nat)) s = .ok X s := by
              rw [oIx_ref lm, atI_nat pm]
              rfl
            refine ws_cons (N' := fun τ s' => τ = [some R, some (.ref st.length), some (.ref (st.length + 1)), some (.int (m : Nat)), some (.int (j : Nat)), some (.int (B : Nat))] ∧ s' = s) ?_ fun τ s' hp => ?_
            · refine ws_set ?_
              refine W.of (a := .int (B : Nat)) (s := s) (by simp [h1, hb2, ha, fx, x0]) ⟨rfl, rfl⟩
            obtain ⟨rfl, hs⟩ := hp
            rw [hs]
            clear hs s'
            have hin := met_in (i := B) dm
            by_cases hs : seenT (vl gs) T (wd ++ [(j : Int)]) = true
            · rw [if_pos hs] at hnx
              have hBl : B < T.length := by rw [hnx]; exact ix_lt hs
              have hadd : addT (vl gs) T (wd ++ [(j : Int)]) = T := by unfold addT; rw [if_pos hs]
              refine ws_ifd (fun b s' => b = false ∧ s' = s) (by simp [hin, hBl]) (fun s' hb => absurd hb.1 (by decide)) (fun s' hb => ?_)
              rw [sNil_e, WS_nx, hb.2, hJ]
              exact ⟨_, _, rfl, by rw [hT1, hadd]; exact lm, by rw [hT1, hadd]; exact dm, G⟩
            · rw [if_neg hs] at hnx
              have hadd : addT (vl gs) T (wd ++ [(j : Int)]) = T ++ [wd ++ [(j : Int)]] := by unfold addT; rw [if_neg hs]
              have hBl : ¬ B < T.length := by omega
              refine ws_ifd (fun b s' => b = true ∧ s' = s) (by simp [hin, hBl]) (fun s' hb => ?_) (fun s' hb => absurd hb.1 (by decide))
              rw [hb.2]
              clear hb s'
              have os := oSet_dct (v := .bl true) dm (keyFit_flat (k := .int (B : Nat)) met_keys rfl) (by rw [met_len]; omega)
              have eput : dPut (metF T.length) (.int (B : Nat)) (.bl true) = metF (T.length + 1) := by rw [hnx]; exact met_put
              rw [eput] at os
              obtain ⟨sd, hsd⟩ : ∃ sd, sd = s.set (st.length + 1) (.dct (metF (T.length + 1))) := ⟨_, rfl⟩
              rw [← hsd] at os
              have l2 : lstAt sd st.length = some (prs T) := by rw [hsd, lstAt_ne (by omega)]; exact lm
              have ad : oAdd (tb wd) (.tup [.int (j : Nat)]) sd = .ok (tb (wd ++ [(j : Int)])) sd := by
                have := hw.len
                unfold tb
                rw [oAdd_tup, if_pos (by simp; omega), List.map_append]
                rfl
              have x1' : oIx X (.int 1) sd = .ok (tb wd) sd := by rw [hX]; exact ix_tup (i := 1) rfl
              have fx' : oIx (.ref st.length) (.int (m : Nat)) sd = .ok X sd := by
                rw [oIx_ref l2, atI_nat pm]
                rfl
              refine ws_cons (N' := fun τ s' => τ = [some R, some (.ref st.length), some (.ref (st.length + 1)), some (.int (m : Nat)), some (.int (j : Nat)), some (.int (B : Nat))] ∧ s' = sd) ?_ fun τ s' hp => ?_
              · simp only [sSub_e, WS_bindE]
                simp
                rw [os, ofS_some, WS_nx]
                exact ⟨rfl, rfl⟩
              obtain ⟨rfl, hs2⟩ := hp
              rw [hs2]
              clear hs2 s'
              have ap := mAppend_ref (x := pr B (wd ++ [(j : Int)])) l2 (by rw [prs_len]; omega)
              refine ws_expr ?_
              refine W.of (a := .non) (s := _) (by simp [okT_ref l2, fx', x1', ad]; exact ap) ?_
              rw [hJ]
              refine ⟨_, _, rfl, ?_, ?_, ?_⟩
              · rw [hT1, hadd, lstAt_set l2, prs_snoc, hnx]
              · rw [hT1, hadd, dctAt_ne (by omega), hsd, dctAt_set dm, List.length_append]
                rfl
              · rw [hsd]
                exact (G.put (by omega)).put (Nat.le_refl _)
          · rw [hJ] at hp
            obtain ⟨a, b, rfl, lm, dm, G⟩ := hp
            have eb : rowT (vl gs) (bfs (vl gs) k m) wd k = bfs (vl gs) k (m + 1) := by rw [hwd]; rfl
            rw [eb] at dm lm
            exact ⟨a, b, rfl, lm, dm, G⟩
      clear dm lm G
      obtain ⟨a, b, rfl, lm, dm, G⟩ := hp
      have hau : W (eBin oIAdd (eVar 3) (eC (.int 1)) [some R, some (.ref st.length), some (.ref (st.length + 1)), some (.int (m : Nat)), a, b] s) fun d s' => d = .int ((m + 1 : Nat) : Int) ∧ s' = s := by
        refine W.of (a := .int ((m + 1 : Nat) : Int)) (s := s) ?_ ⟨rfl, rfl⟩
        show ER.ok (D.int ((m : Int) + 1)) s = _
        congr 2
      simp
      rw [hP]
      exact ⟨n - (m + 1), by omega, m + 1, a, b, by simp, by omega, rfl, lm, dm, G⟩
    · rw [if_neg (by simpa using hlt)]
      have : m = n := by
        by_cases e : m = n
        · exact e
        · have := (S.go m (by omega)).1
          omega
      subst this
      exact ⟨_, a, b, rfl, lm, G⟩
  obtain ⟨x, a, b, rfl, lm, G⟩ := hp
  have so : fSorted [.ref st.length] s = .ok (.ref s.length) (s ++ [.lst (prs (bfs (vl gs) k n))]) := by
    rw [fSorted_ref lm, sort_prs]
  have tu := fTuple_ref (lstAt_new (a := s) (xs := prs (bfs (vl gs) k n)))
  obtain ⟨L, hL⟩ : ∃ L, L = prs (bfs (vl gs) k n) := ⟨_, rfl⟩
  rw [← hL] at so tu ⊢
  refine ws_ret ?_
  refine W.of (a := .tup L) (s := s ++ [.lst L]) (by simp [so, tu]) ⟨rfl, G.trans Gr.app⟩
end

/-! k10: the state of a table -/
section
variable {k : Nat} {gs : List Gg}
theorem det_tl {g : Gg} {t u : List Int} {x : Int} (hg : g.ok k) (hx : 0 ≤ x ∧ x < k) (h : tl g t = tl g u) : tl g (t ++ [x]) = tl g (u ++ [x]) := by
  have a := r_stepped (st := []) (t := t) hg hx
  have b := r_stepped (st := []) (t := u) hg hx
  rw [h, b] at a
  injection a with a _
  injection a with a
  exact a.symm
theorem det_vl {t u : List Int} {x : Int} (hg : ∀ g ∈ gs, g.ok k) (hx : 0 ≤ x ∧ x < k) (h : vl gs t = vl gs u) : vl gs (t ++ [x]) = vl gs (u ++ [x]) := by
  unfold vl at h ⊢
  refine List.map_congr_left fun g hgm => det_tl (hg g hgm) hx ?_
  exact List.map_inj_left.mp h g hgm
end
section
variable {f : List Int → List Int} {k n : Nat}
/-- from a state by a table -/
def rnT (f : List Int → List Int) (T : List (List Int)) (m : Nat) (t : List Int) : Nat := t.foldl (fun m x => nx f T m x.toNat) m
theorem nx_at (S : Stop f k n) {m j : Nat} (hm : m < n) (hj : j < k) : f ((bfs f k n).getD (nx f (bfs f k n) m j) []) = f ((bfs f k n).getD m [] ++ [(j : Int)]) := ix_at (S.seen hm hj)
theorem run_at (S : Stop f k n) (hfit : n = (bfs f k n).length) (hd : ∀ (t u : List Int) (x : Int), 0 ≤ x ∧ x < k → f t = f u → f (t ++ [x]) = f (u ++ [x])) : ∀ (t u : List Int) (m : Nat), (∀ x ∈ t, 0 ≤ x ∧ x < (k : Int)) → m < n → f ((bfs f k n).getD m []) = f u → rnT f (bfs f k n) m t < n ∧ f ((bfs f k n).getD (rnT f (bfs f k n) m t) []) = f (u ++ t)
  | [], u, m, _, hm, h => ⟨hm, by rw [List.append_nil]; exact h⟩
  | x :: t, u, m, hx, hm, h => by
    obtain ⟨h0, h1⟩ := hx x List.mem_cons_self
    obtain ⟨j, rfl⟩ := Int.eq_ofNat_of_zero_le h0
    have hj : j < k := by omega
    have hlt := S.nx_lt hm hj
    rw [← hfit] at hlt
    have ih := run_at S hfit hd t (u ++ [(j : Int)]) (nx f (bfs f k n) m j) (fun y hy => hx y (List.mem_cons_of_mem _ hy)) hlt (by rw [nx_at S hm hj]; exact hd _ _ _ ⟨by omega, by omega⟩ h)
    rw [List.append_assoc] at ih
    exact ih
theorem run_snoc {T : List (List Int)} {m : Nat} {t : List Int} {x : Int} : rnT f T m (t ++ [x]) = nx f T (rnT f T m t) x.toNat := by
  unfold rnT
  rw [List.foldl_append]
  rfl
theorem take_snoc {α : Type} {l : List α} {i : Nat} {a : α} (h : l[i]? = some a) : l.take (i + 1) = l.take i ++ [a] := by
  rw [List.take_add_one, h]
  rfl
end
section
variable {st : Store} {gs : List Gg} {k n : Nat} {t : List Int}
theorem run_ok (hg : ∀ g ∈ gs, g.ok k) (S : Stop (vl gs) k n) (hfit : n = (bfs (vl gs) k n).length) (ht : ∀ x ∈ t, 0 ≤ x ∧ x < (k : Int)) : rnT (vl gs) (bfs (vl gs) k n) 0 t < n ∧ vl gs ((bfs (vl gs) k n).getD (rnT (vl gs) (bfs (vl gs) k n) 0 t) []) = vl gs t := by
  have hn0 : 0 < n := by have := bfs_pos (f := vl gs) (k := k) (n := n); omega
  have h0 : (bfs (vl gs) k n).getD 0 [] = [] := by
    have := getD_pre (i := 0) (bfs_pre (f := vl gs) (k := k) (Nat.zero_le n)) (by show 0 < 1; decide)
    rw [this]
    rfl
  have := run_at S hfit (fun t u x hx h => det_vl hg hx h) t [] 0 ht hn0 (by rw [h0])
  simpa using this
theorem r_law_state (hg : ∀ g ∈ gs, g.ok k) (S : Stop (vl gs) k n) (hfit : n = (bfs (vl gs) k n).length) (ht : ∀ x ∈ t, 0 ≤ x ∧ x < (k : Int)) : f__law_state [rdr gs k n, tb t] st = .ok (.int (rnT (vl gs) (bfs (vl gs) k n) 0 t : Nat)) st := by
  have key : W (f__law_state [rdr gs k n, tb t] st) fun d s => d = .int (rnT (vl gs) (bfs (vl gs) k n) 0 t : Nat) ∧ s = st := by
    have h1 := rdr_1 (gs := gs) (k := k) (n := n) (s := st)
    have h2 : ∀ (m : Nat), m < n → oIx (.tup (rowsD gs k n)) (.int (m : Nat)) st = .ok (rowD (rowV (vl gs) k m)) st := fun m h => rdr_row S h
    have h3 : ∀ (m j : Nat), m < n → j < k → oIx (rowD (rowV (vl gs) k m)) (.int (j : Nat)) st = .ok (.int (nx (vl gs) (bfs (vl gs) k n) m j : Nat)) st := fun m j a b => row_at S a b
    obtain ⟨R, hR⟩ : ∃ R, R = rdr gs k n := ⟨_, rfl⟩
    obtain ⟨RS, hRS⟩ : ∃ RS, RS = D.tup (rowsD gs k n) := ⟨_, rfl⟩
    obtain ⟨rw', hrw⟩ : ∃ rw' : Nat → D, rw' = fun m => rowD (rowV (vl gs) k m) := ⟨_, rfl⟩
    have hrw' : ∀ m, rowD (rowV (vl gs) k m) = rw' m := fun m => by rw [hrw]
    simp only [← hR, ← hRS, hrw'] at h1 h2 h3
    rw [← hR]
    unfold f__law_state
    rw [runB_e]
    unfold m__law_state
    rw [W_fin]
    obtain ⟨X, hX⟩ : ∃ X, X = tb t := ⟨_, rfl⟩
    have dX : dSq st X = some (.fix (t.map D.int)) := by rw [hX]; rfl
    rw [← hX]
    have e0 : ent 4 [R, X] = [some R, some X, none, none] := rfl
    rw [e0]
    obtain ⟨J, hJ⟩ : ∃ J : Nat → Sl → Store → Prop, J = fun i τ s => ∃ a, τ = [some R, some X, some (.int (rnT (vl gs) (bfs (vl gs) k n) 0 (t.take i) : Nat)), a] ∧ s = st := ⟨_, rfl⟩
    refine ws_cons (N' := J 0) ?_ fun τ s hp => ?_
    · refine ws_set ?_
      rw [hJ]
      exact ⟨none, rfl, rfl⟩
    refine ws_cons (N' := J t.length) ?_ fun τ s hp => ?_
    · have hp0 := hp
      rw [hJ] at hp
      obtain ⟨a, rfl, rfl⟩ := hp
      refine ws_forD (fun q s' => q = .fix (t.map D.int) ∧ s' = s) ?_ ?_
      · rw [iEx_e, W_bind]
        refine W.of (a := X) (s := s) rfl ?_
        rw [dX, ofQ_some, W_ok]
        exact ⟨rfl, rfl⟩
      · rintro _ s0 ⟨rfl, hs0⟩
        rw [hs0]
        refine ws_map D.int t rfl J (fun _ _ _ _ => rfl) hp0 (fun i x τ s' hi hp => ?_) fun τ s' hp => hp
        rw [hJ] at hp
        obtain ⟨a, rfl, hs'⟩ := hp
        rw [hs']
        refine ⟨_, rfl, ?_⟩
        obtain ⟨h0, h1'⟩ := ht x (List.mem_of_getElem? hi)
        obtain ⟨j, rfl⟩ := Int.eq_ofNat_of_zero_le h0
        have hj : j < k := by omega
        have rk := (run_ok (t := t.take i) hg S hfit (fun x hx => ht x (List.mem_of_mem_take hx))).1
        have a2 := h2 _ rk
        have a3 := h3 _ j rk hj
        refine ws_set ?_
        refine W.of (a := .int (nx (vl gs) (bfs (vl gs) k n) (rnT (vl gs) (bfs (vl gs) k n) 0 (t.take i)) j : Nat)) (s := s) ?_ ?_
        · obtain ⟨m, hm⟩ : ∃ m, m = rnT (vl gs) (bfs (vl gs) k n) 0 (t.take i) := ⟨_, rfl⟩
          rw [← hm] at a2 a3 ⊢
          obtain ⟨B, hB⟩ : ∃ B, B = nx (vl gs) (bfs (vl gs) k n) m j := ⟨_, rfl⟩
          rw [← hB] at a3 ⊢
          simp [h1, a2, a3]
        · rw [hJ]
          refine ⟨some (.int (j : Nat)), ?_, rfl⟩
          rw [take_snoc hi, run_snoc]
          rfl
    rw [hJ] at hp
    obtain ⟨a, rfl, rfl⟩ := hp
    refine ws_ret ?_
    rw [List.take_length]
    exact ⟨rfl, rfl⟩
  obtain ⟨d, s, h, rfl, rfl⟩ := key.ex
  exact h
theorem r_state_of (hg : ∀ g ∈ gs, g.ok k) (S : Stop (vl gs) k n) (hfit : n = (bfs (vl gs) k n).length) (ht : ∀ x ∈ t, 0 ≤ x ∧ x < (k : Int)) : f_state_of [rdr gs k n, tb t] st = .ok (.int (rnT (vl gs) (bfs (vl gs) k n) 0 t : Nat)) st := by
  have key : W (f_state_of [rdr gs k n, tb t] st) fun d s => d = .int (rnT (vl gs) (bfs (vl gs) k n) 0 t : Nat) ∧ s = st := by
    have hra : ∀ (m j : Nat), m < n → j < k → f_after [rdr gs k n, .int (m : Nat), .int (j : Nat)] st = .ok (.int (nx (vl gs) (bfs (vl gs) k n) m j : Nat)) st := fun m j h1 h2 => r_after S h1 h2
    obtain ⟨R, hR⟩ : ∃ R, R = rdr gs k n := ⟨_, rfl⟩
    rw [← hR] at hra ⊢
    unfold f_state_of
    rw [runB_e]
    unfold m_state_of
    rw [W_fin]
    obtain ⟨X, hX⟩ : ∃ X, X = tb t := ⟨_, rfl⟩
    have dX : dSq st X = some (.fix (t.map D.int)) := by rw [hX]; rfl
    rw [← hX]
    have e0 : ent 4 [R, X] = [some R, some X, none, none] := rfl
    rw [e0]
    obtain ⟨J, hJ⟩ : ∃ J : Nat → Sl → Store → Prop, J = fun i τ s => ∃ a, τ = [some R, some X, some (.int (rnT (vl gs) (bfs (vl gs) k n) 0 (t.take i) : Nat)), a] ∧ s = st := ⟨_, rfl⟩
    refine ws_cons (N' := J 0) ?_ fun τ s hp => ?_
    · refine ws_set ?_
      rw [hJ]
      exact ⟨none, rfl, rfl⟩
    refine ws_cons (N' := J t.length) ?_ fun τ s hp => ?_
    · have hp0 := hp
      rw [hJ] at hp
      obtain ⟨a, rfl, rfl⟩ := hp
      refine ws_forD (fun q s' => q = .fix (t.map D.int) ∧ s' = s) ?_ ?_
      · rw [iEx_e, W_bind]
        refine W.of (a := X) (s := s) rfl ?_
        rw [dX, ofQ_some, W_ok]
        exact ⟨rfl, rfl⟩
      · rintro _ s0 ⟨rfl, hs0⟩
        rw [hs0]
        refine ws_map D.int t rfl J (fun _ _ _ _ => rfl) hp0 (fun i x τ s' hi hp => ?_) fun τ s' hp => hp
        rw [hJ] at hp
        obtain ⟨a, rfl, hs'⟩ := hp
        rw [hs']
        refine ⟨_, rfl, ?_⟩
        obtain ⟨h0, h1'⟩ := ht x (List.mem_of_getElem? hi)
        obtain ⟨j, rfl⟩ := Int.eq_ofNat_of_zero_le h0
        have hj : j < k := by omega
        have rk := (run_ok (t := t.take i) hg S hfit (fun x hx => ht x (List.mem_of_mem_take hx))).1
        have a2 := hra _ j rk hj
        refine ws_set ?_
        refine W.of (a := .int (nx (vl gs) (bfs (vl gs) k n) (rnT (vl gs) (bfs (vl gs) k n) 0 (t.take i)) j : Nat)) (s := s) ?_ ?_
        · obtain ⟨m, hm⟩ : ∃ m, m = rnT (vl gs) (bfs (vl gs) k n) 0 (t.take i) := ⟨_, rfl⟩
          rw [← hm] at a2 ⊢
          obtain ⟨B, hB⟩ : ∃ B, B = nx (vl gs) (bfs (vl gs) k n) m j := ⟨_, rfl⟩
          rw [← hB] at a2 ⊢
          simp [a2]
        · rw [hJ]
          refine ⟨some (.int (j : Nat)), ?_, rfl⟩
          rw [take_snoc hi, run_snoc]
          rfl
    rw [hJ] at hp
    obtain ⟨a, rfl, rfl⟩ := hp
    refine ws_ret ?_
    rw [List.take_length]
    exact ⟨rfl, rfl⟩
  obtain ⟨d, s, h, rfl, rfl⟩ := key.ex
  exact h
theorem r_values (hg : ∀ g ∈ gs, g.ok k) (hl : gs.length ≤ 100) (ht : ∀ x ∈ t, 0 ≤ x ∧ x < (k : Int)) (lt : t.length < 1000) : f__law_values [gsd gs, tb t] st = .ok (key gs t) st := by
  have key : W (f__law_values [gsd gs, tb t] st) fun d s => d = key gs t ∧ s = st := by
    unfold f__law_values
    rw [runB_e]
    unfold m__law_values
    rw [W_fin]
    have e0 : ent 3 [gsd gs, tb t] = [some (gsd gs), some (tb t), none] := rfl
    rw [e0]
    obtain ⟨X, hX⟩ : ∃ X, X = tb t := ⟨_, rfl⟩
    refine ws_ret ?_
    rw [eCS_e, W_bind, lComp_e, W_bind, iEx_e, W_bind]
    refine W.of (a := gsd gs) (s := st) rfl ?_
    rw [show dSq st (gsd gs) = some (.fix (gs.map Gg.d)) from rfl, ofQ_some, W_ok]
    refine w_lc (by show (gs.map Gg.d).length ≤ _; rw [List.length_map]; omega) ?_
    refine w_told_all hg ht lt (fun g => ⟨_, rfl, by rw [← hX]; simp [wipeD]⟩) ?_
    rw [gTuple_e, W_ok, ← key_map]
    exact ⟨rfl, rfl⟩
  obtain ⟨d, s, h, rfl, rfl⟩ := key.ex
  exact h
end
section
variable {ns : List Int} {st : Store}
/-- a comprehension of draws -/
theorem w_drawsK {n many : Nat} {slot : Nat} {τ : Sl} {s : Store} {fe : EM D} {Q2 : List D → Store → Prop} (H : DS ns s) (hn : n ≤ 1000) (hm : 0 < many) (hm2 : many < 2 ^ 60) (hset : ∀ d : D, ∃ τ1, gN slot d (wipeD τ [slot]) = some τ1 ∧ ∀ s', fe τ1 s' = f__law_draw [.ref 1, .int (many : Nat)] s')
    (hQ : ∀ (t : List Int) s', t.length = n → (∀ x ∈ t, 0 ≤ x ∧ x < many) → DS ns s' → Fr s s' → Q2 (t.map D.int) s') : W (lc1 [slot] (gN slot) tYes fe τ (.fix (rng 0 (n : Nat))) s) Q2 := by
  refine w_lc (by show (rng 0 (n : Nat)).length ≤ _; rw [rng_len]; omega) ?_
  obtain ⟨P, hP⟩ : ∃ P : Nat → List D → Store → Prop, P = fun i acc s' => ∃ t : List Int, acc = t.map D.int ∧ t.length = i ∧ (∀ x ∈ t, 0 ≤ x ∧ x < many) ∧ DS ns s' ∧ Fr s s' := ⟨_, rfl⟩
  refine w_rng P (fun _ _ _ _ => rfl) (by rw [hP]; exact ⟨[], rfl, rfl, (fun _ h => nomatch h), H, .refl⟩) ?_ ?_
  · intro i acc s' hi hp
    rw [hP] at hp
    obtain ⟨t, rfl, lt, ht, D0, F0⟩ := hp
    obtain ⟨τ1, e1, e2⟩ := hset (.int (i : Nat))
    refine ⟨τ1, e1, ?_⟩
    show W (ER.ok true s') _
    rw [W_ok, if_pos rfl, e2]
    refine w_draw (many := many) D0 hm hm2 fun v s2 hv D2 F2 => ?_
    rw [hP]
    refine ⟨t ++ [(v : Int)], by simp, by simp [lt], fun x hx => ?_, D2, F0.trans F2⟩
    rcases List.mem_append.mp hx with h | h
    · exact ht x h
    · have : x = (v : Int) := by simpa using h
      omega
  · intro acc s' hp
    rw [hP] at hp
    obtain ⟨t, rfl, lt, ht, D0, F0⟩ := hp
    exact hQ t s' lt ht D0 F0
theorem w_table {k most : Nat} (H : DS ns st) (hk : 0 < k) (hk' : k ≤ 5) (hm : most ≤ 400) : W (f__law_table [.ref 1, .int (k : Nat), .int (most : Nat)] st) fun d s => ∃ t, d = tb t ∧ (∀ x ∈ t, 0 ≤ x ∧ x < (k : Int)) ∧ t.length ≤ 400 ∧ DS ns s ∧ Fr st s := by
  unfold f__law_table
  rw [runB_e]
  unfold m__law_table
  rw [W_fin]
  have e0 : ent 5 [D.ref 1, .int (k : Nat), .int (most : Nat)] = [some (.ref 1), some (.int (k : Nat)), some (.int (most : Nat)), none, none] := rfl
  rw [e0]
  refine ws_cons (N' := fun τ s => ∃ v : Nat, τ = [some (.ref 1), some (.int (k : Nat)), some (.int (most : Nat)), some (.int (v : Nat)), none] ∧ v ≤ 400 ∧ DS ns s ∧ Fr st s) ?_ fun τ s hp => ?_
  · refine ws_set ?_
    refine W.opq fun Q hQ => ?_
    simp
    have := w_draw (many := most + 1) (Q := Q) H (by omega) (by omega) fun v s hv D1 F1 => hQ _ _ ⟨v, rfl, by omega, D1, F1⟩
    simpa using this
  obtain ⟨v, rfl, hv, D1, F1⟩ := hp
  refine ws_ret ?_
  rw [eCS_e, W_bind, lComp_e, W_bind, iRg1_e, W_bind]
  refine W.of (a := .int (v : Nat)) (s := s) rfl ?_
  rw [rg1_int (by omega), W_ok]
  refine w_drawsK (many := k) D1 (by omega) hk (by omega) (fun d => ⟨_, rfl, fun s' => by simp [wipeD]⟩) fun t s' lt ht D2 F2 => ?_
  rw [gTuple_e, W_ok]
  exact ⟨t, rfl, ht, by omega, D2, F1.trans F2⟩
end

theorem mPopAt_ref {n : Nat} {st : Store} {xs : List D} {k : Nat} {x : D} (hh : lstAt st n = some xs) (hx : xs[k]? = some x) (hk : k < 9223372036854775808) : mPopAt (.ref n) [.int k] st = .ok x (st.set n (.lst (xs.eraseIdx k))) := by
  have h2 : okIx (k : Int) = true := decide_eq_true (by omega)
  have h3 : seqIndex? (k : Int) xs.length = some k := by
    have : k < xs.length := (List.getElem?_eq_some_iff.mp hx).1
    simp [seqIndex?]
    omega
  simp [mPopAt, hh, h2, h3, hx]
section
variable {ns : List Int} {st : Store}
theorem w_shuffled {t : List D} {q : Nat} {Q : D → Store → Prop} (H : DS ns st) (hm : lstAt st q = some t) (lt : t.length ≤ 60) (hQ : ∀ (t' : List D) m s, st.length ≤ m → lstAt s m = some t' → t'.Perm t → DS ns s → Fr st s → Q (.ref m) s) : W (f__law_shuffled [.ref 1, .ref q] st) Q := by
  unfold f__law_shuffled
  rw [runB_e]
  unfold m__law_shuffled
  have two := H.len
  have ef : fList [.ref q] st = .ok (.ref st.length) (st ++ [.lst t]) := by simp [fList, dSeq, hm]
  have g0 : lstAt (st ++ [.lst t] ++ [.lst []]) st.length = some t := (Gr.app (a := st ++ [.lst t])).lst lstAt_new
  have g1 : lstAt (st ++ [.lst t] ++ [.lst []]) (st.length + 1) = some ([] : List D) := by simp [lstAt]
  obtain ⟨s0, hs0⟩ : ∃ s0, s0 = st ++ [.lst t] ++ [.lst []] := ⟨_, rfl⟩
  rw [← hs0] at g0 g1
  have G0 : Gr st s0 := ⟨_, by rw [hs0, List.append_assoc]⟩
  have l0 : fLen [.ref st.length] s0 = .ok (.int (t.length : Nat)) s0 := by rw [fLen_ref g0]
  have hr : rg1 (.int (t.length : Nat)) s0 = .ok (.fix (rng 0 t.length)) s0 := rg1_int (by omega)
  rw [W_fin, sSeq_e, WS_seq]
  refine WS.cut (N' := fun τ s => τ = [some (.ref 1), some (.ref q), some (.ref st.length), none, none] ∧ s = st ++ [.lst t]) (by simp only [sSeq_e, sIf_e, sSet_e, sExpr_e, sRet_e, sRetN_e, sNil_e, sFor_e, sBrk_e, sCnt_e, sSub_e, sAsg_e, W_fin, WS_seq, WS_bindE, WS_nx, WS_rt, WS_bk, WS_ct]; simp [List.replicate, ef]) fun τ s hp => ?_
  obtain ⟨rfl, rfl⟩ := hp
  rw [sSeq_e, WS_seq]
  refine WS.cut (N' := fun τ s => τ = [some (.ref 1), some (.ref q), some (.ref st.length), some (.ref (st.length + 1)), none] ∧ s = s0) (by simp only [sSeq_e, sIf_e, sSet_e, sExpr_e, sRet_e, sRetN_e, sNil_e, sFor_e, sBrk_e, sCnt_e, sSub_e, sAsg_e, W_fin, WS_seq, WS_bindE, WS_nx, WS_rt, WS_bk, WS_ct]; simp [hs0]) fun τ s hp => ?_
  obtain ⟨rfl, rfl⟩ := hp
  rw [sSeq_e, WS_seq, sFor_e]
  simp [l0, hr]
  obtain ⟨I, hI⟩ : ∃ I : Nat → Sl → Store → Prop, I = fun i τ s => ∃ (a : Option D) (L F : List D), τ = [some (.ref 1), some (.ref q), some (.ref st.length), some (.ref (st.length + 1)), a] ∧ lstAt s st.length = some L ∧ lstAt s (st.length + 1) = some F ∧ F.length = i ∧ (L ++ F).Perm t ∧ DS ns s ∧ Fr st s := ⟨_, rfl⟩
  refine ws_rng I (fun _ _ _ _ => rfl) (by rw [hI]; exact ⟨none, t, [], rfl, g0, g1, rfl, by simp, G0.ds H, G0.fr⟩) ?_ ?_
  · intro i τ s hi hp
    rw [hI] at hp
    obtain ⟨a, L, F, rfl, h1, h2, h4, h5, D0, F0⟩ := hp
    have h3 := h5.length_eq
    rw [List.length_append] at h3
    refine ⟨_, rfl, ?_⟩
    have ll : fLen [.ref st.length] s = .ok (.int (L.length : Nat)) s := by rw [fLen_ref h1]
    simp only [sSeq_e, sIf_e, sSet_e, sExpr_e, sRet_e, sRetN_e, sNil_e, sFor_e, sBrk_e, sCnt_e, sSub_e, sAsg_e, W_fin, WS_seq, WS_bindE, WS_nx, WS_rt, WS_bk, WS_ct]
    simp [okT_ref h1, okT_ref h2, ll]
    refine w_draw (many := L.length) D0 (by omega) (by omega) fun v s2 hv D2 F2 => ?_
    have k1 := F2.lst h1 (by omega)
    have k2 := F2.lst h2 (by omega)
    have hx : L[v]? = some L[v] := by simp [hv]
    have pp := mPopAt_ref k1 hx (by omega)
    have n1 : st.length + 1 ≠ st.length := by omega
    have k3 : lstAt (s2.set st.length (.lst (L.eraseIdx v))) (st.length + 1) = some F := by rw [lstAt_ne n1]; exact k2
    have ap := mAppend_ref (x := L[v]) k3 (by omega)
    simp [pp, ap]
    rw [hI]
    refine ⟨_, L.eraseIdx v, F ++ [L[v]], rfl, ?_, ?_, by simp [h4], ?_, ?_, ?_⟩
    · rw [lstAt_ne (by omega), lstAt_set k1]
    · rw [lstAt_set k3]
    · refine List.Perm.trans ?_ h5
      have e : L.Perm (L[v] :: L.eraseIdx v) := by
        rw [List.eraseIdx_eq_take_drop_succ]
        conv => lhs; rw [← List.take_append_drop v L, List.drop_eq_getElem_cons hv]
        exact List.perm_middle
      refine List.Perm.trans ?_ (e.append_right F).symm
      rw [← List.append_assoc]
      exact List.perm_append_singleton _ _
    · exact (D2.put2 (by omega) (by omega)).put2 (by omega) (by omega)
    · exact ((F0.trans F2).put2 (Nat.le_refl _)).put2 (by omega)
  · intro τ s hp
    rw [hI] at hp
    obtain ⟨a, L, F, rfl, h1, h2, h4, h5, D0, F0⟩ := hp
    have z : L = [] := by
      have := h5.length_eq
      rw [List.length_append] at this
      exact List.eq_nil_of_length_eq_zero (by omega)
    subst z
    simp
    exact hQ F _ s (by omega) h2 (by simpa using h5) D0 F0
end

/-! k10: gauges in another order -/
def pm (gs : List Gg) (P : List Nat) : List Gg := P.map fun i => gs.getD i .last
section
variable {gs : List Gg} {P : List Nat} {k n : Nat}
theorem pm_ok (hg : ∀ g ∈ gs, g.ok k) (hP : P.Perm (List.range gs.length)) : ∀ g ∈ pm gs P, g.ok k := by
  intro g h
  obtain ⟨i, hi, rfl⟩ := List.mem_map.mp h
  have hi := List.mem_range.mp (hP.mem_iff.mp hi)
  rw [List.getD_eq_getElem?_getD, List.getElem?_eq_getElem hi]
  exact hg _ (List.getElem_mem hi)
theorem pm_len (hP : P.Perm (List.range gs.length)) : (pm gs P).length = gs.length := by
  unfold pm
  rw [List.length_map, hP.length_eq, List.length_range]
theorem vl_at {t : List Int} {i : Nat} (h : i < gs.length) : (vl gs t).getD i 0 = tl (gs.getD i .last) t := by
  unfold vl
  rw [List.getD_eq_getElem?_getD, List.getD_eq_getElem?_getD, List.getElem?_map, List.getElem?_eq_getElem h]
  rfl
theorem vl_pm {t : List Int} (hP : P.Perm (List.range gs.length)) : vl (pm gs P) t = P.map fun i => (vl gs t).getD i 0 := by
  show (P.map _).map _ = _
  rw [List.map_map]
  refine List.map_congr_left fun i hi => ?_
  have hi := List.mem_range.mp (hP.mem_iff.mp hi)
  rw [vl_at hi]
  rfl
theorem vl_pm_iff {t u : List Int} (hP : P.Perm (List.range gs.length)) : vl (pm gs P) t = vl (pm gs P) u ↔ vl gs t = vl gs u := by
  constructor
  · intro h
    unfold vl
    refine List.map_congr_left fun g hg => ?_
    obtain ⟨i, hi, rfl⟩ := List.getElem_of_mem hg
    have hm : i ∈ P := hP.mem_iff.mpr (List.mem_range.mpr hi)
    rw [vl_pm hP, vl_pm hP] at h
    have := List.map_inj_left.mp h i hm
    rw [vl_at hi, vl_at hi, List.getD_eq_getElem?_getD, List.getElem?_eq_getElem hi] at this
    exact this
  · intro h
    rw [vl_pm hP, vl_pm hP, h]
theorem Stop.congr {f g : List Int → List Int} (S : Stop f k n) (h : ∀ u v, f u = f v ↔ g u = g v) : Stop g k n :=
  ⟨fun m hm => by rw [← bfs_congr h]; exact S.go m hm, by rw [← bfs_congr h]; exact S.at_⟩
theorem pm_iff (hP : P.Perm (List.range gs.length)) : ∀ u v, vl gs u = vl gs v ↔ vl (pm gs P) u = vl (pm gs P) v := fun u v => (vl_pm_iff hP).symm
theorem mach_pm (hP : P.Perm (List.range gs.length)) : mach (pm gs P) k n = .tup [rdr gs k n, .tup ((bfs (vl gs) k n).map (key (pm gs P)))] := by
  unfold mach rdr rowsD
  rw [← bfs_congr (pm_iff hP)]
  have : ∀ m, rowV (vl (pm gs P)) k m = rowV (vl gs) k m := fun m => (rowV_congr (pm_iff hP)).symm
  simp only [this]
/-- the same, asked of things of this kind -/
theorem smQ_tb {m : Nat} {t : List Int} (h : t.length ≤ 1000) : smQ (m + 1) (tb t) = true := by
  unfold tb smQ
  rw [List.length_map, Bool.and_eq_true, decide_eq_true_eq]
  refine ⟨h, ?_⟩
  rw [List.all_map, List.all_eq_true]
  intro x _
  cases m <;> rfl
theorem smQ_row {m : Nat} {l : List Nat} (h : l.length ≤ 1000) : smQ (m + 1) (rowD l) = true := by
  unfold rowD smQ
  rw [List.length_map, Bool.and_eq_true, decide_eq_true_eq]
  refine ⟨h, ?_⟩
  rw [List.all_map, List.all_eq_true]
  intro x _
  cases m <;> rfl
theorem smQ_rows (hk : k ≤ 5) (hn : n ≤ 41) : smQ 2 (.tup (rowsD gs k n)) = true := by
  unfold smQ rowsD
  rw [List.length_map, List.length_range, Bool.and_eq_true, decide_eq_true_eq]
  refine ⟨by omega, ?_⟩
  rw [List.all_map, List.all_eq_true]
  intro m _
  refine smQ_row ?_
  unfold rowV
  rw [List.length_map, List.length_range]
  omega
theorem smQ_keys {T : List (List Int)} (hl : gs.length ≤ 100) (hT : T.length ≤ 100) : smQ 3 (.tup (T.map (key gs))) = true := by
  unfold smQ
  rw [List.length_map, Bool.and_eq_true, decide_eq_true_eq]
  refine ⟨by omega, ?_⟩
  rw [List.all_map, List.all_eq_true]
  intro t _
  refine smQ_tb ?_
  unfold vl
  rw [List.length_map]
  omega
theorem smQ_rdr (hk : k ≤ 5) (hn : n ≤ 41) : smQ 3 (rdr gs k n) = true := by
  have := smQ_rows (gs := gs) hk hn
  unfold rdr
  rw [smQ]
  simp only [List.all_cons, List.all_nil, Bool.and_true, this]
  rfl
theorem smQ_pair {a b : D} (ha : smQ 3 a = true) (hb : smQ 3 b = true) : smQ 4 (.tup [a, b]) = true := by
  rw [smQ]
  simp only [List.all_cons, List.all_nil, Bool.and_true, ha, hb]
  rfl
theorem smQ_prs {T : List (List Int)} (hT : T.length ≤ 100) (h : ∀ t ∈ T, t.length ≤ 1000) : smQ 4 (.tup (prs T)) = true := by
  rw [smQ, prs_len, Bool.and_eq_true, decide_eq_true_eq]
  refine ⟨by omega, ?_⟩
  rw [List.all_eq_true]
  intro x hx
  obtain ⟨p, hp, rfl⟩ := List.mem_map.mp hx
  obtain ⟨t, i⟩ := p
  have ht := h t (List.fst_mem_of_mem_zipIdx hp)
  have := smQ_tb (m := 1) ht
  unfold pr
  rw [smQ]
  simp only [List.all_cons, List.all_nil, Bool.and_true, this]
  rfl
/-- no gauges -/
theorem bfs_bare : bfs (vl []) k n = [[]] := by
  induction n with
  | zero => rfl
  | succ n ih =>
    have : ∀ (t : List Int) j, rowT (vl []) [[]] t j = [[]] := fun t j => by
      induction j with
      | zero => rfl
      | succ j ih =>
        show addT (vl []) (rowT (vl []) [[]] t j) _ = _
        rw [ih]
        rfl
    show rowT (vl []) (bfs (vl []) k n) _ k = _
    rw [ih, this]
theorem Stop.bare : Stop (vl []) k 1 :=
  ⟨fun m hm => by rw [bfs_bare]; exact ⟨hm, by decide⟩, .inl (by rw [bfs_bare]; rfl)⟩
theorem mach_bare : mach [] k 1 = .tup [.tup [.str [114, 101, 97, 100, 101, 114], .tup [.tup ((List.range k).map fun _ => D.int 0)]], .tup [.tup []]] := by
  unfold mach
  rw [bfs_bare]
  have : rowsD [] k 1 = [.tup ((List.range k).map fun _ => D.int 0)] := by
    have r : ∀ m, rowV (vl []) k m = (List.range k).map fun _ => 0 := fun m => by
      unfold rowV
      rw [bfs_bare]
      refine List.map_congr_left fun i _ => ?_
      rfl
    unfold rowsD rowD
    simp only [r, List.map_map]
    rfl
  rw [this]
  rfl
theorem rng_perm {l : Nat} {ys : List D} (h : ys.Perm (rng 0 (l : Nat))) : ∃ P : List Nat, ys = P.map (fun i => D.int ((i : Nat) : Int)) ∧ P.Perm (List.range l) := by
  rw [rng_eq] at h
  have hm : ∀ y ∈ ys, ∃ i : Nat, y = D.int ((i : Nat) : Int) := fun y hy => by
    obtain ⟨i, _, e⟩ := List.mem_map.mp (h.mem_iff.mp hy)
    exact ⟨i, e.symm⟩
  let g : D → Nat := fun d => match d with | .int i => i.toNat | _ => 0
  refine ⟨ys.map g, ?_, ?_⟩
  · rw [List.map_map]
    conv => lhs; rw [← List.map_id ys]
    refine List.map_congr_left fun y hy => ?_
    obtain ⟨i, rfl⟩ := hm y hy
    rfl
  · have := h.map g
    rw [List.map_map] at this
    have e : (g ∘ fun i : Nat => D.int ((i : Nat) : Int)) = id := by
      funext i
      rfl
    simpa [e] using this
end
section
variable {st : Store} {gs : List Gg} {k n : Nat}
theorem w_machine (hk : k ≤ 5) (hg : ∀ g ∈ gs, g.ok k) (hl : gs.length ≤ 100) (S : Stop (vl gs) k n) (h : (bfs (vl gs) k n).length ≤ 40) : W (f_machine [.int (k : Nat), gsd gs] st) fun d s => d = mach gs k n ∧ Gr st s := by
  rcases (wx_machine (st := st) hk hg hl S).cases with ⟨d, s, e, _, rfl, G⟩ | ⟨x, s, e, h2, _⟩
  · exact W.of e ⟨rfl, G⟩
  · omega
end

/-! k10: what holds -/
section
variable {ns : List Int} {st : Store} {gs : List Gg} {k n : Nat}
theorem oNe_tb {a : List Int} {s : Store} : oNe (tb a) (tb a) s = .ok (.bl false) s := by
  have p : (D.tup (a.map D.int)).plain 60 = true := by simp
  unfold tb
  rw [oNe_tup p p]
  simp
/-- the gauges in this order -/
theorem r_picked {P : List Nat} {m : Nat} {τ : Sl} {s : Store} (hP : P.Perm (List.range gs.length)) (hl : gs.length ≤ 60) (hm : lstAt s m = some (P.map fun i => D.int ((i : Nat) : Int))) (h9 : eVar 9 τ s = .ok (.ref m) s) (h2 : eVar 2 (wipeD τ [13]) = eVar 2 τ) (hw : ∀ d : D, ∃ τ1, gN 13 d (wipeD τ [13]) = some τ1 ∧ eBin oIx (eVar 2) (eVar 13) τ1 s = oIx (gsd gs) d s) :
    eCS gTuple (lComp [13] (iEx (eVar 9)) (gN 13) tYes (eBin oIx (eVar 2) (eVar 13))) τ s = .ok (gsd (pm gs P)) s := by
  have key : W (eCS gTuple (lComp [13] (iEx (eVar 9)) (gN 13) tYes (eBin oIx (eVar 2) (eVar 13))) τ s) fun d s' => d = gsd (pm gs P) ∧ s' = s := by
    rw [eCS_e, W_bind, lComp_e, W_bind, iEx_e, W_bind, h9, W_ok, dSq_ref hm, ofQ_some, W_ok]
    have lP := hP.length_eq
    rw [List.length_range] at lP
    refine w_lc (by show (P.map _).length ≤ _; rw [List.length_map]; omega) ?_
    refine w_map (fun i : Nat => D.int ((i : Nat) : Int)) (fun i : Nat => (gs.getD i .last).d) P rfl (decide_eq_true hm) (fun i hi => ?_) ?_
    · obtain ⟨τ1, e1, e2⟩ := hw (.int ((i : Nat) : Int))
      refine ⟨τ1, e1, ?_⟩
      have hi := List.mem_range.mp (hP.mem_iff.mp hi)
      rw [e2]
      refine W.of (a := (gs.getD i .last).d) (s := s) (ix_tup ?_) ⟨rfl, rfl⟩
      rw [List.getElem?_map, List.getElem?_eq_getElem hi, List.getD_eq_getElem?_getD, List.getElem?_eq_getElem hi]
      rfl
    · rw [gTuple_e, W_ok]
      unfold gsd pm
      rw [List.map_map]
      exact ⟨rfl, rfl⟩
  obtain ⟨d, s', h, rfl, rfl⟩ := key.ex
  exact h
theorem w_holds (H : DS ns st) (hk0 : 0 < k) (hk : k ≤ 5) (hg : ∀ g ∈ gs, g.ok k) (hl : gs.length ≤ 60) (S : Stop (vl gs) k n) (hle : (bfs (vl gs) k n).length ≤ 40) : W (f__law_holds [.ref 1, .int (k : Nat), gsd gs, mach gs k n] st) fun d _ => d = .bl true := by
  have hfit := S.fit hle
  have hn40 : n ≤ 41 := by omega
  have hn0 : 0 < n := by have := bfs_pos (f := vl gs) (k := k) (n := n); omega
  have hl100 : gs.length ≤ 100 := by omega
  have hmach : ∀ s, W (f_machine [.int (k : Nat), gsd gs] s) fun d s' => d = mach gs k n ∧ Gr s s' := fun s => w_machine hk hg hl100 S hle
  have qR : smQ 3 (rdr gs k n) = true := smQ_rdr hk hn40
  have qV : smQ 3 (.tup ((bfs (vl gs) k n).map (key gs))) = true := smQ_keys hl100 (by omega)
  have sM : ∀ s, f__law_same [mach gs k n, mach gs k n] s = .ok (.bl true) s := fun s => r_same (n := 4) (smQ_pair qR qV) (by decide)
  have m0 : ∀ s, oIx (mach gs k n) (.int 0) s = .ok (rdr gs k n) s := fun s => ix_tup (i := 0) rfl
  have m1 : ∀ s, oIx (mach gs k n) (.int 1) s = .ok (.tup ((bfs (vl gs) k n).map (key gs))) s := fun s => ix_tup (i := 1) rfl
  have sP : ∀ s, f__law_same [.tup (prs (bfs (vl gs) k n)), .tup (prs (bfs (vl gs) k n))] s = .ok (.bl true) s := fun s => r_same (n := 4) (smQ_prs (by omega) fun t ht => by have := (bfs_wd t ht).len; omega) (by decide)
  have wre : ∀ s, W (f_reached [rdr gs k n] s) fun d s' => d = .tup (prs (bfs (vl gs) k n)) ∧ Gr s s' := fun s => w_reached hk S hfit hn40
  have wle : ∀ s, W (f__law_least_tables [rdr gs k n] s) fun d s' => d = .tup (prs (bfs (vl gs) k n)) ∧ Gr s s' := fun s => w_least_tables hk S hfit hn40
  have rst : ∀ (t : List Int) s, (∀ x ∈ t, 0 ≤ x ∧ x < (k : Int)) → f_state_of [rdr gs k n, tb t] s = .ok (.int (rnT (vl gs) (bfs (vl gs) k n) 0 t : Nat)) s := fun t s ht => r_state_of hg S hfit ht
  have rls : ∀ (t : List Int) s, (∀ x ∈ t, 0 ≤ x ∧ x < (k : Int)) → f__law_state [rdr gs k n, tb t] s = .ok (.int (rnT (vl gs) (bfs (vl gs) k n) 0 t : Nat)) s := fun t s ht => r_law_state hg S hfit ht
  have rvs : ∀ (t : List Int) s, (∀ x ∈ t, 0 ≤ x ∧ x < (k : Int)) → t.length ≤ 400 → f__law_values [gsd gs, tb t] s = .ok (key gs t) s := fun t s ht lt => r_values hg hl100 ht (by omega)
  have vix : ∀ (t : List Int) s, (∀ x ∈ t, 0 ≤ x ∧ x < (k : Int)) → oIx (.tup ((bfs (vl gs) k n).map (key gs))) (.int (rnT (vl gs) (bfs (vl gs) k n) 0 t : Nat)) s = .ok (key gs t) s := fun t s ht => by
    obtain ⟨h1, h2⟩ := run_ok hg S hfit ht
    refine ix_tup ?_
    have h1' : rnT (vl gs) (bfs (vl gs) k n) 0 t < (bfs (vl gs) k n).length := Nat.lt_of_lt_of_le h1 (Nat.le_of_eq hfit)
    rw [List.getD_eq_getElem?_getD, List.getElem?_eq_getElem h1'] at h2
    rw [List.getElem?_map, List.getElem?_eq_getElem h1']
    show some (tb (vl gs _)) = some (tb (vl gs t))
    rw [← h2]
    rfl
  have eM : mach gs k n = .tup [rdr gs k n, .tup ((bfs (vl gs) k n).map (key gs))] := rfl
  obtain ⟨M, hM⟩ : ∃ M, M = mach gs k n := ⟨_, rfl⟩
  obtain ⟨R, hR⟩ : ∃ R, R = rdr gs k n := ⟨_, rfl⟩
  obtain ⟨V, hV⟩ : ∃ V, V = D.tup ((bfs (vl gs) k n).map (key gs)) := ⟨_, rfl⟩
  obtain ⟨PP, hPP⟩ : ∃ PP, PP = D.tup (prs (bfs (vl gs) k n)) := ⟨_, rfl⟩
  obtain ⟨G, hG⟩ : ∃ G, G = gsd gs := ⟨_, rfl⟩
  have lG : ∀ s, fLen [G] s = .ok (.int (gs.length : Nat)) s := fun s => by rw [hG]; simp [gsd]
  simp only [← hM, ← hR, ← hV, ← hPP, ← hG] at hmach sM m0 m1 sP wre wle rst rls rvs vix
  rw [← hM, ← hG]
  unfold f__law_holds
  rw [runB_e]
  unfold m__law_holds
  rw [W_fin]
  have e0 : ent 15 [D.ref 1, .int (k : Nat), G, M] = [some (.ref 1), some (.int (k : Nat)), some G, some M, none, none, none, none, none, none, none, none, none, none, none] := rfl
  rw [e0]
  refine ws_cons (N' := fun τ s => τ = [some (.ref 1), some (.int (k : Nat)), some G, some M, some M, none, none, none, none, none, none, none, none, none, none] ∧ DS ns s) ?_ fun τ s hp => ?_
  · refine ws_set ?_
    refine W.opq fun Q hQ => ?_
    simp
    refine (hmach st).mono fun d s hp => ?_
    obtain ⟨rfl, g⟩ := hp
    exact hQ _ _ ⟨rfl, g.ds H⟩
  obtain ⟨rfl, D1⟩ := hp
  refine ws_cons (N' := fun τ s => τ = [some (.ref 1), some (.int (k : Nat)), some G, some M, some M, none, none, none, none, none, none, none, none, none, none] ∧ DS ns s) ?_ fun τ s hp => ?_
  · refine ws_must (fun s => DS ns s) ?_ fun s h => ⟨rfl, h⟩
    exact W.of (a := .bl true) (s := s) (by simp [sM]) ⟨rfl, D1⟩
  clear D1
  obtain ⟨rfl, D1⟩ := hp
  refine ws_cons (N' := fun τ s => ∃ most : Nat, most ≤ 400 ∧ τ = [some (.ref 1), some (.int (k : Nat)), some G, some M, some M, some (.int (most : Nat)), none, none, none, none, none, none, none, none, none] ∧ DS ns s) ?_ fun τ s hp => ?_
  · refine ws_set ?_
    refine W.opq fun Q hQ => ?_
    simp
    have := w_rare (many := 9) (Q := fun d s => ∃ b, d = .bl b ∧ DS ns s) D1 (by decide) (by decide) fun b s D F => ⟨b, rfl, D⟩
    refine this.mono fun d s hp => ?_
    obtain ⟨b, rfl, D2⟩ := hp
    cases b with
    | true => simpa using hQ _ _ ⟨400, by decide, rfl, D2⟩
    | false => simpa using hQ _ _ ⟨9, by decide, rfl, D2⟩
  clear D1
  obtain ⟨most, hmost, rfl, D1⟩ := hp
  obtain ⟨J, hJ⟩ : ∃ J : Nat → Sl → Store → Prop, J = fun _ τ s => ∃ a b c, τ = [some (.ref 1), some (.int (k : Nat)), some G, some M, some M, some (.int (most : Nat)), a, b, c, none, none, none, none, none, none] ∧ DS ns s := ⟨_, rfl⟩
  refine ws_cons (N' := J 3) ?_ fun τ s hp => ?_
  · refine ws_forD (fun q s' => q = .fix (rng 0 (3 : Nat)) ∧ s' = s) ?_ ?_
    · rw [iRg1_e, W_bind]
      refine W.of (a := .int (3 : Nat)) (s := s) rfl ?_
      rw [rg1_int (by omega), W_ok]
      exact ⟨rfl, rfl⟩
    · rintro _ s0 ⟨rfl, hs0⟩
      rw [hs0]
      clear hs0 s0
      refine ws_rng (n := 3) J (fun _ _ _ _ => rfl) (by rw [hJ]; exact ⟨none, none, none, rfl, D1⟩) (fun i τ s hi hp => ?_) fun τ s hp => hp
      clear D1
      rw [hJ] at hp
      obtain ⟨a, b, c, rfl, D1⟩ := hp
      refine ⟨_, rfl, ?_⟩
      refine ws_cons (N' := fun τ s => ∃ t, (∀ x ∈ t, 0 ≤ x ∧ x < (k : Int)) ∧ t.length ≤ 400 ∧ τ = [some (.ref 1), some (.int (k : Nat)), some G, some M, some M, some (.int (most : Nat)), some (.int (i : Nat)), some (tb t), c, none, none, none, none, none, none] ∧ DS ns s) ?_ fun τ s hp => ?_
      · refine ws_set ?_
        refine W.opq fun Q hQ => ?_
        simp
        refine (w_table D1 hk0 hk hmost).mono fun d s hp => ?_
        obtain ⟨t, rfl, ht, lt, D2, _⟩ := hp
        exact hQ _ _ ⟨t, ht, lt, rfl, D2⟩
      clear D1
      obtain ⟨t, ht, lt, rfl, D1⟩ := hp
      have a1 := rst t s ht
      have a2 := rls t s ht
      have a3 := rvs t s ht lt
      have a4 := vix t s ht
      obtain ⟨q, hq⟩ : ∃ q, q = rnT (vl gs) (bfs (vl gs) k n) 0 t := ⟨_, rfl⟩
      obtain ⟨X, hX⟩ : ∃ X, X = tb t := ⟨_, rfl⟩
      obtain ⟨Y, hY⟩ : ∃ Y, Y = key gs t := ⟨_, rfl⟩
      have a5 : oNe Y Y s = .ok (.bl false) s := by rw [hY]; exact oNe_tb
      rw [← hq] at a1 a2 a4
      rw [← hX] at a1 a2 a3 ⊢
      rw [← hY] at a3 a4
      have a6 := r_is_int (i := (q : Int)) (st := s)
      refine ws_cons (N' := fun τ s' => τ = [some (.ref 1), some (.int (k : Nat)), some G, some M, some M, some (.int (most : Nat)), some (.int (i : Nat)), some X, some (.int (q : Nat)), none, none, none, none, none, none] ∧ s' = s) ?_ fun τ s' hp => ?_
      · refine ws_set ?_
        exact W.of (a := .int (q : Nat)) (s := s) (by simp [m0, a1]) ⟨rfl, rfl⟩
      obtain ⟨rfl, hs⟩ := hp
      rw [hs]
      clear hs s'
      refine ws_cons (N' := fun τ s' => τ = [some (.ref 1), some (.int (k : Nat)), some G, some M, some M, some (.int (most : Nat)), some (.int (i : Nat)), some X, some (.int (q : Nat)), none, none, none, none, none, none] ∧ s' = s) ?_ fun τ s' hp => ?_
      · refine ws_ifd (fun b s' => b = false ∧ s' = s) ?_ (fun s' hb => absurd hb.1 (by decide)) (fun s' hb => ?_)
        · exact W.of (a := false) (s := s) (by simp [m0, a2, a6]) ⟨rfl, rfl⟩
        · rw [sNil_e, WS_nx]
          exact ⟨rfl, hb.2⟩
      obtain ⟨rfl, hs⟩ := hp
      rw [hs]
      clear hs s'
      refine ws_ifd (fun b s' => b = false ∧ s' = s) ?_ (fun s' hb => absurd hb.1 (by decide)) (fun s' hb => ?_)
      · exact W.of (a := false) (s := s) (by simp [m1, a3, a4, a5]) ⟨rfl, rfl⟩
      · rw [sNil_e, WS_nx, hJ, hb.2]
        exact ⟨_, _, _, rfl, D1⟩
  clear D1
  rw [hJ] at hp
  obtain ⟨a, b, c, rfl, D1⟩ := hp
  clear hJ J
  refine ws_cons (N' := fun τ s => τ = [some (.ref 1), some (.int (k : Nat)), some G, some M, some M, some (.int (most : Nat)), a, b, c, none, none, none, none, none, none] ∧ DS ns s) ?_ fun τ s hp => ?_
  · refine ws_must (fun s => DS ns s) ?_ fun s h => ⟨rfl, h⟩
    refine W.opq fun Q hQ => ?_
    simp [m0]
    refine (wre s).mono fun d s1 hp => ?_
    obtain ⟨rfl, g1⟩ := hp
    refine (wle s1).mono fun d s2 hp => ?_
    obtain ⟨rfl, g2⟩ := hp
    rw [sP, W_ok]
    exact hQ _ _ ⟨rfl, g2.ds (g1.ds D1)⟩
  clear D1
  obtain ⟨rfl, D1⟩ := hp
  refine ws_cons (N' := fun τ s => ∃ (P : List Nat) (m : Nat), P.Perm (List.range gs.length) ∧ lstAt s m = some (P.map fun i => D.int ((i : Nat) : Int)) ∧ τ = [some (.ref 1), some (.int (k : Nat)), some G, some M, some M, some (.int (most : Nat)), a, b, c, some (.ref m), none, none, none, none, none] ∧ DS ns s) ?_ fun τ s hp => ?_
  · refine ws_set ?_
    refine W.opq fun Q hQ => ?_
    have ok1 : okLen (gs.length : Int) = true := by
      unfold okLen
      rw [Bool.and_eq_true, decide_eq_true_eq, decide_eq_true_eq]
      omega
    have kl : kLst 0 (gs.length : Int) s = .ok (.ref s.length) (s ++ [.lst (rng 0 (gs.length : Nat))]) := by
      unfold kLst
      rw [ok1]
      rfl
    simp [lG, kl]
    refine w_shuffled (Gr.app.ds D1) lstAt_new (by rw [rng_len]; exact hl) fun t' m s2 _ hm hp D2 _ => ?_
    obtain ⟨P, rfl, hP⟩ := rng_perm hp
    exact hQ _ _ ⟨P, m, hP, hm, rfl, D2⟩
  clear D1
  obtain ⟨P, m, hP, hm, rfl, D1⟩ := hp
  have lP := hP.length_eq
  rw [List.length_range] at lP
  refine ws_cons (N' := fun τ s' => τ = [some (.ref 1), some (.int (k : Nat)), some G, some M, some M, some (.int (most : Nat)), a, b, c, some (.ref m), some (.tup ((bfs (vl gs) k n).map (key (pm gs P)))), none, none, none, none] ∧ s' = s) ?_ fun τ s' hp => ?_
  · refine ws_set ?_
    rw [eCS_e, W_bind, lComp_e, W_bind, iEx_e, W_bind]
    refine W.of (a := V) (s := s) (by simp [m1]) ?_
    have dV : dSq s V = some (.fix ((bfs (vl gs) k n).map (key gs))) := by rw [hV]; rfl
    rw [dV, ofQ_some, W_ok]
    refine w_lc (by show ((bfs (vl gs) k n).map _).length ≤ _; rw [List.length_map]; omega) ?_
    refine w_map (key gs) (key (pm gs P)) (bfs (vl gs) k n) rfl rfl (fun t _ => ⟨_, rfl, ?_⟩) ?_
    · rw [eCS_e, W_bind, lComp_e, W_bind, iEx_e, W_bind]
      refine W.of (a := .ref m) (s := s) rfl ?_
      rw [dSq_ref hm, ofQ_some, W_ok]
      refine w_lc (by show (P.map _).length ≤ _; rw [List.length_map]; omega) ?_
      refine w_map (fun i : Nat => D.int ((i : Nat) : Int)) (fun i : Nat => D.int ((vl gs t).getD i 0)) P rfl (decide_eq_true hm) (fun i hi => ⟨_, rfl, ?_⟩) ?_
      · have hi := List.mem_range.mp (hP.mem_iff.mp hi)
        have ix : oIx (key gs t) (.int (i : Nat)) s = .ok (.int ((vl gs t).getD i 0)) s := ix_tb (by unfold vl; rw [List.length_map]; exact hi)
        obtain ⟨Y, hY⟩ : ∃ Y, Y = key gs t := ⟨_, rfl⟩
        rw [← hY] at ix ⊢
        obtain ⟨z, hz⟩ : ∃ z, z = (vl gs t).getD i 0 := ⟨_, rfl⟩
        rw [← hz] at ix ⊢
        exact W.of (a := .int z) (s := s) (by simp [wipeD, ix]) ⟨rfl, rfl⟩
      · rw [gTuple_e, W_ok]
        refine ⟨?_, rfl⟩
        unfold key tb
        rw [vl_pm hP, List.map_map]
        rfl
    · rw [gTuple_e, W_ok]
      exact ⟨rfl, rfl⟩
  obtain ⟨rfl, hs⟩ := hp
  rw [hs]
  clear hs s'
  obtain ⟨V2, hV2⟩ : ∃ V2, V2 = D.tup ((bfs (vl gs) k n).map (key (pm gs P))) := ⟨_, rfl⟩
  rw [← hV2]
  have hmp : ∀ s, W (f_machine [.int (k : Nat), gsd (pm gs P)] s) fun d s' => d = .tup [R, V2] ∧ Gr s s' := fun s => by
    have := w_machine (st := s) hk (pm_ok hg hP) (by rw [pm_len hP]; omega) (S.congr (pm_iff hP)) (by rw [← bfs_congr (pm_iff hP)]; exact hle)
    rw [mach_pm hP, ← hR, ← hV2] at this
    exact this
  have sMP : ∀ s, f__law_same [.tup [R, V2], .tup [R, V2]] s = .ok (.bl true) s := fun s => by
    refine r_same (n := 4) (smQ_pair (by rw [hR]; exact qR) ?_) (by decide)
    rw [hV2]
    exact smQ_keys (by rw [pm_len hP]; omega) (by omega)
  have rp := r_picked (τ := [some (.ref 1), some (.int (k : Nat)), some G, some M, some M, some (.int (most : Nat)), a, b, c, some (.ref m), some V2, none, none, none, none]) (s := s) hP hl hm rfl rfl (fun d => ⟨_, rfl, by rw [hG]; simp [wipeD]⟩)
  obtain ⟨XP, hXP⟩ : ∃ XP : EM D, XP = eCS gTuple (lComp [13] (iEx (eVar 9)) (gN 13) tYes (eBin oIx (eVar 2) (eVar 13))) := ⟨_, rfl⟩
  rw [← hXP] at rp ⊢
  obtain ⟨G2, hG2⟩ : ∃ G2, G2 = gsd (pm gs P) := ⟨_, rfl⟩
  rw [← hG2] at rp hmp
  refine ws_cons (N' := fun τ s => τ = [some (.ref 1), some (.int (k : Nat)), some G, some M, some M, some (.int (most : Nat)), a, b, c, some (.ref m), some V2, none, none, none, none] ∧ DS ns s) ?_ fun τ s hp => ?_
  · refine ws_must (fun s => DS ns s) ?_ fun s h => ⟨rfl, h⟩
    refine W.opq fun Q hQ => ?_
    simp [m0, rp]
    refine (hmp s).mono fun d s1 hp => ?_
    obtain ⟨rfl, g1⟩ := hp
    simp only [sMP, W_ok]
    exact hQ _ _ ⟨rfl, g1.ds D1⟩
  clear D1 rp hXP XP hmp sMP hm
  obtain ⟨rfl, D1⟩ := hp
  have hmb : ∀ s, W (f_machine [.int (k : Nat), .tup []] s) fun d s' => d = mach [] k 1 ∧ Gr s s' := fun s => by
    have := w_machine (st := s) (gs := []) (n := 1) hk (fun _ h => nomatch h) (by decide) Stop.bare (by rw [bfs_bare]; decide)
    exact this
  have sMB : ∀ s, f__law_same [mach [] k 1, mach [] k 1] s = .ok (.bl true) s := fun s =>
    r_same (n := 4) (smQ_pair (smQ_rdr (gs := []) (n := 1) hk (by decide)) (smQ_keys (gs := []) (by decide) (by rw [bfs_bare]; decide))) (by decide)
  refine ws_cons (N' := fun τ s' => τ = [some (.ref 1), some (.int (k : Nat)), some G, some M, some M, some (.int (most : Nat)), a, b, c, some (.ref m), some V2, some (mach [] k 1), none, none, none] ∧ s' = s) ?_ fun τ s' hp => ?_
  · refine ws_set ?_
    have rz : eCS gTuple (lComp [14] (iRg1 (eVar 1)) (gN 14) tYes (eC (.int 0))) [some (.ref 1), some (.int (k : Nat)), some G, some M, some M, some (.int (most : Nat)), a, b, c, some (.ref m), some V2, none, none, none, none] s = .ok (.tup ((List.range k).map fun _ => D.int 0)) s := by
      have key : W (eCS gTuple (lComp [14] (iRg1 (eVar 1)) (gN 14) tYes (eC (.int 0))) [some (.ref 1), some (.int (k : Nat)), some G, some M, some M, some (.int (most : Nat)), a, b, c, some (.ref m), some V2, none, none, none, none] s) fun d s' => d = .tup ((List.range k).map fun _ => D.int 0) ∧ s' = s := by
        rw [eCS_e, W_bind, lComp_e, W_bind, iRg1_e, W_bind]
        refine W.of (a := .int (k : Nat)) (s := s) rfl ?_
        rw [rg1_int (by omega), W_ok]
        refine w_lc (by show (rng 0 (k : Nat)).length ≤ _; rw [rng_len]; omega) ?_
        refine w_map (fun i : Nat => D.int ((i : Nat) : Int)) (fun _ : Nat => D.int 0) (List.range k) (rng_eq _) rfl (fun i _ => ⟨_, rfl, ⟨rfl, rfl⟩⟩) ?_
        rw [gTuple_e, W_ok]
        exact ⟨rfl, rfl⟩
      obtain ⟨d, s', h, rfl, rfl⟩ := key.ex
      exact h
    obtain ⟨XP, hXP⟩ : ∃ XP : EM D, XP = eCS gTuple (lComp [14] (iRg1 (eVar 1)) (gN 14) tYes (eC (.int 0))) := ⟨_, rfl⟩
    rw [← hXP] at rz ⊢
    refine W.of (a := mach [] k 1) (s := s) ?_ ⟨rfl, rfl⟩
    rw [mach_bare]
    obtain ⟨Z, hZ⟩ : ∃ Z, Z = D.tup ((List.range k).map fun _ => D.int 0) := ⟨_, rfl⟩
    rw [← hZ] at rz ⊢
    simp [rz]
  obtain ⟨rfl, hs⟩ := hp
  rw [hs]
  clear hs s'
  obtain ⟨MB, hMB⟩ : ∃ MB, MB = mach [] k 1 := ⟨_, rfl⟩
  rw [← hMB] at hmb sMB ⊢
  refine ws_cons (N' := fun τ s => τ = [some (.ref 1), some (.int (k : Nat)), some G, some M, some M, some (.int (most : Nat)), a, b, c, some (.ref m), some V2, some MB, none, none, none] ∧ DS ns s) ?_ fun τ s hp => ?_
  · refine ws_must (fun s => DS ns s) ?_ fun s h => ⟨rfl, h⟩
    refine W.opq fun Q hQ => ?_
    simp
    refine (hmb s).mono fun d s1 hp => ?_
    obtain ⟨rfl, g1⟩ := hp
    simp only [sMB, W_ok]
    exact hQ _ _ ⟨rfl, g1.ds D1⟩
  clear D1
  obtain ⟨rfl, D1⟩ := hp
  refine ws_ret ?_
  refine W.opq fun Q hQ => ?_
  simp
  refine (hmach s).mono fun d s1 hp => ?_
  obtain ⟨rfl, g1⟩ := hp
  simp only [sM, W_ok]
  exact hQ _ _ rfl
end

section
variable {ns : List Int} {st : Store}
theorem w_subset {k : Nat} {Q : D → Store → Prop} (H : DS ns st) (hk : 0 < k) (hk' : k ≤ 5) (hQ : ∀ (ks : List Int) s, ks ≠ [] → (∀ x ∈ ks, 0 ≤ x ∧ x < k) → ks.length ≤ 6 → DS ns s → Fr st s → Q (tb ks) s) : W (f__law_subset [.ref 1, .int (k : Nat)] st) Q := by
  unfold f__law_subset
  rw [runB_e]
  unfold m__law_subset
  have two := H.len
  have hr : ∀ s, rg1 (.int (k : Nat)) s = .ok (.fix (rng 0 k)) s := fun s => rg1_int (by omega)
  rw [W_fin, sSeq_e, WS_seq]
  obtain ⟨N1, hN1⟩ : ∃ N : Sl → Store → Prop, N = fun τ s => ∃ (m : Nat) (ks : List Int), τ = [some (.ref 1), some (.int (k : Nat)), some (.ref m), none] ∧ m ≠ 1 ∧ st.length ≤ m ∧ lstAt s m = some (ks.map D.int) ∧ (∀ x ∈ ks, 0 ≤ x ∧ x < k) ∧ ks.length ≤ 5 ∧ DS ns s ∧ Fr st s := ⟨_, rfl⟩
  refine WS.cut (N' := N1) ?_ fun τ s hp => ?_
  · simp only [sSeq_e, sIf_e, sSet_e, sExpr_e, sRet_e, sRetN_e, sNil_e, sFor_e, sBrk_e, sCnt_e, sSub_e, sAsg_e, W_fin, WS_seq, WS_bindE, WS_nx, WS_rt, WS_bk, WS_ct]
    simp [List.replicate, lComp_e, hr]
    refine w_lc (by simp [rng_len]; omega) ?_
    obtain ⟨P, hP⟩ : ∃ P : Nat → List D → Store → Prop, P = fun i acc s => ∃ ks : List Int, acc = ks.map D.int ∧ (∀ x ∈ ks, 0 ≤ x ∧ x < k) ∧ ks.length ≤ i ∧ DS ns s ∧ Fr st s := ⟨_, rfl⟩
    refine w_rng P (fun _ _ _ _ => rfl) (by rw [hP]; exact ⟨[], rfl, (fun _ h => nomatch h), Nat.le_refl _, H, .refl⟩) ?_ ?_
    · intro i acc s hi hp
      rw [hP] at hp
      obtain ⟨ks, rfl, h1, h2, D0, F0⟩ := hp
      refine ⟨_, rfl, ?_⟩
      simp [wipeD]
      refine w_draw (many := 2) D0 (by decide) (by decide) fun v s2 hv D2 F2 => ?_
      by_cases h : v = 1
      · subst h
        simp
        rw [hP]
        refine ⟨ks ++ [(i : Int)], by simp, fun x hx => ?_, by simp; omega, D2, F0.trans F2⟩
        rcases List.mem_append.mp hx with h | h
        · exact h1 x h
        · have : x = (i : Int) := by simpa using h
          omega
      · have : ¬ ((v : Int) = 1) := by omega
        simp [this]
        rw [hP]
        exact ⟨ks, rfl, h1, by omega, D2, F0.trans F2⟩
    · intro acc s hp
      rw [hP] at hp
      obtain ⟨ks, rfl, h1, h2, D0, F0⟩ := hp
      show N1 _ _
      rw [hN1]
      have := D0.len
      exact ⟨s.length, ks, rfl, by omega, F0.len, lstAt_new, h1, by omega, D0.app, F0.trans .app⟩
  rw [hN1] at hp
  obtain ⟨m, ks, rfl, m1, ml, g, h1, h2, D0, F0⟩ := hp
  have fl : fLen [.ref m] s = .ok (.int (ks.length : Nat)) s := by rw [fLen_ref g]; simp
  by_cases hz : ks = []
  · subst hz
    refine ws_take (by simp [fl]) ?_
    simp only [sSeq_e, sIf_e, sSet_e, sExpr_e, sRet_e, sRetN_e, sNil_e, sFor_e, sBrk_e, sCnt_e, sSub_e, sAsg_e, W_fin, WS_seq, WS_bindE, WS_nx, WS_rt, WS_bk, WS_ct]
    simp [okT_ref g]
    refine w_draw (many := k) D0 hk (by omega) fun v s2 hv D2 F2 => ?_
    have g2 := F2.lst g m1
    have ap := mAppend_ref (x := .int (v : Nat)) g2 (by simp)
    simp [ap]
    have g3 : lstAt (s2.set m (.lst [.int (v : Nat)])) m = some [.int (v : Nat)] := lstAt_set g2
    have ft := fTuple_ref g3
    simp [ft]
    exact hQ [(v : Int)] _ (by simp) (fun x hx => by have : x = (v : Int) := by simpa using hx
                                                     omega) (by simp) (D2.put2 (by omega) (by omega)) ((F0.trans F2).put2 ml)
  · have hl : ks.length ≠ 0 := fun h => hz (List.length_eq_zero_iff.mp h)
    refine ws_skip (by simp [fl, hz]) ?_
    simp only [sSeq_e, sIf_e, sSet_e, sExpr_e, sRet_e, sRetN_e, sNil_e, sFor_e, sBrk_e, sCnt_e, sSub_e, sAsg_e, W_fin, WS_seq, WS_bindE, WS_nx, WS_rt, WS_bk, WS_ct]
    simp [fTuple_ref g]
    exact hQ ks s hz h1 (by omega) D0 F0
end

/-! k10: gauges drawn -/
def words : List (List Nat) := [[99, 111, 117, 110, 116], [114, 101, 115, 116], [114, 117, 110], [115, 117, 109], [108, 97, 115, 116], [109, 111, 115, 116], [115, 101, 101, 110]]
section
variable {ns : List Int} {st : Store}
theorem w_wide {k : Nat} (H : DS ns st) (hk : 0 < k) (hk' : k ≤ 5) : W (f__law_wide_gauge [.ref 1, .int (k : Nat)] st) fun d s => ∃ g : Gg, g.ok k ∧ d = g.d ∧ DS ns s := by
  unfold f__law_wide_gauge
  rw [runB_e]
  unfold m__law_wide_gauge
  rw [W_fin]
  have e0 : ent 4 [D.ref 1, D.int (k : Nat)] = [some (.ref 1), some (.int (k : Nat)), none, none] := rfl
  rw [e0]
  refine ws_cons (N' := fun τ s => ∃ w, w ∈ words ∧ τ = [some (.ref 1), some (.int (k : Nat)), some (.str w), none] ∧ DS ns s) ?_ fun τ s hp => ?_
  · refine ws_set ?_
    refine W.opq fun Q hQ => ?_
    simp
    refine w_pick (xs := [.str [99, 111, 117, 110, 116], .str [114, 101, 115, 116], .str [114, 117, 110], .str [115, 117, 109], .str [108, 97, 115, 116], .str [109, 111, 115, 116], .str [115, 101, 101, 110]]) (Gr.app.ds H) lstAt_new (by have := H.len; omega) (by decide) (by decide) fun v s hv D F => ?_
    simp only [List.mem_cons, List.not_mem_nil, or_false] at hv
    rcases hv with rfl | rfl | rfl | rfl | rfl | rfl | rfl
    · exact hQ _ _ ⟨_, by decide, rfl, D⟩
    · exact hQ _ _ ⟨_, by decide, rfl, D⟩
    · exact hQ _ _ ⟨_, by decide, rfl, D⟩
    · exact hQ _ _ ⟨_, by decide, rfl, D⟩
    · exact hQ _ _ ⟨_, by decide, rfl, D⟩
    · exact hQ _ _ ⟨_, by decide, rfl, D⟩
    · exact hQ _ _ ⟨_, by decide, rfl, D⟩
  obtain ⟨w, hw, rfl, D0⟩ := hp
  have i2 : ∀ z : List Nat, dIn (.str z) (.tup [.str [108, 97, 115, 116], .str [109, 111, 115, 116]]) s = some (decide (z = [108, 97, 115, 116]) || decide (z = [109, 111, 115, 116])) := fun z => by
    rw [dIn_flat (ys := [.str [108, 97, 115, 116], .str [109, 111, 115, 116]]) rfl rfl rfl]
    simp [eq_comm]
  have hr : ∀ s, rg1 (.int (k : Nat)) s = .ok (.fix (rng 0 k)) s := fun s => rg1_int (by omega)
  simp only [words, List.mem_cons, List.not_mem_nil, or_false] at hw
  rcases hw with rfl | rfl | rfl | rfl | rfl | rfl | rfl
  · refine ws_skip (by simp [i2]) ?_
    refine ws_skip (by simp) ?_
    refine ws_skip (by simp) ?_
    refine ws_skip (by simp) ?_
    simp only [sSeq_e, sIf_e, sSet_e, sExpr_e, sRet_e, sRetN_e, sNil_e, sFor_e, sBrk_e, sCnt_e, sSub_e, sAsg_e, W_fin, WS_seq, WS_bindE, WS_nx, WS_rt, WS_bk, WS_ct]
    refine W.opq fun Q hQ => ?_
    simp
    refine w_subset D0 hk hk' fun ks s h1 h2 h3 D1 F1 => ?_
    refine w_draw (many := 12) D1 (by decide) (by decide) fun v s2 hv D2 F2 => ?_
    simp
    exact hQ _ _ ⟨.count ks (1 + (v : Int)), ⟨h1, h2, by omega, by omega, h3⟩, rfl, D2⟩
  · refine ws_skip (by simp [i2]) ?_
    refine ws_skip (by simp) ?_
    refine ws_skip (by simp) ?_
    refine ws_take (by simp) ?_
    simp only [sSeq_e, sIf_e, sSet_e, sExpr_e, sRet_e, sRetN_e, sNil_e, sFor_e, sBrk_e, sCnt_e, sSub_e, sAsg_e, W_fin, WS_seq, WS_bindE, WS_nx, WS_rt, WS_bk, WS_ct]
    refine W.opq fun Q hQ => ?_
    simp
    refine w_subset D0 hk hk' fun ks s h1 h2 h3 D1 F1 => ?_
    refine w_draw (many := 5) D1 (by decide) (by decide) fun v s2 hv D2 F2 => ?_
    simp
    exact hQ _ _ ⟨.rest ks (2 + (v : Int)), ⟨h1, h2, by omega, by omega, h3⟩, rfl, D2⟩
  · refine ws_skip (by simp [i2]) ?_
    refine ws_skip (by simp) ?_
    refine ws_skip (by simp) ?_
    refine ws_skip (by simp) ?_
    simp only [sSeq_e, sIf_e, sSet_e, sExpr_e, sRet_e, sRetN_e, sNil_e, sFor_e, sBrk_e, sCnt_e, sSub_e, sAsg_e, W_fin, WS_seq, WS_bindE, WS_nx, WS_rt, WS_bk, WS_ct]
    refine W.opq fun Q hQ => ?_
    simp
    refine w_subset D0 hk hk' fun ks s h1 h2 h3 D1 F1 => ?_
    refine w_draw (many := 12) D1 (by decide) (by decide) fun v s2 hv D2 F2 => ?_
    simp
    exact hQ _ _ ⟨.run ks (1 + (v : Int)), ⟨h1, h2, by omega, by omega, h3⟩, rfl, D2⟩
  · refine ws_skip (by simp [i2]) ?_
    refine ws_skip (by simp) ?_
    refine ws_take (by simp) ?_
    simp only [sSeq_e, sIf_e, sSet_e, sExpr_e, sRet_e, sRetN_e, sNil_e, sFor_e, sBrk_e, sCnt_e, sSub_e, sAsg_e, W_fin, WS_seq, WS_bindE, WS_nx, WS_rt, WS_bk, WS_ct]
    refine W.opq fun Q hQ => ?_
    simp [lComp_e, hr]
    refine w_drawsK (many := 10) D0 (by omega) (by decide) (by decide) (fun d => ⟨_, rfl, fun s' => by simp [wipeD]⟩) fun t s1 h1 h2 D1 F1 => ?_
    refine w_draw (many := 12) D1 (by decide) (by decide) fun v s2 hv D2 F2 => ?_
    simp
    exact hQ _ _ ⟨.sum t (1 + (v : Int)), ⟨h1, fun x hx => (h2 x hx).1, by omega, by omega⟩, rfl, D2⟩
  · refine ws_take (by simp [i2]) ?_
    simp only [sSeq_e, sIf_e, sSet_e, sExpr_e, sRet_e, sRetN_e, sNil_e, sFor_e, sBrk_e, sCnt_e, sSub_e, sAsg_e, W_fin, WS_seq, WS_bindE, WS_nx, WS_rt, WS_bk, WS_ct]
    simp
    exact ⟨.last, trivial, rfl, D0⟩
  · refine ws_take (by simp [i2]) ?_
    simp only [sSeq_e, sIf_e, sSet_e, sExpr_e, sRet_e, sRetN_e, sNil_e, sFor_e, sBrk_e, sCnt_e, sSub_e, sAsg_e, W_fin, WS_seq, WS_bindE, WS_nx, WS_rt, WS_bk, WS_ct]
    simp
    exact ⟨.most, trivial, rfl, D0⟩
  · refine ws_skip (by simp [i2]) ?_
    refine ws_take (by simp) ?_
    simp only [sSeq_e, sIf_e, sSet_e, sExpr_e, sRet_e, sRetN_e, sNil_e, sFor_e, sBrk_e, sCnt_e, sSub_e, sAsg_e, W_fin, WS_seq, WS_bindE, WS_nx, WS_rt, WS_bk, WS_ct]
    refine W.opq fun Q hQ => ?_
    simp [lComp_e]
    refine w_draw (many := 6) D0 (by decide) (by decide) fun v s1 hv D1 F1 => ?_
    have hr2 : rg1 (.int (1 + (v : Int))) s1 = .ok (.fix (rng 0 (v + 1 : Nat))) s1 := by
      have := rg1_int (st := s1) (j := ((v + 1 : Nat) : Int)) (by omega)
      rw [show (1 + (v : Int)) = ((v + 1 : Nat) : Int) by omega]
      exact this
    simp [hr2]
    refine w_drawsK (n := v + 1) (many := k) D1 (by omega) hk (by omega) (fun d => ⟨_, rfl, fun s' => by simp [wipeD]⟩) fun t s2 h1 h2 D2 F2 => ?_
    exact hQ _ _ ⟨.seen t, ⟨h2, by omega⟩, rfl, D2⟩
theorem w_sized {k : Nat} {most : Nat} (H : DS ns st) (hk : 0 < k) (hk' : k ≤ 5) (hm0 : 0 < most) (hm5 : most ≤ 5) : W (f__law_sized_gauge [.ref 1, .int (k : Nat), .int (most : Nat)] st) fun d s => ∃ g : Gg, g.ok k ∧ d = g.d ∧ DS ns s := by
  unfold f__law_sized_gauge
  rw [runB_e]
  unfold m__law_sized_gauge
  rw [W_fin]
  have e0 : ent 5 [D.ref 1, D.int (k : Nat), .int (most : Nat)] = [some (.ref 1), some (.int (k : Nat)), some (.int (most : Nat)), none, none] := rfl
  rw [e0]
  refine ws_cons (N' := fun τ s => ∃ w, w ∈ words ∧ τ = [some (.ref 1), some (.int (k : Nat)), some (.int (most : Nat)), some (.str w), none] ∧ DS ns s) ?_ fun τ s hp => ?_
  · refine ws_set ?_
    refine W.opq fun Q hQ => ?_
    simp
    refine w_pick (xs := [.str [99, 111, 117, 110, 116], .str [114, 101, 115, 116], .str [99, 111, 117, 110, 116], .str [114, 117, 110], .str [115, 117, 109], .str [108, 97, 115, 116], .str [109, 111, 115, 116], .str [115, 101, 101, 110]]) (Gr.app.ds H) lstAt_new (by have := H.len; omega) (by decide) (by decide) fun v s hv D F => ?_
    simp only [List.mem_cons, List.not_mem_nil, or_false] at hv
    rcases hv with rfl | rfl | rfl | rfl | rfl | rfl | rfl | rfl
    · exact hQ _ _ ⟨_, by decide, rfl, D⟩
    · exact hQ _ _ ⟨_, by decide, rfl, D⟩
    · exact hQ _ _ ⟨_, by decide, rfl, D⟩
    · exact hQ _ _ ⟨_, by decide, rfl, D⟩
    · exact hQ _ _ ⟨_, by decide, rfl, D⟩
    · exact hQ _ _ ⟨_, by decide, rfl, D⟩
    · exact hQ _ _ ⟨_, by decide, rfl, D⟩
    · exact hQ _ _ ⟨_, by decide, rfl, D⟩
  obtain ⟨w, hw, rfl, D0⟩ := hp
  have i2 : ∀ z : List Nat, dIn (.str z) (.tup [.str [108, 97, 115, 116], .str [109, 111, 115, 116]]) s = some (decide (z = [108, 97, 115, 116]) || decide (z = [109, 111, 115, 116])) := fun z => by
    rw [dIn_flat (ys := [.str [108, 97, 115, 116], .str [109, 111, 115, 116]]) rfl rfl rfl]
    simp [eq_comm]
  have hr : ∀ s, rg1 (.int (k : Nat)) s = .ok (.fix (rng 0 k)) s := fun s => rg1_int (by omega)
  simp only [words, List.mem_cons, List.not_mem_nil, or_false] at hw
  rcases hw with rfl | rfl | rfl | rfl | rfl | rfl | rfl
  · refine ws_skip (by simp [i2]) ?_
    refine ws_skip (by simp) ?_
    refine ws_skip (by simp) ?_
    refine ws_skip (by simp) ?_
    simp only [sSeq_e, sIf_e, sSet_e, sExpr_e, sRet_e, sRetN_e, sNil_e, sFor_e, sBrk_e, sCnt_e, sSub_e, sAsg_e, W_fin, WS_seq, WS_bindE, WS_nx, WS_rt, WS_bk, WS_ct]
    refine W.opq fun Q hQ => ?_
    simp
    refine w_subset D0 hk hk' fun ks s h1 h2 h3 D1 F1 => ?_
    refine w_draw (many := most) D1 hm0 (by omega) fun v s2 hv D2 F2 => ?_
    simp
    exact hQ _ _ ⟨.count ks (1 + (v : Int)), ⟨h1, h2, by omega, by omega, h3⟩, rfl, D2⟩
  · refine ws_skip (by simp [i2]) ?_
    refine ws_skip (by simp) ?_
    refine ws_skip (by simp) ?_
    refine ws_take (by simp) ?_
    simp only [sSeq_e, sIf_e, sSet_e, sExpr_e, sRet_e, sRetN_e, sNil_e, sFor_e, sBrk_e, sCnt_e, sSub_e, sAsg_e, W_fin, WS_seq, WS_bindE, WS_nx, WS_rt, WS_bk, WS_ct]
    refine W.opq fun Q hQ => ?_
    simp
    refine w_subset D0 hk hk' fun ks s h1 h2 h3 D1 F1 => ?_
    refine w_draw (many := most) D1 hm0 (by omega) fun v s2 hv D2 F2 => ?_
    simp
    exact hQ _ _ ⟨.rest ks (2 + (v : Int)), ⟨h1, h2, by omega, by omega, h3⟩, rfl, D2⟩
  · refine ws_skip (by simp [i2]) ?_
    refine ws_skip (by simp) ?_
    refine ws_skip (by simp) ?_
    refine ws_skip (by simp) ?_
    simp only [sSeq_e, sIf_e, sSet_e, sExpr_e, sRet_e, sRetN_e, sNil_e, sFor_e, sBrk_e, sCnt_e, sSub_e, sAsg_e, W_fin, WS_seq, WS_bindE, WS_nx, WS_rt, WS_bk, WS_ct]
    refine W.opq fun Q hQ => ?_
    simp
    refine w_subset D0 hk hk' fun ks s h1 h2 h3 D1 F1 => ?_
    refine w_draw (many := most) D1 hm0 (by omega) fun v s2 hv D2 F2 => ?_
    simp
    exact hQ _ _ ⟨.run ks (1 + (v : Int)), ⟨h1, h2, by omega, by omega, h3⟩, rfl, D2⟩
  · refine ws_skip (by simp [i2]) ?_
    refine ws_skip (by simp) ?_
    refine ws_take (by simp) ?_
    simp only [sSeq_e, sIf_e, sSet_e, sExpr_e, sRet_e, sRetN_e, sNil_e, sFor_e, sBrk_e, sCnt_e, sSub_e, sAsg_e, W_fin, WS_seq, WS_bindE, WS_nx, WS_rt, WS_bk, WS_ct]
    refine W.opq fun Q hQ => ?_
    simp [lComp_e, hr]
    refine w_drawsK (many := 3) D0 (by omega) (by decide) (by decide) (fun d => ⟨_, rfl, fun s' => by simp [wipeD]⟩) fun t s1 h1 h2 D1 F1 => ?_
    refine w_draw (many := most) D1 hm0 (by omega) fun v s2 hv D2 F2 => ?_
    simp
    exact hQ _ _ ⟨.sum t (1 + (v : Int)), ⟨h1, fun x hx => (h2 x hx).1, by omega, by omega⟩, rfl, D2⟩
  · refine ws_take (by simp [i2]) ?_
    simp only [sSeq_e, sIf_e, sSet_e, sExpr_e, sRet_e, sRetN_e, sNil_e, sFor_e, sBrk_e, sCnt_e, sSub_e, sAsg_e, W_fin, WS_seq, WS_bindE, WS_nx, WS_rt, WS_bk, WS_ct]
    simp
    exact ⟨.last, trivial, rfl, D0⟩
  · refine ws_take (by simp [i2]) ?_
    simp only [sSeq_e, sIf_e, sSet_e, sExpr_e, sRet_e, sRetN_e, sNil_e, sFor_e, sBrk_e, sCnt_e, sSub_e, sAsg_e, W_fin, WS_seq, WS_bindE, WS_nx, WS_rt, WS_bk, WS_ct]
    simp
    exact ⟨.most, trivial, rfl, D0⟩
  · refine ws_skip (by simp [i2]) ?_
    refine ws_take (by simp) ?_
    simp only [sSeq_e, sIf_e, sSet_e, sExpr_e, sRet_e, sRetN_e, sNil_e, sFor_e, sBrk_e, sCnt_e, sSub_e, sAsg_e, W_fin, WS_seq, WS_bindE, WS_nx, WS_rt, WS_bk, WS_ct]
    refine W.opq fun Q hQ => ?_
    simp [lComp_e]
    refine w_draw (many := most) D0 hm0 (by omega) fun v s1 hv D1 F1 => ?_
    have hr2 : rg1 (.int (1 + (v : Int))) s1 = .ok (.fix (rng 0 (v + 1 : Nat))) s1 := by
      have := rg1_int (st := s1) (j := ((v + 1 : Nat) : Int)) (by omega)
      rw [show (1 + (v : Int)) = ((v + 1 : Nat) : Int) by omega]
      exact this
    simp [hr2]
    refine w_drawsK (n := v + 1) (many := k) D1 (by omega) hk (by omega) (fun d => ⟨_, rfl, fun s' => by simp [wipeD]⟩) fun t s2 h1 h2 D2 F2 => ?_
    exact hQ _ _ ⟨.seen t, ⟨h2, by omega⟩, rfl, D2⟩
/-- a row of gauges -/
theorem w_gauges {k n slot : Nat} {τ : Sl} {fe : EM D} {s : Store} (H : DS ns s) (hn : n ≤ 60) (hset : ∀ d : D, ∃ τ1, gN slot d (wipeD τ [slot]) = some τ1 ∧ ∀ s', DS ns s' → W (fe τ1 s') fun d s2 => ∃ g : Gg, g.ok k ∧ d = g.d ∧ DS ns s2) : W (lc1 [slot] (gN slot) tYes fe τ (.fix (rng 0 (n : Nat))) s) fun ds s2 => ∃ gs : List Gg, ds = gs.map Gg.d ∧ gs.length = n ∧ (∀ g ∈ gs, g.ok k) ∧ DS ns s2 := by
  refine w_lc (by show (rng 0 (n : Nat)).length ≤ _; rw [rng_len]; omega) ?_
  obtain ⟨P, hP⟩ : ∃ P : Nat → List D → Store → Prop, P = fun i acc s' => ∃ gs : List Gg, acc = gs.map Gg.d ∧ gs.length = i ∧ (∀ g ∈ gs, g.ok k) ∧ DS ns s' := ⟨_, rfl⟩
  refine w_rng P (fun _ _ _ _ => rfl) (by rw [hP]; exact ⟨[], rfl, rfl, (fun _ h => nomatch h), H⟩) ?_ ?_
  · intro i acc s' hi hp
    rw [hP] at hp
    obtain ⟨gs, rfl, lt, hg, D0⟩ := hp
    obtain ⟨τ1, e1, e2⟩ := hset (.int (i : Nat))
    refine ⟨τ1, e1, ?_⟩
    show W (ER.ok true s') _
    rw [W_ok, if_pos rfl]
    refine (e2 s' D0).mono fun d s2 hq => ?_
    obtain ⟨g, h1, rfl, D2⟩ := hq
    rw [hP]
    refine ⟨gs ++ [g], by simp, by simp [lt], fun x hx => ?_, D2⟩
    rcases List.mem_append.mp hx with h | h
    · exact hg x h
    · rw [List.mem_singleton.mp h]
      exact h1
  · intro acc s' hp
    rw [hP] at hp
    exact hp
theorem exL {α : Type} {f : α → D} {P : α → Prop} : ∀ ys : List D, (∀ y ∈ ys, ∃ g, P g ∧ y = f g) → ∃ gs : List α, ys = gs.map f ∧ ∀ g ∈ gs, P g
  | [], _ => ⟨[], rfl, fun _ h => nomatch h⟩
  | y :: ys, h => by
    obtain ⟨g, hg, rfl⟩ := h y List.mem_cons_self
    obtain ⟨gs, rfl, hs⟩ := exL ys fun z hz => h z (List.mem_cons_of_mem _ hz)
    refine ⟨g :: gs, rfl, fun x hx => ?_⟩
    rcases List.mem_cons.mp hx with e | e
    · rw [e]; exact hg
    · exact hs x e
end

/-! k10: plans -/
section
variable {ns : List Int} {st : Store}
theorem ok_one {k : Nat} {x : Int} (h : 0 ≤ x ∧ x < (k : Int)) : [x] ≠ [] ∧ (∀ y ∈ [x], 0 ≤ y ∧ y < (k : Int)) := ⟨by simp, fun y hy => by rw [List.mem_singleton.mp hy]; exact h⟩
theorem w_edge (H : DS ns st) : W (f__law_edge_plan [.ref 1] st) fun d s => ∃ (k m : Nat) (gs : List Gg), d = .tup [.int (k : Nat), .ref m] ∧ 0 < k ∧ k ≤ 5 ∧ (∀ g ∈ gs, g.ok k) ∧ gs.length ≤ 6 ∧ lstAt s m = some (gs.map Gg.d) ∧ m ≠ 1 ∧ DS ns s := by
  unfold f__law_edge_plan
  rw [runB_e]
  unfold m__law_edge_plan
  rw [W_fin]
  have e0 : ent 7 [D.ref 1] = [some (.ref 1), none, none, none, none, none, none] := rfl
  rw [e0]
  refine ws_cons (N' := fun τ s => ∃ (m : Nat) (x y : Int), (0 ≤ x ∧ x < 2) ∧ (0 ≤ y ∧ y < 2) ∧ τ = [some (.ref 1), some (.ref m), none, none, none, none, none] ∧ lstAt s m = some [.int x, .int y] ∧ m ≠ 1 ∧ DS ns s) ?_ fun τ s hp => ?_
  · refine ws_set ?_
    refine W.opq fun Q hQ => ?_
    simp
    have hlen := H.len
    refine w_shuffled (t := [.int 0, .int 1]) (Gr.app.ds H) lstAt_new (by decide) fun t' m s2 hm g hp D2 _ => ?_
    have hl := hp.length_eq
    have hmem : ∀ y ∈ t', ∃ x : Int, (0 ≤ x ∧ x < 2) ∧ y = D.int x := fun y hy => by
      have := hp.mem_iff.mp hy
      simp only [List.mem_cons, List.not_mem_nil, or_false] at this
      rcases this with rfl | rfl
      · exact ⟨0, by decide, rfl⟩
      · exact ⟨1, by decide, rfl⟩
    obtain ⟨xs, rfl, hxs⟩ := exL t' hmem
    match xs, hl, hxs, g with
    | [x, y], _, hxs, g =>
      exact hQ _ _ ⟨m, x, y, hxs x (by simp), hxs y (by simp), rfl, g, by rw [List.length_append] at hm; omega, D2⟩
  obtain ⟨m, x, y, hx, hy, rfl, g, hm, D1⟩ := hp
  have i0 : ∀ s, lstAt s m = some [.int x, .int y] → oIx (.ref m) (.int 0) s = .ok (.int x) s := fun s g => by rw [oIx_ref g]; rfl
  have i1 : ∀ s, lstAt s m = some [.int x, .int y] → oIx (.ref m) (.int 1) s = .ok (.int y) s := fun s g => by rw [oIx_ref g]; rfl
  refine ws_cons (N' := fun τ s' => τ = [some (.ref 1), some (.ref m), some (.tup [.int x]), none, none, none, none] ∧ s' = s) ?_ fun τ s' hp => ?_
  · refine ws_set ?_
    exact W.of (a := .tup [.int x]) (s := s) (by simp [i0 s g]) ⟨rfl, rfl⟩
  obtain ⟨rfl, hs⟩ := hp
  rw [hs]
  clear hs s'
  refine ws_cons (N' := fun τ s => ∃ p : Nat, τ = [some (.ref 1), some (.ref m), some (.tup [.int x]), some (.int (p : Nat)), none, none, none] ∧ p < 6 ∧ lstAt s m = some [.int x, .int y] ∧ DS ns s) ?_ fun τ s hp => ?_
  · refine ws_set ?_
    refine W.opq fun Q hQ => ?_
    simp
    refine w_draw (many := 6) D1 (by decide) (by decide) fun v s2 hv D2 F2 => ?_
    exact hQ _ _ ⟨v, rfl, hv, F2.lst g hm, D2⟩
  clear g D1
  obtain ⟨p, rfl, hp6, g, D1⟩ := hp
  refine ws_cons (N' := fun τ s => ∃ b : Nat, τ = [some (.ref 1), some (.ref m), some (.tup [.int x]), some (.int (p : Nat)), some (.int (b : Nat)), none, none] ∧ b < 2 ∧ lstAt s m = some [.int x, .int y] ∧ DS ns s) ?_ fun τ s hp => ?_
  · refine ws_set ?_
    refine W.opq fun Q hQ => ?_
    simp
    refine w_draw (many := 2) D1 (by decide) (by decide) fun v s2 hv D2 F2 => ?_
    exact hQ _ _ ⟨v, rfl, hv, F2.lst g hm, D2⟩
  clear g D1
  obtain ⟨b, rfl, hb2, g, D1⟩ := hp
  have hx2 : 0 ≤ x ∧ x < ((2 : Nat) : Int) := hx
  have hy2 : 0 ≤ y ∧ y < ((2 : Nat) : Int) := hy
  have h01 : (0 : Int) ≤ 0 ∧ (0 : Int) < ((1 : Nat) : Int) := by decide
  have hlen := D1.len
  by_cases c1 : p < 2
  · have c1' : (p : Int) < 2 := by omega
    refine ws_take (by simp [c1']) ?_
    refine ws_cons (N' := fun τ s => ∃ v : Nat, τ = [some (.ref 1), some (.ref m), some (.tup [.int x]), some (.int (p : Nat)), some (.int (b : Nat)), some (.int (9 + (v : Int))), none] ∧ v < 4 ∧ DS ns s) ?_ fun τ s hp => ?_
    · refine ws_set ?_
      refine W.opq fun Q hQ => ?_
      simp
      refine w_draw (many := 4) D1 (by decide) (by decide) fun v s2 hv D2 F2 => ?_
      exact hQ _ _ ⟨v, rfl, hv, D2⟩
    obtain ⟨v, rfl, hv, D2⟩ := hp
    refine ws_ret ?_
    refine W.opq fun Q hQ => ?_
    simp
    refine w_pick (xs := [.str [99, 111, 117, 110, 116], .str [114, 117, 110]]) (Gr.app.ds D2) lstAt_new (by have := D2.len; omega) (by decide) (by decide) fun w s2 hw D3 F3 => ?_
    have l3 := D3.len
    simp only [List.mem_cons, List.not_mem_nil, or_false] at hw
    rcases hw with rfl | rfl
    · refine hQ _ _ ⟨1, s2.length, [.rest [0] 5, .rest [0] 6, .count [0] (9 + (v : Int))], rfl, by decide, by decide, fun q hq => ?_, by simp, lstAt_new, by omega, D3.app⟩
      simp only [List.mem_cons, List.not_mem_nil, or_false] at hq
      rcases hq with rfl | rfl | rfl
      · exact ⟨(ok_one h01).1, (ok_one h01).2, by decide, by decide, by decide⟩
      · exact ⟨(ok_one h01).1, (ok_one h01).2, by decide, by decide, by decide⟩
      · exact ⟨(ok_one h01).1, (ok_one h01).2, by omega, by omega, by decide⟩
    · refine hQ _ _ ⟨1, s2.length, [.rest [0] 5, .rest [0] 6, .run [0] (9 + (v : Int))], rfl, by decide, by decide, fun q hq => ?_, by simp, lstAt_new, by omega, D3.app⟩
      simp only [List.mem_cons, List.not_mem_nil, or_false] at hq
      rcases hq with rfl | rfl | rfl
      · exact ⟨(ok_one h01).1, (ok_one h01).2, by decide, by decide, by decide⟩
      · exact ⟨(ok_one h01).1, (ok_one h01).2, by decide, by decide, by decide⟩
      · exact ⟨(ok_one h01).1, (ok_one h01).2, by omega, by omega, by decide⟩
  have c1' : ¬ (p : Int) < 2 := by omega
  refine ws_skip (by simp [c1']) ?_
  by_cases c2 : p = 2
  · subst c2
    refine ws_take (by simp) ?_
    refine ws_ret ?_
    refine W.opq fun Q hQ => ?_
    simp [i1 s g]
    refine hQ _ _ ⟨2, s.length, [.count [x] 4, .count [y] (7 + (b : Int))], rfl, by decide, by decide, fun q hq => ?_, by simp, lstAt_new, by omega, D1.app⟩
    simp only [List.mem_cons, List.not_mem_nil, or_false] at hq
    rcases hq with rfl | rfl
    · exact ⟨(ok_one hx2).1, (ok_one hx2).2, by decide, by decide, by simp⟩
    · exact ⟨(ok_one hy2).1, (ok_one hy2).2, by omega, by omega, by simp⟩
  have c2' : ¬ (p : Int) = 2 := by omega
  refine ws_skip (by simp [c2']) ?_
  by_cases c3 : p = 3
  · subst c3
    refine ws_take (by simp) ?_
    refine ws_ret ?_
    refine W.opq fun Q hQ => ?_
    simp
    refine hQ _ _ ⟨2, s.length, [.count [x] (9 + (b : Int)), .run [x] 4], rfl, by decide, by decide, fun q hq => ?_, by simp, lstAt_new, by omega, D1.app⟩
    simp only [List.mem_cons, List.not_mem_nil, or_false] at hq
    rcases hq with rfl | rfl
    · exact ⟨(ok_one hx2).1, (ok_one hx2).2, by omega, by omega, by simp⟩
    · exact ⟨(ok_one hx2).1, (ok_one hx2).2, by decide, by decide, by simp⟩
  have c3' : ¬ (p : Int) = 3 := by omega
  refine ws_skip (by simp [c3']) ?_
  by_cases c4 : p = 4
  · subst c4
    refine ws_take (by simp) ?_
    refine ws_ret ?_
    refine W.opq fun Q hQ => ?_
    simp [i1 s g]
    refine hQ _ _ ⟨2, s.length, [.count [x] 4, .count [y] 4, .last], rfl, by decide, by decide, fun q hq => ?_, by simp, lstAt_new, by omega, D1.app⟩
    simp only [List.mem_cons, List.not_mem_nil, or_false] at hq
    rcases hq with rfl | rfl | rfl
    · exact ⟨(ok_one hx2).1, (ok_one hx2).2, by decide, by decide, by simp⟩
    · exact ⟨(ok_one hy2).1, (ok_one hy2).2, by decide, by decide, by simp⟩
    · trivial
  have c4' : ¬ (p : Int) = 4 := by omega
  refine ws_skip (by simp [c4']) ?_
  refine ws_cons (N' := fun τ s' => τ = [some (.ref 1), some (.ref m), some (.tup [.int x]), some (.int (p : Nat)), some (.int (b : Nat)), none, some (.int ((4 + b : Nat) : Int))] ∧ s' = s) ?_ fun τ s' hp => ?_
  · refine ws_set ?_
    refine W.of (a := .int ((4 + b : Nat) : Int)) (s := s) ?_ ⟨rfl, rfl⟩
    show ER.ok (D.int (4 + (b : Int))) s = _
    congr 2
  obtain ⟨rfl, hs⟩ := hp
  rw [hs]
  clear hs s'
  obtain ⟨k, hk⟩ : ∃ k, k = 4 + b := ⟨_, rfl⟩
  rw [← hk]
  refine ws_ret ?_
  refine W.opq fun Q hQ => ?_
  simp
  refine w_draw (many := k) D1 (by omega) (by omega) fun v s2 hv D2 F2 => ?_
  refine w_draw (many := 3) D2 (by decide) (by decide) fun u s3 hu D3 F3 => ?_
  have l3 := D3.len
  have hv2 : 0 ≤ (v : Int) ∧ (v : Int) < (k : Int) := by omega
  refine hQ _ _ ⟨k, s3.length, [.last, .count [(v : Int)] (7 + (u : Int))], rfl, by omega, by omega, fun q hq => ?_, by simp, lstAt_new, by omega, D3.app⟩
  simp only [List.mem_cons, List.not_mem_nil, or_false] at hq
  rcases hq with rfl | rfl
  · trivial
  · exact ⟨(ok_one hv2).1, (ok_one hv2).2, by omega, by omega, by simp⟩
theorem w_plan (H : DS ns st) : W (f__law_plan [.ref 1] st) fun d s => ∃ (k : Nat) (gs : List Gg), d = .tup [.int (k : Nat), gsd gs] ∧ 0 < k ∧ k ≤ 5 ∧ (∀ g ∈ gs, g.ok k) ∧ gs.length ≤ 6 ∧ DS ns s := by
  unfold f__law_plan
  rw [runB_e]
  unfold m__law_plan
  rw [W_fin]
  have e0 : ent 5 [D.ref 1] = [some (.ref 1), none, none, none, none] := rfl
  rw [e0]
  refine ws_cons (N' := fun τ s => ∃ p : Nat, τ = [some (.ref 1), some (.int (p : Nat)), none, none, none] ∧ p < 6 ∧ DS ns s) ?_ fun τ s hp => ?_
  · refine ws_set ?_
    refine W.opq fun Q hQ => ?_
    simp
    refine w_draw (many := 6) H (by decide) (by decide) fun v s2 hv D2 F2 => ?_
    exact hQ _ _ ⟨v, rfl, hv, D2⟩
  obtain ⟨p, rfl, hp6, D1⟩ := hp
  by_cases c1 : 3 < p
  · have c1' : (3 : Int) < p := by omega
    refine ws_take (by simp [c1']) ?_
    refine ws_cons (N' := fun τ s => ∃ (X : D) (k m : Nat) (gs : List Gg), τ = [some (.ref 1), some (.int (p : Nat)), some X, none, none] ∧ X = .tup [.int (k : Nat), .ref m] ∧ 0 < k ∧ k ≤ 5 ∧ (∀ g ∈ gs, g.ok k) ∧ gs.length ≤ 6 ∧ lstAt s m = some (gs.map Gg.d) ∧ m ≠ 1 ∧ DS ns s) ?_ fun τ s hp => ?_
    · refine ws_set ?_
      refine W.opq fun Q hQ => ?_
      simp
      refine (w_edge D1).mono fun d s hp => ?_
      obtain ⟨k, m, gs, rfl, r⟩ := hp
      exact hQ _ _ ⟨_, k, m, gs, rfl, rfl, r⟩
    obtain ⟨X, k, m, gs, rfl, hX, k0, k5, hg, hl, g, hm, D2⟩ := hp
    have x0 : ∀ s, oIx X (.int 0) s = .ok (.int (k : Nat)) s := fun s => by rw [hX]; exact ix_tup (i := 0) rfl
    have x1 : ∀ s, oIx X (.int 1) s = .ok (.ref m) s := fun s => by rw [hX]; exact ix_tup (i := 1) rfl
    refine ws_ret ?_
    refine W.opq fun Q hQ => ?_
    simp [x0, x1]
    refine w_shuffled D2 g (by rw [List.length_map]; omega) fun t' m2 s2 _ g2 hp D3 _ => ?_
    have hl2 := hp.length_eq
    obtain ⟨gs2, rfl, hg2⟩ := exL (f := Gg.d) (P := fun g => g.ok k) t' fun y hy => by
      obtain ⟨q, hq, e⟩ := List.mem_map.mp (hp.mem_iff.mp hy)
      exact ⟨q, hg q hq, e.symm⟩
    rw [List.length_map, List.length_map] at hl2
    have ft := fTuple_ref g2
    simp [ft]
    exact hQ _ _ ⟨k, gs2, rfl, k0, k5, hg2, by omega, D3⟩
  have c1' : ¬ (3 : Int) < p := by omega
  refine ws_skip (by simp [c1']) ?_
  refine ws_cons (N' := fun τ s => ∃ k : Nat, τ = [some (.ref 1), some (.int (p : Nat)), none, some (.int (k : Nat)), none] ∧ 0 < k ∧ k ≤ 5 ∧ DS ns s) ?_ fun τ s hp => ?_
  · refine ws_set ?_
    refine W.opq fun Q hQ => ?_
    simp
    refine w_draw (many := 5) D1 (by decide) (by decide) fun v s2 hv D2 F2 => ?_
    simp
    refine hQ _ _ ⟨v + 1, ?_, by omega, by omega, D2⟩
    have : (1 + (v : Int)) = ((v + 1 : Nat) : Int) := by omega
    rw [this]
    rfl
  clear D1
  obtain ⟨k, rfl, k0, k5, D1⟩ := hp
  by_cases c2 : p = 0
  · subst c2
    refine ws_take (by simp) ?_
    refine ws_ret ?_
    refine W.opq fun Q hQ => ?_
    simp [lComp_e]
    refine w_draw (many := 4) D1 (by decide) (by decide) fun v s2 hv D2 F2 => ?_
    have hmn : fMin2 [.int 1, .int (v : Int)] s2 = .ok (.int ((min v 1 : Nat) : Int)) s2 := by
      rw [mn_e]
      congr 2
      unfold mn
      split <;> omega
    have hr2 : rg1 (.int ((min v 1 : Nat) : Int)) s2 = .ok (.fix (rng 0 (min v 1 : Nat))) s2 := rg1_int (by omega)
    obtain ⟨mv, hmv⟩ : ∃ mv, mv = min v 1 := ⟨_, rfl⟩
    rw [← hmv] at hmn hr2
    simp [-fMin2_e, hmn, hr2]
    refine (w_gauges (k := k) (n := mv) D2 (by omega) (fun d => ⟨_, rfl, fun s' D3 => by simp [wipeD]; exact w_wide D3 k0 k5⟩)).mono fun ds s3 hp => ?_
    obtain ⟨gs, rfl, hl, hg, D3⟩ := hp
    exact hQ _ _ ⟨k, gs, rfl, k0, k5, hg, by omega, D3⟩
  have c2' : ¬ (p : Int) = 0 := by omega
  refine ws_skip (by simp [c2]) ?_
  by_cases c3 : p = 1
  · subst c3
    refine ws_take (by simp) ?_
    refine ws_ret ?_
    refine W.opq fun Q hQ => ?_
    have hr2 : rg1 (.int 2) s = .ok (.fix (rng 0 (2 : Nat))) s := rg1_int (j := 2) (by omega)
    simp [lComp_e, hr2]
    refine (w_gauges (k := k) (n := 2) D1 (by omega) (fun d => ⟨_, rfl, fun s' D3 => by simp [wipeD]; exact w_sized (most := 5) D3 k0 k5 (by decide) (by decide)⟩)).mono fun ds s3 hp => ?_
    obtain ⟨gs, rfl, hl, hg, D3⟩ := hp
    exact hQ _ _ ⟨k, gs, rfl, k0, k5, hg, by omega, D3⟩
  have c3' : ¬ (p : Int) = 1 := by omega
  refine ws_skip (by simp [c3, c3']) ?_
  by_cases c4 : p = 2
  · subst c4
    refine ws_take (by simp) ?_
    refine ws_ret ?_
    refine W.opq fun Q hQ => ?_
    have hr2 : rg1 (.int 3) s = .ok (.fix (rng 0 (3 : Nat))) s := rg1_int (j := 3) (by omega)
    simp [lComp_e, hr2]
    refine (w_gauges (k := k) (n := 3) D1 (by omega) (fun d => ⟨_, rfl, fun s' D3 => by simp [wipeD]; exact w_sized (most := 3) D3 k0 k5 (by decide) (by decide)⟩)).mono fun ds s3 hp => ?_
    obtain ⟨gs, rfl, hl, hg, D3⟩ := hp
    exact hQ _ _ ⟨k, gs, rfl, k0, k5, hg, by omega, D3⟩
  have c4' : ¬ (p : Int) = 2 := by omega
  refine ws_skip (by simp [c4, c4']) ?_
  refine ws_ret ?_
  refine W.opq fun Q hQ => ?_
  simp [lComp_e]
  refine w_draw (many := 3) D1 (by decide) (by decide) fun v s2 hv D2 F2 => ?_
  have hr2 : rg1 (.int (4 + (v : Int))) s2 = .ok (.fix (rng 0 (v + 4 : Nat))) s2 := by
    have := rg1_int (st := s2) (j := ((v + 4 : Nat) : Int)) (by omega)
    rw [show (4 + (v : Int)) = ((v + 4 : Nat) : Int) by omega]
    exact this
  simp [hr2]
  refine (w_gauges (k := k) (n := v + 4) D2 (by omega) (fun d => ⟨_, rfl, fun s' D3 => by simp [wipeD]; exact w_sized (most := 1) D3 k0 k5 (by decide) (by decide)⟩)).mono fun ds s3 hp => ?_
  obtain ⟨gs, rfl, hl, hg, D3⟩ := hp
  exact hQ _ _ ⟨k, gs, rfl, k0, k5, hg, by omega, D3⟩
end

/-! k10: the law -/
theorem cut_gsd {gs : List Gg} {m : Nat} {s : Store} : dCut (gsd gs) none (some (m : Int)) s = .ok (gsd (gs.take m)) s := by
  show ER.ok (D.tup (cutD (gs.map Gg.d) none (some (m : Int)))) s = _
  rw [cutD_to, ← List.map_take]
  rfl
theorem law_holds : ∀ ns : List Int, ns.length ≤ 63 → ∃ st, f_law [.rol (ns.map D.int)] [] = .ok (.bl true) st := by
  intro ns hl
  obtain ⟨st0, eb, D0, l0⟩ := r_begin hl
  have main : W (f_law [.rol (ns.map D.int)] []) fun d _ => d = .bl true := by
    unfold f_law
    rw [runB_e]
    unfold m_law
    obtain ⟨C, hC⟩ : ∃ C, C = D.rol (ns.map D.int) := ⟨_, rfl⟩
    rw [← hC] at eb ⊢
    rw [W_fin]
    have e0 : ent 6 [C] = [some C, none, none, none, none, none] := rfl
    rw [e0]
    refine ws_cons (N' := fun τ s => τ = [some C, some (.ref 1), none, none, none, none] ∧ DS ns s) ?_ fun τ s hp => ?_
    · refine ws_set ?_
      exact W.of (a := .ref 1) (s := st0) (by simp [eb]) ⟨rfl, D0⟩
    obtain ⟨rfl, D1⟩ := hp
    obtain ⟨N1, hN1⟩ : ∃ N : Sl → Store → Prop, N = fun τ s => ∃ (k : Nat) (gs : List Gg), τ = [some C, some (.ref 1), some (.int (k : Nat)), some (gsd gs), none, none] ∧ 0 < k ∧ k ≤ 5 ∧ (∀ g ∈ gs, g.ok k) ∧ gs.length ≤ 6 ∧ DS ns s := ⟨_, rfl⟩
    refine ws_cons (N' := N1) ?_ fun τ s hp => ?_
    · simp only [sSeq_e, sIf_e, sSet_e, sExpr_e, sRet_e, sRetN_e, sNil_e, sFor_e, sBrk_e, sCnt_e, sSub_e, sAsg_e, W_fin, WS_seq, WS_bindE, WS_nx, WS_rt, WS_bk, WS_ct]
      refine W.opq fun Q hQ => ?_
      simp
      refine (w_plan D1).mono fun d s hp => ?_
      obtain ⟨k, gs, rfl, r⟩ := hp
      refine hQ _ _ ?_
      show N1 _ _
      rw [hN1]
      exact ⟨k, gs, rfl, r⟩
    rw [hN1] at hp
    obtain ⟨k, gs, rfl, k0, k5, hg, hl6, D2⟩ := hp
    have lG : ∀ s, fLen [gsd gs] s = .ok (.int (gs.length : Nat)) s := fun s => by simp [gsd]
    have cG : ∀ (m : Nat) s, dCut (gsd gs) none (some (m : Int)) s = .ok (gsd (gs.take m)) s := fun m s => cut_gsd
    have okT : ∀ m, ∀ g ∈ gs.take m, g.ok k := fun m g h => hg g (List.mem_of_mem_take h)
    have lT : ∀ m, (gs.take m).length ≤ 6 := fun m => Nat.le_trans (by rw [List.length_take]; exact Nat.min_le_right _ _) hl6
    have tT : gs.take gs.length = gs := List.take_length
    have wlm : ∀ m s, W (f__law_machine [.int (k : Nat), gsd (gs.take m)] s) fun d s' => ∃ n, Stop (vl (gs.take m)) k n ∧ d = mach (gs.take m) k n ∧ Gr s s' := fun m s => w_lmachine k5 (okT m) (by have := lT m; omega)
    have wlm0 := wlm gs.length
    rw [tT] at wlm0
    obtain ⟨G, hG⟩ : ∃ G, G = gsd gs := ⟨_, rfl⟩
    rw [← hG] at lG cG wlm0 ⊢
    refine ws_cons (N' := fun τ s' => τ = [some C, some (.ref 1), some (.int (k : Nat)), some G, some (.int (gs.length : Nat)), none] ∧ s' = s) ?_ fun τ s' hp => ?_
    · refine ws_set ?_
      exact W.of (a := .int (gs.length : Nat)) (s := s) (by simp [lG]) ⟨rfl, rfl⟩
    obtain ⟨rfl, hs⟩ := hp
    rw [hs]
    clear hs s'
    obtain ⟨P, hP⟩ : ∃ P : Nat → Sl → Store → Prop, P = fun z τ s => ∃ (n : Nat) (M : D), τ = [some C, some (.ref 1), some (.int (k : Nat)), some G, some (.int (z : Nat)), some M] ∧ Stop (vl (gs.take z)) k n ∧ M = mach (gs.take z) k n ∧ DS ns s := ⟨_, rfl⟩
    refine ws_cons (N' := P gs.length) ?_ fun τ s hp => ?_
    · refine ws_set ?_
      refine W.opq fun Q hQ => ?_
      simp
      refine (wlm0 s).mono fun d s1 hp => ?_
      obtain ⟨n, S, rfl, g⟩ := hp
      refine hQ _ _ ?_
      rw [hP]
      exact ⟨n, _, rfl, by rw [tT]; exact S, by rw [tT], g.ds D2⟩
    clear D2
    refine ws_cons (N' := fun τ s => ∃ (z n : Nat) (M : D), τ = [some C, some (.ref 1), some (.int (k : Nat)), some G, some (.int (z : Nat)), some M] ∧ Stop (vl (gs.take z)) k n ∧ M = mach (gs.take z) k n ∧ (bfs (vl (gs.take z)) k n).length ≤ 40 ∧ DS ns s) ?_ fun τ s hp => ?_
    · refine ws_while P ?_ big gs.length _ _ (Nat.lt_of_lt_of_le (m := 2000) (by omega) (le_big (k := 11) (by decide) (by decide))) hp
      clear hp
      intro z τ s hp
      rw [hP] at hp
      obtain ⟨n, M, rfl, S, hM, D2⟩ := hp
      obtain ⟨V, hV⟩ : ∃ V, V = D.tup ((bfs (vl (gs.take z)) k n).map (key (gs.take z))) := ⟨_, rfl⟩
      have m1 : oIx M (.int 1) s = .ok V s := by rw [hM, hV]; exact ix_tup (i := 1) rfl
      have lV : fLen [V] s = .ok (.int ((bfs (vl (gs.take z)) k n).length : Nat)) s := by rw [hV]; simp
      have hg2 : W (tBl (eBin oGt (eCB fLen (aCons (eBin oIx (eVar 5) (eC (.int 1))) aNil)) (eC (.int 40))) [some C, some (.ref 1), some (.int (k : Nat)), some G, some (.int (z : Nat)), some M] s) fun b s1 => b = decide (40 < (bfs (vl (gs.take z)) k n).length) ∧ s1 = s := by
        by_cases h : 40 < (bfs (vl (gs.take z)) k n).length
        · have h' : (40 : Int) < ((bfs (vl (gs.take z)) k n).length : Int) := by omega
          simp [m1, lV, h, h']
        · have h' : ¬ (40 : Int) < ((bfs (vl (gs.take z)) k n).length : Int) := by omega
          simp [m1, lV, h, h']
      refine hg2.mono fun b1 s1 hb => ?_
      obtain ⟨rfl, rfl⟩ := hb
      by_cases h : 40 < (bfs (vl (gs.take z)) k n).length
      · rw [if_pos (decide_eq_true h)]
        obtain ⟨y, rfl⟩ : ∃ y, z = y + 1 := by
          cases z with
          | zero =>
            rw [List.take_zero, bfs_bare] at h
            exact absurd h (by decide)
          | succ y => exact ⟨y, rfl⟩
        have wr := w_refused (st := s1) k5 (okT (y + 1)) (by have := lT (y + 1); omega) S h
        have cy := cG (y + 1) s1
        refine ws_cons (N' := fun τ s => τ = [some C, some (.ref 1), some (.int (k : Nat)), some G, some (.int ((y + 1 : Nat) : Int)), some M] ∧ DS ns s) ?_ fun τ s hp => ?_
        · refine ws_must (fun s => DS ns s) ?_ fun s h => ⟨rfl, h⟩
          have ey : ((y + 1 : Nat) : Int) = (y : Int) + 1 := by omega
          rw [ey] at cy
          refine W.opq fun Q hQ => ?_
          simp [oSome, oNone, cy]
          refine wr.mono fun d s2 hp => ?_
          obtain ⟨rfl, g⟩ := hp
          exact hQ _ _ ⟨rfl, g.ds D2⟩
        clear D2
        obtain ⟨rfl, D2⟩ := hp
        refine ws_cons (N' := fun τ s' => τ = [some C, some (.ref 1), some (.int (k : Nat)), some G, some (.int (y : Nat)), some M] ∧ s' = s) ?_ fun τ s' hp => ?_
        · have e : ((y + 1 : Nat) : Int) - 1 = (y : Int) := by omega
          show [some C, some (.ref 1), some (.int (k : Nat)), some G, some (.int (((y + 1 : Nat) : Int) - 1)), some M] = _ ∧ s = s
          rw [e]
          exact ⟨rfl, rfl⟩
        obtain ⟨rfl, hs⟩ := hp
        rw [hs]
        clear hs s'
        refine ws_set ?_
        refine W.opq fun Q hQ => ?_
        simp [oSome, oNone, cG]
        refine (wlm y s).mono fun d s2 hp => ?_
        obtain ⟨n2, S2, rfl, g⟩ := hp
        refine hQ _ _ ?_
        rw [hP]
        exact ⟨y, Nat.lt_succ_self _, n2, _, rfl, S2, rfl, g.ds D2⟩
      · rw [if_neg (by simpa using h)]
        exact ⟨z, n, M, rfl, S, hM, by omega, D2⟩
    clear hP
    obtain ⟨z, n, M, rfl, S, rfl, h40, D2⟩ := hp
    refine ws_ret ?_
    have wh := w_holds (gs := gs.take z) D2 k0 k5 (okT z) (by have := lT z; omega) S h40
    obtain ⟨M, hM⟩ : ∃ M, M = mach (gs.take z) k n := ⟨_, rfl⟩
    rw [← hM] at wh ⊢
    refine W.opq fun Q hQ => ?_
    simp [oSome, oNone, cG]
    exact wh.mono fun d s h => hQ _ _ h
  obtain ⟨d, s, e, rfl⟩ := main.ex
  exact ⟨s, e⟩

/-! ### the head -/
def fn : List He.DefD := [⟨("stepped", none), "stepped", "stepped", defArgs s_stepped, defBody s_stepped, defScope s_stepped, [], []⟩,
  ⟨("stepped_seen", none), "stepped_seen", "stepped_seen", defArgs s_stepped_seen, defBody s_stepped_seen, defScope s_stepped_seen, [], []⟩,
  ⟨("stepped_count", none), "stepped_count", "stepped_count", defArgs s_stepped_count, defBody s_stepped_count, defScope s_stepped_count, [], []⟩,
  ⟨("first_values", none), "first_values", "first_values", defArgs s_first_values, defBody s_first_values, defScope s_first_values, [], []⟩,
  ⟨("stepped_all", none), "stepped_all", "stepped_all", defArgs s_stepped_all, defBody s_stepped_all, defScope s_stepped_all, [], []⟩,
  ⟨("kinds_of", none), "kinds_of", "kinds_of", defArgs s_kinds_of, defBody s_kinds_of, defScope s_kinds_of, [], []⟩,
  ⟨("after", none), "after", "after", defArgs s_after, defBody s_after, defScope s_after, [], []⟩,
  ⟨("state_of", none), "state_of", "state_of", defArgs s_state_of, defBody s_state_of, defScope s_state_of, [], []⟩,
  ⟨("first_tables", none), "first_tables", "first_tables", defArgs s_first_tables, defBody s_first_tables, defScope s_first_tables, [], []⟩,
  ⟨("reached", none), "reached", "reached", defArgs s_reached, defBody s_reached, defScope s_reached, [], []⟩,
  ⟨("check_room", none), "check_room", "check_room", defArgs s_check_room, defBody s_check_room, defScope s_check_room, [], []⟩,
  ⟨("machine", none), "machine", "machine", defArgs s_machine, defBody s_machine, defScope s_machine, [], []⟩,
  ⟨("_law_begin", none), "_law_begin", "_law_begin", defArgs s__law_begin, defBody s__law_begin, defScope s__law_begin, [], []⟩,
  ⟨("_law_draw", none), "_law_draw", "_law_draw", defArgs s__law_draw, defBody s__law_draw, defScope s__law_draw, [], []⟩,
  ⟨("_law_pick", none), "_law_pick", "_law_pick", defArgs s__law_pick, defBody s__law_pick, defScope s__law_pick, [], []⟩,
  ⟨("_law_rare", none), "_law_rare", "_law_rare", defArgs s__law_rare, defBody s__law_rare, defScope s__law_rare, [], []⟩,
  ⟨("_law_shuffled", none), "_law_shuffled", "_law_shuffled", defArgs s__law_shuffled, defBody s__law_shuffled, defScope s__law_shuffled, [], []⟩,
  ⟨("_law_is_int", none), "_law_is_int", "_law_is_int", defArgs s__law_is_int, defBody s__law_is_int, defScope s__law_is_int, [], []⟩,
  ⟨("_law_table", none), "_law_table", "_law_table", defArgs s__law_table, defBody s__law_table, defScope s__law_table, [], []⟩,
  ⟨("_law_state", none), "_law_state", "_law_state", defArgs s__law_state, defBody s__law_state, defScope s__law_state, [], []⟩,
  ⟨("_law_told", none), "_law_told", "_law_told", defArgs s__law_told, defBody s__law_told, defScope s__law_told, [], []⟩,
  ⟨("_law_machine", none), "_law_machine", "_law_machine", defArgs s__law_machine, defBody s__law_machine, defScope s__law_machine, [], []⟩,
  ⟨("_law_subset", none), "_law_subset", "_law_subset", defArgs s__law_subset, defBody s__law_subset, defScope s__law_subset, [], []⟩,
  ⟨("_law_wide_gauge", none), "_law_wide_gauge", "_law_wide_gauge", defArgs s__law_wide_gauge, defBody s__law_wide_gauge, defScope s__law_wide_gauge, [], []⟩,
  ⟨("_law_sized_gauge", none), "_law_sized_gauge", "_law_sized_gauge", defArgs s__law_sized_gauge, defBody s__law_sized_gauge, defScope s__law_sized_gauge, [], []⟩,
  ⟨("_law_edge_plan", none), "_law_edge_plan", "_law_edge_plan", defArgs s__law_edge_plan, defBody s__law_edge_plan, defScope s__law_edge_plan, [], []⟩,
  ⟨("_law_plan", none), "_law_plan", "_law_plan", defArgs s__law_plan, defBody s__law_plan, defScope s__law_plan, [], []⟩,
  ⟨("_law_same", none), "_law_same", "_law_same", defArgs s__law_same, defBody s__law_same, defScope s__law_same, [], []⟩,
  ⟨("_law_is_refused", none), "_law_is_refused", "_law_is_refused", defArgs s__law_is_refused, defBody s__law_is_refused, defScope s__law_is_refused, [], []⟩,
  ⟨("_law_least_tables", none), "_law_least_tables", "_law_least_tables", defArgs s__law_least_tables, defBody s__law_least_tables, defScope s__law_least_tables, [], []⟩,
  ⟨("_law_values", none), "_law_values", "_law_values", defArgs s__law_values, defBody s__law_values, defScope s__law_values, [], []⟩,
  ⟨("_law_holds", none), "_law_holds", "_law_holds", defArgs s__law_holds, defBody s__law_holds, defScope s__law_holds, [], []⟩,
  ⟨("law", none), "law", "law", defArgs s_law, defBody s_law, defScope s_law, [], []⟩]
def fa : List He.Fa := [.glo "stepped", .glo "stepped_seen", .glo "stepped_count", .glo "first_values", .glo "stepped_all", .glo "kinds_of", .glo "after", .glo "state_of", .glo "first_tables", .glo "reached", .glo "check_room", .glo "machine", .glo "_law_begin", .glo "_law_draw", .glo "_law_pick", .glo "_law_rare", .glo "_law_shuffled", .glo "_law_is_int", .glo "_law_table", .glo "_law_state", .glo "_law_told", .glo "_law_machine", .glo "_law_subset", .glo "_law_wide_gauge", .glo "_law_sized_gauge", .glo "_law_edge_plan", .glo "_law_plan", .glo "_law_same", .glo "_law_is_refused", .glo "_law_least_tables", .glo "_law_values", .glo "_law_holds", .glo "law", .free "max", .free "min", .free "len", .free "tuple", .free "zip", .free "range", .free "sorted", .free "int", .free "abs", .free "list", .free "isinstance", .free "bool", .free "sum", .free "all", .free "str", .free "ValueError"]
def fx : List Fx := [.con "MOST_STATES" q_MOST_STATES]
def file : PySem.Str := PySem.Challenge.pw_closedratios_k10_whole_machines.main.file
abbrev in_TooMany : InD := ⟨"TooMany", "TooMany.__init__", clsFn (top 3), some "part"⟩
theorem sh_TooMany : in_TooMany.Shape := ⟨⟨⟨8, 17, 8, 21⟩, ⟨8, 23, 8, 27⟩, ⟨9, 8, 9, 13⟩, ⟨9, 8, 9, 15⟩, ⟨9, 8, 9, 24⟩, ⟨9, 25, 9, 35⟩, ⟨9, 8, 9, 36⟩, ⟨9, 8, 9, 36⟩, ⟨10, 8, 10, 12⟩, ⟨10, 8, 10, 17⟩, ⟨10, 20, 10, 24⟩, ⟨10, 8, 10, 24⟩, "too many", 0, by decide, by kernel_rfl, by kernel_rfl, by kernel_rfl⟩, fun f h => by cases h; exact fun _ _ _ _ _ _ _ _ _ _ _ _ => rfl, fun f h => by cases h; exact ⟨by decide, by decide, by decide, by decide⟩⟩
def ins : List InD := [in_TooMany]
abbrev hk : PySem.W.Hook := hookC 5 fa fx fn (fzOf tX tB tM) ins file
def ob (s : PySem.W.SharedT) : AlC := obsCG 5 fa fx fn (fzOf tX tB tM) ins file (HandSHeadRun.getT s)
theorem ob_eq (s : PySem.W.SharedT) : ob s = hk.obs s.abs := obsCG_eq (HandSHeadRun.getT_eq s)
def nm0 : List PySem.Str := ["ReleaseError", "ProgramError", "TooMany", "Unlike", "stepped", "stepped_seen", "stepped_count", "first_values", "stepped_all", "MOST_STATES", "kinds_of", "after", "state_of", "first_tables", "reached", "check_room", "machine", "_law_begin", "_law_draw", "_law_pick", "_law_rare", "_law_shuffled", "_law_is_int", "_law_table", "_law_state", "_law_told", "_law_machine", "_law_subset", "_law_wide_gauge", "_law_sized_gauge"]
def nm1 : List PySem.Str := ["_law_edge_plan", "_law_plan", "_law_same", "_law_is_refused", "_law_least_tables", "_law_values", "_law_holds"]
def nms : List PySem.Str := nm0 ++ nm1
theorem run (w : World) : HandSHeadRun.RunEq (PySem.W.OpenLaw.row PySem.Challenge.rw_closedratios_k10_whole_machines) (PySem.W.view (PySem.W.OpenLaw.row PySem.Challenge.rw_closedratios_k10_whole_machines).prog [42]) hk ob 6000 nms w := by
  intro os
  kernel_rfl
theorem facts {P : Program} {w : World} {K : PySem.W.Frag} {h : Heap} {mg : PySem.Str → Option Value} {f : Addr} (X : K.In h) (G : h.Ns mainGlobals mg) (hfa : mg ("law" : PySem.Str) = some (.ref f)) (hpf : P.main.file = file) (hpt : (P.main.scope.names.lookup ("super" : PySem.Str)).isSome = false) (c0 : SaysC fa fx fn (fzOf tX tB tM) ins file K) :
    ∃ fd : FuncData, (∀ (s : Shared) (v : Value), BindsTo s fd ⟨[v], []⟩ [("script", v)]) ∧ ∀ base : Heap, K.In base → base.Ns mainGlobals mg → FnM P w K mg base 44 f fd ["script"] f_law := by
  have c := c0.m
  have eX : ∀ r ∈ tX, Isx K mg r.1 r.2.1 r.2.2 := c0.x X G
  have eB : ∀ r ∈ tB, Isb K r.1 r.2.1 r.2.2 := c0.b
  have eM : ∀ r ∈ tM, Exm K mg r.1 r.2 := c0.e X G
  have eO : ∀ r ∈ tO, Own P K mg r.1 r.2 := (alc (InD.own X G sh_TooMany hpf hpt (c0.cls 0 rfl).1 (c0.cls 0 rfl).2) aln)
  obtain ⟨fd_stepped, F_stepped⟩ := c.def_ 0 rfl
  have gx_stepped := He.glo_ok X G (c.fact 0 (f := .glo "stepped") rfl)
  obtain ⟨fd_stepped_seen, F_stepped_seen⟩ := c.def_ 1 rfl
  have gx_stepped_seen := He.glo_ok X G (c.fact 1 (f := .glo "stepped_seen") rfl)
  obtain ⟨fd_stepped_count, F_stepped_count⟩ := c.def_ 2 rfl
  have gx_stepped_count := He.glo_ok X G (c.fact 2 (f := .glo "stepped_count") rfl)
  obtain ⟨fd_first_values, F_first_values⟩ := c.def_ 3 rfl
  have gx_first_values := He.glo_ok X G (c.fact 3 (f := .glo "first_values") rfl)
  obtain ⟨fd_stepped_all, F_stepped_all⟩ := c.def_ 4 rfl
  have gx_stepped_all := He.glo_ok X G (c.fact 4 (f := .glo "stepped_all") rfl)
  obtain ⟨fd_kinds_of, F_kinds_of⟩ := c.def_ 5 rfl
  have gx_kinds_of := He.glo_ok X G (c.fact 5 (f := .glo "kinds_of") rfl)
  obtain ⟨fd_after, F_after⟩ := c.def_ 6 rfl
  have gx_after := He.glo_ok X G (c.fact 6 (f := .glo "after") rfl)
  obtain ⟨fd_state_of, F_state_of⟩ := c.def_ 7 rfl
  have gx_state_of := He.glo_ok X G (c.fact 7 (f := .glo "state_of") rfl)
  obtain ⟨fd_first_tables, F_first_tables⟩ := c.def_ 8 rfl
  have gx_first_tables := He.glo_ok X G (c.fact 8 (f := .glo "first_tables") rfl)
  obtain ⟨fd_reached, F_reached⟩ := c.def_ 9 rfl
  have gx_reached := He.glo_ok X G (c.fact 9 (f := .glo "reached") rfl)
  obtain ⟨fd_check_room, F_check_room⟩ := c.def_ 10 rfl
  have gx_check_room := He.glo_ok X G (c.fact 10 (f := .glo "check_room") rfl)
  obtain ⟨fd_machine, F_machine⟩ := c.def_ 11 rfl
  have gx_machine := He.glo_ok X G (c.fact 11 (f := .glo "machine") rfl)
  obtain ⟨fd__law_begin, F__law_begin⟩ := c.def_ 12 rfl
  have gx__law_begin := He.glo_ok X G (c.fact 12 (f := .glo "_law_begin") rfl)
  obtain ⟨fd__law_draw, F__law_draw⟩ := c.def_ 13 rfl
  have gx__law_draw := He.glo_ok X G (c.fact 13 (f := .glo "_law_draw") rfl)
  obtain ⟨fd__law_pick, F__law_pick⟩ := c.def_ 14 rfl
  have gx__law_pick := He.glo_ok X G (c.fact 14 (f := .glo "_law_pick") rfl)
  obtain ⟨fd__law_rare, F__law_rare⟩ := c.def_ 15 rfl
  have gx__law_rare := He.glo_ok X G (c.fact 15 (f := .glo "_law_rare") rfl)
  obtain ⟨fd__law_shuffled, F__law_shuffled⟩ := c.def_ 16 rfl
  have gx__law_shuffled := He.glo_ok X G (c.fact 16 (f := .glo "_law_shuffled") rfl)
  obtain ⟨fd__law_is_int, F__law_is_int⟩ := c.def_ 17 rfl
  have gx__law_is_int := He.glo_ok X G (c.fact 17 (f := .glo "_law_is_int") rfl)
  obtain ⟨fd__law_table, F__law_table⟩ := c.def_ 18 rfl
  have gx__law_table := He.glo_ok X G (c.fact 18 (f := .glo "_law_table") rfl)
  obtain ⟨fd__law_state, F__law_state⟩ := c.def_ 19 rfl
  have gx__law_state := He.glo_ok X G (c.fact 19 (f := .glo "_law_state") rfl)
  obtain ⟨fd__law_told, F__law_told⟩ := c.def_ 20 rfl
  have gx__law_told := He.glo_ok X G (c.fact 20 (f := .glo "_law_told") rfl)
  obtain ⟨fd__law_machine, F__law_machine⟩ := c.def_ 21 rfl
  have gx__law_machine := He.glo_ok X G (c.fact 21 (f := .glo "_law_machine") rfl)
  obtain ⟨fd__law_subset, F__law_subset⟩ := c.def_ 22 rfl
  have gx__law_subset := He.glo_ok X G (c.fact 22 (f := .glo "_law_subset") rfl)
  obtain ⟨fd__law_wide_gauge, F__law_wide_gauge⟩ := c.def_ 23 rfl
  have gx__law_wide_gauge := He.glo_ok X G (c.fact 23 (f := .glo "_law_wide_gauge") rfl)
  obtain ⟨fd__law_sized_gauge, F__law_sized_gauge⟩ := c.def_ 24 rfl
  have gx__law_sized_gauge := He.glo_ok X G (c.fact 24 (f := .glo "_law_sized_gauge") rfl)
  obtain ⟨fd__law_edge_plan, F__law_edge_plan⟩ := c.def_ 25 rfl
  have gx__law_edge_plan := He.glo_ok X G (c.fact 25 (f := .glo "_law_edge_plan") rfl)
  obtain ⟨fd__law_plan, F__law_plan⟩ := c.def_ 26 rfl
  have gx__law_plan := He.glo_ok X G (c.fact 26 (f := .glo "_law_plan") rfl)
  obtain ⟨fd__law_same, F__law_same⟩ := c.def_ 27 rfl
  have gx__law_same := He.glo_ok X G (c.fact 27 (f := .glo "_law_same") rfl)
  obtain ⟨fd__law_is_refused, F__law_is_refused⟩ := c.def_ 28 rfl
  have gx__law_is_refused := He.glo_ok X G (c.fact 28 (f := .glo "_law_is_refused") rfl)
  obtain ⟨fd__law_least_tables, F__law_least_tables⟩ := c.def_ 29 rfl
  have gx__law_least_tables := He.glo_ok X G (c.fact 29 (f := .glo "_law_least_tables") rfl)
  obtain ⟨fd__law_values, F__law_values⟩ := c.def_ 30 rfl
  have gx__law_values := He.glo_ok X G (c.fact 30 (f := .glo "_law_values") rfl)
  obtain ⟨fd__law_holds, F__law_holds⟩ := c.def_ 31 rfl
  have gx__law_holds := He.glo_ok X G (c.fact 31 (f := .glo "_law_holds") rfl)
  obtain ⟨fd_law, F_law⟩ := c.def_ 32 rfl
  have z_max := He.free_ok X G (c.fact 33 (f := .free "max") rfl)
  have z_min := He.free_ok X G (c.fact 34 (f := .free "min") rfl)
  have z_len := He.free_ok X G (c.fact 35 (f := .free "len") rfl)
  have z_tuple := He.free_ok X G (c.fact 36 (f := .free "tuple") rfl)
  have z_zip := He.free_ok X G (c.fact 37 (f := .free "zip") rfl)
  have z_range := He.free_ok X G (c.fact 38 (f := .free "range") rfl)
  have z_sorted := He.free_ok X G (c.fact 39 (f := .free "sorted") rfl)
  have z_int := He.free_ok X G (c.fact 40 (f := .free "int") rfl)
  have z_abs := He.free_ok X G (c.fact 41 (f := .free "abs") rfl)
  have z_list := He.free_ok X G (c.fact 42 (f := .free "list") rfl)
  have z_isinstance := He.free_ok X G (c.fact 43 (f := .free "isinstance") rfl)
  have z_bool := He.free_ok X G (c.fact 44 (f := .free "bool") rfl)
  have z_sum := He.free_ok X G (c.fact 45 (f := .free "sum") rfl)
  have z_all := He.free_ok X G (c.fact 46 (f := .free "all") rfl)
  have z_str := He.free_ok X G (c.fact 47 (f := .free "str") rfl)
  have z_ValueError := He.free_ok X G (c.fact 48 (f := .free "ValueError") rfl)
  have k_MOST_STATES := con_ok X G (c.more 0 (f := .con "MOST_STATES" q_MOST_STATES) rfl)
  have e := hfa.symm.trans (He.glo_ok X G (c.fact 32 (f := .glo "law") rfl))
  cases e
  refine ⟨fd_law, fun s v => FunD.bindsA (ps := ["script"]) F_law (fun _ _ _ _ _ _ us hl => match us, hl with | [_], _ => rfl) s [v] rfl, fun base _ _ => ?_⟩
  have c_stepped_seen := (ok_stepped_seen (P := P) (w := w) (base := base) F_stepped_seen gx_stepped_seen z_len).le le_stepped_seen
  have c_stepped_count := (ok_stepped_count (P := P) (w := w) (base := base) F_stepped_count gx_stepped_count z_min).le le_stepped_count
  have c_stepped := (ok_stepped (P := P) (w := w) (base := base) F_stepped gx_stepped c_stepped_seen c_stepped_count z_max z_min).le le_stepped
  have c_first_values := (ok_first_values (P := P) (w := w) (base := base) F_first_values gx_first_values z_tuple).le le_first_values
  have c_stepped_all := (ok_stepped_all (P := P) (w := w) (base := base) F_stepped_all gx_stepped_all c_stepped z_zip z_tuple).le le_stepped_all
  have c_kinds_of := (ok_kinds_of (P := P) (w := w) (base := base) F_kinds_of gx_kinds_of z_len).le le_kinds_of
  have c_after := (ok_after (P := P) (w := w) (base := base) F_after gx_after ).le le_after
  have c_state_of := (ok_state_of (P := P) (w := w) (base := base) F_state_of gx_state_of c_after).le le_state_of
  have c_first_tables := (ok_first_tables (P := P) (w := w) (base := base) F_first_tables gx_first_tables c_kinds_of c_after z_len z_range).le le_first_tables
  have c_reached := (ok_reached (P := P) (w := w) (base := base) F_reached gx_reached c_first_tables z_sorted z_tuple).le le_reached
  have c_check_room := (ok_check_room (P := P) (w := w) (base := base) F_check_room gx_check_room k_MOST_STATES z_len eO).le le_check_room
  have c_machine := (ok_machine (P := P) (w := w) (base := base) F_machine gx_machine c_first_values c_stepped_all c_check_room z_len z_range z_tuple).le le_machine
  have c__law_begin := (ok__law_begin (P := P) (w := w) (base := base) F__law_begin gx__law_begin z_int).le le__law_begin
  have c__law_draw := (ok__law_draw (P := P) (w := w) (base := base) F__law_draw gx__law_draw z_int z_len z_abs).le le__law_draw
  have c__law_pick := (ok__law_pick (P := P) (w := w) (base := base) F__law_pick gx__law_pick c__law_draw z_len).le le__law_pick
  have c__law_rare := (ok__law_rare (P := P) (w := w) (base := base) F__law_rare gx__law_rare c__law_draw).le le__law_rare
  have c__law_shuffled := (ok__law_shuffled (P := P) (w := w) (base := base) F__law_shuffled gx__law_shuffled c__law_draw z_list z_range z_len).le le__law_shuffled
  have c__law_is_int := (ok__law_is_int (P := P) (w := w) (base := base) F__law_is_int gx__law_is_int z_int z_isinstance z_bool).le le__law_is_int
  have c__law_table := (ok__law_table (P := P) (w := w) (base := base) F__law_table gx__law_table c__law_draw z_range z_tuple).le le__law_table
  have c__law_state := (ok__law_state (P := P) (w := w) (base := base) F__law_state gx__law_state ).le le__law_state
  have c__law_told := (ok__law_told (P := P) (w := w) (base := base) F__law_told gx__law_told z_len z_min z_int z_sum z_max).le le__law_told
  have c__law_machine := (ok__law_machine (P := P) (w := w) (base := base) F__law_machine gx__law_machine c__law_told z_tuple z_len z_range).le le__law_machine
  have c__law_subset := (ok__law_subset (P := P) (w := w) (base := base) F__law_subset gx__law_subset c__law_draw z_range z_len z_tuple).le le__law_subset
  have c__law_wide_gauge := (ok__law_wide_gauge (P := P) (w := w) (base := base) F__law_wide_gauge gx__law_wide_gauge c__law_pick c__law_draw c__law_subset z_range z_tuple).le le__law_wide_gauge
  have c__law_sized_gauge := (ok__law_sized_gauge (P := P) (w := w) (base := base) F__law_sized_gauge gx__law_sized_gauge c__law_pick c__law_draw c__law_subset z_range z_tuple).le le__law_sized_gauge
  have c__law_edge_plan := (ok__law_edge_plan (P := P) (w := w) (base := base) F__law_edge_plan gx__law_edge_plan c__law_shuffled c__law_draw c__law_pick).le le__law_edge_plan
  have c__law_plan := (ok__law_plan (P := P) (w := w) (base := base) F__law_plan gx__law_plan c__law_draw c__law_edge_plan c__law_shuffled c__law_wide_gauge c__law_sized_gauge z_tuple z_range z_min).le le__law_plan
  have c__law_same := (rec__law_same (P := P) (w := w) (base := base) F__law_same gx__law_same c__law_is_int z_tuple z_isinstance z_len z_range z_all z_str 40).le le__law_same
  have c__law_is_refused := (ok__law_is_refused (P := P) (w := w) (base := base) F__law_is_refused gx__law_is_refused c_machine z_isinstance z_ValueError eM eO eX eB).le le__law_is_refused
  have c__law_least_tables := (ok__law_least_tables (P := P) (w := w) (base := base) F__law_least_tables gx__law_least_tables z_len z_range z_sorted z_tuple).le le__law_least_tables
  have c__law_values := (ok__law_values (P := P) (w := w) (base := base) F__law_values gx__law_values c__law_told z_tuple).le le__law_values
  have c__law_holds := (ok__law_holds (P := P) (w := w) (base := base) F__law_holds gx__law_holds c_machine c__law_same c__law_rare c__law_table c_state_of c__law_is_int c__law_state c__law_values c_reached c__law_least_tables c__law_shuffled z_range z_len z_list z_tuple).le le__law_holds
  exact (ok_law (P := P) (w := w) (base := base) F_law c__law_begin c__law_plan c__law_machine c__law_is_refused c__law_holds z_len).le le_law
end K10
open PySem PySem.W PySem.Calls PyProof.Rows
set_option maxHeartbeats 0 in
theorem PySem.Challenge.cw_closedratios_k10_whole_machines_holds : PySem.Challenge.rw_closedratios_k10_whole_machines.Holds := by
  w_on; o_law
  refine HandSHeadRun.head_any (r := OpenLaw.row PySem.Challenge.rw_closedratios_k10_whole_machines) (q := view (OpenLaw.row PySem.Challenge.rw_closedratios_k10_whole_machines).prog [42]) (H := K10.hk) (ob := K10.ob) (M := 6000) (loose := K10.nms) (d := HandSHeadRun.topDef (OpenLaw.row PySem.Challenge.rw_closedratios_k10_whole_machines).prog 42) (kwd := []) K10.ob_eq
    (by kernel_rfl) (fun s => by kernel_rfl) K10.run (by kernel_rfl) (by kernel_rfl) (by kernel_rfl) (by rfl) (by first | assumption | decide +kernel) (by decide +kernel) ⟨rfl, rfl, rfl, rfl, rfl, by decide +kernel⟩ ?hw ?hc
  case hw => w_witness2
  case hc =>
    refine L2.walk_ofE (l := PySem.Challenge.rw_closedratios_k10_whole_machines) (n := 63) (k := 44) (x := "script") (CX := L2.CX0) rfl (by decide) (by kernel_rfl) ⟨rfl, by decide, by decide⟩ ?F (fun _ _ _ _ z => z)
    intro w mg fa h Y G hmg0
    obtain ⟨K, KX, c⟩ := Y
    have hmg : mg ("law" : PySem.Str) = some (.ref fa) := by
      have e : (HandSHeadRun.topDef (OpenLaw.row PySem.Challenge.rw_closedratios_k10_whole_machines).prog 42).name = ("law" : PySem.Str) := by kernel_rfl
      rw [← e]
      exact hmg0
    obtain ⟨fd, hb, hF⟩ := K10.facts (P := (PySem.Challenge.rw_closedratios_k10_whole_machines).prog) (w := w) KX G hmg (by kernel_rfl) (by kernel_rfl) c
    exact ⟨K, fd, (fun vs H Q _ => HM.spM ⟨K, w⟩ 1 K10.f_law vs H Q fun _ _ _ => False), KX, hb, fun H a ns hl ho hS => HM.law_sp (n := 63) K10.law_holds H a ns hl ho hS, fun base h1 h2 => (hF base h1 h2).shut⟩
