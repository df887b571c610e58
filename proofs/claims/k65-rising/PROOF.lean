import PyProof.Rows.All
import Wide.All
import OpenK.AllK
import Wide.FinOn
import HandS.ForMost
import HandS.ForExc
import HandS.Wide
import HandS.Gcd
import HandS.Flow
import HandS.IsInst
import HandS.Conv
import HandS.TupAny
import HandS.Zip
import HandS.CallSlots
import HandS.TupLe
import KE.KDictKeyed
import HandS.HeadHook1
import HandS.TupMul
import HandS.ExcBuiltin
import HandS.TryOnly
import HandS.Defaults
import HandS.HeadEnd
import HandS.HeadHook2
import KE.KStateDown
import Lean
import HandS.Head0
import HandS.Head1
import HandS.Head2
import HandS.Head3
import HandS.More
import HandS.Deep
import HandS.Text
import KE.KTupSum
import KE.KMathGC
import KE.KIndexOf
import HandS.Codes
import HandS.Exc
import HandS.ExcField
import HandS.ExcIs
import HandS.ExcSuper
import KE.KExcSuper
import KE.KExcIs
import HandS.HeadWalk
import KE.GoesZip
import KE.GoesMore
import HandS.TupLen
import KE.DataCmp
import KE.SortData
import HandS.SortInts
import HandS.Style
import KE.KDictSum
import KE.DataMinMax
import KE.KDictPairs
import PySem.Challenge.RW_closedratios_k65_whole_rising
set_option Elab.async false
set_option linter.all false
set_option maxRecDepth 100000
set_option maxHeartbeats 4000000
/-! HM: a layer of values over the hand layer. Part 1: values, stores, judgements. -/
namespace HM
open PySem PySem.Spec PyProof.Rows L2

/-! ### values -/
inductive D where
  | non | bl (b : Bool) | int (i : Int) | str (x : List Nat) | tup (xs : List D) | ref (n : Nat) | ty (n : String) | adr (a : Addr) (d : Option Addr) (f : Str) (x : D) | rol (xs : List D)
mutual
def D.dec : (a b : D) → Decidable (a = b)
  | .non, .non => Decidable.isTrue rfl
  | .bl a, .bl b => if h : a = b then Decidable.isTrue (h ▸ rfl) else Decidable.isFalse (fun e => h (D.bl.inj e))
  | .int a, .int b => if h : a = b then Decidable.isTrue (h ▸ rfl) else Decidable.isFalse (fun e => h (D.int.inj e))
  | .str a, .str b => if h : a = b then Decidable.isTrue (h ▸ rfl) else Decidable.isFalse (fun e => h (D.str.inj e))
  | .ref a, .ref b => if h : a = b then Decidable.isTrue (h ▸ rfl) else Decidable.isFalse (fun e => h (D.ref.inj e))
  | .ty a, .ty b => if h : a = b then Decidable.isTrue (h ▸ rfl) else Decidable.isFalse (fun e => h (D.ty.inj e))
  | .adr a d f x, .adr b e g y => match D.dec x y with
    | .isFalse h => Decidable.isFalse (fun z => h (D.adr.inj z).2.2.2)
    | .isTrue h => if h2 : a = b ∧ d = e ∧ f = g then Decidable.isTrue (by obtain ⟨h3, h4, h5⟩ := h2; rw [h, h3, h4, h5]) else Decidable.isFalse (fun z => h2 ⟨(D.adr.inj z).1, (D.adr.inj z).2.1, (D.adr.inj z).2.2.1⟩)
  | .tup a, .tup b => match D.decAll a b with
    | .isTrue h => Decidable.isTrue (h ▸ rfl)
    | .isFalse h => Decidable.isFalse (fun e => h (D.tup.inj e))
  | .rol a, .rol b => match D.decAll a b with
    | .isTrue h => Decidable.isTrue (h ▸ rfl)
    | .isFalse h => Decidable.isFalse (fun e => h (D.rol.inj e))
  | .non, .bl _ | .non, .int _ | .non, .str _ | .non, .tup _ | .non, .ref _ | .non, .ty _ | .non, .adr _ _ _ _ | .non, .rol _ => Decidable.isFalse nofun
  | .bl _, .non | .bl _, .int _ | .bl _, .str _ | .bl _, .tup _ | .bl _, .ref _ | .bl _, .ty _ | .bl _, .adr _ _ _ _ | .bl _, .rol _ => Decidable.isFalse nofun
  | .int _, .non | .int _, .bl _ | .int _, .str _ | .int _, .tup _ | .int _, .ref _ | .int _, .ty _ | .int _, .adr _ _ _ _ | .int _, .rol _ => Decidable.isFalse nofun
  | .str _, .non | .str _, .bl _ | .str _, .int _ | .str _, .tup _ | .str _, .ref _ | .str _, .ty _ | .str _, .adr _ _ _ _ | .str _, .rol _ => Decidable.isFalse nofun
  | .tup _, .non | .tup _, .bl _ | .tup _, .int _ | .tup _, .str _ | .tup _, .ref _ | .tup _, .ty _ | .tup _, .adr _ _ _ _ | .tup _, .rol _ => Decidable.isFalse nofun
  | .ref _, .non | .ref _, .bl _ | .ref _, .int _ | .ref _, .str _ | .ref _, .tup _ | .ref _, .ty _ | .ref _, .adr _ _ _ _ | .ref _, .rol _ => Decidable.isFalse nofun
  | .ty _, .non | .ty _, .bl _ | .ty _, .int _ | .ty _, .str _ | .ty _, .tup _ | .ty _, .ref _ | .ty _, .adr _ _ _ _ | .ty _, .rol _ => Decidable.isFalse nofun
  | .rol _, .non | .rol _, .bl _ | .rol _, .int _ | .rol _, .str _ | .rol _, .tup _ | .rol _, .ref _ | .rol _, .ty _ | .rol _, .adr _ _ _ _ => Decidable.isFalse nofun
  | .adr _ _ _ _, .non | .adr _ _ _ _, .bl _ | .adr _ _ _ _, .int _ | .adr _ _ _ _, .str _ | .adr _ _ _ _, .tup _ | .adr _ _ _ _, .ref _ | .adr _ _ _ _, .ty _ | .adr _ _ _ _, .rol _ => Decidable.isFalse nofun
def D.decAll : (a b : List D) → Decidable (a = b)
  | [], [] => Decidable.isTrue rfl
  | [], _ :: _ => Decidable.isFalse nofun
  | _ :: _, [] => Decidable.isFalse nofun
  | x :: xs, y :: ys => match D.dec x y with
    | .isFalse h => Decidable.isFalse (fun e => h (List.cons.inj e).1)
    | .isTrue h => match D.decAll xs ys with
      | .isTrue h2 => Decidable.isTrue (by rw [h, h2])
      | .isFalse h2 => Decidable.isFalse (fun e => h2 (List.cons.inj e).2)
end
instance : DecidableEq D := D.dec
instance : Inhabited D := ⟨.non⟩
/-- what stands in a cell of the store -/
inductive Cell where
  | lst (xs : List D) | dct (kvs : List (D × D))
  deriving DecidableEq, Inhabited
abbrev Store := List Cell
abbrev Sl := List (Option D)
/-- an exception: its class, its fields -/
structure Xc where
  cls : D
  fs : List (Str × D) := []
/-- what an evaluation gives -/
inductive ER (α : Type) where
  | ok (a : α) (st : Store) | exc (x : Xc) (st : Store) | bad
def ER.bind {α β : Type} (r : ER α) (k : α → Store → ER β) : ER β := match r with
  | .ok a st => k a st
  | .exc x st => .exc x st
  | .bad => .bad
@[simp] theorem ER.bind_ok {α β : Type} (a : α) (st : Store) (k : α → Store → ER β) : (ER.ok a st).bind k = k a st := rfl
@[simp] theorem ER.bind_exc {α β : Type} (x : Xc) (st : Store) (k : α → Store → ER β) : (ER.exc x st : ER α).bind k = .exc x st := rfl
@[simp] theorem ER.bind_bad {α β : Type} (k : α → Store → ER β) : (ER.bad : ER α).bind k = .bad := rfl
/-- what a statement gives -/
inductive SR where
  | nx (τ : Sl) (st : Store) | bk (τ : Sl) (st : Store) | ct (τ : Sl) (st : Store) | rt (d : D) (st : Store) | exc (x : Xc) (τ : Sl) (st : Store) | bad
abbrev EM (α : Type) := Sl → Store → ER α
abbrev SM := Sl → Store → SR

/-! ### how values stand for those of the layer -/
/-- a list that nobody writes -/
def FzL (K : PySem.W.Frag) (H : Hp) (a : Addr) (xs : List V) : Prop :=
  (∃ o, H a = some (.frz o (.lst xs))) ∨
    ∃ (o : Obj) (its : Array Value) (n : Nat), K.lookup a = some o ∧ o.cls = .type "list" ∧ o.dict = none ∧ o.data = .seq its n ∧ its.size ≤ sizeLine ∧ Vals xs its.toList
theorem FzL.sq {K : PySem.W.Frag} {H : Hp} {a : Addr} {xs : List V} (h : FzL K H a xs) : SqL K H a xs := by
  rcases h with ⟨o, h⟩ | h
  · exact .inl (.inr ⟨o, h⟩)
  · exact .inr h
theorem FzL.of {K : PySem.W.Frag} {H : Hp} {a : Addr} {xs : List V} (h : SqL K H a xs) (n : ∀ ys, H a ≠ some (.lst ys)) : FzL K H a xs := by
  rcases h with (h | h) | h
  · exact absurd h (n xs)
  · exact .inl h
  · exact .inr h
theorem FzL.new {K : PySem.W.Frag} {H : Hp} {p : Addr} {o : HO} (h : H p = none) {a : Addr} {vs : List V} (s : FzL K H a vs) : FzL K (upd H p o) a vs := by
  rcases s with ⟨ob, s⟩ | s
  · exact .inl ⟨ob, by rw [upd_ne (ne_of_none s h)]; exact s⟩
  · exact .inr s
/-- a tuple that has no dict of its own -/
def PlT (K : PySem.W.Frag) (H : Hp) (a : Addr) (xs : List V) : Prop :=
  (∃ o : Obj, o.dict = none ∧ H a = some (.frz o (.tup xs))) ∨
    ∃ (o : Obj) (its : Array Value) (n : Nat), K.lookup a = some o ∧ o.cls = .type "tuple" ∧ o.dict = none ∧ o.data = .seq its n ∧ its.size ≤ sizeLine ∧ Vals xs its.toList
theorem PlT.sq {K : PySem.W.Frag} {H : Hp} {a : Addr} {xs : List V} (h : PlT K H a xs) : SqT K H a xs := by
  rcases h with ⟨o, _, h⟩ | ⟨o, its, n, h1, h2, _, h3, h4, h5⟩
  · exact .inl (.inr ⟨o, h⟩)
  · exact .inr ⟨o, its, n, h1, h2, h3, h4, h5⟩
theorem PlT.new {K : PySem.W.Frag} {H : Hp} {p : Addr} {o : HO} (h : H p = none) {a : Addr} {vs : List V} (s : PlT K H a vs) : PlT K (upd H p o) a vs := by
  rcases s with ⟨ob, z, s⟩ | s
  · exact .inl ⟨ob, z, by rw [upd_ne (ne_of_none s h)]; exact s⟩
  · exact .inr s
theorem PlT.of {K : PySem.W.Frag} {H : Hp} {p : Addr} {o : Obj} {vs : List V} (h : o.dict = none) : PlT K (upd H p (.frz o (.tup vs))) p vs := .inl ⟨o, h, upd_same⟩
mutual
inductive RD (K : PySem.W.Frag) (m : List Addr) (H : Hp) : D → V → Prop
  | non : RD K m H .non .non
  | bl (b : Bool) : RD K m H (.bl b) (.bl b)
  | int (i : Int) : RD K m H (.int i) (.int i)
  | str (x : List Nat) : RD K m H (.str x) (.str ⟨x.toArray⟩)
  | ty (n : String) : RD K m H (.ty n) (.ty n)
  | adr (a : Addr) (f : Str) (x : D) : RD K m H (.adr a none f x) (.ref a)
  | adrF {a d : Addr} {f : Str} {x : D} {v : V} : H d = some (.xd [(f, v)]) → RD K m H x v → RD K m H (.adr a (some d) f x) (.ref a)
  | tup {a : Addr} {vs : List V} {ds : List D} : PlT K H a vs → RDs K m H ds vs → RD K m H (.tup ds) (.ref a)
  | rol {a : Addr} {vs : List V} {ds : List D} : FzL K H a vs → RDs K m H ds vs → RD K m H (.rol ds) (.ref a)
  | ref {n : Nat} {a : Addr} : m[n]? = some a → RD K m H (.ref n) (.ref a)
inductive RDs (K : PySem.W.Frag) (m : List Addr) (H : Hp) : List D → List V → Prop
  | nil : RDs K m H [] []
  | cons {d : D} {v : V} {ds : List D} {vs : List V} : RD K m H d v → RDs K m H ds vs → RDs K m H (d :: ds) (v :: vs)
end
/-- what values lean on is kept -/
structure Kp (K : PySem.W.Frag) (m : List Addr) (H : Hp) (m' : List Addr) (H' : Hp) : Prop where
  pre : ∀ (n : Nat) (a : Addr), m[n]? = some a → m'[n]? = some a
  tup : ∀ (a : Addr) (vs : List V), SqT K H a vs → SqT K H' a vs
  plt : ∀ (a : Addr) (vs : List V), PlT K H a vs → PlT K H' a vs
  fzl : ∀ (a : Addr) (vs : List V), FzL K H a vs → FzL K H' a vs
  xdk : ∀ (a : Addr) (fs : List (Str × V)), H a = some (.xd fs) → H' a = some (.xd fs)
/-- all that was is kept, but what the store may change -/
structure Ext (K : PySem.W.Frag) (m : List Addr) (H : Hp) (m' : List Addr) (H' : Hp) : Prop extends Kp K m H m' H' where
  frm : ∀ (a : Addr) (o : HO), a ∉ m → H a = some o → H' a = some o
  new : ∀ a : Addr, a ∈ m' → a ∉ m → H a = none
section
variable {K : PySem.W.Frag} {m m1 m2 m' : List Addr} {H H1 H2 H' : Hp}
theorem Ext.refl : Ext K m H m H := ⟨⟨fun _ _ h => h, fun _ _ h => h, fun _ _ h => h, fun _ _ h => h, fun _ _ h => h⟩, fun _ _ _ h => h, fun _ h n => absurd h n⟩
theorem Ext.mem (e : Ext K m H m1 H1) {a : Addr} (h : a ∈ m) : a ∈ m1 := by
  obtain ⟨n, q⟩ := List.getElem?_of_mem h
  exact List.mem_of_getElem? (e.pre n a q)
theorem Ext.trans (e : Ext K m H m1 H1) (f : Ext K m1 H1 m2 H2) : Ext K m H m2 H2 where
  pre := fun n a h => f.pre n a (e.pre n a h)
  tup := fun a vs h => f.tup a vs (e.tup a vs h)
  plt := fun a vs h => f.plt a vs (e.plt a vs h)
  fzl := fun a vs h => f.fzl a vs (e.fzl a vs h)
  xdk := fun a vs h => f.xdk a vs (e.xdk a vs h)
  frm := fun a o n h => by
    refine f.frm a o (fun q => ?_) (e.frm a o n h)
    rw [e.new a q n] at h
    cases h
  new := fun a h n => by
    by_cases q : a ∈ m1
    · exact e.new a q n
    · have z := f.new a h q
      cases r : H a with
      | none => rfl
      | some o =>
        rw [e.frm a o n r] at z
        cases z
mutual
theorem RD.kp (e : Kp K m H m' H') : ∀ {d : D} {v : V}, RD K m H d v → RD K m' H' d v
  | _, _, .non => .non
  | _, _, .bl b => .bl b
  | _, _, .int i => .int i
  | _, _, .str x => .str x
  | _, _, .ty n => .ty n
  | _, _, .adr a f x => .adr a f x
  | _, _, .adrF h r => .adrF (e.xdk _ _ h) (RD.kp e r)
  | _, _, .tup h r => .tup (e.plt _ _ h) (RDs.kp e r)
  | _, _, .rol h r => .rol (e.fzl _ _ h) (RDs.kp e r)
  | _, _, .ref h => .ref (e.pre _ _ h)
theorem RDs.kp (e : Kp K m H m' H') : ∀ {ds : List D} {vs : List V}, RDs K m H ds vs → RDs K m' H' ds vs
  | _, _, .nil => .nil
  | _, _, .cons h r => .cons (RD.kp e h) (RDs.kp e r)
end
theorem RD.mono (e : Ext K m H m' H') {d : D} {v : V} (r : RD K m H d v) : RD K m' H' d v := r.kp e.toKp
theorem RDs.mono (e : Ext K m H m' H') {ds : List D} {vs : List V} (r : RDs K m H ds vs) : RDs K m' H' ds vs := r.kp e.toKp
theorem RDs.len : ∀ {ds : List D} {vs : List V}, RDs K m H ds vs → ds.length = vs.length
  | _, _, .nil => rfl
  | _, _, .cons _ r => congrArg (· + 1) r.len
theorem RDs.get : ∀ {ds : List D} {vs : List V} {i : Nat} {d : D}, RDs K m H ds vs → ds[i]? = some d → ∃ v, vs[i]? = some v ∧ RD K m H d v
  | _, _, _, _, .nil, e => by simp at e
  | _, _, 0, _, .cons h _, e => by
    simp at e
    subst e
    exact ⟨_, rfl, h⟩
  | _, _, i + 1, d, .cons _ r, e => by
    obtain ⟨v, h1, h2⟩ := RDs.get (i := i) (d := d) r (by simpa using e)
    exact ⟨v, by simpa using h1, h2⟩
theorem RDs.append : ∀ {ds es : List D} {vs us : List V}, RDs K m H ds vs → RDs K m H es us → RDs K m H (ds ++ es) (vs ++ us)
  | _, _, _, _, .nil, s => s
  | _, _, _, _, .cons h r, s => .cons h (RDs.append r s)
theorem RDs.take : ∀ {ds : List D} {vs : List V} (n : Nat), RDs K m H ds vs → RDs K m H (ds.take n) (vs.take n)
  | _, _, 0, _ => .nil
  | _, _, _ + 1, .nil => .nil
  | _, _, n + 1, .cons h r => .cons h (RDs.take n r)
theorem RDs.drop : ∀ {ds : List D} {vs : List V} (n : Nat), RDs K m H ds vs → RDs K m H (ds.drop n) (vs.drop n)
  | _, _, 0, r => r
  | _, _, _ + 1, .nil => .nil
  | _, _, n + 1, .cons _ r => RDs.drop n r
theorem RDs.set {d : D} {v : V} (h : RD K m H d v) : ∀ {ds : List D} {vs : List V} (i : Nat), RDs K m H ds vs → RDs K m H (ds.set i d) (vs.set i v)
  | _, _, _, .nil => .nil
  | _, _, 0, .cons _ r => .cons h r
  | _, _, i + 1, .cons g r => .cons g (RDs.set h i r)
theorem RDs.erase : ∀ {ds : List D} {vs : List V} (i : Nat), RDs K m H ds vs → RDs K m H (ds.eraseIdx i) (vs.eraseIdx i)
  | _, _, _, .nil => .nil
  | _, _, 0, .cons _ r => r
  | _, _, i + 1, .cons g r => .cons g (RDs.erase i r)
theorem RDs.dropLast {ds : List D} {vs : List V} (r : RDs K m H ds vs) : RDs K m H ds.dropLast vs.dropLast := by
  rw [List.dropLast_eq_take, List.dropLast_eq_take, r.len]
  exact r.take _
theorem RDs.one {d : D} {vs : List V} (r : RDs K m H [d] vs) : ∃ v, vs = [v] ∧ RD K m H d v := by
  cases r with
  | cons h r =>
    cases r
    exact ⟨_, rfl, h⟩
theorem RDs.two {d e : D} {vs : List V} (r : RDs K m H [d, e] vs) : ∃ v u, vs = [v, u] ∧ RD K m H d v ∧ RD K m H e u := by
  cases r with
  | cons h r =>
    obtain ⟨u, rfl, h2⟩ := r.one
    exact ⟨_, _, rfl, h, h2⟩
theorem RDs.reverse {ds : List D} {vs : List V} (r : RDs K m H ds vs) : RDs K m H ds.reverse vs.reverse := by
  induction ds generalizing vs with
  | nil =>
    cases r
    exact .nil
  | cons d ds ih =>
    cases r with
    | cons h r =>
      rw [List.reverse_cons, List.reverse_cons]
      exact (ih r).append (.cons h .nil)
theorem RDs.ints : ∀ (ns : List Int), RDs K m H (ns.map D.int) (ns.map V.int)
  | [] => .nil
  | n :: r => .cons (.int n) (RDs.ints r)
/-- the known part and the world -/
structure KW where
  F : PySem.W.Frag
  w : World
instance : CoeOut KW PySem.W.Frag := ⟨KW.F⟩
@[reducible] def _root_.L2.Cx.kw (X : Cx) : KW := ⟨X.K, X.w⟩
/-- values without truth values and references, so deep -/
def D.plain : Nat → D → Bool
  | _, .non => true
  | _, .int _ => true
  | _, .str x => x.all fun c => decide (c < 1114112)
  | 0, .tup _ => false
  | n + 1, .tup xs => xs.all (D.plain n)
  | _, _ => false

mutual
def D.nk : D → NestedKey
  | .non => .none
  | .int i => .num i
  | .str x => .text ⟨x.toArray⟩
  | .tup xs => .tup (D.nks xs)
  | _ => .none
def D.nks : List D → List NestedKey
  | [] => []
  | d :: ds => D.nk d :: D.nks ds
end
def D.tupQ (d : D) : Bool := match d with
  | .tup _ => d.plain 8
  | _ => false
def keyD : Key → D
  | .inl i => .int i
  | .inr x => .str x.cps.toList
/-- a dict whose keys are tuples, at its address -/
def DObj (w : World) (a : Addr) (xs : List (NestedKey × Addr × V)) (h : Heap) : Prop :=
  (a == sysModules) = false ∧ xs.length ≤ sizeLine ∧ ∃ zs : List (NestedKey × Addr × Value), Paired (fun p q => p.1 = q.1 ∧ p.2.1 = q.2.1 ∧ RelV p.2.2 q.2.2) xs zs ∧
    ∃ o es ep, h.get? a = some o ∧ o.ExactDict ∧ o.data = .dict es ep ∧ es.toList = zs.map (fun x => (⟨NestedKey.hash w x.1, .ref x.2.1, x.2.2⟩ : DictEntry)) ∧ (zs.map (·.1)).Nodup
abbrev DRel1 (K : PySem.W.Frag) (m : List Addr) (H : Hp) : List (D × D) → List (Key × V) → Prop := Paired fun p q => p.1 = keyD q.1 ∧ RD K m H p.2 q.2
abbrev DRel2 (K : PySem.W.Frag) (m : List Addr) (H : Hp) : List (D × D) → List (NestedKey × Addr × V) → Prop := Paired fun p q => p.1.tupQ = true ∧ q.1 = p.1.nk ∧ RD K m H p.1 (.ref q.2.1) ∧ RD K m H p.2 q.2.2
theorem DRel1.kp {m m' : List Addr} {H H' : Hp} {kvs : List (D × D)} {us : List (Key × V)} (r : DRel1 K m H kvs us) (e : Kp K m H m' H') : DRel1 K m' H' kvs us := Paired.mapP r fun _ _ z => ⟨z.1, z.2.kp e⟩
theorem DRel2.kp {m m' : List Addr} {H H' : Hp} {kvs : List (D × D)} {us : List (NestedKey × Addr × V)} (r : DRel2 K m H kvs us) (e : Kp K m H m' H') : DRel2 K m' H' kvs us := Paired.mapP r fun _ _ z => ⟨z.1, z.2.1, z.2.2.1.kp e, z.2.2.2.kp e⟩
/-- a cell and what stands at its address -/
def RC (K : KW) (m : List Addr) (H : Hp) (a : Addr) : Cell → Prop
  | .lst ds => ∃ vs, H a = some (.lst vs) ∧ RDs K m H ds vs
  | .dct kvs => (∃ us, H a = some (.dK us) ∧ DRel1 K m H kvs us) ∨ ∃ xs, H a = some (.ext (DObj K.w a xs)) ∧ xs ≠ [] ∧ DRel2 K m H kvs xs
structure SS (K : KW) (m : List Addr) (st : Store) (H : Hp) : Prop where
  len : m.length = st.length
  nd : m.Nodup
  cel : ∀ (n : Nat) (c : Cell) (a : Addr), st[n]? = some c → m[n]? = some a → RC K m H a c
/-- the slots -/
structure SL (K : PySem.W.Frag) (m : List Addr) (H : Hp) (τ : Sl) (σ : L2.St) : Prop where
  len : τ.length = σ.length
  get : ∀ (i : Nat) (d : D), τ[i]? = some (some d) → ∃ v, σ[i]? = some (some v) ∧ RD K m H d v
theorem SL.mono {τ : Sl} {σ : L2.St} (s : SL K m H τ σ) (e : Ext K m H m' H') : SL K m' H' τ σ :=
  ⟨s.len, fun i d h => let ⟨v, h1, h2⟩ := s.get i d h; ⟨v, h1, h2.mono e⟩⟩
theorem SL.set {τ : Sl} {σ : L2.St} {d : D} {v : V} (s : SL K m H τ σ) (i : Nat) (r : RD K m H d v) : SL K m H (τ.set i (some d)) (σ.set i (some v)) := by
  refine ⟨by simpa using s.len, fun j e h => ?_⟩
  by_cases hj : i = j
  · subst hj
    by_cases hl : i < τ.length
    · rw [List.getElem?_set_self hl] at h
      simp only [Option.some.injEq] at h
      subst h
      exact ⟨v, by rw [List.getElem?_set_self (by rw [← s.len]; exact hl)], r⟩
    · rw [List.getElem?_eq_none (by simpa using hl)] at h
      cases h
  · rw [List.getElem?_set_ne hj] at h
    rw [List.getElem?_set_ne hj]
    exact s.get j e h
theorem SS.at {K : KW} {st : Store} {n : Nat} {c : Cell} (s : SS K m st H) (h : st[n]? = some c) : ∃ a, m[n]? = some a ∧ RC K m H a c := by
  have hl : n < m.length := by
    rw [s.len]
    exact (List.getElem?_eq_some_iff.mp h).1
  exact ⟨m[n], by simp, s.cel n c _ h (by simp)⟩
theorem sqT_new {p : Addr} {o : HO} (h : H p = none) {a : Addr} {vs : List V} (s : SqT K H a vs) : SqT K (upd H p o) a vs := by
  rcases s with (s | ⟨ob, s⟩) | s
  · exact .inl (.inl (by rw [upd_ne (ne_of_none s h)]; exact s))
  · exact .inl (.inr ⟨ob, by rw [upd_ne (ne_of_none s h)]; exact s⟩)
  · exact .inr s
theorem sqL_new {p : Addr} {o : HO} (h : H p = none) {a : Addr} {vs : List V} (s : SqL K H a vs) : SqL K (upd H p o) a vs := by
  rcases s with (s | ⟨ob, s⟩) | s
  · exact .inl (.inl (by rw [upd_ne (ne_of_none s h)]; exact s))
  · exact .inl (.inr ⟨ob, by rw [upd_ne (ne_of_none s h)]; exact s⟩)
  · exact .inr s
theorem sqL_ne {p a : Addr} {o : HO} {vs : List V} (h : a ≠ p) (s : SqL K H a vs) : SqL K (upd H p o) a vs := by
  rcases s with (s | ⟨ob, s⟩) | s
  · exact .inl (.inl (by rw [upd_ne h]; exact s))
  · exact .inl (.inr ⟨ob, by rw [upd_ne h]; exact s⟩)
  · exact .inr s
theorem RC.here {K : KW} {a : Addr} {c : Cell} (r : RC K m H a c) : ∃ o, H a = some o := by
  cases c with
  | lst ds =>
    obtain ⟨vs, h, _⟩ := r
    exact ⟨_, h⟩
  | dct kvs =>
    rcases r with ⟨us, h, _⟩ | ⟨xs, h, _⟩ <;> exact ⟨_, h⟩
/-- a new object that the store does not hold -/
theorem Ext.fresh {p : Addr} {o : HO} (h : H p = none) : Ext K m H m (upd H p o) :=
  ⟨⟨fun _ _ h => h, fun _ _ s => sqT_new h s, fun _ _ s => s.new h, fun _ _ s => s.new h, fun a fs q => by rw [upd_ne (ne_of_none q h)]; exact q⟩, fun a ob _ q => by rw [upd_ne (ne_of_none q h)]; exact q, fun _ q n => absurd q n⟩
theorem RC.fresh {K : KW} {p a : Addr} {o : HO} {c : Cell} (h : H p = none) (r : RC K m H a c) : RC K m (upd H p o) a c := by
  cases c with
  | lst ds =>
    obtain ⟨vs, q, r⟩ := r
    exact ⟨vs, by rw [upd_ne (ne_of_none q h)]; exact q, r.mono (Ext.fresh h)⟩
  | dct kvs =>
    rcases r with ⟨us, q, r⟩ | ⟨xs, q, r⟩
    · exact .inl ⟨us, by rw [upd_ne (ne_of_none q h)]; exact q, r.kp (Ext.fresh h).toKp⟩
    · exact .inr ⟨xs, by rw [upd_ne (ne_of_none q h)]; exact q, r.1, r.2.kp (Ext.fresh h).toKp⟩
theorem SS.fresh {K : KW} {p : Addr} {o : HO} {st : Store} (s : SS K m st H) (h : H p = none) : SS K m st (upd H p o) :=
  ⟨s.len, s.nd, fun n c a h1 h2 => (s.cel n c a h1 h2).fresh h⟩
/-- a new object of the store's -/
theorem Ext.app {p : Addr} {o : HO} (h : H p = none) : Ext K m H (m ++ [p]) (upd H p o) where
  pre := fun n a q => by
    rw [List.getElem?_append_left (List.getElem?_eq_some_iff.mp q).1]
    exact q
  tup := fun _ _ s => sqT_new h s
  plt := fun _ _ s => s.new h
  fzl := fun _ _ s => s.new h
  xdk := fun a fs q => by rw [upd_ne (ne_of_none q h)]; exact q
  frm := fun a ob _ q => by rw [upd_ne (ne_of_none q h)]; exact q
  new := fun a q n => by
    rcases List.mem_append.mp q with q | q
    · exact absurd q n
    · have e : a = p := by simpa using q
      rw [e]
      exact h
theorem Ext.grow {p : Addr} : (H p = none) → Ext K m H (m ++ [p]) H := fun h => {
  pre := fun n a q => by
    rw [List.getElem?_append_left (List.getElem?_eq_some_iff.mp q).1]
    exact q
  tup := fun _ _ s => s
  plt := fun _ _ s => s
  fzl := fun _ _ s => s
  xdk := fun _ _ s => s
  frm := fun a ob _ q => q
  new := fun a q n => by
    rcases List.mem_append.mp q with q | q
    · exact absurd q n
    · have e : a = p := by simpa using q
      rw [e]
      exact h }
theorem RC.kp {K : KW} {a : Addr} {c : Cell} (r : RC K m H a c) (e : Kp K m H m' H') (h : ∀ o, H a = some o → H' a = some o) : RC K m' H' a c := by
  cases c with
  | lst ds =>
    obtain ⟨vs, q, r⟩ := r
    exact ⟨vs, h _ q, r.kp e⟩
  | dct kvs =>
    rcases r with ⟨us, q, r⟩ | ⟨xs, q, r⟩
    · exact .inl ⟨us, h _ q, r.kp e⟩
    · exact .inr ⟨xs, h _ q, r.1, r.2.kp e⟩
theorem Kp.grow {p : Addr} : Kp K m H (m ++ [p]) H := ⟨fun n a q => by
    rw [List.getElem?_append_left (List.getElem?_eq_some_iff.mp q).1]
    exact q, fun _ _ s => s, fun _ _ s => s, fun _ _ s => s, fun _ _ s => s⟩
/-- an object that is there becomes the store's -/
theorem SS.grow {K : KW} {p : Addr} {c : Cell} {st : Store} (s : SS K m st H) (hp : p ∉ m) (r : RC K (m ++ [p]) H p c) : SS K (m ++ [p]) (st ++ [c]) H where
  len := by simp [s.len]
  nd := by
    rw [List.nodup_append]
    refine ⟨s.nd, by simp, fun a h1 b h2 e => ?_⟩
    have e2 : b = p := by simpa using h2
    rw [e, e2] at h1
    exact hp h1
  cel := fun n d a h1 h2 => by
    by_cases hn : n < st.length
    · rw [List.getElem?_append_left hn] at h1
      rw [List.getElem?_append_left (by rw [s.len]; exact hn)] at h2
      exact (s.cel n d a h1 h2).kp Kp.grow fun _ q => q
    · have hl : n < (st ++ [c]).length := (List.getElem?_eq_some_iff.mp h1).1
      have e : n = st.length := by
        rw [List.length_append, List.length_singleton] at hl
        omega
      subst e
      have e1 : c = d := by simpa using h1
      have e2 : p = a := by
        rw [← s.len] at h2
        simpa using h2
      rw [← e1, ← e2]
      exact r
theorem SS.notin {K : KW} {st : Store} {p : Addr} (s : SS K m st H) (h : H p = none) : p ∉ m := fun q => by
  obtain ⟨n, e⟩ := List.getElem?_of_mem q
  have hl : n < st.length := by
    rw [← s.len]
    exact (List.getElem?_eq_some_iff.mp e).1
  obtain ⟨o, z⟩ := (s.cel n st[n] p (by simp) e).here
  rw [h] at z
  cases z
/-- a list is written -/
theorem Kp.write {p : Addr} {xs : List V} {o : HO} (h : H p = some (.lst xs)) : Kp K m H m (upd H p o) where
  pre := fun _ _ q => q
  tup := fun a vs s => by
    rcases s with (s | ⟨ob, s⟩) | s
    · exact .inl (.inl (by rw [upd_ne (fun e => by rw [e, h] at s; cases s)]; exact s))
    · exact .inl (.inr ⟨ob, by rw [upd_ne (fun e => by rw [e, h] at s; cases s)]; exact s⟩)
    · exact .inr s
  plt := fun a vs s => by
    rcases s with ⟨ob, z, s⟩ | s
    · exact .inl ⟨ob, z, by rw [upd_ne (fun e => by rw [e, h] at s; cases s)]; exact s⟩
    · exact .inr s
  fzl := fun a vs s => by
    rcases s with ⟨ob, s⟩ | s
    · exact .inl ⟨ob, by rw [upd_ne (fun e => by rw [e, h] at s; cases s)]; exact s⟩
    · exact .inr s
  xdk := fun a fs s => by rw [upd_ne (fun e => by rw [e, h] at s; cases s)]; exact s
/-- a list that is not the store's is written -/
theorem SS.other {K : KW} {st : Store} {p : Addr} {xs : List V} {o : HO} (s : SS K m st H) (h : H p = some (.lst xs)) (hp : p ∉ m) : SS K m st (upd H p o) :=
  ⟨s.len, s.nd, fun n c a h1 h2 => (s.cel n c a h1 h2).kp (Kp.write h) fun ob q => by rw [upd_ne (fun e : a = p => hp (by rw [← e]; exact List.mem_of_getElem? h2))]; exact q⟩
/-- a list of the store's is written -/
theorem Ext.write {n : Nat} {p : Addr} {xs : List V} {o : HO} (h : H p = some (.lst xs)) (hn : m[n]? = some p) : Ext K m H m (upd H p o) :=
  { Kp.write h with
    frm := fun a ob q z => by rw [upd_ne (fun e : a = p => q (by rw [e]; exact List.mem_of_getElem? hn))]; exact z
    new := fun a q n => absurd q n }
theorem SS.write {K : KW} {st : Store} {n : Nat} {p : Addr} {xs ys : List V} {ds : List D} (s : SS K m st H) (h : H p = some (.lst xs)) (hn : m[n]? = some p) (r : RDs K m H ds ys) : SS K m (st.set n (.lst ds)) (upd H p (.lst ys)) where
  len := by rw [List.length_set]; exact s.len
  nd := s.nd
  cel := fun i c a h1 h2 => by
    by_cases hi : n = i
    · subst hi
      rw [hn] at h2
      cases h2
      have hl : n < st.length := by
        rw [← s.len]
        exact (List.getElem?_eq_some_iff.mp hn).1
      rw [List.getElem?_set_self hl] at h1
      cases h1
      exact ⟨ys, upd_same, r.kp (Kp.write h)⟩
    · rw [List.getElem?_set_ne hi] at h1
      refine (s.cel i c a h1 h2).kp (Kp.write h) fun ob q => ?_
      rw [upd_ne fun e => hi ?_]
      · exact q
      · subst e
        obtain ⟨l1, e1⟩ := List.getElem?_eq_some_iff.mp hn
        obtain ⟨l2, e2⟩ := List.getElem?_eq_some_iff.mp h2
        exact (List.getElem_inj s.nd).mp (e1.trans e2.symm)
/-- a thing of the store's is written -/
theorem Kp.writeM {p : Addr} {o : HO} (h : Mut (H p)) : Kp K m H m (upd H p o) where
  pre := fun _ _ q => q
  tup := fun a vs s => by
    rcases s with (s | ⟨ob, s⟩) | s
    · exact .inl (.inl (by rw [upd_ne (fun e => by rw [← e, s] at h; exact h)]; exact s))
    · exact .inl (.inr ⟨ob, by rw [upd_ne (fun e => by rw [← e, s] at h; exact h)]; exact s⟩)
    · exact .inr s
  plt := fun a vs s => by
    rcases s with ⟨ob, z, s⟩ | s
    · exact .inl ⟨ob, z, by rw [upd_ne (fun e => by rw [← e, s] at h; exact h)]; exact s⟩
    · exact .inr s
  fzl := fun a vs s => by
    rcases s with ⟨ob, s⟩ | s
    · exact .inl ⟨ob, by rw [upd_ne (fun e => by rw [← e, s] at h; exact h)]; exact s⟩
    · exact .inr s
  xdk := fun a fs s => by rw [upd_ne (fun e => by rw [← e, s] at h; exact h)]; exact s
theorem Ext.writeM {n : Nat} {p : Addr} {o : HO} (h : Mut (H p)) (hn : m[n]? = some p) : Ext K m H m (upd H p o) :=
  { Kp.writeM h with
    frm := fun a ob q z => by rw [upd_ne (fun e : a = p => q (by rw [e]; exact List.mem_of_getElem? hn))]; exact z
    new := fun a q n => absurd q n }
theorem SS.writeM {K : KW} {st : Store} {n : Nat} {p : Addr} {o : HO} {c : Cell} (s : SS K m st H) (h : Mut (H p)) (hn : m[n]? = some p) (r : RC K m (upd H p o) p c) : SS K m (st.set n c) (upd H p o) where
  len := by rw [List.length_set]; exact s.len
  nd := s.nd
  cel := fun i c' a h1 h2 => by
    by_cases hi : n = i
    · subst hi
      rw [hn] at h2
      cases h2
      have hl : n < st.length := by
        rw [← s.len]
        exact (List.getElem?_eq_some_iff.mp hn).1
      rw [List.getElem?_set_self hl] at h1
      cases h1
      exact r
    · rw [List.getElem?_set_ne hi] at h1
      refine (s.cel i c' a h1 h2).kp (Kp.writeM h) fun ob q => ?_
      rw [upd_ne fun e => hi ?_]
      · exact q
      · subst e
        obtain ⟨l1, e1⟩ := List.getElem?_eq_some_iff.mp hn
        obtain ⟨l2, e2⟩ := List.getElem?_eq_some_iff.mp h2
        exact (List.getElem_inj s.nd).mp (e1.trans e2.symm)
end
end HM

/-! HM, part 2: what an evaluation promises; expressions. -/
namespace HM
open PySem PySem.Spec PyProof.Rows L2

/-- an exception and how it flies: of a built-in class, of a class of the module's by its name -/
def XR (K : PySem.W.Frag) (m : List Addr) (H : Hp) (x : Xc) (c : Value) (d : Option Addr) : Prop := match x.cls with
  | .ty n => c = .type n ∧ x.fs = []
  | .adr _ _ n _ => c = .ref (He.ga K n) ∧ ((x.fs = [] ∧ d = none) ∨ ∃ f y da v, x.fs = [(f, y)] ∧ d = some da ∧ H da = some (.xd [(f, v)]) ∧ RD K m H y v)
  | _ => False
/-- behind an evaluation -/
def Pe {α β : Type} (K : KW) (E : XK) (R : List Addr → Hp → α → β → Prop) (m : List Addr) (H : Hp) (r : ER α) (Q : β → Hp → Prop) : Prop := match r with
  | .ok a st => ∀ m' H' b, Ext K m H m' H' → SS K m' st H' → R m' H' a b → Q b H'
  | .exc x st => ∀ m' H' c d, Ext K m H m' H' → SS K m' st H' → XR K m' H' x c d → E c d H'
  | .bad => False
section
variable {α β γ δ : Type} {K : KW} {E : XK} {R : List Addr → Hp → α → β → Prop} {S : List Addr → Hp → γ → δ → Prop} {m m1 : List Addr} {H H1 : Hp} {r : ER α} {Q : β → Hp → Prop}
theorem Pe.up (h : Pe K E R m H r Q) (e : Ext K m H m1 H1) : Pe K E R m1 H1 r Q := by
  cases r with
  | ok a st => exact fun m' H' b e' s q => h m' H' b (e.trans e') s q
  | exc x st => exact fun m' H' c d e' s q => h m' H' c d (e.trans e') s q
  | bad => exact h
theorem Pe.bind {k : α → Store → ER γ} {Q' : δ → Hp → Prop} (h : Pe K E S m H (r.bind k) Q')
    (hk : ∀ a st m' H' b, Ext K m H m' H' → SS K m' st H' → R m' H' a b → Pe K E S m' H' (k a st) Q' → Q b H') : Pe K E R m H r Q := by
  cases r with
  | ok a st => exact fun m' H' b e s q => hk a st m' H' b e s q (Pe.up h e)
  | exc x st => exact h
  | bad => exact h
theorem Pe.now {a : α} {st : Store} {b : β} (h : Pe K E R m H (.ok a st) Q) (s : SS K m st H) (q : R m H a b) : Q b H := h m H b .refl s q
theorem Pe.imp {Q' : β → Hp → Prop} (h : Pe K E R m H r Q) (hQ : ∀ b H, Q b H → Q' b H) : Pe K E R m H r Q' := by
  cases r with
  | ok a st => exact fun m' H' b e s q => hQ _ _ (h m' H' b e s q)
  | exc x st => exact h
  | bad => exact h
end
abbrev RB : List Addr → Hp → Bool → Bool → Prop := fun _ _ a b => a = b

/-! ### judgements -/
def wE (X : Cx) (e : Expr) : TE := fun σ H Q => ∀ (pins : List (Addr × Obj)) (s : Shared), Inv X pins σ H s → wpAny (model X.prog X.w) X.A (eval e X.env) (EP X pins σ Q) X.xe s
def wT (X : Cx) (e : Expr) : TT := fun σ H Q => ∀ (pins : List (Addr × Obj)) (s : Shared), Inv X pins σ H s → wpAny (model X.prog X.w) X.A (isTrue e X.env (eval e X.env)) (TP X pins σ Q) X.xe s
def wW (X : Cx) (e : Expr) : TT := fun σ H Q => ∀ (whole : Sem Value) (pins : List (Addr × Obj)) (s : Shared), Inv X pins σ H s → wpAny (model X.prog X.w) X.A (isTrue e X.env whole) (TP X pins σ Q) X.xe s
def wA (X : Cx) (es : List Expr) : TA := fun σ H Q => ∀ (pos : Pos) (pins : List (Addr × Obj)) (s : Shared), Inv X pins σ H s → wpAny (model X.prog X.w) X.A (spliced (backTo pos (starEach es X.env))) (AP X pins σ Q) X.xe s
theorem peW {X : Cx} {e : Expr} : PE X e (wE X e) := ⟨fun pins s σ H Q I h => h pins s I⟩
theorem ptW {X : Cx} {e : Expr} : PT X e (wT X e) := ⟨fun pins s σ H Q I h => h pins s I⟩
theorem pwW {X : Cx} {e : Expr} : PW X e (wW X e) := ⟨fun wh pins s σ H Q I h => h wh pins s I⟩
theorem paW {X : Cx} {es : List Expr} : PA X es (wA X es) := ⟨fun pos pins s σ H Q I h => h pos pins s I⟩
/-- an expression -/
structure Ex (X : Cx) (W : WX) (e : Expr) (f : EM D) : Prop where
  run : ∀ (m : List Addr) (τ : Sl) (st : Store) (σ : L2.St) (H : Hp) (Q : VK), SL X.K m H τ σ → SS X.kw m st H → Pe X.kw (fun c d H' => W c d σ H') (RD X.K) m H (f τ st) Q → wE X e σ H Q
/-- a test -/
structure Et (X : Cx) (W : WX) (e : Expr) (f : EM Bool) : Prop where
  run : ∀ (m : List Addr) (τ : Sl) (st : Store) (σ : L2.St) (H : Hp) (Q : Bool → Hp → Prop), SL X.K m H τ σ → SS X.kw m st H → Pe X.kw (fun c d H' => W c d σ H') RB m H (f τ st) Q → wT X e σ H Q
/-- a test whatever its whole is -/
structure Ew (X : Cx) (W : WX) (e : Expr) (f : EM Bool) : Prop where
  run : ∀ (m : List Addr) (τ : Sl) (st : Store) (σ : L2.St) (H : Hp) (Q : Bool → Hp → Prop), SL X.K m H τ σ → SS X.kw m st H → Pe X.kw (fun c d H' => W c d σ H') RB m H (f τ st) Q → wW X e σ H Q
/-- arguments -/
structure Ea (X : Cx) (W : WX) (es : List Expr) (f : EM (List D)) : Prop where
  run : ∀ (m : List Addr) (τ : Sl) (st : Store) (σ : L2.St) (H : Hp) (Q : List V → Hp → Prop), SL X.K m H τ σ → SS X.kw m st H → Pe X.kw (fun c d H' => W c d σ H') (RDs X.K) m H (f τ st) Q → wA X es σ H Q
section
variable {X : Cx} {W : WX} {e a b c : Expr} {es rest : List Expr} {pos : Pos} {f fa fb fc : EM D} {fs : EM (List D)} {g : EM Bool}
theorem Ex.le {f' : EM D} (h : Ex X W e f) (hl : ∀ (m : List Addr) (τ : Sl) (st : Store) (H : Hp) (E : XK) (Q : VK), SS X.kw m st H → Pe X.kw E (RD X.K) m H (f' τ st) Q → Pe X.kw E (RD X.K) m H (f τ st) Q) : Ex X W e f' :=
  ⟨fun m τ st σ H Q hL hS hP => h.run m τ st σ H Q hL hS (hl m τ st H _ Q hS hP)⟩

/-! ### names, constants -/
def eVar (i : Nat) : EM D := fun τ st => match τ[i]? with
  | some (some d) => .ok d st
  | _ => .bad
theorem ex_var {i : Nat} {x : Str} (hN : X.N[i]? = some x) (hv : Vis X.env.scope x) (hd : (x == ("__debug__" : Str)) = false := by decide) (hcd : (x == ("__classdict__" : Str)) = false := by decide) : Ex X W (.Name x pos) (eVar i) := by
  refine ⟨fun m τ st σ H Q hL hS hP pins s I => ?_⟩
  refine (pe_var hN hv hd hcd).run pins s σ H Q I ?_
  unfold eVar at hP
  split at hP
  · rename_i d hd
    obtain ⟨v, h1, h2⟩ := hL.get i d hd
    exact ⟨v, h1, hP.now hS h2⟩
  · exact hP.elim
theorem xv (i : Nat) {x : Str} (hN : X.N[i]? = some x := by rfl) (hv : Vis X.env.scope x := by first | exact Or.inl rfl | exact Or.inr (Or.inl rfl) | exact Or.inr (Or.inr rfl)) (hd : (x == ("__debug__" : Str)) = false := by decide)
    (hcd : (x == ("__classdict__" : Str)) = false := by decide) : Ex X W (.Name x pos) (eVar i) := ex_var hN hv hd hcd
def eC (d : D) : EM D := fun _ st => .ok d st
theorem ex_c {t : TE} {d : D} {v : V} (h : PE X e t) (ht : ∀ σ H Q, Q v H → t σ H Q) (r : ∀ m H, RD X.K m H d v) : Ex X W e (eC d) :=
  ⟨fun m τ st σ H Q hL hS hP pins s I => h.run pins s σ H Q I (ht _ _ _ (hP.now hS (r m H)))⟩
theorem ex_int {i j} : Ex X W (.Constant (.int i) j pos) (eC (.int i)) := ex_c pe_int (fun _ _ _ h => h) fun _ _ => .int i
theorem ex_bl {i j} : Ex X W (.Constant (.bool i) j pos) (eC (.bl i)) := ex_c pe_bl (fun _ _ _ h => h) fun _ _ => .bl i
theorem ex_non {j} : Ex X W (.Constant .none j pos) (eC .non) := ex_c pe_non (fun _ _ _ h => h) fun _ _ => .non
theorem ex_str {x : Str} {j} : Ex X W (.Constant (.str x) j pos) (eC (.str x.cps.toList)) := ex_c pe_str (fun _ _ _ h => h) fun _ _ => by
  have e : x = ⟨x.cps.toList.toArray⟩ := by simp
  exact e ▸ .str x.cps.toList
theorem ex_strc {x : Str} {j} (l : List Nat) (h : x.cps.toList = l) : Ex X W (.Constant (.str x) j pos) (eC (.str l)) := by
  subst h
  exact ex_str
/-- a module's constant -/
theorem ex_glob {x : Str} {v : V} {u : Value} {d : D} (hg : Gl X x) (hm : X.mg x = some u) (r : RelV v u) (rd : ∀ m H, RD X.K m H d v) (hd : (x == ("__debug__" : Str)) = false := by decide) : Ex X W (.Name x pos) (eC d) :=
  ex_c (pe_glob hg hm r hd) (fun _ _ _ h => h) rd
theorem ex_bltn {x : Str} {v : V} {u : Value} {d : D} (hg : Gl X x) (hm : X.mg x = none) (hv : bootBuiltins x = some u) (r : RelV v u) (rd : ∀ m H, RD X.K m H d v) (hn : x ≠ "__name__" := by decide) (hd : (x == ("__debug__" : Str)) = false := by decide) : Ex X W (.Name x pos) (eC d) :=
  ex_c (pe_bltn hg hm hv r hn hd) (fun _ _ _ h => h) rd

/-! ### operators -/
abbrev O1 := D → Store → ER D
abbrev O2 := D → D → Store → ER D
/-- a rule by values -/
def OpM (X : Cx) (W : WX) (f : Value → Value → Sem Value) (g : O2) : Prop :=
  ∀ (m : List Addr) (st : Store) (σ : L2.St) (H : Hp) (dx dy : D) (x y : V) (Q : VK), SS X.kw m st H → RD X.K m H dx x → RD X.K m H dy y → Pe X.kw (fun c d H' => W c d σ H') (RD X.K) m H (g dx dy st) Q →
    ∀ (pins : List (Addr × Obj)) (s : Shared) (v u : Value), Inv X pins σ H s → RelV x v → RelV y u → wpAny (model X.prog X.w) X.A (f v u) (EP X pins σ Q) X.xe s
theorem OpM.opr {F : Value → Value → Sem Value} {g : O2} (h : OpM X W F g) : OpR X F (fun x y H Q => ∀ (pins : List (Addr × Obj)) (s : Shared) (σ : L2.St) (v u : Value), Inv X pins σ H s → RelV x v → RelV y u → wpAny (model X.prog X.w) X.A (F v u) (EP X pins σ Q) X.xe s) :=
  fun pins s σ H x y v u Q I rx ry z => z pins s σ v u I rx ry
def eBin (g : O2) (fa fb : EM D) : EM D := fun τ st => (fa τ st).bind fun x s1 => (fb τ s1).bind fun y s2 => g x y s2
def wR2 (X : Cx) (f : Value → Value → Sem Value) (σ : L2.St) : R2 := fun x y H Q => ∀ (pins : List (Addr × Obj)) (s : Shared) (v u : Value), Inv X pins σ H s → RelV x v → RelV y u → wpAny (model X.prog X.w) X.A (f v u) (EP X pins σ Q) X.xe s
/-- two expressions in a row -/
theorem two {g : D → D → Store → ER α} {α' : Type} {RA : List Addr → Hp → α → α' → Prop} {Q : α' → Hp → Prop} (ha : Ex X W a fa) (hb : Ex X W b fb) {m : List Addr} {τ : Sl} {st : Store} {σ : L2.St} {H : Hp} (hL : SL X.K m H τ σ) (hS : SS X.kw m st H)
    (hP : Pe X.kw (fun c d H' => W c d σ H') RA m H ((fa τ st).bind fun x s1 => (fb τ s1).bind fun y s2 => g x y s2) Q) {R : V → V → Hp → Prop}
    (hk : ∀ (m2 : List Addr) (st2 : Store) (H2 : Hp) (dx dy : D) (x y : V), Ext X.K m H m2 H2 → SS X.kw m2 st2 H2 → RD X.K m2 H2 dx x → RD X.K m2 H2 dy y → Pe X.kw (fun c d H' => W c d σ H') RA m2 H2 (g dx dy st2) Q → R x y H2) :
    wE X a σ H fun x H1 => wE X b σ H1 fun y H2 => R x y H2 :=
  ha.run m τ st σ H _ hL hS (hP.bind fun dx s1 m1 H1 x e1 hS1 r1 hP1 => hb.run m1 τ s1 σ H1 _ (hL.mono e1) hS1 (hP1.bind fun dy s2 m2 H2 y e2 hS2 r2 hP2 => hk m2 s2 H2 dx dy x y (e1.trans e2) hS2 (r1.mono e2) r2 hP2))
theorem ex_op {op : Operator} {g : O2} (ho : OpM X W (binaryOp op) g) (ha : Ex X W a fa) (hb : Ex X W b fb) : Ex X W (.BinOp a op b pos) (eBin g fa fb) := by
  refine ⟨fun m τ st σ H Q hL hS hP pins s I => ?_⟩
  refine wpAny_BinOp (binT peW peW I (R := fun x y H2 => wR2 X (binaryOp op) σ x y H2 Q) (two ha hb hL hS hP fun m2 st2 H2 dx dy x y e2 hS2 r1 r2 hP2 pins s v u I rx ry => ho m2 st2 σ H2 dx dy x y Q hS2 r1 r2 hP2 pins s v u I rx ry) fun v u s2 x y H2 I2 rx ry q => q pins s2 v u I2 rx ry)
end
end HM

/-! HM, part P: new tuples as frozen ones, that have no dict of their own. -/
namespace HM
open PySem PySem.Spec PyProof.Rows L2
/-- a new tuple -/
abbrev TNew (Q : VK) (H : Hp) (xs : List V) : Prop := ∀ (p : Addr) (o : Obj), o.dict = none → H p = none → Q (.ref p) (upd H p (.frz o (.tup xs)))
section
variable {X : Cx} {es : List Expr} {e : Expr} {t : TA} {pos : Pos}
def tTupF (t : TA) : TE := fun σ H Q => t σ H fun xs H1 => xs.length ≤ sizeLine ∧ TNew Q H1 xs
theorem pe_tupF {x1} (h : PA X es t) : PE X (.Tuple es x1 pos) (tTupF t) := by
  refine ⟨fun pins s σ H Q I hq => ?_⟩
  refine wpAny_Tuple_spliced (thn (h.run pos pins s σ H _ I hq) fun us s1 ⟨xs, H1, I1, r, z, q⟩ => ⟨by rw [← r.length]; exact z, ?_⟩)
  have hf : H1 s1.heap.objs.size = none := I1.hok.fresh (Nat.le_refl _)
  refine ⟨.ref s1.heap.objs.size, upd H1 s1.heap.objs.size (.frz { cls := .type "tuple", data := .seq us.toArray } (.tup xs)), I1.laid (t' := s1.toks) (fun b u e => Heap.get?_push_of_some _ e) (Nat.le_refl _) ?_, rfl, q _ _ rfl hf⟩
  exact ⟨Heap.get?_push_size _ rfl, z, us, r, ⟨_, Heap.get?_push_size _ rfl, rfl, _, rfl⟩⟩
theorem call_tuple_ofF : CallR X (.type "tuple") (fun xs H Q => ∃ p ys, xs = [.ref p] ∧ ((SqL X.K H p ys ∧ TNew Q H ys) ∨ (SqT X.K H p ys ∧ Q (.ref p) H))) := by
  intro pins s σ H xs us Q I r h
  obtain ⟨p, ys, rfl, h⟩ := h
  obtain ⟨u, rfl, rx⟩ := vals1 r
  cases rx
  rcases h with ⟨hq, q⟩ | ⟨hq, q⟩
  · obtain ⟨its, r', pl, hz⟩ := I.list hq
    have hlen := r'.length
    refine call_tuple_list pl.isList (fun h' kp => ?_) (by simp only [List.size_toArray] <;> omega)
    have I1 : Inv X pins σ H { s with heap := h' } := I.kept (t' := s.toks) kp
    have I2 : Inv X pins σ (upd H h'.objs.size (.frz { cls := .type "tuple", data := .seq its.toArray } (.tup ys))) { s with heap := h'.push { cls := .type "tuple", data := .seq its.toArray } } :=
      I1.laid (t' := s.toks) (fun b o e => Heap.get?_push_of_some _ e) (Nat.le_refl _) ⟨Heap.get?_push_size _ rfl, (show ObjOk X.prog X.w _ _ _ (.tup ys) from ⟨hz, its, r', IsTup.new _ _⟩)⟩
    exact ⟨.ref h'.objs.size, _, I2, rfl, q _ _ rfl (I1.hok.fresh (Nat.le_refl _))⟩
  · obtain ⟨its, r', pl, hz⟩ := I.tuple hq
    exact call_tuple_same pl ⟨.ref p, H, I, rfl, q⟩
def rCatF (K : PySem.W.Frag) : R2 := fun x y H Q => ∃ a b xs ys, x = .ref a ∧ y = .ref b ∧ SqT K H a xs ∧ SqT K H b ys ∧ xs.length + ys.length ≤ sizeLine ∧
  (xs = [] → Q (.ref b) H) ∧ (xs ≠ [] → ys = [] → Q (.ref a) H) ∧ (xs ≠ [] → ys ≠ [] → TNew Q H (xs ++ ys))
theorem op_catF : OpR X (binaryOp .Add) (rCatF X.K) := by
  intro pins s σ H x y v u Q I rx ry h
  obtain ⟨a, b, xs, ys, rfl, rfl, ha, hb, hz, q0, q1, q2⟩ := h
  cases rx
  cases ry
  obtain ⟨its, r1, p1, _⟩ := I.tuple ha
  obtain ⟨its2, r2, p2, _⟩ := I.tuple hb
  by_cases hx : xs = []
  · subst hx
    cases r1
    exact cat_tup0 p1 p2 ⟨.ref b, H, I, rfl, q0 rfl⟩
  · refine HT.cat_tup p1 p2 (fun z => hx (r1.nil_iff.mp z)) (fun z => ⟨.ref a, H, I, rfl, q1 hx (r2.nil_iff.mp z)⟩) (fun z => ?_) (by rw [← r1.length, ← r2.length]; exact hz)
    refine ⟨.ref s.heap.objs.size, _, I.laid (t' := s.toks) (o := .frz { cls := .type "tuple", data := .seq (its ++ its2).toArray } (.tup (xs ++ ys))) (fun b ob q => Heap.get?_push_of_some _ q) (Nat.le_refl _) ⟨Heap.get?_push_size _ rfl, ?_⟩, rfl, q2 hx (fun w => z (r2.nil_iff.mpr w)) _ _ rfl (I.hok.fresh (Nat.le_refl _))⟩
    exact ⟨by rw [List.length_append]; exact hz, _, r1.append r2, IsTup.new _ _⟩
def rSlF (K : PySem.W.Frag) : V → Option Int → Option Int → Hp → VK → Prop := fun x lo hi H Q => ∃ a xs, x = .ref a ∧ SqT K H a xs ∧
  ¬ (HT.sIx xs.length 0 lo = 0 ∧ HT.sIx xs.length xs.length hi = xs.length) ∧ TNew Q H (cutV xs lo hi)
theorem sl_tupF : SlR X (rSlF X.K) := by
  intro pins s σ H x v vl vu lo hi sl Q I rx hs pl pu h
  obtain ⟨a, xs, rfl, hx, hw, q⟩ := h
  cases rx
  obtain ⟨its, r, ht, hz⟩ := I.tuple hx
  have hlen : its.toArray.size = xs.length := by rw [List.size_toArray]; exact r.length.symm
  refine ⟨"tuple", _, PyProof.Rows.slot_tuple_getitem.lookup, ht.typeIs, ?_⟩
  refine HT.getItem_tuple_cut ht hs pl pu (by rw [hlen]; exact hw) ?_ (by rw [hlen]; exact hz)
  rw [hlen]
  refine ⟨.ref s.heap.objs.size, _, I.laid (t' := s.toks) (o := .frz _ (.tup (cutV xs lo hi))) (fun b ob q => Heap.get?_push_of_some _ q) (Nat.le_refl _) ⟨Heap.get?_push_size _ rfl, ?_⟩, rfl, q _ _ ?_ (I.hok.fresh (Nat.le_refl _))⟩
  · exact ⟨Nat.le_trans (cutV_length xs lo hi) hz, _, (r.drop (HT.sIx xs.length 0 lo)).take (HT.sIx xs.length xs.length hi - HT.sIx xs.length 0 lo), IsTup.new _ _⟩
  · rfl
def tTupRgF (te : L2.St → Hp → (Int → Int → Hp → Prop) → Prop) : TE := fun σ H Q => te σ H fun a b H1 => RgOk a b ∧ TNew Q H1 (rgV a b)
theorem pe_tupRgF {p pos : Pos} {te : L2.St → Hp → (Int → Int → Hp → Prop) → Prop} (hc : X.calm = true) (hg : Gl X "tuple") (hm : X.mg "tuple" = none) (he : PRg X e te) (na : starEach [e] X.env = (false, eval e X.env) :: starEach [] X.env := by rfl) : PE X (.Call (.Name "tuple" p) [e] [] pos) (tTupRgF te) := by
  refine ⟨fun pins s σ H Q I h => ?_⟩
  refine Call_ (ld_blt I hg hm boot_tuple (PyProof.Rows.callWith_type1 (args_cons (thn (he pins s σ H _ I h) fun x s1 ⟨r, a, b, t, u, v, H1, ex, hr, I1, ok, q⟩ => args_nil ?_) na) na))
  subst ex
  obtain ⟨b1, b2, b3, b4, b5⟩ := ok
  refine call_tuple_range (n := (b - a).toNat) (I1.ok.hd hc) hr (small_one b1 b2 b3 b4) (rangeSize_nat a b) b5 fun h' tk acc hk hi => ?_
  have I2 : Inv X pins σ H1 { s1 with heap := h', toks := tk } := I1.kept hk
  refine ⟨.ref h'.objs.size, upd H1 h'.objs.size (.frz { cls := .type "tuple", data := .seq acc } (.tup (rgV a b))), I2.laid (t' := tk) (fun c o e => Heap.get?_push_of_some _ e) (Nat.le_refl _) ⟨Heap.get?_push_size _ rfl, (show ObjOk X.prog X.w _ _ _ (.tup (rgV a b)) from ⟨?_, acc.toList, vals_rg hi, ?_⟩)⟩, rfl, q _ _ rfl (I2.hok.fresh (Nat.le_refl _))⟩
  · rw [rgV_length, sizeLine_eq]; omega
  · rw [Array.toArray_toList]; exact IsTup.new _ _
def rRepF (K : PySem.W.Frag) : R2 := fun x y H Q => ∃ l k xs, x = .ref l ∧ y = .int k ∧ SqT K H l xs ∧ xs ≠ [] ∧ 2 ≤ k ∧ k ≤ 1000 ∧ xs.length ≤ 1000 ∧ TNew Q H (List.replicate k.toNat xs).flatten
theorem op_repF : OpR X (binaryOp .Mult) (rRepF X.K) := by
  intro pins s σ H x y v u Q I rx ry h
  obtain ⟨l, k, xs, rfl, rfl, hT, hne, h1, h2, hz, q⟩ := h
  cases rx
  obtain ⟨t, rfl⟩ := ry
  obtain ⟨its, r, ⟨⟨cls, dd, data, sl⟩, ho, hc, n, hd⟩, hs⟩ := I.tuple hT
  simp only at hc hd
  subst hc hd
  have hle : its.length = xs.length := r.length.symm
  have hn : its ≠ [] := fun e => hne (by
    rw [e] at hle
    exact List.eq_nil_of_length_eq_zero hle.symm)
  have hi : its.toArray.isEmpty = false := by
    cases its with
    | nil => exact absurd rfl hn
    | cons a b => rfl
  have hsz0 : its.toArray.size = xs.length := by rw [List.size_toArray, hle]
  have hm : ((its.toArray.size : Nat) : Int) * k ≤ 1000000 := by
    rw [hsz0]
    have a1 : ((xs.length : Nat) : Int) * k ≤ 1000 * k := Int.mul_le_mul_of_nonneg_right (by omega) (by omega)
    omega
  have flen : (List.replicate k.toNat its).flatten.length ≤ sizeLine := by
    rw [PyProof.Rows.lm_len_rep_flat, hle, sizeLine_eq]
    have a1 : k.toNat * xs.length ≤ 1000 * 1000 := Nat.mul_le_mul (by omega) hz
    omega
  have c0 : (decide (k < -(2 ^ 63)) || decide (k ≥ 2 ^ 63)) = false := by
    rw [decide_eq_false (by omega), decide_eq_false (by omega)] <;> rfl
  have c1 : (its.toArray.isEmpty || k == 1) = false := by
    rw [hi, Bool.false_or]
    exact beq_eq_false_iff_ne.mpr (by omega)
  have c2 : (decide (k ≤ 0) || its.toArray.isEmpty) = false := by
    rw [hi, Bool.or_false]
    exact decide_eq_false (by omega)
  have c4 : Builtin.Tuple.tupleTooMany (((its.toArray.size : Nat) : Int) * k) = false := by
    unfold Builtin.Tuple.tupleTooMany
    rw [sizeLine_eq]
    exact decide_eq_false (by omega)
  refine wpAny_binaryOp_repeat_ref (T := "tuple") (U := "int") (by decide) ⟨_, ho, rfl⟩ (fun s' => typeIs_int s' k t) noFill_tuple_mul F.fills_int_mul F.slot_int_rmul repeat_tuple F.slot_int_index.lookup
    (call_meets F.slot_int_rmul (typeIs_int s k t) F.entry_int_rmul (F.args_int_rmul_2 _ _) (int_rmul_tuple k t l its.toArray n dd sl)
      ⟨ho, rfl, ⟨_, ho, rfl⟩, call_meets F.slot_tuple_mul ⟨_, ho, rfl⟩ F.entry_tuple_mul (F.args_tuple_mul_2 _ _) (tuple_mulW l its.toArray n dd sl k t c0 c1 c2 (by omega) c4 (by rw [size_rep, List.size_toArray]; exact flen)) ⟨ho, ?_⟩⟩)
  rw [size_rep]
  refine ⟨.ref s.heap.objs.size, _, I.laid (t' := s.toks) (o := .frz _ (.tup (List.replicate k.toNat xs).flatten)) (fun b ob q => Heap.get?_push_of_some _ q) (Nat.le_refl _) ⟨Heap.get?_push_size _ rfl, ?_⟩, rfl, q _ _ ?_ (I.hok.fresh (Nat.le_refl _))⟩
  · exact ⟨by rw [PyProof.Rows.lm_len_rep_flat, sizeLine_eq]; have a1 : k.toNat * xs.length ≤ 1000 * 1000 := Nat.mul_le_mul (by omega) hz; omega, _, r.rep k.toNat, IsTup.new _ _⟩
  · rfl
end
/-! ### methods of frozen tuples -/
/-- the value is of that builtin type -/
def tyP (K : PySem.W.Frag) (T : String) (x : V) (H : Hp) : Prop := tyV K T x H ∨ (T = "tuple" ∧ ∃ (p : Addr) (o : Obj) (vs : List V), x = .ref p ∧ H p = some (.frz o (.tup vs)) ∧ o.dict = none)
section
variable {X : Cx} {pins : List (Addr × Obj)} {σ : L2.St} {H : Hp} {s : Shared}
theorem tyP_is {T : String} {x : V} {v : Value} (I : Inv X pins σ H s) (r : RelV x v) (ty : tyP X.K T x H) : s.TypeIs v T ∧ ∀ a, v = .ref a → ∃ ob, s.heap.get? a = some ob ∧ ob.dict = none := by
  rcases ty with ty | ⟨rfl, p, o, vs, rfl, hp, hd⟩
  · exact tyV_is I r ty
  · cases r
    obtain ⟨e, z, its, rv, ob, e2, hc, n, hdd⟩ := I.hok p _ hp
    rw [e] at e2
    cases e2
    exact ⟨⟨o, e, hc⟩, fun a ea => by cases ea; exact ⟨o, e, hd⟩⟩
end
section
variable {X : Cx} {o e : Expr} {es : List Expr} {to : TE} {t : TA} {name : Str} {apos cpos : Pos} {T id : String} {r : V → List V → Hp → VK → Prop}
def tBM0P (K : PySem.W.Frag) (T : String) (r : V → List V → Hp → VK → Prop) (to : TE) : TE := fun σ H Q => to σ H fun x H1 => tyP K T x H1 ∧ r x [] H1 Q
def tBMP (K : PySem.W.Frag) (T : String) (r : V → List V → Hp → VK → Prop) (to : TE) (t : TA) : TE := fun σ H Q => to σ H fun x H1 => tyP K T x H1 ∧ t σ H1 fun xs H2 => r x xs H2 Q
theorem pe_bm0P (pa : PlainAttrs T) (slot : Slot T name id) (hty : typeOf (.builtin id) = pure (.type "method_descriptor")) (hm : MtR X id r) (ho : PE X o to)
    (hbase : attributeBase o name X.env (eval o X.env) = eval o X.env := by rfl) (hline : (apos.endLine == cpos.line) = true := by rfl) : PE X (.Call (.Attribute o name apos) [] [] cpos) (tBM0P X.K T r to) := by
  refine ⟨fun pins s σ H Q I h => ?_⟩
  refine wpAny_Call_method0_late hbase hline (thn (ho.run pins s σ H _ I h) fun v s1 ⟨x, H1, I1, r1, ty, q1⟩ => ?_)
  obtain ⟨h1, h2⟩ := tyP_is I1 r1 ty
  exact ⟨T, id, pa, slot, hty, h1, h2, Calls.callWith_builtin rfl (PySem.evalArgs_none (hm pins s1 σ H1 x [] v [] Q I1 r1 .nil q1))⟩
theorem pe_bmP (pa : PlainAttrs T) (slot : Slot T name id) (hty : typeOf (.builtin id) = pure (.type "method_descriptor")) (hm : MtR X id r) (ho : PE X o to) (ha : PA X (e :: es) t)
    (hbase : attributeBase o name X.env (eval o X.env) = eval o X.env := by rfl)
    (hfew : ((backTo cpos (starEach (e :: es) X.env)).all (fun x => !x.1) && (backToKw cpos (keywordEach [] X.env)).all (fun x => x.1.isSome)
      && decide ((e :: es).length + ([] : List Keyword).length + (if ([] : List Keyword).isEmpty then 0 else 1) < 30)) = true := by rfl)
    (hline : (apos.endLine == cpos.line) = true := by rfl) (hs : starEach (e :: es) X.env = (false, eval e X.env) :: starEach es X.env := by rfl) (hplain : (backTo cpos (starEach es X.env)).any (·.1) = false := by rfl) :
    PE X (.Call (.Attribute o name apos) (e :: es) [] cpos) (tBMP X.K T r to t) := by
  refine ⟨fun pins s σ H Q I h => ?_⟩
  refine wpAny_Call_method_late hbase hfew hline rfl (thn (ho.run pins s σ H _ I h) fun v s1 ⟨x, H1, I1, r1, ty, q1⟩ => ?_)
  obtain ⟨h1, h2⟩ := tyP_is I1 r1 ty
  refine ⟨T, id, pa, slot, hty, h1, h2, ?_⟩
  have hA := ha.run cpos pins s1 σ H1 _ I1 q1
  rw [hs] at hA ⊢
  refine Calls.callWith_builtin (by show (false || (backTo cpos (starEach es X.env)).any (·.1)) = false; rw [hplain] <;> rfl) (Calls.evalArgs_plain ?_)
  exact thn hA fun us s2 ⟨vs, H2, I2, r2, q2⟩ => hm pins s2 σ H2 x vs v us Q I2 r1 r2 q2
end
end HM

/-! HM, part 3: operators by values. -/
namespace HM
open PySem PySem.Spec PyProof.Rows L2
section
variable {X : Cx} {W : WX}
theorem opm_of {f : Value → Value → Sem Value} {r : R2} {g : O2} (hr : OpR X f r) (h : ∀ (m : List Addr) (st : Store) (H : Hp) (dx dy : D) (x y : V) (E : XK) (Q : VK), SS X.kw m st H → RD X.K m H dx x → RD X.K m H dy y → Pe X.kw E (RD X.K) m H (g dx dy st) Q → r x y H Q) : OpM X W f g :=
  fun m st σ H dx dy x y Q hS r1 r2 hP pins s v u I rx ry => hr pins s σ H x y v u Q I rx ry (h m st H dx dy x y _ Q hS r1 r2 hP)
end
section
variable {K : KW} {E : XK} {m : List Addr} {st : Store} {H : Hp} {Q : VK}
/-- a new tuple -/
theorem Pe.tup {ds : List D} {vs : List V} (h : Pe K E (RD K) m H (.ok (.tup ds) st) Q) (s : SS K m st H) (r : RDs K m H ds vs) : TNew Q H vs := fun p o ho hp =>
  h m _ _ (Ext.fresh hp) (s.fresh hp) (.tup (PlT.of ho) (r.mono (Ext.fresh hp)))
/-- a new list of the store's -/
theorem SS.app {c : Cell} {p : Addr} {o : HO} (s : SS K m st H) (hp : H p = none) (r : RC K (m ++ [p]) (upd H p o) p c) : SS K (m ++ [p]) (st ++ [c]) (upd H p o) :=
  (s.fresh hp).grow (s.notin hp) r
theorem Pe.lst {ds : List D} {vs : List V} (h : Pe K E (RD K) m H (.ok (.ref st.length) (st ++ [.lst ds])) Q) (s : SS K m st H) (r : RDs K m H ds vs) : ∀ p, H p = none → Q (.ref p) (upd H p (.lst vs)) := fun p hp => by
  refine h (m ++ [p]) _ _ (Ext.app hp) (s.app hp ⟨vs, upd_same, r.mono (Ext.app hp)⟩) (.ref ?_)
  rw [← s.len]
  simp
end
/-- the items of a list -/
def lstAt (st : Store) (n : Nat) : Option (List D) := match st[n]? with
  | some (.lst xs) => some xs
  | _ => none
@[simp] theorem lstAt_app {st : Store} {xs : List D} : lstAt (st ++ [.lst xs]) st.length = some xs := by simp [lstAt]
theorem lstAt_left {st more : Store} {n : Nat} (h : n < st.length) : lstAt (st ++ more) n = lstAt st n := by
  unfold lstAt
  rw [List.getElem?_append_left h]
theorem SS.list {K : KW} {m : List Addr} {st : Store} {H : Hp} {n : Nat} {xs : List D} {a : Addr} (s : SS K m st H) (h : lstAt st n = some xs) (e : m[n]? = some a) : ∃ vs, H a = some (.lst vs) ∧ RDs K m H xs vs := by
  unfold lstAt at h
  split at h
  · rename_i ys q
    cases h
    exact s.cel n _ a q e
  · cases h
theorem lstAt_lt {st : Store} {n : Nat} {xs : List D} (h : lstAt st n = some xs) : n < st.length := by
  unfold lstAt at h
  split at h
  · rename_i q
    exact (List.getElem?_eq_some_iff.mp q).1
  · cases h

/-! ### arithmetic -/
def oAdd : O2 := fun x y st => match x, y with
  | .int i, .int j => .ok (.int (i + j)) st
  | .str a, .str b => if a.length + b.length ≤ 16777216 then .ok (.str (a ++ b)) st else .bad
  | .tup a, .tup b => if a.length + b.length ≤ 16777216 then .ok (.tup (a ++ b)) st else .bad
  | .ref a, .ref b => match lstAt st a, lstAt st b with
    | some xs, some ys => if xs.length + ys.length ≤ 16777216 then .ok (.ref st.length) (st ++ [.lst (xs ++ ys)]) else .bad
    | _, _ => .bad
  | _, _ => .bad
def oInt (g : Int → Int → Int) : O2 := fun x y st => match x, y with
  | .int i, .int j => .ok (.int (g i j)) st
  | _, _ => .bad
def oIntC (C : Int → Int → Bool) (g : Int → Int → Int) : O2 := fun x y st => match x, y with
  | .int i, .int j => if C i j then .ok (.int (g i j)) st else .bad
  | _, _ => .bad
abbrev oSub : O2 := oInt fun i j => i - j
def oIAdd : O2 := fun x y st => match x, y with
  | .int i, .int j => .ok (.int (i + j)) st
  | .str a, .str b => if a.length + b.length ≤ 16777216 then .ok (.str (a ++ b)) st else .bad
  | _, _ => .bad
def okMul (i j : Int) : Bool := decide ((i.natAbs < 18446744073709551616 ∨ j.natAbs < 18446744073709551616) ∨ i.natAbs.log2 + j.natAbs.log2 < 1000000)
def okDiv (_ j : Int) : Bool := decide (j ≠ 0 ∧ j.natAbs.log2 < 9000)
def okMod (_ j : Int) : Bool := decide (j ≠ 0)
def okPow (i j : Int) : Bool := decide (0 ≤ j ∧ j ≤ 1000000 ∧ i.natAbs < 18446744073709551616)
def okShr (_ j : Int) : Bool := decide (0 ≤ j)
abbrev oMulI : O2 := oIntC okMul fun i j => i * j
abbrev oDiv : O2 := oIntC okDiv fun i j => i.fdiv j
abbrev oMod : O2 := oIntC okMod fun i j => i.fmod j
abbrev oPow : O2 := oIntC okPow fun i j => i ^ j.toNat
abbrev oShl : O2 := oIntC okPow fun i j => i * 2 ^ j.toNat
abbrev oShr : O2 := oIntC okShr fun i j => i / 2 ^ j.toNat
abbrev oAnd : O2 := oInt Builtin.bitAnd
section
variable {X : Cx} {W : WX}
theorem line_of {n : Nat} (h : n ≤ 16777216) : n ≤ sizeLine := by
  rw [PySem.sizeLine_eq]
  exact h
theorem op_add_all : OpR X (binaryOp .Add) (fun x y H Q => (rI0 (fun i j => .int (i + j)) x y H Q ∨ (∃ i j, x = .str i ∧ y = .str j ∧ i.length + j.length ≤ sizeLine ∧ Q (.str (i ++ j)) H)) ∨ (rCatF X.K x y H Q ∨ rCat x y H Q)) :=
  (op_add.or op_add_str).or (op_catF.or op_cat)
theorem m_add : OpM X W (binaryOp .Add) oAdd := opm_of op_add_all fun m st H dx dy x y E Q hS r1 r2 hP => by
  unfold oAdd at hP
  split at hP
  · cases r1
    cases r2
    exact .inl (.inl ⟨_, _, rfl, rfl, hP.now hS (.int _)⟩)
  · split at hP
    · rename_i hl
      cases r1
      cases r2
      refine .inl (.inr ⟨_, _, rfl, rfl, line_of hl, ?_⟩)
      have q := hP.now hS (.str _)
      have e : ∀ a b : List Nat, (⟨(a ++ b).toArray⟩ : PySem.Str) = (⟨a.toArray⟩ : PySem.Str) ++ (⟨b.toArray⟩ : PySem.Str) := fun a b => by
        show (⟨(a ++ b).toArray⟩ : PySem.Str) = ⟨a.toArray ++ b.toArray⟩
        simp
      rw [e] at q
      exact q
    · exact hP.elim
  · split at hP
    · rename_i a b hl
      cases r1 with
      | tup s1 h1 =>
        rename_i va
        cases r2 with
        | tup s2 h2 =>
          rename_i vb
          refine .inr (.inl ⟨_, _, _, _, rfl, rfl, s1.sq, s2.sq, line_of (by rw [← h1.len, ← h2.len]; exact hl), fun e => ?_, fun _ e => ?_, fun _ _ => ?_⟩)
          · subst e
            cases h1
            exact hP.now hS (.tup s2 h2)
          · subst e
            cases h2
            rw [List.append_nil] at hP
            exact hP.now hS (.tup s1 h1)
          · exact hP.tup hS (h1.append h2)
    · exact hP.elim
  · rename_i a b
    split at hP
    · rename_i xs ys ex ey
      split at hP
      · rename_i hl
        cases r1 with
        | ref e1 =>
          cases r2 with
          | ref e2 =>
            obtain ⟨va, ha, ra⟩ := hS.list ex e1
            obtain ⟨vb, hb, rb⟩ := hS.list ey e2
            exact .inr (.inr ⟨_, _, va, vb, rfl, rfl, ha, hb, line_of (by rw [← ra.len, ← rb.len]; exact hl), hP.lst hS (ra.append rb)⟩)
      · exact hP.elim
    · exact hP.elim
  · exact hP.elim
theorem m_int {f : Value → Value → Sem Value} {g : Int → Int → Int} (h : OpR X f (rI0 fun i j => .int (g i j))) : OpM X W f (oInt g) := opm_of h fun m st H dx dy x y E Q hS r1 r2 hP => by
  unfold oInt at hP
  split at hP
  · cases r1
    cases r2
    exact ⟨_, _, rfl, rfl, hP.now hS (.int _)⟩
  · exact hP.elim
theorem m_intC {f : Value → Value → Sem Value} {C : Int → Int → Bool} {C' : Int → Int → Prop} {g : Int → Int → Int} (h : OpR X f (rI C' fun i j => .int (g i j))) (hC : ∀ i j, C i j = true → C' i j) : OpM X W f (oIntC C g) := opm_of h fun m st H dx dy x y E Q hS r1 r2 hP => by
  unfold oIntC at hP
  split at hP
  · split at hP
    · rename_i hc
      cases r1
      cases r2
      exact ⟨_, _, rfl, rfl, hC _ _ hc, hP.now hS (.int _)⟩
    · exact hP.elim
  · exact hP.elim
theorem m_sub : OpM X W (binaryOp .Sub) oSub := m_int op_sub
theorem op_mulAny : OpR X (binaryOp .Mult) (rI IntMulOk fun i j => .int (i * j)) := opI fun _ _ _ _ _ _ _ hc q => mul_int q hc
theorem m_mulI : OpM X W (binaryOp .Mult) oMulI := m_intC op_mulAny fun i j h => by
  have q : (i.natAbs < 18446744073709551616 ∨ j.natAbs < 18446744073709551616) ∨ i.natAbs.log2 + j.natAbs.log2 < 1000000 := of_decide_eq_true h
  rcases q with (q | q) | q
  · exact CMul.ok (.inl (by omega))
  · exact CMul.ok (.inr (by omega))
  · exact CMulW.ok q
theorem op_fdivAny : OpR X (binaryOp .FloorDiv) (rI (fun _ j => j ≠ 0 ∧ j.natAbs.log2 < 9000) fun i j => .int (i.fdiv j)) := opI fun _ _ _ _ _ _ _ hc q => floordiv_int hc.1 q (.inl (PyProof.noPylong_of_log2 hc.2))
theorem m_div : OpM X W (binaryOp .FloorDiv) oDiv := m_intC op_fdivAny fun i j h => of_decide_eq_true h
theorem m_mod : OpM X W (binaryOp .Mod) oMod := m_intC op_modN fun i j h => of_decide_eq_true h
theorem ok_pow {i j : Int} (h : okPow i j = true) : CPow i j := by
  have q : 0 ≤ j ∧ j ≤ 1000000 ∧ i.natAbs < 18446744073709551616 := of_decide_eq_true h
  exact q
theorem m_pow : OpM X W (binaryOp .Pow) oPow := m_intC op_pow fun i j h => ok_pow h
theorem m_shl : OpM X W (binaryOp .LShift) oShl := m_intC op_shl fun i j h => ok_pow h
theorem m_shr : OpM X W (binaryOp .RShift) oShr := m_intC op_shr fun i j h => of_decide_eq_true h
theorem m_and : OpM X W (binaryOp .BitAnd) oAnd := m_int op_and
/-- in place -/
theorem mi_add : OpM X W (inplaceOp .Add) oIAdd := opm_of (iop_add.or iop_add_str) fun m st H dx dy x y E Q hS r1 r2 hP => by
  unfold oIAdd at hP
  split at hP
  · cases r1
    cases r2
    exact .inl ⟨_, _, rfl, rfl, hP.now hS (.int _)⟩
  · split at hP
    · rename_i hl
      cases r1
      cases r2
      refine .inr ⟨_, _, rfl, rfl, line_of hl, ?_⟩
      have q := hP.now hS (.str _)
      have e : ∀ a b : List Nat, (⟨(a ++ b).toArray⟩ : PySem.Str) = (⟨a.toArray⟩ : PySem.Str) ++ (⟨b.toArray⟩ : PySem.Str) := fun a b => by
        show (⟨(a ++ b).toArray⟩ : PySem.Str) = ⟨a.toArray ++ b.toArray⟩
        simp
      rw [e] at q
      exact q
    · exact hP.elim
  · exact hP.elim
theorem mi_sub : OpM X W (inplaceOp .Sub) oSub := m_int iop_sub
end

/-! ### == by what is data -/
def D.toP : Nat → D → PyData
  | _, .int i => .int i
  | _, .str x => .str ⟨x.toArray⟩
  | n + 1, .tup xs => .tuple (xs.map (D.toP n))
  | _, .bl b => .bool b
  | _, _ => .none
theorem plain_all {K : PySem.W.Frag} {m : List Addr} {H : Hp} {n : Nat} (ih : ∀ (d : D) (v : V), d.plain n = true → RD K m H d v → Dp K H v (d.toP n) ∧ (d.toP n).canLay0 = true ∧ (d.toP n).depth ≤ n) : ∀ (ds : List D) (vs : List V), ds.all (D.plain n) = true → RDs K m H ds vs →
    DpAll K H vs (ds.map (D.toP n)) ∧ PyData.canLayAll0 (ds.map (D.toP n)) = true ∧ PyData.depthAll (ds.map (D.toP n)) ≤ n
  | [], _, _, r => by
    cases r
    exact ⟨.nil, by simp [PyData.canLayAll0], by simp [PyData.depthAll]⟩
  | d :: ds, _, h, r => by
    cases r with
    | cons r1 r2 =>
      rw [List.all_cons, Bool.and_eq_true] at h
      obtain ⟨a1, a2, a3⟩ := ih d _ h.1 r1
      obtain ⟨b1, b2, b3⟩ := plain_all ih ds _ h.2 r2
      refine ⟨.cons a1 b1, ?_, ?_⟩
      · simp only [List.map_cons, PyData.canLayAll0, a2, b2, Bool.and_self]
      · simp only [List.map_cons, PyData.depthAll]
        omega
theorem str_ok {x : List Nat} {n : Nat} (h : (x.all fun c => decide (c < 1114112)) = true) : ((D.str x).toP n).canLay0 = true := by
  have e : (D.str x).toP n = .str ⟨x.toArray⟩ := by cases n <;> rfl
  rw [e]
  simp only [PyData.canLay0, PyData.strOk]
  simpa using h
theorem plain_dp {K : PySem.W.Frag} {m : List Addr} {H : Hp} : ∀ (n : Nat) (d : D) (v : V), d.plain n = true → RD K m H d v → Dp K H v (d.toP n) ∧ (d.toP n).canLay0 = true ∧ (d.toP n).depth ≤ n := by
  intro n
  induction n with
  | zero =>
    intro d v h r
    cases r <;> simp [D.plain] at h
    · exact ⟨.non, by simp [D.toP, PyData.canLay0], by simp [D.toP, PyData.depth]⟩
    · exact ⟨.int _, by simp [D.toP, PyData.canLay0], by simp [D.toP, PyData.depth]⟩
    · exact ⟨.str _, str_ok (by simpa using h), by simp [D.toP, PyData.depth]⟩
  | succ n ih =>
    intro d v h r
    cases r with
    | non => exact ⟨.non, by simp [D.toP, PyData.canLay0], by simp [D.toP, PyData.depth]⟩
    | int i => exact ⟨.int _, by simp [D.toP, PyData.canLay0], by simp [D.toP, PyData.depth]⟩
    | str x => exact ⟨.str _, str_ok h, by simp [D.toP, PyData.depth]⟩
    | tup s rs =>
      rename_i a vs ds
      obtain ⟨b1, b2, b3⟩ := plain_all ih ds vs h rs
      refine ⟨.tup s.sq b1, by simpa only [D.toP, PyData.canLay0] using b2, ?_⟩
      simp only [D.toP, PyData.depth]
      omega
    | _ => simp [D.plain] at h
theorem eqvAll_map {n : Nat} (ih : ∀ x y : D, x.plain n = true → y.plain n = true → PyData.eqv (x.toP n) (y.toP n) = decide (x = y)) : ∀ xs ys : List D, xs.all (D.plain n) = true → ys.all (D.plain n) = true → PyData.eqvAll (xs.map (D.toP n)) (ys.map (D.toP n)) = decide (xs = ys)
  | [], [], _, _ => by simp [PyData.eqvAll]
  | [], _ :: _, _, _ => by simp [PyData.eqvAll]
  | _ :: _, [], _, _ => by simp [PyData.eqvAll]
  | x :: xs, y :: ys, h1, h2 => by
    rw [List.all_cons, Bool.and_eq_true] at h1 h2
    simp only [List.map_cons, PyData.eqvAll, ih x y h1.1 h2.1, eqvAll_map ih xs ys h1.2 h2.2, List.cons.injEq, Bool.decide_and]
theorem eqv_plain : ∀ (n : Nat) (x y : D), x.plain n = true → y.plain n = true → PyData.eqv (x.toP n) (y.toP n) = decide (x = y) := by
  intro n
  induction n with
  | zero =>
    intro x y h1 h2
    cases x <;> simp [D.plain] at h1 <;> cases y <;> simp [D.plain] at h2 <;> simp [D.toP, PyData.eqv]
    all_goals first | rfl | (rw [Bool.eq_iff_iff]; simp)
  | succ n ih =>
    intro x y h1 h2
    cases x <;> simp only [D.plain, Bool.false_eq_true] at h1 <;> cases y <;> simp only [D.plain, Bool.false_eq_true] at h2 <;> first
      | (simp only [D.toP, PyData.eqv, D.tup.injEq]; exact eqvAll_map ih _ _ h1 h2)
      | (simp only [D.toP, PyData.eqv]; first | rfl | (rw [Bool.eq_iff_iff]; simp))
/-- a value as data that == compares: one by itself, or a list -/
def D.pd (st : Store) (d : D) : Option (D ⊕ List D) := match d with
  | .ref n => match lstAt st n with
    | some xs => if xs.all (D.plain 59) then some (.inr xs) else none
    | none => none
  | .rol xs => if xs.all (D.plain 59) then some (.inr xs) else none
  | d => if d.plain 60 then some (.inl d) else none
def pdP : D ⊕ List D → PyData
  | .inl d => d.toP 60
  | .inr xs => .list (xs.map (D.toP 59))
theorem pd_dp {K : KW} {m : List Addr} {st : Store} {H : Hp} {d : D} {v : V} {p : D ⊕ List D} (s : SS K m st H) (h : d.pd st = some p) (r : RD K m H d v) : Dp K H v (pdP p) ∧ SeqAt.shaped (pdP p) = true := by
  have fin : ∀ {q : PyData}, q.canLay0 = true → q.depth ≤ 60 → SeqAt.shaped q = true := fun {q} h1 h2 => by
    unfold SeqAt.shaped
    rw [h1, Bool.true_and, decide_eq_true_eq]
    omega
  have one : ∀ {d : D}, RD K m H d v → d.plain 60 = true → Dp K H v (d.toP 60) ∧ SeqAt.shaped (d.toP 60) = true := fun {d} r h => by
    obtain ⟨a, b, c⟩ := plain_dp 60 d v h r
    exact ⟨a, fin b c⟩
  have lst : ∀ {xs : List D} {vs : List V} {a : Addr}, SqL K H a vs → RDs K m H xs vs → xs.all (D.plain 59) = true → Dp K H (.ref a) (.list (xs.map (D.toP 59))) ∧ SeqAt.shaped (.list (xs.map (D.toP 59))) = true := fun {xs vs a} hl rs h => by
    obtain ⟨a, b, c⟩ := plain_all (plain_dp 59) xs vs h rs
    refine ⟨.lst hl a, fin (by simpa only [PyData.canLay0] using b) ?_⟩
    simp only [PyData.depth]
    omega
  unfold D.pd at h
  split at h
  · split at h
    · split at h
      · rename_i n _ xs e ha
        cases h
        cases r with
        | ref q =>
          obtain ⟨vs, h1, h2⟩ := s.list e q
          exact lst (SqL.of h1) h2 ha
      · cases h
    · cases h
  · split at h
    · rename_i ha
      cases h
      cases r with
      | rol q rs => exact lst q.sq rs ha
    · cases h
  · split at h
    · rename_i ha
      cases h
      exact one r ha
    · cases h
theorem pd_ok {st : Store} {d : D} {p : D ⊕ List D} (h : d.pd st = some p) : (∃ e : D, p = .inl e ∧ e.plain 60 = true) ∨ ∃ xs : List D, p = .inr xs ∧ xs.all (D.plain 59) = true := by
  unfold D.pd at h
  split at h
  · split at h
    · split at h
      · cases h
        exact .inr ⟨_, rfl, by assumption⟩
      · cases h
    · cases h
  · split at h
    · cases h
      exact .inr ⟨_, rfl, by assumption⟩
    · cases h
  · split at h
    · cases h
      exact .inl ⟨_, rfl, by assumption⟩
    · cases h
theorem pd_eqv {st st' : Store} {d e : D} {p q : D ⊕ List D} (h : d.pd st = some p) (h' : e.pd st' = some q) : PyData.eqv (pdP p) (pdP q) = decide (p = q) := by
  rcases pd_ok h with ⟨x, rfl, hx⟩ | ⟨xs, rfl, hx⟩
  · rcases pd_ok h' with ⟨y, rfl, hy⟩ | ⟨ys, rfl, hy⟩
    · show PyData.eqv (x.toP 60) (y.toP 60) = _
      rw [eqv_plain 60 x y hx hy]
      simp
    · show PyData.eqv (x.toP 60) _ = _
      cases x <;> simp [D.plain] at hx <;> simp [D.toP, pdP, PyData.eqv]
  · rcases pd_ok h' with ⟨y, rfl, hy⟩ | ⟨ys, rfl, hy⟩
    · show PyData.eqv _ (y.toP 60) = _
      cases y <;> simp [D.plain] at hy <;> simp [D.toP, pdP, PyData.eqv]
    · show PyData.eqvAll (xs.map (D.toP 59)) (ys.map (D.toP 59)) = _
      rw [eqvAll_map (eqv_plain 59) xs ys hx hy]
      simp
def dEq (x y : D) (st : Store) : Option Bool := match x, y with
  | .str a, .str b => some (decide (a = b))
  | .bl a, .bl b => some (decide (a = b))
  | .int a, .int b => some (decide (a = b))
  | .bl a, .int b => some (decide ((if a then 1 else 0) = b))
  | .int a, .bl b => some (decide (a = (if b then 1 else 0)))
  | x, y => match x.pd st, y.pd st with
    | some p, some q => some (decide (p = q))
    | _, _ => none
def oEq : O2 := fun x y st => match dEq x y st with
  | some b => .ok (.bl b) st
  | none => .bad
def oNe : O2 := fun x y st => match dEq x y st with
  | some b => .ok (.bl !b) st
  | none => .bad
section
variable {X : Cx} {W : WX}
theorem m_eqB {op : CmpOp} {neg : Bool → Bool} {r1 r2 : R2} (h1 : OpR X (compareOp op) r1) (h2 : OpR X (compareOp op) r2) (s1 : ∀ x y H Q, scal x y = true → Q (.bl (neg (decide (x = y)))) H → r1 x y H Q)
    (s2 : ∀ x y H Q d e, Dp X.K H x d → Dp X.K H y e → SeqAt.shaped d = true → SeqAt.shaped e = true → Q (.bl (neg (PyData.eqv d e))) H → r2 x y H Q) : OpM X W (compareOp op) (fun x y st => match dEq x y st with
    | some b => .ok (.bl (neg b)) st
    | none => .bad) := opm_of (h1.or h2) fun m st H dx dy x y E Q hS ra rb hP => by
  split at hP
  · rename_i b hb
    have q := hP.now hS (.bl _)
    unfold dEq at hb
    split at hb
    · cases ra
      cases rb
      cases hb
      refine .inl (s1 _ _ _ _ rfl ?_)
      simpa using q
    · cases ra
      cases rb
      cases hb
      refine .inl (s1 _ _ _ _ rfl ?_)
      simpa using q
    · cases ra
      cases rb
      cases hb
      refine .inl (s1 _ _ _ _ rfl ?_)
      simpa using q
    · cases ra
      cases rb
      cases hb
      refine .inr (s2 _ _ _ _ _ _ (.bl _) (.int _) rfl rfl ?_)
      simpa [PyData.eqv, Bool.beq_eq_decide_eq] using q
    · cases ra
      cases rb
      cases hb
      refine .inr (s2 _ _ _ _ _ _ (.int _) (.bl _) rfl rfl ?_)
      simpa [PyData.eqv, Bool.beq_eq_decide_eq] using q
    · split at hb
      · rename_i p q' e1 e2
        cases hb
        obtain ⟨a1, a2⟩ := pd_dp hS e1 ra
        obtain ⟨b1, b2⟩ := pd_dp hS e2 rb
        refine .inr (s2 _ _ _ _ _ _ a1 b1 a2 b2 ?_)
        rw [pd_eqv e1 e2]
        exact q
      · cases hb
  · exact hP.elim
theorem m_eq (hu : X.A.units + 64 < cLine) : OpM X W (compareOp .Eq) oEq := m_eqB (neg := id) op_eq (op_eqD hu) (fun x y H Q h q => ⟨h, q⟩) fun x y H Q d e h1 h2 h3 h4 q => ⟨d, e, h1, h2, h3, h4, q⟩
theorem m_ne (hu : X.A.units + 64 < cLine) : OpM X W (compareOp .NotEq) oNe := m_eqB (neg := Bool.not) op_ne (op_neD hu) (fun x y H Q h q => ⟨h, q⟩) fun x y H Q d e h1 h2 h3 h4 q => ⟨d, e, h1, h2, h3, h4, q⟩
/-! ### order of ints, is -/
def oCmp (g : Int → Int → Bool) : O2 := fun x y st => match x, y with
  | .int i, .int j => .ok (.bl (g i j)) st
  | _, _ => .bad
theorem m_cmp {f : Value → Value → Sem Value} {g : Int → Int → Bool} (h : OpR X f (rI0 fun i j => .bl (g i j))) : OpM X W f (oCmp g) := opm_of h fun m st H dx dy x y E Q hS r1 r2 hP => by
  unfold oCmp at hP
  split at hP
  · cases r1
    cases r2
    exact ⟨_, _, rfl, rfl, hP.now hS (.bl _)⟩
  · exact hP.elim
abbrev oLtI : O2 := oCmp fun i j => decide (i < j)
abbrev oLe : O2 := oCmp fun i j => decide (i ≤ j)
abbrev oGt : O2 := oCmp fun i j => decide (j < i)
abbrev oGe : O2 := oCmp fun i j => decide (j ≤ i)
theorem m_ltI : OpM X W (compareOp .Lt) oLtI := m_cmp op_lt
theorem m_le : OpM X W (compareOp .LtE) oLe := m_cmp op_le
theorem m_gt : OpM X W (compareOp .Gt) oGt := m_cmp op_gt
theorem m_ge : OpM X W (compareOp .GtE) oGe := m_cmp op_ge
def dIs (x y : D) : Option Bool := match x, y with
  | .non, .non => some true
  | .bl _, .non | .int _, .non | .str _, .non | .tup _, .non | .ref _, .non | .rol _, .non => some false
  | .bl a, .bl b => some (decide (a = b))
  | _, _ => none
def oIs : O2 := fun x y st => match dIs x y with
  | some b => .ok (.bl b) st
  | none => .bad
def oIsNot : O2 := fun x y st => match dIs x y with
  | some b => .ok (.bl !b) st
  | none => .bad
theorem m_isB {op : CmpOp} {neg : Bool → Bool} {r1 r2 : R2} (h1 : OpR X (compareOp op) r1) (h2 : OpR X (compareOp op) r2) (s1 : ∀ x H (Q : VK), Q (.bl (neg (decide (x = .non)))) H → r1 x .non H Q)
    (s2 : ∀ a b H (Q : VK), Q (.bl (neg (decide (a = b)))) H → r2 (.bl a) (.bl b) H Q) : OpM X W (compareOp op) (fun x y st => match dIs x y with
    | some b => .ok (.bl (neg b)) st
    | none => .bad) := opm_of (h1.or h2) fun m st H dx dy x y E Q hS ra rb hP => by
  split at hP
  · rename_i b hb
    have q := hP.now hS (.bl _)
    unfold dIs at hb
    split at hb <;> cases hb <;> cases ra <;> cases rb <;> first | exact .inl (s1 _ _ _ q) | exact .inr (s2 _ _ _ _ q)
  · exact hP.elim
theorem m_is : OpM X W (compareOp .Is) oIs := m_isB (neg := id) op_isN op_is_bl (fun x H Q q => ⟨rfl, q⟩) fun a b H Q q => ⟨_, _, rfl, rfl, q⟩
theorem m_isnot : OpM X W (compareOp .IsNot) oIsNot := m_isB (neg := Bool.not) op_notN op_isnot_bl (fun x H Q q => ⟨rfl, q⟩) fun a b H Q q => ⟨_, _, rfl, rfl, q⟩
end
end HM

/-! HM, part 4: expressions. -/
namespace HM
open PySem PySem.Spec PyProof.Rows L2
section
variable {X : Cx} {W : WX} {e a b c : Expr} {es rest : List Expr} {pos : Pos} {f fa fb fc : EM D} {fs : EM (List D)} {g ga gb : EM Bool}

/-! ### unary, comparisons -/
def eUn (o : O1) (fa : EM D) : EM D := fun τ st => (fa τ st).bind o
def UnM (X : Cx) (W : WX) (F : Value → Sem Value) (g : O1) : Prop :=
  ∀ (m : List Addr) (st : Store) (σ : L2.St) (H : Hp) (dx : D) (x : V) (Q : VK), SS X.kw m st H → RD X.K m H dx x → Pe X.kw (fun c d H' => W c d σ H') (RD X.K) m H (g dx st) Q →
    ∀ (pins : List (Addr × Obj)) (s : Shared) (v : Value), Inv X pins σ H s → RelV x v → wpAny (model X.prog X.w) X.A (F v) (EP X pins σ Q) X.xe s
theorem ex_un {op : UnaryOp} {o : O1} (ho : UnM X W (unaryOp op) o) (ha : Ex X W a fa) : Ex X W (.UnaryOp op a pos) (eUn o fa) := by
  refine ⟨fun m τ st σ H Q hL hS hP pins s I => ?_⟩
  refine UnaryOp_ (thn (ha.run m τ st σ H (fun x H1 => ∀ (pins : List (Addr × Obj)) (s : Shared) (v : Value), Inv X pins σ H1 s → RelV x v → wpAny (model X.prog X.w) X.A (unaryOp op v) (EP X pins σ Q) X.xe s) hL hS (hP.bind fun dx s1 m1 H1 x e1 hS1 r1 hP1 pins s v I rx => ho m1 s1 σ H1 dx x Q hS1 r1 hP1 pins s v I rx) pins s I) fun v s1 ⟨x, H1, I1, r1, q1⟩ => q1 pins s1 v I1 r1)
def oNeg : O1 := fun x st => match x with
  | .int i => .ok (.int (-i)) st
  | _ => .bad
theorem m_neg : UnM X W (unaryOp .USub) oNeg := fun m st σ H dx x Q hS r hP pins s v I rx => by
  unfold oNeg at hP
  split at hP
  · cases r
    exact un_neg pins s σ H _ v Q I rx ⟨_, rfl, hP.now hS (.int _)⟩
  · exact hP.elim
theorem ex_cmp {op : CmpOp} {o : O2} (ho : OpM X W (compareOp op) o) (ha : Ex X W a fa) (hb : Ex X W b fb) (hm : behindInMarks op b = false) : Ex X W (.Compare a [op] [b] pos) (eBin o fa fb) := by
  refine ⟨fun m τ st σ H Q hL hS hP pins s I => ?_⟩
  exact wpAny_Compare1 (binT peW peW I (R := fun x y H2 => wR2 X (compareOp op) σ x y H2 Q) (two ha hb hL hS hP fun m2 st2 H2 dx dy x y e2 hS2 r1 r2 hP2 pins s v u I rx ry => ho m2 st2 σ H2 dx dy x y Q hS2 r1 r2 hP2 pins s v u I rx ry) fun v u s2 x y H2 I2 rx ry q => q pins s2 v u I2 rx ry) hm
/-- a bool as a test -/
def dBl (x : D) (st : Store) : ER Bool := match x with
  | .bl b => .ok b st
  | _ => .bad
def tBl (fa : EM D) : EM Bool := fun τ st => (fa τ st).bind dBl
theorem bl_post {K : KW} {E : XK} {m : List Addr} {H : Hp} {dx : D} {s1 : Store} {x : V} {Q : Bool → Hp → Prop} (hS : SS K m s1 H) (r : RD K m H dx x) (hP : Pe K E RB m H (dBl dx s1) Q) : ∃ k, x = .bl k ∧ Q k H := by
  unfold dBl at hP
  split at hP
  · cases r
    exact ⟨_, rfl, hP.now hS rfl⟩
  · exact hP.elim
theorem et_cmp {op : CmpOp} {o : O2} (ho : OpM X W (compareOp op) o) (ha : Ex X W a fa) (hb : Ex X W b fb) (hm : behindInMarks op b = false) : Et X W (.Compare a [op] [b] pos) (tBl (eBin o fa fb)) := by
  refine ⟨fun m τ st σ H Q hL hS hP pins s I => ?_⟩
  have q : wE X (.Compare a [op] [b] pos) σ H fun x H1 => ∃ k, x = .bl k ∧ Q k H1 := (ex_cmp ho ha hb hm).run m τ st σ H _ hL hS (hP.bind fun dx s1 m1 H1 x e1 hS1 r1 hP1 => bl_post hS1 r1 hP1)
  refine wpAny_isTrue_Compare1 (binT peW peW I (R := fun x y H2 => wR2 X (compareOp op) σ x y H2 fun x H1 => ∃ k, x = .bl k ∧ Q k H1) ?_ fun v u s2 x y H2 I2 rx ry q => thn (q pins s2 v u I2 rx ry) fun c s3 ⟨x, H1, I1, r1, q1⟩ => ?_) hm
  · have hP' : Pe X.kw (fun c d H' => W c d σ H') (RD X.K) m H (eBin o fa fb τ st) fun x H1 => ∃ k, x = .bl k ∧ Q k H1 := hP.bind fun dx s1 m1 H1 x e1 hS1 r1 hP1 => bl_post hS1 r1 hP1
    exact two ha hb hL hS hP' fun m2 st2 H2 dx dy x y e2 hS2 r1 r2 hP2 pins s v u I rx ry => ho m2 st2 σ H2 dx dy x y _ hS2 r1 r2 hP2 pins s v u I rx ry
  · obtain ⟨k, rfl, q1⟩ := q1
    cases r1
    exact wpAny_truthy_bool ⟨H1, I1, q1⟩
/-- a chain of two comparisons -/
def eChain (o o' : O2) (fa fb fc : EM D) : EM D := fun τ st => (fa τ st).bind fun x s1 => (fb τ s1).bind fun y s2 => (o x y s2).bind fun z s3 => match z with
  | .bl true => (fc τ s3).bind fun w s4 => o' y w s4
  | .bl false => .ok (.bl false) s3
  | _ => .bad
theorem chain_read {op op' : CmpOp} {o o' : O2} (ho : OpM X W (compareOp op) o) (ho' : OpM X W (compareOp op') o') (ha : Ex X W a fa) (hb : Ex X W b fb) (hc : Ex X W c fc) {m : List Addr} {τ : Sl} {st : Store} {σ : L2.St} {H : Hp} {Q : VK} (hL : SL X.K m H τ σ) (hS : SS X.kw m st H)
    (hP : Pe X.kw (fun c d H' => W c d σ H') (RD X.K) m H (eChain o o' fa fb fc τ st) Q) : tChain (fun x y H Q => wR2 X (compareOp op) σ x y H Q) (fun x y H Q => wR2 X (compareOp op') σ x y H Q) (wE X a) (wE X b) (wE X c) σ H Q := by
  refine two ha hb hL hS hP fun m2 st2 H2 dx dy x y e2 hS2 r1 r2 hP2 pins s v u I rx ry => ?_
  refine ho m2 st2 σ H2 dx dy x y _ hS2 r1 r2 (hP2.bind fun dz s3 m3 H3 z e3 hS3 r3 hP3 => ?_) pins s v u I rx ry
  split at hP3
  · cases r3
    refine ⟨true, rfl, ?_⟩
    rw [if_pos rfl]
    exact hc.run m3 τ s3 σ H3 _ (hL.mono (e2.trans e3)) hS3 (hP3.bind fun dw s4 m4 H4 w e4 hS4 r4 hP4 pins s v u I rx ry => ho' m4 s4 σ H4 dy dw y w Q hS4 ((r2.mono e3).mono e4) r4 hP4 pins s v u I rx ry)
  · cases r3
    refine ⟨false, rfl, ?_⟩
    rw [if_neg Bool.false_ne_true]
    exact hP3.now hS3 (.bl _)
  · exact hP3.elim
/-- a rule of the layer's whose premises may speak of the slots at hand -/
theorem oprS {F : Value → Value → Sem Value} {σ : L2.St} : ∀ (pins : List (Addr × Obj)) (s : Shared) (H : Hp) (x y : V) (v u : Value) (Q : VK), Inv X pins σ H s → RelV x v → RelV y u → wR2 X F σ x y H Q → wpAny (model X.prog X.w) X.A (F v u) (EP X pins σ Q) X.xe s :=
  fun pins s H x y v u Q I rx ry q => q pins s v u I rx ry
theorem ex_chain {op op' : CmpOp} {o o' : O2} (ho : OpM X W (compareOp op) o) (ho' : OpM X W (compareOp op') o') (ha : Ex X W a fa) (hb : Ex X W b fb) (hc : Ex X W c fc) (hm : lastMarks [op, op'] [b, c] = false := by with_unfolding_all rfl) : Ex X W (.Compare a [op, op'] [b, c] pos) (eChain o o' fa fb fc) := by
  refine ⟨fun m τ st σ H Q hL hS hP pins s I => ?_⟩
  have h := chain_read ho ho' ha hb hc hL hS hP
  refine Compare_chain (thn (peW.run pins s σ H _ I h) fun v s1 ⟨x, H1, I1, r1, q1⟩ => chain_link (thn (peW.run pins s1 σ H1 _ I1 q1) fun u s2 ⟨y, H2, I2, r2, q2⟩ =>
    thn (q2 pins s2 v u I2 r1 r2) fun d s3 ⟨z, H3, I3, r3, k, e, q3⟩ => ?_)) hm
  subst e
  cases r3
  refine wpAny_truthy_bool ?_
  cases k with
  | false => exact ite_ff ⟨.bl false, H3, I3, rfl, q3⟩
  | true => exact ite_tt (chain_last (thn (peW.run pins s3 σ H3 _ I3 q3) fun w' s4 ⟨z', H4, I4, r4, q4⟩ => q4 pins s4 u w' I4 r2 r4))
theorem et_chain {op op' : CmpOp} {o o' : O2} (ho : OpM X W (compareOp op) o) (ho' : OpM X W (compareOp op') o') (ha : Ex X W a fa) (hb : Ex X W b fb) (hc : Ex X W c fc) (hm : lastMarks [op, op'] [b, c] = false := by with_unfolding_all rfl) : Et X W (.Compare a [op, op'] [b, c] pos) (tBl (eChain o o' fa fb fc)) := by
  refine ⟨fun m τ st σ H Q hL hS hP pins s I => ?_⟩
  have hP' : Pe X.kw (fun c d H' => W c d σ H') (RD X.K) m H (eChain o o' fa fb fc τ st) fun x H1 => ∃ k, x = .bl k ∧ Q k H1 := hP.bind fun dx s1 m1 H1 x e1 hS1 r1 hP1 => bl_post hS1 r1 hP1
  have h := chain_read ho ho' ha hb hc hL hS hP'
  refine isTrue_chain (thn (peW.run pins s σ H _ I h) fun v s1 ⟨x, H1, I1, r1, q1⟩ => test_link (thn (peW.run pins s1 σ H1 _ I1 q1) fun u s2 ⟨y, H2, I2, r2, q2⟩ =>
    thn (q2 pins s2 v u I2 r1 r2) fun d s3 ⟨z, H3, I3, r3, k, e, q3⟩ => ?_)) hm
  subst e
  cases r3
  refine wpAny_truthy_bool ?_
  cases k with
  | false =>
    obtain ⟨k', e', q'⟩ := q3
    cases e'
    exact ite_ff ⟨H3, I3, q'⟩
  | true =>
    refine ite_tt (test_last (thn (peW.run pins s3 σ H3 _ I3 q3) fun w' s4 ⟨z', H4, I4, r4, q4⟩ => thn (q4 pins s4 u w' I4 r2 r4) fun d' s5 ⟨z2, H5, I5, r5, k2, e2, q5⟩ => ?_))
    subst e2
    cases r5
    exact wpAny_truthy_bool ⟨H5, I5, q5⟩

/-! ### tests -/
/-- a value's truth -/
def dTru (st : Store) : D → Option Bool
  | .non => some false
  | .bl b => some b
  | .int i => some (i != 0)
  | .str x => if x.length ≤ 16777216 then some (!x.isEmpty) else none
  | .tup xs => some (!xs.isEmpty)
  | .rol xs => some (!xs.isEmpty)
  | .ref n => (lstAt st n).map fun xs => !xs.isEmpty
  | _ => none
def tVal (fa : EM D) : EM Bool := fun τ st => (fa τ st).bind fun x s1 => match dTru s1 x with
  | some b => .ok b s1
  | none => .bad
theorem empty_of {K : PySem.W.Frag} {m : List Addr} {H : Hp} {ds : List D} {vs : List V} (r : RDs K m H ds vs) : ds.isEmpty = vs.isEmpty := by
  cases r <;> rfl
theorem tru_read {K : KW} {m : List Addr} {st : Store} {H : Hp} {d : D} {v : V} {b : Bool} (s : SS K m st H) (h : dTru st d = some b) (r : RD K m H d v) : TruV K v H b := by
  cases r with
  | non =>
    cases h
    exact rfl
  | bl b =>
    cases h
    exact rfl
  | int i =>
    cases h
    exact rfl
  | str x =>
    have h : (if x.length ≤ 16777216 then some (!x.isEmpty) else none) = some b := h
    split at h
    · rename_i hl
      cases h
      refine ⟨line_of (by simpa [PySem.Str.length] using hl), ?_⟩
      cases x with
      | nil => rfl
      | cons c x =>
        have e : ((⟨(c :: x).toArray⟩ : PySem.Str).length : Int) ≠ 0 := by
          show (((c :: x).toArray.size : Nat) : Int) ≠ 0
          rw [List.size_toArray, List.length_cons]
          omega
        simp [PySem.Str.length]
        omega
    · cases h
  | tup q rs =>
    cases h
    exact .inr (.inl ⟨_, q.sq, by rw [empty_of rs]⟩)
  | rol q rs =>
    cases h
    exact .inl ⟨_, q.sq, by rw [empty_of rs]⟩
  | ref q =>
    unfold dTru at h
    simp only [Option.map_eq_some_iff] at h
    obtain ⟨xs, e, rfl⟩ := h
    obtain ⟨vs, h1, h2⟩ := s.list e q
    exact .inl ⟨vs, SqL.of h1, by rw [empty_of h2]⟩
  | _ => cases h
theorem et_val (ha : Ex X W a fa) (he : ∀ whole, isTrue a X.env whole = (do let v ← whole; standAt a.pos; holding [v] (truthy v)) := by intro _; rfl) : Et X W a (tVal fa) := by
  refine ⟨fun m τ st σ H Q hL hS hP pins s I => ?_⟩
  refine isTrue_plain (thn (ha.run m τ st σ H (fun x H' => ∃ k, TruV X.K x H' k ∧ Q k H') hL hS (hP.bind fun dx s1 m1 H1 x e1 hS1 r1 hP1 => ?_) pins s I) fun v s1 ⟨x, H1, I1, r1, q1⟩ => tru_ok pins s1 σ H1 x v Q I1 r1 q1) (he _)
  split at hP1
  · rename_i k hk
    exact ⟨k, tru_read hS1 hk r1, hP1.now hS1 rfl⟩
  · exact hP1.elim
def tAnd (ga gb : EM Bool) : EM Bool := fun τ st => (ga τ st).bind fun x s1 => if x then gb τ s1 else .ok false s1
def tOr (ga gb : EM Bool) : EM Bool := fun τ st => (ga τ st).bind fun x s1 => if x then .ok true s1 else gb τ s1
def tNot (ga : EM Bool) : EM Bool := fun τ st => (ga τ st).bind fun x s1 => .ok (!x) s1
theorem Ew.et (h : Ew X W e g) : Et X W e g := ⟨fun m τ st σ H Q hL hS hP pins s I => h.run m τ st σ H Q hL hS hP _ pins s I⟩
theorem ew_and1 (ha : Et X W a ga) : Ew X W (.BoolOp .And [a] pos) ga := ⟨fun m τ st σ H Q hL hS hP wh pins s I => (pw_and1 ptW).run wh pins s σ H Q I (ha.run m τ st σ H Q hL hS hP)⟩
theorem ew_or1 (ha : Et X W a ga) : Ew X W (.BoolOp .Or [a] pos) ga := ⟨fun m τ st σ H Q hL hS hP wh pins s I => (pw_or1 ptW).run wh pins s σ H Q I (ha.run m τ st σ H Q hL hS hP)⟩
theorem ew_and (ha : Et X W a ga) (hb : Ew X W (.BoolOp .And (b :: rest) pos) gb) : Ew X W (.BoolOp .And (a :: b :: rest) pos) (tAnd ga gb) := by
  refine ⟨fun m τ st σ H Q hL hS hP wh pins s I => (pw_and ptW pwW).run wh pins s σ H Q I ?_⟩
  refine ha.run m τ st σ H _ hL hS (hP.bind fun dx s1 m1 H1 x e1 hS1 r1 hP1 => ?_)
  subst r1
  cases dx with
  | true => exact iteT (hb.run m1 τ s1 σ H1 Q (hL.mono e1) hS1 hP1)
  | false => exact iteF (hP1.now hS1 rfl)
theorem ew_or (ha : Et X W a ga) (hb : Ew X W (.BoolOp .Or (b :: rest) pos) gb) : Ew X W (.BoolOp .Or (a :: b :: rest) pos) (tOr ga gb) := by
  refine ⟨fun m τ st σ H Q hL hS hP wh pins s I => (pw_or ptW pwW).run wh pins s σ H Q I ?_⟩
  refine ha.run m τ st σ H _ hL hS (hP.bind fun dx s1 m1 H1 x e1 hS1 r1 hP1 => ?_)
  subst r1
  cases dx with
  | true => exact iteT (hP1.now hS1 rfl)
  | false => exact iteF (hb.run m1 τ s1 σ H1 Q (hL.mono e1) hS1 hP1)
theorem et_not (ha : Et X W a ga) : Et X W (.UnaryOp .Not a pos) (tNot ga) := by
  refine ⟨fun m τ st σ H Q hL hS hP pins s I => (pt_not ptW).run pins s σ H Q I ?_⟩
  refine ha.run m τ st σ H _ hL hS (hP.bind fun dx s1 m1 H1 x e1 hS1 r1 hP1 => ?_)
  subst r1
  exact hP1.now hS1 rfl
/-! ### and, or, not as values -/
def eAnd (fa fb : EM D) : EM D := fun τ st => (fa τ st).bind fun x s1 => match dTru s1 x with
  | some true => fb τ s1
  | some false => .ok x s1
  | none => .bad
def eOr (fa fb : EM D) : EM D := fun τ st => (fa τ st).bind fun x s1 => match dTru s1 x with
  | some true => .ok x s1
  | some false => fb τ s1
  | none => .bad
def eNot (fa : EM D) : EM D := fun τ st => (fa τ st).bind fun x s1 => match dTru s1 x with
  | some b => .ok (.bl !b) s1
  | none => .bad
theorem ex_one {op} (h : Ex X W a fa) : Ex X W (.BoolOp op [a] pos) fa := ⟨fun m τ st σ H Q hL hS hP pins s I => BoolOp_one (h.run m τ st σ H Q hL hS hP pins s I)⟩
theorem ex_and (ha : Ex X W a fa) (hb : Ex X W (.BoolOp .And (b :: rest) pos) fb) : Ex X W (.BoolOp .And (a :: b :: rest) pos) (eAnd fa fb) := by
  refine ⟨fun m τ st σ H Q hL hS hP pins s I => (pe_andT peW peW).run pins s σ H Q I ?_⟩
  refine ha.run m τ st σ H _ hL hS (hP.bind fun dx s1 m1 H1 x e1 hS1 r1 hP1 => ?_)
  split at hP1
  · rename_i hk
    exact ⟨true, tru_read hS1 hk r1, iteT (hb.run m1 τ s1 σ H1 Q (hL.mono e1) hS1 hP1)⟩
  · rename_i hk
    exact ⟨false, tru_read hS1 hk r1, iteF (hP1.now hS1 r1)⟩
  · exact hP1.elim
theorem ex_or (ha : Ex X W a fa) (hb : Ex X W (.BoolOp .Or (b :: rest) pos) fb) : Ex X W (.BoolOp .Or (a :: b :: rest) pos) (eOr fa fb) := by
  refine ⟨fun m τ st σ H Q hL hS hP pins s I => (pe_orT peW peW).run pins s σ H Q I ?_⟩
  refine ha.run m τ st σ H _ hL hS (hP.bind fun dx s1 m1 H1 x e1 hS1 r1 hP1 => ?_)
  split at hP1
  · rename_i hk
    exact ⟨true, tru_read hS1 hk r1, iteT (hP1.now hS1 r1)⟩
  · rename_i hk
    exact ⟨false, tru_read hS1 hk r1, iteF (hb.run m1 τ s1 σ H1 Q (hL.mono e1) hS1 hP1)⟩
  · exact hP1.elim
theorem ex_not (ha : Ex X W a fa) : Ex X W (.UnaryOp .Not a pos) (eNot fa) := by
  refine ⟨fun m τ st σ H Q hL hS hP pins s I => (pe_notT peW).run pins s σ H Q I ?_⟩
  refine ha.run m τ st σ H _ hL hS (hP.bind fun dx s1 m1 H1 x e1 hS1 r1 hP1 => ?_)
  split at hP1
  · rename_i k hk
    exact ⟨k, tru_read hS1 hk r1, hP1.now hS1 (.bl _)⟩
  · exact hP1.elim
def eIf (g : EM Bool) (fa fb : EM D) : EM D := fun τ st => (g τ st).bind fun x s1 => if x then fa τ s1 else fb τ s1
theorem ex_if {c : Expr} (hc : Et X W c g) (ha : Ex X W a fa) (hb : Ex X W b fb) : Ex X W (.IfExp c a b pos) (eIf g fa fb) := by
  refine ⟨fun m τ st σ H Q hL hS hP pins s I => (pe_ifExp ptW peW peW).run pins s σ H Q I ?_⟩
  refine hc.run m τ st σ H _ hL hS (hP.bind fun dx s1 m1 H1 x e1 hS1 r1 hP1 => ?_)
  subst r1
  cases dx with
  | true => exact iteT (ha.run m1 τ s1 σ H1 Q (hL.mono e1) hS1 hP1)
  | false => exact iteF (hb.run m1 τ s1 σ H1 Q (hL.mono e1) hS1 hP1)

/-! ### arguments, displays -/
def aNil : EM (List D) := fun _ st => .ok [] st
def aCons (f : EM D) (fs : EM (List D)) : EM (List D) := fun τ st => (f τ st).bind fun x s1 => (fs τ s1).bind fun xs s2 => .ok (x :: xs) s2
theorem ea_nil : Ea X W [] aNil := ⟨fun m τ st σ H Q hL hS hP pos pins s I => pa_nil.run pos pins s σ H Q I (hP.now hS .nil)⟩
theorem ea_cons (ha : Ex X W e f) (hr : Ea X W es fs) (hs : starEach (e :: es) X.env = (false, eval e X.env) :: starEach es X.env := by rfl) : Ea X W (e :: es) (aCons f fs) := by
  refine ⟨fun m τ st σ H Q hL hS hP pos pins s I => (pa_cons peW paW hs).run pos pins s σ H Q I ?_⟩
  refine ha.run m τ st σ H _ hL hS (hP.bind fun dx s1 m1 H1 x e1 hS1 r1 hP1 => ?_)
  exact hr.run m1 τ s1 σ H1 _ (hL.mono e1) hS1 (hP1.bind fun ds s2 m2 H2 xs e2 hS2 r2 hP2 => hP2.now hS2 (.cons (r1.mono e2) r2))
def eTup (fs : EM (List D)) : EM D := fun τ st => (fs τ st).bind fun xs s1 => if xs.length ≤ 16777216 then .ok (.tup xs) s1 else .bad
def eLst (fs : EM (List D)) : EM D := fun τ st => (fs τ st).bind fun xs s1 => if xs.length ≤ 16777216 then .ok (.ref s1.length) (s1 ++ [.lst xs]) else .bad
theorem ex_tup {x1} (h : Ea X W es fs) : Ex X W (.Tuple es x1 pos) (eTup fs) := by
  refine ⟨fun m τ st σ H Q hL hS hP pins s I => (pe_tupF paW).run pins s σ H Q I ?_⟩
  refine h.run m τ st σ H _ hL hS (hP.bind fun ds s1 m1 H1 vs e1 hS1 r1 hP1 => ?_)
  split at hP1
  · rename_i hl
    exact ⟨line_of (by rw [← r1.len]; exact hl), hP1.tup hS1 r1⟩
  · exact hP1.elim
theorem ex_lst (h : Ea X W es fs) : Ex X W (.List es pos) (eLst fs) := by
  refine ⟨fun m τ st σ H Q hL hS hP pins s I => (pe_lst paW).run pins s σ H Q I ?_⟩
  refine h.run m τ st σ H _ hL hS (hP.bind fun ds s1 m1 H1 vs e1 hS1 r1 hP1 => ?_)
  split at hP1
  · rename_i hl
    exact ⟨line_of (by rw [← r1.len]; exact hl), hP1.lst hS1 r1⟩
  · exact hP1.elim

/-! ### subscripts -/
def IxM (X : Cx) (W : WX) (g : O2) : Prop :=
  ∃ r : R2, IxR X r ∧ ∀ (m : List Addr) (st : Store) (H : Hp) (dx dy : D) (x y : V) (E : XK) (Q : VK), SS X.kw m st H → RD X.K m H dx x → RD X.K m H dy y → Pe X.kw E (RD X.K) m H (g dx dy st) Q → r x y H Q
theorem ex_ix {o : O2} (ho : IxM X W o) (ha : Ex X W a fa) (hb : Ex X W b fb) (hs : PlainIx b := by exact fun _ _ => rfl) : Ex X W (.Subscript a b pos) (eBin o fa fb) := by
  obtain ⟨r, hr, h⟩ := ho
  refine ⟨fun m τ st σ H Q hL hS hP pins s I => (pe_ix hr peW peW hs).run pins s σ H Q I ?_⟩
  exact two ha hb hL hS hP fun m2 st2 H2 dx dy x y e2 hS2 r1 r2 hP2 => h m2 st2 H2 dx dy x y _ Q hS2 r1 r2 hP2
def oIxS : O2 := fun x y st => match x, y with
  | .tup xs, .int i => match atI xs i with
    | some d => .ok d st
    | none => .bad
  | .rol xs, .int i => match atI xs i with
    | some d => .ok d st
    | none => .bad
  | .ref n, .int i => match lstAt st n with
    | some xs => match atI xs i with
      | some d => .ok d st
      | none => .bad
    | none => .bad
  | .str x, .int i => if x.length ≤ 16777216 then match atI x i with
      | some c => .ok (.str [c]) st
      | none => .bad
    else .bad
  | _, _ => .bad
theorem atI_rds {K : PySem.W.Frag} {m : List Addr} {H : Hp} {ds : List D} {vs : List V} {i : Int} {d : D} (r : RDs K m H ds vs) (h : atI ds i = some d) : ∃ v, atI vs i = some v ∧ RD K m H d v := by
  unfold atI at h ⊢
  rw [← r.len]
  cases e : ixN ds.length i with
  | none =>
    rw [e] at h
    cases h
  | some j =>
    rw [e] at h
    exact r.get h
theorem m_ixS : IxM X W oIxS := ⟨_, ix_seq, fun m st H dx dy x y E Q hS r1 r2 hP => by
  unfold oIxS at hP
  split at hP
  · split at hP
    · rename_i d e
      cases r1 with
      | tup q rs =>
        cases r2
        obtain ⟨v, h1, h2⟩ := atI_rds rs e
        exact .inr (.inl ⟨_, _, _, v, rfl, rfl, q.sq, h1, hP.now hS h2⟩)
    · exact hP.elim
  · split at hP
    · rename_i d e
      cases r1 with
      | rol q rs =>
        cases r2
        obtain ⟨v, h1, h2⟩ := atI_rds rs e
        exact .inl ⟨_, _, _, v, rfl, rfl, q.sq, h1, hP.now hS h2⟩
    · exact hP.elim
  · split at hP
    · split at hP
      · rename_i ex _ _ e
        cases r1 with
        | ref q =>
          cases r2
          obtain ⟨vs, h1, h2⟩ := hS.list ex q
          obtain ⟨v, h3, h4⟩ := atI_rds h2 e
          exact .inl ⟨_, _, _, v, rfl, rfl, SqL.of h1, h3, hP.now hS h4⟩
      · exact hP.elim
    · exact hP.elim
  · split at hP
    · split at hP
      · rename_i hl _ c e
        cases r1
        cases r2
        exact .inr (.inr ⟨_, _, c, rfl, rfl, line_of (by simpa [PySem.Str.length] using hl), by simpa using e, hP.now hS (.str [c])⟩)
      · exact hP.elim
    · exact hP.elim
  · exact hP.elim⟩
end
end HM

/-! HM, part 5: calls, what is walked, comprehensions. -/
namespace HM
open PySem PySem.Spec PyProof.Rows L2

/-! ### defs -/
abbrev FM := List D → Store → ER D
/-- a def's promise by its mirror -/
def spM (K : KW) (n : Nat) (mf : FM) : Sp := fun vs H Q E => ∃ (m : List Addr) (st : Store) (ds : List D), ds.length = n ∧ SS K m st H ∧ RDs K m H ds vs ∧ Pe K E (RD K) m H (mf ds st) Q
/-- the def f keeps the mirror -/
abbrev FnM (P : Program) (w : World) (K : PySem.W.Frag) (mg : Str → Option Value) (base : Heap) (k : Nat) (f : Addr) (fd : FuncData) (ps : List Str) (mf : FM) : Prop :=
  FnOk P w K mg base (L2.CX P w) k f fd ps (spM ⟨K, w⟩ ps.length mf)
section
variable {X : Cx} {W : WX} {e a b c : Expr} {es rest : List Expr} {pos p : Pos} {f fa fb fc : EM D} {fs : EM (List D)} {g ga gb : EM Bool}
def eCall (n : Nat) (mf : FM) (fs : EM (List D)) : EM D := fun τ st => (fs τ st).bind fun ds s1 => if ds.length = n then mf ds s1 else .bad
theorem ex_call {k : Nat} {fa : Addr} {fd : FuncData} {ps : List Str} {mf : FM} {x : Str} (tk : Takes X W) (F : FnM X.prog X.w X.K X.mg X.base k fa fd ps mf) (hr : Room k X.A) (hg : Gl X x) (hm : X.mg x = some (.ref fa)) (hk : PySem.W.keepIn X.K (.ref fa) = true) (hb : Binds X.K fd ps [])
    (ha : Ea X W (e :: es) fs) (hdb : (x == ("__debug__" : Str)) = false := by decide) (he : starEach (e :: es) X.env = (false, eval e X.env) :: starEach es X.env := by rfl) (hpl : (backTo pos (starEach es X.env)).any (·.1) = false := by rfl) :
    Ex X W (.Call (.Name x p) (e :: es) [] pos) (eCall ps.length mf fs) := by
  refine ⟨fun m τ st σ H Q hL hS hP pins s I => ?_⟩
  refine wpAny_Call_Name_kw (ld_glob I hg hm ?_ hdb)
  have q : wA X (e :: es) σ H fun vs H1 => spM X.kw ps.length mf (vs ++ []) H1 Q (WE W σ) := ha.run m τ st σ H _ hL hS (hP.bind fun ds s1 m1 H1 vs e1 hS1 r1 hP1 => by
    split at hP1
    · rename_i hl
      rw [List.append_nil]
      exact ⟨m1, s1, ds, hl, hS1, r1, hP1⟩
    · exact hP1.elim)
  refine PySem.W.callWith_K (h₀ := X.base) I.ok.mod.kin hk (thn (q pos pins s I) fun us s1 ⟨vs, H1, I1, r, q⟩ => ⟨I1.kIn, ?_⟩) he hpl
  exact run_fnSD (E := WE W) F hr hb .nil (passAt tk σ) I1 r q
theorem ex_call0 {k : Nat} {fa : Addr} {fd : FuncData} {ps : List Str} {mf : FM} {x : Str} (tk : Takes X W) (F : FnM X.prog X.w X.K X.mg X.base k fa fd ps mf) (hr : Room k X.A) (hg : Gl X x) (hm : X.mg x = some (.ref fa)) (hk : PySem.W.keepIn X.K (.ref fa) = true) (hb : Binds X.K fd ps [])
    (hdb : (x == ("__debug__" : Str)) = false := by decide) : Ex X W (.Call (.Name x p) [] [] pos) (eCall ps.length mf aNil) := by
  refine ⟨fun m τ st σ H Q hL hS hP pins s I => ?_⟩
  refine wpAny_Call_Name_kw (ld_glob I hg hm ?_ hdb)
  refine PySem.W.callWith_K0 I.kIn hk (run_fnSD (E := WE W) (us := []) (vs := []) F hr hb .nil (passAt tk σ) I .nil ?_)
  have hP : Pe X.kw (fun c d H' => W c d σ H') (RD X.K) m H (if ([] : List D).length = ps.length then mf [] st else .bad) Q := hP
  split at hP
  · rename_i hl
    exact ⟨m, st, [], hl, hS, .nil, hP⟩
  · exact hP.elim

/-! ### built-ins by values -/
def CallM (X : Cx) (fv : Value) (g : FM) : Prop :=
  ∃ r, CallR X fv r ∧ ∀ (m : List Addr) (st : Store) (H : Hp) (ds : List D) (vs : List V) (E : XK) (Q : VK), SS X.kw m st H → RDs X.K m H ds vs → Pe X.kw E (RD X.K) m H (g ds st) Q → r vs H Q
def eCB (mf : FM) (fs : EM (List D)) : EM D := fun τ st => (fs τ st).bind mf
theorem ex_callB {x : Str} {id : String} {mf : FM} (hc : CallM X (.builtin id) mf) (hg : Gl X x) (hm : X.mg x = none) (hv : bootBuiltins x = some (.builtin id)) (ha : Ea X W (e :: es) fs) (hn : x ≠ "__name__" := by decide) (hdb : (x == ("__debug__" : Str)) = false := by decide)
    (he : starEach (e :: es) X.env = (false, eval e X.env) :: starEach es X.env := by rfl) (hpl : (backTo pos (starEach es X.env)).any (·.1) = false := by rfl) : Ex X W (.Call (.Name x p) (e :: es) [] pos) (eCB mf fs) := by
  obtain ⟨r, hr, h⟩ := hc
  refine ⟨fun m τ st σ H Q hL hS hP pins s I => (pe_callB hr hg hm hv paW hn hdb he hpl).run pins s σ H Q I ?_⟩
  exact ha.run m τ st σ H _ hL hS (hP.bind fun ds s1 m1 H1 vs e1 hS1 r1 hP1 => h m1 s1 H1 ds vs _ Q hS1 r1 hP1)
theorem ex_callT {x : Str} {T : String} {mf : FM} (hc : CallM X (.type T) mf) (hg : Gl X x) (hm : X.mg x = none) (hv : bootBuiltins x = some (.type T)) (ha : Ea X W (e :: es) fs) (hn : x ≠ "__name__" := by decide) (hdb : (x == ("__debug__" : Str)) = false := by decide)
    (he : starEach (e :: es) X.env = (false, eval e X.env) :: starEach es X.env := by rfl) (hpl : (backTo pos (starEach es X.env)).any (·.1) = false := by rfl) : Ex X W (.Call (.Name x p) (e :: es) [] pos) (eCB mf fs) := by
  obtain ⟨r, hr, h⟩ := hc
  refine ⟨fun m τ st σ H Q hL hS hP pins s I => (pe_callTy hr hg hm hv paW hn hdb he hpl).run pins s σ H Q I ?_⟩
  exact ha.run m τ st σ H _ hL hS (hP.bind fun ds s1 m1 H1 vs e1 hS1 r1 hP1 => h m1 s1 H1 ds vs _ Q hS1 r1 hP1)
theorem ex_callF {x : Str} {id : String} {mf : FM} (hc : CallM X (.builtin id) mf) (hg : Gl X x) (hm : X.mg x = some (.builtin id)) (ha : Ea X W (e :: es) fs) (hdb : (x == ("__debug__" : Str)) = false := by decide)
    (he : starEach (e :: es) X.env = (false, eval e X.env) :: starEach es X.env := by rfl) (hpl : (backTo pos (starEach es X.env)).any (·.1) = false := by rfl) : Ex X W (.Call (.Name x p) (e :: es) [] pos) (eCB mf fs) := by
  obtain ⟨r, hr, h⟩ := hc
  refine ⟨fun m τ st σ H Q hL hS hP pins s I => (pe_callBfun hr hg hm paW hdb he hpl).run pins s σ H Q I ?_⟩
  exact ha.run m τ st σ H _ hL hS (hP.bind fun ds s1 m1 H1 vs e1 hS1 r1 hP1 => h m1 s1 H1 ds vs _ Q hS1 r1 hP1)
/-- the items of what is a list or a tuple -/
def dSeq (st : Store) : D → Option (List D)
  | .tup xs => some xs
  | .rol xs => some xs
  | .ref n => lstAt st n
  | _ => none
def SqV (K : PySem.W.Frag) (m : List Addr) (H : Hp) (ds : List D) (v : V) : Prop := ∃ a vs, v = .ref a ∧ (SqL K H a vs ∨ PlT K H a vs) ∧ RDs K m H ds vs
theorem dSeq_read {K : KW} {m : List Addr} {st : Store} {H : Hp} {d : D} {v : V} {xs : List D} (s : SS K m st H) (h : dSeq st d = some xs) (r : RD K m H d v) : SqV K m H xs v := by
  cases r with
  | tup q rs =>
    cases h
    exact ⟨_, _, rfl, .inr q, rs⟩
  | rol q rs =>
    cases h
    exact ⟨_, _, rfl, .inl q.sq, rs⟩
  | ref q =>
    obtain ⟨vs, h1, h2⟩ := s.list h q
    exact ⟨_, vs, rfl, .inl (SqL.of h1), h2⟩
  | _ => cases h
def fLenS : FM := fun ds st => match ds with
  | [.str x] => if x.length ≤ 16777216 then .ok (.int x.length) st else .bad
  | [d] => match dSeq st d with
    | some xs => .ok (.int xs.length) st
    | none => .bad
  | _ => .bad
theorem c_lenS : CallM X (.builtin "len") fLenS := ⟨_, call_len_seq.or call_len_str, fun m st H ds vs E Q hS r hP => by
  unfold fLenS at hP
  split at hP
  · split at hP
    · rename_i x hl
      obtain ⟨v, rfl, r1⟩ := r.one
      cases r1
      refine .inr ⟨_, rfl, line_of (by simpa [PySem.Str.length] using hl), ?_⟩
      have e : (((⟨x.toArray⟩ : PySem.Str).length : Nat) : Int) = (x.length : Int) := by simp [PySem.Str.length]
      rw [e]
      exact hP.now hS (.int _)
    · exact hP.elim
  · split at hP
    · rename_i xs hx
      obtain ⟨v, rfl, r1⟩ := r.one
      obtain ⟨a, vs, rfl, q, rs⟩ := dSeq_read hS hx r1
      refine .inl ⟨a, vs, rfl, q.imp id PlT.sq, ?_⟩
      rw [← rs.len]
      exact hP.now hS (.int _)
    · exact hP.elim
  · exact hP.elim⟩
def fInt : FM := fun ds st => match ds with
  | [.int i] => .ok (.int i) st
  | [.bl b] => .ok (.int (if b then 1 else 0)) st
  | _ => .bad
theorem c_int : CallM X (.type "int") fInt := ⟨_, call_int1, fun m st H ds vs E Q hS r hP => by
  unfold fInt at hP
  split at hP
  · obtain ⟨v, rfl, r1⟩ := r.one
    cases r1
    exact .inl ⟨_, rfl, hP.now hS (.int _)⟩
  · obtain ⟨v, rfl, r1⟩ := r.one
    cases r1
    exact .inr ⟨_, rfl, hP.now hS (.int _)⟩
  · exact hP.elim⟩
def fAbs : FM := fun ds st => match ds with
  | [.int i] => .ok (.int (i.natAbs : Nat)) st
  | _ => .bad
theorem c_abs : CallM X (.builtin "abs") fAbs := ⟨_, call_abs, fun m st H ds vs E Q hS r hP => by
  unfold fAbs at hP
  split at hP
  · rename_i i
    obtain ⟨v, rfl, r1⟩ := r.one
    cases r1
    refine ⟨_, rfl, ?_⟩
    have e : (if i < 0 then -i else i) = ((i.natAbs : Nat) : Int) := by split <;> omega
    rw [e]
    exact hP.now hS (.int _)
  · exact hP.elim⟩
def fGcd : FM := fun ds st => match ds with
  | [.int i, .int j] => .ok (.int (Nat.gcd i.natAbs j.natAbs : Nat)) st
  | _ => .bad
theorem c_gcd : CallM X (.builtin "math.gcd") fGcd := ⟨_, cr_gcd, fun m st H ds vs E Q hS r hP => by
  unfold fGcd at hP
  split at hP
  · obtain ⟨v, u, rfl, r1, r2⟩ := r.two
    cases r1
    cases r2
    exact ⟨_, _, rfl, hP.now hS (.int _)⟩
  · exact hP.elim⟩
def fTuple : FM := fun ds st => match ds with
  | [d] => match dSeq st d with
    | some xs => .ok (.tup xs) st
    | none => .bad
  | _ => .bad
theorem c_tuple : CallM X (.type "tuple") fTuple := ⟨_, call_tuple_ofF, fun m st H ds vs E Q hS r hP => by
  unfold fTuple at hP
  split at hP
  · split at hP
    · rename_i xs hx
      obtain ⟨v, rfl, r1⟩ := r.one
      obtain ⟨a, vs, rfl, q, rs⟩ := dSeq_read hS hx r1
      rcases q with q | q
      · exact ⟨a, vs, rfl, .inl ⟨q, hP.tup hS rs⟩⟩
      · exact ⟨a, vs, rfl, .inr ⟨q.sq, hP.now hS (.tup q rs)⟩⟩
    · exact hP.elim
  · exact hP.elim⟩
def fList : FM := fun ds st => match ds with
  | [d] => match dSeq st d with
    | some xs => .ok (.ref st.length) (st ++ [.lst xs])
    | none => .bad
  | _ => .bad
theorem c_list : CallM X (.type "list") fList := ⟨_, call_list_of, fun m st H ds vs E Q hS r hP => by
  unfold fList at hP
  split at hP
  · split at hP
    · rename_i xs hx
      obtain ⟨v, rfl, r1⟩ := r.one
      obtain ⟨a, vs, rfl, q, rs⟩ := dSeq_read hS hx r1
      exact ⟨a, vs, rfl, q.imp id PlT.sq, hP.lst hS rs⟩
    · exact hP.elim
  · exact hP.elim⟩
def fMin2 : FM := fun ds st => match ds with
  | [.int i, .int j] => .ok (.int (if j < i then j else i)) st
  | _ => .bad
theorem c_min2 (hc : X.calm = true) : CallM X (.builtin "min") fMin2 := ⟨_, call_min2 hc, fun m st H ds vs E Q hS r hP => by
  unfold fMin2 at hP
  split at hP
  · obtain ⟨v, u, rfl, r1, r2⟩ := r.two
    cases r1
    cases r2
    exact ⟨_, _, rfl, hP.now hS (.int _)⟩
  · exact hP.elim⟩
def fMax2 : FM := fun ds st => match ds with
  | [.int i, .int j] => .ok (.int (if j > i then j else i)) st
  | _ => .bad
theorem c_max2 (hc : X.calm = true) : CallM X (.builtin "max") fMax2 := ⟨_, call_max2 hc, fun m st H ds vs E Q hS r hP => by
  unfold fMax2 at hP
  split at hP
  · obtain ⟨v, u, rfl, r1, r2⟩ := r.two
    cases r1
    cases r2
    exact ⟨_, _, rfl, hP.now hS (.int _)⟩
  · exact hP.elim⟩
/-! ### isinstance -/
def dTy (st : Store) : D → Option String
  | .non => some "NoneType"
  | .bl _ => some "bool"
  | .int _ => some "int"
  | .str _ => some "str"
  | .tup _ => some "tuple"
  | .rol _ => some "list"
  | .ref n => (lstAt st n).map fun _ => "list"
  | _ => none
def isiT (a b : String) : Option Bool :=
  if (["NoneType", "bool", "int", "str", "tuple", "list"].contains a && ["bool", "int", "str", "tuple", "list"].contains b) = true then some (decide (a = b) || (decide (a = "bool") && decide (b = "int"))) else none
theorem isiT_ok {a b : String} {r : Bool} (h : isiT a b = some r) : kitB a b = some r := by
  have all : (["NoneType", "bool", "int", "str", "tuple", "list"].all fun a => ["bool", "int", "str", "tuple", "list"].all fun b => decide (kitB a b = some (decide (a = b) || (decide (a = "bool") && decide (b = "int"))))) = true := by decide +kernel
  unfold isiT at h
  split at h
  · rename_i c
    rw [Bool.and_eq_true] at c
    have z := List.all_eq_true.mp (List.all_eq_true.mp all a (List.contains_iff_mem.mp c.1)) b (List.contains_iff_mem.mp c.2)
    rw [of_decide_eq_true z]
    exact h
  · cases h
theorem ty_read {K : KW} {m : List Addr} {st : Store} {H : Hp} {d : D} {v : V} {t : String} (s : SS K m st H) (h : dTy st d = some t) (r : RD K m H d v) : TyX K H v (.type t) := by
  cases r with
  | non => cases h; exact .base .non
  | bl b => cases h; exact .base (.bl b)
  | int i => cases h; exact .base (.int i)
  | str x => cases h; exact .base (.str _)
  | tup q rs =>
    cases h
    rcases q with ⟨o, _, q⟩ | ⟨o, its, n, q1, q2, _⟩
    · exact .fTuple q
    · exact .kTuple q1 q2
  | rol q rs =>
    cases h
    rcases q with ⟨o, q⟩ | ⟨o, its, n, q1, q2, _⟩
    · exact .base (.frz q)
    · exact .kList q1 q2
  | ref q =>
    have h : (lstAt st _).map (fun _ => "list") = some t := h
    simp only [Option.map_eq_some_iff] at h
    obtain ⟨xs, e, rfl⟩ := h
    obtain ⟨vs, h1, h2⟩ := s.list e q
    exact .base (.lst h1)
  | _ => cases h
def fIsi : FM := fun ds st => match ds with
  | [d, .ty c] => match dTy st d with
    | some t => match isiT t c with
      | some b => .ok (.bl b) st
      | none => .bad
    | none => .bad
  | _ => .bad
theorem c_isi : CallM X (.builtin "isinstance") fIsi := ⟨_, call_isi, fun m st H ds vs E Q hS r hP => by
  unfold fIsi at hP
  split at hP
  · split at hP
    · rename_i t ht
      split at hP
      · rename_i b hb
        obtain ⟨v, u, rfl, r1, r2⟩ := r.two
        cases r2
        exact ⟨_, _, _, _, b, rfl, by constructor, ty_read hS ht r1, kit_ty (isiT_ok hb), hP.now hS (.bl _)⟩
      · exact hP.elim
    · exact hP.elim
  · exact hP.elim⟩

/-! ### fresh lists, sequences as arguments -/
/-- an expression that makes a list that nobody else has -/
structure El (X : Cx) (W : WX) (e : Expr) (f : EM (List D)) : Prop where
  run : ∀ (m : List Addr) (τ : Sl) (st : Store) (σ : L2.St) (H : Hp) (Q : VK), SL X.K m H τ σ → SS X.kw m st H →
    Pe X.kw (fun c d H' => W c d σ H') (fun m' H' ds v => ∃ a vs, v = .ref a ∧ H' a = some (.lst vs) ∧ a ∉ m' ∧ H a = none ∧ RDs X.K m' H' ds vs) m H (f τ st) Q → wE X e σ H Q
def eEl (f : EM (List D)) : EM D := fun τ st => (f τ st).bind fun ds s1 => .ok (.ref s1.length) (s1 ++ [.lst ds])
theorem Ext.back {K : KW} {m m1 : List Addr} {H H1 : Hp} {s1 : Store} {a : Addr} (e : Ext K m H m1 H1) (s : SS K m1 s1 H1) (h : H1 a = none) : H a = none := by
  cases q : H a with
  | none => rfl
  | some o =>
    by_cases hm : a ∈ m
    · exact absurd (e.mem hm) (s.notin h)
    · rw [e.frm a o hm q] at h
      cases h
theorem Ext.own {K : PySem.W.Frag} {m m1 : List Addr} {H H1 : Hp} {a : Addr} (e : Ext K m H m1 H1) (h : H a = none) : Ext K m H (m1 ++ [a]) H1 where
  pre := fun n b q => by
    have z := e.pre n b q
    rw [List.getElem?_append_left (List.getElem?_eq_some_iff.mp z).1]
    exact z
  tup := e.tup
  plt := e.plt
  fzl := e.fzl
  xdk := e.xdk
  frm := e.frm
  new := fun b q n => by
    rcases List.mem_append.mp q with q | q
    · exact e.new b q n
    · have z : b = a := by simpa using q
      rw [z]
      exact h
theorem ex_el {fl : EM (List D)} (h : El X W e fl) : Ex X W e (eEl fl) := by
  refine ⟨fun m τ st σ H Q hL hS hP => h.run m τ st σ H Q hL hS ?_⟩
  unfold eEl at hP
  cases hq : fl τ st with
  | ok ds s1 =>
    rw [hq] at hP
    intro m1 H1 v e1 hS1 ⟨a, vs, e, ha, na, hn, rs⟩
    subst e
    refine hP (m1 ++ [a]) H1 (.ref a) (e1.own hn) (hS1.grow na ⟨vs, ha, rs.kp Kp.grow⟩) (.ref ?_)
    rw [← hS1.len]
    simp
  | exc x st' =>
    rw [hq] at hP
    exact hP
  | bad =>
    rw [hq] at hP
    exact hP.elim
/-- the items of an expression's list or tuple -/
structure Es (X : Cx) (W : WX) (e : Expr) (f : EM (List D)) : Prop where
  run : ∀ (m : List Addr) (τ : Sl) (st : Store) (σ : L2.St) (H : Hp) (Q : VK), SL X.K m H τ σ → SS X.kw m st H → Pe X.kw (fun c d H' => W c d σ H') (SqV X.K) m H (f τ st) Q → wE X e σ H Q
theorem es_el {fl : EM (List D)} (h : El X W e fl) : Es X W e fl := by
  refine ⟨fun m τ st σ H Q hL hS hP => h.run m τ st σ H Q hL hS ?_⟩
  cases hq : fl τ st with
  | ok ds s1 =>
    rw [hq] at hP
    intro m1 H1 v e1 hS1 ⟨a, vs, e, ha, na, hn, rs⟩
    exact hP m1 H1 v e1 hS1 ⟨a, vs, e, .inl (SqL.of ha), rs⟩
  | exc x st' =>
    rw [hq] at hP
    exact hP
  | bad =>
    rw [hq] at hP
    exact hP.elim
def sEx (f : EM D) : EM (List D) := fun τ st => (f τ st).bind fun d s1 => match dSeq s1 d with
  | some xs => .ok xs s1
  | none => .bad
theorem es_ex (h : Ex X W e f) : Es X W e (sEx f) := by
  refine ⟨fun m τ st σ H Q hL hS hP => h.run m τ st σ H Q hL hS (hP.bind fun d s1 m1 H1 v e1 hS1 r1 hP1 => ?_)⟩
  split at hP1
  · rename_i xs hx
    exact hP1.now hS1 (dSeq_read hS1 hx r1)
  · exact hP1.elim
/-- a built-in of one argument, by its items -/
abbrev SM1 := List D → Store → ER D
def CallS (X : Cx) (fv : Value) (g : SM1) : Prop :=
  ∃ r, CallR X fv r ∧ ∀ (m : List Addr) (st : Store) (H : Hp) (ds : List D) (v : V) (E : XK) (Q : VK), SS X.kw m st H → SqV X.K m H ds v → Pe X.kw E (RD X.K) m H (g ds st) Q → r [v] H Q
def eCS (g : SM1) (f : EM (List D)) : EM D := fun τ st => (f τ st).bind g
theorem ex_callBs {x : Str} {id : String} {g : SM1} {fl : EM (List D)} (hc : CallS X (.builtin id) g) (hg : Gl X x) (hm : X.mg x = none) (hv : bootBuiltins x = some (.builtin id)) (ha : Es X W e fl) (hn : x ≠ "__name__" := by decide) (hdb : (x == ("__debug__" : Str)) = false := by decide)
    (he : starEach [e] X.env = (false, eval e X.env) :: starEach [] X.env := by rfl) (hpl : (backTo pos (starEach [] X.env)).any (·.1) = false := by rfl) : Ex X W (.Call (.Name x p) [e] [] pos) (eCS g fl) := by
  obtain ⟨r, hr, h⟩ := hc
  refine ⟨fun m τ st σ H Q hL hS hP pins s I => (pe_callB hr hg hm hv (pa_cons peW pa_nil he) hn hdb he hpl).run pins s σ H Q I ?_⟩
  exact ha.run m τ st σ H _ hL hS (hP.bind fun ds s1 m1 H1 v e1 hS1 r1 hP1 => h m1 s1 H1 ds v _ Q hS1 r1 hP1)
theorem ex_callTs {x : Str} {T : String} {g : SM1} {fl : EM (List D)} (hc : CallS X (.type T) g) (hg : Gl X x) (hm : X.mg x = none) (hv : bootBuiltins x = some (.type T)) (ha : Es X W e fl) (hn : x ≠ "__name__" := by decide) (hdb : (x == ("__debug__" : Str)) = false := by decide)
    (he : starEach [e] X.env = (false, eval e X.env) :: starEach [] X.env := by rfl) (hpl : (backTo pos (starEach [] X.env)).any (·.1) = false := by rfl) : Ex X W (.Call (.Name x p) [e] [] pos) (eCS g fl) := by
  obtain ⟨r, hr, h⟩ := hc
  refine ⟨fun m τ st σ H Q hL hS hP pins s I => (pe_callTy hr hg hm hv (pa_cons peW pa_nil he) hn hdb he hpl).run pins s σ H Q I ?_⟩
  exact ha.run m τ st σ H _ hL hS (hP.bind fun ds s1 m1 H1 v e1 hS1 r1 hP1 => h m1 s1 H1 ds v _ Q hS1 r1 hP1)
def gTuple : SM1 := fun xs st => .ok (.tup xs) st
theorem s_tuple : CallS X (.type "tuple") gTuple := ⟨_, call_tuple_ofF, fun m st H ds v E Q hS r hP => by
  obtain ⟨a, vs, rfl, q, rs⟩ := r
  rcases q with q | q
  · exact ⟨a, vs, rfl, .inl ⟨q, hP.tup hS rs⟩⟩
  · exact ⟨a, vs, rfl, .inr ⟨q.sq, hP.now hS (.tup q rs)⟩⟩⟩
def gLen : SM1 := fun xs st => .ok (.int xs.length) st
theorem s_len : CallS X (.builtin "len") gLen := ⟨_, call_len_seq, fun m st H ds v E Q hS r hP => by
  obtain ⟨a, vs, rfl, q, rs⟩ := r
  refine ⟨a, vs, rfl, q.imp id PlT.sq, ?_⟩
  rw [← rs.len]
  exact hP.now hS (.int _)⟩

/-! ### targets -/
def wG (X : Cx) (tg : Expr) : TG := fun v σ H Q => ∀ (pins : List (Addr × Obj)) (s : Shared) (u : Value), Inv X pins σ H s → RelV v u → wpAny (model X.prog X.w) X.A (assign tg X.env u) (fun _ s' => ∃ σ' H', Inv X pins σ' H' s' ∧ Q σ' H') X.xe s
theorem pgW {X : Cx} {tg : Expr} : PG X tg (wG X tg) := ⟨fun pins s σ H v u Q I r h => h pins s u I r⟩
/-- a target: the slots at ix are set -/
structure Eg (X : Cx) (tg : Expr) (ix : List Nat) (set : D → Sl → Option Sl) : Prop where
  run : ∀ (m : List Addr) (τ τ' : Sl) (st : Store) (σ : L2.St) (H : Hp) (d : D) (v : V) (Q : L2.St → Hp → Prop), SL X.K m H τ σ → SS X.kw m st H → RD X.K m H d v → set d τ = some τ' →
    (∀ σ', σ'.length = σ.length → (∀ j, j ∉ ix → σ'[j]? = σ[j]?) → SL X.K m H τ' σ' → Q σ' H) → wG X tg v σ H Q
def gN (i : Nat) : D → Sl → Option Sl := fun d τ => some (τ.set i (some d))
theorem eg_name {i : Nat} {x : Str} (hN : X.N.Nodup) (hi : X.N[i]? = some x := by rfl) (hx : Loc X.env.scope x := by first | exact Or.inl rfl | exact Or.inr rfl) (hf : X.fn x = true ∨ X.env.scope.names.lookup x = some .local := by first | exact .inl rfl | exact .inr rfl) : Eg X (.Name x pos) [i] (gN i) := by
  refine ⟨fun m τ τ' st σ H d v Q hL hS r e k pins s u I ru => (pg_name hN hi hx hf).run pins s σ H v u Q I ru ?_⟩
  cases e
  exact k _ (by simp) (fun j hj => List.getElem?_set_ne (fun z => hj (by simp [z]))) (hL.set i r)
/-- several names, one after another -/
structure Egs (X : Cx) (ts : List Expr) (ix : List Nat) (set : List D → Sl → Option Sl) : Prop where
  run : ∃ t : TGs, PGs X ts t ∧ ∀ (m : List Addr) (τ τ' : Sl) (σ : L2.St) (H : Hp) (ds : List D) (vs : List V) (Q : L2.St → Hp → Prop), SL X.K m H τ σ → RDs X.K m H ds vs → set ds τ = some τ' →
    (∀ σ', σ'.length = σ.length → (∀ j, j ∉ ix → σ'[j]? = σ[j]?) → SL X.K m H τ' σ' → Q σ' H) → t vs σ H Q
def gNil0 : List D → Sl → Option Sl := fun ds τ => match ds with
  | [] => some τ
  | _ => none
theorem egs_nil : Egs X [] [] gNil0 := ⟨_, pgs_nil, fun m τ τ' σ H ds vs Q hL r e k => by
    cases r with
    | nil =>
      cases e
      exact ⟨rfl, k σ rfl (fun _ _ => rfl) hL⟩
    | cons _ _ => cases e⟩
def gCs (i : Nat) (set : List D → Sl → Option Sl) : List D → Sl → Option Sl := fun ds τ => match ds with
  | d :: r => set r (τ.set i (some d))
  | [] => none
theorem egs_cons {i : Nat} {ix : List Nat} {x : Str} {ts : List Expr} {set : List D → Sl → Option Sl} (hN : X.N.Nodup) (hr : Egs X ts ix set) (hi : X.N[i]? = some x := by rfl) (hx : Loc X.env.scope x := by first | exact Or.inl rfl | exact Or.inr rfl) (hf : X.fn x = true ∨ X.env.scope.names.lookup x = some .local := by first | exact .inl rfl | exact .inr rfl)
    (hs : (assignEach (.Name x pos :: ts) X.env).map (·.2) = assign (.Name x pos) X.env :: (assignEach ts X.env).map (·.2) := by rfl) : Egs X (.Name x pos :: ts) (i :: ix) (gCs i set) := by
  obtain ⟨t, ht, h⟩ := hr
  refine ⟨_, pgs_cons (pg_name hN hi hx hf) ht hs, fun m τ τ' σ H ds vs Q hL r e k => ?_⟩
  cases r with
  | nil => cases e
  | cons r1 r2 =>
    refine ⟨_, _, rfl, h m _ τ' _ H _ _ Q (hL.set i r1) r2 e fun σ' l q s => k σ' (by rw [l, List.length_set]) (fun j hj => ?_) s⟩
    rw [q j fun z => hj (List.mem_cons_of_mem _ z)]
    exact List.getElem?_set_ne (fun z => hj (by simp [z]))
def gT (n : Nat) (set : List D → Sl → Option Sl) : D → Sl → Option Sl := fun d τ => match d with
  | .tup ds => if ds.length = n then set ds τ else none
  | _ => none
theorem eg_tup {ts : List Expr} {kk : Nat} {ix : List Nat} {set : List D → Sl → Option Sl} {n : Nat} (hc : X.calm = true) (h : Egs X ts ix set) (hn : (assignEach ts X.env).length = n := by rfl) (hst : (assignEach ts X.env).findIdx? (·.1) = none := by rfl) : Eg X (.Tuple ts kk pos) ix (gT n set) := by
  obtain ⟨t, ht, h⟩ := h
  refine ⟨fun m τ τ' st σ H d v Q hL hS r e k pins s u I ru => (pg_tup hc ht hn hst).run pins s σ H v u Q I ru ?_⟩
  unfold gT at e
  split at e
  · split at e
    · rename_i hl
      cases r with
      | tup q rs => exact ⟨_, _, rfl, q.sq, by rw [← rs.len]; exact hl, h m τ τ' σ H _ _ Q hL rs e k⟩
    · cases e
  · cases e

/-! ### what is walked -/
inductive Sq where
  /-- items that stay -/
  | fix (xs : List D)
  /-- the items of a list of the store's, which must stay as long as it is walked -/
  | cell (n : Nat) (xs : List D)
  /-- pairs of the items of two lists of the store's -/
  | two (n k : Nat) (xs ys : List D)
  /-- pairs of the items of a list of the store's (the first one if l, otherwise the second one) and of a tuple -/
  | mix (l : Bool) (n : Nat) (xs ys : List D)
/-- pairs -/
def zipD (xs ys : List D) : List D := (List.zip xs ys).map fun p => .tup [p.1, p.2]
def Sq.items : Sq → List D
  | .fix xs => xs
  | .cell _ xs => xs
  | .two _ _ xs ys => zipD xs ys
  | .mix _ _ xs ys => zipD xs ys
def Sq.chk (q : Sq) (st : Store) : Bool := match q with
  | .fix _ => true
  | .cell n xs => decide (lstAt st n = some xs)
  | .two n k xs ys => decide (lstAt st n = some xs) && decide (lstAt st k = some ys)
  | .mix l n xs ys => decide (lstAt st n = some (if l then xs else ys))
def JOk (K : KW) (m0 : List Addr) (H0 : Hp) (q : Sq) (J : It) : Prop :=
  ∀ (m : List Addr) (H : Hp) (st : Store), Ext K m0 H0 m H → SS K m st H → q.chk st = true →
    (∀ (i : Nat) (d : D), q.items[i]? = some d → J.go i H ∧ ∀ x H', J.yld i H x H' → Ext K m H m H' ∧ SS K m st H' ∧ RD K m H' d x) ∧ J.stop q.items.length H
def wI (X : Cx) (tg iter : Expr) : TI := fun σ H R => ∀ (pins : List (Addr × Obj)) (s : Shared), Inv X pins σ H s → wpAny (model X.prog X.w) X.A (eval iter X.env) (fun v s1 => wpAny (model X.prog X.w) X.A (pyIter v) (PIE X pins σ tg R) X.xe s1) X.xe s
theorem piW {X : Cx} {tg iter : Expr} : PI X tg iter (wI X tg iter) := ⟨fun pins s σ H R I h => h pins s I⟩
structure Ei (X : Cx) (W : WX) (tg iter : Expr) (f : EM Sq) : Prop where
  run : ∀ (m : List Addr) (τ : Sl) (st : Store) (σ : L2.St) (H : Hp) (R : It → Hp → Prop), SL X.K m H τ σ → SS X.kw m st H → Pe X.kw (fun c d H' => W c d σ H') (JOk X.kw) m H (f τ st) R → wI X tg iter σ H R
theorem j_list {K : KW} {m0 : List Addr} {H0 : Hp} {a : Addr} {q : Sq} (h : ∀ (m : List Addr) (H : Hp) (st : Store), Ext K m0 H0 m H → SS K m st H → q.chk st = true → ∃ vs, SqL K H a vs ∧ RDs K m H q.items vs) : JOk K m0 H0 q (Itl K a) := fun m H st e s hc => by
  obtain ⟨vs, hq, rs⟩ := h m H st e s hc
  refine ⟨fun i d hd => ?_, ⟨vs, hq, by rw [rs.len]; exact Nat.le_refl _⟩⟩
  obtain ⟨v, hv, r⟩ := rs.get hd
  refine ⟨⟨vs, v, hq, hv⟩, fun x H' hy => ?_⟩
  obtain ⟨rfl, y⟩ := hy
  have z := y vs hq
  rw [hv] at z
  cases z
  exact ⟨.refl, s, r⟩
theorem j_tup {K : KW} {m0 : List Addr} {H0 : Hp} {a : Addr} {vs : List V} {xs : List D} (hq : SqT K H0 a vs) (rs : RDs K m0 H0 xs vs) : JOk K m0 H0 (.fix xs) (Itt K a) := fun m H st e s _ => by
  have hq' := e.tup a vs hq
  have rs' := rs.mono e
  refine ⟨fun i d hd => ?_, ⟨vs, hq', by show vs.length ≤ xs.length; rw [← rs.len]; exact Nat.le_refl _⟩⟩
  obtain ⟨v, hv, r⟩ := rs'.get (show xs[i]? = some d from hd)
  refine ⟨⟨vs, v, hq', hv⟩, fun x H' hy => ?_⟩
  obtain ⟨rfl, y⟩ := hy
  have z := y vs hq'
  rw [hv] at z
  cases z
  exact ⟨.refl, s, r⟩
def dSq (st : Store) : D → Option Sq
  | .tup xs => some (.fix xs)
  | .rol xs => some (.fix xs)
  | .ref n => (lstAt st n).map (.cell n)
  | .str x => some (.fix (x.map fun c => .str [c]))
  | _ => none
def iEx (f : EM D) : EM Sq := fun τ st => (f τ st).bind fun d s1 => match dSq s1 d with
  | some q => .ok q s1
  | none => .bad
theorem j_str {K : KW} {m0 : List Addr} {H0 : Hp} (x : List Nat) : JOk K m0 H0 (.fix (x.map fun c => .str [c])) (Its ⟨x.toArray⟩) := fun m H st e s _ => by
  refine ⟨fun i d hd => ?_, ?_⟩
  · have hd : (x.map fun c => D.str [c])[i]? = some d := hd
    rw [List.getElem?_map] at hd
    cases hx : x[i]? with
    | none =>
      rw [hx] at hd
      cases hd
    | some c =>
      rw [hx] at hd
      cases hd
      refine ⟨(List.getElem?_eq_some_iff.mp hx).1, fun y H' hy => ?_⟩
      obtain ⟨e, c', h1, h2⟩ := hy
      subst e
      have h3 : x[i]? = some c' := by simpa using h1
      rw [hx] at h3
      cases h3
      subst h2
      exact ⟨.refl, s, .str [c]⟩
  · show (⟨x.toArray⟩ : PySem.Str).cps.size ≤ (x.map fun c => D.str [c]).length
    simp
theorem ei_ex {tg : Expr} (h : Ex X W e f) : Ei X W tg e (iEx f) := by
  refine ⟨fun m τ st σ H R hL hS hP pins s I => ?_⟩
  unfold iEx at hP
  have hrun := h.run m τ st σ H
  cases hq : f τ st with
  | bad =>
    rw [hq] at hP
    exact hP.elim
  | exc x s1 =>
    rw [hq] at hP
    refine (pi_list (tg := tg) peW).run pins s σ H R I (hrun _ hL hS ?_)
    rw [hq]
    exact hP
  | ok d s1 =>
    rw [hq] at hP
    have hP : Pe X.kw (fun c d H' => W c d σ H') (JOk X.kw) m H (match dSq s1 d with
      | some q => .ok q s1
      | none => .bad) R := hP
    cases hd : dSq s1 d with
    | none =>
      rw [hd] at hP
      exact hP.elim
    | some q =>
      rw [hd] at hP
      cases d with
      | tup xs =>
        cases hd
        refine (pi_tup (tg := tg) peW).run pins s σ H R I (hrun _ hL hS ?_)
        rw [hq]
        intro m1 H1 v e1 hS1 r1
        cases r1 with
        | tup sq rs => exact ⟨_, rfl, ⟨_, sq.sq⟩, hP m1 H1 _ e1 hS1 (j_tup sq.sq rs)⟩
      | rol xs =>
        cases hd
        refine (pi_list (tg := tg) peW).run pins s σ H R I (hrun _ hL hS ?_)
        rw [hq]
        intro m1 H1 v e1 hS1 r1
        cases r1 with
        | rol sq rs => exact ⟨_, rfl, ⟨_, sq.sq⟩, hP m1 H1 _ e1 hS1 (j_list fun m H st e s _ => ⟨_, (e.fzl _ _ sq).sq, rs.mono e⟩)⟩
      | ref n =>
        have hd : (lstAt s1 n).map (Sq.cell n) = some q := hd
        simp only [Option.map_eq_some_iff] at hd
        obtain ⟨xs, hx, rfl⟩ := hd
        refine (pi_list (tg := tg) peW).run pins s σ H R I (hrun _ hL hS ?_)
        rw [hq]
        intro m1 H1 v e1 hS1 r1
        cases r1 with
        | ref z =>
          obtain ⟨vs, h1, h2⟩ := hS1.list hx z
          refine ⟨_, rfl, ⟨vs, SqL.of h1⟩, hP m1 H1 _ e1 hS1 (j_list fun m H st e s hc => ?_)⟩
          obtain ⟨us, h3, h4⟩ := s.list (of_decide_eq_true hc) (e.pre _ _ z)
          exact ⟨us, SqL.of h3, h4⟩
      | str x =>
        cases hd
        refine (pi_str (tg := tg) peW).run pins s σ H R I (hrun _ hL hS ?_)
        rw [hq]
        intro m1 H1 v e1 hS1 r1
        cases r1
        exact ⟨_, rfl, hP m1 H1 _ e1 hS1 (j_str x)⟩
      | _ => cases hd
def iEl (f : EM (List D)) : EM Sq := fun τ st => (f τ st).bind fun xs s1 => .ok (.fix xs) s1
theorem ei_el {tg : Expr} {fl : EM (List D)} (h : El X W e fl) : Ei X W tg e (iEl fl) := by
  refine ⟨fun m τ st σ H R hL hS hP pins s I => (pi_list (tg := tg) peW).run pins s σ H R I (h.run m τ st σ H _ hL hS ?_)⟩
  unfold iEl at hP
  cases hq : fl τ st with
  | ok ds s1 =>
    rw [hq] at hP
    intro m1 H1 v e1 hS1 ⟨a, vs, e, ha, na, hn, rs⟩
    exact ⟨a, e, ⟨vs, SqL.of ha⟩, hP m1 H1 _ e1 hS1 (j_list fun m H st e s _ => ⟨vs, SqL.of (e.frm _ _ na ha), rs.mono e⟩)⟩
  | exc x st' =>
    rw [hq] at hP
    exact hP
  | bad =>
    rw [hq] at hP
    exact hP.elim
/-- lo, lo + 1, .. below hi -/
def rng (lo hi : Int) : List D := (List.range (hi - lo).toNat).map fun k => D.int (lo + (k : Nat))
theorem j_rng {K : KW} {m0 : List Addr} {H0 : Hp} (lo hi : Int) : JOk K m0 H0 (.fix (rng lo hi)) (Itr lo (hi - lo).toNat) := fun m H st e s _ => by
  refine ⟨fun i d hd => ?_, ?_⟩
  · have hd : (rng lo hi)[i]? = some d := hd
    unfold rng at hd
    rw [List.getElem?_map] at hd
    cases hx : (List.range (hi - lo).toNat)[i]? with
    | none =>
      rw [hx] at hd
      cases hd
    | some k =>
      rw [hx] at hd
      cases hd
      obtain ⟨h1, h2⟩ := List.getElem?_eq_some_iff.mp hx
      rw [List.length_range] at h1
      rw [List.getElem_range] at h2
      subst h2
      refine ⟨h1, fun y H' hy => ?_⟩
      obtain ⟨rfl, rfl⟩ := hy
      exact ⟨.refl, s, .int _⟩
  · show (hi - lo).toNat ≤ (rng lo hi).length
    simp [rng]
def okRng (j : Int) : Bool := decide (j.natAbs < 4611686018427387904)
theorem okRng_ok {j : Int} (h : okRng j = true) : -(2 ^ 62) ≤ j ∧ j < 2 ^ 62 := by
  have q : j.natAbs < 4611686018427387904 := of_decide_eq_true h
  have q' : -4611686018427387904 ≤ j ∧ j < 4611686018427387904 := by omega
  exact q'
def iRg1 (f : EM D) : EM Sq := fun τ st => (f τ st).bind fun d s1 => match d with
  | .int j => if okRng j then .ok (.fix (rng 0 j)) s1 else .bad
  | _ => .bad
def iRg2 (fa fb : EM D) : EM Sq := fun τ st => (fa τ st).bind fun d s1 => (fb τ s1).bind fun e s2 => match d, e with
  | .int i, .int j => if okRng i && okRng j then .ok (.fix (rng i j)) s2 else .bad
  | _, _ => .bad
theorem ei_range1 {tg : Expr} (hg : Gl X "range") (hm : X.mg "range" = none) (ha : Ex X W a fa) (hs : starEach [a] X.env = [(false, eval a X.env)] := by rfl) : Ei X W tg (.Call (.Name "range" p) [a] [] pos) (iRg1 fa) := by
  refine ⟨fun m τ st σ H R hL hS hP pins s I => (pi_range1 (tg := tg) hg hm (pa_cons peW pa_nil (by rw [hs]; rfl)) hs).run pins s σ H R I (ha.run m τ st σ H _ hL hS (hP.bind fun d s1 m1 H1 v e1 hS1 r1 hP1 => ?_))⟩
  split at hP1
  · split at hP1
    · rename_i j hj
      cases r1
      obtain ⟨q1, q2⟩ := okRng_ok hj
      refine ⟨j, rfl, q1, q2, hP1.now hS1 ?_⟩
      have z := j_rng (K := X.kw) (m0 := m1) (H0 := H1) 0 j
      rw [Int.sub_zero] at z
      exact z
    · exact hP1.elim
  · exact hP1.elim
theorem ei_range2 {tg : Expr} (hg : Gl X "range") (hm : X.mg "range" = none) (ha : Ex X W a fa) (hb : Ex X W b fb) (hs : starEach [a, b] X.env = [(false, eval a X.env), (false, eval b X.env)] := by rfl) (hs2 : starEach [b] X.env = [(false, eval b X.env)] := by rfl) :
    Ei X W tg (.Call (.Name "range" p) [a, b] [] pos) (iRg2 fa fb) := by
  refine ⟨fun m τ st σ H R hL hS hP pins s I => (pi_range2 (tg := tg) hg hm (pa_cons peW (pa_cons peW pa_nil (by rw [hs2]; rfl)) (by rw [hs, hs2])) hs hs2).run pins s σ H R I ?_⟩
  refine two ha hb hL hS hP fun m2 st2 H2 dx dy x y e2 hS2 r1 r2 hP2 => ?_
  split at hP2
  · split at hP2
    · rename_i i j hij
      cases r1
      cases r2
      rw [Bool.and_eq_true] at hij
      obtain ⟨q1, q2⟩ := okRng_ok hij.1
      obtain ⟨q3, q4⟩ := okRng_ok hij.2
      exact ⟨i, j, rfl, ⟨q1, q2, q3, q4⟩, hP2.now hS2 (j_rng i j)⟩
    · exact hP2.elim
  · exact hP2.elim

/-! ### comprehensions -/
def wipeD (τ : Sl) : List Nat → Sl
  | [] => τ
  | v :: vs => (wipeD τ vs).set v none
theorem wipeD_some {τ : Sl} {i : Nat} {d : D} : ∀ {vs : List Nat}, (wipeD τ vs)[i]? = some (some d) → τ[i]? = some (some d) ∧ i ∉ vs
  | [], h => ⟨h, by simp⟩
  | v :: vs, h => by
    unfold wipeD at h
    by_cases hi : v = i
    · subst hi
      by_cases hv : v < (wipeD τ vs).length
      · rw [List.getElem?_set_self hv] at h
        cases h
      · rw [List.getElem?_eq_none (by simpa using hv)] at h
        cases h
    · rw [List.getElem?_set_ne hi] at h
      obtain ⟨h1, h2⟩ := wipeD_some h
      exact ⟨h1, by simp only [List.mem_cons, not_or]; exact ⟨fun e => hi e.symm, h2⟩⟩
theorem wipeD_len (τ : Sl) : ∀ vs : List Nat, (wipeD τ vs).length = τ.length
  | [] => rfl
  | v :: vs => by unfold wipeD; rw [List.length_set, wipeD_len τ vs]
theorem SL.wipe {K : PySem.W.Frag} {m : List Addr} {H : Hp} {τ : Sl} {σ : L2.St} (s : SL K m H τ σ) (vs : List Nat) : SL K m H (wipeD τ vs) (L2.wipe σ vs) :=
  ⟨by rw [wipeD_len, wipe_length, s.len], fun i d h => by
    obtain ⟨h1, h2⟩ := wipeD_some h
    obtain ⟨v, h3, h4⟩ := s.get i d h1
    exact ⟨v, by rw [wipe_out h2]; exact h3, h4⟩⟩
theorem wipe_same {σ σ' : L2.St} {vs : List Nat} (hl : σ'.length = σ.length) (h : ∀ j, j ∉ vs → σ'[j]? = σ[j]?) : L2.wipe σ' vs = L2.wipe σ vs := by
  apply List.ext_getElem?
  intro i
  by_cases hi : i ∈ vs
  · have z : ∀ (τ : L2.St) (us : List Nat), i ∈ us → (L2.wipe τ us)[i]? = if i < τ.length then some none else none := by
      intro τ us
      induction us with
      | nil => intro q; cases q
      | cons u us ih =>
        intro q
        unfold L2.wipe
        by_cases hu : u = i
        · subst hu
          split
          · rename_i hlt
            rw [List.getElem?_set_self (by rw [wipe_length]; exact hlt)]
          · rename_i hlt
            exact List.getElem?_eq_none (by rw [List.length_set, wipe_length]; omega)
        · rw [List.getElem?_set_ne hu]
          exact ih ((List.mem_cons.mp q).resolve_left fun e => hu e.symm)
    rw [z σ' vs hi, z σ vs hi, hl]
  · rw [wipe_out hi, wipe_out hi, h i hi]
/-- no exception leaves here -/
def _root_.HM.ER.bindN {α β : Type} (r : ER α) (k : α → Store → ER β) : ER β := match r with
  | .ok a st => k a st
  | _ => .bad
@[simp] theorem _root_.HM.ER.bindN_ok {α β : Type} (a : α) (st : Store) (k : α → Store → ER β) : (ER.ok a st).bindN k = k a st := rfl
theorem Pe.bindN {α β γ δ : Type} {K : KW} {E E' : XK} {R : List Addr → Hp → α → β → Prop} {S : List Addr → Hp → γ → δ → Prop} {m : List Addr} {H : Hp} {r : ER α} {Q : β → Hp → Prop} {k : α → Store → ER γ} {Q' : δ → Hp → Prop} (h : Pe K E S m H (r.bindN k) Q')
    (hk : ∀ a st m' H' b, Ext K m H m' H' → SS K m' st H' → R m' H' a b → Pe K E S m' H' (k a st) Q' → Q b H') : Pe K E' R m H r Q := by
  cases r with
  | ok a st => exact fun m' H' b e s q => hk a st m' H' b e s q (Pe.up h e)
  | exc x st => exact h.elim
  | bad => exact h
/-- .. read from an earlier heap -/
theorem Pe.from {α β γ δ : Type} {K : KW} {E E' : XK} {R : List Addr → Hp → α → β → Prop} {S : List Addr → Hp → γ → δ → Prop} {m m1 : List Addr} {H H1 : Hp} {r : ER α} {Q : β → Hp → Prop} {k : α → Store → ER γ} {Q' : δ → Hp → Prop} (h : Pe K E S m1 H1 (r.bindN k) Q')
    (hk : ∀ a st m' H' b, Ext K m H m' H' → SS K m' st H' → R m' H' a b → Pe K E S m1 H1 (k a st) Q' → Q b H') : Pe K E' R m H r Q := by
  cases r with
  | ok a st => exact fun m' H' b e s q => hk a st m' H' b e s q h
  | exc x st => exact h.elim
  | bad => exact h
/-- the turns of a comprehension -/
def compL (q : Sq) (set : D → Sl → Option Sl) (ft : EM Bool) (fe : EM D) (τ : Sl) : List D → List D → Store → ER (List D)
  | [], acc => fun st => if q.chk st then .ok acc st else .bad
  | d :: ds, acc => fun st => if q.chk st then match set d τ with
    | some τ1 => (ft τ1 st).bindN fun b s1 => if b then (fe τ1 s1).bindN fun x s2 => compL q set ft fe τ ds (acc ++ [x]) s2 else compL q set ft fe τ ds acc s1
    | none => .bad
  else .bad
def lComp (own : List Nat) (fi : EM Sq) (set : D → Sl → Option Sl) (ft : EM Bool) (fe : EM D) : EM (List D) := fun τ st => (fi τ st).bind fun q s1 =>
  if q.items.length ≤ 16777216 then compL q set ft fe (wipeD τ own) q.items [] s1 else .bad
/-- tests of a comprehension -/
def wTs (X : Cx) (ifs : List Expr) : TT := fun σ H Q => ∀ (pins : List (Addr × Obj)) (s : Shared), Inv X pins σ H s → wpAny (model X.prog X.w) X.A (forIn ifs true fun c r => if r = true then do let ok ← isTrue c X.env (eval c X.env); pure (ForInStep.yield ok) else pure (ForInStep.yield r)) (TP X pins σ Q) X.xe s
theorem ptsW {X : Cx} {ifs : List Expr} : PTs X ifs (wTs X ifs) := ⟨fun pins s σ H Q I h => h pins s I⟩
structure Ets (X : Cx) (W : WX) (ifs : List Expr) (f : EM Bool) : Prop where
  run : ∀ (m : List Addr) (τ : Sl) (st : Store) (σ : L2.St) (H : Hp) (Q : Bool → Hp → Prop), SL X.K m H τ σ → SS X.kw m st H → Pe X.kw (fun c d H' => W c d σ H') RB m H (f τ st) Q → wTs X ifs σ H Q
def tYes : EM Bool := fun _ st => .ok true st
theorem ets_nil : Ets X W [] tYes := ⟨fun m τ st σ H Q hL hS hP pins s I => pts_nil.run pins s σ H Q I (hP.now hS rfl)⟩
theorem ets_one (h : Et X W e g) : Ets X W [e] g := ⟨fun m τ st σ H Q hL hS hP pins s I => (pts_one ptW).run pins s σ H Q I (h.run m τ st σ H Q hL hS hP)⟩
abbrev W0 : WX := fun _ _ _ _ => False
/-- the context of a block, whatever it starts at -/
abbrev Blk (X : Cx) (scope : Scope) (P : Cx → Prop) : Prop := ∀ (s : Shared) (H : Hp) (C : Addr) (cl : List (Str × Addr)) (fp : List Addr), P (X.blk s H scope (compEnvC scope cl C X.env) fp)
abbrev BEx (X : Cx) (scope : Scope) (elt : Expr) (fe : EM D) : Prop := ∀ (s : Shared) (H : Hp) (C : Addr) (cl : List (Str × Addr)) (fp : List Addr), Ex (X.blk s H scope (compEnvC scope cl C X.env) fp) W0 elt fe
abbrev BEt (X : Cx) (scope : Scope) (ifs : List Expr) (ft : EM Bool) : Prop := ∀ (s : Shared) (H : Hp) (C : Addr) (cl : List (Str × Addr)) (fp : List Addr), Ets (X.blk s H scope (compEnvC scope cl C X.env) fp) W0 ifs ft
abbrev BEg (X : Cx) (scope : Scope) (tg : Expr) (ix : List Nat) (set : D → Sl → Option Sl) : Prop := ∀ (s : Shared) (H : Hp) (C : Addr) (cl : List (Str × Addr)) (fp : List Addr), Eg (X.blk s H scope (compEnvC scope cl C X.env) fp) tg ix set
def gAll (X : Cx) (scope : Scope) (tg : Expr) : TG := fun v σ H Q => Blk X scope fun Y => wG Y tg v σ H Q
def tAll (X : Cx) (scope : Scope) (ifs : List Expr) : TT := fun σ H Q => Blk X scope fun Y => wTs Y ifs σ H Q
def eAll (X : Cx) (scope : Scope) (e : Expr) : TE := fun σ H Q => Blk X scope fun Y => wE Y e σ H Q
/-- one turn after another -/
theorem comp_read {tg elt : Expr} {ifs : List Expr} {scope : Scope} {ix own : List Nat} {set : D → Sl → Option Sl} {ft : EM Bool} {fe : EM D} (hown : ∀ i ∈ ix, i ∈ own) (hg : BEg X scope tg ix set) (ht : BEt X scope ifs ft) (he : BEx X scope elt fe)
    {m0 : List Addr} {τ : Sl} {σ : L2.St} {H0 H1 : Hp} {st0 : Store} {m1 : List Addr} {q : Sq} {J : It} {Q : VK} {E : XK} (e1 : Ext X.K m0 H0 m1 H1) (hL : SL X.K m1 H1 τ σ) (hS : SS X.kw m1 st0 H1) (hJ : JOk X.kw m1 H1 q J) (hz : q.items.length ≤ 16777216)
    (hP : Pe X.kw E (fun m' H' ds v => ∃ a vs, v = .ref a ∧ H' a = some (.lst vs) ∧ a ∉ m' ∧ H0 a = none ∧ RDs X.K m' H' ds vs) m1 H1 (compL q set ft fe (wipeD τ own) q.items [] st0) Q) (D' : Addr) (hD : H1 D' = none) :
    ∃ W : Nat → Nat → Hp → Prop, (∃ m, W 0 m (upd H1 D' (.lst []))) ∧ ∀ i m H, W i m H →
      (J.stop i H ∧ Q (.ref D') H) ∨ (J.go i H ∧ ∃ Nx : Hp → Prop, (∀ H', Nx H' → ∃ m', m' < m ∧ W (i + 1) m' H') ∧ ∀ x H', J.yld i H x H' → gAll X scope tg x (L2.wipe σ own) H' fun σ2 H2 => L2.wipe σ2 own = L2.wipe σ own ∧ tAll X scope ifs σ2 H2 fun b H3 =>
        if b = true then eAll X scope elt σ2 H3 fun y H4 => ∃ acc, H4 D' = some (.lst acc) ∧ acc.length < sizeLine ∧ Nx (upd H4 D' (.lst (acc ++ [y]))) else Nx H3) := by
  have hD0 : H0 D' = none := e1.back hS hD
  have hn : D' ∉ m1 := hS.notin hD
  obtain ⟨Z, hZ⟩ : ∃ Z : Nat → Hp → Prop, Z = fun i H => i ≤ q.items.length ∧ ∃ (m : List Addr) (st : Store) (acc : List D) (vs : List V), Ext X.K m1 H1 m H ∧ D' ∉ m ∧ SS X.kw m st H ∧ H D' = some (.lst vs) ∧ RDs X.K m H acc vs ∧ acc.length ≤ i ∧
    Pe X.kw E (fun m' H' ds v => ∃ a vs, v = .ref a ∧ H' a = some (.lst vs) ∧ a ∉ m' ∧ H0 a = none ∧ RDs X.K m' H' ds vs) m1 H1 (compL q set ft fe (wipeD τ own) (q.items.drop i) acc st) Q := ⟨_, rfl⟩
  refine ⟨fun i k H => k = q.items.length - i ∧ Z i H, ⟨_, rfl, ?_⟩, ?_⟩
  · rw [hZ]
    refine ⟨Nat.zero_le _, m1, st0, [], [], Ext.fresh hD, hn, hS.fresh hD, upd_same, .nil, Nat.le_refl _, ?_⟩
    rw [List.drop_zero]
    exact hP
  · rintro i k H ⟨rfl, hZi⟩
    rw [hZ] at hZi
    obtain ⟨hi, m, st, acc, vs, e, hm, s, hd, rs, hacc, hP⟩ := hZi
    by_cases hlt : i < q.items.length
    · rw [List.drop_eq_getElem_cons hlt] at hP
      unfold compL at hP
      split at hP
      · rename_i hc
        obtain ⟨hgo, _⟩ := hJ m H st e s hc
        obtain ⟨go, yl⟩ := hgo i q.items[i] (by simp [hlt])
        split at hP
        · rename_i τ1 hset
          refine .inr ⟨go, Z (i + 1), fun H' h => ⟨q.items.length - (i + 1), by omega, rfl, h⟩, fun x H' hy s0 H0' C cl fp => ?_⟩
          obtain ⟨e2, s2, r2⟩ := yl x H' hy
          refine (hg s0 H0' C cl fp).run m _ τ1 st _ H' _ x _ ((hL.mono (e.trans e2)).wipe own) s2 r2 hset fun σ2 l1 l2 hL2 => ?_
          have l3 : σ2.length = σ.length := by rw [l1, wipe_length]
          have l4 : ∀ j, j ∉ own → σ2[j]? = σ[j]? := fun j hj => by rw [l2 j fun z => hj (hown j z), wipe_out hj]
          refine ⟨wipe_same l3 l4, fun s0 H0' C cl fp => ?_⟩
          have keep : ∀ {m' : List Addr} {H' : Hp}, Ext X.K m H m' H' → H' D' = some (.lst vs) ∧ D' ∉ m' := fun {m' H'} e => by
            refine ⟨e.frm D' _ hm hd, fun z => ?_⟩
            have q := e.new D' z hm
            rw [hd] at q
            cases q
          refine (ht s0 H0' C cl fp).run m τ1 st σ2 H' _ hL2 s2 (Pe.from (m := m) (H := H') hP fun b s3 m3 H3 b' e3 hS3 r3 hP3 => ?_)
          subst r3
          cases b with
          | false =>
            refine iteF ?_
            rw [hZ]
            obtain ⟨k1, k2⟩ := keep (e2.trans e3)
            exact ⟨by omega, m3, s3, acc, vs, e.trans (e2.trans e3), k2, hS3, k1, rs.mono (e2.trans e3), by omega, hP3⟩
          | true =>
            refine iteT fun s0 H0' C cl fp => (he s0 H0' C cl fp).run m3 τ1 s3 σ2 H3 _ (hL2.mono e3) hS3 (Pe.from (m := m3) (H := H3) (k := fun x s2 => compL q set ft fe (wipeD τ own) (List.drop (i + 1) q.items) (acc ++ [x]) s2) hP3 fun y s4 m4 H4 y' e4 hS4 r4 hP4 => ?_)
            obtain ⟨k1, k2⟩ := keep ((e2.trans e3).trans e4)
            have rs4 := rs.mono ((e2.trans e3).trans e4)
            have hz' : vs.length < sizeLine := by
              rw [← rs.len, PySem.sizeLine_eq]
              omega
            have e5 : Ext X.K m1 H1 m4 H4 := e.trans ((e2.trans e3).trans e4)
            have e6 : Ext X.K m1 H1 m4 (upd H4 D' (.lst (vs ++ [y']))) := {
              pre := e5.pre
              tup := fun a us h => (Kp.write (K := X.K) (m := m4) k1).tup a us (e5.tup a us h)
              plt := fun a us h => (Kp.write (K := X.K) (m := m4) k1).plt a us (e5.plt a us h)
              fzl := fun a us h => (Kp.write (K := X.K) (m := m4) k1).fzl a us (e5.fzl a us h)
              xdk := fun a us h => (Kp.write (K := X.K) (m := m4) k1).xdk a us (e5.xdk a us h)
              frm := fun a o q h => by
                rw [upd_ne (ne_of_none h hD)]
                exact e5.frm a o q h
              new := e5.new }
            refine ⟨vs, k1, hz', ?_⟩
            rw [hZ]
            refine ⟨by omega, m4, s4, acc ++ [y], vs ++ [y'], e6, k2, hS4.other k1 k2, upd_same, (rs4.append (.cons r4 .nil)).kp (Kp.write k1), by rw [List.length_append, List.length_singleton]; omega, ?_⟩
            exact hP4
        · exact hP.elim
      · exact hP.elim
    · have e0 : i = q.items.length := by omega
      subst e0
      rw [List.drop_length] at hP
      unfold compL at hP
      split at hP
      · rename_i hc
        obtain ⟨_, stop⟩ := hJ m H st e s hc
        exact .inl ⟨stop, hP m H (.ref D') e s ⟨D', vs, rfl, hd, hm, hD0, rs⟩⟩
      · exact hP.elim
end
end HM

/-! HM, part 6: list comprehensions, statements. -/
namespace HM
open PySem PySem.Spec PyProof.Rows L2
section
variable {X : Cx} {W : WX} {e a b c : Expr} {es rest : List Expr} {pos p : Pos} {f fa fb fc : EM D} {fs : EM (List D)} {g ga gb : EM Bool}
theorem comp_post {tg elt iter : Expr} {ifs : List Expr} {scope : Scope} {own : List (Str × Nat)} {ix : List Nat} {set : D → Sl → Option Sl} {ft : EM Bool} {fe : EM D} {fi : EM Sq} (hi : Ei X W tg iter fi) (hown : ∀ i ∈ ix, i ∈ own.map (·.2))
    (hg : BEg X scope tg ix set) (ht : BEt X scope ifs ft) (he : BEx X scope elt fe) {m : List Addr} {τ : Sl} {st : Store} {σ : L2.St} {H : Hp} {Q : VK} (hL : SL X.K m H τ σ) (hS : SS X.kw m st H)
    (hP : Pe X.kw (fun c d H' => W c d σ H') (fun m' H' ds v => ∃ a vs, v = .ref a ∧ H' a = some (.lst vs) ∧ a ∉ m' ∧ H a = none ∧ RDs X.K m' H' ds vs) m H (lComp (own.map (·.2)) fi set ft fe τ st) Q) :
    tLc (wI X tg iter) (gAll X scope tg) (tAll X scope ifs) (eAll X scope elt) (own.map (·.2)) σ H Q := by
  unfold lComp at hP
  refine hi.run m τ st σ H _ hL hS ?_
  cases hq : fi τ st with
  | bad =>
    rw [hq] at hP
    exact hP.elim
  | exc x s1 =>
    rw [hq] at hP
    exact hP
  | ok q s1 =>
    rw [hq] at hP
    intro m1 H1 J e1 hS1 hJ D' hD
    have hP : Pe X.kw (fun c d H' => W c d σ H') (fun m' H' ds v => ∃ a vs, v = .ref a ∧ H' a = some (.lst vs) ∧ a ∉ m' ∧ H a = none ∧ RDs X.K m' H' ds vs) m H (if q.items.length ≤ 16777216 then compL q set ft fe (wipeD τ (own.map (·.2))) q.items [] s1 else .bad) Q := hP
    split at hP
    · rename_i hz
      exact comp_read (E := fun c d H' => W c d σ H') hown hg ht he e1 (hL.mono e1) hS1 hJ hz (hP.up e1) D' hD
    · exact hP.elim
theorem el_comp {tg elt iter : Expr} {ifs : List Expr} {scope : Scope} {own : List (Str × Nat)} {ix : List Nat} {set : D → Sl → Option Sl} {ft : EM Bool} {fe : EM D} {fi : EM Sq} (hc : X.calm = true) (hN : X.N.Nodup) (hi : Ei X W tg iter fi) (ok : BlkOk X.N X.env.scope scope own)
    (hg : BEg X scope tg ix set) (ht : BEt X scope ifs ft) (he : BEx X scope elt fe) (hown : ∀ i ∈ ix, i ∈ own.map (·.2) := by decide) (hs : ∀ x, foldedSetIterable iter X.env x = pure x := by intro _; rfl) :
    El X W (.ListComp elt [⟨tg, iter, ifs, 0⟩] scope pos) (lComp (own.map (·.2)) fi set ft fe) := by
  refine ⟨fun m τ st σ H Q hL hS hP pins s I => ?_⟩
  refine (pe_lc (g := gAll X scope tg) (tt := tAll X scope ifs) (te := eAll X scope elt) hc hN piW ok ?_ ?_ ?_ hs).run pins s σ H Q I (comp_post hi hown hg ht he hL hS hP)
  · exact fun s H C cl fp => ⟨fun pins s' σ H' v u Q I r h => h s H C cl fp pins s' u I r⟩
  · exact fun s H C cl fp => ⟨fun pins s' σ H' Q I h => h s H C cl fp pins s' I⟩
  · exact fun s H C cl fp => ⟨fun pins s' σ H' Q I h => h s H C cl fp pins s' I⟩
end

/-! ### statements -/
/-- behind a statement -/
def Ps (K : KW) (W : WX) (m : List Addr) (H : Hp) (r : SR) (D : Ends) : Prop := match r with
  | .nx τ st => ∀ m' H' σ, Ext K m H m' H' → SS K m' st H' → SL K m' H' τ σ → D.nx σ H'
  | .bk τ st => ∀ m' H' σ, Ext K m H m' H' → SS K m' st H' → SL K m' H' τ σ → D.bk σ H'
  | .ct τ st => ∀ m' H' σ, Ext K m H m' H' → SS K m' st H' → SL K m' H' τ σ → D.ct σ H'
  | .rt d st => ∀ m' H' v, Ext K m H m' H' → SS K m' st H' → RD K m' H' d v → D.rt v H'
  | .exc x τ st => ∀ m' H' σ c d, Ext K m H m' H' → SS K m' st H' → SL K m' H' τ σ → XR K m' H' x c d → W c d σ H'
  | .bad => False
theorem Ps.up {K : KW} {W : WX} {m m1 : List Addr} {H H1 : Hp} {r : SR} {D : Ends} (h : Ps K W m H r D) (e : Ext K m H m1 H1) : Ps K W m1 H1 r D := by
  cases r with
  | nx τ st => exact fun m' H' σ e' => h m' H' σ (e.trans e')
  | bk τ st => exact fun m' H' σ e' => h m' H' σ (e.trans e')
  | ct τ st => exact fun m' H' σ e' => h m' H' σ (e.trans e')
  | rt d st => exact fun m' H' σ e' => h m' H' σ (e.trans e')
  | exc x τ st => exact fun m' H' σ c d e' => h m' H' σ c d (e.trans e')
  | bad => exact h
def wS (X : Cx) (st : Stmt) : TS := fun D σ H => ∀ (pins : List (Addr × Obj)) (s : Shared), Inv X pins σ H s → wpAny (model X.prog X.w) X.A (exec st X.env) (SP X pins D) X.xe s
def wSs (X : Cx) (st : List Stmt) : TS := fun D σ H => ∀ (pins : List (Addr × Obj)) (s : Shared), Inv X pins σ H s → wpAny (model X.prog X.w) X.A (execs st X.env) (SP X pins D) X.xe s
theorem psW {X : Cx} {st : Stmt} : PS X st (wS X st) := ⟨fun pins s σ H D I h => h pins s I⟩
theorem pssW {X : Cx} {st : List Stmt} : PSs X st (wSs X st) := ⟨fun pins s σ H D I h => h pins s I⟩
structure Sx (X : Cx) (W : WX) (st : Stmt) (f : SM) : Prop where
  run : ∀ (m : List Addr) (τ : Sl) (s : Store) (σ : L2.St) (H : Hp) (D : Ends), SL X.K m H τ σ → SS X.kw m s H → Ps X.kw W m H (f τ s) D → wS X st D σ H
structure Sxs (X : Cx) (W : WX) (st : List Stmt) (f : SM) : Prop where
  run : ∀ (m : List Addr) (τ : Sl) (s : Store) (σ : L2.St) (H : Hp) (D : Ends), SL X.K m H τ σ → SS X.kw m s H → Ps X.kw W m H (f τ s) D → wSs X st D σ H
/-- an expression, then the rest of a statement -/
def bindE {α : Type} (r : ER α) (τ : Sl) (k : α → Store → SR) : SR := match r with
  | .ok a st => k a st
  | .exc x st => .exc x τ st
  | .bad => .bad
@[simp] theorem bindE_ok {α : Type} (a : α) (st : Store) (τ : Sl) (k : α → Store → SR) : bindE (.ok a st) τ k = k a st := rfl
@[simp] theorem bindE_exc {α : Type} (x : Xc) (st : Store) (τ : Sl) (k : α → Store → SR) : bindE (.exc x st : ER α) τ k = .exc x τ st := rfl
@[simp] theorem bindE_bad {α : Type} (τ : Sl) (k : α → Store → SR) : bindE (.bad : ER α) τ k = .bad := rfl
theorem Ps.bind {α β : Type} {K : KW} {W : WX} {R : List Addr → Hp → α → β → Prop} {m : List Addr} {H : Hp} {r : ER α} {τ : Sl} {σ : L2.St} {k : α → Store → SR} {D : Ends} {Q : β → Hp → Prop} (hL : SL K m H τ σ) (h : Ps K W m H (bindE r τ k) D)
    (hk : ∀ a st m' H' b, Ext K m H m' H' → SS K m' st H' → R m' H' a b → Ps K W m' H' (k a st) D → Q b H') : Pe K (fun c d H' => W c d σ H') R m H r Q := by
  cases r with
  | ok a st => exact fun m' H' b e s q => hk a st m' H' b e s q (Ps.up h e)
  | exc x st => exact fun m' H' c d e s q => h m' H' σ c d e s (hL.mono e) q
  | bad => exact h
def sSeq (f g : SM) : SM := fun τ st => match f τ st with
  | .nx τ1 s1 => g τ1 s1
  | r => r
def sNil : SM := fun τ st => .nx τ st
section
variable {X : Cx} {W : WX} {e a b c : Expr} {es rest : List Expr} {pos p : Pos} {fa fb fc fe : EM D} {fs : EM (List D)} {g ga gb : EM Bool} {s1 : Stmt} {ss body : List Stmt} {f h k : SM}
theorem sx_nil : Sxs X W [] sNil := ⟨fun m τ s σ H D hL hS hP pins sh I => pss_nil.run pins sh σ H D I (hP m H σ .refl hS hL)⟩
theorem sx_cons (h1 : Sx X W s1 f) (h2 : Sxs X W ss h) : Sxs X W (s1 :: ss) (sSeq f h) := by
  refine ⟨fun m τ s σ H D hL hS hP pins sh I => (pss_cons psW pssW).run pins sh σ H D I (h1.run m τ s σ H _ hL hS ?_)⟩
  unfold sSeq at hP
  cases hq : f τ s with
  | nx τ1 s1 =>
    rw [hq] at hP
    exact fun m1 H1 σ1 e1 hS1 hL1 => h2.run m1 τ1 s1 σ1 H1 D hL1 hS1 (hP.up e1)
  | bk τ1 s1 =>
    rw [hq] at hP
    exact hP
  | ct τ1 s1 =>
    rw [hq] at hP
    exact hP
  | rt d s1 =>
    rw [hq] at hP
    exact hP
  | exc x τ1 s1 =>
    rw [hq] at hP
    exact hP
  | bad =>
    rw [hq] at hP
    exact hP
theorem sx_one (h1 : Sx X W s1 f) : Sxs X W [s1] f := by
  refine ⟨fun m τ s σ H D hL hS hP pins sh I => (pss_one psW).run pins sh σ H D I (h1.run m τ s σ H _ hL hS hP)⟩
theorem sx_pass : Sx X W (.Pass pos) sNil := ⟨fun m τ s σ H D hL hS hP pins sh I => ps_pass.run pins sh σ H D I (hP m H σ .refl hS hL)⟩
def sBrk : SM := fun τ st => .bk τ st
def sCnt : SM := fun τ st => .ct τ st
theorem sx_break : Sx X W (.Break pos) sBrk := ⟨fun m τ s σ H D hL hS hP pins sh I => ps_break.run pins sh σ H D I (hP m H σ .refl hS hL)⟩
theorem sx_continue : Sx X W (.Continue pos) sCnt := ⟨fun m τ s σ H D hL hS hP pins sh I => ps_continue.run pins sh σ H D I (hP m H σ .refl hS hL)⟩
def sRet (fe : EM D) : SM := fun τ st => bindE (fe τ st) τ fun d s1 => .rt d s1
theorem sx_ret (he : Ex X W e fe) : Sx X W (.Return (some e) pos) (sRet fe) := by
  refine ⟨fun m τ s σ H D hL hS hP pins sh I => (ps_ret peW).run pins sh σ H D I ?_⟩
  exact he.run m τ s σ H _ hL hS (hP.bind hL fun d s1 m1 H1 v e1 hS1 r1 hP1 => hP1 m1 H1 v .refl hS1 r1)
def sRetN : SM := fun _ st => .rt .non st
theorem sx_retN : Sx X W (.Return none pos) sRetN := ⟨fun m τ s σ H D hL hS hP pins sh I => ps_retN.run pins sh σ H D I (hP m H .non .refl hS .non)⟩
def sExpr (fe : EM D) : SM := fun τ st => bindE (fe τ st) τ fun _ s1 => .nx τ s1
theorem sx_expr (he : Ex X W e fe) (hs : swapsWith e none pos.line X.env = pure false := by rfl) : Sx X W (.Expr e pos) (sExpr fe) := by
  refine ⟨fun m τ s σ H D hL hS hP pins sh I => (ps_expr peW hs).run pins sh σ H D I ?_⟩
  exact he.run m τ s σ H _ hL hS (hP.bind hL fun d s1 m1 H1 v e1 hS1 r1 hP1 => hP1 m1 H1 σ .refl hS1 (hL.mono e1))
def sIf (g : EM Bool) (f h : SM) : SM := fun τ st => bindE (g τ st) τ fun b s1 => if b then f τ s1 else h τ s1
theorem sx_if {sa sb : List Stmt} (hc : Et X W c g) (ha : Sxs X W sa f) (hb : Sxs X W sb h) : Sx X W (.If c sa sb pos) (sIf g f h) := by
  refine ⟨fun m τ s σ H D hL hS hP pins sh I => (ps_if ptW pssW pssW).run pins sh σ H D I ?_⟩
  refine hc.run m τ s σ H _ hL hS (hP.bind hL fun d s1 m1 H1 v e1 hS1 r1 hP1 => ?_)
  subst r1
  cases d with
  | true => exact iteT (ha.run m1 τ s1 σ H1 D (hL.mono e1) hS1 hP1)
  | false => exact iteF (hb.run m1 τ s1 σ H1 D (hL.mono e1) hS1 hP1)
/-- name = e -/
def sSet (i : Nat) (fe : EM D) : SM := fun τ st => bindE (fe τ st) τ fun d s1 => .nx (τ.set i (some d)) s1
theorem sx_set {i : Nat} {x : Str} {pos' : Pos} (hN : X.N.Nodup) (he : Ex X W e fe) (hi : X.N[i]? = some x := by rfl) (hx : Loc X.env.scope x := by first | exact Or.inl rfl | exact Or.inr rfl) (hs : swapsWith e (some (.Name x pos')) pos.line X.env = pure false := by rfl)
    (hf : X.fn x = true ∨ X.env.scope.names.lookup x = some .local := by first | exact .inl rfl | exact .inr rfl) : Sx X W (.Assign [.Name x pos'] e pos) (sSet i fe) := by
  refine ⟨fun m τ s σ H D hL hS hP pins sh I => (ps_set hN hi hx peW hs hf).run pins sh σ H D I ?_⟩
  exact he.run m τ s σ H _ hL hS (hP.bind hL fun d s1 m1 H1 v e1 hS1 r1 hP1 => hP1 m1 H1 _ .refl hS1 ((hL.mono e1).set i r1))
/-- target = e -/
def sAsg (set : D → Sl → Option Sl) (fe : EM D) : SM := fun τ st => bindE (fe τ st) τ fun d s1 => match set d τ with
  | some τ1 => .nx τ1 s1
  | none => .bad
theorem sx_asg {tg : Expr} {ix : List Nat} {set : D → Sl → Option Sl} (he : Ex X W e fe) (hg : Eg X tg ix set) (hs : swapsWithSole [tg] e pos.line X.env = pure false := by rfl) (hw : swappedStores [tg] e X.env = pure none := by rfl) (h1 : (assignEach [tg] X.env).map (·.2) = [assign tg X.env] := by rfl) : Sx X W (.Assign [tg] e pos) (sAsg set fe) := by
  refine ⟨fun m τ s σ H D hL hS hP pins sh I => (ps_asg peW pgW hs hw h1).run pins sh σ H D I ?_⟩
  refine he.run m τ s σ H _ hL hS (hP.bind hL fun d s1 m1 H1 v e1 hS1 r1 hP1 => ?_)
  split at hP1
  · rename_i τ1 hset
    exact hg.run m1 τ τ1 s1 σ H1 d v _ (hL.mono e1) hS1 r1 hset fun σ2 _ _ hL2 => hP1 m1 H1 σ2 .refl hS1 hL2
  · exact hP1.elim
/-- name op= e -/
def sAug (i : Nat) (o : O2) (fe : EM D) : SM := fun τ st => match τ[i]? with
  | some (some x) => bindE (fe τ st) τ fun y s1 => bindE (o x y s1) τ fun z s2 => .nx (τ.set i (some z)) s2
  | _ => .bad
theorem sx_aug {i : Nat} {x : Str} {pos' : Pos} {op : Operator} {o : O2} (hN : X.N.Nodup) (he : Ex X W e fe) (ho : OpM X W (inplaceOp op) o) (hi : X.N[i]? = some x := by rfl) (hx : Loc X.env.scope x := by first | exact Or.inl rfl | exact Or.inr rfl)
    (hf : X.fn x = true ∨ X.env.scope.names.lookup x = some .local := by first | exact .inl rfl | exact .inr rfl) : Sx X W (.AugAssign (.Name x pos') op e pos) (sAug i o fe) := by
  refine ⟨fun m τ s σ H D hL hS hP pins sh I => ?_⟩
  unfold sAug at hP
  split at hP
  · rename_i d0 hd0
    obtain ⟨v0, h1, h2⟩ := hL.get i d0 hd0
    obtain ⟨mm, hn, hl⟩ := I.loc
    have vis : Vis X.env.scope x := by
      rcases hx with k | k
      · exact .inl k
      · exact .inr (.inl k)
    obtain ⟨u0, r0, l⟩ := hl i x v0 hi h1 vis
    refine wpAny_AugAssign_Name ?_
    have go : wpAny (model X.prog X.w) X.A (eval e X.env) (fun w s₂ => wpAny (model X.prog X.w) X.A (inplaceOp op u0 w) (fun r s₃ => wpAny (model X.prog X.w) X.A (storeName X.env x r) (fun _ => SP X pins D .next) X.xe s₃) X.xe s₂) X.xe sh := by
      refine thn (he.run m τ s σ H (fun y H1 => wR2 X (inplaceOp op) σ v0 y H1 fun z H2 => D.nx (σ.set i (some z)) H2) hL hS (hP.bind hL fun dy s1 m1 H1 y e1 hS1 r1 hP1 pins s v u I rx ry => ?_) pins sh I) fun w s1 ⟨y, H1, I1, r1, q1⟩ => ?_
      · exact ho m1 s1 σ H1 d0 dy v0 y _ hS1 (h2.mono e1) r1 (hP1.bind (hL.mono e1) fun dz s2 m2 H2 z e2 hS2 r2 hP2 => hP2 m2 H2 _ .refl hS2 (((hL.mono e1).mono e2).set i r2)) pins s v u I rx ry
      · refine thn (q1 pins s1 u0 w I1 r0 r1) fun z s2 ⟨zv, H2, I2, r2, q2⟩ => ?_
        exact store_ok I2 hN hi hx r2 (fun s3 I3 => ⟨_, H2, I3, q2⟩) hf
    rcases l with ⟨hk, hm⟩ | ⟨hk, c, hc, hcell⟩
    · exact wpAny_loadName_local I.ok.kind hk hn hm go
    · rcases hk with hk | hk
      · exact wpAny_loadName_cell I.ok.kind hk hc hcell go
      · rcases hx with k | k
        · have : X.env.scope.names.lookup x = some .free := hk
          rw [k] at this
          cases this
        · have : X.env.scope.names.lookup x = some .free := hk
          rw [k] at this
          cases this
  · exact hP.elim
/-- o[i] = e (a list) -/
def oSetS : D → D → D → Store → Option Store := fun o i v st => match o, i with
  | .ref n, .int k => match lstAt st n with
    | some xs => match ixN xs.length k with
      | some j => some (st.set n (.lst (xs.set j v)))
      | none => none
    | none => none
  | _, _ => none
/-- the order: the value, then the object, then the index -/
def sSubS (fo fi fe : EM D) : SM := fun τ st => bindE (fe τ st) τ fun v s1 => bindE (fo τ s1) τ fun o s2 => bindE (fi τ s2) τ fun i s3 => match oSetS o i v s3 with
  | some s4 => .nx τ s4
  | none => .bad
theorem set_readS {K : KW} {m : List Addr} {st st' : Store} {H : Hp} {o i v : D} {vo vi vv : V} (hS : SS K m st H) (ro : RD K m H o vo) (ri : RD K m H i vi) (rv : RD K m H v vv) (h : oSetS o i v st = some st') :
    ∃ p xs k j, vo = .ref p ∧ vi = .int k ∧ H p = some (.lst xs) ∧ ixN xs.length k = some j ∧ Ext K m H m (upd H p (.lst (xs.set j vv))) ∧ SS K m st' (upd H p (.lst (xs.set j vv))) := by
  unfold oSetS at h
  split at h
  · split at h
    · rename_i xs hx
      split at h
      · rename_i j hj
        cases h
        cases ro with
        | ref q =>
          cases ri
          obtain ⟨vs, h1, h2⟩ := hS.list hx q
          exact ⟨_, vs, _, j, rfl, rfl, h1, by rw [← h2.len]; exact hj, Ext.write h1 q, hS.write h1 q (h2.set rv j)⟩
      · cases h
    · cases h
  · cases h
theorem sx_subS {o i : Expr} {p' : Pos} {fo fi : EM D} (he : Ex X W e fe) (ho : Ex X W o fo) (hi : Ex X W i fi)
    (ha : ∀ v, assign (.Subscript o i p') X.env v = (do
      let ov ← holding [v] (eval o X.env)
      let iv ← holding [v, ov] (eval i X.env)
      standAt p'
      holding [v, ov, iv] (setItem ov iv v)
      release [v, ov, iv] []) := by intro _; rfl)
    (hs : swapsWithSole [.Subscript o i p'] e pos.line X.env = pure false := by rfl) (hw : swappedStores [.Subscript o i p'] e X.env = pure none := by rfl) (h1 : (assignEach [.Subscript o i p'] X.env).map (·.2) = [assign (.Subscript o i p') X.env] := by rfl) : Sx X W (.Assign [.Subscript o i p'] e pos) (sSubS fo fi fe) := by
  refine ⟨fun m τ s σ H D hL hS hP pins sh I => (ps_asg peW (pg_sub peW peW set_list ha) hs hw h1).run pins sh σ H D I ?_⟩
  refine he.run m τ s σ H _ hL hS (hP.bind hL fun v s1 m1 H1 vv e1 hS1 r1 hP1 => ?_)
  refine ho.run m1 τ s1 σ H1 _ (hL.mono e1) hS1 (hP1.bind (hL.mono e1) fun o s2 m2 H2 vo e2 hS2 r2 hP2 => ?_)
  refine hi.run m2 τ s2 σ H2 _ ((hL.mono e1).mono e2) hS2 (hP2.bind ((hL.mono e1).mono e2) fun i s3 m3 H3 vi e3 hS3 r3 hP3 => ?_)
  split at hP3
  · rename_i s4 h4
    obtain ⟨p, xs, k, j, q1, q2, q3, q4, q5, q6⟩ := set_readS hS3 (r2.mono e3) r3 ((r1.mono e2).mono e3) h4
    exact ⟨p, xs, k, j, q1, q2, q3, q4, hP3 m3 _ σ q5 q6 ((((hL.mono e1).mono e2).mono e3).mono q5)⟩
  · exact hP3.elim
/-- o[i] op= e -/
def oGetLS : O2 := fun x i st => match x, i with
  | .ref n, .int k => match lstAt st n with
    | some xs => match atI xs k with
      | some d => .ok d st
      | none => .bad
    | none => .bad
  | _, _ => .bad
def sAugSS (o : O2) (fo fi fe : EM D) : SM := fun τ st => bindE (fo τ st) τ fun x s1 => bindE (fi τ s1) τ fun i s2 => bindE (oGetLS x i s2) τ fun y s3 => bindE (fe τ s3) τ fun z s4 => bindE (o y z s4) τ fun v s5 => match oSetS x i v s5 with
  | some s6 => .nx τ s6
  | none => .bad
theorem get_list : PGet X (rIxL X.K) := by
  intro pins s σ H x y v u Q I rx ry h
  obtain ⟨p, xs, i, z, rfl, rfl, hq, he, q⟩ := h
  cases rx
  obtain ⟨t, rfl⟩ := ry
  obtain ⟨its, r, pl, hz⟩ := I.list hq
  obtain ⟨j, h1, h2, h3, h4, h5⟩ := atI_get he
  obtain ⟨w, ew, rw'⟩ := r.get h2
  have hl := r.length
  have hn := line63
  have fin : EP X pins σ Q w s := ⟨z, H, I, rw', q⟩
  by_cases h0 : 0 ≤ i
  · have hj : i.toNat = j := by
      rw [seqIndex_of h0 h5] at h1
      exact Option.some.inj h1
    exact wpAny_getItem_list pl.isList h0 (by omega) (by rw [hj]; simpa using ew) fin
  · have hj : (i + (its.toArray.size : Int)).toNat = j := by
      rw [seqIndex_neg (by omega) h4] at h1
      rw [List.size_toArray, ← hl]
      exact Option.some.inj h1
    exact wpAny_getItem_list_neg pl.isList (by omega) (by rw [List.size_toArray] <;> omega) (by omega) (by rw [hj]; simpa using ew) fin
theorem getL_readS {K : KW} {E : XK} {m : List Addr} {st : Store} {H : Hp} {x i : D} {vx vi : V} {Q : VK} (hS : SS K m st H) (rx : RD K m H x vx) (ri : RD K m H i vi) (h : Pe K E (RD K) m H (oGetLS x i st) Q) : rIxL K vx vi H Q := by
  unfold oGetLS at h
  split at h
  · split at h
    · split at h
      · rename_i xs hx _ d hd
        cases rx with
        | ref q =>
          cases ri
          obtain ⟨vs, h1, h2⟩ := hS.list hx q
          obtain ⟨v, h3, h4⟩ := atI_rds h2 hd
          exact ⟨_, vs, _, v, rfl, rfl, SqL.of h1, h3, h.now hS h4⟩
      · exact h.elim
    · exact h.elim
  · exact h.elim
theorem sx_augSS {o i : Expr} {p' : Pos} {fo fi : EM D} {op : Operator} {op2 : O2} (ho : Ex X W o fo) (hi : Ex X W i fi) (he : Ex X W e fe) (hop : OpM X W (inplaceOp op) op2)
    (ha : ∀ ov iv new, augStore i ov iv new = (do holding [new, ov, iv] (setItem ov iv new); release [new, ov, iv] []; pure .next) := by intros; rfl) : Sx X W (.AugAssign (.Subscript o i p') op e pos) (sAugSS op2 fo fi fe) := by
  refine ⟨fun m τ s σ H D hL hS hP pins sh I => ?_⟩
  have read : wE X o σ H fun vo H1 => wE X i σ H1 fun vi H2 => rIxL X.K vo vi H2 fun vy H3 => wE X e σ H3 fun vz H4 => wR2 X (inplaceOp op) σ vy vz H4 fun vv H5 => rSetL vo vi vv H5 fun H6 => D.nx σ H6 := by
    refine ho.run m τ s σ H _ hL hS (hP.bind hL fun dx s1 m1 H1 vx e1 hS1 r1 hP1 => ?_)
    have hL1 := hL.mono e1
    refine hi.run m1 τ s1 σ H1 _ hL1 hS1 (hP1.bind hL1 fun di s2 m2 H2 vi e2 hS2 r2 hP2 => ?_)
    have hL2 := hL1.mono e2
    refine getL_readS hS2 (r1.mono e2) r2 (hP2.bind hL2 fun dy s3 m3 H3 vy e3 hS3 r3 hP3 => ?_)
    have hL3 := hL2.mono e3
    refine he.run m3 τ s3 σ H3 _ hL3 hS3 (hP3.bind hL3 fun dz s4 m4 H4 vz e4 hS4 r4 hP4 => ?_)
    have hL4 := hL3.mono e4
    intro pins s v u I rv ru
    refine hop m4 s4 σ H4 dy dz vy vz _ hS4 (r3.mono e4) r4 (hP4.bind hL4 fun dv s5 m5 H5 vv e5 hS5 r5 hP5 => ?_) pins s v u I rv ru
    have hL5 := hL4.mono e5
    split at hP5
    · rename_i s6 h6
      have e25 := ((e3.trans e4).trans e5)
      obtain ⟨p, xs, k, j, q1, q2, q3, q4, q5, q6⟩ := set_readS hS5 ((r1.mono e2).mono e25) (r2.mono e25) r5 h6
      exact ⟨p, xs, k, j, q1, q2, q3, q4, hP5 m5 _ σ q5 q6 (hL5.mono q5)⟩
    · exact hP5.elim
  refine wpAny_AugAssign_SubscriptAny (thn (read pins sh I) fun ov s1 ⟨x1, H1, I1, r1, q1⟩ => ?_) ha
  refine thn (q1 pins s1 I1) fun iv s2 ⟨x2, H2, I2, r2, q2⟩ => ?_
  refine thn (get_list pins s2 σ H2 x1 x2 ov iv _ I2 r1 r2 q2) fun old s3 ⟨x3, H3, I3, r3, q3⟩ => ?_
  refine thn (q3 pins s3 I3) fun v s4 ⟨x4, H4, I4, r4, q4⟩ => ?_
  refine thn (q4 pins s4 old v I4 r3 r4) fun new s5 ⟨x5, H5, I5, r5, q5⟩ => ?_
  exact thn (set_list pins s5 σ H5 x1 x2 x5 ov iv new _ I5 r1 r2 r5 q5) fun _ s6 ⟨H6, I6, q6⟩ => ⟨σ, H6, I6, q6⟩
/-! ### loops -/
def forL (q : Sq) (set : D → Sl → Option Sl) (body : SM) : List D → SM
  | [], τ, st => if q.chk st then .nx τ st else .bad
  | d :: ds, τ, st => if q.chk st then match set d τ with
    | some τ1 => match body τ1 st with
      | .nx τ2 s2 => forL q set body ds τ2 s2
      | .ct τ2 s2 => forL q set body ds τ2 s2
      | .bk τ2 s2 => .nx τ2 s2
      | r => r
    | none => .bad
  else .bad
def sFor (fi : EM Sq) (set : D → Sl → Option Sl) (body : SM) : SM := fun τ st => bindE (fi τ st) τ fun q s1 => forL q set body q.items τ s1
theorem sx_for {tg iter : Expr} {ix : List Nat} {set : D → Sl → Option Sl} {fi : EM Sq} (hp : PassesOwn (model X.prog X.w) X.A X.env X.xe) (hc : X.calm = true) (hi : Ei X W tg iter fi) (hg : Eg X tg ix set) (hb : Sxs X W body f) (hs : ∀ x, foldedSetIterable iter X.env x = pure x := by intro _; rfl) : Sx X W (.For tg iter body [] pos) (sFor fi set f) := by
  refine ⟨fun m τ s σ H D hL hS hP pins sh I => (ps_for hp hc piW pgW pssW hs).run pins sh σ H D I ?_⟩
  refine hi.run m τ s σ H _ hL hS (hP.bind hL fun q s1 m1 H1 J e1 hS1 hJ hP1 => ?_)
  refine ⟨fun i k σ H => k = q.items.length - i ∧ i ≤ q.items.length ∧ ∃ (m : List Addr) (τ : Sl) (st : Store), Ext X.K m1 H1 m H ∧ SS X.kw m st H ∧ SL X.K m H τ σ ∧ Ps X.kw W m H (forL q set f (q.items.drop i) τ st) D, ⟨_, rfl, Nat.zero_le _, m1, τ, s1, .refl, hS1, hL.mono e1, by rw [List.drop_zero]; exact hP1⟩, ?_⟩
  rintro i k σ H ⟨rfl, hi, m, τ, st, e, hS, hL, hP⟩
  by_cases hlt : i < q.items.length
  · rw [List.drop_eq_getElem_cons hlt] at hP
    unfold forL at hP
    split at hP
    · rename_i hc
      obtain ⟨hgo, _⟩ := hJ m H st e hS hc
      obtain ⟨go, yl⟩ := hgo i q.items[i] (by simp [hlt])
      split at hP
      · rename_i τ1 hset
        refine .inr ⟨go, fun σ' H' => i + 1 ≤ q.items.length ∧ ∃ (m : List Addr) (τ : Sl) (st : Store), Ext X.K m1 H1 m H' ∧ SS X.kw m st H' ∧ SL X.K m H' τ σ' ∧ Ps X.kw W m H' (forL q set f (q.items.drop (i + 1)) τ st) D, fun σ' H' h => ⟨q.items.length - (i + 1), by omega, rfl, h⟩, fun x H' hy => ?_⟩
        obtain ⟨e2, s2, r2⟩ := yl x H' hy
        refine hg.run m τ τ1 st σ H' _ x _ (hL.mono e2) s2 r2 hset fun σ2 _ _ hL2 => ?_
        refine hb.run m τ1 st σ2 H' _ hL2 s2 ?_
        have hP := hP.up e2
        cases hq : f τ1 st with
        | nx τ2 s3 =>
          rw [hq] at hP
          exact fun m3 H3 σ3 e3 hS3 hL3 => ⟨by omega, m3, τ2, s3, e.trans (e2.trans e3), hS3, hL3, hP.up e3⟩
        | ct τ2 s3 =>
          rw [hq] at hP
          exact fun m3 H3 σ3 e3 hS3 hL3 => ⟨by omega, m3, τ2, s3, e.trans (e2.trans e3), hS3, hL3, hP.up e3⟩
        | bk τ2 s3 =>
          rw [hq] at hP
          exact hP
        | rt d s3 =>
          rw [hq] at hP
          exact hP
        | exc x τ2 s3 =>
          rw [hq] at hP
          exact hP
        | bad =>
          rw [hq] at hP
          exact hP
      · exact hP.elim
    · exact hP.elim
  · have e0 : i = q.items.length := by omega
    subst e0
    rw [List.drop_length] at hP
    unfold forL at hP
    split at hP
    · rename_i hc
      obtain ⟨_, stop⟩ := hJ m H st e hS hc
      exact .inl ⟨stop, hP m H σ .refl hS hL⟩
    · exact hP.elim
/-- more turns than any loop here takes -/
@[irreducible] def big : Nat := 2 ^ 20000
theorem le_big {k n : Nat} (hk : k ≤ 20000) (h : n ≤ 2 ^ k) : n ≤ big := by
  unfold big
  exact Nat.le_trans h (Nat.pow_le_pow_right (by decide) hk)
/-- while, at most n turns -/
def whileN (g : EM Bool) (body : SM) : Nat → SM
  | 0, _, _ => .bad
  | n + 1, τ, st => bindE (g τ st) τ fun b s1 => if b then match body τ s1 with
      | .nx τ2 s2 => whileN g body n τ2 s2
      | .ct τ2 s2 => whileN g body n τ2 s2
      | .bk τ2 s2 => .nx τ2 s2
      | r => r
    else .nx τ s1
theorem sx_while {c : Expr} (n : Nat) (hp : PassesOwn (model X.prog X.w) X.A X.env X.xe) (hc : Et X W c g) (hb : Sxs X W body f) : Sx X W (.While c body [] pos) (whileN g f n) := by
  refine ⟨fun m τ s σ H D hL hS hP pins sh I => (ps_while hp ptW pssW).run pins sh σ H D I ?_⟩
  refine ⟨fun k σ H => ∃ (m : List Addr) (τ : Sl) (st : Store), SS X.kw m st H ∧ SL X.K m H τ σ ∧ Ps X.kw W m H (whileN g f k τ st) D, ⟨n, m, τ, s, hS, hL, hP⟩, ?_⟩
  rintro k σ H ⟨m, τ, st, hS, hL, hP⟩
  cases k with
  | zero => exact hP.elim
  | succ k =>
    refine hc.run m τ st σ H _ hL hS (hP.bind hL fun b s1 m1 H1 b' e1 hS1 r1 hP1 => ?_)
    subst r1
    cases b with
    | false => exact iteF (hP1 m1 H1 σ .refl hS1 (hL.mono e1))
    | true =>
      refine iteT ⟨fun σ' H' => ∃ (m : List Addr) (τ : Sl) (st : Store), SS X.kw m st H' ∧ SL X.K m H' τ σ' ∧ Ps X.kw W m H' (whileN g f k τ st) D, fun σ' H' h => ⟨k, Nat.lt_succ_self k, h⟩, ?_⟩
      refine hb.run m1 τ s1 σ H1 _ (hL.mono e1) hS1 ?_
      have hP1 : Ps X.kw W m1 H1 (match f τ s1 with
        | .nx τ2 s2 => whileN g f k τ2 s2
        | .ct τ2 s2 => whileN g f k τ2 s2
        | .bk τ2 s2 => .nx τ2 s2
        | r => r) D := hP1
      cases hq : f τ s1 with
      | nx τ2 s3 =>
        rw [hq] at hP1
        exact fun m3 H3 σ3 e3 hS3 hL3 => ⟨m3, τ2, s3, hS3, hL3, hP1.up e3⟩
      | ct τ2 s3 =>
        rw [hq] at hP1
        exact fun m3 H3 σ3 e3 hS3 hL3 => ⟨m3, τ2, s3, hS3, hL3, hP1.up e3⟩
      | bk τ2 s3 =>
        rw [hq] at hP1
        exact hP1
      | rt d s3 =>
        rw [hq] at hP1
        exact hP1
      | exc x τ2 s3 =>
        rw [hq] at hP1
        exact hP1
      | bad =>
        rw [hq] at hP1
        exact hP1
end
end HM

/-! HM, part 7: raise, try; defs; the law's end. -/
namespace HM
open PySem PySem.Spec PyProof.Rows L2
section
variable {X : Cx} {W : WX} {e a b c : Expr} {es rest : List Expr} {pos p : Pos} {fa fb fc fe : EM D} {fs : EM (List D)} {g ga gb : EM Bool} {s1 : Stmt} {ss body suite : List Stmt} {f h k : SM}
def sRaise (x : Xc) : SM := fun τ st => .exc x τ st
theorem sx_raiseB {T N I : String} {x : Str} {m : Str} {j : Nat} {p2 pos' : Pos} (hc : X.calm = true) (tk : Takes X W) (F : ExcB T N I) (hg : Gl X x) (hm : X.mg x = none) (hv : bootBuiltins x = some (.type T)) (hn : x ≠ "__name__" := by decide) (hdb : (x == ("__debug__" : Str)) = false := by decide) :
    Sx X W (.Raise (some (.Call (.Name x p) [.Constant (.str m) j p2] [] pos)) none pos') (sRaise ⟨.ty T, []⟩) :=
  ⟨fun m τ s σ H D hL hS hP pins sh I => (ps_raiseB hc tk F hg hm hv hn hdb).run pins sh σ H D I (hP m H σ _ _ .refl hS hL ⟨rfl, rfl⟩)⟩
def sTry (f : SM) (mt : D → Option Bool) (h : SM) : SM := fun τ st => match f τ st with
  | .exc x τ1 s1 => match mt x.cls with
    | some true => h τ1 s1
    | some false => .exc x τ1 s1
    | none => .bad
  | r => r
theorem sx_try {x : Str} {c : Value} {b₀ : Stmt} {np pos' : Pos} {mt : D → Option Bool} (hs : X.stack = X.env :: X.outer) (hf : X.env.frame = some X.env.locals) (hc : Names X x c) (tk : Takes X W) (hmt : ∀ (m : List Addr) (H : Hp) (y : Xc) (cls : Value) (d : Option Addr) (b : Bool), XR X.K m H y cls d → mt y.cls = some b → PySem.W.exmOne X.K cls c = some b)
    (hb : ∀ (W : WX) (pn : List (Addr × Obj)) (xe : Value → Shared → Prop), Takes (X.tr pn xe) W → PassesOwn (model X.prog X.w) X.A X.env xe → Sxs (X.tr pn xe) W body f)
    (hsu : ∀ (a : Addr) (oe : Obj) (pn : List (Addr × Obj)), Sxs (X.suite a ((a, oe) :: pn)) (fun _ _ _ _ => False) (b₀ :: suite) h)
    (hno : ∀ τ st x τ1 s1, h τ st ≠ .exc x τ1 s1) : Sx X W (.Try body [.ExceptHandler (some (.Name x np)) none (b₀ :: suite) pos'] [] [] pos) (sTry f mt h) := by
  refine ⟨fun m τ s σ H D hL hS hP pins sh I => ?_⟩
  refine (ps_try_only (tb := fun W => fun D σ H => ∀ (pn : List (Addr × Obj)) (xe : Value → Shared → Prop), Takes (X.tr pn xe) W → PassesOwn (model X.prog X.w) X.A X.env xe → wSs (X.tr pn xe) body D σ H)
    (ts := fun a cls d => fun D σ H => ∀ (oe : Obj) (pn : List (Addr × Obj)), wSs (X.suite a ((a, oe) :: pn)) (b₀ :: suite) D σ H) hs hf hc tk (fun W pn xe t1 t2 => ⟨fun pins s σ H D I h => h pn xe t1 t2 pins s I⟩) (fun a oe cls d pn _ _ => ⟨fun pins s σ H D I h => h oe pn pins s I⟩)).run pins sh σ H D I ?_
  intro pn xe t1 t2
  refine (hb _ pn xe t1 t2).run m τ s σ H D hL hS ?_
  unfold sTry at hP
  cases hq : f τ s with
  | exc y τ1 s1 =>
    rw [hq] at hP
    intro m1 H1 σ1 cls d e1 hS1 hL1 hX
    have hP : Ps X.kw W m H (match mt y.cls with
      | some true => h τ1 s1
      | some false => .exc y τ1 s1
      | none => .bad) D := hP
    cases hm : mt y.cls with
    | none =>
      rw [hm] at hP
      exact hP.elim
    | some b =>
      rw [hm] at hP
      refine ⟨b, hmt m1 H1 y cls d b hX hm, fun hb' a na oe pn => ?_, fun hb' => ?_⟩
      · subst hb'
        refine (hsu a oe pn).run m1 τ1 s1 σ1 H1 D hL1 hS1 ?_
        have hP := hP.up e1
        cases hh : h τ1 s1 with
        | exc x τ2 s2 => exact absurd hh (hno _ _ _ _ _)
        | nx _ _ =>
          have hP : Ps X.kw W m1 H1 (h τ1 s1) D := hP
          rw [hh] at hP
          exact hP
        | bk _ _ =>
          have hP : Ps X.kw W m1 H1 (h τ1 s1) D := hP
          rw [hh] at hP
          exact hP
        | ct _ _ =>
          have hP : Ps X.kw W m1 H1 (h τ1 s1) D := hP
          rw [hh] at hP
          exact hP
        | rt _ _ =>
          have hP : Ps X.kw W m1 H1 (h τ1 s1) D := hP
          rw [hh] at hP
          exact hP
        | bad =>
          have hP : Ps X.kw W m1 H1 (h τ1 s1) D := hP
          rw [hh] at hP
          exact hP
      · subst hb'
        exact hP m1 H1 σ1 cls d e1 hS1 hL1 hX
  | nx _ _ =>
    rw [hq] at hP
    exact hP
  | bk _ _ =>
    rw [hq] at hP
    exact hP
  | ct _ _ =>
    rw [hq] at hP
    exact hP
  | rt _ _ =>
    rw [hq] at hP
    exact hP
  | bad =>
    rw [hq] at hP
    exact hP
end

/-- does a built-in class catch -/
def mtB (T : String) : D → Option Bool
  | .ty n => if n = T then some true else none
  | _ => none
theorem mtB_of {K : PySem.W.Frag} {T : String} (h : PySem.W.exmOne K (.type T) (.type T) = some true) (m : List Addr) (H : Hp) (y : Xc) (cls : Value) (d : Option Addr) (b : Bool) (hx : XR K m H y cls d) (hm : mtB T y.cls = some b) : PySem.W.exmOne K cls (.type T) = some b := by
  unfold mtB at hm
  split at hm
  · rename_i n e
    split at hm
    · rename_i hn
      subst hn
      cases hm
      unfold XR at hx
      rw [e] at hx
      obtain ⟨rfl, _⟩ := hx
      exact h
    · cases hm
  · cases hm
theorem mtB_ZeroDivisionError {K : PySem.W.Frag} : ∀ (m : List Addr) (H : Hp) (y : Xc) (cls : Value) (d : Option Addr) (b : Bool), XR K m H y cls d → mtB "ZeroDivisionError" y.cls = some b → PySem.W.exmOne K cls (.type "ZeroDivisionError") = some b := mtB_of (by kernel_rfl)
/-! ### defs -/
/-- the slots at a def's entry -/
def ent (n : Nat) (ds : List D) : Sl := ds.map some ++ List.replicate (n - ds.length) none
def runB (n : Nat) (fb : SM) : FM := fun ds st => match fb (ent n ds) st with
  | .nx _ s => .ok .non s
  | .rt d s => .ok d s
  | .exc x _ s => .exc x s
  | _ => .bad
theorem SL.start {K : PySem.W.Frag} {m : List Addr} {H : Hp} {N : List Str} {ds : List D} {vs : List V} (r : RDs K m H ds vs) : SL K m H (ent N.length ds) (L2.start N vs) where
  len := by simp [ent, L2.start, r.len]
  get := fun i d h => by
    unfold ent at h
    by_cases hi : i < ds.length
    · rw [List.getElem?_append_left (by simpa using hi), List.getElem?_map] at h
      cases hd : ds[i]? with
      | none =>
        rw [hd] at h
        cases h
      | some d' =>
        rw [hd] at h
        simp only [Option.map_some, Option.some.injEq] at h
        subst h
        obtain ⟨v, h1, h2⟩ := r.get hd
        refine ⟨v, ?_, h2⟩
        unfold L2.start
        rw [List.getElem?_append_left (by simpa [← r.len] using hi), List.getElem?_map, h1]
        rfl
    · rw [List.getElem?_append_right (by simpa using hi)] at h
      have z := List.mem_of_getElem? h
      have z2 := List.eq_of_mem_replicate z
      cases z2
section
variable {P : Program} {w : World} {K : PySem.W.Frag} {mg : Str → Option Value} {base : Heap} {x qual : Str} {params : Arguments} {body : List Stmt} {scope : Scope} {dvs : List V} {kws : List (Str × V)} {f : Addr} {fd : FuncData} {N ps : List Str} {k : Nat} {fb : SM}
/-- the context of a def's body -/
abbrev Cd (P : Program) (w : World) (K : PySem.W.Frag) (mg : Str → Option Value) (base : Heap) (N : List Str) (qual : Str) (scope : Scope) (f : Addr) (k : Nat) (B : Cx → WX → Prop) : Prop :=
  ∀ (cdv : Value) (A : Around) (outer : List Env) (s : Shared) (H : Hp) (E : XK), Room k (A.deeper (envOfC qual scope s.heap.objs.size f cdv)) → B (cxOf (L2.CX P w) P w K mg base N qual scope f cdv A outer s H E) (fun c d _ H => E c d H)
theorem fn_def (F : FunD K x qual params body scope dvs kws f fd) (S : FnScope N ps scope)
    (hb : ∀ (cdv : Value) (A : Around) (outer : List Env) (s : Shared) (H : Hp) (E : XK), Room k (A.deeper (envOfC qual scope s.heap.objs.size f cdv)) → Takes (cxOf (L2.CX P w) P w K mg base N qual scope f cdv A outer s H E) (fun c d _ H => E c d H) →
      PassesOwn (model P w) (A.deeper (envOfC qual scope s.heap.objs.size f cdv)) (envOfC qual scope s.heap.objs.size f cdv) (cxOf (L2.CX P w) P w K mg base N qual scope f cdv A outer s H E).xe →
      Sxs (cxOf (L2.CX P w) P w K mg base N qual scope f cdv A outer s H E) (fun c d _ H => E c d H) body fb) : FnM P w K mg base (k + 1) f fd ps (runB N.length fb) := by
  refine F.ok S (fun vs H Q E ⟨m, st, ds, hl, hS, r, _⟩ => by rw [← r.len, hl]) (fun cdv A outer s H vs Q E hr ⟨m, st, ds, hl, hS, r, hP⟩ => ?_)
  refine ⟨_, pssW, (hb cdv A outer s H E hr (takes_of rfl rfl rfl rfl) (passes_of rfl)).run m (ent N.length ds) st (L2.start N vs) H _ (SL.start r) hS ?_⟩
  unfold runB at hP
  cases hq : fb (ent N.length ds) st with
  | nx τ s1 =>
    rw [hq] at hP
    exact fun m1 H1 σ e1 hS1 hL1 => hP m1 H1 .non e1 hS1 .non
  | rt d s1 =>
    rw [hq] at hP
    exact hP
  | exc x τ s1 =>
    rw [hq] at hP
    exact fun m1 H1 σ c d e1 hS1 hL1 hX => hP m1 H1 c d e1 hS1 hX
  | bk τ s1 =>
    rw [hq] at hP
    exact hP.elim
  | ct τ s1 =>
    rw [hq] at hP
    exact hP.elim
  | bad =>
    rw [hq] at hP
    exact hP.elim
end

/-! ### what a def leaves behind may be forgotten -/
mutual
def D.lo (k : Nat) : D → Bool
  | .ref n => decide (n < k)
  | .tup xs => D.loAll k xs
  | .rol xs => D.loAll k xs
  | .adr _ (some _) _ x => D.lo k x
  | _ => true
def D.loAll (k : Nat) : List D → Bool
  | [] => true
  | d :: ds => D.lo k d && D.loAll k ds
end
def Cell.lo (k : Nat) : Cell → Bool
  | .lst xs => D.loAll k xs
  | .dct kvs => kvs.all fun p => p.1.lo k && p.2.lo k
section
variable {K : PySem.W.Frag} {m : List Addr} {H : Hp}
mutual
theorem RD.take {k : Nat} : ∀ {d : D} {v : V}, RD K m H d v → d.lo k = true → RD K (m.take k) H d v
  | _, _, .non, _ => .non
  | _, _, .bl b, _ => .bl b
  | _, _, .int i, _ => .int i
  | _, _, .str x, _ => .str x
  | _, _, .ty n, _ => .ty n
  | _, _, .adr a f x, _ => .adr a f x
  | _, _, .adrF h r, q => .adrF h (RD.take r (by simpa only [D.lo] using q))
  | _, _, .tup h r, q => .tup h (RDs.takeA r (by simpa only [D.lo] using q))
  | _, _, .rol h r, q => .rol h (RDs.takeA r (by simpa only [D.lo] using q))
  | _, _, .ref (n := n) h, q => .ref (by
    have z : n < k := of_decide_eq_true (by simpa only [D.lo] using q)
    rw [List.getElem?_take_of_lt z]
    exact h)
theorem RDs.takeA {k : Nat} : ∀ {ds : List D} {vs : List V}, RDs K m H ds vs → D.loAll k ds = true → RDs K (m.take k) H ds vs
  | _, _, .nil, _ => .nil
  | _, _, .cons h r, q => by
    simp only [D.loAll, Bool.and_eq_true] at q
    exact .cons (RD.take h q.1) (RDs.takeA r q.2)
end
mutual
theorem RD.is_lo {k : Nat} (hk : m.length ≤ k) : ∀ {d : D} {v : V}, RD K m H d v → d.lo k = true
  | _, _, .non => rfl
  | _, _, .bl b => rfl
  | _, _, .int i => rfl
  | _, _, .str x => rfl
  | _, _, .ty n => rfl
  | _, _, .adr a f x => rfl
  | _, _, .adrF h r => by simpa only [D.lo] using RD.is_lo hk r
  | _, _, .tup h r => by simpa only [D.lo] using RDs.is_lo hk r
  | _, _, .rol h r => by simpa only [D.lo] using RDs.is_lo hk r
  | _, _, .ref h => by
    simp only [D.lo, decide_eq_true_eq]
    exact Nat.lt_of_lt_of_le (List.getElem?_eq_some_iff.mp h).1 hk
theorem RDs.is_lo {k : Nat} (hk : m.length ≤ k) : ∀ {ds : List D} {vs : List V}, RDs K m H ds vs → D.loAll k ds = true
  | _, _, .nil => rfl
  | _, _, .cons h r => by simp only [D.loAll, RD.is_lo hk h, RDs.is_lo hk r, Bool.and_self]
end
theorem RC.is_lo {K : KW} {k : Nat} {a : Addr} {c : Cell} (hk : m.length ≤ k) (r : RC K m H a c) : c.lo k = true := by
  cases c with
  | lst ds =>
    obtain ⟨vs, _, r⟩ := r
    exact r.is_lo hk
  | dct kvs =>
    have f1 : ∀ {kvs us}, DRel1 K m H kvs us → (kvs.all fun p => p.1.lo k && p.2.lo k) = true := fun {kvs us} r => by
      induction r with
      | nil => rfl
      | @cons p q ps qs h t ih =>
        obtain ⟨h1, h2⟩ := h
        have z : p.1.lo k = true := by rw [h1]; cases q.1 <;> rfl
        rw [List.all_cons, ih, z, h2.is_lo hk]
        rfl
    have f2 : ∀ {kvs us}, DRel2 K m H kvs us → (kvs.all fun p => p.1.lo k && p.2.lo k) = true := fun {kvs us} r => by
      induction r with
      | nil => rfl
      | @cons p q ps qs h t ih =>
        rw [List.all_cons, ih, h.2.2.1.is_lo hk, h.2.2.2.is_lo hk]
        rfl
    rcases r with ⟨us, _, r⟩ | ⟨xs, _, r⟩
    · exact f1 r
    · exact f2 r.2
theorem RC.take {K : KW} {k : Nat} {a : Addr} {c : Cell} (r : RC K m H a c) (h : c.lo k = true) : RC K (m.take k) H a c := by
  cases c with
  | lst ds =>
    obtain ⟨vs, q, r⟩ := r
    exact ⟨vs, q, r.takeA h⟩
  | dct kvs =>
    have f1 : ∀ {kvs us}, DRel1 K m H kvs us → (kvs.all fun p => p.1.lo k && p.2.lo k) = true → DRel1 K (m.take k) H kvs us := fun {kvs us} r => by
      induction r with
      | nil => exact fun _ => .nil
      | @cons p q ps qs h t ih =>
        intro z
        rw [List.all_cons, Bool.and_eq_true, Bool.and_eq_true] at z
        exact .cons ⟨h.1, h.2.take z.1.2⟩ (ih z.2)
    have f2 : ∀ {kvs us}, DRel2 K m H kvs us → (kvs.all fun p => p.1.lo k && p.2.lo k) = true → DRel2 K (m.take k) H kvs us := fun {kvs us} r => by
      induction r with
      | nil => exact fun _ => .nil
      | @cons p q ps qs h t ih =>
        intro z
        rw [List.all_cons, Bool.and_eq_true, Bool.and_eq_true] at z
        exact .cons ⟨h.1, h.2.1, h.2.2.1.take z.1.1, h.2.2.2.take z.1.2⟩ (ih z.2)
    rcases r with ⟨us, q, r⟩ | ⟨xs, q, r⟩
    · exact .inl ⟨us, q, f1 r h⟩
    · exact .inr ⟨xs, q, r.1, f2 r.2 h⟩
/-- r' says no more than r, or the same with a shorter store -/
inductive Le (st : Store) : ER D → ER D → Prop
  | bad (r : ER D) : Le st r .bad
  | refl (r : ER D) : Le st r r
  | gc {v : D} {s1 : Store} (k : Nat) (hk : st.length ≤ k) (hv : v.lo k = true) (hc : ∀ (i : Nat) (c : Cell), i < k → s1[i]? = some c → st[i]? = some c ∨ c.lo k = true) : Le st (.ok v s1) (.ok v (s1.take k))
theorem Le.pe {K : KW} {E : XK} {st : Store} {r r' : ER D} {Q : VK} (l : Le st r r') (s : SS K m st H) (h : Pe K E (RD K) m H r' Q) : Pe K E (RD K) m H r Q := by
  cases l with
  | bad r => exact h.elim
  | refl r => exact h
  | @gc v s1 k hk hv hc =>
    intro m1 H1 b e1 hS1 r1
    refine h (m1.take k) H1 b ⟨⟨fun n a q => ?_, e1.tup, e1.plt, e1.fzl, e1.xdk⟩, e1.frm, fun a q n => e1.new a (List.mem_of_mem_take q) n⟩ ⟨?_, ?_, fun n c a q1 q2 => ?_⟩ (r1.take hv)
    · have hl : n < m.length := (List.getElem?_eq_some_iff.mp q).1
      rw [s.len] at hl
      rw [List.getElem?_take_of_lt (Nat.lt_of_lt_of_le hl hk)]
      exact e1.pre n a q
    · rw [List.length_take, List.length_take, hS1.len]
    · exact hS1.nd.sublist (List.take_sublist _ _)
    · have hn : n < k := by
        have z := (List.getElem?_eq_some_iff.mp q1).1
        rw [List.length_take] at z
        omega
      rw [List.getElem?_take_of_lt hn] at q1 q2
      refine (hS1.cel n c a q1 q2).take ?_
      rcases hc n c hn q1 with z | z
      · obtain ⟨a0, _, r0⟩ := s.at z
        exact r0.is_lo (by rw [s.len]; exact hk)
      · exact z
theorem FnM.le {P : Program} {w : World} {mg : Str → Option Value} {base : Heap} {k : Nat} {f : Addr} {fd : FuncData} {ps : List Str} {mf sf : FM} (F : FnM P w K mg base k f fd ps mf) (h : ∀ ds st, Le st (mf ds st) (sf ds st)) : FnM P w K mg base k f fd ps sf :=
  FnOk.imp F fun vs H Q E ⟨m, st, ds, hl, hS, r, hP⟩ => ⟨m, st, ds, hl, hS, r, (h ds st).pe hS hP⟩
/-- a value without the store, the store but for what was laid on it -/
theorem Le.app {st more : Store} {v : D} (hv : v.lo st.length = true) : Le st (.ok v (st ++ more)) (.ok v st) := by
  have z := Le.gc (st := st) (v := v) (s1 := st ++ more) st.length (Nat.le_refl _) hv fun i c hi h => by
    rw [List.getElem?_append_left hi] at h
    exact .inl h
  rw [List.take_left] at z
  exact z
end

/-! ### the law -/
theorem law_sp {K : KW} {mf : FM} {n : Nat} (h : ∀ ns : List Int, ns.length ≤ n → ∃ st, mf [.rol (ns.map D.int)] [] = .ok (.bl true) st) (H : Hp) (a : Addr) (ns : List Int) (hl : ns.length ≤ n) (ho : Only H) (hS : SqL K H a (ns.map V.int)) :
    spM K 1 mf [V.ref a] H (fun v _ => v = .bl true) (fun _ _ _ => False) := by
  obtain ⟨st, e⟩ := h ns hl
  refine ⟨[], [], [.rol (ns.map D.int)], rfl, ⟨rfl, .nil, fun n c a q => by simp at q⟩, .cons (.rol (FzL.of hS fun ys z => ?_) (RDs.ints ns)) .nil, ?_⟩
  · rcases ho a with q | ⟨o, xs, q⟩
    · rw [q] at z
      cases z
    · rw [q] at z
      cases z
  · rw [e]
    intro m' H' b _ _ r
    cases r
    rfl
end HM

/-! HM, part 8: defs as they are called; what a text is put together of. -/
namespace HM
open PySem PySem.Spec PyProof.Rows L2
section
variable {X : Cx} {W : WX} {e a b c : Expr} {es rest : List Expr} {pos p : Pos} {fa fb fc fe : EM D} {fs : EM (List D)} {g ga gb : EM Bool} {s1 : Stmt} {ss body suite : List Stmt} {f h k : SM}
/-- a name = [..] on one line -/
theorem sx_setLc {i : Nat} {y : Str} {py spos : Pos} {tg elt iter : Expr} {ifs : List Expr} {scope : Scope} {own : List (Str × Nat)} {ix : List Nat} {set : D → Sl → Option Sl} {ft : EM Bool} {fe : EM D} {fi : EM Sq} (hc : X.calm = true) (hN : X.N.Nodup) (hi : Ei X W tg iter fi) (ok : BlkOk X.N X.env.scope scope own)
    (hg : BEg X scope tg ix set) (ht : BEt X scope ifs ft) (he : BEx X scope elt fe) (hy : X.N[i]? = some y := by rfl) (hyl : X.env.scope.names.lookup y = some .local := by rfl)
    (hsw : swapsWith (.ListComp elt [⟨tg, iter, ifs, 0⟩] scope pos) (some (.Name y py)) spos.line X.env = pure true := by exact sw_true rfl rfl rfl (by decide +kernel)) (hown : ∀ i ∈ ix, i ∈ own.map (·.2) := by decide) (hs : ∀ x, foldedSetIterable iter X.env x = pure x := by intro _; rfl) :
    Sx X W (.Assign [.Name y py] (.ListComp elt [⟨tg, iter, ifs, 0⟩] scope pos) spos) (sSet i (eEl (lComp (own.map (·.2)) fi set ft fe))) := by
  refine ⟨fun m τ st σ H D hL hS hP pins s I => ?_⟩
  refine (ps_setLc (g := gAll X scope tg) (tt := tAll X scope ifs) (te := eAll X scope elt) hc hN hy hyl hsw piW ok ?_ ?_ ?_ hs).run pins s σ H D I (comp_post hi hown hg ht he hL hS ?_)
  · exact fun s H C cl fp => ⟨fun pins s' σ H' v u Q I r h => h s H C cl fp pins s' u I r⟩
  · exact fun s H C cl fp => ⟨fun pins s' σ H' Q I h => h s H C cl fp pins s' I⟩
  · exact fun s H C cl fp => ⟨fun pins s' σ H' Q I h => h s H C cl fp pins s' I⟩
  · unfold sSet eEl at hP
    cases hq : lComp (own.map (·.2)) fi set ft fe τ st with
    | ok ds s1 =>
      rw [hq] at hP
      intro m1 H1 v e1 hS1 ⟨a, vs, e, ha, na, hn, rs⟩
      subst e
      have e2 := e1.own hn
      have r2 : RD X.K (m1 ++ [a]) H1 (.ref s1.length) (.ref a) := .ref (by
        rw [← hS1.len]
        simp)
      exact hP (m1 ++ [a]) H1 _ e2 (hS1.grow na ⟨vs, ha, rs.kp Kp.grow⟩) ((hL.mono e2).set i r2)
    | exc x st' =>
      rw [hq] at hP
      exact fun m' H' c d e s q => hP m' H' σ c d e s (hL.mono e) q
    | bad =>
      rw [hq] at hP
      exact hP.elim

/-! ### defs by name -/
structure Cal (P : Program) (w : World) (K : PySem.W.Frag) (mg : Str → Option Value) (base : Heap) (x : Str) (k : Nat) (ps : List Str) (mf : FM) : Prop where
  ex : ∃ (f : Addr) (fd : FuncData), FnM P w K mg base k f fd ps mf ∧ mg x = some (.ref f) ∧ PySem.W.keepIn K (.ref f) = true ∧ Binds K fd ps [] ∧ ∃ oc od osl, K.lookup f = some ⟨oc, od, .func fd, osl⟩
theorem Cal.le {P : Program} {w : World} {K : PySem.W.Frag} {mg : Str → Option Value} {base : Heap} {x : Str} {k : Nat} {ps : List Str} {mf sf : FM} (c : Cal P w K mg base x k ps mf) (h : ∀ ds st, Le st (mf ds st) (sf ds st)) : Cal P w K mg base x k ps sf := by
  obtain ⟨f, fd, F, r⟩ := c.ex
  exact ⟨f, fd, F.le h, r⟩
theorem Cal.mono {P : Program} {w : World} {K : PySem.W.Frag} {mg : Str → Option Value} {base : Heap} {x : Str} {j k : Nat} {ps : List Str} {mf : FM} (c : Cal P w K mg base x j ps mf) (h : j ≤ k) : Cal P w K mg base x k ps mf := by
  obtain ⟨f, fd, F, r⟩ := c.ex
  exact ⟨f, fd, FnOk.mono F h, r⟩
theorem ex_c1 {P : Program} {w : World} {K : PySem.W.Frag} {mg : Str → Option Value} {base : Heap} {A : Around} {j k : Nat} {ps : List Str} {mf : FM} {x : Str} (c : Cal P w K mg base x j ps mf) (tk : Takes X W) (hr : Room k A) (hj : j ≤ k) (ha : Ea X W (e :: es) fs)
    (h1 : X.prog = P := by rfl) (h2 : X.w = w := by rfl) (h3 : X.K = K := by rfl) (h4 : X.mg = mg := by rfl) (h5 : X.base = base := by rfl) (h6 : X.A = A := by rfl) (hg : Gl X x := by rfl) (hdb : (x == ("__debug__" : Str)) = false := by decide) (he : starEach (e :: es) X.env = (false, eval e X.env) :: starEach es X.env := by rfl)
    (hpl : (backTo pos (starEach es X.env)).any (·.1) = false := by rfl) : Ex X W (.Call (.Name x p) (e :: es) [] pos) (eCall ps.length mf fs) := by
  subst h1 h2 h3 h4 h5 h6
  obtain ⟨f, fd, F, hm, hk, hb, _⟩ := c.ex
  exact ex_call tk F (hr.mono hj) hg hm hk hb ha hdb he hpl
theorem ex_c0 {P : Program} {w : World} {K : PySem.W.Frag} {mg : Str → Option Value} {base : Heap} {A : Around} {j k : Nat} {ps : List Str} {mf : FM} {x : Str} (c : Cal P w K mg base x j ps mf) (tk : Takes X W) (hr : Room k A) (hj : j ≤ k)
    (h1 : X.prog = P := by rfl) (h2 : X.w = w := by rfl) (h3 : X.K = K := by rfl) (h4 : X.mg = mg := by rfl) (h5 : X.base = base := by rfl) (h6 : X.A = A := by rfl) (hg : Gl X x := by rfl) (hdb : (x == ("__debug__" : Str)) = false := by decide) : Ex X W (.Call (.Name x p) [] [] pos) (eCall ps.length mf aNil) := by
  subst h1 h2 h3 h4 h5 h6
  obtain ⟨f, fd, F, hm, hk, hb, _⟩ := c.ex
  exact ex_call0 tk F (hr.mono hj) hg hm hk hb hdb
/-- in a comprehension nothing is let out -/
theorem tk0 : Takes X (fun _ _ _ _ => False) := takes0
end
/-- a def of the text -/
abbrev FnP (K : PySem.W.Frag) (x : Str) (st : Stmt) (f : Addr) (fd : FuncData) : Prop := FunD K x x (defArgs st) (defBody st) (defScope st) [] [] f fd
section
variable {P : Program} {w : World} {K : PySem.W.Frag} {mg : Str → Option Value} {base : Heap}
theorem cal_mk {x : Str} {st : Stmt} {f : Addr} {fd : FuncData} {N ps : List Str} {k : Nat} {fb : SM} (F : FnP K x st f fd) (S : FnScope N ps (defScope st)) (gx : mg x = some (.ref f))
    (bn : ∀ (kV doc pm : Value) (an : Option Addr) (cdv ct : Value) (us : List Value), us.length = ps.length → bindArgs (PySem.W.fnOf x x (defArgs st) (defBody st) (defScope st) .none kV doc pm an cdv ct) ⟨us, []⟩ = pure (ps.zip us))
    (hb : ∀ (cdv : Value) (A : Around) (outer : List Env) (s : Shared) (H : Hp) (E : XK), Room k (A.deeper (envOfC x (defScope st) s.heap.objs.size f cdv)) → Takes (cxOf (L2.CX P w) P w K mg base N x (defScope st) f cdv A outer s H E) (fun c d _ H => E c d H) →
      PassesOwn (model P w) (A.deeper (envOfC x (defScope st) s.heap.objs.size f cdv)) (envOfC x (defScope st) s.heap.objs.size f cdv) (cxOf (L2.CX P w) P w K mg base N x (defScope st) f cdv A outer s H E).xe →
      Sxs (cxOf (L2.CX P w) P w K mg base N x (defScope st) f cdv A outer s H E) (fun c d _ H => E c d H) (defBody st) fb) : Cal P w K mg base x (k + 1) ps (runB N.length fb) :=
  ⟨f, fd, fn_def F S hb, gx, F.kp, F.bindsN bn, let ⟨oc, od, _, _, _, _, _, _, _, osl, e, lk, _⟩ := F.ex; ⟨oc, od, osl, e ▸ lk⟩⟩
end
/-! ### what the built-in names hold -/
theorem bt_len : bootBuiltins "len" = some (.builtin "len") := by decide +kernel
theorem bt_abs : bootBuiltins "abs" = some (.builtin "abs") := by decide +kernel
theorem bt_isinstance : bootBuiltins "isinstance" = some (.builtin "isinstance") := by decide +kernel
theorem bt_min : bootBuiltins "min" = some (.builtin "min") := by decide +kernel
theorem bt_max : bootBuiltins "max" = some (.builtin "max") := by decide +kernel
theorem bt_sum : bootBuiltins "sum" = some (.builtin "sum") := by decide +kernel
theorem bt_all : bootBuiltins "all" = some (.builtin "all") := by decide +kernel
theorem bt_any : bootBuiltins "any" = some (.builtin "any") := by decide +kernel
theorem bt_sorted : bootBuiltins "sorted" = some (.builtin "sorted") := by decide +kernel
theorem bt_int : bootBuiltins "int" = some (.type "int") := by decide +kernel
theorem bt_bool : bootBuiltins "bool" = some (.type "bool") := by decide +kernel
theorem bt_str : bootBuiltins "str" = some (.type "str") := by decide +kernel
theorem bt_tuple : bootBuiltins "tuple" = some (.type "tuple") := by decide +kernel
theorem bt_list : bootBuiltins "list" = some (.type "list") := by decide +kernel
end HM

/-! HM, part 9: what the top leaves. -/
namespace HM
open PySem PySem.Spec PyProof.Rows L2
mutual
def conB (K : PySem.W.Frag) : D → Value → Bool
  | .non, .none => true
  | .bl a, .bool b => a == b
  | .int i, .int j _ => decide (i = j)
  | .str x, .str y _ => decide (y.cps.toList = x)
  | .tup ds, .ref a => match K.lookup a with
    | some ⟨.type c, od, .seq its _, _⟩ => decide (c = "tuple") && (od.isNone && (decide (its.size ≤ sizeLine) && conAll K ds its.toList))
    | _ => false
  | _, _ => false
def conAll (K : PySem.W.Frag) : List D → List Value → Bool
  | [], [] => true
  | d :: ds, u :: us => conB K d u && conAll K ds us
  | _, _ => false
end
mutual
theorem conB_ok {K : PySem.W.Frag} : ∀ (d : D) (u : Value), conB K d u = true → ∃ v, RelV v u ∧ ∀ m H, RD K m H d v
  | .non, u, h => by
    cases u <;> simp [conB] at h
    exact ⟨.non, rfl, fun _ _ => .non⟩
  | .bl a, u, h => by
    cases u <;> simp [conB] at h
    subst h
    exact ⟨.bl _, rfl, fun _ _ => .bl _⟩
  | .int i, u, h => by
    cases u <;> simp [conB] at h
    subst h
    exact ⟨.int _, ⟨_, rfl⟩, fun _ _ => .int _⟩
  | .str x, u, h => by
    cases u <;> simp [conB] at h
    rename_i y t
    subst h
    refine ⟨.str y, ⟨_, rfl⟩, fun _ _ => ?_⟩
    have e : (⟨y.cps.toList.toArray⟩ : PySem.Str) = y := by simp
    have z := RD.str (K := K) (m := ‹_›) (H := ‹_›) y.cps.toList
    rw [e] at z
    exact z
  | .tup ds, u, h => by
    cases u with
    | ref a =>
      have h1 : (match K.lookup a with
        | some ⟨.type c, od, .seq its _, _⟩ => decide (c = "tuple") && (od.isNone && (decide (its.size ≤ sizeLine) && conAll K ds its.toList))
        | _ => false) = true := by
        simpa only [conB] using h
      split at h1
      · rename_i c od its n osl e
        simp only [Bool.and_eq_true, decide_eq_true_eq] at h1
        obtain ⟨h2, h5, h3, h4⟩ := h1
        subst h2
        have hod : od = none := by simpa using h5
        obtain ⟨vs, r, q⟩ := conAll_ok ds its.toList h4
        exact ⟨.ref a, rfl, fun m H => .tup (.inr ⟨_, its, n, e, rfl, hod, rfl, h3, r⟩) (q m H)⟩
      · cases h1
    | _ => simp [conB] at h
  | .ref _, u, h => by simp [conB] at h
  | .ty _, u, h => by simp [conB] at h
  | .adr _ _ _ _, u, h => by simp [conB] at h
  | .rol _, u, h => by simp [conB] at h
theorem conAll_ok {K : PySem.W.Frag} : ∀ (ds : List D) (us : List Value), conAll K ds us = true → ∃ vs, Vals vs us ∧ ∀ m H, RDs K m H ds vs
  | [], [], _ => ⟨[], .nil, fun _ _ => .nil⟩
  | [], _ :: _, h => by simp [conAll] at h
  | _ :: _, [], h => by simp [conAll] at h
  | d :: ds, u :: us, h => by
    simp only [conAll, Bool.and_eq_true] at h
    obtain ⟨v, r1, q1⟩ := conB_ok d u h.1
    obtain ⟨vs, r2, q2⟩ := conAll_ok ds us h.2
    exact ⟨v :: vs, .cons r1 r2, fun m H => .cons (q1 m H) (q2 m H)⟩
end
/-- a module's name holds a constant -/
structure Con (K : PySem.W.Frag) (mg : Str → Option Value) (x : Str) (d : D) : Prop where
  ex : ∃ u v, mg x = some u ∧ RelV v u ∧ ∀ m H, RD K m H d v
theorem ex_con {X : Cx} {W : WX} {x : Str} {d : D} {pos : Pos} (c : Con X.K X.mg x d) (hg : Gl X x := by rfl) (hd : (x == ("__debug__" : Str)) = false := by decide) : Ex X W (.Name x pos) (eC d) := by
  obtain ⟨u, v, hm, r, rd⟩ := c.ex
  exact ex_glob hg hm r rd hd
/-- further facts of the top -/
inductive Fx where
  /-- a built-in function by a name of the module's -/
  | blt (x : Str) (id : String)
  /-- a constant -/
  | con (x : Str) (d : D)
def Fx.ok (K : PySem.W.Frag) : Fx → Bool
  | .blt x id => (match PySem.W.nsIn K mainGlobals x with
    | some (some (.builtin j)) => decide (j = id)
    | _ => false)
  | .con x d => (match PySem.W.nsIn K mainGlobals x with
    | some (some u) => conB K d u
    | _ => false)
section
variable {K : PySem.W.Frag} {h : Heap} {mg : Str → Option Value}
theorem blt_ok (X : K.In h) (G : h.Ns mainGlobals mg) {x : Str} {id : String} (c : (Fx.blt x id).ok K = true) : mg x = some (.builtin id) := by
  have c : (match PySem.W.nsIn K mainGlobals x with
    | some (some (.builtin j)) => decide (j = id)
    | _ => false) = true := c
  split at c
  · rename_i j e
    rw [PySem.W.mg_of X G e, of_decide_eq_true c]
  · cases c
theorem con_ok (X : K.In h) (G : h.Ns mainGlobals mg) {x : Str} {d : D} (c : (Fx.con x d).ok K = true) : Con K mg x d := by
  have c : (match PySem.W.nsIn K mainGlobals x with
    | some (some u) => conB K d u
    | _ => false) = true := c
  split at c
  · rename_i u e
    obtain ⟨v, r, q⟩ := conB_ok d u c
    exact ⟨u, v, PySem.W.mg_of X G e, r, q⟩
  · cases c
end
/-! ### the Hook -/
def obsM (fa : List He.Fa) (fx : List Fx) (fn : List He.DefD) (K : PySem.W.Frag) : He.AlD := (((fa.all fun f => f.ok K) && fx.all fun f => f.ok K) && fn.all fun d => d.ok K, fn.map fun d => He.fnW K d.at_)
def SaysM (fa : List He.Fa) (fx : List Fx) (fn : List He.DefD) (K : PySem.W.Frag) : Prop := obsM fa fx fn K = He.valD fn
def obsMG (n : Nat) (fa : List He.Fa) (fx : List Fx) (fn : List He.DefD) (g : Addr → Option Obj) : He.AlD := obsM fa fx fn (He.frG g (He.asD g n))
def hookM (n : Nat) (fa : List He.Fa) (fx : List Fx) (fn : List He.DefD) : PySem.W.Hook where
  α := He.AlD
  obs := fun s => obsMG n fa fx fn s.heap.get?
  val := fun _ => He.valD fn
  says := fun _ h => ∃ K : PySem.W.Frag, K.In h ∧ SaysM fa fx fn K
  of := fun _ _ e => ⟨_, He.frG_in, e⟩
  keeps := fun _ _ _ ⟨K, hK, c⟩ k => ⟨K, PySem.W.Frag.In.keeps hK k, c⟩
theorem obsMG_eq {n : Nat} {fa : List He.Fa} {fx : List Fx} {fn : List He.DefD} {g : Addr → Option Obj} {s : Shared} (h : ∀ a, g a = s.heap.get? a) : obsMG n fa fx fn g = (hookM n fa fx fn).obs s := by
  have e : g = s.heap.get? := funext h
  rw [e] <;> rfl
section
variable {fa : List He.Fa} {fx : List Fx} {fn : List He.DefD} {K : PySem.W.Frag}
theorem SaysM.fact (c : SaysM fa fx fn K) (i : Nat) {f : He.Fa} (h : fa[i]? = some f := by rfl) : f.ok K = true := by
  have c1 := (He.ba (He.ba (show (((fa.all fun f => f.ok K) && fx.all fun f => f.ok K) && fn.all fun d => d.ok K) = true from congrArg (fun z : He.AlD => z.1) c)).1).1
  exact List.all_eq_true.mp c1 f (List.mem_of_getElem? h)
theorem SaysM.more (c : SaysM fa fx fn K) (i : Nat) {f : Fx} (h : fx[i]? = some f := by rfl) : f.ok K = true := by
  have c1 := (He.ba (He.ba (show (((fa.all fun f => f.ok K) && fx.all fun f => f.ok K) && fn.all fun d => d.ok K) = true from congrArg (fun z : He.AlD => z.1) c)).1).2
  exact List.all_eq_true.mp c1 f (List.mem_of_getElem? h)
theorem SaysM.def_ (c : SaysM fa fx fn K) (i : Nat) {d : He.DefD} (h : fn[i]? = some d := by rfl) : ∃ fd, FunD K d.name d.qual d.params d.body d.scope (d.dvs K) (d.kws K) (He.fAd K d.at_) fd := by
  have c2 := (He.ba (show (((fa.all fun f => f.ok K) && fx.all fun f => f.ok K) && fn.all fun d => d.ok K) = true from congrArg (fun z : He.AlD => z.1) c)).2
  have e : fn.map (fun d => He.fnW K d.at_) = fn.map He.DefD.val := congrArg (fun z : He.AlD => z.2) c
  have e2 : (fn.map fun d => He.fnW K d.at_)[i]? = (fn.map He.DefD.val)[i]? := by rw [e]
  rw [List.getElem?_map, List.getElem?_map, h] at e2
  exact He.DefD.funD (Option.some.inj e2) (List.all_eq_true.mp c2 d (List.mem_of_getElem? h))
end
/-! ### the law's end -/
/-- where nothing may be let out -/
theorem FnM.shut {P : Program} {w : World} {K : PySem.W.Frag} {mg : Str → Option Value} {base : Heap} {k : Nat} {f : Addr} {fd : FuncData} {ps : List Str} {mf : FM} (F : FnM P w K mg base k f fd ps mf) :
    FnOk P w K mg base CX0 k f fd ps (fun vs H Q _ => spM ⟨K, w⟩ ps.length mf vs H Q fun _ _ _ => False) where
  len := fun vs H Q E h => F.len vs H Q _ h
  run := fun A outer s H args us vs Q E hr e0 hb hv h => by
    refine codeAny_mono (F.run A outer s H args us vs Q _ hr e0 hb hv h) fun r s' hq => ?_
    cases r with
    | error e =>
      obtain ⟨_, _, _, _, _, _, _, _, _, _, _, _, z⟩ := (hq : L2.CX P w outer H s (fun _ _ _ => False) e s')
      exact z.elim
    | ok fl => cases fl <;> exact hq
end HM

/-! HM, part 10: methods of lists and texts, in, slices, sums. -/
namespace HM
open PySem PySem.Spec PyProof.Rows L2
section
variable {X : Cx} {W : WX} {e o a b c : Expr} {es : List Expr} {pos p : Pos} {f fo fa fb : EM D} {fs : EM (List D)}
theorem _root_.L2.Room.units65 {k : Nat} {A : Around} (r : Room k A) : A.units + 65 < cLine := by have := r.un; omega
theorem below_line {n : Nat} (h : n < 16777216) : n < sizeLine := by
  rw [PySem.sizeLine_eq]
  exact h
/-! ### methods -/
abbrev MM := D → FM
def MethM (X : Cx) (id : String) (g : MM) : Prop :=
  ∃ r, MtR X id r ∧ ∀ (m : List Addr) (st : Store) (H : Hp) (d : D) (v : V) (ds : List D) (vs : List V) (E : XK) (Q : VK), SS X.kw m st H → RD X.K m H d v → RDs X.K m H ds vs → Pe X.kw E (RD X.K) m H (g d ds st) Q → r v vs H Q
def okT (T : String) (st : Store) (d : D) : Bool := match d with
  | .str _ => decide (T = "str")
  | .tup _ => decide (T = "tuple")
  | .rol _ => decide (T = "list")
  | .ref n => decide (T = "list") && (lstAt st n).isSome
  | _ => false
theorem okT_ty {K : KW} {m : List Addr} {st : Store} {H : Hp} {d : D} {v : V} {T : String} (s : SS K m st H) (h : okT T st d = true) (r : RD K m H d v) : tyP K T v H := by
  cases r with
  | str x =>
    have q : T = "str" := of_decide_eq_true h
    exact .inl q
  | tup q rs =>
    have q0 : T = "tuple" := of_decide_eq_true h
    rcases q with ⟨o, hd, q⟩ | ⟨o, its, n, q1, q2, q3, _⟩
    · exact .inr ⟨q0, _, o, _, rfl, q, hd⟩
    · exact .inl (.inr (.inl ⟨q0, o, q1, q2, q3⟩))
  | rol q rs => exact .inl (.inl ⟨of_decide_eq_true h, _, q.sq⟩)
  | ref q =>
    have h : (decide (T = "list") && (lstAt st _).isSome) = true := h
    rw [Bool.and_eq_true] at h
    obtain ⟨xs, e⟩ := Option.isSome_iff_exists.mp h.2
    obtain ⟨vs, h1, h2⟩ := s.list e q
    exact .inl (.inl ⟨of_decide_eq_true h.1, _, SqL.of h1⟩)
  | _ => cases h
def eM (T : String) (g : MM) (fo : EM D) (fs : EM (List D)) : EM D := fun τ st => (fo τ st).bind fun d s1 => if okT T s1 d then (fs τ s1).bind fun ds s2 => g d ds s2 else .bad
theorem ex_m {name : Str} {apos cpos : Pos} {T id : String} {g : MM} (pa : PlainAttrs T) (slot : Slot T name id) (hty : typeOf (.builtin id) = pure (.type "method_descriptor")) (hm : MethM X id g) (ho : Ex X W o fo) (ha : Ea X W (e :: es) fs)
    (hbase : attributeBase o name X.env (eval o X.env) = eval o X.env := by rfl)
    (hfew : ((backTo cpos (starEach (e :: es) X.env)).all (fun x => !x.1) && (backToKw cpos (keywordEach [] X.env)).all (fun x => x.1.isSome)
      && decide ((e :: es).length + ([] : List Keyword).length + (if ([] : List Keyword).isEmpty then 0 else 1) < 30)) = true := by rfl)
    (hline : (apos.endLine == cpos.line) = true := by rfl) (hs : starEach (e :: es) X.env = (false, eval e X.env) :: starEach es X.env := by rfl) (hplain : (backTo cpos (starEach es X.env)).any (·.1) = false := by rfl) :
    Ex X W (.Call (.Attribute o name apos) (e :: es) [] cpos) (eM T g fo fs) := by
  obtain ⟨r, hr, h⟩ := hm
  refine ⟨fun m τ st σ H Q hL hS hP pins s I => (pe_bmP pa slot hty hr peW paW hbase hfew hline hs hplain).run pins s σ H Q I ?_⟩
  refine ho.run m τ st σ H _ hL hS (hP.bind fun d s1 m1 H1 v e1 hS1 r1 hP1 => ?_)
  split at hP1
  · rename_i hk
    exact ⟨okT_ty hS1 hk r1, ha.run m1 τ s1 σ H1 _ (hL.mono e1) hS1 (hP1.bind fun ds s2 m2 H2 vs e2 hS2 r2 hP2 => h m2 s2 H2 d v ds vs _ Q hS2 (r1.mono e2) r2 hP2)⟩
  · exact hP1.elim
theorem ex_m0 {name : Str} {apos cpos : Pos} {T id : String} {g : MM} (pa : PlainAttrs T) (slot : Slot T name id) (hty : typeOf (.builtin id) = pure (.type "method_descriptor")) (hm : MethM X id g) (ho : Ex X W o fo)
    (hbase : attributeBase o name X.env (eval o X.env) = eval o X.env := by rfl) (hline : (apos.endLine == cpos.line) = true := by rfl) :
    Ex X W (.Call (.Attribute o name apos) [] [] cpos) (eM T g fo aNil) := by
  obtain ⟨r, hr, h⟩ := hm
  refine ⟨fun m τ st σ H Q hL hS hP pins s I => (pe_bm0P pa slot hty hr peW hbase hline).run pins s σ H Q I ?_⟩
  refine ho.run m τ st σ H _ hL hS (hP.bind fun d s1 m1 H1 v e1 hS1 r1 hP1 => ?_)
  split at hP1
  · rename_i hk
    exact ⟨okT_ty hS1 hk r1, h m1 s1 H1 d v [] [] _ Q hS1 r1 .nil hP1⟩
  · exact hP1.elim
def mAppend : MM := fun d ds st => match d, ds with
  | .ref n, [x] => match lstAt st n with
    | some xs => if xs.length < 16777216 then .ok .non (st.set n (.lst (xs ++ [x]))) else .bad
    | none => .bad
  | _, _ => .bad
theorem me_append : MethM X "list.append" mAppend := ⟨_, mt_append, fun m st H d v ds vs E Q hS r rs hP => by
  unfold mAppend at hP
  split at hP
  · split at hP
    · rename_i xs hx
      split at hP
      · rename_i hl
        cases r with
        | ref q =>
          obtain ⟨us, h1, h2⟩ := hS.list hx q
          obtain ⟨u, rfl, ru⟩ := rs.one
          exact ⟨_, us, u, rfl, rfl, h1, below_line (by rw [← h2.len]; exact hl), hP m _ _ (Ext.write h1 q) (hS.write h1 q (h2.append (.cons ru .nil))) .non⟩
      · exact hP.elim
    · exact hP.elim
  · exact hP.elim⟩
def mExtend : MM := fun d ds st => match d, ds with
  | .ref n, [.ref k] => match lstAt st n, lstAt st k with
    | some xs, some ys => if xs.length + ys.length ≤ 16777216 then .ok .non (st.set n (.lst (xs ++ ys))) else .bad
    | _, _ => .bad
  | _, _ => .bad
theorem me_extend : MethM X "list.extend" mExtend := ⟨_, mt_extend, fun m st H d v ds vs E Q hS r rs hP => by
  unfold mExtend at hP
  split at hP
  · split at hP
    · rename_i xs ys hx hy
      split at hP
      · rename_i hl
        obtain ⟨u, rfl, ru⟩ := rs.one
        cases r with
        | ref q =>
          cases ru with
          | ref q' =>
            obtain ⟨us, h1, h2⟩ := hS.list hx q
            obtain ⟨ws, h3, h4⟩ := hS.list hy q'
            exact ⟨_, _, us, ws, rfl, rfl, h1, h3, line_of (by rw [← h2.len, ← h4.len]; exact hl), hP m _ _ (Ext.write h1 q) (hS.write h1 q (h2.append h4)) .non⟩
      · exact hP.elim
    · exact hP.elim
  · exact hP.elim⟩
def mPop : MM := fun d ds st => match d, ds with
  | .ref n, [] => match lstAt st n with
    | some xs => match xs[xs.length - 1]? with
      | some y => .ok y (st.set n (.lst xs.dropLast))
      | none => .bad
    | none => .bad
  | _, _ => .bad
theorem me_pop : MethM X "list.pop" mPop := ⟨_, mt_pop, fun m st H d v ds vs E Q hS r rs hP => by
  unfold mPop at hP
  split at hP
  · split at hP
    · rename_i xs hx
      split at hP
      · rename_i y hy
        cases r with
        | ref q =>
          obtain ⟨us, h1, h2⟩ := hS.list hx q
          cases rs
          rw [h2.len] at hy
          obtain ⟨u, hu, ru⟩ := h2.get hy
          have e := Ext.write (K := X.K) (o := .lst us.dropLast) h1 q
          exact ⟨_, us, u, rfl, rfl, h1, hu, hP m _ _ e (hS.write h1 q h2.dropLast) (ru.mono e)⟩
      · exact hP.elim
    · exact hP.elim
  · exact hP.elim⟩
def okIx (i : Int) : Bool := decide (i.natAbs < 9223372036854775808)
theorem okIx_ok {i : Int} (h : okIx i = true) : -(2 ^ 63) ≤ i ∧ i < 2 ^ 63 := by
  have q : i.natAbs < 9223372036854775808 := of_decide_eq_true h
  have q' : -9223372036854775808 ≤ i ∧ i < 9223372036854775808 := by omega
  exact q'
def mPopAt : MM := fun d ds st => match d, ds with
  | .ref n, [.int i] => match lstAt st n with
    | some xs => match seqIndex? i xs.length with
      | some k => match xs[k]? with
        | some y => if okIx i then .ok y (st.set n (.lst (xs.eraseIdx k))) else .bad
        | none => .bad
      | none => .bad
    | none => .bad
  | _, _ => .bad
theorem me_popAt : MethM X "list.pop" mPopAt := ⟨_, mt_popAt, fun m st H d v ds vs E Q hS r rs hP => by
  unfold mPopAt at hP
  split at hP
  · split at hP
    · rename_i xs hx
      split at hP
      · rename_i k hk
        split at hP
        · rename_i y hy
          split at hP
          · rename_i hi
            obtain ⟨w, rfl, rw'⟩ := rs.one
            cases rw'
            cases r with
            | ref q =>
              obtain ⟨us, h1, h2⟩ := hS.list hx q
              obtain ⟨u, hu, ru⟩ := h2.get hy
              have e := Ext.write (K := X.K) (o := .lst (us.eraseIdx k)) h1 q
              exact ⟨_, us, _, k, u, rfl, rfl, h1, (okIx_ok hi).1, (okIx_ok hi).2, by rw [← h2.len]; exact hk, hu, hP m _ _ e (hS.write h1 q (h2.erase k)) (ru.mono e)⟩
          · exact hP.elim
        · exact hP.elim
      · exact hP.elim
    · exact hP.elim
  · exact hP.elim⟩
def mInsert : MM := fun d ds st => match d, ds with
  | .ref n, [.int i, y] => match lstAt st n with
    | some xs => if decide (0 ≤ i) && okIx i && decide (xs.length < 16777216) then .ok .non (st.set n (.lst (xs.take i.toNat ++ [y] ++ xs.drop i.toNat))) else .bad
    | none => .bad
  | _, _ => .bad
theorem me_insert : MethM X "list.insert" mInsert := ⟨_, mt_insert, fun m st H d v ds vs E Q hS r rs hP => by
  unfold mInsert at hP
  split at hP
  · split at hP
    · rename_i xs hx
      split at hP
      · rename_i hc
        simp only [Bool.and_eq_true, decide_eq_true_eq] at hc
        obtain ⟨w, u, rfl, rw', ru⟩ := rs.two
        cases rw'
        cases r with
        | ref q =>
          obtain ⟨us, h1, h2⟩ := hS.list hx q
          exact ⟨_, us, _, u, rfl, rfl, h1, below_line (by rw [← h2.len]; exact hc.2), hc.1.1, (okIx_ok hc.1.2).2, hP m _ _ (Ext.write h1 q) (hS.write h1 q (((h2.take _).append (.cons ru .nil)).append (h2.drop _))) .non⟩
      · exact hP.elim
    · exact hP.elim
  · exact hP.elim⟩
/-! ### in -/
def D.flat : D → Bool
  | .non => true
  | .bl _ => true
  | .int _ => true
  | .str _ => true
  | _ => false
def eqF : D → D → Bool
  | .non, .non => true
  | .bl a, .bl b => a == b
  | .bl a, .int b => (if a then 1 else 0) == b
  | .int a, .bl b => a == (if b then 1 else 0)
  | .int a, .int b => decide (a = b)
  | .str a, .str b => decide (a = b)
  | _, _ => false
theorem flat_V {K : PySem.W.Frag} {m : List Addr} {H : Hp} {d : D} {v : V} (r : RD K m H d v) (h : d.flat = true) : flatV v = true := by
  cases r <;> first | rfl | cases h
theorem flats_V {K : PySem.W.Frag} {m : List Addr} {H : Hp} : ∀ {ds : List D} {vs : List V}, RDs K m H ds vs → ds.all D.flat = true → vs.all flatV = true
  | [], _, .nil, _ => rfl
  | d :: ds, _, .cons r rs, h => by
    rw [List.all_cons, Bool.and_eq_true] at h ⊢
    exact ⟨flat_V r h.1, flats_V rs h.2⟩
theorem eqF_V {K : PySem.W.Frag} {m : List Addr} {H : Hp} {d e : D} {v u : V} (r : RD K m H d v) (r' : RD K m H e u) (h : d.flat = true) (h' : e.flat = true) : eqV v u = eqF d e := by
  cases r with
  | non => cases r' <;> first | rfl | cases h'
  | bl b => cases r' <;> first | rfl | cases h'
  | int i =>
    cases r' with
    | int j =>
      show (i == j) = decide (i = j)
      rw [Bool.eq_iff_iff]
      simp
    | _ => first | rfl | cases h'
  | str x =>
    cases r' with
    | str y =>
      show ((⟨x.toArray⟩ : Str) == (⟨y.toArray⟩ : Str)) = decide (x = y)
      rw [Bool.eq_iff_iff]
      simp
    | _ => first | rfl | cases h'
  | _ => cases h
theorem inV_D {K : PySem.W.Frag} {m : List Addr} {H : Hp} {d : D} {v : V} (r : RD K m H d v) (h : d.flat = true) : ∀ {ds : List D} {vs : List V}, RDs K m H ds vs → ds.all D.flat = true → inV v vs = ds.any fun y => eqF y d
  | [], _, .nil, _ => rfl
  | e :: ds, _, .cons r' rs, h' => by
    rw [List.all_cons, Bool.and_eq_true] at h'
    have := inV_D r h rs h'.2
    unfold inV at this ⊢
    rw [List.any_cons, List.any_cons, this, eqF_V r' r h'.1 h]
def rInT (K : PySem.W.Frag) (neg : Bool) : R2 := fun x y H Q => ∃ d ds, Dp K H x d ∧ Dp K H y (.tuple ds) ∧ SeqAt.shaped d = true ∧ SeqAt.shaped (.tuple ds) = true ∧ Q (.bl (if neg then !(ds.any fun z => PyData.eqv z d) else ds.any fun z => PyData.eqv z d)) H
theorem op_inT (hu : X.A.units + 65 < cLine) : OpR X (compareOp .In) (rInT X.K false) := by
  intro pins s σ H x y v u Q I rx ry h
  obtain ⟨d, ds, hd, he, sd, se, q⟩ := h
  obtain ⟨as, r1⟩ := Dp.reads I d x v hd rx
  obtain ⟨bs, r2⟩ := Dp.reads I (.tuple ds) y u he ry
  exact SeqAt.in_tuple_reads r2 r1 (SeqAt.canLay_of_shaped se) (SeqAt.canLay_of_shaped sd) (room_in_shaped sd hu) ⟨.bl _, H, I, rfl, q⟩
theorem op_notInT (hu : X.A.units + 65 < cLine) : OpR X (compareOp .NotIn) (rInT X.K true) := by
  intro pins s σ H x y v u Q I rx ry h
  obtain ⟨d, ds, hd, he, sd, se, q⟩ := h
  obtain ⟨as, r1⟩ := Dp.reads I d x v hd rx
  obtain ⟨bs, r2⟩ := Dp.reads I (.tuple ds) y u he ry
  exact SeqAt.notIn_tuple_reads r2 r1 (SeqAt.canLay_of_shaped se) (SeqAt.canLay_of_shaped sd) (room_in_shaped sd hu) ⟨.bl _, H, I, rfl, q⟩
/-- is it among flat ones, one sign in a text, among data of any depth -/
def dInS (x y : D) (st : Store) : Option Bool := match x, y with
  | .str [c], .str z => some (decide (c ∈ z))
  | x, y => match dSeq st y with
    | some ys => if x.flat && ys.all D.flat then some (ys.any fun y => eqF y x) else if x.plain 59 && ys.all (D.plain 59) then some (decide (x ∈ ys)) else none
    | none => none
def oInS : O2 := fun x y st => match dInS x y st with
  | some b => .ok (.bl b) st
  | none => .bad
def oNotInS : O2 := fun x y st => match dInS x y st with
  | some b => .ok (.bl !b) st
  | none => .bad
theorem any_plain {n : Nat} {x : D} (hx : x.plain n = true) : ∀ {ys : List D}, ys.all (D.plain n) = true → ((ys.map (D.toP n)).any fun z => PyData.eqv z (x.toP n)) = decide (x ∈ ys)
  | [], _ => by simp
  | y :: ys, h => by
    rw [List.all_cons, Bool.and_eq_true] at h
    rw [List.map_cons, List.any_cons, any_plain hx h.2, eqv_plain n y x h.1 hx]
    simp [List.mem_cons, eq_comm]
theorem m_inB {op : CmpOp} {neg : Bool} {r1 r2 r3 r4 : R2} (h1 : OpR X (compareOp op) r1) (h2 : OpR X (compareOp op) r2) (h3 : OpR X (compareOp op) r3) (h4 : OpR X (compareOp op) r4)
    (s1 : ∀ (c : Nat) (z : Str) H Q, Q (.bl (if neg then !decide (c ∈ z.cps.toList) else decide (c ∈ z.cps.toList))) H → r1 (.str ⟨#[c]⟩) (.str z) H Q)
    (s2 : ∀ x y H Q, rIn X.K neg x y H Q → r2 x y H Q)
    (s3 : ∀ x y H Q d ds, Dp X.K H x d → Dp X.K H y (.list ds) → SeqAt.shaped d = true → SeqAt.shaped (.list ds) = true → Q (.bl (if neg then !(ds.any fun z => PyData.eqv z d) else ds.any fun z => PyData.eqv z d)) H → r3 x y H Q)
    (s4 : ∀ x y H Q d ds, Dp X.K H x d → Dp X.K H y (.tuple ds) → SeqAt.shaped d = true → SeqAt.shaped (.tuple ds) = true → Q (.bl (if neg then !(ds.any fun z => PyData.eqv z d) else ds.any fun z => PyData.eqv z d)) H → r4 x y H Q) :
    OpM X W (compareOp op) (fun x y st => match dInS x y st with
    | some b => .ok (.bl (if neg then !b else b)) st
    | none => .bad) := opm_of ((h1.or h2).or (h3.or h4)) fun m st H dx dy x y E Q hS ra rb hP => by
  have fin : ∀ {q : PyData}, q.canLay0 = true → q.depth ≤ 60 → SeqAt.shaped q = true := fun {q} h1 h2 => by
    unfold SeqAt.shaped
    rw [h1, Bool.true_and, decide_eq_true_eq]
    omega
  split at hP
  · rename_i b hb
    unfold dInS at hb
    split at hb
    · cases hb
      cases ra
      cases rb
      exact .inl (.inl (s1 _ _ _ _ (hP.now hS (.bl _))))
    · split at hb
      · rename_i ys hy
        split at hb
        · rename_i hf
          cases hb
          rw [Bool.and_eq_true] at hf
          obtain ⟨p, vs, rfl, q, rs⟩ := dSeq_read hS hy rb
          refine .inl (.inr (s2 _ _ _ _ ⟨p, vs, rfl, q.imp id PlT.sq, flat_V ra hf.1, flats_V rs hf.2, ?_⟩))
          rw [inV_D ra hf.1 rs hf.2]
          exact hP.now hS (.bl _)
        · split at hb
          · rename_i hf
            cases hb
            rw [Bool.and_eq_true] at hf
            obtain ⟨p, vs, rfl, q, rs⟩ := dSeq_read hS hy rb
            obtain ⟨a1, a2, a3⟩ := plain_dp 59 dx x hf.1 ra
            obtain ⟨b1, b2, b3⟩ := plain_all (plain_dp 59) ys vs hf.2 rs
            have e := any_plain hf.1 hf.2
            rcases q with q | q
            · refine .inr (.inl (s3 _ _ _ _ _ _ a1 (.lst q b1) (fin a2 (by omega)) (fin (by simpa only [PyData.canLay0] using b2) (by simp only [PyData.depth]; omega)) ?_))
              rw [e]
              exact hP.now hS (.bl _)
            · refine .inr (.inr (s4 _ _ _ _ _ _ a1 (.tup q.sq b1) (fin a2 (by omega)) (fin (by simpa only [PyData.canLay0] using b2) (by simp only [PyData.depth]; omega)) ?_))
              rw [e]
              exact hP.now hS (.bl _)
          · cases hb
      · cases hb
  · exact hP.elim
theorem m_inS (hu : X.A.units + 65 < cLine) : OpM X W (compareOp .In) oInS := m_inB (neg := false) op_in_sign op_in_seq (op_inD hu) (op_inT hu)
  (fun c z H Q h => ⟨c, z, rfl, rfl, h⟩) (fun x y H Q h => h) (fun x y H Q d ds h1 h2 h3 h4 q => ⟨d, ds, h1, h2, h3, h4, q⟩) (fun x y H Q d ds h1 h2 h3 h4 q => ⟨d, ds, h1, h2, h3, h4, q⟩)
theorem m_notinS (hu : X.A.units + 65 < cLine) : OpM X W (compareOp .NotIn) oNotInS := m_inB (neg := true) op_notIn_sign op_notIn_seq (op_notInD hu) (op_notInT hu)
  (fun c z H Q h => ⟨c, z, rfl, rfl, h⟩) (fun x y H Q h => h) (fun x y H Q d ds h1 h2 h3 h4 q => ⟨d, ds, h1, h2, h3, h4, q⟩) (fun x y H Q d ds h1 h2 h3 h4 q => ⟨d, ds, h1, h2, h3, h4, q⟩)
end
end HM

/-! HM, part 11: slices, sums, all and any, join, texts repeated, lcm. -/
namespace HM
open PySem PySem.Spec PyProof.Rows L2
section
variable {prog : Program} {w : World} {A : Around} {E : Value → Shared → Prop} {s : Shared}
theorem get_whole {t sl : Addr} {items : Array Value} {vl vu : Value} {lo hi : Option Int} {Q : Value → Shared → Prop} (ht : IsTup s.heap t items) (hs : s.heap.IsSliceOf sl vl vu .none) (pl : IsPart vl lo) (pu : IsPart vu hi)
    (h1 : HT.sIx items.size 0 lo = 0) (h2 : HT.sIx items.size items.size hi = items.size) (q : Q (.ref t) s) : wpAny (model prog w) A (getItem (.ref t) (.ref sl)) Q E s := by
  obtain ⟨ob, o1, o2, o3⟩ := id hs
  unfold getItem
  try with_reducible refine wpAny_holding ?_
  try refine wpAny_bind (wpAny_pure ?_)
  refine wpAny_bind (wpAny_sequenceKey ht.typeIs (by decide) ?_)
  refine wpAny_bind (wpAny_callSpecial?_slot (name := Str.ofString "__getitem__") ht.typeIs PyProof.Rows.slot_tuple_getitem (wpAny_call_entry PyProof.Rows.slot_tuple_getitem ht.typeIs entry_tuple_getitem ?_ (args_tuple_getitem _ _)))
  show wpAny _ _ (Builtin.Tuple.tupleItemsOf (.ref t) >>= _) _ _ s
  refine wpAny_bind (tupleItemsOf_ ht (wpAny_bind (wpAny_typeOf (T := "slice") ⟨ob, o1, o2⟩ ?_)))
  rw [if_pos (by decide)]
  refine wpAny_bind (HT.sliceApplied_gen hs pl pu ?_)
  have yes : (((HT.sIx items.size 0 lo : Nat) : Int) == 0 && (1 : Int) == 1 && (HT.sIx items.size items.size hi - HT.sIx items.size 0 lo) == items.size) = true := by
    rw [h1, h2]
    simp
  show wpAny _ _ (if (((HT.sIx items.size 0 lo : Nat) : Int) == 0 && (1 : Int) == 1 && (HT.sIx items.size items.size hi - HT.sIx items.size 0 lo) == items.size) = true then _ else _) _ _ s
  rw [if_pos yes]
  unfold Builtin.Tuple.tupleIsExact
  refine wpAny_bind (wpAny_bind (wpAny_typeOf ht.typeIs ?_))
  refine wpAny_pure ?_
  rw [if_pos (by decide)]
  first
    | exact wpAny_pure ⟨_, rfl, wpAny_pure q⟩
    | exact wpAny_bind (wpAny_rule (wpAny_pure ⟨_, rfl, wpAny_pure q⟩))
end
section
variable {X : Cx}
/-- the whole of a tuple is the tuple -/
def rSlW (K : PySem.W.Frag) : V → Option Int → Option Int → Hp → VK → Prop := fun x lo hi H Q => ∃ a xs, x = .ref a ∧ SqT K H a xs ∧ HT.sIx xs.length 0 lo = 0 ∧ HT.sIx xs.length xs.length hi = xs.length ∧ Q (.ref a) H
theorem sl_whole : SlR X (rSlW X.K) := by
  intro pins s σ H x v vl vu lo hi sl Q I rx hs pl pu h
  obtain ⟨a, xs, rfl, hx, h1, h2, q⟩ := h
  cases rx
  obtain ⟨its, r, ht, hz⟩ := I.tuple hx
  have e : its.toArray.size = xs.length := by rw [List.size_toArray, ← r.length]
  exact ⟨"tuple", _, PyProof.Rows.slot_tuple_getitem.lookup, ht.typeIs, get_whole ht hs pl pu (by rw [e]; exact h1) (by rw [e]; exact h2) ⟨.ref a, H, I, rfl, q⟩⟩
end
section
variable {X : Cx} {W : WX} {e o a b c : Expr} {es : List Expr} {pos p p2 : Pos} {f fo fa fb : EM D} {fs : EM (List D)}
/-! ### slices -/
def cutD {α : Type} (xs : List α) (lo hi : Option Int) : List α := (xs.drop (HT.sIx xs.length 0 lo)).take (HT.sIx xs.length xs.length hi - HT.sIx xs.length 0 lo)
theorem RDs.cut {K : PySem.W.Frag} {m : List Addr} {H : Hp} {ds : List D} {vs : List V} (r : RDs K m H ds vs) (lo hi : Option Int) : RDs K m H (cutD ds lo hi) (cutV vs lo hi) := by
  unfold cutD cutV
  rw [r.len]
  exact (r.drop _).take _
/-- a part of a slice -/
structure Eo (X : Cx) (W : WX) (e : Option Expr) (f : EM (Option Int)) : Prop where
  run : ∃ t : TO, PO X e t ∧ ∀ (m : List Addr) (τ : Sl) (st : Store) (σ : L2.St) (H : Hp) (Q : Option Int → Hp → Prop), SL X.K m H τ σ → SS X.kw m st H → Pe X.kw (fun c d H' => W c d σ H') (fun _ _ a b => a = b) m H (f τ st) Q → t σ H Q
def oNone : EM (Option Int) := fun _ st => .ok none st
def oSome (f : EM D) : EM (Option Int) := fun τ st => (f τ st).bind fun d s1 => match d with
  | .int i => .ok (some i) s1
  | _ => .bad
theorem eo_none : Eo X W none oNone := ⟨_, po_none, fun m τ st σ H Q hL hS hP => hP.now hS rfl⟩
theorem eo_some (h : Ex X W e f) : Eo X W (some e) (oSome f) := ⟨_, po_some peW, fun m τ st σ H Q hL hS hP => h.run m τ st σ H _ hL hS (hP.bind fun d s1 m1 H1 v e1 hS1 r1 hP1 => by
  split at hP1
  · cases r1
    exact ⟨_, rfl, hP1.now hS1 rfl⟩
  · exact hP1.elim)⟩
def dCut (d : D) (lo hi : Option Int) (st : Store) : ER D := match d with
  | .str z => if z.length ≤ 16777216 then .ok (.str (cutD z lo hi)) st else .bad
  | .tup xs => .ok (.tup (cutD xs lo hi)) st
  | .rol xs => .ok (.ref st.length) (st ++ [.lst (cutD xs lo hi)])
  | .ref n => match lstAt st n with
    | some xs => .ok (.ref st.length) (st ++ [.lst (cutD xs lo hi)])
    | none => .bad
  | _ => .bad
def eSl (f : EM D) (fl fh : EM (Option Int)) : EM D := fun τ st => (f τ st).bind fun d s1 => (fl τ s1).bind fun l s2 => (fh τ s2).bind fun h s3 => dCut d l h s3
theorem sl_all : SlR X (fun x lo hi H Q => rSlL X.K x lo hi H Q ∨ (rSlF X.K x lo hi H Q ∨ rSlW X.K x lo hi H Q) ∨ rSlS x lo hi H Q) := sl_list.or ((sl_tupF.or sl_whole).or sl_str)
theorem cutS_D (z : List Nat) (lo hi : Option Int) : cutS ⟨z.toArray⟩ lo hi = ⟨(cutD z lo hi).toArray⟩ := by
  unfold cutS cutD
  simp [PySem.Str.length]
theorem ex_sl {lo hi : Option Expr} {fl fh : EM (Option Int)} (he : Ex X W e f) (hl : Eo X W lo fl) (hh : Eo X W hi fh) : Ex X W (.Subscript e (.Slice lo hi none p2) pos) (eSl f fl fh) := by
  obtain ⟨tl, pl, hl⟩ := hl
  obtain ⟨th, ph, hh⟩ := hh
  refine ⟨fun m τ st σ H Q hL hS hP pins s I => (pe_slice sl_all peW pl ph).run pins s σ H Q I ?_⟩
  refine he.run m τ st σ H _ hL hS (hP.bind fun d s1 m1 H1 v e1 hS1 r1 hP1 => ?_)
  refine hl m1 τ s1 σ H1 _ (hL.mono e1) hS1 (hP1.bind fun l s2 m2 H2 l' e2 hS2 r2 hP2 => ?_)
  subst r2
  refine hh m2 τ s2 σ H2 _ ((hL.mono e1).mono e2) hS2 (hP2.bind fun h s3 m3 H3 h' e3 hS3 r3 hP3 => ?_)
  subst r3
  have r1 := (r1.mono e2).mono e3
  unfold dCut at hP3
  split at hP3
  · split at hP3
    · rename_i hz
      cases r1
      refine .inr (.inr ⟨_, rfl, line_of (by simpa [PySem.Str.length] using hz), ?_⟩)
      rw [cutS_D]
      exact hP3.now hS3 (.str _)
    · exact hP3.elim
  · rename_i ds _
    cases r1 with
    | @tup a vs _ q rs =>
      by_cases hw : HT.sIx vs.length 0 l = 0 ∧ HT.sIx vs.length vs.length h = vs.length
      · refine .inr (.inl (.inr ⟨_, _, rfl, q.sq, hw.1, hw.2, hP3.now hS3 ?_⟩))
        have e : cutD ds l h = ds := by
          unfold cutD
          rw [rs.len, hw.1, hw.2, List.drop_zero, Nat.sub_zero, ← rs.len]
          exact List.take_length
        rw [e]
        exact .tup q rs
      · exact .inr (.inl (.inl ⟨_, _, rfl, q.sq, hw, hP3.tup hS3 (rs.cut _ _)⟩))
  · cases r1 with
    | rol q rs => exact .inl ⟨_, _, rfl, q.sq, hP3.lst hS3 (rs.cut _ _)⟩
  · split at hP3
    · rename_i xs hx
      cases r1 with
      | ref q =>
        obtain ⟨vs, h1, h2⟩ := hS3.list hx q
        exact .inl ⟨_, vs, rfl, SqL.of h1, hP3.lst hS3 (h2.cut _ _)⟩
    · exact hP3.elim
  · exact hP3.elim
/-! ### sums -/
def intsD : List D → Option (List Int)
  | [] => some []
  | .int i :: ds => (intsD ds).map (i :: ·)
  | _ => none
theorem intsD_V {K : PySem.W.Frag} {m : List Addr} {H : Hp} : ∀ {ds : List D} {vs : List V} {ns : List Int}, RDs K m H ds vs → intsD ds = some ns → vs = ns.map V.int
  | [], _, _, .nil, h => by
    cases h
    rfl
  | d :: ds, _, ns, .cons r rs, h => by
    unfold intsD at h
    split at h
    · rename_i e
      cases e
    · rename_i i ds' e
      cases e
      cases r
      cases hz : intsD ds with
      | none =>
        rw [hz] at h
        cases h
      | some ks =>
        rw [hz] at h
        cases h
        rw [intsD_V rs hz]
        rfl
    · cases h
theorem intsD_map : ∀ ns : List Int, intsD (ns.map D.int) = some ns
  | [] => rfl
  | n :: ns => by
    rw [List.map_cons, intsD, intsD_map ns]
    rfl
def rSumT (K : PySem.W.Frag) : List V → Hp → VK → Prop := fun vs H Q => ∃ (a : Addr) (ns : List Int), vs = [V.ref a] ∧ SqT K H a (ns.map V.int) ∧ Q (.int ns.sum) H
theorem cr_sumT (hc : X.calm = true) : CallR X (.builtin "sum") (rSumT X.K) := by
  intro pins s σ H vs us Q I r h
  obtain ⟨a, ns, rfl, hs, q⟩ := h
  obtain ⟨its, rv, hl, _⟩ := I.tuple hs
  rw [Vals.ref1 r]
  have hi := rv.ints
  obtain ⟨xs, e⟩ := hi.allInts.items
  have hn : numsOf (intItems xs).toList = ns := by rw [← e]; exact hi.numsOf
  rw [nums_intItems] at hn
  obtain ⟨ob, ho, hcl, n, hd⟩ := hl
  have ht : s.heap.IsTuple a (intItems xs) := by
    rw [← e]
    exact ⟨ob, ho, hcl, n, hd⟩
  refine PySem.W.ktm_sumG (I.ok.hd hc) ht fun h' tk t' hk => ⟨.int _, H, I.kept hk, ⟨_, rfl⟩, ?_⟩
  rw [preSum_eq, List.take_of_length_le (by simp), hn]
  exact q
def gSum : SM1 := fun xs st => match intsD xs with
  | some ns => .ok (.int ns.sum) st
  | none => .bad
theorem s_sum (hc : X.calm = true) : CallS X (.builtin "sum") gSum := ⟨_, (cr_sum hc).or (cr_sumT hc), fun m st H ds v E Q hS r hP => by
  obtain ⟨a, vs, rfl, q, rs⟩ := r
  unfold gSum at hP
  split at hP
  · rename_i ns hn
    have e := intsD_V rs hn
    subst e
    rcases q with q | q
    · exact .inl ⟨a, ns, rfl, q, hP.now hS (.int _)⟩
    · exact .inr ⟨a, ns, rfl, q.sq, hP.now hS (.int _)⟩
  · exact hP.elim⟩
/-! ### of lists alone -/
def SqVL (K : PySem.W.Frag) (m : List Addr) (H : Hp) (ds : List D) (v : V) : Prop := ∃ a vs, v = .ref a ∧ SqL K H a vs ∧ RDs K m H ds vs
structure Esl (X : Cx) (W : WX) (e : Expr) (f : EM (List D)) : Prop where
  run : ∀ (m : List Addr) (τ : Sl) (st : Store) (σ : L2.St) (H : Hp) (Q : VK), SL X.K m H τ σ → SS X.kw m st H → Pe X.kw (fun c d H' => W c d σ H') (SqVL X.K) m H (f τ st) Q → wE X e σ H Q
theorem esl_el {fl : EM (List D)} (h : El X W e fl) : Esl X W e fl := by
  refine ⟨fun m τ st σ H Q hL hS hP => h.run m τ st σ H Q hL hS ?_⟩
  cases hq : fl τ st with
  | ok ds s1 =>
    rw [hq] at hP
    intro m1 H1 v e1 hS1 ⟨a, vs, e, ha, na, hn, rs⟩
    exact hP m1 H1 v e1 hS1 ⟨a, vs, e, SqL.of ha, rs⟩
  | exc x st' =>
    rw [hq] at hP
    exact hP
  | bad =>
    rw [hq] at hP
    exact hP.elim
def dSeqL (st : Store) : D → Option (List D)
  | .rol xs => some xs
  | .ref n => lstAt st n
  | _ => none
def sExL (f : EM D) : EM (List D) := fun τ st => (f τ st).bind fun d s1 => match dSeqL s1 d with
  | some xs => .ok xs s1
  | none => .bad
theorem esl_ex (h : Ex X W e f) : Esl X W e (sExL f) := by
  refine ⟨fun m τ st σ H Q hL hS hP => h.run m τ st σ H Q hL hS (hP.bind fun d s1 m1 H1 v e1 hS1 r1 hP1 => ?_)⟩
  split at hP1
  · rename_i xs hx
    cases r1 with
    | rol q rs =>
      cases hx
      exact hP1.now hS1 ⟨_, _, rfl, q.sq, rs⟩
    | ref q =>
      obtain ⟨vs, h1, h2⟩ := hS1.list hx q
      exact hP1.now hS1 ⟨_, vs, rfl, SqL.of h1, h2⟩
    | _ => cases hx
  · exact hP1.elim
def CallL (X : Cx) (fv : Value) (g : SM1) : Prop :=
  ∃ r, CallR X fv r ∧ ∀ (m : List Addr) (st : Store) (H : Hp) (ds : List D) (v : V) (E : XK) (Q : VK), SS X.kw m st H → SqVL X.K m H ds v → Pe X.kw E (RD X.K) m H (g ds st) Q → r [v] H Q
theorem ex_callBl {x : Str} {id : String} {g : SM1} {fl : EM (List D)} (hc : CallL X (.builtin id) g) (hg : Gl X x) (hm : X.mg x = none) (hv : bootBuiltins x = some (.builtin id)) (ha : Esl X W e fl) (hn : x ≠ "__name__" := by decide) (hdb : (x == ("__debug__" : Str)) = false := by decide)
    (he : starEach [e] X.env = (false, eval e X.env) :: starEach [] X.env := by rfl) (hpl : (backTo pos (starEach [] X.env)).any (·.1) = false := by rfl) : Ex X W (.Call (.Name x p) [e] [] pos) (eCS g fl) := by
  obtain ⟨r, hr, h⟩ := hc
  refine ⟨fun m τ st σ H Q hL hS hP pins s I => (pe_callB hr hg hm hv (pa_cons peW pa_nil he) hn hdb he hpl).run pins s σ H Q I ?_⟩
  exact ha.run m τ st σ H _ hL hS (hP.bind fun ds s1 m1 H1 v e1 hS1 r1 hP1 => h m1 s1 H1 ds v _ Q hS1 r1 hP1)
def blsD : List D → Option (List Bool)
  | [] => some []
  | .bl i :: ds => (blsD ds).map (i :: ·)
  | _ => none
theorem blsD_V {K : PySem.W.Frag} {m : List Addr} {H : Hp} : ∀ {ds : List D} {vs : List V} {ns : List Bool}, RDs K m H ds vs → blsD ds = some ns → vs = ns.map V.bl
  | [], _, _, .nil, h => by
    cases h
    rfl
  | d :: ds, _, ns, .cons r rs, h => by
    unfold blsD at h
    split at h
    · rename_i e
      cases e
    · rename_i i ds' e
      cases e
      cases r
      cases hz : blsD ds with
      | none =>
        rw [hz] at h
        cases h
      | some ks =>
        rw [hz] at h
        cases h
        rw [blsD_V rs hz]
        rfl
    · cases h
theorem blsD_map : ∀ ns : List Bool, blsD (ns.map D.bl) = some ns
  | [] => rfl
  | n :: ns => by
    rw [List.map_cons, blsD, blsD_map ns]
    rfl
def gAllB : SM1 := fun xs st => match blsD xs with
  | some bs => .ok (.bl (bs.all id)) st
  | none => .bad
def gAnyB : SM1 := fun xs st => match blsD xs with
  | some bs => .ok (.bl (bs.any id)) st
  | none => .bad
theorem s_all (hc : X.calm = true) : CallL X (.builtin "all") gAllB := ⟨_, cr_all hc, fun m st H ds v E Q hS r hP => by
  obtain ⟨a, vs, rfl, q, rs⟩ := r
  unfold gAllB at hP
  split at hP
  · rename_i ns hn
    have e := blsD_V rs hn
    subst e
    exact ⟨a, ns, rfl, q, hP.now hS (.bl _)⟩
  · exact hP.elim⟩
theorem s_any (hc : X.calm = true) : CallL X (.builtin "any") gAnyB := ⟨_, cr_any hc, fun m st H ds v E Q hS r hP => by
  obtain ⟨a, vs, rfl, q, rs⟩ := r
  unfold gAnyB at hP
  split at hP
  · rename_i ns hn
    have e := blsD_V rs hn
    subst e
    exact ⟨a, ns, rfl, q, hP.now hS (.bl _)⟩
  · exact hP.elim⟩
def maxI : List Int → Option Int
  | [] => none
  | n :: ns => some (ns.foldl max n)
def minI : List Int → Option Int
  | [] => none
  | n :: ns => some (ns.foldl min n)
theorem foldl_max_ge : ∀ (ns : List Int) (n : Int), n ≤ ns.foldl max n ∧ (∀ y ∈ ns, y ≤ ns.foldl max n) ∧ (ns.foldl max n = n ∨ ns.foldl max n ∈ ns)
  | [], n => ⟨Int.le_refl _, by simp, .inl rfl⟩
  | k :: ns, n => by
    obtain ⟨h1, h2, h3⟩ := foldl_max_ge ns (max n k)
    rw [List.foldl_cons]
    refine ⟨Int.le_trans (Int.le_max_left n k) h1, fun y hy => ?_, ?_⟩
    · rcases List.mem_cons.mp hy with rfl | hy
      · exact Int.le_trans (Int.le_max_right n y) h1
      · exact h2 y hy
    · rcases h3 with h3 | h3
      · rw [h3]
        rcases Int.le_total n k with h | h
        · rw [Int.max_eq_right h]
          exact .inr (List.mem_cons_self ..)
        · rw [Int.max_eq_left h]
          exact .inl rfl
      · exact .inr (List.mem_cons_of_mem _ h3)
theorem foldl_min_le : ∀ (ns : List Int) (n : Int), ns.foldl min n ≤ n ∧ (∀ y ∈ ns, ns.foldl min n ≤ y) ∧ (ns.foldl min n = n ∨ ns.foldl min n ∈ ns)
  | [], n => ⟨Int.le_refl _, by simp, .inl rfl⟩
  | k :: ns, n => by
    obtain ⟨h1, h2, h3⟩ := foldl_min_le ns (min n k)
    rw [List.foldl_cons]
    refine ⟨Int.le_trans h1 (Int.min_le_left n k), fun y hy => ?_, ?_⟩
    · rcases List.mem_cons.mp hy with rfl | hy
      · exact Int.le_trans h1 (Int.min_le_right n y)
      · exact h2 y hy
    · rcases h3 with h3 | h3
      · rw [h3]
        rcases Int.le_total n k with h | h
        · rw [Int.min_eq_left h]
          exact .inl rfl
        · rw [Int.min_eq_right h]
          exact .inr (List.mem_cons_self ..)
      · exact .inr (List.mem_cons_of_mem _ h3)
def gMax : SM1 := fun xs st => match (intsD xs).bind maxI with
  | some n => .ok (.int n) st
  | none => .bad
def gMin : SM1 := fun xs st => match (intsD xs).bind minI with
  | some n => .ok (.int n) st
  | none => .bad
theorem s_max (hc : X.calm = true) : CallL X (.builtin "max") gMax := ⟨_, cr_max hc, fun m st H ds v E Q hS r hP => by
  obtain ⟨a, vs, rfl, q, rs⟩ := r
  unfold gMax at hP
  split at hP
  · rename_i k hk
    cases hn : intsD ds with
    | none =>
      rw [hn] at hk
      cases hk
    | some ns =>
      rw [hn] at hk
      have e := intsD_V rs hn
      subst e
      cases ns with
      | nil => cases hk
      | cons n ns =>
        have hk : some (ns.foldl max n) = some k := hk
        cases hk
        obtain ⟨h1, h2, h3⟩ := foldl_max_ge ns n
        refine ⟨a, n :: ns, rfl, q, by simp, fun mm hm hy => ?_⟩
        have e : mm = ns.foldl max n := by
          refine Int.le_antisymm ?_ ?_
          · rcases List.mem_cons.mp hm with rfl | hm
            · exact h1
            · exact h2 mm hm
          · rcases h3 with h3 | h3
            · rw [h3]
              exact hy n (List.mem_cons_self ..)
            · exact hy _ (List.mem_cons_of_mem _ h3)
        subst e
        exact hP.now hS (.int _)
  · exact hP.elim⟩
theorem s_min (hc : X.calm = true) : CallL X (.builtin "min") gMin := ⟨_, cr_min hc, fun m st H ds v E Q hS r hP => by
  obtain ⟨a, vs, rfl, q, rs⟩ := r
  unfold gMin at hP
  split at hP
  · rename_i k hk
    cases hn : intsD ds with
    | none =>
      rw [hn] at hk
      cases hk
    | some ns =>
      rw [hn] at hk
      have e := intsD_V rs hn
      subst e
      cases ns with
      | nil => cases hk
      | cons n ns =>
        have hk : some (ns.foldl min n) = some k := hk
        cases hk
        obtain ⟨h1, h2, h3⟩ := foldl_min_le ns n
        refine ⟨a, n :: ns, rfl, q, by simp, fun mm hm hy => ?_⟩
        have e : mm = ns.foldl min n := by
          refine Int.le_antisymm ?_ ?_
          · rcases h3 with h3 | h3
            · rw [h3]
              exact hy n (List.mem_cons_self ..)
            · exact hy _ (List.mem_cons_of_mem _ h3)
          · rcases List.mem_cons.mp hm with rfl | hm
            · exact h1
            · exact h2 mm hm
        subst e
        exact hP.now hS (.int _)
  · exact hP.elim⟩
/-! ### lcm -/
def rLcm : List V → Hp → VK → Prop := fun vs H Q => ∃ a b : Int, vs = [.int a, .int b] ∧ a.natAbs < 2 ^ 9000 ∧ b.natAbs < 2 ^ 9000 ∧ Q (.int ((Nat.lcm a.natAbs b.natAbs : Nat) : Int)) H
theorem log_of {n k : Nat} (h : n < 2 ^ k) (hk : 0 < k) : n.log2 < k := by
  by_cases z : n = 0
  · subst z
    rw [Nat.log2_zero]
    exact hk
  · exact (Nat.log2_lt z).mpr h
theorem cr_lcm : CallR X (.builtin "math.lcm") rLcm := by
  intro pins s σ H vs us Q I r h
  obtain ⟨a, b, rfl, h1, h2, q⟩ := h
  obtain ⟨t, u, rfl⟩ := Vals.int2 r
  have h0 : (1 : Nat) < 2 ^ 9000 := Nat.one_lt_two_pow (by decide)
  have l1 : (max 1 a.natAbs).log2 < 9000 := log_of (Nat.max_lt.mpr ⟨h0, h1⟩) (by decide)
  have l2 : (max a.natAbs b.natAbs).log2 < 9000 := log_of (Nat.max_lt.mpr ⟨h1, h2⟩) (by decide)
  have l3 : ((((Nat.lcm 1 a.natAbs).lcm b.natAbs : Nat) : Int)).natAbs.log2 < bitsLine := by
    rw [Int.natAbs_natCast, PySem.W.mc_lcm_one]
    have := PySem.W.mc_lcm_le a.natAbs b.natAbs
    have h3 : a.natAbs * b.natAbs < 2 ^ 18000 := by
      rw [show (18000 : Nat) = 9000 + 9000 from rfl, Nat.pow_add]
      exact Nat.mul_lt_mul'' h1 h2
    exact Nat.lt_trans (log_of (Nat.lt_of_le_of_lt this h3) (by decide)) (by decide)
  have g := (PySem.W.mg_run_lcm a t b u (by omega) (by omega) l3).meets
  refine PySem.call_function_meets PySem.W.MGF.kind_lcm PySem.W.MGF.plain_lcm PySem.W.MGF.entry_lcm (PySem.W.MGF.args_lcm _ _) g ?_
  rw [PySem.W.mc_lcm_one]
  exact ⟨.int _, H, I.tok _, ⟨_, rfl⟩, q⟩
def fLcm : FM := fun ds st => match ds with
  | [.int i, .int j] => if decide (i.natAbs < 2 ^ 9000) && decide (j.natAbs < 2 ^ 9000) then .ok (.int (Nat.lcm i.natAbs j.natAbs : Nat)) st else .bad
  | _ => .bad
theorem c_lcm : CallM X (.builtin "math.lcm") fLcm := ⟨_, cr_lcm, fun m st H ds vs E Q hS r hP => by
  unfold fLcm at hP
  split at hP
  · split at hP
    · rename_i hc
      rw [Bool.and_eq_true, decide_eq_true_eq, decide_eq_true_eq] at hc
      obtain ⟨v, u, rfl, r1, r2⟩ := r.two
      cases r1
      cases r2
      exact ⟨_, _, rfl, hc.1, hc.2, hP.now hS (.int _)⟩
    · exact hP.elim
  · exact hP.elim⟩
/-! ### texts: join, repeated -/
def strsD : List D → Option (List (List Nat))
  | [] => some []
  | .str x :: ds => (strsD ds).map (x :: ·)
  | _ => none
theorem strsD_V {K : PySem.W.Frag} {m : List Addr} {H : Hp} : ∀ {ds : List D} {vs : List V} {ns : List (List Nat)}, RDs K m H ds vs → strsD ds = some ns → vs = (ns.map fun x => (⟨x.toArray⟩ : Str)).map V.str
  | [], _, _, .nil, h => by
    cases h
    rfl
  | d :: ds, _, ns, .cons r rs, h => by
    unfold strsD at h
    split at h
    · rename_i e
      cases e
    · rename_i i ds' e
      cases e
      cases r
      cases hz : strsD ds with
      | none =>
        rw [hz] at h
        cases h
      | some ks =>
        rw [hz] at h
        cases h
        rw [strsD_V rs hz]
        rfl
    · cases h
theorem strsD_map : ∀ ns : List (List Nat), strsD (ns.map D.str) = some ns
  | [] => rfl
  | n :: ns => by
    rw [List.map_cons, strsD, strsD_map ns]
    rfl
end
end HM

/-! HM, part 12: texts joined, things repeated. -/
namespace HM
open PySem PySem.Spec PyProof.Rows L2 SX
section
variable {X : Cx} {W : WX} {e o a b c : Expr} {es : List Expr} {pos p p2 : Pos} {f fo fa fb : EM D} {fs : EM (List D)}
def joinD (a : List Nat) : List (List Nat) → List Nat
  | [] => []
  | [p] => p
  | p :: q :: r => p ++ (a ++ joinD a (q :: r))
theorem joinD_eq (a : List Nat) : ∀ ys : List (List Nat), TL.joinL a ys = joinD a ys
  | [] => rfl
  | [_] => rfl
  | p :: q :: r => by
    show p ++ (a ++ TL.joinL a (q :: r)) = p ++ (a ++ joinD a (q :: r))
    rw [joinD_eq a (q :: r)]
def mJoin : MM := fun d ds st => match d, ds with
  | .str a, [y] => match (dSeq st y).bind strsD with
    | some ys => if (ys.map List.length).sum + ys.length * a.length ≤ 16777216 then .ok (.str (joinD a ys)) st else .bad
    | none => .bad
  | _, _ => .bad
theorem me_join : MethM X "str.join" mJoin := ⟨_, mt_join, fun m st H d v ds vs E Q hS r rs hP => by
  unfold mJoin at hP
  split at hP
  · rename_i a y
    split at hP
    · rename_i ys hy
      split at hP
      · rename_i hl
        cases hq : dSeq st y with
        | none =>
          rw [hq] at hy
          cases hy
        | some zs =>
          rw [hq] at hy
          obtain ⟨u, rfl, ru⟩ := rs.one
          cases r
          obtain ⟨p, us, rfl, q, rs'⟩ := dSeq_read hS hq ru
          have e := strsD_V rs' hy
          subst e
          refine ⟨⟨a.toArray⟩, p, ys.map S, rfl, rfl, q.imp id PlT.sq, ?_, ?_⟩
          · rw [List.map_map, List.length_map]
            have e : (ys.map ((fun x : Str => x.length) ∘ S)) = ys.map List.length := List.map_congr_left fun x _ => S_len x
            rw [e]
            have e2 : (⟨a.toArray⟩ : Str).length = a.length := S_len a
            rw [e2]
            exact hl
          · have e := join_S a ys
            rw [joinD_eq] at e
            rw [e]
            exact hP.now hS (.str _)
      · exact hP.elim
    · exact hP.elim
  · exact hP.elim⟩
/-! ### * -/
def repD {α : Type} (k : Nat) (xs : List α) : List α := (List.replicate k xs).flatten
theorem foldl_app (x : Array Nat) : ∀ (k : Nat) (acc : Array Nat), (List.replicate k x).foldl (· ++ ·) acc = acc ++ ((List.replicate k x.toList).flatten).toArray
  | 0, acc => by simp
  | k + 1, acc => by
    rw [List.replicate_succ, List.foldl_cons, foldl_app x k, List.replicate_succ, List.flatten_cons]
    apply Array.ext'
    simp
theorem repD_len {α : Type} (k : Nat) (xs : List α) : (repD k xs).length = xs.length * k := by
  unfold repD
  induction k with
  | zero => simp
  | succ k ih =>
    rw [List.replicate_succ, List.flatten_cons, List.length_append, ih, Nat.mul_succ, Nat.add_comm]
theorem op_repS : OpR X (binaryOp .Mult) (fun x y H Q => ∃ (z : List Nat) (k : Int), x = .str (S z) ∧ y = .int k ∧ 2 ≤ k ∧ k ≤ 16777216 ∧ z.length * k.toNat ≤ 16777216 ∧ Q (.str (S (repD k.toNat z))) H) := by
  intro pins s σ H x y v u Q I rx ry h
  obtain ⟨z, k, rfl, rfl, h2, hz, hl, q⟩ := h
  obtain ⟨t, rfl⟩ := rx
  obtain ⟨t', rfl⟩ := ry
  have e1 : (S z).length = z.length := S_len z
  refine PySem.P.mul_str ?_ (fun _ h0 => ?_) (fun _ _ => ?_) ?_
  · have a1 : ¬ k < -(2 ^ 63 : Int) := by omega
    have a2 : ¬ k ≥ 2 ^ 63 := by
      have : (16777216 : Int) < 2 ^ 63 := by decide
      omega
    rw [decide_eq_false a1, decide_eq_false a2]
    rfl
  · rw [e1]
    have h3 : z.length ≤ 16777216 := by
      have : z.length * 1 ≤ z.length * k.toNat := Nat.mul_le_mul_left _ (by omega)
      omega
    have h4 : (16777216 : Int) ≤ (2 ^ 63 - 1) / k := by
      refine (Int.le_ediv_iff_mul_le (by omega)).mpr ?_
      have : (16777216 : Int) * k ≤ 16777216 * 16777216 := Int.mul_le_mul_of_nonneg_left (by omega) (by decide)
      have : (16777216 : Int) * 16777216 ≤ 2 ^ 63 - 1 := by decide
      omega
    omega
  · rw [e1]
    show decide (z.length * k.toNat > 2 ^ 24) = false
    exact decide_eq_false (by
      have : (2 : Nat) ^ 24 = 16777216 := rfl
      omega)
  · have n1 : ¬ k < 1 := by omega
    rw [if_neg n1]
    have a1 : (k == 1) = false := beq_false_of_ne (by omega)
    rw [a1, e1, Bool.false_or]
    by_cases h0 : z = []
    · subst h0
      have e : (S (repD k.toNat ([] : List Nat))) = S [] := by
        have := repD_len k.toNat ([] : List Nat)
        rw [List.length_nil, Nat.zero_mul] at this
        rw [List.length_eq_zero_iff.mp this]
      rw [e] at q
      rw [if_pos (show (([] : List Nat).length == 0) = true from rfl)]
      exact ⟨.str _, H, I, ⟨_, rfl⟩, q⟩
    · have zl : 0 < z.length := List.length_pos_iff.mpr h0
      have a2 : (z.length == 0) = false := beq_false_of_ne (by omega)
      rw [a2, if_neg Bool.false_ne_true]
      have e : (⟨(List.replicate k.toNat (S z).cps).foldl (· ++ ·) #[]⟩ : Str) = S (repD k.toNat z) := by
        rw [foldl_app]
        simp [repD]
      rw [e]
      refine ⟨?_, .str _, H, I.tok _, ⟨_, rfl⟩, q⟩
      rw [S_len, repD_len, PySem.sizeLine_eq]
      exact hl
def oMul : O2 := fun x y st => match x, y with
  | .int i, .int j => if okMul i j then .ok (.int (i * j)) st else .bad
  | .str z, .int k => if decide (2 ≤ k) && decide (k ≤ 16777216) && decide (z.length * k.toNat ≤ 16777216) then .ok (.str (repD k.toNat z)) st else .bad
  | .ref n, .int k => match lstAt st n with
    | some xs => if okIx k && decide (xs.length * k.toNat ≤ 16777216) then .ok (.ref st.length) (st ++ [.lst (repD k.toNat xs)]) else .bad
    | none => .bad
  | .tup xs, .int k => if decide (2 ≤ k) && decide (k ≤ 1000) && !xs.isEmpty && decide (xs.length ≤ 1000) then .ok (.tup (repD k.toNat xs)) st else .bad
  | _, _ => .bad
theorem RDs.rep {K : PySem.W.Frag} {m : List Addr} {H : Hp} {ds : List D} {vs : List V} (r : RDs K m H ds vs) : ∀ k : Nat, RDs K m H (repD k ds) (repD k vs)
  | 0 => .nil
  | k + 1 => by
    have := RDs.rep r k
    unfold repD at this ⊢
    rw [List.replicate_succ, List.replicate_succ, List.flatten_cons, List.flatten_cons]
    exact r.append this
theorem op_mulAll : OpR X (binaryOp .Mult) (fun x y H Q => ((rI IntMulOk fun i j => .int (i * j)) x y H Q ∨ (∃ (z : List Nat) (k : Int), x = .str (S z) ∧ y = .int k ∧ 2 ≤ k ∧ k ≤ 16777216 ∧ z.length * k.toNat ≤ 16777216 ∧ Q (.str (S (repD k.toNat z))) H)) ∨ (rRep x y H Q ∨ rRepF X.K x y H Q)) :=
  (op_mulAny.or op_repS).or (op_rep.or op_repF)
theorem m_mul : OpM X W (binaryOp .Mult) oMul := opm_of op_mulAll fun m st H dx dy x y E Q hS r1 r2 hP => by
  unfold oMul at hP
  split at hP
  · rename_i i j
    split at hP
    · rename_i hc
      cases r1
      cases r2
      have q : (i.natAbs < 18446744073709551616 ∨ j.natAbs < 18446744073709551616) ∨ i.natAbs.log2 + j.natAbs.log2 < 1000000 := of_decide_eq_true hc
      refine .inl (.inl ⟨_, _, rfl, rfl, ?_, hP.now hS (.int _)⟩)
      rcases q with (q | q) | q
      · exact CMul.ok (.inl (by omega))
      · exact CMul.ok (.inr (by omega))
      · exact CMulW.ok q
    · exact hP.elim
  · split at hP
    · rename_i hc
      simp only [Bool.and_eq_true, decide_eq_true_eq] at hc
      cases r1
      cases r2
      exact .inl (.inr ⟨_, _, rfl, rfl, hc.1.1, hc.1.2, hc.2, hP.now hS (.str _)⟩)
    · exact hP.elim
  · split at hP
    · rename_i xs hx
      split at hP
      · rename_i hc
        rw [Bool.and_eq_true, decide_eq_true_eq] at hc
        cases r1 with
        | ref q =>
          cases r2
          obtain ⟨vs, h1, h2⟩ := hS.list hx q
          exact .inr (.inl ⟨_, _, vs, rfl, rfl, h1, (okIx_ok hc.1).1, (okIx_ok hc.1).2, line_of (by rw [← h2.len]; exact hc.2), hP.lst hS (h2.rep _)⟩)
      · exact hP.elim
    · exact hP.elim
  · split at hP
    · rename_i hc
      simp only [Bool.and_eq_true, decide_eq_true_eq, Bool.not_eq_true', List.isEmpty_eq_false_iff] at hc
      cases r1 with
      | tup q rs =>
        cases r2
        refine .inr (.inr ⟨_, _, _, rfl, rfl, q.sq, fun e => hc.1.2 ?_, hc.1.1.1, hc.1.1.2, by rw [← rs.len]; exact hc.2, hP.tup hS (rs.rep _)⟩)
        subst e
        cases rs
        rfl
    · exact hP.elim
  · exact hP.elim
end
end HM

/-! HM: calls of defs with keywords. -/
namespace HM
open PySem PySem.Spec PyProof.Rows L2
section
variable {X : Cx} {W : WX} {e a b c : Expr} {es rest : List Expr} {pos p : Pos} {f fa fb fc : EM D} {fs fk : EM (List D)} {kws : List Keyword}
def wK (X : Cx) (kws : List Keyword) : TA := fun σ H Q => ∀ (pos : Pos) (pins : List (Addr × Obj)) (s : Shared), Inv X pins σ H s → wpAny (model X.prog X.w) X.A (evalAll ((backToKw pos (keywordEach kws X.env)).map (·.2))) (AP X pins σ Q) X.xe s
theorem pkW {X : Cx} {kws : List Keyword} : PK X kws (wK X kws) := ⟨fun pos pins s σ H Q I h => h pos pins s I⟩
/-- the values of keywords -/
structure Ek (X : Cx) (W : WX) (kws : List Keyword) (f : EM (List D)) : Prop where
  run : ∀ (m : List Addr) (τ : Sl) (st : Store) (σ : L2.St) (H : Hp) (Q : List V → Hp → Prop), SL X.K m H τ σ → SS X.kw m st H → Pe X.kw (fun c d H' => W c d σ H') (RDs X.K) m H (f τ st) Q → wK X kws σ H Q
theorem ek_nil : Ek X W [] aNil := ⟨fun m τ st σ H Q hL hS hP pos pins s I => pk_nil.run pos pins s σ H Q I (hP.now hS .nil)⟩
theorem ek_cons {nm : Option Str} {kpos : Pos} (ha : Ex X W e f) (hr : Ek X W kws fs) : Ek X W (⟨nm, e, kpos⟩ :: kws) (aCons f fs) := by
  refine ⟨fun m τ st σ H Q hL hS hP pos pins s I => (pk_cons peW pkW).run pos pins s σ H Q I ?_⟩
  refine ha.run m τ st σ H _ hL hS (hP.bind fun dx s1 m1 H1 x e1 hS1 r1 hP1 => ?_)
  exact hr.run m1 τ s1 σ H1 _ (hL.mono e1) hS1 (hP1.bind fun ds s2 m2 H2 xs e2 hS2 r2 hP2 => hP2.now hS2 (.cons (r1.mono e2) r2))
/-- those at the places -/
def arr {α : Type} (is : List Nat) (l : List α) : List α := is.filterMap (fun i => l[i]?)
theorem Vals.arr {xs : List V} {us : List Value} (r : Vals xs us) : ∀ is : List Nat, Vals (arr is xs) (arr is us)
  | [] => .nil
  | i :: is => by
    have ih := Vals.arr r is
    unfold HM.arr at ih ⊢
    rw [List.filterMap_cons, List.filterMap_cons]
    cases h : xs[i]? with
    | none => rw [r.none_of h]; exact ih
    | some x =>
      obtain ⟨u, h1, h2⟩ := r.get h
      rw [h1]
      exact .cons h2 ih
theorem RDs.arr {K : PySem.W.Frag} {m : List Addr} {H : Hp} {ds : List D} {vs : List V} (r : RDs K m H ds vs) : ∀ is : List Nat, RDs K m H (arr is ds) (arr is vs)
  | [] => .nil
  | i :: is => by
    have ih := RDs.arr r is
    unfold HM.arr at ih ⊢
    rw [List.filterMap_cons, List.filterMap_cons]
    cases h : ds[i]? with
    | none =>
      have : vs[i]? = none := by
        rw [List.getElem?_eq_none_iff] at h ⊢
        rw [← r.len]; exact h
      rw [this]; exact ih
    | some x =>
      obtain ⟨u, h1, h2⟩ := r.get h
      rw [h1]
      exact .cons h2 ih
def eCallK (n k np : Nat) (is : List Nat) (mf : FM) (fs fk : EM (List D)) : EM D := fun τ st => (fs τ st).bind fun ds s1 => (fk τ s1).bind fun es s2 => if ds.length = n ∧ es.length = k ∧ (arr is (ds ++ es)).length = np then mf (arr is (ds ++ es)) s2 else .bad
theorem ex_ck {P : Program} {w : World} {K : PySem.W.Frag} {mg : Str → Option Value} {base : Heap} {A : Around} {j k n : Nat} {ps ks : List Str} {is : List Nat} {mf : FM} {x : Str} {st : Stmt} {fa : Addr} {fd : FuncData} (c : Cal P w K mg base x j ps mf) (F : FnP K x st fa fd) (gx : mg x = some (.ref fa))
    (bn : ∀ (kV doc pm : Value) (an : Option Addr) (cdv ct : Value) (us ws : List Value), us.length = n → ws.length = ks.length → bindArgs (PySem.W.fnOf x x (defArgs st) (defBody st) (defScope st) .none kV doc pm an cdv ct) ⟨us, ks.zip ws⟩ = pure (ps.zip (arr is (us ++ ws))))
    (tk : Takes X W) (hr : Room k A) (hj : j ≤ k) (ha : Ea X W (e :: es) fs) (hkw : Ek X W kws fk)
    (hall : (backToKw pos (keywordEach kws X.env)).all (·.1.isSome) = true := by rfl) (hks : (backToKw pos (keywordEach kws X.env)).filterMap (·.1) = ks := by rfl)
    (hpl : ((backTo pos (starEach (e :: es) X.env)).any (·.1) || (backToKw pos (keywordEach kws X.env)).any (·.1.isNone)) = false := by rfl)
    (h1 : X.prog = P := by rfl) (h2 : X.w = w := by rfl) (h3 : X.K = K := by rfl) (h4 : X.mg = mg := by rfl) (h5 : X.base = base := by rfl) (h6 : X.A = A := by rfl) (hg : Gl X x := by rfl) (hdb : (x == ("__debug__" : Str)) = false := by decide) (he : starEach (e :: es) X.env = (false, eval e X.env) :: starEach es X.env := by rfl) :
    Ex X W (.Call (.Name x p) (e :: es) kws pos) (eCallK n ks.length ps.length is mf fs fk) := by
  subst h1 h2 h3 h4 h5 h6
  obtain ⟨f, fd', G, hm, hk, hb, oc, od, osl, lk⟩ := c.ex
  have e1 : f = fa := by
    rw [hm] at gx
    exact Value.ref.inj (Option.some.inj gx)
  subst e1
  obtain ⟨oc2, od2, dV, kV, doc, pm, an, cdv, ct, osl2, e2, lk2, hcd, hD, hK⟩ := F.ex
  rw [lk] at lk2
  have e3 : fd' = fd := by
    have := Option.some.inj lk2
    injection this with _ _ q _
    injection q
  subst e3
  have hdV : dV = .none := by
    rcases hD with ⟨_, q⟩ | ⟨q, _⟩
    · exact q
    · exact absurd rfl q
  have kb : KBn X.K fd' ps n ks (fun us ws => HM.arr is (us ++ ws)) (fun vs zs => HM.arr is (vs ++ zs)) :=
    ⟨fun s us ws _ l1 l2 => .of_eq (by rw [e2, hdV]; exact bn kV doc pm an cdv ct us ws l1 l2), fun r1 r2 => HM.Vals.arr (r1.append r2) is⟩
  refine ⟨fun m τ st σ H Q hL hS hP pins s I => ?_⟩
  refine wpAny_Call_Name_kw (ld_glob I hg hm ?_ hdb)
  have q : wA X (e :: es) σ H fun vs H1 => wK X kws σ H1 fun zs H2 => vs.length = n ∧ zs.length = ks.length ∧ spM X.kw ps.length mf (HM.arr is (vs ++ zs)) H2 Q (WE W σ) :=
    ha.run m τ st σ H _ hL hS (hP.bind fun ds s1 m1 H1 vs e1 hS1 r1 hP1 => hkw.run m1 τ s1 σ H1 _ (hL.mono e1) hS1 (hP1.bind fun es s2 m2 H2 xs e2 hS2 r2 hP2 => by
      split at hP2
      · rename_i hl
        exact ⟨by rw [← r1.len]; exact hl.1, by rw [← r2.len]; exact hl.2.1, m2, s2, _, hl.2.2, hS2, RDs.arr ((r1.mono e2).append r2) is, hP2⟩
      · exact hP2.elim))
  refine PySem.W.callWith_KW (h₀ := X.base) I.ok.mod.kin hk hall (thn (q pos pins s I) fun us s1 ⟨vs, H1, I1, r, q1⟩ => ?_) hpl he
  refine thn (q1 pos pins s1 I1) fun ws s2 ⟨zs, H2, I2, rz, l1, l2, q2⟩ => ⟨I2.kIn, ?_⟩
  rw [hks]
  have r2 := kb.rel r rz
  refine wpAny_call (codeAny_mono (G.run X.A X.stack s2 H2 ⟨us, ks.zip ws⟩ _ _ Q (WE W σ) (hr.mono hj) I2.env0 (kb.to s2 us ws I2.kIn (r.length.symm.trans l1) (rz.length.symm.trans l2)) r2 q2) fun r s' hq => ?_)
  cases r with
  | error e => exact passAt tk σ pins H2 s2 e s' I2 hq
  | ok fl =>
    cases fl with
    | ret u => exact I2.after hq
    | next => exact False.elim hq
    | brk => exact False.elim hq
    | cont => exact False.elim hq
theorem ex_ck0 {P : Program} {w : World} {K : PySem.W.Frag} {mg : Str → Option Value} {base : Heap} {A : Around} {j k : Nat} {ps ks : List Str} {is : List Nat} {mf : FM} {x : Str} {st : Stmt} {fa : Addr} {fd : FuncData} (c : Cal P w K mg base x j ps mf) (F : FnP K x st fa fd) (gx : mg x = some (.ref fa))
    (bn : ∀ (kV doc pm : Value) (an : Option Addr) (cdv ct : Value) (us ws : List Value), us.length = 0 → ws.length = ks.length → bindArgs (PySem.W.fnOf x x (defArgs st) (defBody st) (defScope st) .none kV doc pm an cdv ct) ⟨us, ks.zip ws⟩ = pure (ps.zip (arr is (us ++ ws))))
    (tk : Takes X W) (hr : Room k A) (hj : j ≤ k) (hkw : Ek X W kws fk)
    (hall : (backToKw pos (keywordEach kws X.env)).all (·.1.isSome) = true := by rfl) (hks : (backToKw pos (keywordEach kws X.env)).filterMap (·.1) = ks := by rfl)
    (hpl : ((backTo pos (starEach [] X.env)).any (·.1) || (backToKw pos (keywordEach kws X.env)).any (·.1.isNone)) = false := by rfl)
    (h1 : X.prog = P := by rfl) (h2 : X.w = w := by rfl) (h3 : X.K = K := by rfl) (h4 : X.mg = mg := by rfl) (h5 : X.base = base := by rfl) (h6 : X.A = A := by rfl) (hg : Gl X x := by rfl) (hdb : (x == ("__debug__" : Str)) = false := by decide) :
    Ex X W (.Call (.Name x p) [] kws pos) (eCallK 0 ks.length ps.length is mf aNil fk) := by
  subst h1 h2 h3 h4 h5 h6
  obtain ⟨f, fd', G, hm, hk, hb, oc, od, osl, lk⟩ := c.ex
  have e1 : f = fa := by
    rw [hm] at gx
    exact Value.ref.inj (Option.some.inj gx)
  subst e1
  obtain ⟨oc2, od2, dV, kV, doc, pm, an, cdv, ct, osl2, e2, lk2, hcd, hD, hK⟩ := F.ex
  rw [lk] at lk2
  have e3 : fd' = fd := by
    have := Option.some.inj lk2
    injection this with _ _ q _
    injection q
  subst e3
  have hdV : dV = .none := by
    rcases hD with ⟨_, q⟩ | ⟨q, _⟩
    · exact q
    · exact absurd rfl q
  have kb : KBn X.K fd' ps 0 ks (fun us ws => HM.arr is (us ++ ws)) (fun vs zs => HM.arr is (vs ++ zs)) :=
    ⟨fun s us ws _ l1 l2 => .of_eq (by rw [e2, hdV]; exact bn kV doc pm an cdv ct us ws l1 l2), fun r1 r2 => HM.Vals.arr (r1.append r2) is⟩
  refine ⟨fun m τ st σ H Q hL hS hP pins s I => ?_⟩
  refine wpAny_Call_Name_kw (ld_glob I hg hm ?_ hdb)
  have q : wK X kws σ H fun zs H2 => zs.length = ks.length ∧ spM X.kw ps.length mf (HM.arr is zs) H2 Q (WE W σ) := by
    have hP : Pe X.kw (fun c d H' => W c d σ H') (RD X.K) m H ((fk τ st).bind fun es s2 => if ([] : List D).length = 0 ∧ es.length = ks.length ∧ (HM.arr is ([] ++ es)).length = ps.length then mf (HM.arr is ([] ++ es)) s2 else .bad) Q := hP
    exact hkw.run m τ st σ H _ hL hS (hP.bind fun es s2 m2 H2 xs e2 hS2 r2 hP2 => by
      split at hP2
      · rename_i hl
        exact ⟨by rw [← r2.len]; exact hl.2.1, m2, s2, _, hl.2.2, hS2, RDs.arr r2 is, hP2⟩
      · exact hP2.elim)
  refine PySem.W.callWith_KW0 (h₀ := X.base) I.ok.mod.kin hk hall (thn (q pos pins s I) fun ws s2 ⟨zs, H2, I2, rz, l2, q2⟩ => ⟨I2.kIn, ?_⟩) hpl
  rw [hks]
  have r2 : Vals (HM.arr is zs) (HM.arr is ([] ++ ws)) := HM.Vals.arr rz is
  refine wpAny_call (codeAny_mono (G.run X.A X.stack s2 H2 ⟨[], ks.zip ws⟩ _ _ Q (WE W σ) (hr.mono hj) I2.env0 (kb.to s2 [] ws I2.kIn rfl (rz.length.symm.trans l2)) r2 q2) fun r s' hq => ?_)
  cases r with
  | error e => exact passAt tk σ pins H2 s2 e s' I2 hq
  | ok fl =>
    cases fl with
    | ret u => exact I2.after hq
    | next => exact False.elim hq
    | brk => exact False.elim hq
    | cont => exact False.elim hq
end
end HM

/-! HM, own exceptions over ValueError: the class called. -/
namespace HM
namespace XE
open PySem PySem.W PySem.Calls PyProof.Rows PySem.HandSPX
/-- the parameters: self, perhaps a field -/
def iF (p2 : Pos) : Option Str → List Arg
  | some f => [{ arg := f, annotation := none, pos := p2 }]
  | none => []
def iA (p1 p2 : Pos) (fld : Option Str) : Arguments := { posonlyargs := [], args := { arg := "self", annotation := none, pos := p1 } :: iF p2 fld, vararg := none, kwonlyargs := [], kw_defaults := [], kwarg := none, defaults := [] }
def iG (q7 q8 q9 q10 : Pos) : Option Str → List Stmt
  | some f => [.Assign [.Attribute (.Name "self" q7) f q8] (.Name f q9) q10]
  | none => []
/-- super().__init__(msg), perhaps self.f = f -/
def iB (msg : Str) (j : Nat) (q1 q2 q3 q4 q5 q6 q7 q8 q9 q10 : Pos) (fld : Option Str) : List Stmt := .Expr (.Call (.Attribute (.Call (.Name "super" q1) [] [] q2) "__init__" q3) [.Constant (.str msg) j q4] [] q5) q6 :: iG q7 q8 q9 q10 fld
def iL : Option Str → List (Str × NameKind)
  | some f => [(f, NameKind.local)]
  | none => []
def iS (fld : Option Str) : Scope := { kind := .function, names := (PySem.Str.ofString "self", .local) :: (iL fld ++ [(PySem.Str.ofString "__class__", NameKind.free), (PySem.Str.ofString "super", NameKind.globalImplicit)]), isGenerator := false, isCoroutine := false, more := [] }
/-- the def's data -/
abbrev fnX (name qual : Str) (params : Arguments) (body : List Stmt) (scope : Scope) (dV kV doc pm : Value) (an : Option Addr) (cdv ct : Value) (cc : Addr) : FuncData :=
  { name, qualname := qual, params, body := .stmts body, scope, globals := mainGlobals, closure := [("__class__", cc)], defaults := dV, kwdefaults := kV, doc, pyModule := pm, annotations := an, code := cdv, closureTuple := ct, builtins := builtinsNs }
/-- the parameters take self and the field: by rfl for a known name -/
def BdOk (f : Str) : Prop := ∀ (q : Str) (bd : List Stmt) (doc pm : Value) (an : Option Addr) (cdv ct : Value) (cc : Addr) (p1 p2 : Pos) (x v : Value), bindArgs (fnX "__init__" q (iA p1 p2 (some f)) bd (iS (some f)) .none .none doc pm an cdv ct cc) ⟨[x, v], []⟩ = pure [(("self" : Str), x), (f, v)]
example : BdOk "part" := fun _ _ _ _ _ _ _ _ _ _ _ _ => rfl
/-- what the written part says of a class C with its __init__ at fI -/
structure Txt (prog : Program) (K : Frag) (C fI : Addr) (fld : Option Str) : Prop where
  cls : ∃ nm q N bs bm sn sub ab col dd k0 k1 k2 k3 k5, K.lookup C = some (excClassObj nm q C N bs bm true sn sub ab col dd k0 k1 k2 k3 k5 "ValueError.__new__") ∧ refsVE bm = true
  sa : findIn K (.ref C) "__setattr__" = some (some (.builtin "object.__setattr__"))
  ga : findIn K (.ref C) "__getattribute__" = some (some (.builtin "BaseException.__getattribute__"))
  gg : findIn K (.ref C) "__getattr__" = some none
  noN : ∀ f, fld = some f → findIn K (.ref C) f = some none ∧ f ≠ "self" ∧ (f == ("__debug__" : Str)) = false ∧ f ≠ "__class__" ∧ f ≠ "super"
  bd : ∀ f, fld = some f → BdOk f
  iC : findIn K (.ref C) "__init__" = some (some (.ref fI))
  tC : typeIn K (.ref fI) = some (.type "function")
  kC : keepIn K (.ref C) = true
  exC : subIn K (.ref C) (.type "BaseException") = some true
  veC : subIn K (.ref C) (.type "ValueError") = some true
  tyC : typeIn K (.ref C) = some (.type "type")
  hdC : hasDictIn K C = true
  sup : ks_superIn K C C "__init__" = some (some (.builtin "ValueError.__init__"))
  own : mroIn K C (.ref C) = some true
  st : nsIn K cStatics "thirdparty.any" = some none
  noS : nsIn K mainGlobals "super" = some none
  fn : ∃ (oc : Value) (od : Option Addr) (q : Str) (doc pm : Value) (an : Option Addr) (cda : Addr) (ct : Value) (cc : Addr) (osl : Array (Option Value)) (p1 p2 q1 q2 q3 q4 q5 q6 q7 q8 q9 q10 : Pos) (msg : Str) (j : Nat),
    K.lookup fI = some ⟨oc, od, .func (fnX "__init__" q (iA p1 p2 fld) (iB msg j q1 q2 q3 q4 q5 q6 q7 q8 q9 q10 fld) (iS fld) .none .none doc pm an (.ref cda) ct cc), osl⟩ ∧ codeIn K (.ref cda) q = true ∧ (q3.endLine == q5.line) = true ∧
      (∃ cl cld csl, K.lookup cc = some ⟨cl, cld, .cell (some (.ref C)), csl⟩) ∧
      (∃ ccl cdd vs ccs file tf, K.lookup cda = some ⟨ccl, cdd, .fields vs, ccs⟩ ∧ vs[2]? = some (.str file tf) ∧ ((prog.main.file : Str) == file) = true)
  top : (prog.main.scope.names.lookup ("super" : Str)).isSome = false
theorem kept_but {K : Frag} {h h' : Heap} {x : Addr} (X : K.In h) (hx : K.lookup x = none) (k : ∀ b o, b ≠ x → h.get? b = some o → h'.get? b = some o) : K.In h' := fun a o e =>
  k a o (fun z => by rw [z, hx] at e; cases e) (X a o e)
/-- what __init__ leaves of a fresh exception at x -/
structure InitEnd (h h' : Heap) (x C : Addr) (fld : Option (Str × Value)) (dx : Option Addr) : Prop where
  keep : ∀ b o, b ≠ x → h.get? b = some o → h'.get? b = some o
  obj : ∃ t1 : Addr, h'.get? x = some { cls := .ref C, dict := dx, data := .fields #[.ref t1, .none, .none, .none, .bool false, .none] }
  fld : match fld, dx with
    | some (f, v), some d => h.objs.size ≤ d ∧ d ≠ x ∧ h'.Ns1 d (fun y => if y = f then some v else none)
    | none, none => True
    | _, _ => False
section
variable {prog : Program} {w : World} {M : Model} {A : Around} {E : Value → Shared → Prop} {h : Heap} {g : Array GenState} {d : Drawn} {t : Nat} {os : OsState}
variable {nm q : Str} {C N : Addr} {bs bm : List Value} {hdct : Bool} {sn : List Str} {sub : List Value} {ab : Bool} {col : Option Bool} {dd : Option Addr} {k0 k1 k2 k3 k5 : Option Value}
/-- ValueError.__init__ bound to e, called -/
theorem call_mw {u e t0 : Addr} {rest : List Value} {Q : Value → Shared → Prop}
    (hC : h.get? C = some (excClassObj nm q C N bs bm hdct sn sub ab col dd k0 k1 k2 k3 k5 "ValueError.__new__")) (he : h.get? e = some (HandSPX.excO C t0)) (hu : h.get? u = some (kxs_mw "ValueError.__init__" e)) (hrest : rest.length ≤ sizeLine)
    (hq : ∀ h' t1, (∀ b o, b ≠ e → h.get? b = some o → h'.get? b = some o) → h'.get? e = some (HandSPX.excO C t1) → Q .none ⟨h', g, d, t, os⟩) :
    wpAny (model prog w) A (call (.ref u) rest) Q E ⟨h, g, d, t, os⟩ := by
  refine wpAny_call (codeAny_of_tree ?_)
  show wpAny _ A.in1 (callAny (.ref u) ⟨rest, []⟩) _ _ _
  simp only [callAny]
  refine wpAny_bind (wpAny_load hu ?_)
  simp only [kxs_mw, show (Value.type "method-wrapper" == Value.type "method" || Value.type "method-wrapper" == Value.type "builtin_function_or_method" || Value.type "method-wrapper" == Value.type "method-wrapper") = true by decide, if_true]
  refine W.KFB.if_so (by decide) ?_
  refine wpAny_bind (ESX.check_bound F.excBase_ValueError hC he rfl ?_)
  refine wpAny_bind (wpAny_pure (wpAny_pure ?_))
  refine ⟨Code.quiet_builtin _ (by decide +kernel), codeAny_builtin F.excBase_ValueError.initEntry ?_⟩
  rw [Around.under_plainId F.excBase_ValueError.init.plain _]
  wp_walk
  refine hq _ h.objs.size (fun b o hb ho => ?_) ?_
  · rw [Heap.get?_update_other _ _ (Ne.symm hb)]
    exact Heap.get?_push_of_some _ ho
  · rw [Heap.get?_update_self _ (Heap.get?_push_of_some _ he) rfl]
    rfl
end
section
variable {prog : Program} {w : World} {A : Around} {E : Value → Shared → Prop} {h : Heap} {g : Array GenState} {d : Drawn} {t : Nat} {os : OsState} {K : Frag} {C fI x t0 L cda cc : Addr} {fld : Option Str} {mg mb m : Str → Option Value}
/-- super().__init__(msg) -/
theorem super_stmt {q : Str} {body : List Stmt} {oc : Value} {od : Option Addr} {osl : Array (Option Value)} {dV kV doc pm ct : Value} {an : Option Addr} {p1 p2 q1 q2 q3 q4 q5 q6 : Pos} {msg : Str} {j : Nat} {bd : List Stmt} {Q : Flow → Shared → Prop}
    (T : Txt prog K C fI fld) (hf : K.lookup fI = some ⟨oc, od, .func (fnX "__init__" q (iA p1 p2 fld) bd (iS fld) dV kV doc pm an (.ref cda) ct cc), osl⟩)
    (hcell : ∃ cl cld csl, K.lookup cc = some ⟨cl, cld, .cell (some (.ref C)), csl⟩) (hcode : ∃ ccl cdd vs ccs file tf, K.lookup cda = some ⟨ccl, cdd, .fields vs, ccs⟩ ∧ vs[2]? = some (.str file tf) ∧ ((prog.main.file : Str) == file) = true)
    (hl : (q3.endLine == q5.line) = true) (hks : (iS fld).names.lookup ("super" : Str) = some .globalImplicit) (hkc : (iS fld).names.lookup ("__class__" : Str) = some .free) (hka : (iS fld).names.lookup ("self" : Str) = some .local)
    (X : K.In h) (G : h.Ns mainGlobals mg) (hb : h.Ns builtinsNs mb) (hbs : mb "super" = some (.type "super")) (hn : h.Ns L m) (hself : m "self" = some (.ref x)) (hx : h.get? x = some (excO C t0))
    (hq : ∀ h' tk t1, (∀ b o, b ≠ x → h.get? b = some o → h'.get? b = some o) → h'.get? x = some (excO C t1) → Q .next ⟨h', g, d, tk, os⟩) :
    _root_.PySem.wpAt (model prog w) A (.func body (ksEnv q (iS fld) L fI (.ref cda) cc)) (exec (.Expr (.Call (.Attribute (.Call (.Name "super" q1) [] [] q2) "__init__" q3) [.Constant (.str msg) j q4] [] q5) q6) (ksEnv q (iS fld) L fI (.ref cda) cc)) Q E ⟨h, g, d, t, os⟩ := by
  obtain ⟨cl, cld, csl, hcell⟩ := hcell
  obtain ⟨ccl, cdd, vs, ccs, file, tf, hcode, hvs, hfile⟩ := hcode
  obtain ⟨nm, qn, N, bs, bm, sn, sub, ab, col, dd, k0, k1, k2, k3, k5, hC, hbm⟩ := T.cls
  have hC' := X _ _ hC
  have ox : excO C t0 = { cls := .ref C, dict := none, data := .fields #[.ref t0, .none, .none, .none, .bool false, .none] } := rfl
  have hcl : clsIn K C = some { name := nm, bases := bs, mro := .ref C :: bm, ns := N, qualname := qn, hasDict := true, slotNames := sn, subclasses := sub, abstract := ab, collection := col, hasDel := false } := by unfold clsIn; rw [hC] <;> rfl
  have I : InstAt h x (excO C t0) C none := ⟨hx, rfl, rfl, trivial⟩
  have he : eval (.Call (.Attribute (.Call (.Name "super" q1) [] [] q2) "__init__" q3) [.Constant (.str msg) j q4] [] q5) (ksEnv q (iS fld) L fI (.ref cda) cc) = (do
      let ov ← attributeBase (.Call (.Name "super" q1) [] [] q2) "__init__" (ksEnv q (iS fld) L fI (.ref cda) cc) (eval (.Call (.Name "super" q1) [] [] q2) (ksEnv q (iS fld) L fI (.ref cda) cc))
      standAt q3.atName
      let (f, first) ← holding [ov] (getMethod ov "__init__" (L2.plainOf (.Call (.Name "super" q1) [] [] q2) (ksEnv q (iS fld) L fI (.ref cda) cc)))
      callWith q5 f first (backTo q5 (starEach [.Constant (.str msg) j q4] (ksEnv q (iS fld) L fI (.ref cda) cc))) []) := by
    refine Eq.trans (b := do
      let ov ← attributeBase (.Call (.Name "super" q1) [] [] q2) "__init__" (ksEnv q (iS fld) L fI (.ref cda) cc) (eval (.Call (.Name "super" q1) [] [] q2) (ksEnv q (iS fld) L fI (.ref cda) cc))
      standAt q3.atName
      methodCall (.Call (.Name "super" q1) [] [] q2) "__init__" q3 q5 (ksEnv q (iS fld) L fI (.ref cda) cc) ov 1 (backTo q5 (starEach [.Constant (.str msg) j q4] (ksEnv q (iS fld) L fI (.ref cda) cc))) []) rfl ?_
    exact bind_congr fun ov => bind_congr fun _ => L2.mcall_line (by rfl) hl
  refine ks_wpAt_Expr_any (ks_wpAt_MethodCall ?_ he)
  refine ks_wpAt_super_base (env := ksEnv q (iS fld) L fI (.ref cda) cc) hks hkc (by decide) rfl (X _ _ hf) rfl (ar := { arg := "self", annotation := none, pos := p1 }) rfl rfl (X _ _ hcode) rfl hvs hfile T.top ?_
  refine ks_loadName_global rfl hks (loadGlobal_builtin (env := ksEnv q (iS fld) L fI (.ref cda) cc) G (mg_none_of X G T.noS) hb hbs ⟨rfl, ?_⟩)
  refine wpAny_loadName_free rfl hkc rfl ⟨_, X _ _ hcell, rfl⟩ ?_
  refine wpAny_loadName_local rfl hka hn hself ?_
  refine ks_wpAny_isType_cls hC' rfl ⟨rfl, ?_⟩
  refine ks_wpAny_call_super hC' rfl hx rfl (fun c e => by cases e) (looks_mroIn X T.own) (fun h1 e1 k1 => ?_)
  have X1 : K.In h1 := X.keeps k1
  have hx1 := k1 _ _ hx
  have I1 : InstAt h1 x (excO C t0) C none := ⟨hx1, rfl, rfl, trivial⟩
  have hsup := T.sup
  unfold ks_superIn at hsup
  rw [hcl] at hsup
  refine kxs_getMethod kxs_ValueError e1 (looks_opaque X1 T.st) (l₀ := .ref C :: bm) (fun A Q E s k q => wpAny_bind ((looks_clsIn X1 hcl) A _ E s k (wpAny_pure q))) rfl X1 hsup (I1.type.andThen (looks_subIn X1 T.veC)) (ks_ne X1 I1 hcl) (by decide) ?_
  have e2 : (h1.push (kxs_mw "ValueError.__init__" x)).get? h1.objs.size = some (kxs_mw "ValueError.__init__" x) := Heap.get?_push_at rfl rfl
  have k2 : ∀ b o, h1.get? b = some o → (h1.push (kxs_mw "ValueError.__init__" x)).get? b = some o := fun b o e => Heap.get?_push_of_some _ e
  refine kxs_callWith (i := "ValueError.__init__") (x := x) rfl ?_
  show wpAny _ _ (evalArgs (.ref h1.objs.size) true ((false, eval (.Constant (.str msg) j q4) (ksEnv q (iS fld) L fI (.ref cda) cc)) :: []) []) _ _ _
  refine evalArgs_plain (spliced_cons (wpAny_Constant_str (spliced_nil ⟨e2, ?_⟩)))
  refine call_mw (k2 _ _ (k1 _ _ hC')) (k2 _ _ hx1) e2 (by rw [sizeLine_eq]; exact (by decide : 1 ≤ 16777216)) fun h' t1 k3 hx' => ?_
  exact hq h' _ t1 (fun b o hb e => k3 b o hb (k2 _ _ (k1 _ _ e))) hx'
end
section
variable {prog : Program} {w : World} {A : Around} {E : Value → Shared → Prop} {R : Result → Shared → Prop} {s : Shared} {K : Frag} {C fI x t0 : Addr} {mg mb : Str → Option Value}
theorem fr_ne {h : Heap} {b x : Addr} {o : Obj} (hb : h.objs.size = b) (hx : h.get? x = some o) : b ≠ x := by
  have := Heap.lt_size hx
  intro e
  rw [← e, ← hb] at this
  exact Nat.lt_irrefl _ this
theorem init0 (T : Txt prog K C fI none) (X : K.In s.heap) (hlim : s.heap.NoLimit) (G : s.heap.Ns mainGlobals mg) (hb : s.heap.Ns builtinsNs mb) (hbs : mb "super" = some (.type "super")) (hx : s.heap.get? x = some (excO C t0)) (hroom : A.depth < recursionLimit)
    (hq : ∀ h' tk t1, (∀ b o, b ≠ x → s.heap.get? b = some o → h'.get? b = some o) → h'.get? x = some (excO C t1) → R (.ok (.ret .none)) { s with heap := h', toks := tk }) :
    codeAny (model prog w) A (.call (.ref fI) ⟨[.ref x], []⟩) R s := by
  obtain ⟨oc, od, q, doc, pm, an, cda, ct, cc, osl, p1, p2, q1, q2, q3, q4, q5, q6, q7, q8, q9, q10, msg, j, ho, hcd, hl, hcell, hcode⟩ := T.fn
  refine ks_codeAny_call_defAt (binds := [("self", .ref x)]) hroom (X _ _ ho) rfl hlim (codeRec_of X hcd) rfl (BindsTo.of_eq (by first | rfl | with_unfolding_all rfl)) (by intro y hy; simp [iS, iL] at hy; rcases hy with rfl | rfl | rfl <;> simp) (by intro y hy; simp at hy; subst hy; rfl) (fun h₀ hns k => ?_) rfl rfl rfl
  obtain ⟨hp, g, d, t, os⟩ := s
  refine ks_wpAt_execs_cons ?_
  show _root_.PySem.wpAt (model prog w) _ (.func _ (ksEnv q (iS none) hp.objs.size fI (.ref cda) cc)) (exec _ (ksEnv q (iS none) hp.objs.size fI (.ref cda) cc)) _ _ ⟨h₀, g, d, t + 1, os⟩
  refine super_stmt T ho hcell hcode hl rfl rfl rfl (X.keeps k) (G.keeps k) (hb.keeps k) hbs hns rfl (k _ _ hx) fun h' tk t1 k' hx' => ?_
  refine wpAt_of_wpAny (wpAny_execs_nil ?_)
  exact hq h' tk t1 (fun b o hb e => k' b o hb (k b o e)) hx'
theorem init1 {f : Str} {v : Value} (T : Txt prog K C fI (some f)) (X : K.In s.heap) (hlim : s.heap.NoLimit) (G : s.heap.Ns mainGlobals mg) (hb : s.heap.Ns builtinsNs mb) (hbs : mb "super" = some (.type "super")) (hx : s.heap.get? x = some (excO C t0)) (hnx : K.lookup x = none) (hroom : A.depth < recursionLimit)
    (hq : ∀ h' tk t1 dx, (∀ b o, b ≠ x → s.heap.get? b = some o → h'.get? b = some o) → h'.get? x = some { cls := .ref C, dict := some dx, data := .fields #[.ref t1, .none, .none, .none, .bool false, .none] } → s.heap.objs.size ≤ dx → dx ≠ x → h'.Ns1 dx (fun y => if y = f then some v else none) → R (.ok (.ret .none)) { s with heap := h', toks := tk }) :
    codeAny (model prog w) A (.call (.ref fI) ⟨[.ref x, v], []⟩) R s := by
  obtain ⟨oc, od, q, doc, pm, an, cda, ct, cc, osl, p1, p2, q1, q2, q3, q4, q5, q6, q7, q8, q9, q10, msg, j, ho, hcd, hl, hcell, hcode⟩ := T.fn
  obtain ⟨nm, qn, N, bs, bm, sn, sub, ab, col, dd, k0, k1, k2, k3, k5, hC, hbm⟩ := T.cls
  have hcl : clsIn K C = some { name := nm, bases := bs, mro := .ref C :: bm, ns := N, qualname := qn, hasDict := true, slotNames := sn, subclasses := sub, abstract := ab, collection := col, hasDel := false } := by unfold clsIn; rw [hC] <;> rfl
  obtain ⟨noN, fs, fd, fc, fu⟩ := T.noN f rfl
  have fs' : ("self" == f) = false := by simpa using Ne.symm fs
  have fs2 : (f == "self") = false := by simpa using fs
  have fc' : (("__class__" : Str) == f) = false := by simpa using Ne.symm fc
  have fu' : (("super" : Str) == f) = false := by simpa using Ne.symm fu
  have nmS : (iS (some f)).names = [(("self" : Str), .local), (f, .local), (("__class__" : Str), .free), (("super" : Str), .globalImplicit)] := rfl
  have lf : (iS (some f)).names.lookup f = some .local := by rw [nmS]; simp [List.lookup, fs2]
  refine ks_codeAny_call_defAt (binds := [("self", .ref x), (f, v)]) hroom (X _ _ ho) rfl hlim (codeRec_of X hcd) rfl (BindsTo.of_eq ((T.bd f rfl : BdOk f) q _ doc pm an (.ref cda) ct cc p1 p2 (.ref x) v)) (by intro y hy; simp [iS, iL] at hy; rcases hy with rfl | rfl | rfl | rfl <;> simp) (by
    intro y hy
    simp at hy
    rcases hy with rfl | rfl
    · rfl
    · exact lf) (fun h₀ hns k => ?_) rfl rfl rfl
  obtain ⟨hp, g, d, t, os⟩ := s
  have mself : (fun y => ([(("self" : Str), Value.ref x), (f, v)] : List (Str × Value)).reverse.lookup y) "self" = some (.ref x) := by
    show List.lookup ("self" : Str) [(f, v), (("self" : Str), Value.ref x)] = _
    simp [List.lookup, fs']
  have mf : (fun y => ([(("self" : Str), Value.ref x), (f, v)] : List (Str × Value)).reverse.lookup y) f = some v := by
    show List.lookup f [(f, v), (("self" : Str), Value.ref x)] = _
    simp [List.lookup]
  refine ks_wpAt_execs_cons ?_
  show _root_.PySem.wpAt (model prog w) _ (.func _ (ksEnv q (iS (some f)) hp.objs.size fI (.ref cda) cc)) (exec _ (ksEnv q (iS (some f)) hp.objs.size fI (.ref cda) cc)) _ _ ⟨h₀, g, d, t + 2, os⟩
  refine super_stmt T ho hcell hcode hl (by rw [nmS]; simp [List.lookup, fu'] <;> rfl) (by rw [nmS]; simp [List.lookup, fc'] <;> rfl) rfl (X.keeps k) (G.keeps k) (hb.keeps k) hbs hns mself (k _ _ hx) fun h' tk t1 k' hx' => ?_
  have hne : hp.objs.size ≠ x := fr_ne rfl hx
  have hn' := hns.at fun o e => k' _ o hne e
  have X' : K.In h' := fun a o e => k' a o (fun z => by rw [z, hnx] at e; cases e) (k a o (X a o e))
  refine wpAt_of_wpAny (wpAny_execs_cons (plainObj_wpAny_Assign_Attribute ?_))
  refine wpAny_Name (wpAny_loadName_local rfl lf hn' mf ?_) fd
  refine wpAny_Name (wpAny_loadName_local rfl rfl hn' mself ?_) (by decide)
  refine set_plain X' (ox := excO C t1) (od := none) ⟨hx', rfl, rfl, trivial⟩ T.sa ?_
  refine exc_osa X' hx' hcl (show refsVE (.ref C :: bm) = true from hbm) rfl noN (fun h₃ tk₃ dx k₃ dn dne hx₃ hn₃ => ?_)
  have z : hp.objs.size < h'.objs.size := hn'.lt
  exact wpAny_execs_nil (hq h₃ tk₃ t1 dx (fun b o hb e => k₃ b o hb (k' b o hb (k b o e))) hx₃ (Nat.le_of_lt (Nat.lt_of_lt_of_le z dn)) dne hn₃)
end
end XE
end HM

/-! HM, own exceptions: made, raised. -/
namespace HM
namespace XE
open PySem PySem.W PySem.Calls PyProof.Rows PySem.HandSPX
section
variable {prog : Program} {w : World} {A : Around} {E : Value → Shared → Prop} {R : Result → Shared → Prop} {s : Shared} {K : Frag} {C fI : Addr} {mg mb : Str → Option Value}
theorem one_size (v : Value) : [v].length ≤ sizeLine := by
  rw [sizeLine_eq]
  exact (by decide : 1 ≤ 16777216)
theorem made1 {f : Str} {v : Value} (T : Txt prog K C fI (some f)) (X : K.In s.heap) (hlim : s.heap.NoLimit) (G : s.heap.Ns mainGlobals mg) (hb : s.heap.Ns builtinsNs mb) (hbs : mb "super" = some (.type "super")) (hroom : A.depth + 1 < recursionLimit)
    (hq : ∀ h' tk (e dx t1 : Addr), (∀ b o, s.heap.get? b = some o → h'.get? b = some o) → s.heap.objs.size ≤ e → h'.get? e = some { cls := .ref C, dict := some dx, data := .fields #[.ref t1, .none, .none, .none, .bool false, .none] } → s.heap.objs.size ≤ dx → dx ≠ e → h'.Ns1 dx (fun y => if y = f then some v else none) → R (.ok (.ret (.ref e))) { s with heap := h', toks := tk }) :
    codeAny (model prog w) A (.call (.ref C) ⟨[v], []⟩) R s := by
  obtain ⟨nm, q, N, bs, bm, sn, sub, ab, col, dd, k0, k1, k2, k3, k5, hC, hbm⟩ := T.cls
  obtain ⟨hp, g, dr, tk, os⟩ := s
  have k : ∀ b o, hp.get? b = some o → ((hp.push (kdv_tup [v])).push (excO C hp.objs.size)).get? b = some o := fun b o e => Heap.get?_push_of_some _ (Heap.get?_push_of_some _ e)
  have hget : ((hp.push (kdv_tup [v])).push (excO C hp.objs.size)).get? (hp.objs.size + 1) = some (excO C hp.objs.size) := by heap_get
  have hnx : K.lookup (hp.objs.size + 1) = none := by
    cases e : K.lookup (hp.objs.size + 1) with
    | none => rfl
    | some o =>
      have z : hp.get? (hp.objs.size + 1) = some o := X _ _ e
      exact absurd (Nat.lt_of_succ_lt (Heap.lt_size z)) (Nat.lt_irrefl _)
  refine call_own F.excBase_ValueError (fun X => refsVE_contains X bm hbm) (X _ _ hC) (looks_findIn X T.iC) (fun self => bind_fn X self T.tC) (one_size v) ?_
  refine init1 (s := ⟨(hp.push (kdv_tup [v])).push (excO C hp.objs.size), g, dr, tk, os⟩) T (X.keeps k) (hlim.keeps k) (G.keeps k) (hb.keeps k) hbs hget hnx ?_ fun h' tk' t1 dx k' hx dn dne hns => ?_
  · show A.depth + 1 < recursionLimit
    exact hroom
  · have old : ∀ b o, hp.get? b = some o → h'.get? b = some o := fun b o e => k' b o (Nat.ne_of_lt (Nat.lt_succ_of_lt (Heap.lt_size e))) (k b o e)
    have z : hp.objs.size + 1 + 1 ≤ dx := by
      first
        | (simpa only [Heap.size_push] using dn)
        | exact dn
        | (have q := dn; rw [Heap.size_push, Heap.size_push] at q; exact q)
    exact ⟨rfl, hq h' tk' (hp.objs.size + 1) dx t1 old (Nat.le_succ _) hx (Nat.le_trans (Nat.le_trans (Nat.le_succ _) (Nat.le_succ _)) z) dne hns⟩
theorem made0 (T : Txt prog K C fI none) (X : K.In s.heap) (hlim : s.heap.NoLimit) (G : s.heap.Ns mainGlobals mg) (hb : s.heap.Ns builtinsNs mb) (hbs : mb "super" = some (.type "super")) (hroom : A.depth + 1 < recursionLimit)
    (hq : ∀ h' tk (e t1 : Addr), (∀ b o, s.heap.get? b = some o → h'.get? b = some o) → s.heap.objs.size ≤ e → h'.get? e = some { cls := .ref C, dict := none, data := .fields #[.ref t1, .none, .none, .none, .bool false, .none] } → R (.ok (.ret (.ref e))) { s with heap := h', toks := tk }) :
    codeAny (model prog w) A (.call (.ref C) ⟨[], []⟩) R s := by
  obtain ⟨nm, q, N, bs, bm, sn, sub, ab, col, dd, k0, k1, k2, k3, k5, hC, hbm⟩ := T.cls
  obtain ⟨hp, g, dr, tk, os⟩ := s
  have k : ∀ b o, hp.get? b = some o → ((hp.push (kdv_tup [])).push (excO C hp.objs.size)).get? b = some o := fun b o e => Heap.get?_push_of_some _ (Heap.get?_push_of_some _ e)
  have hget : ((hp.push (kdv_tup [])).push (excO C hp.objs.size)).get? (hp.objs.size + 1) = some (excO C hp.objs.size) := by heap_get
  refine call_own F.excBase_ValueError (fun X => refsVE_contains X bm hbm) (X _ _ hC) (looks_findIn X T.iC) (fun self => bind_fn X self T.tC) (Nat.zero_le _) ?_
  refine init0 (s := ⟨(hp.push (kdv_tup [])).push (excO C hp.objs.size), g, dr, tk, os⟩) T (X.keeps k) (hlim.keeps k) (G.keeps k) (hb.keeps k) hbs hget ?_ fun h' tk' t1 k' hx => ?_
  · show A.depth + 1 < recursionLimit
    exact hroom
  · have old : ∀ b o, hp.get? b = some o → h'.get? b = some o := fun b o e => k' b o (Nat.ne_of_lt (Nat.lt_succ_of_lt (Heap.lt_size e))) (k b o e)
    exact ⟨rfl, hq h' tk' (hp.objs.size + 1) t1 old (Nat.le_succ _) hx⟩
end
end XE
end HM
namespace HM
open PySem PySem.Spec PyProof.Rows L2
theorem relO_fld {v : V} {v' : Value} {f : Str} (r : RelV v v') (g : Str) : RelO (List.lookup g [(f, v)]) (if g = f then some v' else none) := by
  by_cases hw : g = f
  · subst hw
    rw [if_pos rfl]
    have q : List.lookup g [(g, v)] = some v := by simp [List.lookup]
    rw [q]
    exact r
  · rw [if_neg hw]
    have qw : (g == f) = false := by simpa using hw
    have q2 : List.lookup g [(f, v)] = none := by simp [List.lookup, qw]
    rw [q2]
    trivial
section
variable {X : Cx} {C fI : Addr}
/-- C(e) -/
def tMk1 (C : Addr) (f : Str) (ta : TA) : L2.St → Hp → XK → Prop := fun σ H Q => ta σ H fun vs H1 => ∃ v, vs = [v] ∧ ∀ d, H1 d = none → Q (.ref C) (some d) (upd H1 d (.xd [(f, v)]))
theorem pmk1 {n f : Str} {a : Expr} {ta : TA} {p pos : Pos} {k : Nat} (T : XE.Txt X.prog X.K C fI (some f)) (gC : X.mg n = some (.ref C)) (hr : Room k X.A) (ha : PA X [a] ta) (hg : Gl X n) (hk : 0 < k) (hn : (n == ("__debug__" : Str)) = false := by decide)
    (he : starEach (a :: []) X.env = (false, eval a X.env) :: starEach [] X.env := by rfl) (hpl : (backTo pos (starEach [] X.env)).any (·.1) = false := by rfl) :
    PMk X (.Call (.Name n p) [a] [] pos) (tMk1 C f ta) := by
  intro pins s σ H Q I h
  refine wpAny_Call_Name_kw (ld_glob I hg gC ?_ hn)
  refine PySem.W.callWith_K (h₀ := X.base) I.ok.mod.kin T.kC (thn (ha.run pos pins s σ H _ I h) fun us s1 hh => ?_) he hpl
  obtain ⟨vs, H1, I1, r1, v, ev, q1⟩ := hh
  subst ev
  refine ⟨I1.kIn, ?_⟩
  cases r1 with
  | cons rv rn =>
    rename_i v' us'
    cases rn
    show wpAny _ _ (call (.ref C) [v']) _ _ _
    have hlim := I1.nolimit
    obtain ⟨mb, hb1, hb2⟩ := I1.mod.blt
    have G1 := I1.mod.glob.keeps I1.bk
    have B1 := hb1.keeps I1.bk
    have bs : mb "super" = some (.type "super") := (hb2 "super" (by decide)).trans (by decide +kernel)
    obtain ⟨hp, g, dr, tk, os⟩ := s1
    refine wpAny_call (XE.made1 T I1.kIn hlim G1 B1 bs (by have := hr.dp; omega) fun h' tk' e d t1 keep new obj dbig dne hns => ?_)
    show MkP X pins σ Q (.ref e) ⟨h', g, dr, tk', os⟩
    obtain ⟨G', g1, g2⟩ := restrict h' fun b => decide (b ≠ e)
    have gk : ∀ b, b ≠ e → G'.get? b = h'.get? b := fun b hb => g1 b (decide_eq_true hb)
    have ge : G'.get? e = none := g2 e (by simp)
    have old : ∀ b o, hp.get? b = some o → G'.get? b = some o := fun b o q => (gk b (Nat.ne_of_lt (Nat.lt_of_lt_of_le (Heap.lt_size q) new))).trans (keep b o q)
    have ob : ObjOk X.prog X.w (upd H1 d (.xd [(f, v)])) G' d (.xd [(f, v)]) :=
      ⟨_, hns.at (fun o q => (gk d dne).trans q), fun g => relO_fld rv g⟩
    have J : Inv X pins σ (upd H1 d (.xd [(f, v)])) ⟨G', g, dr, tk', os⟩ := I1.laid (t' := tk') old dbig ob
    refine ⟨e, _, _, ⟨G', g, dr, tk', os⟩, _, .ref C, some d, rfl, J, fun b o q => ?_, ge, obj, ⟨rfl, rfl⟩, rfl, rfl, ?_, rfl, I1.bare, raises_own T.exC T.tyC, q1 d (I1.hok.fresh dbig)⟩
    · by_cases hb : b = e
      · have q' : G'.get? b = some o := q
        rw [hb, ge] at q'; cases q'
      · exact (gk b hb).symm.trans q
    · rw [upd_ne (Ne.symm dne)]
      exact I1.hok.fresh new
def tMk0 (C : Addr) : L2.St → Hp → XK → Prop := fun σ H Q => Q (.ref C) none H
theorem pmk0 {n : Str} {p pos : Pos} {k : Nat} (T : XE.Txt X.prog X.K C fI none) (gC : X.mg n = some (.ref C)) (hr : Room k X.A) (hg : Gl X n) (hk : 0 < k) (hn : (n == ("__debug__" : Str)) = false := by decide) :
    PMk X (.Call (.Name n p) [] [] pos) (tMk0 C) := by
  intro pins s σ H Q I h
  refine wpAny_Call_Name_kw (ld_glob I hg gC ?_ hn)
  refine PySem.W.callWith_K0 I.kIn T.kC ?_
  show wpAny _ _ (call (.ref C) []) _ _ _
  have hlim := I.nolimit
  obtain ⟨mb, hb1, hb2⟩ := I.mod.blt
  have G1 := I.mod.glob.keeps I.bk
  have B1 := hb1.keeps I.bk
  have bs : mb "super" = some (.type "super") := (hb2 "super" (by decide)).trans (by decide +kernel)
  have kin := I.kIn
  obtain ⟨hp, g, dr, tk, os⟩ := s
  refine wpAny_call (XE.made0 T kin hlim G1 B1 bs (by have := hr.dp; omega) fun h' tk' e t1 keep new obj => ?_)
  show MkP X pins σ Q (.ref e) ⟨h', g, dr, tk', os⟩
  obtain ⟨G', g1, g2⟩ := restrict h' fun b => decide (b ≠ e)
  have gk : ∀ b, b ≠ e → G'.get? b = h'.get? b := fun b hb => g1 b (decide_eq_true hb)
  have ge : G'.get? e = none := g2 e (by simp)
  have old : ∀ b o, hp.get? b = some o → G'.get? b = some o := fun b o q => (gk b (Nat.ne_of_lt (Nat.lt_of_lt_of_le (Heap.lt_size q) new))).trans (keep b o q)
  have J : Inv X pins σ H ⟨G', g, dr, tk', os⟩ := I.kept (t' := tk') old
  refine ⟨e, _, _, ⟨G', g, dr, tk', os⟩, _, .ref C, none, rfl, J, fun b o q => ?_, ge, obj, ⟨rfl, rfl⟩, rfl, rfl, ?_, rfl, I.bare, raises_own T.exC T.tyC, h⟩
  · by_cases hb : b = e
    · have q' : G'.get? b = some o := q
      rw [hb, ge] at q'; cases q'
    · exact (gk b hb).symm.trans q
  · exact I.hok.fresh new
end
end HM

/-! HM, own exceptions: what the head tells of a class; the Hook with classes. -/
namespace HM
open PySem PySem.Spec PyProof.Rows L2
/-- the object of a class over ValueError -/
def vcB (K : PySem.W.Frag) (C : Addr) : Bool := match K.lookup C with
  | some ⟨.type "type", _, .cls cd, sl⟩ => (match cd.mro, sl.toList with
    | .ref C' :: bm, [_, _, _, _, some (.builtin n), _] => (C' == C && n == "ValueError.__new__") && ((!cd.hasDel && cd.hasDict) && PySem.HandSPX.refsVE bm)
    | _, _ => false)
  | _ => false
theorem vcB_ok {K : PySem.W.Frag} {C : Addr} (q : vcB K C = true) : ∃ nm q N bs bm sn sub ab col dd k0 k1 k2 k3 k5, K.lookup C = some (excClassObj nm q C N bs bm true sn sub ab col dd k0 k1 k2 k3 k5 "ValueError.__new__") ∧ PySem.HandSPX.refsVE bm = true := by
  unfold vcB at q
  split at q
  · rename_i dd cd sl ho
    split at q
    · rename_i C' bm k0 k1 k2 k3 n k5 hm hs
      simp only [Bool.and_eq_true, beq_iff_eq, Bool.not_eq_true'] at q
      obtain ⟨⟨rfl, rfl⟩, ⟨hdel, hdi⟩, ht⟩ := q
      obtain ⟨nm, bs, mro, ns, qn, hd, sn, sub, ab, col, del⟩ := cd
      dsimp only at hm hdel hdi
      subst hm hdel hdi
      have hsl : sl = #[k0, k1, k2, k3, some (.builtin "ValueError.__new__"), k5] := by
        obtain ⟨l⟩ := sl
        simp only at hs
        rw [hs]
      subst hsl
      exact ⟨nm, qn, ns, bs, bm, sn, sub, ab, col, dd, k0, k1, k2, k3, k5, ho, ht⟩
    · cases q
  · cases q
def fileB (file : Str) : Option Value → Bool
  | some (.str f _) => file == f
  | _ => false
theorem fileB_ok {file : Str} {v : Option Value} (h : fileB file v = true) : ∃ f t, v = some (.str f t) ∧ (file == f) = true := by
  unfold fileB at h
  split at h
  · exact ⟨_, _, rfl, h⟩
  · cases h
/-- __init__'s own: where it stands, its cell, its code's file -/
def inB (K : PySem.W.Frag) (C : Addr) (q file : Str) : Bool := match K.lookup (He.ma K C "__init__") with
  | some ⟨_, _, .func fd, _⟩ => (match fd.closure with
      | [(x, cc)] => x == ("__class__" : Str) && (match K.lookup cc with
        | some ⟨_, _, .cell (some (.ref C')), _⟩ => C' == C
        | _ => false)
      | _ => false) && (PySem.W.codeIn K fd.code q && (match fd.code with
      | .ref cda => (match K.lookup cda with
        | some ⟨_, _, .fields vs, _⟩ => fileB file vs[2]?
        | _ => false)
      | _ => false))
  | _ => false
abbrev FnI : Type := Option (Str × Str × Arguments × FuncBody × Scope × Addr × Value × Value × Addr)
def fnI (K : PySem.W.Frag) (n : Str) : FnI := match K.lookup (He.ma K (He.ga K n) "__init__") with
  | some ⟨_, _, .func fd, _⟩ => some (fd.name, fd.qualname, fd.params, fd.body, fd.scope, fd.globals, fd.defaults, fd.kwdefaults, fd.builtins)
  | _ => none
/-- the def in a class statement -/
def clsFn : Stmt → Stmt
  | .ClassDef _ _ _ (b :: _) _ _ _ _ _ _ _ => b
  | s => s
/-- an own class: its name, its __init__'s qualified name, the def, the field -/
structure InD where
  n : Str
  qual : Str
  st : Stmt
  fld : Option Str
def InD.val (d : InD) : FnI := some ("__init__", d.qual, defArgs d.st, .stmts (defBody d.st), defScope d.st, mainGlobals, .none, .none, builtinsNs)
/-- the statement's shape -/
structure InD.Shape (d : InD) : Prop where
  ex : ∃ (p1 p2 q1 q2 q3 q4 q5 q6 q7 q8 q9 q10 : Pos) (msg : Str) (j : Nat), (q3.endLine == q5.line) = true ∧ defArgs d.st = XE.iA p1 p2 d.fld ∧ defBody d.st = XE.iB msg j q1 q2 q3 q4 q5 q6 q7 q8 q9 q10 d.fld ∧ defScope d.st = XE.iS d.fld
  bd : ∀ f, d.fld = some f → XE.BdOk f
  nm : ∀ f, d.fld = some f → f ≠ "self" ∧ (f == ("__debug__" : Str)) = false ∧ f ≠ "__class__" ∧ f ≠ "super"
def fldB (K : PySem.W.Frag) (C : Addr) : Option Str → Bool
  | some f => He.eqO (PySem.W.findIn K (.ref C) f) (some none)
  | none => true
def InD.ok (K : PySem.W.Frag) (file : Str) (d : InD) : Bool :=
  (He.eqO (PySem.W.nsIn K mainGlobals d.n) (some (some (.ref (He.ga K d.n)))) && (vcB K (He.ga K d.n) && inB K (He.ga K d.n) d.qual file)) &&
  ((He.eqO (PySem.W.findIn K (.ref (He.ga K d.n)) "__setattr__") (some (some (.builtin "object.__setattr__"))) && (He.eqO (PySem.W.findIn K (.ref (He.ga K d.n)) "__getattribute__") (some (some (.builtin "BaseException.__getattribute__"))) && (He.eqO (PySem.W.findIn K (.ref (He.ga K d.n)) "__getattr__") (some none) && (He.eqO (PySem.W.findIn K (.ref (He.ga K d.n)) "__init__") (some (some (.ref (He.ma K (He.ga K d.n) "__init__")))) && fldB K (He.ga K d.n) d.fld)))) &&
  ((decide (PySem.W.typeIn K (.ref (He.ma K (He.ga K d.n) "__init__")) = some (.type "function")) && (PySem.W.keepIn K (.ref (He.ga K d.n)) && (decide (PySem.W.subIn K (.ref (He.ga K d.n)) (.type "BaseException") = some true) && (decide (PySem.W.subIn K (.ref (He.ga K d.n)) (.type "ValueError") = some true) && decide (PySem.W.typeIn K (.ref (He.ga K d.n)) = some (.type "type")))))) &&
  ((PySem.W.hasDictIn K (He.ga K d.n) && (He.eqO (PySem.W.ks_superIn K (He.ga K d.n) (He.ga K d.n) "__init__") (some (some (.builtin "ValueError.__init__"))) && (decide (PySem.W.mroIn K (He.ga K d.n) (.ref (He.ga K d.n)) = some true) && (He.eqO (PySem.W.nsIn K cStatics "thirdparty.any") (some none) && He.eqO (PySem.W.nsIn K mainGlobals "super") (some none))))) &&
  ((PySem.W.clsIn K (He.ga K d.n)).isSome && (He.eqO (PySem.W.findIn K (.ref (He.ga K d.n)) "__class__") (some (some (.builtin "object.__class__"))) && (He.eqO (PySem.W.specialIn K (.builtin "object.__class__") "__get__") (some (some (.builtin "getset_descriptor.__get__"))) && (decide (PySem.W.takesIn K (.builtin "object.__class__") = some true) && decide (PySem.W.mroIn K (He.ga K d.n) (.type "object") = some true))))))))
/-- what isinstance of a caught one asks -/
structure IsC (K : PySem.W.Frag) (C : Addr) : Prop where
  cl : (PySem.W.clsIn K C).isSome = true
  ga : PySem.W.findIn K (.ref C) "__getattribute__" = some (some (.builtin "BaseException.__getattribute__"))
  gg : PySem.W.findIn K (.ref C) "__getattr__" = some none
  ex : PySem.W.subIn K (.ref C) (.type "BaseException") = some true
  ca : PySem.W.findIn K (.ref C) "__class__" = some (some (.builtin "object.__class__"))
  sp : PySem.W.specialIn K (.builtin "object.__class__") "__get__" = some (some (.builtin "getset_descriptor.__get__"))
  tk : PySem.W.takesIn K (.builtin "object.__class__") = some true
  ob : PySem.W.mroIn K C (.type "object") = some true
/-- an own class, as a def that raises it or looks at it wants it -/
structure Own (P : Program) (K : PySem.W.Frag) (mg : Str → Option Value) (n : Str) (fld : Option Str) : Prop where
  txt : ∃ fI, XE.Txt P K (He.ga K n) fI fld
  glob : mg n = some (.ref (He.ga K n))
  isc : IsC K (He.ga K n)
theorem InD.own {P : Program} {K : PySem.W.Frag} {h : Heap} {mg : Str → Option Value} {file : Str} {d : InD} (X : K.In h) (G : h.Ns mainGlobals mg) (S : d.Shape) (hfile : P.main.file = file) (htop : (P.main.scope.names.lookup ("super" : Str)).isSome = false) (e : fnI K d.n = d.val) (c : d.ok K file = true) : Own P K mg d.n d.fld := by
  unfold InD.ok at c
  simp only [Bool.and_eq_true, decide_eq_true_eq] at c
  obtain ⟨⟨c1, c2, c3⟩, ⟨c4, c5, c6, c7, c8⟩, ⟨c9, c10, c11, c12, c13⟩, ⟨c14, c15, c16, c17, c18⟩, c19, c20, c21, c22, c23⟩ := c
  have c1 := He.eqO_ok c1
  have c4 := He.eqO_ok c4
  have c5 := He.eqO_ok c5
  have c6 := He.eqO_ok c6
  have c7 := He.eqO_ok c7
  have c15 := He.eqO_ok c15
  have c17 := He.eqO_ok c17
  have c18 := He.eqO_ok c18
  have c20 := He.eqO_ok c20
  have c21 := He.eqO_ok c21
  refine ⟨⟨He.ma K (He.ga K d.n) "__init__", ?_⟩, PySem.W.mg_of X G c1, ⟨c19, c5, c6, c11, c20, c21, c22, c23⟩⟩
  obtain ⟨p1, p2, q1, q2, q3, q4, q5, q6, q7, q8, q9, q10, msg, j, hl, s1, s2, s3⟩ := S.ex
  refine ⟨vcB_ok c2, c4, c5, c6, fun f hf => ?_, S.bd, c7, c9, c10, c11, c12, c13, c14, c15, c16, c17, c18, ?_, htop⟩
  · rw [hf] at c8
    exact ⟨He.eqO_ok c8, S.nm f hf⟩
  · unfold fnI InD.val at e
    unfold inB at c3
    split at e
    · rename_i oc od fd osl lk
      rw [lk] at c3
      simp only [Option.some.injEq, Prod.mk.injEq] at e
      obtain ⟨e1, e2, e3, e4, e5, e6, e7, e8, e9⟩ := e
      simp only [Bool.and_eq_true] at c3
      obtain ⟨k1, k2, k3⟩ := c3
      obtain ⟨name, qn, params, body, scope, gl, clo, df, kd, doc, pm, an, code, ct, bn⟩ := fd
      dsimp only at e1 e2 e3 e4 e5 e6 e7 e8 e9 k1 k2 k3
      subst e1 e2 e3 e4 e5 e6 e7 e8 e9
      split at k1
      · rename_i x cc
        simp only [Bool.and_eq_true, beq_iff_eq] at k1
        obtain ⟨rfl, k1⟩ := k1
        split at k3
        · rename_i cda
          refine ⟨oc, od, d.qual, doc, pm, an, cda, ct, cc, osl, p1, p2, q1, q2, q3, q4, q5, q6, q7, q8, q9, q10, msg, j, ?_, k2, hl, ?_, ?_⟩
          · rw [lk, ← s1, ← s2, ← s3]
          · split at k1
            · rename_i cl cld C' csl hcc
              have : C' = He.ga K d.n := beq_iff_eq.mp k1
              subst this
              exact ⟨_, _, _, hcc⟩
            · cases k1
          · split at k3
            · rename_i ccl cdd vs ccs hcd
              obtain ⟨f, tf, hv, k3⟩ := fileB_ok k3
              exact ⟨_, _, vs, _, f, tf, hcd, hv, by rw [hfile]; exact k3⟩
            · cases k3
        · cases k3
      · cases k1
    · cases e
/-! ### answers about classes -/
def isB (K : PySem.W.Frag) (C : Addr) : Bool := (PySem.W.clsIn K C).isSome && (He.eqO (PySem.W.findIn K (.ref C) "__getattribute__") (some (some (.builtin "BaseException.__getattribute__"))) && (He.eqO (PySem.W.findIn K (.ref C) "__getattr__") (some none) && (decide (PySem.W.subIn K (.ref C) (.type "BaseException") = some true) && (He.eqO (PySem.W.findIn K (.ref C) "__class__") (some (some (.builtin "object.__class__"))) && (He.eqO (PySem.W.specialIn K (.builtin "object.__class__") "__get__") (some (some (.builtin "getset_descriptor.__get__"))) && (decide (PySem.W.takesIn K (.builtin "object.__class__") = some true) && decide (PySem.W.mroIn K C (.type "object") = some true)))))))
theorem isB_ok {K : PySem.W.Frag} {C : Addr} (c : isB K C = true) : IsC K C := by
  unfold isB at c
  simp only [Bool.and_eq_true, decide_eq_true_eq] at c
  obtain ⟨c1, c2, c3, c4, c5, c6, c7, c8⟩ := c
  exact ⟨c1, He.eqO_ok c2, He.eqO_ok c3, c4, He.eqO_ok c5, He.eqO_ok c6, c7, c8⟩
inductive Fz where
  /-- an instance of the class n is caught by «except y» -/
  | exm (n y : Str)
  /-- isinstance of an instance of n: an own class, a built-in one -/
  | isx (n y : Str) (b : Bool)
  | isb (n : Str) (T : String) (b : Bool)
def Fz.ok (K : PySem.W.Frag) : Fz → Bool
  | .exm n y => He.eqO (PySem.W.nsIn K mainGlobals y) (some (some (.ref (He.ga K y)))) && (isB K (He.ga K n) && decide (PySem.W.exmOne K (.ref (He.ga K n)) (.ref (He.ga K y)) = some true))
  | .isx n y b => He.eqO (PySem.W.nsIn K mainGlobals y) (some (some (.ref (He.ga K y)))) && decide (PySem.W.kitOne K (.ref (He.ga K n)) (.ref (He.ga K y)) = some b)
  | .isb n T b => decide (PySem.W.kitOne K (.ref (He.ga K n)) (.type T) = some b)
section
variable {K : PySem.W.Frag} {h : Heap} {mg : Str → Option Value}
structure Exm (K : PySem.W.Frag) (mg : Str → Option Value) (n y : Str) : Prop where
  glob : mg y = some (.ref (He.ga K y))
  is : PySem.W.exmOne K (.ref (He.ga K n)) (.ref (He.ga K y)) = some true
  isc : IsC K (He.ga K n)
structure Isx (K : PySem.W.Frag) (mg : Str → Option Value) (n y : Str) (b : Bool) : Prop where
  glob : mg y = some (.ref (He.ga K y))
  is : PySem.W.kitOne K (.ref (He.ga K n)) (.ref (He.ga K y)) = some b
structure Isb (K : PySem.W.Frag) (n : Str) (T : String) (b : Bool) : Prop where
  is : PySem.W.kitOne K (.ref (He.ga K n)) (.type T) = some b
theorem exm_ok (X : K.In h) (G : h.Ns mainGlobals mg) {n y : Str} (c : (Fz.exm n y).ok K = true) : Exm K mg n y := by
  obtain ⟨c1, c2⟩ := He.ba (show (He.eqO _ _ && (isB _ _ && decide _)) = true from c)
  obtain ⟨c2, c3⟩ := He.ba c2
  exact ⟨PySem.W.mg_of X G (He.eqO_ok c1), of_decide_eq_true c3, isB_ok c2⟩
theorem isx_ok (X : K.In h) (G : h.Ns mainGlobals mg) {n y : Str} {b : Bool} (c : (Fz.isx n y b).ok K = true) : Isx K mg n y b := by
  obtain ⟨c1, c2⟩ := He.ba (show (He.eqO _ _ && decide _) = true from c)
  exact ⟨PySem.W.mg_of X G (He.eqO_ok c1), of_decide_eq_true c2⟩
theorem isb_ok {n : Str} {T : String} {b : Bool} (c : (Fz.isb n T b).ok K = true) : Isb K n T b := ⟨of_decide_eq_true (show decide _ = true from c)⟩
end
/-- the tables' answers -/
def fzOf (tX : List (Str × Str × Bool)) (tB : List (Str × String × Bool)) (tM : List (Str × Str)) : List Fz := tX.map (fun r => Fz.isx r.1 r.2.1 r.2.2) ++ (tB.map (fun r => Fz.isb r.1 r.2.1 r.2.2) ++ tM.map fun r => Fz.exm r.1 r.2)
/-! ### the Hook with classes -/
abbrev AlC : Type := He.AlD × (Bool × List FnI)
def asC (g : Addr → Option Obj) (n : Nat) : List Addr := He.asD g n ++ [cStatics]
def obsC (fa : List He.Fa) (fx : List Fx) (fn : List He.DefD) (fz : List Fz) (ins : List InD) (file : Str) (K : PySem.W.Frag) : AlC := (obsM fa fx fn K, ((fz.all fun f => f.ok K) && ins.all fun d => d.ok K file, ins.map fun d => fnI K d.n))
def valC (fn : List He.DefD) (ins : List InD) : AlC := (He.valD fn, (true, ins.map InD.val))
def SaysC (fa : List He.Fa) (fx : List Fx) (fn : List He.DefD) (fz : List Fz) (ins : List InD) (file : Str) (K : PySem.W.Frag) : Prop := obsC fa fx fn fz ins file K = valC fn ins
def obsCG (n : Nat) (fa : List He.Fa) (fx : List Fx) (fn : List He.DefD) (fz : List Fz) (ins : List InD) (file : Str) (g : Addr → Option Obj) : AlC := obsC fa fx fn fz ins file (He.frG g (asC g n))
def hookC (n : Nat) (fa : List He.Fa) (fx : List Fx) (fn : List He.DefD) (fz : List Fz) (ins : List InD) (file : Str) : PySem.W.Hook where
  α := AlC
  obs := fun s => obsCG n fa fx fn fz ins file s.heap.get?
  val := fun _ => valC fn ins
  says := fun _ h => ∃ K : PySem.W.Frag, K.In h ∧ SaysC fa fx fn fz ins file K
  of := fun _ _ e => ⟨_, He.frG_in, e⟩
  keeps := fun _ _ _ ⟨K, hK, c⟩ k => ⟨K, PySem.W.Frag.In.keeps hK k, c⟩
theorem obsCG_eq {n : Nat} {fa : List He.Fa} {fx : List Fx} {fn : List He.DefD} {fz : List Fz} {ins : List InD} {file : Str} {g : Addr → Option Obj} {s : Shared} (h : ∀ a, g a = s.heap.get? a) : obsCG n fa fx fn fz ins file g = (hookC n fa fx fn fz ins file).obs s := by
  have e : g = s.heap.get? := funext h
  rw [e] <;> rfl
section
variable {fa : List He.Fa} {fx : List Fx} {fn : List He.DefD} {fz : List Fz} {ins : List InD} {file : Str} {K : PySem.W.Frag}
theorem SaysC.m (c : SaysC fa fx fn fz ins file K) : SaysM fa fx fn K := congrArg (fun z : AlC => z.1) c
theorem SaysC.z (c : SaysC fa fx fn fz ins file K) (i : Nat) {f : Fz} (h : fz[i]? = some f := by rfl) : f.ok K = true := by
  have c1 := (He.ba (show ((fz.all fun f => f.ok K) && ins.all fun d => d.ok K file) = true from congrArg (fun z : AlC => z.2.1) c)).1
  exact List.all_eq_true.mp c1 f (List.mem_of_getElem? h)
theorem SaysC.zm (c : SaysC fa fx fn fz ins file K) {f : Fz} (h : f ∈ fz) : f.ok K = true := by
  have c1 := (He.ba (show ((fz.all fun f => f.ok K) && ins.all fun d => d.ok K file) = true from congrArg (fun z : AlC => z.2.1) c)).1
  exact List.all_eq_true.mp c1 f h
theorem SaysC.x {h : Heap} {mg : Str → Option Value} {tX : List (Str × Str × Bool)} {tB : List (Str × String × Bool)} {tM : List (Str × Str)} (c : SaysC fa fx fn (fzOf tX tB tM) ins file K) (X : K.In h) (G : h.Ns mainGlobals mg) : ∀ r ∈ tX, Isx K mg r.1 r.2.1 r.2.2 := fun r hr =>
  isx_ok X G (c.zm (List.mem_append_left _ (List.mem_map.mpr ⟨r, hr, rfl⟩)))
theorem SaysC.b {tX : List (Str × Str × Bool)} {tB : List (Str × String × Bool)} {tM : List (Str × Str)} (c : SaysC fa fx fn (fzOf tX tB tM) ins file K) : ∀ r ∈ tB, Isb K r.1 r.2.1 r.2.2 := fun r hr =>
  isb_ok (c.zm (List.mem_append_right _ (List.mem_append_left _ (List.mem_map.mpr ⟨r, hr, rfl⟩))))
theorem SaysC.e {h : Heap} {mg : Str → Option Value} {tX : List (Str × Str × Bool)} {tB : List (Str × String × Bool)} {tM : List (Str × Str)} (c : SaysC fa fx fn (fzOf tX tB tM) ins file K) (X : K.In h) (G : h.Ns mainGlobals mg) : ∀ r ∈ tM, Exm K mg r.1 r.2 := fun r hr =>
  exm_ok X G (c.zm (List.mem_append_right _ (List.mem_append_right _ (List.mem_map.mpr ⟨r, hr, rfl⟩))))
theorem SaysC.cls (c : SaysC fa fx fn fz ins file K) (i : Nat) {d : InD} (h : ins[i]? = some d := by rfl) : fnI K d.n = d.val ∧ d.ok K file = true := by
  have c2 := (He.ba (show ((fz.all fun f => f.ok K) && ins.all fun d => d.ok K file) = true from congrArg (fun z : AlC => z.2.1) c)).2
  have e : ins.map (fun d => fnI K d.n) = ins.map InD.val := congrArg (fun z : AlC => z.2.2) c
  have e2 : (ins.map fun d => fnI K d.n)[i]? = (ins.map InD.val)[i]? := by rw [e]
  rw [List.getElem?_map, List.getElem?_map, h] at e2
  exact ⟨Option.some.inj e2, List.all_eq_true.mp c2 d (List.mem_of_getElem? h)⟩
end
end HM

namespace K65
open PySem PySem.Spec PyProof.Rows L2 HM
def top (i : Nat) : Stmt := PySem.Challenge.pw_closedratios_k65_whole_rising.main.body.getD i (.Pass ⟨0, 0, 0, 0⟩)
abbrev s_ratio : Stmt := top 3
abbrev s_plus : Stmt := top 4
abbrev s_minus : Stmt := top 5
abbrev s_times : Stmt := top 6
abbrev s_over : Stmt := top 7
abbrev s_is_below : Stmt := top 8
abbrev s_is_fraction : Stmt := top 9
abbrev s_height_at : Stmt := top 11
abbrev s_pull_at : Stmt := top 12
abbrev s_joined_bowl : Stmt := top 13
abbrev s_is_ahead : Stmt := top 15
abbrev s_one_block : Stmt := top 16
abbrev s_pooled_blocks : Stmt := top 17
abbrev s_nearest_rising : Stmt := top 18
abbrev s_is_rising : Stmt := top 19
abbrev s_rises_behind : Stmt := top 20
abbrev s_pulls_up_to : Stmt := top 21
abbrev s_judge_rising : Stmt := top 22
abbrev s_square_distance : Stmt := top 24
abbrev s__law_begin : Stmt := top 26
abbrev s__law_draw : Stmt := top 27
abbrev s__law_rare : Stmt := top 28
abbrev s__law_is_int : Stmt := top 29
abbrev s__law_gcd : Stmt := top 30
abbrev s__law_f : Stmt := top 31
abbrev s__law_plus : Stmt := top 32
abbrev s__law_minus : Stmt := top 33
abbrev s__law_times : Stmt := top 34
abbrev s__law_over : Stmt := top 35
abbrev s__law_less : Stmt := top 36
abbrev s__law_is_frac : Stmt := top 37
abbrev s__law_signed : Stmt := top 38
abbrev s__law_up : Stmt := top 39
abbrev s__law_step : Stmt := top 40
abbrev s__law_loads : Stmt := top 41
abbrev s__law_stairs : Stmt := top 42
abbrev s__law_is_flat : Stmt := top 43
abbrev s__law_led : Stmt := top 44
abbrev s__law_answers_of : Stmt := top 45
abbrev s__law_with : Stmt := top 46
abbrev s__law_rises : Stmt := top 47
abbrev s__law_is_nearest : Stmt := top 48
abbrev s__law_far : Stmt := top 49
abbrev s__law_no_fraction : Stmt := top 50
abbrev s__law_spoilt : Stmt := top 51
abbrev s__law_judged : Stmt := top 52
abbrev s__law_right : Stmt := top 53
abbrev s__law_bad_ones : Stmt := top 54
abbrev s__law_free_numbers : Stmt := top 55
abbrev s__law_is_far : Stmt := top 56
abbrev s__law_free : Stmt := top 57
abbrev s_law : Stmt := top 58
def q_ZERO : D := .tup [.int 0, .int 1]
/-! ### the head -/
def fn : List He.DefD := [⟨("ratio", none), "ratio", "ratio", defArgs s_ratio, defBody s_ratio, defScope s_ratio, [], []⟩,
  ⟨("plus", none), "plus", "plus", defArgs s_plus, defBody s_plus, defScope s_plus, [], []⟩,
  ⟨("minus", none), "minus", "minus", defArgs s_minus, defBody s_minus, defScope s_minus, [], []⟩,
  ⟨("times", none), "times", "times", defArgs s_times, defBody s_times, defScope s_times, [], []⟩,
  ⟨("over", none), "over", "over", defArgs s_over, defBody s_over, defScope s_over, [], []⟩,
  ⟨("is_below", none), "is_below", "is_below", defArgs s_is_below, defBody s_is_below, defScope s_is_below, [], []⟩,
  ⟨("is_fraction", none), "is_fraction", "is_fraction", defArgs s_is_fraction, defBody s_is_fraction, defScope s_is_fraction, [], []⟩,
  ⟨("height_at", none), "height_at", "height_at", defArgs s_height_at, defBody s_height_at, defScope s_height_at, [], []⟩,
  ⟨("pull_at", none), "pull_at", "pull_at", defArgs s_pull_at, defBody s_pull_at, defScope s_pull_at, [], []⟩,
  ⟨("joined_bowl", none), "joined_bowl", "joined_bowl", defArgs s_joined_bowl, defBody s_joined_bowl, defScope s_joined_bowl, [], []⟩,
  ⟨("is_ahead", none), "is_ahead", "is_ahead", defArgs s_is_ahead, defBody s_is_ahead, defScope s_is_ahead, [], []⟩,
  ⟨("one_block", none), "one_block", "one_block", defArgs s_one_block, defBody s_one_block, defScope s_one_block, [], []⟩,
  ⟨("pooled_blocks", none), "pooled_blocks", "pooled_blocks", defArgs s_pooled_blocks, defBody s_pooled_blocks, defScope s_pooled_blocks, [], []⟩,
  ⟨("nearest_rising", none), "nearest_rising", "nearest_rising", defArgs s_nearest_rising, defBody s_nearest_rising, defScope s_nearest_rising, [], []⟩,
  ⟨("is_rising", none), "is_rising", "is_rising", defArgs s_is_rising, defBody s_is_rising, defScope s_is_rising, [], []⟩,
  ⟨("rises_behind", none), "rises_behind", "rises_behind", defArgs s_rises_behind, defBody s_rises_behind, defScope s_rises_behind, [], []⟩,
  ⟨("pulls_up_to", none), "pulls_up_to", "pulls_up_to", defArgs s_pulls_up_to, defBody s_pulls_up_to, defScope s_pulls_up_to, [], []⟩,
  ⟨("judge_rising", none), "judge_rising", "judge_rising", defArgs s_judge_rising, defBody s_judge_rising, defScope s_judge_rising, [], []⟩,
  ⟨("square_distance", none), "square_distance", "square_distance", defArgs s_square_distance, defBody s_square_distance, defScope s_square_distance, [], []⟩,
  ⟨("_law_begin", none), "_law_begin", "_law_begin", defArgs s__law_begin, defBody s__law_begin, defScope s__law_begin, [], []⟩,
  ⟨("_law_draw", none), "_law_draw", "_law_draw", defArgs s__law_draw, defBody s__law_draw, defScope s__law_draw, [], []⟩,
  ⟨("_law_rare", none), "_law_rare", "_law_rare", defArgs s__law_rare, defBody s__law_rare, defScope s__law_rare, [], []⟩,
  ⟨("_law_is_int", none), "_law_is_int", "_law_is_int", defArgs s__law_is_int, defBody s__law_is_int, defScope s__law_is_int, [], []⟩,
  ⟨("_law_gcd", none), "_law_gcd", "_law_gcd", defArgs s__law_gcd, defBody s__law_gcd, defScope s__law_gcd, [], []⟩,
  ⟨("_law_f", none), "_law_f", "_law_f", defArgs s__law_f, defBody s__law_f, defScope s__law_f, [], []⟩,
  ⟨("_law_plus", none), "_law_plus", "_law_plus", defArgs s__law_plus, defBody s__law_plus, defScope s__law_plus, [], []⟩,
  ⟨("_law_minus", none), "_law_minus", "_law_minus", defArgs s__law_minus, defBody s__law_minus, defScope s__law_minus, [], []⟩,
  ⟨("_law_times", none), "_law_times", "_law_times", defArgs s__law_times, defBody s__law_times, defScope s__law_times, [], []⟩,
  ⟨("_law_over", none), "_law_over", "_law_over", defArgs s__law_over, defBody s__law_over, defScope s__law_over, [], []⟩,
  ⟨("_law_less", none), "_law_less", "_law_less", defArgs s__law_less, defBody s__law_less, defScope s__law_less, [], []⟩,
  ⟨("_law_is_frac", none), "_law_is_frac", "_law_is_frac", defArgs s__law_is_frac, defBody s__law_is_frac, defScope s__law_is_frac, [], []⟩,
  ⟨("_law_signed", none), "_law_signed", "_law_signed", defArgs s__law_signed, defBody s__law_signed, defScope s__law_signed, [], []⟩,
  ⟨("_law_up", none), "_law_up", "_law_up", defArgs s__law_up, defBody s__law_up, defScope s__law_up, [], []⟩,
  ⟨("_law_step", none), "_law_step", "_law_step", defArgs s__law_step, defBody s__law_step, defScope s__law_step, [], []⟩,
  ⟨("_law_loads", none), "_law_loads", "_law_loads", defArgs s__law_loads, defBody s__law_loads, defScope s__law_loads, [], []⟩,
  ⟨("_law_stairs", none), "_law_stairs", "_law_stairs", defArgs s__law_stairs, defBody s__law_stairs, defScope s__law_stairs, [], []⟩,
  ⟨("_law_is_flat", none), "_law_is_flat", "_law_is_flat", defArgs s__law_is_flat, defBody s__law_is_flat, defScope s__law_is_flat, [], []⟩,
  ⟨("_law_led", none), "_law_led", "_law_led", defArgs s__law_led, defBody s__law_led, defScope s__law_led, [], []⟩,
  ⟨("_law_answers_of", none), "_law_answers_of", "_law_answers_of", defArgs s__law_answers_of, defBody s__law_answers_of, defScope s__law_answers_of, [], []⟩,
  ⟨("_law_with", none), "_law_with", "_law_with", defArgs s__law_with, defBody s__law_with, defScope s__law_with, [], []⟩,
  ⟨("_law_rises", none), "_law_rises", "_law_rises", defArgs s__law_rises, defBody s__law_rises, defScope s__law_rises, [], []⟩,
  ⟨("_law_is_nearest", none), "_law_is_nearest", "_law_is_nearest", defArgs s__law_is_nearest, defBody s__law_is_nearest, defScope s__law_is_nearest, [], []⟩,
  ⟨("_law_far", none), "_law_far", "_law_far", defArgs s__law_far, defBody s__law_far, defScope s__law_far, [], []⟩,
  ⟨("_law_no_fraction", none), "_law_no_fraction", "_law_no_fraction", defArgs s__law_no_fraction, defBody s__law_no_fraction, defScope s__law_no_fraction, [], []⟩,
  ⟨("_law_spoilt", none), "_law_spoilt", "_law_spoilt", defArgs s__law_spoilt, defBody s__law_spoilt, defScope s__law_spoilt, [], []⟩,
  ⟨("_law_judged", none), "_law_judged", "_law_judged", defArgs s__law_judged, defBody s__law_judged, defScope s__law_judged, [], []⟩,
  ⟨("_law_right", none), "_law_right", "_law_right", defArgs s__law_right, defBody s__law_right, defScope s__law_right, [], []⟩,
  ⟨("_law_bad_ones", none), "_law_bad_ones", "_law_bad_ones", defArgs s__law_bad_ones, defBody s__law_bad_ones, defScope s__law_bad_ones, [], []⟩,
  ⟨("_law_free_numbers", none), "_law_free_numbers", "_law_free_numbers", defArgs s__law_free_numbers, defBody s__law_free_numbers, defScope s__law_free_numbers, [], []⟩,
  ⟨("_law_is_far", none), "_law_is_far", "_law_is_far", defArgs s__law_is_far, defBody s__law_is_far, defScope s__law_is_far, [], []⟩,
  ⟨("_law_free", none), "_law_free", "_law_free", defArgs s__law_free, defBody s__law_free, defScope s__law_free, [], []⟩,
  ⟨("law", none), "law", "law", defArgs s_law, defBody s_law, defScope s_law, [], []⟩]
def fa : List He.Fa := [.glo "ratio", .glo "plus", .glo "minus", .glo "times", .glo "over", .glo "is_below", .glo "is_fraction", .glo "height_at", .glo "pull_at", .glo "joined_bowl", .glo "is_ahead", .glo "one_block", .glo "pooled_blocks", .glo "nearest_rising", .glo "is_rising", .glo "rises_behind", .glo "pulls_up_to", .glo "judge_rising", .glo "square_distance", .glo "_law_begin", .glo "_law_draw", .glo "_law_rare", .glo "_law_is_int", .glo "_law_gcd", .glo "_law_f", .glo "_law_plus", .glo "_law_minus", .glo "_law_times", .glo "_law_over", .glo "_law_less", .glo "_law_is_frac", .glo "_law_signed", .glo "_law_up", .glo "_law_step", .glo "_law_loads", .glo "_law_stairs", .glo "_law_is_flat", .glo "_law_led", .glo "_law_answers_of", .glo "_law_with", .glo "_law_rises", .glo "_law_is_nearest", .glo "_law_far", .glo "_law_no_fraction", .glo "_law_spoilt", .glo "_law_judged", .glo "_law_right", .glo "_law_bad_ones", .glo "_law_free_numbers", .glo "_law_is_far", .glo "_law_free", .glo "law", .free "ZeroDivisionError", .free "zip", .free "len", .free "range", .free "tuple", .free "int", .free "abs", .free "isinstance", .free "bool", .free "all"]
def fx : List Fx := [.blt "gcd" "math.gcd", .con "ZERO" q_ZERO]
abbrev hk : PySem.W.Hook := hookM 5 fa fx fn
def ob (s : PySem.W.SharedT) : He.AlD := obsMG 5 fa fx fn (HandSHeadRun.getT s)
theorem ob_eq (s : PySem.W.SharedT) : ob s = hk.obs s.abs := obsMG_eq (HandSHeadRun.getT_eq s)
def nm0 : List PySem.Str := ["ZERO", "ratio", "plus", "minus", "times", "over", "is_below", "is_fraction", "height_at", "pull_at", "joined_bowl", "is_ahead", "one_block", "pooled_blocks", "nearest_rising", "is_rising", "rises_behind", "pulls_up_to", "judge_rising", "square_distance", "_law_begin", "_law_draw", "_law_rare", "_law_is_int", "_law_gcd", "_law_f", "_law_plus", "_law_minus", "_law_times", "_law_over"]
def nm1 : List PySem.Str := ["_law_less", "_law_is_frac", "_law_signed", "_law_up", "_law_step", "_law_loads", "_law_stairs", "_law_is_flat", "_law_led", "_law_answers_of", "_law_with", "_law_rises", "_law_is_nearest", "_law_far", "_law_no_fraction", "_law_spoilt", "_law_judged", "_law_right", "_law_bad_ones", "_law_free_numbers", "_law_is_far", "_law_free"]
def nms : List PySem.Str := nm0 ++ nm1
theorem run (w : World) : HandSHeadRun.RunEqI (PySem.W.OpenLaw.row PySem.Challenge.rw_closedratios_k65_whole_rising) (PySem.W.view (PySem.W.OpenLaw.row PySem.Challenge.rw_closedratios_k65_whole_rising).prog [0, 58]) hk ob 6000 nms w := by
  unfold HandSHeadRun.RunEqI
  kernel_rfl
end K65

/-! HM, part Z: zip of a list and a tuple, either way round. -/
namespace HM
open PySem PySem.Spec PyProof.Rows L2
/-- true: a list, false: a tuple -/
def kCls : Bool → String
  | true => "list_iterator"
  | false => "tuple_iterator"
def kIter (k : Bool) (h : Heap) (it l : Addr) (i : Nat) : Prop := ∃ o, h.get? it = some o ∧ o.cls = .type (kCls k) ∧ o.data = .fields #[.ref l, .int i 0]
def kSeq : Bool → Heap → Addr → Array Value → Prop
  | true => fun h l xs => h.IsList l xs
  | false => fun h l xs => h.IsTuple l xs
def kSq : Bool → PySem.W.Frag → Hp → Addr → List V → Prop
  | true => SqL
  | false => SqT
section
variable {prog : Program} {w : World} {A : Around} {E : Value → Shared → Prop} {s : Shared}
theorem draws_k {k : Bool} (hh : A.handled = none) {it l : Addr} (ne : l ≠ it) (items : Array Value) :
    Draws prog w A it [it, l] items.size (fun i v => items[i]? = some v) (fun i h => kIter k h it l i ∧ kSeq k h l items) := by
  cases k with
  | true => exact Draws.list hh it l ne items
  | false => exact Draws.tuple hh it l ne items
abbrev zk1 (c1 : String) (h : Heap) (l1 : Addr) : Heap := h.push { cls := .type c1, data := .fields #[.ref l1, .int 0 0] }
abbrev zk2 (c1 c2 : String) (h : Heap) (l1 l2 : Addr) : Heap := (zk1 c1 h l1).push { cls := .type c2, data := .fields #[.ref l2, .int 0 0] }
abbrev zk3 (c1 c2 : String) (h : Heap) (l1 l2 : Addr) : Heap := (zk2 c1 c2 h l1 l2).push { cls := .type "tuple", data := .seq #[.ref h.objs.size, .ref (zk1 c1 h l1).objs.size] }
abbrev zk4 (c1 c2 : String) (h : Heap) (l1 l2 : Addr) : Heap := (zk3 c1 c2 h l1 l2).push { cls := .type "tuple", data := .seq #[.none, .none] }
abbrev zk5 (c1 c2 : String) (h : Heap) (l1 l2 : Addr) : Heap := (zk4 c1 c2 h l1 l2).push { cls := .type "zip", data := .fields #[.none, .bool false, .bool false, .ref (zk2 c1 c2 h l1 l2).objs.size, .ref (zk3 c1 c2 h l1 l2).objs.size] }
/-- what zip.__new__ makes -/
def NewK (c1 c2 : String) (G : Heap → Prop) (l1 l2 : Addr) : Prop :=
  Meets (Builtin.«zip.__new__» ⟨[.type "zip", .ref l1, .ref l2], []⟩) fun _ R s => G s.heap ∧ R (.ok (.ret (.ref (zk4 c1 c2 s.heap l1 l2).objs.size))) { s with heap := zk5 c1 c2 s.heap l1 l2 }
theorem new_lt (l1 l2 : Addr) (xs ys : Array Value) : NewK "list_iterator" "tuple_iterator" (fun h => h.IsList l1 xs ∧ h.IsTuple l2 ys) l1 l2 :=
  .of_wp fun prog w A R s h => by
    obtain ⟨hp, g, d, tk, os⟩ := s
    obtain ⟨⟨q1, q2⟩, h⟩ := h
    have hsub := sub_zip
    have a1 : Heap.IsList (Shared.heap ⟨hp, g, d, tk, os⟩) l1 xs := q1
    have a2 : Heap.IsTuple (Shared.heap ⟨zk1 "list_iterator" hp l1, g, d, tk, os⟩) l2 ys := Heap.IsTuple.push q2 _
    wp_walk using wpAny_pyIter_list a1, wpAny_pyIter_tuple a2
    exact ⟨_, rfl, h⟩
theorem new_tl (l1 l2 : Addr) (xs ys : Array Value) : NewK "tuple_iterator" "list_iterator" (fun h => h.IsTuple l1 xs ∧ h.IsList l2 ys) l1 l2 :=
  .of_wp fun prog w A R s h => by
    obtain ⟨hp, g, d, tk, os⟩ := s
    obtain ⟨⟨q1, q2⟩, h⟩ := h
    have hsub := sub_zip
    have a1 : Heap.IsTuple (Shared.heap ⟨hp, g, d, tk, os⟩) l1 xs := q1
    have a2 : Heap.IsList (Shared.heap ⟨zk1 "tuple_iterator" hp l1, g, d, tk, os⟩) l2 ys := Heap.IsList.push q2 _
    wp_walk using wpAny_pyIter_tuple a1, wpAny_pyIter_list a2
    exact ⟨_, rfl, h⟩
end
section
variable {prog : Program} {w : World} {A : Around} {E : Value → Shared → Prop} {s : Shared}
/-- what stands behind a call of zip -/
structure ZipMade (k1 k2 : Bool) (h h' : Heap) (l1 l2 : Addr) : Prop where
  z : IsZip h' (h.objs.size + 4) (h.objs.size + 2) (h.objs.size + 3) .none
  i : IsTupOf2 h' (h.objs.size + 2) (.ref h.objs.size) (.ref (h.objs.size + 1))
  o : IsTupOf2 h' (h.objs.size + 3) .none .none
  i1 : kIter k1 h' h.objs.size l1 0
  i2 : kIter k2 h' (h.objs.size + 1) l2 0
  keep : ∀ c o, h.get? c = some o → h'.get? c = some o
theorem call_zk {k1 k2 : Bool} {G : Heap → Prop} {l1 l2 : Addr} {Q : Value → Shared → Prop} (M : NewK (kCls k1) (kCls k2) G l1 l2) (g : G s.heap)
    (h : ∀ h', ZipMade k1 k2 s.heap h' l1 l2 → Q (.ref (s.heap.objs.size + 4)) { s with heap := h' }) : wpAny (model prog w) A (call (.type "zip") [.ref l1, .ref l2]) Q E s := by
  have no : (some "zip.__new__" != some "object.__new__") = true := by decide
  have oi := fun obj => F.args_object_init_3 obj (.ref l1) (.ref l2)
  refine callType_new F.called_zip no (F.typeCall_zip_2 _ _) (F.newCall_zip_2 _ _) oi F.entry_zip_new M ⟨g, ?_⟩
  obtain ⟨n, en⟩ : ∃ n, n = s.heap.objs.size := ⟨_, rfl⟩
  have s1 : (zk1 (kCls k1) s.heap l1).objs.size = n + 1 := by rw [Heap.size_push, en]
  have s2 : (zk2 (kCls k1) (kCls k2) s.heap l1 l2).objs.size = n + 2 := by rw [Heap.size_push, s1]
  have s3 : (zk3 (kCls k1) (kCls k2) s.heap l1 l2).objs.size = n + 3 := by rw [Heap.size_push, s2]
  have s4 : (zk4 (kCls k1) (kCls k2) s.heap l1 l2).objs.size = n + 4 := by rw [Heap.size_push, s3]
  have up : ∀ {h0 : Heap} {o0 : Obj} {c : Addr} {o : Obj}, h0.get? c = some o → (h0.push o0).get? c = some o := fun e => Heap.get?_push_of_some _ e
  have b5 : (zk5 (kCls k1) (kCls k2) s.heap l1 l2).get? (zk4 (kCls k1) (kCls k2) s.heap l1 l2).objs.size = some _ := Heap.get?_push_size _ rfl
  have b4 : (zk5 (kCls k1) (kCls k2) s.heap l1 l2).get? (zk3 (kCls k1) (kCls k2) s.heap l1 l2).objs.size = some _ := up (Heap.get?_push_size _ rfl)
  have b3 : (zk5 (kCls k1) (kCls k2) s.heap l1 l2).get? (zk2 (kCls k1) (kCls k2) s.heap l1 l2).objs.size = some _ := up (up (Heap.get?_push_size _ rfl))
  have b2 : (zk5 (kCls k1) (kCls k2) s.heap l1 l2).get? (zk1 (kCls k1) s.heap l1).objs.size = some _ := up (up (up (Heap.get?_push_size _ rfl)))
  have b1 : (zk5 (kCls k1) (kCls k2) s.heap l1 l2).get? s.heap.objs.size = some _ := up (up (up (up (Heap.get?_push_size _ rfl))))
  show _ ∧ _
  rw [s2, s3, s4] at b5
  rw [s1, s2] at b3
  rw [s3] at b4
  rw [s1] at b2
  rw [s4]
  refine ⟨⟨_, b5, rfl⟩, ?_⟩
  rw [en] at b2 b3 b4 b5 ⊢
  exact h _ ⟨b5, b3, b4, ⟨_, b1, rfl, rfl⟩, ⟨_, b2, rfl, rfl⟩, fun c o e => up (up (up (up (up e))))⟩
end
/-- pairs of the items at a and at b -/
def ItK (k1 k2 : Bool) (K : PySem.W.Frag) (a b : Addr) : It where
  go := fun i H => ∃ (xs ys : List V) (x y : V), (kSq k1 K H a xs ∧ kSq k2 K H b ys) ∧ xs[i]? = some x ∧ ys[i]? = some y
  yld := fun i H v H' => ∃ (T : Addr) (x y : V), (v = .ref T ∧ H T = none ∧ ∃ o : Obj, o.dict = none ∧ H' = upd H T (.frz o (.tup [x, y]))) ∧ (∀ xs, kSq k1 K H a xs → xs[i]? = some x) ∧ (∀ ys, kSq k2 K H b ys → ys[i]? = some y)
  stop := fun i H => ∃ xs ys : List V, (kSq k1 K H a xs ∧ kSq k2 K H b ys) ∧ (i = xs.length ∧ i ≤ ys.length ∨ i = ys.length ∧ i ≤ xs.length)
section
variable {P : Program} {w : World} {K : PySem.W.Frag}
theorem inv_k {X : Cx} {pins : List (Addr × Obj)} {σ : L2.St} {H : Hp} {s : Shared} {k : Bool} {a : Addr} {xs : List V} (I : Inv X pins σ H s) (h : kSq k X.K H a xs) : ∃ its : List Value, Vals xs its ∧ kSeq k s.heap a its.toArray ∧ a < s.heap.objs.size := by
  cases k with
  | true =>
    obtain ⟨its, r, p, _⟩ := I.list h
    exact ⟨its, r, p.isList, p.lt⟩
  | false =>
    obtain ⟨its, r, p, _⟩ := I.tuple h
    obtain ⟨o, e, _⟩ := id p
    exact ⟨its, r, p, Heap.lt_size e⟩
theorem inj_k {X : Cx} {pins : List (Addr × Obj)} {σ : L2.St} {H : Hp} {s : Shared} {k : Bool} {a : Addr} {xs ys : List V} (I : Inv X pins σ H s) (h : kSq k X.K H a xs) (h2 : kSq k X.K H a ys) : xs = ys := by
  cases k with
  | true => exact I.list_inj h h2
  | false => exact I.tuple_inj h h2
theorem sep_k {z TI TO i1 i2 a b : Addr} (D : ZipApart z TI TO i1 i2 a b) : ZipSep2 z TI TO i1 i2 [i1, a] [i2, b] where
  TIz := D.TIz
  TOz := D.TOz
  TITO := D.TITO
  TIi1 := D.TIi1
  mem1 := by simp
  zf1 := by simp [D.i1z.symm, D.l1z.symm]
  Tf1 := by simp [D.TOi1, D.l1TO.symm]
  TIi2 := D.TIi2
  mem2 := by simp
  zf2 := by simp [D.i2z.symm, D.l2z.symm]
  Tf2 := by simp [D.TOi2, D.l2TO.symm]
  sep1_2 := by simp [D.i12, D.l2i1.symm]
  sep2_1 := by simp [D.i12.symm, D.l1i2.symm]
theorem turn_k {k1 k2 : Bool} {elts : List Expr} {kk : Nat} {tpos : Pos} {a b z TI TO i1 i2 : Addr} (D : ZipApart z TI TO i1 i2 a b) :
    Turn P w K (.Tuple elts kk tpos) (ItK k1 k2 K a b) [z, TI, TO, i1, i2] z fun i h => (IsZip h z TI TO .none ∧ IsTupOf2 h TI (.ref i1) (.ref i2) ∧ ∃ x y, IsTupOf2 h TO x y) ∧ kIter k1 h i1 a i ∧ kIter k2 h i2 b i := by
  have keepI : ∀ {k : Bool} {h h' : Heap} {it l : Addr} {i : Nat}, kIter k h it l i → (∀ o, h.get? it = some o → h'.get? it = some o) → kIter k h' it l i := fun st q => by
    obtain ⟨o, e, c⟩ := st
    exact ⟨o, q o e, c⟩
  refine ⟨by simp, ?_, ?_, ?_, ?_, fun A i s Q E st h => wpAny_pyIter_zip st.1.1 h⟩
  · rintro i h ⟨⟨hz, ht, x, y, ho⟩, ⟨o1, g1, _, d1⟩, o2, g2, _, d2⟩ c hc
    simp only [List.mem_cons, List.not_mem_nil, or_false] at hc
    rcases hc with rfl | rfl | rfl | rfl | rfl
    · exact ⟨_, hz, fun v q => nomatch q⟩
    · exact ⟨_, ht, fun v q => nomatch q⟩
    · exact ⟨_, ho, fun v q => nomatch q⟩
    · exact ⟨o1, g1, fun v q => by rw [d1] at q; exact nomatch q⟩
    · exact ⟨o2, g2, fun v q => by rw [d2] at q; exact nomatch q⟩
  · rintro i h h' ⟨⟨hz, ht, x, y, ho⟩, j1, j2⟩ q
    exact ⟨⟨q z (by simp) _ hz, q TI (by simp) _ ht, x, y, q TO (by simp) _ ho⟩, keepI j1 (q i1 (by simp)), keepI j2 (q i2 (by simp))⟩
  · intro X hP hw hK hc i pins s σ H E I hf st hg
    subst hP hw hK
    obtain ⟨⟨hz, ht, x0, y0, ho⟩, j1, j2⟩ := st
    obtain ⟨xs, ys, x, y, ⟨hx, hy⟩, ex, ey⟩ := hg
    obtain ⟨its, rv, p1, _⟩ := inv_k I hx
    obtain ⟨its2, rv2, p2, _⟩ := inv_k I hy
    obtain ⟨u, hu, ru⟩ := rv.get ex
    obtain ⟨u2, hu2, ru2⟩ := rv2.get ey
    have hh : X.A.in1.handled = none := I.ok.hd hc
    have d1 := draws_k (prog := X.prog) (w := X.w) (k := k1) hh D.l1i1 its.toArray
    have d2 := draws_k (prog := X.prog) (w := X.w) (k := k2) hh D.l2i2 its2.toArray
    have n1 : i < its.toArray.size := by have := (List.getElem?_eq_some_iff.mp hu).1; simpa using this
    have n2 : i < its2.toArray.size := by have := (List.getElem?_eq_some_iff.mp hu2).1; simpa using this
    have zl : z < s.heap.objs.size := Heap.lt_size hz
    refine wpAny_pyNext_zipD2_item (sep_k D) d1 d2 hz ht ho ⟨j1, p1⟩ ⟨j2, p2⟩ n1 n2 ?_
    intro v1 v2 h' tk e1 e2 z' o' q1 q2 hT hsz hk
    have e1 : u = v1 := by simpa [hu] using e1
    have e2 : u2 = v2 := by simpa [hu2] using e2
    subst e1 e2
    refine ⟨_, rfl, wpAny_letOwnedTupleGo_zip (s := { s with heap := h', toks := tk }) z' ?_⟩
    intro h'' z'' sb
    have T2 := (sb.2 _ (Nat.ne_of_gt zl)).trans hT
    have nw : ObjOk X.prog X.w (upd H s.heap.objs.size (.frz { cls := .type "tuple", data := .seq #[u, u2] } (.tup [x, y]))) h'' s.heap.objs.size (.frz { cls := .type "tuple", data := .seq #[u, u2] } (.tup [x, y])) := by
      refine ⟨T2, ?_, [u, u2], .cons ru (.cons ru2 .nil), _, T2, rfl, _, rfl⟩
      show 2 ≤ sizeLine
      decide
    have other : ∀ (c : Addr) (o : Obj), c ∉ [z, TI, TO, i1, i2] → s.heap.get? c = some o → h''.get? c = some o := fun c o hb q => by
      simp only [List.mem_cons, List.not_mem_nil, or_false, not_or] at hb
      exact (sb.2 c hb.1).trans (hk c o hb.1 hb.2.2.1 hb.2.2.2.1 hb.2.2.2.2 q)
    have I1 : Inv X pins σ (upd H s.heap.objs.size (.frz { cls := .type "tuple", data := .seq #[u, u2] } (.tup [x, y]))) { s with heap := h'', toks := tk } := I.turnedNew (t' := tk) (ch := [z, TI, TO, i1, i2]) other hf (Nat.le_refl _) nw
    refine ⟨.ref s.heap.objs.size, _, I1, rfl, ⟨_, x, y, ⟨rfl, I.hok.fresh (Nat.le_refl _), _, rfl, rfl⟩, fun l hl => by rw [inj_k I hl hx]; exact ex, fun l hl => by rw [inj_k I hl hy]; exact ey⟩, ⟨⟨z'', ?_, u, u2, ?_⟩, ?_, ?_⟩, ?_⟩
    · exact (sb.2 _ D.TIz).trans (hk _ _ D.TIz D.TITO D.TIi1 D.TIi2 ht)
    · exact (sb.2 _ D.TOz).trans o'
    · exact keepI q1.1 fun o e => (sb.2 _ D.i1z).trans e
    · exact keepI q2.1 fun o e => (sb.2 _ D.i2z).trans e
    · intro c hm
      have lt : c < s.heap.objs.size := by
        obtain ⟨o1, g1, _⟩ := j1
        obtain ⟨o2, g2, _⟩ := j2
        have hm := hm
        simp only [List.mem_cons, List.not_mem_nil, or_false] at hm
        rcases hm with rfl | rfl | rfl | rfl | rfl
        · exact zl
        · exact Heap.lt_size ht
        · exact Heap.lt_size ho
        · exact Heap.lt_size g1
        · exact Heap.lt_size g2
      rw [upd_ne (Nat.ne_of_lt lt)]
      exact (hf c hm).1
  · intro X hP hw hK hc i pins s σ H E I hf st hg
    subst hP hw hK
    obtain ⟨⟨hz, ht, x0, y0, ho⟩, j1, j2⟩ := st
    obtain ⟨xs, ys, ⟨hx, hy⟩, he⟩ := hg
    obtain ⟨its, rv, p1, _⟩ := inv_k I hx
    obtain ⟨its2, rv2, p2, _⟩ := inv_k I hy
    have m1 := rv.length
    have m2 := rv2.length
    have hh : X.A.in1.handled = none := I.ok.hd hc
    have d1 := draws_k (prog := X.prog) (w := X.w) (k := k1) hh D.l1i1 its.toArray
    have d2 := draws_k (prog := X.prog) (w := X.w) (k := k2) hh D.l2i2 its2.toArray
    refine wpAny_pyNext_zipD2_end (sep_k D) d1 d2 hz ht ho ⟨j1, p1⟩ ⟨j2, p2⟩ (by simp; omega) (by simp; omega) (by simp; omega) ?_
    intro h' tk hk
    refine ⟨rfl, I.turnedL (t' := tk) (ch := [z, TI, TO, i1, i2]) ?_ hf⟩
    intro c o hb q
    simp only [List.mem_cons, List.not_mem_nil, or_false, not_or] at hb
    exact hk c o hb.1 hb.2.2.1 hb.2.2.2.1 hb.2.2.2.2 q
end
section
variable {prog : Program} {w : World} {A : Around} {E : Value → Shared → Prop} {s : Shared}
theorem new_ll (l1 l2 : Addr) (xs ys : Array Value) : NewK "list_iterator" "list_iterator" (fun h => h.IsList l1 xs ∧ h.IsList l2 ys) l1 l2 :=
  .of_wp fun prog w A R s h => by
    obtain ⟨hp, g, d, tk, os⟩ := s
    obtain ⟨⟨q1, q2⟩, h⟩ := h
    have hsub := sub_zip
    have a1 : Heap.IsList (Shared.heap ⟨hp, g, d, tk, os⟩) l1 xs := q1
    have a2 : Heap.IsList (Shared.heap ⟨zk1 "list_iterator" hp l1, g, d, tk, os⟩) l2 ys := Heap.IsList.push q2 _
    wp_walk using wpAny_pyIter_list a1, wpAny_pyIter_list a2
    exact ⟨_, rfl, h⟩
theorem new_tt (l1 l2 : Addr) (xs ys : Array Value) : NewK "tuple_iterator" "tuple_iterator" (fun h => h.IsTuple l1 xs ∧ h.IsTuple l2 ys) l1 l2 :=
  .of_wp fun prog w A R s h => by
    obtain ⟨hp, g, d, tk, os⟩ := s
    obtain ⟨⟨q1, q2⟩, h⟩ := h
    have hsub := sub_zip
    have a1 : Heap.IsTuple (Shared.heap ⟨hp, g, d, tk, os⟩) l1 xs := q1
    have a2 : Heap.IsTuple (Shared.heap ⟨zk1 "tuple_iterator" hp l1, g, d, tk, os⟩) l2 ys := Heap.IsTuple.push q2 _
    wp_walk using wpAny_pyIter_tuple a1, wpAny_pyIter_tuple a2
    exact ⟨_, rfl, h⟩
theorem new_k (k1 k2 : Bool) (l1 l2 : Addr) (xs ys : Array Value) : NewK (kCls k1) (kCls k2) (fun h => kSeq k1 h l1 xs ∧ kSeq k2 h l2 ys) l1 l2 := by
  cases k1 <;> cases k2
  · exact new_tt l1 l2 xs ys
  · exact new_tl l1 l2 xs ys
  · exact new_lt l1 l2 xs ys
  · exact new_ll l1 l2 xs ys
end
def iZk (K : PySem.W.Frag) (ta : TA) : TI := fun σ H R => ta σ H fun vs H1 => ∃ (a b : Addr) (k1 k2 : Bool) (xs ys : List V), vs = [.ref a, .ref b] ∧ (kSq k1 K H1 a xs ∧ kSq k2 K H1 b ys) ∧ R (ItK k1 k2 K a b) H1
theorem pi_zk {X : Cx} {e e2 : Expr} {ta : TA} {p pos tpos : Pos} {elts : List Expr} {kk : Nat} (hg : Gl X "zip") (hm : X.mg "zip" = none) (ha : PA X [e, e2] ta)
    (hs : starEach [e, e2] X.env = (false, eval e X.env) :: starEach [e2] X.env := by rfl)
    (hpl : (backTo pos (starEach [e2] X.env)).any (·.1) = false := by rfl) : PI X (.Tuple elts kk tpos) (.Call (.Name "zip" p) [e, e2] [] pos) (iZk X.K ta) := by
  refine ⟨?_⟩
  intro pins s σ H R I h
  refine Call_ (ld_blt I hg hm PyProof.Rows.boot_zip ?_)
  refine PyProof.Rows.callWith_type1 (thn (ha.run pos pins s σ H _ I h) ?_) hs hpl
  rintro us s1 ⟨vs, H1, I1, r1, a, b, k1, k2, xs, ys, rfl, ⟨hx, hy⟩, q⟩
  cases r1 with
  | cons r rr =>
  cases rr with
  | cons r' rr =>
  cases rr
  cases r
  cases r'
  obtain ⟨its, rv, p1, la⟩ := inv_k I1 hx
  obtain ⟨its2, rv2, p2, lb⟩ := inv_k I1 hy
  refine call_zk (new_k k1 k2 a b its.toArray its2.toArray) ⟨p1, p2⟩ ?_
  intro h' Z
  refine wpAny_pyIter_zip Z.z ?_
  have I2 : Inv X pins σ H1 { s1 with heap := h' } := I1.kept (t' := s1.toks) Z.keep
  obtain ⟨n, en⟩ : ∃ n, n = s1.heap.objs.size := ⟨_, rfl⟩
  have T := turn_k (P := X.prog) (w := X.w) (K := X.K) (k1 := k1) (k2 := k2) (elts := elts) (kk := kk) (tpos := tpos) (PySem.W.ktu_apart s1.heap.objs.size a b la lb)
  refine ⟨s1.heap.objs.size + 4, _, _, _, H1, rfl, I2, T, ⟨⟨Z.z, Z.i, _, _, Z.o⟩, Z.i1, Z.i2⟩, ?_, q⟩
  intro c hm
  simp only [List.mem_cons, List.not_mem_nil, or_false] at hm
  have le : s1.heap.objs.size ≤ c := by
    rcases hm with rfl | rfl | rfl | rfl | rfl
    · exact Nat.le_add_right _ _
    · exact Nat.le_add_right _ _
    · exact Nat.le_add_right _ _
    · exact Nat.le_refl _
    · exact Nat.le_add_right _ _
  exact I1.fpOk le (I1.hok.fresh le)
theorem zipD_at {xs ys : List D} {i : Nat} {d : D} (h : (zipD xs ys)[i]? = some d) : ∃ x y, xs[i]? = some x ∧ ys[i]? = some y ∧ d = .tup [x, y] := by
  unfold zipD at h
  rw [List.getElem?_map] at h
  cases hz : (List.zip xs ys)[i]? with
  | none =>
    rw [hz] at h
    cases h
  | some q =>
    rw [hz] at h
    cases h
    obtain ⟨h1, h2⟩ := List.getElem?_zip_eq_some.mp hz
    exact ⟨_, _, h1, h2, rfl⟩
theorem zipD_len (xs ys : List D) : (zipD xs ys).length = min xs.length ys.length := by
  unfold zipD
  rw [List.length_map, List.length_zip]
theorem j_zk {K : KW} {m0 : List Addr} {H0 : Hp} {k1 k2 : Bool} {a b : Addr} {q : Sq} {xs ys : List D} (hi : q.items = zipD xs ys)
    (h : ∀ (m : List Addr) (H : Hp) (st : Store), Ext K m0 H0 m H → SS K m st H → q.chk st = true → ∃ vs us, (kSq k1 K H a vs ∧ kSq k2 K H b us) ∧ RDs K m H xs vs ∧ RDs K m H ys us) : JOk K m0 H0 q (ItK k1 k2 K a b) := by
  intro m H st e s hc
  obtain ⟨vs, us, ⟨q1, q2⟩, r1, r2⟩ := h m H st e s hc
  refine ⟨?_, vs, us, ⟨q1, q2⟩, ?_⟩
  · intro i d hd
    rw [hi] at hd
    obtain ⟨x, y, hx, hy, rfl⟩ := zipD_at hd
    obtain ⟨v, hv, rv⟩ := r1.get hx
    obtain ⟨u, hu, ru⟩ := r2.get hy
    refine ⟨⟨vs, us, v, u, ⟨q1, q2⟩, hv, hu⟩, ?_⟩
    rintro z H' ⟨T, v', u', ⟨rfl, hT, ob, hob, rfl⟩, g1, g2⟩
    have z1 := g1 vs q1
    have z2 := g2 us q2
    rw [hv] at z1
    rw [hu] at z2
    cases z1
    cases z2
    have f := Ext.fresh (K := K) (m := m) (H := H) (o := .frz ob (.tup [v, u])) hT
    exact ⟨f, s.fresh hT, .tup (PlT.of hob) (.cons (rv.mono f) (.cons (ru.mono f) .nil))⟩
  · rw [hi, zipD_len, r1.len, r2.len]
    omega
end HM

/-! HM, part 13: max and min of tuples, index. -/
namespace HM
open PySem PySem.Spec PyProof.Rows L2
section
variable {prog : Program} {w : World} {A : Around} {E : Value → Shared → Prop} {s : Shared}
/-- the greatest of a tuple's ints -/
theorem tup_max {t : Addr} {xs : Array (Int × Tok)} {Q : Value → Shared → Prop} (hh : A.handled = none) (ht : s.heap.IsTuple t (intItems xs)) (hne : 0 < xs.size)
    (h : ∀ v h' tk, (intItems xs)[argBest (fun i j => decide (numAt xs i > numAt xs j)) (xs.size - 1)]? = some v → (∀ b o, s.heap.get? b = some o → h'.get? b = some o) → Q v { s with heap := h', toks := tk }) :
    wpAny (model prog w) A (call (.builtin "max") [.ref t]) Q E s := by
  obtain ⟨ob, o1, _, _, _⟩ := id ht
  have sz : (intItems xs).size = xs.size := by simp [intItems]
  refine call_max_walk (wpAny_pyIter_tuple ht ?_)
  refine ⟨_, [_, t], [_], _, _, _, _, rfl, Walks.tuple (A := A.in1) hh s.heap.objs.size t (Nat.ne_of_lt (Heap.lt_size o1)) (intItems xs), ⟨⟨_, Heap.get?_push_size _ rfl, rfl, rfl⟩, ht.push _⟩, fun b hb => ?_, by omega, CmpOf.ints_gt (numAt xs) (fun _ _ => intItems_at), fun v h' tk hP hk => ?_⟩
  · rcases List.mem_cons.mp hb with rfl | hb
    · exact Heap.lt_size (Heap.get?_push_size _ rfl)
    · rw [List.mem_singleton.mp hb]
      exact Heap.lt_size (Heap.get?_push_of_some _ o1)
  · rw [sz] at hP
    exact h v h' tk hP fun b o e => hk b o (fun hm => absurd (Heap.lt_size e) (by rw [List.mem_singleton.mp hm]; exact Nat.lt_irrefl _)) (Heap.get?_push_of_some _ e)
theorem tup_min {t : Addr} {xs : Array (Int × Tok)} {Q : Value → Shared → Prop} (hh : A.handled = none) (ht : s.heap.IsTuple t (intItems xs)) (hne : 0 < xs.size)
    (h : ∀ v h' tk, (intItems xs)[argBest (fun i j => decide (numAt xs i < numAt xs j)) (xs.size - 1)]? = some v → (∀ b o, s.heap.get? b = some o → h'.get? b = some o) → Q v { s with heap := h', toks := tk }) :
    wpAny (model prog w) A (call (.builtin "min") [.ref t]) Q E s := by
  obtain ⟨ob, o1, _, _, _⟩ := id ht
  have sz : (intItems xs).size = xs.size := by simp [intItems]
  refine call_min_walk (wpAny_pyIter_tuple ht ?_)
  refine ⟨_, [_, t], [_], _, _, _, _, rfl, Walks.tuple (A := A.in1) hh s.heap.objs.size t (Nat.ne_of_lt (Heap.lt_size o1)) (intItems xs), ⟨⟨_, Heap.get?_push_size _ rfl, rfl, rfl⟩, ht.push _⟩, fun b hb => ?_, by omega, CmpOf.ints_lt (numAt xs) (fun _ _ => intItems_at), fun v h' tk hP hk => ?_⟩
  · rcases List.mem_cons.mp hb with rfl | hb
    · exact Heap.lt_size (Heap.get?_push_size _ rfl)
    · rw [List.mem_singleton.mp hb]
      exact Heap.lt_size (Heap.get?_push_of_some _ o1)
  · rw [sz] at hP
    exact h v h' tk hP fun b o e => hk b o (fun hm => absurd (Heap.lt_size e) (by rw [List.mem_singleton.mp hm]; exact Nat.lt_irrefl _)) (Heap.get?_push_of_some _ e)
end
section
variable {X : Cx} {W : WX} {e : Expr} {pos p : Pos}
def rMaxT (K : PySem.W.Frag) : List V → Hp → VK → Prop := fun vs H Q => ∃ (a : Addr) (ns : List Int), vs = [V.ref a] ∧ SqT K H a (ns.map V.int) ∧ 0 < ns.length ∧ ∀ m, m ∈ ns → (∀ y, y ∈ ns → y ≤ m) → Q (.int m) H
def rMinT (K : PySem.W.Frag) : List V → Hp → VK → Prop := fun vs H Q => ∃ (a : Addr) (ns : List Int), vs = [V.ref a] ∧ SqT K H a (ns.map V.int) ∧ 0 < ns.length ∧ ∀ m, m ∈ ns → (∀ y, y ∈ ns → m ≤ y) → Q (.int m) H
theorem cr_maxT (hc : X.calm = true) : CallR X (.builtin "max") (rMaxT X.K) := by
  intro pins s σ H vs us Q I r h
  obtain ⟨a, ns, rfl, hs, hne, q⟩ := h
  obtain ⟨its, rv, hl, _⟩ := I.tuple hs
  rw [Vals.ref1 r]
  have hi := rv.ints
  obtain ⟨xs, e⟩ := hi.allInts.items
  have hn : numsOf (intItems xs).toList = ns := by rw [← e]; exact hi.numsOf
  rw [nums_intItems] at hn
  subst hn
  obtain ⟨ob, ho, hcl, n, hd⟩ := hl
  have ht : s.heap.IsTuple a (intItems xs) := by
    rw [← e]
    exact ⟨ob, ho, hcl, n, hd⟩
  have hsz : 0 < xs.size := by simpa using hne
  refine tup_max (I.ok.hd hc) ht hsz fun v h' tk hv hk => ?_
  obtain ⟨t, rfl⟩ := intItems_at hv
  obtain ⟨h1, h2⟩ := argBest_gt (numAt xs) (xs.size - 1)
  refine ⟨.int _, H, I.kept hk, ⟨_, rfl⟩, q _ ?_ fun y hy => ?_⟩
  · rw [numAt_eq]
    exact PySem.getD_mem (by rw [List.length_map, Array.length_toList]; omega)
  · obtain ⟨j, hj, rfl⟩ := mem_getD hy
    rw [List.length_map, Array.length_toList] at hj
    rw [← numAt_eq]
    exact h2 j (by omega)
theorem cr_minT (hc : X.calm = true) : CallR X (.builtin "min") (rMinT X.K) := by
  intro pins s σ H vs us Q I r h
  obtain ⟨a, ns, rfl, hs, hne, q⟩ := h
  obtain ⟨its, rv, hl, _⟩ := I.tuple hs
  rw [Vals.ref1 r]
  have hi := rv.ints
  obtain ⟨xs, e⟩ := hi.allInts.items
  have hn : numsOf (intItems xs).toList = ns := by rw [← e]; exact hi.numsOf
  rw [nums_intItems] at hn
  subst hn
  obtain ⟨ob, ho, hcl, n, hd⟩ := hl
  have ht : s.heap.IsTuple a (intItems xs) := by
    rw [← e]
    exact ⟨ob, ho, hcl, n, hd⟩
  have hsz : 0 < xs.size := by simpa using hne
  refine tup_min (I.ok.hd hc) ht hsz fun v h' tk hv hk => ?_
  obtain ⟨t, rfl⟩ := intItems_at hv
  obtain ⟨h1, h2⟩ := argBest_lt (numAt xs) (xs.size - 1)
  refine ⟨.int _, H, I.kept hk, ⟨_, rfl⟩, q _ ?_ fun y hy => ?_⟩
  · rw [numAt_eq]
    exact PySem.getD_mem (by rw [List.length_map, Array.length_toList]; omega)
  · obtain ⟨j, hj, rfl⟩ := mem_getD hy
    rw [List.length_map, Array.length_toList] at hj
    rw [← numAt_eq]
    exact h2 j (by omega)
theorem max_uniq {ns : List Int} {k m : Int} (hk : maxI ns = some k) (hm : m ∈ ns) (hy : ∀ y ∈ ns, y ≤ m) : m = k := by
  cases ns with
  | nil => cases hk
  | cons n ns =>
    have hk : some (ns.foldl max n) = some k := hk
    cases hk
    obtain ⟨h1, h2, h3⟩ := foldl_max_ge ns n
    refine Int.le_antisymm ?_ ?_
    · rcases List.mem_cons.mp hm with rfl | hm
      · exact h1
      · exact h2 m hm
    · rcases h3 with h3 | h3
      · rw [h3]
        exact hy n (List.mem_cons_self ..)
      · exact hy _ (List.mem_cons_of_mem _ h3)
theorem min_uniq {ns : List Int} {k m : Int} (hk : minI ns = some k) (hm : m ∈ ns) (hy : ∀ y ∈ ns, m ≤ y) : m = k := by
  cases ns with
  | nil => cases hk
  | cons n ns =>
    have hk : some (ns.foldl min n) = some k := hk
    cases hk
    obtain ⟨h1, h2, h3⟩ := foldl_min_le ns n
    refine Int.le_antisymm ?_ ?_
    · rcases h3 with h3 | h3
      · rw [h3]
        exact hy n (List.mem_cons_self ..)
      · exact hy _ (List.mem_cons_of_mem _ h3)
    · rcases List.mem_cons.mp hm with rfl | hm
      · exact h1
      · exact h2 m hm
theorem maxI_pos {ns : List Int} {k : Int} (hk : maxI ns = some k) : 0 < ns.length := by
  cases ns with
  | nil => cases hk
  | cons n ns => simp
theorem minI_pos {ns : List Int} {k : Int} (hk : minI ns = some k) : 0 < ns.length := by
  cases ns with
  | nil => cases hk
  | cons n ns => simp
theorem sv_max (hc : X.calm = true) : CallS X (.builtin "max") gMax := ⟨_, (cr_max hc).or (cr_maxT hc), fun m st H ds v E Q hS r hP => by
  obtain ⟨a, vs, rfl, q, rs⟩ := r
  unfold gMax at hP
  split at hP
  · rename_i k hk
    cases hn : intsD ds with
    | none =>
      rw [hn] at hk
      cases hk
    | some ns =>
      rw [hn] at hk
      have hk : maxI ns = some k := hk
      have e := intsD_V rs hn
      subst e
      have fin : ∀ mm, mm ∈ ns → (∀ y, y ∈ ns → y ≤ mm) → Q (.int mm) H := fun mm hm hy => by
        rw [max_uniq hk hm hy]
        exact hP.now hS (.int _)
      rcases q with q | q
      · exact .inl ⟨a, ns, rfl, q, maxI_pos hk, fin⟩
      · exact .inr ⟨a, ns, rfl, q.sq, maxI_pos hk, fin⟩
  · exact hP.elim⟩
theorem sv_min (hc : X.calm = true) : CallS X (.builtin "min") gMin := ⟨_, (cr_min hc).or (cr_minT hc), fun m st H ds v E Q hS r hP => by
  obtain ⟨a, vs, rfl, q, rs⟩ := r
  unfold gMin at hP
  split at hP
  · rename_i k hk
    cases hn : intsD ds with
    | none =>
      rw [hn] at hk
      cases hk
    | some ns =>
      rw [hn] at hk
      have hk : minI ns = some k := hk
      have e := intsD_V rs hn
      subst e
      have fin : ∀ mm, mm ∈ ns → (∀ y, y ∈ ns → mm ≤ y) → Q (.int mm) H := fun mm hm hy => by
        rw [min_uniq hk hm hy]
        exact hP.now hS (.int _)
      rcases q with q | q
      · exact .inl ⟨a, ns, rfl, q, minI_pos hk, fin⟩
      · exact .inr ⟨a, ns, rfl, q.sq, minI_pos hk, fin⟩
  · exact hP.elim⟩
end
/-! ### tuple(range(..)), list(range(..)) -/
section
variable {X : Cx} {W : WX} {e a b : Expr} {pos p p2 : Pos} {fa fb : EM D}
def okLen (j : Int) : Bool := decide (j.toNat ≤ 16777216) && decide (0 ≤ j)
theorem rng_rds {K : PySem.W.Frag} {m : List Addr} {H : Hp} {i j : Int} : RDs K m H (rng i j) (rgV i j) := by
  have e1 : rng i j = ((List.range (j - i).toNat).map fun k : Nat => i + (k : Int)).map D.int := by
    unfold rng
    rw [List.map_map]
    rfl
  have e2 : rgV i j = ((List.range (j - i).toNat).map fun k : Nat => i + (k : Int)).map V.int := by
    unfold rgV
    rw [List.map_map]
    rfl
  rw [e1, e2]
  exact RDs.ints _
theorem rg_ok {i j : Int} (hi : okLen i = true) (hj : okLen j = true) : RgOk i j := by
  unfold okLen at hi hj
  rw [Bool.and_eq_true, decide_eq_true_eq, decide_eq_true_eq] at hi hj
  exact RgOk.of_le hi.2 (by omega) (by omega) hj.2
def kTup (i j : Int) (st : Store) : ER D := if okLen i && okLen j then .ok (.tup (rng i j)) st else .bad
def kLst (i j : Int) (st : Store) : ER D := if okLen i && okLen j then .ok (.ref st.length) (st ++ [.lst (rng i j)]) else .bad
def eRg1 (k : Int → Int → Store → ER D) (fa : EM D) : EM D := fun τ st => (fa τ st).bind fun d s1 => match d with
  | .int j => k 0 j s1
  | _ => .bad
def eRg2 (k : Int → Int → Store → ER D) (fa fb : EM D) : EM D := fun τ st => (fa τ st).bind fun d s1 => (fb τ s1).bind fun e s2 => match d, e with
  | .int i, .int j => k i j s2
  | _, _ => .bad
theorem kTup_ok {K : KW} {E : XK} {m : List Addr} {st : Store} {H : Hp} {Q : VK} {i j : Int} (hS : SS K m st H) (hP : Pe K E (RD K) m H (kTup i j st) Q) : RgOk i j ∧ TNew Q H (rgV i j) := by
  unfold kTup at hP
  split at hP
  · rename_i hc
    rw [Bool.and_eq_true] at hc
    exact ⟨rg_ok hc.1 hc.2, hP.tup hS rng_rds⟩
  · exact hP.elim
theorem kLst_ok {K : KW} {E : XK} {m : List Addr} {st : Store} {H : Hp} {Q : VK} {i j : Int} (hS : SS K m st H) (hP : Pe K E (RD K) m H (kLst i j st) Q) : RgOk i j ∧ ∀ q, H q = none → Q (.ref q) (upd H q (.lst (rgV i j))) := by
  unfold kLst at hP
  split at hP
  · rename_i hc
    rw [Bool.and_eq_true] at hc
    exact ⟨rg_ok hc.1 hc.2, hP.lst hS rng_rds⟩
  · exact hP.elim
theorem ex_tupRg1 (hc : X.calm = true) (hg : Gl X "tuple") (hm : X.mg "tuple" = none) (hg2 : Gl X "range") (hm2 : X.mg "range" = none) (ha : Ex X W a fa) (na : starEach [.Call (.Name "range" p2) [a] [] pos] X.env = (false, eval (.Call (.Name "range" p2) [a] [] pos) X.env) :: starEach [] X.env := by rfl) (nb : starEach [a] X.env = (false, eval a X.env) :: starEach [] X.env := by rfl) {pos2 : Pos} :
    Ex X W (.Call (.Name "tuple" p) [.Call (.Name "range" p2) [a] [] pos] [] pos2) (eRg1 kTup fa) := by
  refine ⟨fun m τ st σ H Q hL hS hP pins s I => (pe_tupRgF hc hg hm (prg_1 hg2 hm2 peW nb) na).run pins s σ H Q I ?_⟩
  refine ha.run m τ st σ H _ hL hS (hP.bind fun d s1 m1 H1 v e1 hS1 r1 hP1 => ?_)
  split at hP1
  · cases r1
    exact ⟨_, rfl, kTup_ok hS1 hP1⟩
  · exact hP1.elim
theorem ex_lstRg1 (hc : X.calm = true) (hg : Gl X "list") (hm : X.mg "list" = none) (hg2 : Gl X "range") (hm2 : X.mg "range" = none) (ha : Ex X W a fa) (na : starEach [.Call (.Name "range" p2) [a] [] pos] X.env = (false, eval (.Call (.Name "range" p2) [a] [] pos) X.env) :: starEach [] X.env := by rfl) (nb : starEach [a] X.env = (false, eval a X.env) :: starEach [] X.env := by rfl) {pos2 : Pos} :
    Ex X W (.Call (.Name "list" p) [.Call (.Name "range" p2) [a] [] pos] [] pos2) (eRg1 kLst fa) := by
  refine ⟨fun m τ st σ H Q hL hS hP pins s I => (pe_listRg hc hg hm (prg_1 hg2 hm2 peW nb) na).run pins s σ H Q I ?_⟩
  refine ha.run m τ st σ H _ hL hS (hP.bind fun d s1 m1 H1 v e1 hS1 r1 hP1 => ?_)
  split at hP1
  · cases r1
    exact ⟨_, rfl, kLst_ok hS1 hP1⟩
  · exact hP1.elim
end
/-! ### zip of two -/
section
variable {X : Cx} {W : WX} {a b : Expr} {pos p tpos : Pos} {fa fb : EM D}
def zip2 (d e : D) (st : Store) : ER Sq := match d, e with
  | .tup xs, .tup ys => .ok (.fix (zipD xs ys)) st
  | .ref n, .ref k => match lstAt st n, lstAt st k with
    | some xs, some ys => .ok (.two n k xs ys) st
    | _, _ => .bad
  | .ref n, .tup ys => match lstAt st n with
    | some xs => .ok (.mix true n xs ys) st
    | none => .bad
  | .tup xs, .ref n => match lstAt st n with
    | some ys => .ok (.mix false n xs ys) st
    | none => .bad
  | _, _ => .bad
def iZip (fa fb : EM D) : EM Sq := fun τ st => (fa τ st).bind fun d s1 => (fb τ s1).bind fun e s2 => zip2 d e s2
theorem ei_zip {elts : List Expr} {kk : Nat} (hg : Gl X "zip") (hm : X.mg "zip" = none) (ha : Ex X W a fa) (hb : Ex X W b fb)
    (hs : starEach [a, b] X.env = (false, eval a X.env) :: starEach [b] X.env := by rfl) (hs2 : starEach [b] X.env = (false, eval b X.env) :: starEach [] X.env := by rfl) (hpl : (backTo pos (starEach [b] X.env)).any (·.1) = false := by rfl) :
    Ei X W (.Tuple elts kk tpos) (.Call (.Name "zip" p) [a, b] [] pos) (iZip fa fb) := by
  refine ⟨fun m τ st σ H R hL hS hP pins s I => (pi_zk (elts := elts) (kk := kk) (tpos := tpos) hg hm (pa_cons peW (pa_cons peW pa_nil hs2) hs) hs hpl).run pins s σ H R I ?_⟩
  refine two ha hb hL hS hP fun m2 st2 H2 dx dy x y e2 hS2 r1 r2 hP2 => ?_
  unfold zip2 at hP2
  split at hP2
  · cases r1 with
    | tup q rs =>
      cases r2 with
      | tup q2 rs2 => exact ⟨_, _, false, false, _, _, rfl, ⟨q.sq, q2.sq⟩, hP2.now hS2 (j_zk rfl fun m H st e s _ => ⟨_, _, ⟨e.tup _ _ q.sq, e.tup _ _ q2.sq⟩, rs.mono e, rs2.mono e⟩)⟩
  · split at hP2
    · rename_i xs ys hx hy
      cases r1 with
      | ref q =>
        cases r2 with
        | ref q2 =>
          obtain ⟨vs, h1, _⟩ := hS2.list hx q
          obtain ⟨us, h2, _⟩ := hS2.list hy q2
          refine ⟨_, _, true, true, vs, us, rfl, ⟨SqL.of h1, SqL.of h2⟩, hP2.now hS2 (j_zk rfl fun m H st e s hc => ?_)⟩
          have hc : (decide (lstAt st _ = some xs) && decide (lstAt st _ = some ys)) = true := hc
          rw [Bool.and_eq_true, decide_eq_true_eq, decide_eq_true_eq] at hc
          obtain ⟨vs, h1, r1⟩ := s.list hc.1 (e.pre _ _ q)
          obtain ⟨us, h2, r2⟩ := s.list hc.2 (e.pre _ _ q2)
          exact ⟨vs, us, ⟨SqL.of h1, SqL.of h2⟩, r1, r2⟩
    · exact hP2.elim
  · split at hP2
    · rename_i xs hx
      cases r1 with
      | ref q =>
        cases r2 with
        | tup q2 rs2 =>
          obtain ⟨vs, h1, _⟩ := hS2.list hx q
          refine ⟨_, _, true, false, vs, _, rfl, ⟨SqL.of h1, q2.sq⟩, hP2.now hS2 (j_zk rfl fun m H st e s hc => ?_)⟩
          have hc : decide (lstAt st _ = some xs) = true := hc
          rw [decide_eq_true_eq] at hc
          obtain ⟨vs, h1, r1⟩ := s.list hc (e.pre _ _ q)
          exact ⟨vs, _, ⟨SqL.of h1, e.tup _ _ q2.sq⟩, r1, rs2.mono e⟩
    · exact hP2.elim
  · split at hP2
    · rename_i ys hy
      cases r1 with
      | tup q rs =>
        cases r2 with
        | ref q2 =>
          obtain ⟨us, h2, _⟩ := hS2.list hy q2
          refine ⟨_, _, false, true, _, us, rfl, ⟨q.sq, SqL.of h2⟩, hP2.now hS2 (j_zk rfl fun m H st e s hc => ?_)⟩
          have hc : decide (lstAt st _ = some ys) = true := hc
          rw [decide_eq_true_eq] at hc
          obtain ⟨us, h2, r2⟩ := s.list hc (e.pre _ _ q2)
          exact ⟨_, us, ⟨e.tup _ _ q.sq, SqL.of h2⟩, rs.mono e, r2⟩
    · exact hP2.elim
  · exact hP2.elim
end
end HM

/-! HM, part D: dicts. -/
namespace HM
open PySem PySem.Spec PyProof.Rows L2

/-! ### keys -/
mutual
inductive NV (K : PySem.W.Frag) (H : Hp) : NestedKey → V → Prop
  | non : NV K H .none .non
  | int (i : Int) : NV K H (.num i) (.int i)
  | str (x : PySem.Str) : NV K H (.text x) (.str x)
  | tup {a : Addr} {vs : List V} {ks : List NestedKey} : SqT K H a vs → NVs K H ks vs → NV K H (.tup ks) (.ref a)
inductive NVs (K : PySem.W.Frag) (H : Hp) : List NestedKey → List V → Prop
  | nil : NVs K H [] []
  | cons {k : NestedKey} {v : V} {ks : List NestedKey} {vs : List V} : NV K H k v → NVs K H ks vs → NVs K H (k :: ks) (v :: vs)
end
section
variable {X : Cx} {pins : List (Addr × Obj)} {σ : L2.St} {H : Hp} {s : Shared}
mutual
theorem nv_is (I : Inv X pins σ H s) : ∀ {k : NestedKey} {v : V} {u : Value}, NV X.K H k v → RelV v u → NestedIs s.heap k u
  | _, _, _, .non, r => by
    cases (show _ = Value.none from r)
    exact .none
  | _, _, _, .int i, r => by
    obtain ⟨t, rfl⟩ := r
    exact .int i t
  | _, _, _, .str x, r => by
    obtain ⟨t, rfl⟩ := r
    exact .text x t
  | _, _, _, .tup q n, r => by
    cases (show _ = Value.ref _ from r)
    obtain ⟨its, rs, ⟨o, e, c, k, d⟩, _⟩ := I.tuple q
    exact .tup e c d (by simpa using nvs_is I n rs)
theorem nvs_is (I : Inv X pins σ H s) : ∀ {ks : List NestedKey} {vs : List V} {us : List Value}, NVs X.K H ks vs → Vals vs us → NestedAll s.heap ks us
  | _, _, _, .nil, r => by
    cases r
    exact .nil
  | _, _, _, .cons h t, r => by
    cases r with
    | cons r1 r2 => exact .cons (nv_is I h r1) (nvs_is I t r2)
end
end
section
variable {K : PySem.W.Frag} {m : List Addr} {H : Hp}
theorem nvs_of {n : Nat} (ih : ∀ (d : D) (v : V), d.plain n = true → RD K m H d v → NV K H d.nk v ∧ d.nk.depth ≤ n) : ∀ (ds : List D) (vs : List V), ds.all (D.plain n) = true → RDs K m H ds vs → NVs K H (D.nks ds) vs ∧ NestedKey.depthAll (D.nks ds) ≤ n
  | [], _, _, r => by
    cases r
    exact ⟨.nil, Nat.zero_le _⟩
  | d :: ds, _, h, r => by
    cases r with
    | cons r1 r2 =>
      rw [List.all_cons, Bool.and_eq_true] at h
      obtain ⟨a1, a2⟩ := ih d _ h.1 r1
      obtain ⟨b1, b2⟩ := nvs_of ih ds _ h.2 r2
      refine ⟨.cons a1 b1, ?_⟩
      simp only [D.nks, NestedKey.depthAll]
      omega
theorem nv_of : ∀ (n : Nat) (d : D) (v : V), d.plain n = true → RD K m H d v → NV K H d.nk v ∧ d.nk.depth ≤ n := by
  intro n
  induction n with
  | zero =>
    intro d v h r
    cases r <;> simp [D.plain] at h
    · exact ⟨.non, Nat.zero_le _⟩
    · exact ⟨.int _, Nat.zero_le _⟩
    · exact ⟨.str _, Nat.zero_le _⟩
  | succ n ih =>
    intro d v h r
    cases r with
    | non => exact ⟨.non, Nat.zero_le _⟩
    | int i => exact ⟨.int _, Nat.zero_le _⟩
    | str x => exact ⟨.str _, Nat.zero_le _⟩
    | tup s rs =>
      rename_i a vs ds
      obtain ⟨b1, b2⟩ := nvs_of ih ds vs h rs
      refine ⟨.tup s.sq b1, ?_⟩
      simp only [D.nk, NestedKey.depth]
      omega
    | _ => simp [D.plain] at h
end
theorem nks_inj {n : Nat} (ih : ∀ x y : D, x.plain n = true → y.plain n = true → x.nk = y.nk → x = y) : ∀ xs ys : List D, xs.all (D.plain n) = true → ys.all (D.plain n) = true → D.nks xs = D.nks ys → xs = ys
  | [], [], _, _, _ => rfl
  | [], _ :: _, _, _, h => by simp [D.nks] at h
  | _ :: _, [], _, _, h => by simp [D.nks] at h
  | x :: xs, y :: ys, h1, h2, h => by
    rw [List.all_cons, Bool.and_eq_true] at h1 h2
    simp only [D.nks, List.cons.injEq] at h
    rw [ih x y h1.1 h2.1 h.1, nks_inj ih xs ys h1.2 h2.2 h.2]
theorem nk_inj : ∀ (n : Nat) (x y : D), x.plain n = true → y.plain n = true → x.nk = y.nk → x = y := by
  intro n
  induction n with
  | zero => intro x y h1 h2 h; cases x <;> simp [D.plain] at h1 <;> cases y <;> simp [D.plain] at h2 <;> simp [D.nk] at h <;> first | rfl | rw [h]
  | succ n ih =>
    intro x y h1 h2 h
    cases x <;> simp only [D.plain, Bool.false_eq_true] at h1 <;> cases y <;> simp only [D.plain, Bool.false_eq_true] at h2 <;> simp [D.nk] at h <;> first
      | rfl
      | rw [h]
      | rw [nks_inj ih _ _ h1 h2 h]
/-! ### a dict's cell -/
def dctAt (st : Store) (n : Nat) : Option (List (D × D)) := match st[n]? with
  | some (.dct kvs) => some kvs
  | _ => none
theorem dct_lst {st : Store} {n : Nat} {xs : List D} (h : lstAt st n = some xs) : dctAt st n = none := by
  unfold lstAt at h
  unfold dctAt
  split at h
  · rename_i e
    rw [e]
  · cases h
theorem lst_dct {st : Store} {n : Nat} {kvs : List (D × D)} (h : dctAt st n = some kvs) : lstAt st n = none := by
  unfold dctAt at h
  unfold lstAt
  split at h
  · rename_i e
    rw [e]
  · cases h
theorem SS.dict {K : KW} {m : List Addr} {st : Store} {H : Hp} {n : Nat} {kvs : List (D × D)} {a : Addr} (s : SS K m st H) (h : dctAt st n = some kvs) (e : m[n]? = some a) : RC K m H a (.dct kvs) := by
  unfold dctAt at h
  split at h
  · rename_i q
    cases h
    exact s.cel n _ a q e
  · cases h
def D.flatK (d : D) : Bool := match d with
  | .int _ => true
  | .str _ => true
  | _ => false
def keyFit (kvs : List (D × D)) (k : D) : Bool := (k.flatK && kvs.all fun p => p.1.flatK) || (k.tupQ && kvs.all fun p => p.1.tupQ)
def dGet (kvs : List (D × D)) (k : D) : Option D := (kvs.find? fun p => decide (p.1 = k)).map (·.2)
def dPut (kvs : List (D × D)) (k v : D) : List (D × D) := if (dGet kvs k).isSome then kvs.map (fun p => if p.1 = k then (p.1, v) else p) else kvs ++ [(k, v)]
/-- what the dict at a holds at y -/
def DG (K : KW) (H : Hp) (a : Addr) (y : V) (o : Option V) : Prop :=
  (∃ us k, H a = some (.dK us) ∧ y = kV k ∧ o = valV us k) ∨
  (∃ k b, H a = some (.dK []) ∧ y = .ref b ∧ NV K H k (.ref b) ∧ k.depth ≤ 8 ∧ o = none) ∨
  (∃ xs k b, H a = some (.ext (DObj K.w a xs)) ∧ y = .ref b ∧ NV K H k (.ref b) ∧ k.depth ≤ 8 ∧ (∀ x ∈ xs, NV K H x.1 (.ref x.2.1) ∧ x.1.depth ≤ 8) ∧ o = (xs.find? fun x => decide (x.1 = k)).map (·.2.2))
theorem keyD_inj {a b : Key} (h : keyD a = keyD b) : a = b := by
  cases a <;> cases b <;> simp [keyD] at h
  · rw [h]
  · rename_i x y
    have : x = y := by
      cases x; cases y
      simp only [PySem.Str.mk.injEq]
      exact h
    rw [this]
theorem flatK_of {K : PySem.W.Frag} {m : List Addr} {H : Hp} {k : D} {v : V} (h : k.flatK = true) (r : RD K m H k v) : ∃ q : Key, k = keyD q ∧ v = kV q := by
  cases r with
  | int i => exact ⟨.inl i, rfl, rfl⟩
  | str x => exact ⟨.inr ⟨x.toArray⟩, by simp [keyD], rfl⟩
  | _ => cases h
theorem tupQ_of {K : PySem.W.Frag} {m : List Addr} {H : Hp} {k : D} {v : V} (h : k.tupQ = true) (r : RD K m H k v) : ∃ b, v = .ref b ∧ NV K H k.nk (.ref b) ∧ k.nk.depth ≤ 8 := by
  cases r with
  | tup s rs =>
    obtain ⟨z1, z2⟩ := nv_of 8 _ _ h (.tup s rs)
    exact ⟨_, rfl, z1, z2⟩
  | _ => cases h
/-- a found value and its value -/
def OptR (K : PySem.W.Frag) (m : List Addr) (H : Hp) (o : Option D) (u : Option V) : Prop := match o, u with
  | none, none => True
  | some d, some v => RD K m H d v
  | _, _ => False
section
variable {K : PySem.W.Frag} {m : List Addr} {H : Hp}
theorem get1 {kvs : List (D × D)} {us : List (Key × V)} (r : DRel1 K m H kvs us) (k : Key) : OptR K m H (dGet kvs (keyD k)) (valV us k) := by
  unfold dGet valV
  induction r with
  | nil => exact True.intro
  | @cons p q ps qs h t ih =>
    obtain ⟨h1, h2⟩ := h
    by_cases e : q.1 = k
    · rw [List.find?_cons_of_pos (by simp [h1, e]), List.find?_cons_of_pos (by simp [e])]
      exact h2
    · rw [List.find?_cons_of_neg (by simp only [h1, decide_eq_true_eq]; exact fun z => e (keyD_inj z)), List.find?_cons_of_neg (by simpa using e)]
      exact ih
theorem tupQ_plain {d : D} (h : d.tupQ = true) : d.plain 8 = true := by
  cases d <;> first | exact h | cases h
theorem get2 {kvs : List (D × D)} {xs : List (NestedKey × Addr × V)} (r : DRel2 K m H kvs xs) {k : D} (hk : k.tupQ = true) : OptR K m H (dGet kvs k) ((xs.find? fun x => decide (x.1 = k.nk)).map (·.2.2)) := by
  unfold dGet
  induction r with
  | nil => exact True.intro
  | @cons p q ps qs h t ih =>
    obtain ⟨h1, h2, h3, h4⟩ := h
    by_cases e : p.1 = k
    · rw [List.find?_cons_of_pos (by simp [e]), List.find?_cons_of_pos (by simp [h2, e])]
      exact h4
    · rw [List.find?_cons_of_neg (by simpa using e), List.find?_cons_of_neg (by simp only [h2, decide_eq_true_eq]; exact fun z => e (nk_inj 8 _ _ (tupQ_plain h1) (tupQ_plain hk) z))]
      exact ih
theorem keys2 {kvs : List (D × D)} {xs : List (NestedKey × Addr × V)} (r : DRel2 K m H kvs xs) : ∀ x ∈ xs, NV K H x.1 (.ref x.2.1) ∧ x.1.depth ≤ 8 := by
  induction r with
  | nil => exact fun _ h => nomatch h
  | @cons p q ps qs h t ih =>
    intro x hx
    obtain ⟨h1, h2, h3, h4⟩ := h
    rcases List.mem_cons.mp hx with rfl | hx
    · obtain ⟨b, e, z1, z2⟩ := tupQ_of h1 h3
      cases e
      rw [h2]
      exact ⟨z1, z2⟩
    · exact ih x hx
theorem not_both {d : D} (h1 : d.flatK = true) (h2 : d.tupQ = true) : False := by cases d <;> simp [D.flatK, D.tupQ] at h1 h2
end
theorem dg_of {K : KW} {m : List Addr} {H : Hp} {a : Addr} {kvs : List (D × D)} {k : D} {v : V} (c : RC K m H a (.dct kvs)) (r : RD K m H k v) (f : keyFit kvs k = true) : ∃ o, DG K H a v o ∧ OptR K m H (dGet kvs k) o := by
  unfold keyFit at f
  rw [Bool.or_eq_true, Bool.and_eq_true, Bool.and_eq_true] at f
  rcases c with ⟨us, e, q⟩ | ⟨xs, e, ne, q⟩
  · rcases f with ⟨f1, _⟩ | ⟨f1, f2⟩
    · obtain ⟨y, rfl, rfl⟩ := flatK_of f1 r
      exact ⟨_, .inl ⟨us, y, e, rfl, rfl⟩, get1 q y⟩
    · cases q with
      | nil =>
        obtain ⟨b, rfl, z1, z2⟩ := tupQ_of f1 r
        exact ⟨none, .inr (.inl ⟨_, b, e, rfl, z1, z2, rfl⟩), True.intro⟩
      | @cons p u ps us h t =>
        rw [List.all_cons, Bool.and_eq_true] at f2
        obtain ⟨h1, _⟩ := h
        rw [h1] at f2
        cases hu : u.1 <;> rw [hu] at f2 <;> exact absurd f2.1 (by simp [keyD, D.tupQ])
  · rcases f with ⟨f1, f2⟩ | ⟨f1, _⟩
    · cases q with
      | nil => exact absurd rfl ne
      | @cons p u ps us h t =>
        rw [List.all_cons, Bool.and_eq_true] at f2
        exact (not_both f2.1 h.1).elim
    · obtain ⟨b, rfl, z1, z2⟩ := tupQ_of f1 r
      exact ⟨_, .inr (.inr ⟨xs, _, b, e, rfl, z1, z2, keys2 q, rfl⟩), get2 q f1⟩

/-! ### the operations -/
theorem paired_find {k : NestedKey} : ∀ {xs : List (NestedKey × Addr × V)} {zs : List (NestedKey × Addr × Value)}, Paired (fun p q => p.1 = q.1 ∧ p.2.1 = q.2.1 ∧ RelV p.2.2 q.2.2) xs zs → RelO ((xs.find? fun x => decide (x.1 = k)).map (·.2.2)) ((atKey zs k).map (·.2))
  | _, _, .nil => True.intro
  | _, _, .cons (a := p) (b := q) h t => by
    have ih := paired_find (k := k) t
    unfold atKey at ih ⊢
    by_cases e : p.1 = k
    · rw [List.find?_cons_of_pos (by simp [e]), List.find?_cons_of_pos (by simp [← h.1, e])]
      exact h.2.2
    · rw [List.find?_cons_of_neg (by simpa using e), List.find?_cons_of_neg (by simpa [← h.1] using e)]
      exact ih
theorem paired_is {P : Program} {w : World} {h : Heap} : ∀ {xs : List (NestedKey × Addr × V)} {zs : List (NestedKey × Addr × Value)}, Paired (fun p q => p.1 = q.1 ∧ p.2.1 = q.2.1 ∧ RelV p.2.2 q.2.2) xs zs → (∀ x ∈ xs, (nestedKind P w).is h x.1 x.2.1) → ∀ z ∈ zs, (nestedKind P w).is h z.1 z.2.1
  | _, _, .nil, _ => fun _ h => nomatch h
  | _, _, .cons (a := p) (b := q) r t, hs => fun z hz => by
    rcases List.mem_cons.mp hz with rfl | hz
    · rw [← r.1, ← r.2.1]
      exact hs p (List.mem_cons_self ..)
    · exact paired_is t (fun x hx => hs x (List.mem_cons_of_mem _ hx)) z hz
section
variable {X : Cx} {pins : List (Addr × Obj)} {σ : L2.St} {H : Hp} {s : Shared} {a : Addr} {y v : V} {u r : Value} {o : Option V} {A : Around} {E : Value → Shared → Prop}
/-- a dict of tuple keys, as the library tells it -/
theorem dobj_at {xs : List (NestedKey × Addr × V)} (I : Inv X pins σ H s) (e : H a = some (.ext (DObj X.kw.w a xs))) (hx : ∀ x ∈ xs, NV X.K H x.1 (.ref x.2.1) ∧ x.1.depth ≤ 8) :
    (a == sysModules) = false ∧ xs.length ≤ sizeLine ∧ ∃ zs, Paired (fun p q => p.1 = q.1 ∧ p.2.1 = q.2.1 ∧ RelV p.2.2 q.2.2) xs zs ∧ s.heap.DictOfH (nestedKind X.prog X.w) a zs := by
  obtain ⟨⟨hd, hz, zs, rel, ob, es, ep, h1, h2, h3, h4, h5⟩, _, _⟩ := (show ObjOk X.prog X.w H s.heap a (.ext (DObj X.w a xs)) from I.hok a _ e)
  exact ⟨hd, hz, zs, rel, ob, es, ep, h1, h2, h3, h4, paired_is rel fun x hm => ⟨nv_is I (hx x hm).1 rfl, (hx x hm).2⟩, h5⟩
theorem dk_empty_at (I : Inv X pins σ H s) (e : H a = some (.dK [])) : (a == sysModules) = false ∧ s.heap.DictOfH (nestedKind X.prog X.w) a [] := by
  obtain ⟨_, hd, vs, rel, dd⟩ := dk_of I.hok e
  cases rel
  obtain ⟨ob, es, ep, h1, h2, h3, _, h5, _⟩ := dd
  have z : es.toList = [] := by
    generalize es.toList = l at h5
    cases h5
    rfl
  exact ⟨hd, ob, es, ep, h1, h2, h3, by rw [z]; rfl, (fun _ h => nomatch h), by simp⟩
theorem nroom (hu : A.units + 10 < cLine) : (nestedKind X.prog X.w).room A.in1 := by
  show A.units + 1 + 8 < cLine
  omega
/-- d[y], there -/
theorem dg_getItem {Q : Value → Shared → Prop} (hu : A.units + 10 < cLine) (I : Inv X pins σ H s) (g : DG X.kw H a y (some v)) (ry : RelV y u) (h : ∀ w' s', Inv X pins σ H s' → RelV v w' → Q w' s') :
    wpAny (model X.prog X.w) A (getItem (.ref a) u) Q E s := by
  rcases g with ⟨us, k, e, ey, l⟩ | ⟨k, b, e, ey, n, dp, l⟩ | ⟨xs, k, b, e, ey, n, dp, hx, l⟩
  · exact d_getItem (by omega) I (.inl ⟨us, k, .inl e, ey, l⟩) ry h
  · cases l
  · subst ey
    cases (show u = Value.ref b from ry)
    obtain ⟨hd, hz, zs, rel, dd⟩ := dobj_at I e hx
    obtain ⟨w', hw, rw'⟩ := RelO.some_of (v := v) (o := (atKey zs k).map (·.2)) (by rw [l]; exact paired_find rel)
    obtain ⟨p, hp, hp2⟩ := Option.map_eq_some_iff.mp hw
    refine wpAny_getItem_heap (nroom hu) ⟨nv_is I n rfl, dp⟩ dd hp ?_
    rw [hp2]
    exact h w' _ (I.tok _) rw'
theorem dg_in {Q : Value → Shared → Prop} (hu : A.units + 10 < cLine) (I : Inv X pins σ H s) (g : DG X.kw H a y o) (ry : RelV y u) (h : ∀ s', Inv X pins σ H s' → Q (.bool o.isSome) s') :
    wpAny (model X.prog X.w) A (compareOp .In u (.ref a)) Q E s := by
  rcases g with ⟨us, k, e, ey, l⟩ | ⟨k, b, e, ey, n, dp, l⟩ | ⟨xs, k, b, e, ey, n, dp, hx, l⟩
  · exact d_in (by omega) I (.inl ⟨us, k, .inl e, ey, l⟩) ry h
  · subst ey l
    cases (show u = Value.ref b from ry)
    obtain ⟨hd, dd⟩ := dk_empty_at I e
    exact wpAny_in_heap (nroom hu) ⟨nv_is I n rfl, dp⟩ hd dd (h _ (I.tok _))
  · subst ey
    cases (show u = Value.ref b from ry)
    obtain ⟨hd, hz, zs, rel, dd⟩ := dobj_at I e hx
    refine wpAny_in_heap (nroom hu) ⟨nv_is I n rfl, dp⟩ hd dd ?_
    have q := (paired_find (k := k) rel).isSome_eq
    rw [Option.isSome_map (x := atKey zs k)] at q
    rw [← q, ← l]
    exact h _ (I.tok _)
theorem dg_notIn {Q : Value → Shared → Prop} (hu : A.units + 10 < cLine) (I : Inv X pins σ H s) (g : DG X.kw H a y o) (ry : RelV y u) (h : ∀ s', Inv X pins σ H s' → Q (.bool (!o.isSome)) s') :
    wpAny (model X.prog X.w) A (compareOp .NotIn u (.ref a)) Q E s := by
  rcases g with ⟨us, k, e, ey, l⟩ | ⟨k, b, e, ey, n, dp, l⟩ | ⟨xs, k, b, e, ey, n, dp, hx, l⟩
  · exact d_notIn (by omega) I (.inl ⟨us, k, .inl e, ey, l⟩) ry h
  · subst ey l
    cases (show u = Value.ref b from ry)
    obtain ⟨hd, dd⟩ := dk_empty_at I e
    exact wpAny_notIn_heap (nroom hu) ⟨nv_is I n rfl, dp⟩ hd dd (h _ (I.tok _))
  · subst ey
    cases (show u = Value.ref b from ry)
    obtain ⟨hd, hz, zs, rel, dd⟩ := dobj_at I e hx
    refine wpAny_notIn_heap (nroom hu) ⟨nv_is I n rfl, dp⟩ hd dd ?_
    have q := (paired_find (k := k) rel).isSome_eq
    rw [Option.isSome_map (x := atKey zs k)] at q
    rw [← q, ← l]
    exact h _ (I.tok _)
/-- d.get(y), d.get(y, x) -/
theorem dg_get1 {Q : Value → Shared → Prop} (hu : A.units + 10 < cLine) (I : Inv X pins σ H s) (g : DG X.kw H a y o) (ry : RelV y u) (h : ∀ w' s', Inv X pins σ H s' → RelV (o.getD .non) w' → Q w' s') :
    wpAny (model X.prog X.w) A (call (.builtin "dict.get") [.ref a, u]) Q E s := by
  rcases g with ⟨us, k, e, ey, l⟩ | ⟨k, b, e, ey, n, dp, l⟩ | ⟨xs, k, b, e, ey, n, dp, hx, l⟩
  · exact d_get1 (by omega) I (.inl ⟨us, k, .inl e, ey, l⟩) ry h
  · subst ey l
    cases (show u = Value.ref b from ry)
    obtain ⟨hd, dd⟩ := dk_empty_at I e
    exact call_meetsIn PySem.F.slot_dict_get dd.typeIs PySem.F.entry_dict_get (PySem.F.args_dict_get_2 _ _) (meetsH_dict_get (nestedKind X.prog X.w) a b hd) ⟨nroom hu, k, [], ⟨nv_is I n rfl, dp⟩, dd, h _ _ (I.tok _) rfl⟩
  · subst ey
    cases (show u = Value.ref b from ry)
    obtain ⟨hd, hz, zs, rel, dd⟩ := dobj_at I e hx
    refine call_meetsIn PySem.F.slot_dict_get dd.typeIs PySem.F.entry_dict_get (PySem.F.args_dict_get_2 _ _) (meetsH_dict_get (nestedKind X.prog X.w) a b hd) ⟨nroom hu, k, zs, ⟨nv_is I n rfl, dp⟩, dd, h _ _ (I.tok _) ?_⟩
    rw [l]
    exact (paired_find (k := k) rel).getD rfl
theorem dg_get2 {d : V} {Q : Value → Shared → Prop} (hu : A.units + 10 < cLine) (I : Inv X pins σ H s) (g : DG X.kw H a y o) (ry : RelV y u) (rd : RelV d r) (h : ∀ w' s', Inv X pins σ H s' → RelV (o.getD d) w' → Q w' s') :
    wpAny (model X.prog X.w) A (call (.builtin "dict.get") [.ref a, u, r]) Q E s := by
  rcases g with ⟨us, k, e, ey, l⟩ | ⟨k, b, e, ey, n, dp, l⟩ | ⟨xs, k, b, e, ey, n, dp, hx, l⟩
  · exact d_get2 (by omega) I (.inl ⟨us, k, .inl e, ey, l⟩) ry rd h
  · subst ey l
    cases (show u = Value.ref b from ry)
    obtain ⟨hd, dd⟩ := dk_empty_at I e
    exact call_meetsIn PySem.F.slot_dict_get dd.typeIs PySem.F.entry_dict_get (PySem.F.args_dict_get_3 _ _ _) (meetsH_dict_get_default (nestedKind X.prog X.w) a b hd r) ⟨nroom hu, k, [], ⟨nv_is I n rfl, dp⟩, dd, h _ _ (I.tok _) rd⟩
  · subst ey
    cases (show u = Value.ref b from ry)
    obtain ⟨hd, hz, zs, rel, dd⟩ := dobj_at I e hx
    refine call_meetsIn PySem.F.slot_dict_get dd.typeIs PySem.F.entry_dict_get (PySem.F.args_dict_get_3 _ _ _) (meetsH_dict_get_default (nestedKind X.prog X.w) a b hd r) ⟨nroom hu, k, zs, ⟨nv_is I n rfl, dp⟩, dd, h _ _ (I.tok _) ?_⟩
    rw [l]
    exact (paired_find (k := k) rel).getD rd
end
/-! ### d[y] = v -/
def putX (xs : List (NestedKey × Addr × V)) (k : NestedKey) (b : Addr) (v : V) : List (NestedKey × Addr × V) := if (xs.any fun x => decide (x.1 = k)) then xs.map (fun x => if x.1 = k then (x.1, x.2.1, v) else x) else xs ++ [(k, b, v)]
theorem paired_any {k : NestedKey} : ∀ {xs : List (NestedKey × Addr × V)} {zs : List (NestedKey × Addr × Value)}, Paired (fun p q => p.1 = q.1 ∧ p.2.1 = q.2.1 ∧ RelV p.2.2 q.2.2) xs zs → (xs.any fun x => decide (x.1 = k)) = (atKey zs k).isSome
  | _, _, .nil => rfl
  | _, _, .cons (a := p) (b := q) h t => by
    have ih := paired_any (k := k) t
    unfold atKey at ih ⊢
    rw [List.any_cons, ih]
    by_cases e : p.1 = k
    · rw [List.find?_cons_of_pos (by simp [← h.1, e])]
      simp [e]
    · rw [List.find?_cons_of_neg (by simpa [← h.1] using e)]
      simp [e]
theorem paired_map {k : NestedKey} {v : V} {r : Value} (rv : RelV v r) : ∀ {xs : List (NestedKey × Addr × V)} {zs : List (NestedKey × Addr × Value)}, Paired (fun p q => p.1 = q.1 ∧ p.2.1 = q.2.1 ∧ RelV p.2.2 q.2.2) xs zs → Paired (fun p q => p.1 = q.1 ∧ p.2.1 = q.2.1 ∧ RelV p.2.2 q.2.2) (xs.map (fun x => if x.1 = k then (x.1, x.2.1, v) else x)) (zs.map (putAt k r))
  | _, _, .nil => .nil
  | _, _, .cons (a := p) (b := q) h t => by
    refine .cons ?_ (paired_map rv t)
    unfold putAt
    simp only []
    by_cases e : p.1 = k
    · rw [if_pos e, if_pos (by rw [← h.1]; exact e)]
      exact ⟨h.1, h.2.1, rv⟩
    · rw [if_neg e, if_neg (by rw [← h.1]; exact e)]
      exact h
theorem paired_put {k : NestedKey} {b : Addr} {v : V} {r : Value} (rv : RelV v r) {xs : List (NestedKey × Addr × V)} {zs : List (NestedKey × Addr × Value)} (rel : Paired (fun p q => p.1 = q.1 ∧ p.2.1 = q.2.1 ∧ RelV p.2.2 q.2.2) xs zs) :
    Paired (fun p q => p.1 = q.1 ∧ p.2.1 = q.2.1 ∧ RelV p.2.2 q.2.2) (putX xs k b v) (storedH zs k b r) := by
  unfold putX storedH
  rw [paired_any rel]
  by_cases e : (atKey zs k).isSome = true
  · rw [if_pos e, if_pos e]
    exact paired_map rv rel
  · rw [if_neg e, if_neg e]
    exact Paired.snoc rel ⟨rfl, rfl, rv⟩
theorem putX_len {xs : List (NestedKey × Addr × V)} {k : NestedKey} {b : Addr} {v : V} : (putX xs k b v).length ≤ xs.length + 1 := by
  unfold putX
  split <;> simp
/-- the heap behind a[y] = v -/
def DP (K : KW) (H : Hp) (a : Addr) (y v : V) (H' : Hp) : Prop :=
  (∃ us k, H a = some (.dK us) ∧ y = kV k ∧ us.length < sizeLine ∧ H' = upd H a (.dK (putK us k v))) ∨
  (∃ k b, H a = some (.dK []) ∧ y = .ref b ∧ NV K H k (.ref b) ∧ k.depth ≤ 8 ∧ H' = upd H a (.ext (DObj K.w a [(k, b, v)]))) ∨
  (∃ xs k b, H a = some (.ext (DObj K.w a xs)) ∧ y = .ref b ∧ NV K H k (.ref b) ∧ k.depth ≤ 8 ∧ (∀ x ∈ xs, NV K H x.1 (.ref x.2.1) ∧ x.1.depth ≤ 8) ∧ xs.length < sizeLine ∧ H' = upd H a (.ext (DObj K.w a (putX xs k b v))))
theorem dobj_ok {P : Program} {w : World} {a : Addr} {xs : List (NestedKey × Addr × V)} {H' : Hp} {h' : Heap} {zs : List (NestedKey × Addr × Value)} (hd : (a == sysModules) = false) (hz : xs.length ≤ sizeLine) (rel : Paired (fun p q => p.1 = q.1 ∧ p.2.1 = q.2.1 ∧ RelV p.2.2 q.2.2) xs zs)
    (dd : h'.DictOfH (nestedKind P w) a zs) : ObjOk P w H' h' a (.ext (DObj w a xs)) := by
  obtain ⟨ob, es, ep, h1, h2, h3, h4, _, h5⟩ := dd
  refine ⟨⟨hd, hz, zs, rel, ob, es, ep, h1, h2, h3, h4, h5⟩, ⟨ob, h1⟩, fun g1 g2 ⟨_, _, zs', rel', ob', es', ep', h1', r'⟩ st => ⟨hd, hz, zs', rel', ob', es', ep', st _ h1', r'⟩⟩
section
variable {X : Cx} {pins : List (Addr × Obj)} {σ : L2.St} {H H' : Hp} {s : Shared} {a : Addr} {y v : V} {u r : Value} {A : Around} {E : Value → Shared → Prop}
theorem dg_set {Q : Unit → Shared → Prop} (hu : A.units + 10 < cLine) (I : Inv X pins σ H s) (g : DP X.kw H a y v H') (ry : RelV y u) (rv : RelV v r) (h : ∀ s', Inv X pins σ H' s' → Q () s') :
    wpAny (model X.prog X.w) A (setItem (.ref a) u r) Q E s := by
  rcases g with ⟨us, k, e, ey, l, eH⟩ | ⟨k, b, e, ey, n, dp, eH⟩ | ⟨xs, k, b, e, ey, n, dp, hx, l, eH⟩
  · exact d_setItem (by omega) I (.inl ⟨us, k, e, ey, l, eH⟩) ry rv h
  · subst ey eH
    cases (show u = Value.ref b from ry)
    obtain ⟨hd, dd⟩ := dk_empty_at I e
    refine wpAny_setItem_heap (hsz := Nat.zero_le _) (nroom hu) ⟨nv_is I n rfl, dp⟩ dd fun h' dd' hs => h _ ?_
    have he : ∃ q, h'.get? a = some q := let ⟨q, _, _, hq, _⟩ := dd'; ⟨q, hq⟩
    refine d_write I (by rw [e]; exact True.intro) hs he (dobj_ok hd (by rw [PySem.sizeLine_eq]; show 1 ≤ _; omega) ?_ dd')
    exact .cons ⟨rfl, rfl, rv⟩ .nil
  · subst ey eH
    cases (show u = Value.ref b from ry)
    obtain ⟨hd, hz, zs, rel, dd⟩ := dobj_at I e hx
    refine wpAny_setItem_heap (hsz := by rw [← Paired.length rel]; exact hz) (nroom hu) ⟨nv_is I n rfl, dp⟩ dd fun h' dd' hs => h _ ?_
    have he : ∃ q, h'.get? a = some q := let ⟨q, _, _, hq, _⟩ := dd'; ⟨q, hq⟩
    exact d_write I (by rw [e]; exact True.intro) hs he (dobj_ok hd (by have := putX_len (xs := xs) (k := k) (b := b) (v := v); omega) (paired_put rv rel) dd')
end

/-! ### the store's side -/
theorem dp_of {K : KW} {m : List Addr} {st : Store} {H : Hp} {n : Nat} {kvs : List (D × D)} {k d : D} {y v : V} {a : Addr} (hS : SS K m st H) (hk : dctAt st n = some kvs) (hn : m[n]? = some a) (rk : RD K m H k y) (rv : RD K m H d v) (f : keyFit kvs k = true) (hl : kvs.length < 16777216) :
    ∃ H', DP K H a y v H' ∧ Ext K m H m H' ∧ SS K m (st.set n (.dct (dPut kvs k d))) H' := by
  have c := hS.dict hk hn
  have f' := f
  unfold keyFit at f'
  rw [Bool.or_eq_true, Bool.and_eq_true, Bool.and_eq_true] at f'
  rcases c with ⟨us, e, q⟩ | ⟨xs, e, ne, q⟩
  · have mu : Mut (H a) := by rw [e]; exact True.intro
    rcases f' with ⟨f1, _⟩ | ⟨f1, f2⟩
    · obtain ⟨w, rfl, rfl⟩ := flatK_of f1 rk
      refine ⟨_, .inl ⟨us, w, e, rfl, below_line (by rw [← Paired.length q]; exact hl), rfl⟩, Ext.writeM mu hn, hS.writeM mu hn (.inl ⟨_, upd_same, ?_⟩)⟩
      have kp : ∀ o : HO, Kp K m H m (upd H a o) := fun _ => Kp.writeM mu
      unfold dPut putK
      have ea : (dGet kvs (keyD w)).isSome = (us.any fun kv => decide (kv.1 = w)) := by
        have z := get1 q w
        rw [valV_any]
        cases h1 : dGet kvs (keyD w) <;> cases h2 : valV us w <;> rw [h1, h2] at z <;> first | rfl | exact z.elim
      rw [ea]
      split
      · have go : ∀ {kvs us}, DRel1 K m H kvs us → Paired (fun (p : D × D) (q : Key × V) => p.1 = keyD q.1 ∧ RD K m H p.2 q.2) (kvs.map fun p => if p.1 = keyD w then (p.1, d) else p) (us.map fun kv => if kv.1 = w then (kv.1, v) else kv) := fun {kvs us} r => by
          induction r with
          | nil => exact .nil
          | @cons p u ps us h t ih =>
            refine .cons ?_ ih
            simp only []
            by_cases e : u.1 = w
            · rw [if_pos e, if_pos (by rw [h.1, e])]
              exact ⟨h.1, rv⟩
            · rw [if_neg e, if_neg (by rw [h.1]; exact fun z => e (keyD_inj z))]
              exact h
        exact DRel1.kp (go q) (kp _)
      · exact DRel1.kp (Paired.snoc q ⟨rfl, rv⟩) (kp _)
    · have hnil : kvs = [] ∧ us = [] := by
        cases q with
        | nil => exact ⟨rfl, rfl⟩
        | @cons p u ps us h t =>
          rw [List.all_cons, Bool.and_eq_true] at f2
          obtain ⟨h1, _⟩ := h
          rw [h1] at f2
          cases hu : u.1 <;> rw [hu] at f2 <;> exact absurd f2.1 (by simp [keyD, D.tupQ])
      obtain ⟨rfl, rfl⟩ := hnil
      obtain ⟨b, rfl, z1, z2⟩ := tupQ_of f1 rk
      refine ⟨_, .inr (.inl ⟨k.nk, b, e, rfl, z1, z2, rfl⟩), Ext.writeM mu hn, hS.writeM mu hn (.inr ⟨_, upd_same, by simp, ?_⟩)⟩
      have kp : ∀ o : HO, Kp K m H m (upd H a o) := fun _ => Kp.writeM mu
      have e0 : dPut [] k d = [(k, d)] := rfl
      rw [e0]
      exact .cons ⟨f1, rfl, rk.kp (kp _), rv.kp (kp _)⟩ .nil
  · have mu : Mut (H a) := by rw [e]; exact True.intro
    rcases f' with ⟨f1, f2⟩ | ⟨f1, _⟩
    · cases q with
      | nil => exact absurd rfl ne
      | @cons p u ps us h t =>
        rw [List.all_cons, Bool.and_eq_true] at f2
        exact (not_both f2.1 h.1).elim
    · obtain ⟨b, rfl, z1, z2⟩ := tupQ_of f1 rk
      refine ⟨_, .inr (.inr ⟨xs, k.nk, b, e, rfl, z1, z2, keys2 q, below_line (by rw [← Paired.length q]; exact hl), rfl⟩), Ext.writeM mu hn, hS.writeM mu hn (.inr ⟨_, upd_same, ?_, ?_⟩)⟩
      · unfold putX
        split
        · intro z
          exact ne (List.map_eq_nil_iff.mp z)
        · simp
      · have kp : ∀ o : HO, Kp K m H m (upd H a o) := fun _ => Kp.writeM mu
        unfold dPut putX
        have ea : (dGet kvs k).isSome = (xs.any fun x => decide (x.1 = k.nk)) := by
          have z := get2 q f1
          have z2 : (xs.any fun x => decide (x.1 = k.nk)) = ((xs.find? fun x => decide (x.1 = k.nk)).map (·.2.2)).isSome := by
            rw [Option.isSome_map, Bool.eq_iff_iff, List.find?_isSome]
            simp
          rw [z2]
          cases h1 : dGet kvs k <;> cases h2 : (xs.find? fun x => decide (x.1 = k.nk)).map (·.2.2) <;> rw [h1, h2] at z <;> first | rfl | exact z.elim
        rw [ea]
        split
        · have go : ∀ {kvs xs}, DRel2 K m H kvs xs → DRel2 K m H (kvs.map fun p => if p.1 = k then (p.1, d) else p) (xs.map fun x => if x.1 = k.nk then (x.1, x.2.1, v) else x) := fun {kvs xs} r => by
            induction r with
            | nil => exact .nil
            | @cons p u ps us h t ih =>
              refine .cons ?_ ih
              simp only []
              by_cases e : p.1 = k
              · rw [if_pos e, if_pos (by rw [h.2.1, e])]
                exact ⟨h.1, h.2.1, h.2.2.1, rv⟩
              · rw [if_neg e, if_neg (by rw [h.2.1]; exact fun z => e (nk_inj 8 _ _ (tupQ_plain h.1) (tupQ_plain f1) z))]
                exact h
          exact DRel2.kp (go q) (kp _)
        · exact DRel2.kp (Paired.snoc q ⟨f1, rfl, rk, rv⟩) (kp _)
/-! ### {}, d[k], k in d, d[k] = v, len(d) -/
section
variable {X : Cx} {W : WX} {e o a b c : Expr} {es : List Expr} {pos p : Pos} {f fo fa fb fe fi : EM D} {fs : EM (List D)}
def eDct : EM D := fun _ st => .ok (.ref st.length) (st ++ [.dct []])
theorem ex_dct : Ex X W (.Dict [] [] pos) eDct := ⟨fun m τ st σ H Q hL hS hP pins s I => pe_dnewK.run pins s σ H Q I fun p hp => by
  refine hP (m ++ [p]) _ _ (Ext.app hp) (hS.app hp (.inl ⟨[], upd_same, .nil⟩)) (.ref ?_)
  rw [← hS.len]
  simp⟩
def rDG (K : KW) : R2 := fun x y H Q => ∃ a v, x = .ref a ∧ DG K H a y (some v) ∧ Q v H
theorem dg_typeIs {pins : List (Addr × Obj)} {σ : L2.St} {H : Hp} {s : Shared} {a : Addr} {y : V} {o : Option V} (I : Inv X pins σ H s) (g : DG X.kw H a y o) : s.TypeIs (.ref a) "dict" := by
  rcases g with ⟨us, k, e, ey, l⟩ | ⟨k, b, e, ey, n, dp, l⟩ | ⟨xs, k, b, e, ey, n, dp, hx, l⟩
  · obtain ⟨_, _, vs, _, dd⟩ := dk_of I.hok e
    exact dd.typeIs
  · exact (dk_empty_at I e).2.typeIs
  · obtain ⟨_, _, zs, _, dd⟩ := dobj_at I e hx
    exact dd.typeIs
theorem ix_dg (hu : X.A.units + 10 < cLine) : IxR X (rDG X.kw) := by
  intro value slice pins s σ H x y v u Q I rx ry h hs
  obtain ⟨a, z, rfl, g, q⟩ := h
  cases (show v = Value.ref a from rx)
  exact tail_any (dg_typeIs I g) PySem.F.slot_dict_getitem.lookup (dg_getItem hu I g ry fun w' s' I' rw' => ⟨z, H, I', rw', q⟩) hs
theorem get_dg (hu : X.A.units + 10 < cLine) : PGet X (rDG X.kw) := by
  intro pins s σ H x y v u Q I rx ry h
  obtain ⟨a, z, rfl, g, q⟩ := h
  cases (show v = Value.ref a from rx)
  exact dg_getItem hu I g ry fun w' s' I' rw' => ⟨z, H, I', rw', q⟩
def oIx : O2 := fun x y st => match x with
  | .ref n => match dctAt st n with
    | some kvs => if keyFit kvs y then match dGet kvs y with
        | some d => .ok d st
        | none => .bad
      else .bad
    | none => oIxS x y st
  | _ => oIxS x y st
theorem dg_some {m : List Addr} {st : Store} {H : Hp} {n : Nat} {kvs : List (D × D)} {dy d : D} {vx vy : V} {E : XK} {Q : VK} (hS : SS X.kw m st H) (hk : dctAt st n = some kvs) (rx : RD X.K m H (.ref n) vx) (ry : RD X.K m H dy vy) (f : keyFit kvs dy = true) (hd : dGet kvs dy = some d)
    (hP : Pe X.kw E (RD X.K) m H (.ok d st) Q) : rDG X.kw vx vy H Q := by
  cases rx with
  | ref q =>
    obtain ⟨o, g, r⟩ := dg_of (hS.dict hk q) ry f
    rw [hd] at r
    cases o with
    | none => exact r.elim
    | some v => exact ⟨_, v, rfl, g, hP.now hS r⟩
theorem m_ix (hu : X.A.units + 65 < cLine) : IxM X W oIx := by
  obtain ⟨r, hr, h⟩ := m_ixS (X := X) (W := W)
  refine ⟨_, hr.or (ix_dg (by omega)), fun m st H dx dy x y E Q hS r1 r2 hP => ?_⟩
  unfold oIx at hP
  split at hP
  · split at hP
    · rename_i kvs hk
      split at hP
      · rename_i f
        split at hP
        · rename_i d hd
          exact .inr (dg_some hS hk r1 r2 f hd hP)
        · exact hP.elim
      · exact hP.elim
    · exact .inl (h m st H _ dy x y E Q hS r1 r2 hP)
  · exact .inl (h m st H dx dy x y E Q hS r1 r2 hP)
/-! in -/
def dIn (x y : D) (st : Store) : Option Bool := match y with
  | .ref n => match dctAt st n with
    | some kvs => if keyFit kvs x then some (dGet kvs x).isSome else none
    | none => dInS x y st
  | _ => dInS x y st
def oIn : O2 := fun x y st => match dIn x y st with
  | some b => .ok (.bl b) st
  | none => .bad
def oNotIn : O2 := fun x y st => match dIn x y st with
  | some b => .ok (.bl !b) st
  | none => .bad
theorem optR_some {K : PySem.W.Frag} {m : List Addr} {H : Hp} {o : Option D} {u : Option V} (r : OptR K m H o u) : o.isSome = u.isSome := by
  cases o <;> cases u <;> first | rfl | exact r.elim
theorem m_in (hu : X.A.units + 65 < cLine) : OpM X W (compareOp .In) oIn := fun m st σ H dx dy x y Q hS r1 r2 hP pins s v u I rx ry => by
  have old := fun hP => m_inS (W := W) hu m st σ H dx dy x y Q hS r1 r2 hP pins s v u I rx ry
  unfold oIn dIn at hP
  unfold oInS at old
  cases dy with
  | ref n =>
    simp only at hP
    cases hk : dctAt st n with
    | some kvs =>
      rw [hk] at hP
      simp only at hP
      by_cases f : keyFit kvs dx = true
      · rw [if_pos f] at hP
        cases r2 with
        | ref q =>
          obtain ⟨o, g, r⟩ := dg_of (hS.dict hk q) r1 f
          cases (show u = Value.ref _ from ry)
          refine dg_in (by omega) I g rx fun s' I' => ⟨.bl o.isSome, H, I', rfl, ?_⟩
          rw [← optR_some r]
          exact hP.now hS (.bl _)
      · rw [if_neg f] at hP
        exact hP.elim
    | none =>
      rw [hk] at hP
      exact old hP
  | _ => exact old hP
theorem m_notin (hu : X.A.units + 65 < cLine) : OpM X W (compareOp .NotIn) oNotIn := fun m st σ H dx dy x y Q hS r1 r2 hP pins s v u I rx ry => by
  have old := fun hP => m_notinS (W := W) hu m st σ H dx dy x y Q hS r1 r2 hP pins s v u I rx ry
  unfold oNotIn dIn at hP
  unfold oNotInS at old
  cases dy with
  | ref n =>
    simp only at hP
    cases hk : dctAt st n with
    | some kvs =>
      rw [hk] at hP
      simp only at hP
      by_cases f : keyFit kvs dx = true
      · rw [if_pos f] at hP
        cases r2 with
        | ref q =>
          obtain ⟨o, g, r⟩ := dg_of (hS.dict hk q) r1 f
          cases (show u = Value.ref _ from ry)
          refine dg_notIn (by omega) I g rx fun s' I' => ⟨.bl (!o.isSome), H, I', rfl, ?_⟩
          rw [← optR_some r]
          exact hP.now hS (.bl _)
      · rw [if_neg f] at hP
        exact hP.elim
    | none =>
      rw [hk] at hP
      exact old hP
  | _ => exact old hP
/-! o[i] = v -/
def rSet (K : KW) : V → V → V → Hp → (Hp → Prop) → Prop := fun o i v H Q => rSetL o i v H Q ∨ ∃ a H', o = .ref a ∧ DP K H a i v H' ∧ Q H'
theorem set_any (hu : X.A.units + 10 < cLine) : PSet X (rSet X.kw) := by
  intro pins s σ H o i v ov iv u Q I ro ri rv h
  rcases h with h | ⟨a, H', rfl, g, q⟩
  · exact set_list pins s σ H o i v ov iv u Q I ro ri rv h
  · cases (show ov = Value.ref a from ro)
    exact dg_set hu I g ri rv fun s' I' => ⟨H', I', q⟩
def oSet : D → D → D → Store → Option Store := fun o i v st => match o with
  | .ref n => match dctAt st n with
    | some kvs => if keyFit kvs i && decide (kvs.length < 16777216) then some (st.set n (.dct (dPut kvs i v))) else none
    | none => oSetS o i v st
  | _ => oSetS o i v st
theorem set_read {K : KW} {m : List Addr} {st st' : Store} {H : Hp} {o i v : D} {vo vi vv : V} (hS : SS K m st H) (ro : RD K m H o vo) (ri : RD K m H i vi) (rv : RD K m H v vv) (h : oSet o i v st = some st') :
    ∃ H', Ext K m H m H' ∧ SS K m st' H' ∧ ∀ Q : Hp → Prop, Q H' → rSet K vo vi vv H Q := by
  have old : oSetS o i v st = some st' → ∃ H', Ext K m H m H' ∧ SS K m st' H' ∧ ∀ Q : Hp → Prop, Q H' → rSet K vo vi vv H Q := fun h => by
    obtain ⟨p, xs, k, j, q1, q2, q3, q4, q5, q6⟩ := set_readS hS ro ri rv h
    exact ⟨_, q5, q6, fun Q q => .inl ⟨p, xs, k, j, q1, q2, q3, q4, q⟩⟩
  unfold oSet at h
  cases o with
  | ref n =>
    simp only at h
    cases hk : dctAt st n with
    | some kvs =>
      rw [hk] at h
      simp only at h
      by_cases f : (keyFit kvs i && decide (kvs.length < 16777216)) = true
      · rw [if_pos f] at h
        cases h
        rw [Bool.and_eq_true, decide_eq_true_eq] at f
        cases ro with
        | ref q =>
          obtain ⟨H', g, e, s⟩ := dp_of hS hk q ri rv f.1 f.2
          exact ⟨H', e, s, fun Q z => .inr ⟨_, H', rfl, g, z⟩⟩
      · rw [if_neg f] at h
        cases h
    | none =>
      rw [hk] at h
      exact old h
  | _ => exact old h
def sSub (fo fi fe : EM D) : SM := fun τ st => bindE (fe τ st) τ fun v s1 => bindE (fo τ s1) τ fun o s2 => bindE (fi τ s2) τ fun i s3 => match oSet o i v s3 with
  | some s4 => .nx τ s4
  | none => .bad
theorem sx_sub {o i : Expr} {p' : Pos} {fo fi : EM D} (hu : X.A.units + 65 < cLine) (he : Ex X W e fe) (ho : Ex X W o fo) (hi : Ex X W i fi)
    (ha : ∀ v, assign (.Subscript o i p') X.env v = (do
      let ov ← holding [v] (eval o X.env)
      let iv ← holding [v, ov] (eval i X.env)
      standAt p'
      holding [v, ov, iv] (setItem ov iv v)
      release [v, ov, iv] []) := by intro _; rfl)
    (hs : swapsWithSole [.Subscript o i p'] e pos.line X.env = pure false := by rfl) (hw : swappedStores [.Subscript o i p'] e X.env = pure none := by rfl) (h1 : (assignEach [.Subscript o i p'] X.env).map (·.2) = [assign (.Subscript o i p') X.env] := by rfl) : Sx X W (.Assign [.Subscript o i p'] e pos) (sSub fo fi fe) := by
  refine ⟨fun m τ s σ H D hL hS hP pins sh I => (ps_asg peW (pg_sub peW peW (set_any (by omega)) ha) hs hw h1).run pins sh σ H D I ?_⟩
  refine he.run m τ s σ H _ hL hS (hP.bind hL fun v s1 m1 H1 vv e1 hS1 r1 hP1 => ?_)
  refine ho.run m1 τ s1 σ H1 _ (hL.mono e1) hS1 (hP1.bind (hL.mono e1) fun o s2 m2 H2 vo e2 hS2 r2 hP2 => ?_)
  refine hi.run m2 τ s2 σ H2 _ ((hL.mono e1).mono e2) hS2 (hP2.bind ((hL.mono e1).mono e2) fun i s3 m3 H3 vi e3 hS3 r3 hP3 => ?_)
  split at hP3
  · rename_i s4 h4
    obtain ⟨H4, q5, q6, q7⟩ := set_read hS3 (r2.mono e3) r3 ((r1.mono e2).mono e3) h4
    exact q7 _ (hP3 m3 _ σ q5 q6 ((((hL.mono e1).mono e2).mono e3).mono q5))
  · exact hP3.elim
/-! o[i] op= e -/
def oGetL : O2 := fun x i st => match x with
  | .ref n => match dctAt st n with
    | some kvs => if keyFit kvs i then match dGet kvs i with
        | some d => .ok d st
        | none => .bad
      else .bad
    | none => oGetLS x i st
  | _ => oGetLS x i st
def sAugS (o : O2) (fo fi fe : EM D) : SM := fun τ st => bindE (fo τ st) τ fun x s1 => bindE (fi τ s1) τ fun i s2 => bindE (oGetL x i s2) τ fun y s3 => bindE (fe τ s3) τ fun z s4 => bindE (o y z s4) τ fun v s5 => match oSet x i v s5 with
  | some s6 => .nx τ s6
  | none => .bad
def rGet (K : KW) : R2 := fun x y H Q => rIxL K x y H Q ∨ rDG K x y H Q
theorem get_any (hu : X.A.units + 10 < cLine) : PGet X (rGet X.kw) := by
  intro pins s σ H x y v u Q I rx ry h
  rcases h with h | h
  · exact get_list pins s σ H x y v u Q I rx ry h
  · exact get_dg hu pins s σ H x y v u Q I rx ry h
theorem getL_read {m : List Addr} {st : Store} {H : Hp} {x i : D} {vx vi : V} {E : XK} {Q : VK} (hS : SS X.kw m st H) (rx : RD X.K m H x vx) (ri : RD X.K m H i vi) (h : Pe X.kw E (RD X.K) m H (oGetL x i st) Q) : rGet X.kw vx vi H Q := by
  unfold oGetL at h
  split at h
  · split at h
    · rename_i kvs hk
      split at h
      · rename_i f
        split at h
        · rename_i d hd
          exact .inr (dg_some hS hk rx ri f hd h)
        · exact h.elim
      · exact h.elim
    · exact .inl (getL_readS hS rx ri h)
  · exact .inl (getL_readS hS rx ri h)
end
section
variable {X : Cx} {W : WX} {e o a b c : Expr} {es : List Expr} {pos p : Pos} {f fo fa fb fe fi : EM D} {fs : EM (List D)}
theorem sx_augS {o i : Expr} {p' : Pos} {fo fi : EM D} {op : Operator} {op2 : O2} (hu : X.A.units + 65 < cLine) (ho : Ex X W o fo) (hi : Ex X W i fi) (he : Ex X W e fe) (hop : OpM X W (inplaceOp op) op2)
    (ha : ∀ ov iv new, augStore i ov iv new = (do holding [new, ov, iv] (setItem ov iv new); release [new, ov, iv] []; pure .next) := by intros; rfl) : Sx X W (.AugAssign (.Subscript o i p') op e pos) (sAugS op2 fo fi fe) := by
  refine ⟨fun m τ s σ H D hL hS hP pins sh I => ?_⟩
  have read : wE X o σ H fun vo H1 => wE X i σ H1 fun vi H2 => rGet X.kw vo vi H2 fun vy H3 => wE X e σ H3 fun vz H4 => wR2 X (inplaceOp op) σ vy vz H4 fun vv H5 => rSet X.kw vo vi vv H5 fun H6 => D.nx σ H6 := by
    refine ho.run m τ s σ H _ hL hS (hP.bind hL fun dx s1 m1 H1 vx e1 hS1 r1 hP1 => ?_)
    have hL1 := hL.mono e1
    refine hi.run m1 τ s1 σ H1 _ hL1 hS1 (hP1.bind hL1 fun di s2 m2 H2 vi e2 hS2 r2 hP2 => ?_)
    have hL2 := hL1.mono e2
    refine getL_read hS2 (r1.mono e2) r2 (hP2.bind hL2 fun dy s3 m3 H3 vy e3 hS3 r3 hP3 => ?_)
    have hL3 := hL2.mono e3
    refine he.run m3 τ s3 σ H3 _ hL3 hS3 (hP3.bind hL3 fun dz s4 m4 H4 vz e4 hS4 r4 hP4 => ?_)
    have hL4 := hL3.mono e4
    intro pins s v u I rv ru
    refine hop m4 s4 σ H4 dy dz vy vz _ hS4 (r3.mono e4) r4 (hP4.bind hL4 fun dv s5 m5 H5 vv e5 hS5 r5 hP5 => ?_) pins s v u I rv ru
    have hL5 := hL4.mono e5
    split at hP5
    · rename_i s6 h6
      have e25 := ((e3.trans e4).trans e5)
      obtain ⟨H6, q5, q6, q7⟩ := set_read hS5 ((r1.mono e2).mono e25) (r2.mono e25) r5 h6
      exact q7 _ (hP5 m5 _ σ q5 q6 (hL5.mono q5))
    · exact hP5.elim
  refine wpAny_AugAssign_SubscriptAny (thn (read pins sh I) fun ov s1 ⟨x1, H1, I1, r1, q1⟩ => ?_) ha
  refine thn (q1 pins s1 I1) fun iv s2 ⟨x2, H2, I2, r2, q2⟩ => ?_
  refine thn (get_any (by omega) pins s2 σ H2 x1 x2 ov iv _ I2 r1 r2 q2) fun old s3 ⟨x3, H3, I3, r3, q3⟩ => ?_
  refine thn (q3 pins s3 I3) fun v s4 ⟨x4, H4, I4, r4, q4⟩ => ?_
  refine thn (q4 pins s4 old v I4 r3 r4) fun new s5 ⟨x5, H5, I5, r5, q5⟩ => ?_
  exact thn (set_any (by omega) pins s5 σ H5 x1 x2 x5 ov iv new _ I5 r1 r2 r5 q5) fun _ s6 ⟨H6, I6, q6⟩ => ⟨σ, H6, I6, q6⟩
/-! len -/
/-- it is a dict with so many entries -/
def IsDG (K : KW) (H : Hp) (a : Addr) (n : Nat) : Prop := (∃ us, H a = some (.dK us) ∧ us.length = n) ∨ ∃ xs, H a = some (.ext (DObj K.w a xs)) ∧ (∀ x ∈ xs, NV K H x.1 (.ref x.2.1) ∧ x.1.depth ≤ 8) ∧ xs.length = n
theorem isDG_of {K : KW} {m : List Addr} {st : Store} {H : Hp} {n : Nat} {kvs : List (D × D)} {v : V} (hS : SS K m st H) (hk : dctAt st n = some kvs) (r : RD K m H (.ref n) v) : ∃ a, v = .ref a ∧ IsDG K H a kvs.length := by
  cases r with
  | ref q =>
    rcases hS.dict hk q with ⟨us, e, r⟩ | ⟨xs, e, ne, r⟩
    · exact ⟨_, rfl, .inl ⟨us, e, (Paired.length r).symm⟩⟩
    · exact ⟨_, rfl, .inr ⟨xs, e, keys2 r, (Paired.length r).symm⟩⟩
theorem call_len_dg : CallR X (.builtin "len") (fun xs H Q => ∃ a n, xs = [.ref a] ∧ IsDG X.kw H a n ∧ Q (.int (n : Nat)) H) := by
  intro pins s σ H xs us Q I r h
  obtain ⟨a, n, rfl, g, q⟩ := h
  obtain ⟨u, rfl, rx⟩ := vals1 r
  cases (show u = Value.ref a from rx)
  rcases g with ⟨us, e, rfl⟩ | ⟨xs, e, hx, rfl⟩
  · exact d_len I (.inl e) fun t s' I' => ⟨.int us.length, H, I', ⟨t, rfl⟩, q⟩
  · obtain ⟨hd, hz, zs, rel, dd⟩ := dobj_at I e hx
    have hl : xs.length = zs.length := Paired.length rel
    refine call_len_dictH hd dd (by rw [← hl]; rw [sizeLine_eq] at hz; omega) ?_
    rw [hl] at q
    exact ⟨.int zs.length, H, I.tok _, ⟨_, rfl⟩, q⟩
def fLen : FM := fun ds st => match ds with
  | [.ref n] => match dctAt st n with
    | some kvs => .ok (.int kvs.length) st
    | none => fLenS ds st
  | _ => fLenS ds st
theorem c_len : CallM X (.builtin "len") fLen := by
  obtain ⟨r, hr, h⟩ := c_lenS (X := X)
  refine ⟨_, hr.or call_len_dg, fun m st H ds vs E Q hS rs hP => ?_⟩
  unfold fLen at hP
  split at hP
  · split at hP
    · rename_i kvs hk
      obtain ⟨v, rfl, r1⟩ := rs.one
      obtain ⟨a, rfl, g⟩ := isDG_of hS hk r1
      exact .inr ⟨a, _, rfl, g, hP.now hS (.int _)⟩
    · exact .inl (h m st H _ vs E Q hS rs hP)
  · exact .inl (h m st H _ vs E Q hS rs hP)
/-! d.get(k), d.get(k, x) -/
theorem isDG_at {pins : List (Addr × Obj)} {σ : L2.St} {H : Hp} {s : Shared} {a : Addr} {n : Nat} (I : Inv X pins σ H s) (g : IsDG X.kw H a n) : s.TypeIs (.ref a) "dict" ∧ ∀ b, Value.ref a = .ref b → ∃ ob, s.heap.get? b = some ob ∧ ob.dict = none := by
  rcases g with ⟨us, e, rfl⟩ | ⟨xs, e, hx, rfl⟩
  · obtain ⟨_, hd, vs, _, dd⟩ := dk_of I.hok e
    refine ⟨dd.typeIs, fun b q => ?_⟩
    cases q
    obtain ⟨ob, _, _, h1, h2, _⟩ := dd
    exact ⟨ob, h1, h2.2.1⟩
  · obtain ⟨_, _, zs, _, dd⟩ := dobj_at I e hx
    refine ⟨dd.typeIs, fun b q => ?_⟩
    cases q
    obtain ⟨ob, _, _, h1, h2, _⟩ := dd
    exact ⟨ob, h1, h2.2.1⟩
def isDct (st : Store) (d : D) : Bool := match d with
  | .ref n => (dctAt st n).isSome
  | _ => false
def oDGet (d k x : D) (st : Store) : ER D := match d with
  | .ref n => match dctAt st n with
    | some kvs => if keyFit kvs k then .ok ((dGet kvs k).getD x) st else .bad
    | none => .bad
  | _ => .bad
def eGet2 (fo fa fb : EM D) : EM D := fun τ st => (fo τ st).bind fun d s1 => if isDct s1 d then (fa τ s1).bind fun k s2 => (fb τ s2).bind fun x s3 => oDGet d k x s3 else .bad
def eGet1 (fo fa : EM D) : EM D := fun τ st => (fo τ st).bind fun d s1 => if isDct s1 d then (fa τ s1).bind fun k s2 => oDGet d k .non s2 else .bad
theorem isDct_of {m : List Addr} {st : Store} {H : Hp} {d : D} {v : V} (hS : SS X.kw m st H) (h : isDct st d = true) (r : RD X.K m H d v) : ∃ a n, v = .ref a ∧ IsDG X.kw H a n := by
  unfold isDct at h
  split at h
  · obtain ⟨kvs, hk⟩ := Option.isSome_iff_exists.mp h
    obtain ⟨a, e, g⟩ := isDG_of hS hk r
    exact ⟨a, _, e, g⟩
  · cases h
theorem oDGet_of {m : List Addr} {st : Store} {H : Hp} {d k x : D} {v y z : V} {E : XK} {Q : VK} (hS : SS X.kw m st H) (r : RD X.K m H d v) (rk : RD X.K m H k y) (rx : RD X.K m H x z) (hP : Pe X.kw E (RD X.K) m H (oDGet d k x st) Q) : ∃ a o, v = .ref a ∧ DG X.kw H a y o ∧ Q (o.getD z) H := by
  unfold oDGet at hP
  split at hP
  · split at hP
    · rename_i kvs hk
      split at hP
      · rename_i f
        cases r with
        | ref q =>
          obtain ⟨o, g, ro⟩ := dg_of (hS.dict hk q) rk f
          refine ⟨_, o, rfl, g, hP.now hS ?_⟩
          cases h1 : dGet kvs k <;> cases h2 : o <;> rw [h1, h2] at ro <;> first | exact rx | exact ro | exact ro.elim
      · exact hP.elim
    · exact hP.elim
  · exact hP.elim
theorem ex_get2 {apos cpos : Pos} (hu : X.A.units + 65 < cLine) (ho : Ex X W o fo) (ha : Ex X W a fa) (hb : Ex X W b fb) (m : M2 X o "get" apos a b cpos) : Ex X W (.Call (.Attribute o "get" apos) [a, b] [] cpos) (eGet2 fo fa fb) := by
  refine ⟨fun m0 τ st σ H Q hL hS hP pins s I => ?_⟩
  have read : wE X o σ H fun vo H1 => ∃ p n, vo = .ref p ∧ IsDG X.kw H1 p n ∧ wE X a σ H1 fun y H2 => wE X b σ H2 fun z H3 => ∃ q, DG X.kw H3 p y q ∧ Q (q.getD z) H3 := by
    refine ho.run m0 τ st σ H _ hL hS (hP.bind fun d s1 m1 H1 v e1 hS1 r1 hP1 => ?_)
    split at hP1
    · rename_i hk
      obtain ⟨p, n, rfl, g⟩ := isDct_of hS1 hk r1
      refine ⟨p, n, rfl, g, ha.run m1 τ s1 σ H1 _ (hL.mono e1) hS1 (hP1.bind fun k s2 m2 H2 y e2 hS2 r2 hP2 => ?_)⟩
      refine hb.run m2 τ s2 σ H2 _ ((hL.mono e1).mono e2) hS2 (hP2.bind fun x s3 m3 H3 z e3 hS3 r3 hP3 => ?_)
      obtain ⟨p', q, e, g', hq⟩ := oDGet_of hS3 ((r1.mono e2).mono e3) (r2.mono e3) r3 hP3
      cases e
      exact ⟨q, g', hq⟩
    · exact hP1.elim
  refine wpAny_Call_method m.base m.few m.line PySem.F.plainAttrs_dict PySem.F.slot_dict_get PySem.F.type_dict_get (thn (read pins s I) fun u s1 ⟨x, H1, I1, rx, p, n, ex, g, q1⟩ => ?_)
  subst ex
  obtain rfl : u = Value.ref p := rx
  obtain ⟨t1, t2⟩ := isDG_at I1 g
  refine ⟨t1, t2, ?_⟩
  rw [m.trees]
  refine Calls.callWith_builtin rfl (Calls.evalArgs_plain (Calls.spliced_cons (thn (q1 pins s1 I1) fun iv s2 ⟨y, H2, I2, ry, q2⟩ =>
    Calls.spliced_cons (thn (q2 pins s2 I2) fun fv s3 ⟨z, H3, I3, rz, ov, g3, q3⟩ => Calls.spliced_nil ?_))))
  exact dg_get2 (by omega) I3 g3 ry rz fun w' s4 I4 rw' => ⟨_, H3, I4, rw', q3⟩
theorem ex_get1 {apos cpos : Pos} (hu : X.A.units + 65 < cLine) (ho : Ex X W o fo) (ha : Ex X W a fa) (m : M1 X o "get" apos a cpos) : Ex X W (.Call (.Attribute o "get" apos) [a] [] cpos) (eGet1 fo fa) := by
  refine ⟨fun m0 τ st σ H Q hL hS hP pins s I => ?_⟩
  have read : wE X o σ H fun vo H1 => ∃ p n, vo = .ref p ∧ IsDG X.kw H1 p n ∧ wE X a σ H1 fun y H2 => ∃ q, DG X.kw H2 p y q ∧ Q (q.getD .non) H2 := by
    refine ho.run m0 τ st σ H _ hL hS (hP.bind fun d s1 m1 H1 v e1 hS1 r1 hP1 => ?_)
    split at hP1
    · rename_i hk
      obtain ⟨p, n, rfl, g⟩ := isDct_of hS1 hk r1
      refine ⟨p, n, rfl, g, ha.run m1 τ s1 σ H1 _ (hL.mono e1) hS1 (hP1.bind fun k s2 m2 H2 y e2 hS2 r2 hP2 => ?_)⟩
      obtain ⟨p', q, e, g', hq⟩ := oDGet_of hS2 (r1.mono e2) r2 .non hP2
      cases e
      exact ⟨q, g', hq⟩
    · exact hP1.elim
  refine wpAny_Call_method m.base m.few m.line PySem.F.plainAttrs_dict PySem.F.slot_dict_get PySem.F.type_dict_get (thn (read pins s I) fun u s1 ⟨x, H1, I1, rx, p, n, ex, g, q1⟩ => ?_)
  subst ex
  obtain rfl : u = Value.ref p := rx
  obtain ⟨t1, t2⟩ := isDG_at I1 g
  refine ⟨t1, t2, ?_⟩
  rw [m.trees]
  refine Calls.callWith_builtin rfl (Calls.evalArgs_plain (Calls.spliced_cons (thn (q1 pins s1 I1) fun iv s2 ⟨y, H2, I2, ry, ov, g3, q3⟩ => Calls.spliced_nil ?_)))
  exact dg_get1 (by omega) I2 g3 ry fun w' s4 I4 rw' => ⟨_, H2, I4, rw', q3⟩
end
end HM

/-! HM, part O: sorting tuples of which some are empty. -/
namespace HM
open PySem PySem.Calls PySem.Spec PyProof.Rows PySem.W PySem.SeqAt
section
variable {prog : Program} {w : World} {A : Around} {E : Value → Shared → Prop} {s : Shared}
theorem call_tuple_lt {Q : Value → Shared → Prop} {l b : Addr} {items items2 : Array Value} {e r : Nat → Bool} (hl : s.heap.IsTuple l items) (hb : s.heap.IsTuple b items2)
    (he : ∀ j (h1 : j < items.size) (h2 : j < items2.size), EqAt A.in1 s items[j] items2[j] (e j)) (hr : ∀ j (h1 : j < items.size) (h2 : j < items2.size), e j = false → RcLt A.in1 s items[j] items2[j] (r j))
    (h : Q (.bool (firstLt e r (decide (items.size < items2.size)) (List.range (min items.size items2.size)))) s) : wpAny (model prog w) A (call (.builtin "tuple.__lt__") [.ref l, .ref b]) Q E s := by
  obtain ⟨⟨cls, dd, data, sl⟩, ho, hc, n, hd⟩ := id hl
  obtain ⟨⟨cls2, dd2, data2, sl2⟩, ho2, hc2, n2, hd2⟩ := id hb
  simp only at hc hd hc2 hd2
  subst hc hd hc2 hd2
  exact call_meets PySem.F.slot_tuple_lt ⟨_, ho, rfl⟩ PySem.F.entry_tuple_lt (PySem.F.args_tuple_lt_2 _ _) (PySem.SeqAt.tuple_ltAt l b items items2 n n2 dd dd2 sl sl2 e r) ⟨ho, ho2, he, hr, h⟩
theorem oneLt_tup {xs ys : List PyData} {a b : Value} {as bs : List Addr} {Q : Bool → Shared → Prop} (f : Bool) (ra : PySem.Reads s.heap a (.tuple xs) as) (rb : PySem.Reads s.heap b (.tuple ys) bs) (h : alike (.tuple xs) (.tuple ys) = true)
    (hu : A.units + min (PyData.tuple xs).depth (PyData.tuple ys).depth < cLine) (hq : Q (dataLt (.tuple xs) (.tuple ys)) s) : wpAny (model prog w) A (oneLt' f a b) Q E s := by
  cases f with
  | false =>
    rw [oneLt'_eq]
    simp only [Bool.false_eq_true, if_false]
    exact wpAny_bind (rcLt_alike _ _ A s a b as bs ra rb h (by simp) hu prog w E _ (wpAny_truthy_bool hq))
  | true =>
    have hal : alikeAll xs ys = true := by simpa [alike] using h
    cases ra with
    | @tuple l o vs n _ as₁ h1 h2 h3 h4 =>
      cases rb with
      | @tuple l' o' vs' n' _ bs₁ k1 k2 k3 k4 =>
        have n1 : vs.size = xs.length := by simpa using ReadsAll.length _ _ _ h4
        have n2 : vs'.size = ys.length := by simpa using ReadsAll.length _ _ _ k4
        rw [dataLt_tuple, ← firstLt_toks xs ys hal, ← n1, ← n2] at hq
        rw [oneLt'_eq]
        simp only [if_true]
        refine wpAny_bind (wpAny_cRoomFor (room_here hu) ?_)
        refine wpAny_bind (wpAny_callSpecialIfBound?_slot (T := "tuple") ⟨_, h1, h2⟩ PySem.F.slot_tuple_lt (call_tuple_lt (e := pairEq xs ys) (r := fun j => dataLt (xs.getD j .none) (ys.getD j .none)) ⟨_, h1, h2, _, h3⟩ ⟨_, k1, k2, _, k3⟩ (fun j j1 j2 => ?_) (fun j j1 j2 hj => ?_) ?_))
        · have := eqAt_alikeAll xs ys A.in1 s vs.toList vs'.toList _ _ h4 k4 hal (room_in hu) j (by simpa using j1) (by simpa using j2)
          simpa using this
        · have := rcLt_alikeAll xs ys A.in1 s vs.toList vs'.toList _ _ h4 k4 hal (room_in hu) j (by simpa using j1) (by simpa using j2) hj
          simpa using this
        · exact wpAny_truthy_bool hq
/-- the firsts of tuples -/
theorem firsts_tup : ∀ {vs : List Value} {ds : List PyData} {Q : List (Option Value) → Shared → Prop}, EachIs (fun v d => ∃ as, PySem.Reads s.heap v d as) vs ds → (∀ d, d ∈ ds → ∃ r, d = PyData.tuple r) →
    (∀ fs : List (Option Value), fs.length = vs.length → (∀ i : Nat, (fs[i]?.bind id).isSome = true ↔ ∃ (x : PyData) (r : List PyData), ds[i]? = some (PyData.tuple (x :: r))) → Q fs s) → wpAny (model prog w) A (vs.mapM firstOfTuple') Q E s
  | [], [], Q, .nil, _, h => by
    rw [List.mapM_nil]
    exact wpAny_pure (h [] rfl fun i => by simp)
  | v :: vs, d :: ds, Q, .cons ⟨as, r⟩ t, ht, h => by
    obtain ⟨xs, rfl⟩ := ht d (List.mem_cons_self ..)
    rw [List.mapM_cons]
    cases r with
    | @tuple a o its n _ _ ho hc hd hr =>
      refine wpAny_bind ?_
      rw [kas_first_eq]
      refine wpAny_bind (Looks.here (show Looks (model prog w) s.heap (typeOf (.ref a)) o.cls from (Looks.ld ho).andThen .now) ?_)
      rw [hc, if_neg (by first | decide | simp)]
      refine wpAny_bind (listItems_at ho hd (wpAny_pure ?_))
      refine wpAny_bind (firsts_tup t (fun d hd => ht d (List.mem_cons_of_mem _ hd)) fun fs h1 h2 => wpAny_pure (h _ (by simp [h1]) fun i => ?_))
      cases i with
      | zero =>
        have hl := SeqAt.ReadsAll.length _ _ _ hr
        cases xs with
        | nil =>
          have : its.size = 0 := by simpa using hl
          simp [this]
        | cons x r =>
          have : 0 < its.size := by
            have : its.size = r.length + 1 := by simpa using hl
            omega
          simp [this]
      | succ i => simpa using h2 i
theorem fst_of {fs : List (Option Value)} (h : fs.all (·.isSome) = false) : ∃ i, (fs[i]?.bind id).isSome = false ∧ i < fs.length := by
  induction fs with
  | nil => simp at h
  | cons f fs ih =>
    cases hf : f.isSome with
    | false => exact ⟨0, by simpa using hf, by simp⟩
    | true =>
      rw [List.all_cons, hf, Bool.true_and] at h
      obtain ⟨i, h1, h2⟩ := ih h
      exact ⟨i + 1, by simpa using h1, by simpa using h2⟩
/-- tuples of which some are empty -/
theorem SortsAt_tups {vs : List Value} {ds : List PyData} (e : EachIs (fun v d => ∃ as, PySem.Reads s.heap v d as) vs ds) (hal : AllAlike ds) (hk : ∀ d, d ∈ ds → ∃ r, d = .tuple r) (h0 : PyData.tuple [] ∈ ds) (hu : ∀ d, d ∈ ds → A.units + d.depth < cLine) : SortsAt prog w A s (dataKind s.heap ds) vs := by
  have room : ∀ {d d' : PyData}, d ∈ ds → A.units + min d.depth d'.depth < cLine := fun {d d'} hd => Nat.lt_of_le_of_lt (Nat.add_le_add_left (Nat.min_le_left _ _) _) (hu d hd)
  have lt : ∀ (f : Bool) (E : Value → Shared → Prop) (x y : Value) (a b : (dataKind s.heap ds).α) (Q : Bool → Shared → Prop), (dataKind s.heap ds).keyOf x = some a → (dataKind s.heap ds).keyOf y = some b → Q ((dataKind s.heap ds).blt a b) s → wpAny (model prog w) A (oneLt' f x y) Q E s := fun f E x y a b Q ha hb hq => by
    obtain ⟨d, as, hd, ra, rfl⟩ := dataKind_inv ha
    obtain ⟨d', as', hd', rb, rfl⟩ := dataKind_inv hb
    obtain ⟨r1, rfl⟩ := hk d hd
    obtain ⟨r2, rfl⟩ := hk d' hd'
    exact oneLt_tup f ra rb (hal _ hd _ hd') (room hd) hq
  refine ⟨fun v hv => ?_, ?_⟩
  · obtain ⟨d, hd, as, r⟩ := e.left v hv
    exact ⟨_, dataKind_some hal hd r⟩
  · cases ds with
    | nil => cases h0
    | cons d₀ ds₀ =>
      obtain ⟨r₀, rfl⟩ := hk d₀ (List.mem_cons_self ..)
      have kinds : ∀ (E : Value → Shared → Prop) {Q : SortKind → Shared → Prop}, Q (if r₀ = [] then oneType' else general') s → wpAny (model prog w) A (keyKind' vs.toArray) Q E s := fun E Q hq => by
        rw [keyKind'_eq, List.mapM_toArray, map_eq_pure_bind]
        refine wpAny_bind (wpAny_bind (firsts_tup e hk fun fs h1 h2 => wpAny_pure ?_))
        have hz : fs.all (·.isSome) = false := by
          obtain ⟨i, hi⟩ := List.getElem?_of_mem h0
          cases hq : fs.all (·.isSome) with
          | false => rfl
          | true =>
            rw [List.all_eq_true] at hq
            have hn : ¬ (fs[i]?.bind id).isSome = true := by
              rw [h2 i, hi]
              rintro ⟨x, r, h⟩
              cases h
            have hil : i < fs.length := by
              rw [h1, e.length]
              exact (List.getElem?_eq_some_iff.mp hi).1
            have := hq fs[i] (List.getElem_mem hil)
            rw [List.getElem?_eq_getElem hil] at hn
            exact absurd this hn
        rw [if_neg (by simpa using hz)]
        have hf := h2 0
        simp only [List.getElem?_cons_zero, Option.some.injEq, PyData.tuple.injEq] at hf
        cases r₀ with
        | cons x r =>
          have hf : (fs[0]?.bind id).isSome = true := hf.mpr ⟨x, r, rfl⟩
          rw [if_pos (by simpa using hf)]
          rw [if_neg (by simp)] at hq
          exact wpAny_pure hq
        | nil =>
          have hf : ¬ (fs[0]?.bind id).isSome = true := fun h => by
            obtain ⟨x, r, h⟩ := hf.mp h
            cases h
          rw [if_neg (by simpa using hf)]
          rw [if_pos rfl] at hq
          rw [oneTypeOnly'_eq, List.mapM_toArray, map_eq_pure_bind]
          refine wpAny_bind (wpAny_bind (wpAny_bind (kas_mapM (r := Value.type "tuple") _ (fun v hv Q' hq => ?_) (wpAny_pure ?_))))
          · obtain ⟨d, hd, as, r⟩ := e.left v hv
            obtain ⟨xs, rfl⟩ := hk d hd
            exact (looks_reads r).here hq
          · have hall : ((List.map (fun _ => Value.type "tuple") vs).toArray.all fun x => x == Value.type "tuple") = true := by
              simp only [List.all_toArray, List.all_map, List.all_eq_true]
              intro _ _
              rfl
            cases vs with
            | nil => cases e
            | cons v vs =>
              have h0 : (List.map (fun _ => Value.type "tuple") (v :: vs)).toArray[0]? = some (Value.type "tuple") := by simp
              rw [h0]
              simp only [hall, if_true]
              exact wpAny_pure (wpAny_pure hq)
      by_cases hr : r₀ = []
      · rw [if_pos hr] at kinds
        exact ⟨oneType', fun E x y a b Q ha hb hq => by rw [keyLt'_oneType]; exact lt true E x y a b Q ha hb hq, fun _ E Q hq => kinds E hq⟩
      · rw [if_neg hr] at kinds
        exact ⟨general', fun E x y a b Q ha hb hq => lt false E x y a b Q ha hb hq, fun _ E Q hq => kinds E hq⟩
/-- what can be sorted: data of one kind, or tuples -/
def Sortable2 (ds : List PyData) : Prop := Sortable ds ∨ ((∀ d, d ∈ ds → ∃ r, d = PyData.tuple r) ∧ PyData.tuple [] ∈ ds)
theorem SortsAt_data2 {vs : List Value} {ds : List PyData} (e : EachIs (fun v d => ∃ as, PySem.Reads s.heap v d as) vs ds) (hal : AllAlike ds) (hk : Sortable2 ds) (hu : ∀ d, d ∈ ds → A.units + d.depth < cLine) : SortsAt prog w A s (dataKind s.heap ds) vs := by
  rcases hk with hk | ⟨hk, h0⟩
  · exact SortsAt.data e hal hk hu
  · exact SortsAt_tups e hal hk h0 hu
theorem bound_map2 {β : Type} {bs : List β} {enc : β → PyData} (hu : ∀ b, b ∈ bs → A.units + 2 + (enc b).depth < cLine) : ∀ d, d ∈ bs.map enc → A.in1.in1.units + d.depth < cLine := by
  intro d hd
  obtain ⟨b, hb, rfl⟩ := List.mem_map.mp hd
  exact hu b hb
/-- sorted(xs) -/
theorem sorted_data2 {β : Type} {R : Value → β → Prop} {enc : β → PyData} {bs : List β} {vs : List Value} {l : Addr} {Q : Value → Shared → Prop} (hl : s.heap.IsList l vs.toArray) (e : EachIs R vs bs) (er : EachIs (fun v b => ∃ as, PySem.Reads s.heap v (enc b) as) vs bs) (hal : AllAlike (bs.map enc)) (hk : Sortable2 (bs.map enc)) (hL : bs.length ≤ sizeLine)
    (hu : ∀ b, b ∈ bs → A.units + 2 + (enc b).depth < cLine) (h : ∀ out, out.length = bs.length → EachIs R out (bs.mergeSort (dataLe false enc)) → Q (.ref (s.heap.objs.size + 1)) { s with heap := PyProof.Rows.sortedAll s.heap vs (List.toArray out) }) :
    wpAny (model prog w) A (call (.builtin "sorted") [.ref l]) Q E s := by
  have er' : EachIs (fun v b => ∃ as, PySem.Reads (sortingHeap (copyHeap s.heap vs) (s.heap.objs.size + 1) vs) v (enc b) as) vs bs := er.mono fun _ _ ⟨as, r⟩ => ⟨as, PyProof.Rows.Reads.keeps (fun _ _ => sorting_copy_old) r⟩
  exact sorted_vals hl (SortsAt_data2 (s := { s with heap := sortingHeap (copyHeap s.heap vs) (s.heap.objs.size + 1) vs }) (each_map (R := fun v d => ∃ as, PySem.Reads (sortingHeap (copyHeap s.heap vs) (s.heap.objs.size + 1) vs) v d as) enc er') hal hk (bound_map2 hu)) (by rw [e.length]; exact hL)
    (h _ (by rw [sortVals_length false rfl]; exact e.length) (sortVals_data false e er' hal))
end
end HM

/-! HM, part E: order, sorted, places. -/
namespace HM
open PySem PySem.Spec PyProof.Rows L2
section
variable {X : Cx} {W : WX} {e o a b c : Expr} {es : List Expr} {pos p : Pos} {f fo fa fb : EM D} {fs : EM (List D)}
/-! ### < -/
def D.isTup (d : D) : Bool := match d with
  | .tup _ => true
  | _ => false
def dLt (x y : D) : Option Bool := if x.isTup && x.plain 60 && y.plain 60 && PySem.W.alike (x.toP 60) (y.toP 60) then some (PySem.W.dataLt (x.toP 60) (y.toP 60)) else none
def oLt : O2 := fun x y st => match x, y with
  | .int i, .int j => .ok (.bl (decide (i < j))) st
  | x, y => match dLt x y with
    | some b => .ok (.bl b) st
    | none => .bad
theorem toP_tup {x : D} (h : x.isTup = true) : x.toP 60 ≠ .none := by
  cases x <;> simp [D.isTup] at h <;> simp [D.toP]
theorem m_lt (hu : X.A.units + 65 < cLine) : OpM X W (compareOp .Lt) oLt := fun m st σ H dx dy x y Q hS r1 r2 hP pins s v u I rx ry => by
  unfold oLt at hP
  split at hP
  · exact m_ltI (W := W) m st σ H _ _ x y Q hS r1 r2 hP pins s v u I rx ry
  · split at hP
    · rename_i b hb
      unfold dLt at hb
      split at hb
      · rename_i hc
        cases hb
        simp only [Bool.and_eq_true] at hc
        obtain ⟨⟨⟨h1, h2⟩, h3⟩, h4⟩ := hc
        obtain ⟨a1, a2, a3⟩ := plain_dp 60 dx x h2 r1
        obtain ⟨b1, b2, b3⟩ := plain_dp 60 dy y h3 r2
        obtain ⟨as, ra⟩ := Dp.reads I _ x v a1 rx
        obtain ⟨bs, rb⟩ := Dp.reads I _ y u b1 ry
        exact PySem.W.lt_data ra rb h4 (toP_tup h1) (by omega) ⟨.bl _, H, I, rfl, hP.now hS (.bl _)⟩
      · cases hb
    · exact hP.elim
end

/-! ### sorted -/
section
open PySem.W PySem.Calls
variable {prog : Program} {w : World} {A : Around} {E : Value → Shared → Prop} {s : Shared}
theorem collect_tup {l : Addr} {vs : List Value} {Q : List Value → Shared → Prop} (hl : PyProof.Rows.IsTup s.heap l vs.toArray)
    (h : Q vs { s with heap := (s.heap.push (seqObj "list" #[] 0)).update s.heap.objs.size (Obj.mapSeq (· ++ vs.toArray)) }) (hsz : vs.length ≤ sizeLine) :
    wpAny (model prog w) A (collect (.ref l)) Q E s := by
  obtain ⟨o, ho, hc, n, hd⟩ := id hl
  unfold collect
  refine wpAny_bind (wpAny_runValue (codeAny_builtin entry_proto_collect' ?_))
  show wpAny _ _ (do again (.builtin "list.__iadd__" ⟨[← newList [], .ref l], []⟩)) _ _ s
  refine wpAny_bind (wpAny_newList (wpAny_pure ⟨Code.quiet_builtin _ (by decide +kernel), codeAny_builtin entry_list_iadd' ?_⟩))
  show wpAny _ _ (Builtin.List.listExtendWith (.ref s.heap.objs.size) (.ref l) (.ref s.heap.objs.size)) _ _ { s with heap := s.heap.push (seqObj "list" #[] 0) }
  unfold Builtin.List.listExtendWith
  have ho' : (s.heap.push (seqObj "list" #[] 0)).get? l = some o := Heap.get?_push_of_some _ ho
  refine wpAny_bind (wpAny_typeOf (T := "tuple") ⟨o, ho', hc⟩ ?_)
  have ht : (Value.type "tuple" == Value.type "tuple") = true := by rfl
  rw [if_pos (by rw [ht]; simp)]
  refine wpAny_bind (listItems_at ho' hd ?_)
  refine wpAny_bind (listItems_at (xs := #[]) (n := 0) (Heap.get?_push_size _ rfl) rfl ?_)
  rw [if_neg (by simp)]
  refine wpAny_bind (listUpdate_at (xs := #[]) (n := 0) (Heap.get?_push_size _ rfl) rfl ?_ (Nat.zero_le _) (by show (#[] ++ vs.toArray).size ≤ sizeLine + 1; simp only [Array.size_append, List.size_toArray, List.length_nil]; omega))
  refine wpAny_pure ?_
  show wpAny (model prog w) A (do
      let o ← load s.heap.objs.size
      match o.data with
      | .seq xs _ => pure xs.toList
      | _ => unsupported "internal:collect") Q E { s with heap := (s.heap.push (seqObj "list" #[] 0)).update s.heap.objs.size (Obj.mapSeq (· ++ vs.toArray)) }
  refine wpAny_bind (wpAny_load (get?_update_seq (Heap.get?_push_size _ rfl) _) ?_)
  show wpAny _ _ (pure ((#[] : Array Value) ++ vs.toArray).toList) Q E _
  rw [show ((#[] : Array Value) ++ vs.toArray).toList = vs by simp]
  exact wpAny_pure h
theorem sorted_of_sortT {l : Addr} {vs : List Value} {kw : List (PySem.Str × Value)} {Q : Value → Shared → Prop} (hl : PyProof.Rows.IsTup s.heap l vs.toArray) (hL : vs.length ≤ sizeLine) (ha1 : argsOk "sorted" ⟨[.ref l], kw⟩) (ha2 : ∀ x, argsOk "list.sort" ⟨[.ref x], kw⟩)
    (body : ∀ E' : Value → Shared → Prop, wpAny (model prog w) A.in1.in1 (Builtin.«list.sort» ⟨[.ref (s.heap.objs.size + 1)], kw⟩) (fun f s' => f = .done (.ret .none) ∧ Q (.ref (s.heap.objs.size + 1)) s') E' { s with heap := copyHeap s.heap vs }) :
    wpAny (model prog w) A (call (.builtin "sorted") [.ref l] kw) Q E s := by
  refine call_function_entry_kw kind_sorted plain_sorted entry_sorted ha1 ?_
  unfold Builtin.«sorted»
  refine wpAny_bind (m := checkCount "sorted" 1 1 _) (wpAny_pure ?_)
  refine wpAny_bind (collect_tup hl ?_ hL)
  refine wpAny_bind (wpAny_newList ?_ hL)
  have hsz : ((s.heap.push (seqObj "list" #[] 0)).update s.heap.objs.size (Obj.mapSeq (· ++ vs.toArray))).objs.size = s.heap.objs.size + 1 := by
    rw [Heap.size_update, size_push']
  show wpAny _ _ _ _ _ { s with heap := copyHeap s.heap vs }
  rw [hsz]
  refine wpAny_bind (wpAny_holding (wpAny_call_entry_kw slot_list_sort ⟨_, copyHeap_at s.heap vs, rfl⟩ entry_list_sort ?body (ha2 _)))
  case body =>
    show wpAny (model prog w) A.in1.in1 (Builtin.«list.sort» ⟨[.ref (s.heap.objs.size + 1)], kw⟩) _ _ _
    refine wpAny_mono (body _) (fun f s' hf => ?_) fun _ _ e => e
    obtain ⟨rfl, hq⟩ := hf
    exact ⟨_, rfl, wpAny_pure ⟨_, rfl, hq⟩⟩
theorem bound_mapT {β : Type} {bs : List β} {enc : β → PyData} (hu : ∀ b, b ∈ bs → A.units + 2 + (enc b).depth < cLine) : ∀ d, d ∈ bs.map enc → A.in1.in1.units + d.depth < cLine := by
  intro d hd
  obtain ⟨b, hb, rfl⟩ := List.mem_map.mp hd
  exact hu b hb
theorem sorted_dataT {β : Type} {R : Value → β → Prop} {enc : β → PyData} {bs : List β} {vs : List Value} {l : Addr} {Q : Value → Shared → Prop} (hl : PyProof.Rows.IsTup s.heap l vs.toArray) (e : EachIs R vs bs) (er : EachIs (fun v b => ∃ as, PySem.Reads s.heap v (enc b) as) vs bs) (hal : AllAlike (bs.map enc)) (hk : Sortable2 (bs.map enc)) (hL : bs.length ≤ sizeLine)
    (hu : ∀ b, b ∈ bs → A.units + 2 + (enc b).depth < cLine) (h : ∀ out, out.length = bs.length → EachIs R out (bs.mergeSort (dataLe false enc)) → Q (.ref (s.heap.objs.size + 1)) { s with heap := sortedAll s.heap vs (List.toArray out) }) :
    wpAny (model prog w) A (call (.builtin "sorted") [.ref l]) Q E s := by
  have er' : EachIs (fun v b => ∃ as, PySem.Reads (sortingHeap (copyHeap s.heap vs) (s.heap.objs.size + 1) vs) v (enc b) as) vs bs := er.mono fun _ _ ⟨as, r⟩ => ⟨as, PyProof.Rows.Reads.keeps (fun _ _ => sorting_copy_old) r⟩
  have hL' : vs.length ≤ sizeLine := by rw [e.length]; exact hL
  exact sorted_of_sortT hl hL' (args_sorted1 _) (fun _ => args_list_sort _) fun _ => list_sort_vals (s := { s with heap := copyHeap s.heap vs }) (copyHeap_at s.heap vs)
    (SortsAt_data2 (s := { s with heap := sortingHeap (copyHeap s.heap vs) (s.heap.objs.size + 1) vs }) (each_map (R := fun v d => ∃ as, PySem.Reads (sortingHeap (copyHeap s.heap vs) (s.heap.objs.size + 1) vs) v d as) enc er') hal hk (bound_mapT hu)) hL'
    ⟨rfl, h _ (by rw [sortVals_length false rfl]; exact e.length) (sortVals_data false e er' hal)⟩
end

section
open PySem.W
variable {X : Cx} {W : WX} {e o a b c : Expr} {es : List Expr} {pos p : Pos} {f fo fa fb : EM D} {fs : EM (List D)}
def rSortedD (K : PySem.W.Frag) : List V → Hp → VK → Prop := fun xs H Q => ∃ (a : Addr) (bs : List (D × V)), xs = [.ref a] ∧ (SqL K H a (bs.map (·.2)) ∨ SqT K H a (bs.map (·.2))) ∧ (∀ b ∈ bs, Dp K H b.2 (b.1.toP 60) ∧ (b.1.toP 60).depth ≤ 60) ∧
  AllAlike (bs.map fun b => b.1.toP 60) ∧ Sortable2 (bs.map fun b => b.1.toP 60) ∧ ∀ p, H p = none → Q (.ref p) (upd H p (.lst ((bs.mergeSort (dataLe false fun b => b.1.toP 60)).map (·.2))))
theorem each_of {β : Type} {R : Value → β → Prop} {f : β → V} : ∀ {bs : List β} {us : List Value}, Vals (bs.map f) us → (∀ b ∈ bs, ∀ u, RelV (f b) u → R u b) → EachIs R us bs
  | [], _, r, _ => by
    cases r
    exact .nil
  | b :: bs, _, r, h => by
    cases r with
    | cons r1 r2 => exact .cons (h b (List.mem_cons_self ..) _ r1) (each_of r2 fun b hb => h b (List.mem_cons_of_mem _ hb))
theorem vals_of_each {β : Type} {f : β → V} : ∀ {bs : List β} {us : List Value}, EachIs (fun u b => RelV (f b) u) us bs → Vals (bs.map f) us
  | _, _, .nil => .nil
  | _, _, .cons h t => .cons h (vals_of_each t)
theorem cr_sortedD (hu : X.A.units + 65 < cLine) : CallR X (.builtin "sorted") (rSortedD X.K) := by
  intro pins s σ H vs us Q I r h
  obtain ⟨a, bs, rfl, hs, hb, hal, hk, q⟩ := h
  rw [Vals.ref1 r]
  have main : ∀ its : List Value, Vals (bs.map (·.2)) its → (bs.map (·.2)).length ≤ sizeLine → (∀ Q : Value → Shared → Prop, (∀ out, out.length = bs.length → EachIs (fun u (b : D × V) => RelV b.2 u) out (bs.mergeSort (dataLe false fun b => b.1.toP 60)) → Q (.ref (s.heap.objs.size + 1)) { s with heap := PyProof.Rows.sortedAll s.heap its (List.toArray out) }) →
      wpAny (model X.prog X.w) X.A (call (.builtin "sorted") [.ref a]) Q X.xe s) → wpAny (model X.prog X.w) X.A (call (.builtin "sorted") [.ref a]) (EP X pins σ Q) X.xe s := fun its rv hz go => by
    refine go _ fun out h1 h2 => ?_
    obtain ⟨ep, he'⟩ := PyProof.Rows.sortedAll_at s.heap its out.toArray
    have rv' := vals_of_each (f := fun b : D × V => b.2) h2
    have hlen : ((bs.mergeSort (dataLe false fun b => b.1.toP 60)).map (·.2)).length ≤ sizeLine := by
      rw [List.length_map, List.length_mergeSort]
      rwa [List.length_map] at hz
    exact ⟨.ref _, upd H (s.heap.objs.size + 1) (.lst ((bs.mergeSort (dataLe false fun b => b.1.toP 60)).map (·.2))), I.laid (t' := s.toks) (fun _ _ => PyProof.Rows.sortedAll_old) (Nat.le_succ _) ⟨hlen, out, ep, rv', he'⟩, rfl, q _ (I.hok.fresh (Nat.le_succ _))⟩
  have ee : ∀ its : List Value, Vals (bs.map (·.2)) its → EachIs (fun u (b : D × V) => RelV b.2 u) its bs := fun its rv => each_of (f := fun b : D × V => b.2) rv fun b _ u h => h
  have er : ∀ its : List Value, Vals (bs.map (·.2)) its → EachIs (fun v (b : D × V) => ∃ as, PySem.Reads s.heap v (b.1.toP 60) as) its bs := fun its rv => each_of (f := fun b : D × V => b.2) rv fun b hm u h => Dp.reads I _ _ _ (hb b hm).1 h
  have hd : ∀ b, b ∈ bs → X.A.units + 2 + (b.1.toP 60).depth < cLine := fun b hm => by
    have := (hb b hm).2
    omega
  rcases hs with hs | hs
  · obtain ⟨its, rv, hl, hz⟩ := I.list hs
    exact main its rv hz fun Q hQ => sorted_data2 (enc := fun b : D × V => b.1.toP 60) hl.isList (ee its rv) (er its rv) hal hk (by rwa [List.length_map] at hz) hd hQ
  · obtain ⟨its, rv, hl, hz⟩ := I.tuple hs
    exact main its rv hz fun Q hQ => sorted_dataT (enc := fun b : D × V => b.1.toP 60) hl (ee its rv) (er its rv) hal hk (by rwa [List.length_map] at hz) hd hQ
def sortLeD (a b : D) : Bool := !dataLt (b.toP 60) (a.toP 60)
def sortD (xs : List D) : List D := xs.mergeSort sortLeD
def D.neTup (d : D) : Bool := match d with
  | .tup (_ :: _) => true
  | _ => false
def D.atom (d : D) : Bool := match d with
  | .int _ => true
  | .str _ => true
  | _ => false
def sortable (xs : List D) : Bool := (xs.all (D.plain 60)) && (xs.all fun x => xs.all fun y => alike (x.toP 60) (y.toP 60)) && (xs.all D.neTup || xs.all D.atom || (xs.all D.isTup && xs.any fun x => decide (x = .tup [])))
def gSorted : SM1 := fun xs st => if sortable xs then .ok (.ref st.length) (st ++ [.lst (sortD xs)]) else .bad
theorem rds_zip {K : PySem.W.Frag} {m : List Addr} {H : Hp} : ∀ {ds : List D} {vs : List V}, RDs K m H ds vs → (ds.zip vs).map (·.1) = ds ∧ (ds.zip vs).map (·.2) = vs ∧ ∀ b ∈ ds.zip vs, RD K m H b.1 b.2
  | _, _, .nil => ⟨rfl, rfl, fun _ h => nomatch h⟩
  | _, _, .cons h t => by
    obtain ⟨a1, a2, a3⟩ := rds_zip t
    refine ⟨by simp [a1], by simp [a2], fun b hb => ?_⟩
    rw [List.zip_cons_cons] at hb
    rcases List.mem_cons.mp hb with rfl | hb
    · exact h
    · exact a3 b hb
theorem rds_of {K : PySem.W.Frag} {m : List Addr} {H : Hp} : ∀ {bs : List (D × V)}, (∀ b ∈ bs, RD K m H b.1 b.2) → RDs K m H (bs.map (·.1)) (bs.map (·.2))
  | [], _ => .nil
  | b :: bs, h => .cons (h b (List.mem_cons_self ..)) (rds_of fun b hb => h b (List.mem_cons_of_mem _ hb))
theorem s_sorted (hu : X.A.units + 65 < cLine) : CallS X (.builtin "sorted") gSorted := ⟨_, cr_sortedD hu, fun m st H ds v E Q hS r hP => by
  unfold gSorted at hP
  split at hP
  · rename_i hc
    unfold sortable at hc
    simp only [Bool.and_eq_true, Bool.or_eq_true, List.all_eq_true] at hc
    obtain ⟨⟨h1, h2⟩, h3⟩ := hc
    obtain ⟨a, vs, rfl, q, rs⟩ := r
    obtain ⟨z1, z2, z3⟩ := rds_zip rs
    have hmem : ∀ b ∈ ds.zip vs, b.1 ∈ ds := fun b hb => by
      rw [← z1]
      exact List.mem_map_of_mem hb
    have hmap : (ds.zip vs).map (fun b => b.1.toP 60) = ds.map (D.toP 60) := by
      conv => rhs; rw [← z1]
      rw [List.map_map]
      rfl
    refine ⟨a, ds.zip vs, rfl, by rw [z2]; exact q.imp id PlT.sq, fun b hb => ?_, ?_, ?_, ?_⟩
    · obtain ⟨a1, a2, a3⟩ := plain_dp 60 b.1 b.2 (h1 _ (hmem b hb)) (z3 b hb)
      exact ⟨a1, a3⟩
    · rw [hmap]
      intro d hd d' hd'
      obtain ⟨x, hx, rfl⟩ := List.mem_map.mp hd
      obtain ⟨y, hy, rfl⟩ := List.mem_map.mp hd'
      exact h2 x hx y hy
    · rw [hmap]
      rcases h3 with (h3 | h3) | ⟨h3, h4⟩
      · refine .inl (.inl fun d hd => ?_)
        obtain ⟨x, hx, rfl⟩ := List.mem_map.mp hd
        have := h3 x hx
        unfold D.neTup at this
        split at this
        · exact ⟨_, _, rfl⟩
        · cases this
      · refine .inl (.inr fun d hd => ?_)
        obtain ⟨x, hx, rfl⟩ := List.mem_map.mp hd
        have := h3 x hx
        unfold D.atom at this
        split at this
        · exact ⟨nofun, fun _ => nofun⟩
        · exact ⟨nofun, fun _ => nofun⟩
        · cases this
      · refine .inr ⟨fun d hd => ?_, ?_⟩
        · obtain ⟨x, hx, rfl⟩ := List.mem_map.mp hd
          have := h3 x hx
          unfold D.isTup at this
          split at this
          · exact ⟨_, rfl⟩
          · cases this
        · rw [List.any_eq_true] at h4
          obtain ⟨x, hx, e⟩ := h4
          have e := of_decide_eq_true e
          subst e
          exact List.mem_map.mpr ⟨_, hx, rfl⟩
    · have e : (ds.zip vs).mergeSort (dataLe false fun b => b.1.toP 60) = (ds.zip vs).mergeSort (fun b c => sortLeD b.1 c.1) := rfl
      have e2 : ((ds.zip vs).mergeSort (fun b c => sortLeD b.1 c.1)).map (·.1) = sortD ds := by
        refine (sort_maps (s := sortLeD) (Prod.fst : D × V → D) (fun _ _ _ _ => rfl)).trans ?_
        show ((ds.zip vs).map fun b => b.1).mergeSort sortLeD = sortD ds
        rw [z1]
        rfl
      rw [e]
      have z4 : ∀ b ∈ (ds.zip vs).mergeSort (fun b c => sortLeD b.1 c.1), RD X.K m H b.1 b.2 := fun b hb => z3 b (List.mem_mergeSort.mp hb)
      have z5 := rds_of z4
      rw [e2] at z5
      exact hP.lst hS z5
  · exact hP.elim⟩
end
end HM

/-! HM, part Q: the keys of a dict; sorted of a dict. -/
namespace HM
open PySem PySem.Calls PySem.Spec PyProof.Rows L2 PySem.W
/-- the keys of the dict at a -/
def DKeys (K : KW) (H : Hp) (a : Addr) (vs : List V) : Prop :=
  (∃ us, H a = some (.dK us) ∧ vs = us.map fun u => kV u.1) ∨ ∃ xs, H a = some (.ext (DObj K.w a xs)) ∧ vs = xs.map fun x => V.ref x.2.1
theorem rd_key {K : PySem.W.Frag} {m : List Addr} {H : Hp} (k : Key) : RD K m H (keyD k) (kV k) := by
  cases k with
  | inl i => exact .int i
  | inr x =>
    have e : x = ⟨x.cps.toList.toArray⟩ := by simp
    exact e ▸ .str x.cps.toList
theorem keys_rd1 {K : PySem.W.Frag} {m : List Addr} {H : Hp} : ∀ {kvs : List (D × D)} {us : List (Key × V)}, DRel1 K m H kvs us → RDs K m H (kvs.map (·.1)) (us.map fun u => kV u.1)
  | _, _, .nil => .nil
  | _, _, .cons h t => by
    rw [List.map_cons, List.map_cons, h.1]
    exact .cons (rd_key _) (keys_rd1 t)
theorem keys_rd2 {K : PySem.W.Frag} {m : List Addr} {H : Hp} : ∀ {kvs : List (D × D)} {xs : List (NestedKey × Addr × V)}, DRel2 K m H kvs xs → RDs K m H (kvs.map (·.1)) (xs.map fun x => V.ref x.2.1)
  | _, _, .nil => .nil
  | _, _, .cons h t => .cons h.2.2.1 (keys_rd2 t)
theorem dkeys_of {K : KW} {m : List Addr} {st : Store} {H : Hp} {n : Nat} {kvs : List (D × D)} {v : V} (hS : SS K m st H) (hk : dctAt st n = some kvs) (r : RD K m H (.ref n) v) : ∃ a vs, v = .ref a ∧ DKeys K H a vs ∧ RDs K m H (kvs.map (·.1)) vs := by
  cases r with
  | ref h =>
    rename_i a
    rcases hS.dict hk h with ⟨us, e, rel⟩ | ⟨xs, e, _, rel⟩
    · exact ⟨a, _, rfl, .inl ⟨us, e, rfl⟩, keys_rd1 rel⟩
    · exact ⟨a, _, rfl, .inr ⟨xs, e, rfl⟩, keys_rd2 rel⟩
theorem paired_at {α β : Type} {F : α → β → Prop} : ∀ {l₁ : List α} {l₂ : List β}, Paired F l₁ l₂ → ∀ {j : Nat} {a : α}, l₁[j]? = some a → ∃ b, l₂[j]? = some b ∧ F a b
  | _, _, .nil, _, _, h => by simp at h
  | _, _, .cons r t, 0, _, h => by
    simp at h
    subst h
    exact ⟨_, rfl, r⟩
  | _, _, .cons r t, j + 1, _, h => by
    obtain ⟨b, e, f⟩ := paired_at t (j := j) (by simpa using h)
    exact ⟨b, by simpa using e, f⟩
section
variable {X : Cx} {pins : List (Addr × Obj)} {σ : L2.St} {H : Hp} {s : Shared} {a : Addr} {vs : List V}
theorem collect_keys {T : List Value → Shared → Prop} {E : Value → Shared → Prop} {A : Around} (hh : A.handled = none) (I : Inv X pins σ H s) (c : DKeys X.kw H a vs)
    (h : ∀ (h' : Heap) (tk : Nat) (acc : List Value), (∀ b o, s.heap.get? b = some o → h'.get? b = some o) → Vals vs acc → vs.length ≤ sizeLine → T acc { s with heap := h', toks := tk }) : wpAny (model X.prog X.w) A (collect (.ref a)) T E s := by
  rcases c with ⟨us, e, rfl⟩ | ⟨xs, e, rfl⟩
  · obtain ⟨z, lo, ws, rk, hd⟩ := (show ObjOk X.prog X.w H s.heap a (.dK us) from I.hok a _ e)
    obtain ⟨ep, hat⟩ := hd.dictAt
    have hl : us.length = ws.length := Paired.length rk
    refine PySem.W.kdu_collect (A := A) (PySem.W.kdl_dict (knd := mixKind X.prog X.w) (kvs := ws) (ep := ep) lo) hh hat (by rw [← hl]; exact z) fun h' tk acc hk hacc => ?_
    have el : acc.toList.length = acc.size := by simp
    refine h h' tk acc.toList hk ?_ (by rw [List.length_map]; exact z)
    refine vals_of_at (by rw [List.length_map, el, hacc.1, hl]) fun j x w h1 h2 => ?_
    obtain ⟨k, y, hky, hi⟩ := hacc.2 j w (by rw [← Array.getElem?_toList]; exact h2)
    have e1 : (us.map (·.1))[j]? = some k := by
      rw [KV.keys rk, List.getElem?_map, hky] <;> rfl
    have e2 : (us.map fun kv => kV kv.1)[j]? = some (kV k) := by
      have e3 : (us.map fun kv => kV kv.1) = (us.map (·.1)).map kV := by rw [List.map_map] <;> rfl
      rw [e3, List.getElem?_map, e1] <;> rfl
    rw [e2] at h1
    cases h1
    exact keyIs_rel hi
  · obtain ⟨⟨lo, hz, zs, rel, ob, es, ep, ho, hx, hdt, he, _⟩, _, _⟩ := (show ObjOk X.prog X.w H s.heap a (.ext (DObj X.w a xs)) from I.hok a _ e)
    have l0 : xs.length = zs.length := Paired.length rel
    have l1 : es.size = zs.length := by
      rw [← Array.length_toList, he, List.length_map]
    refine PySem.W.kdu_collect (A := A) (kdl_raw lo hx hdt) hh ho (by omega) fun h' tk acc hk hacc => ?_
    have el : acc.toList.length = acc.size := by simp
    refine h h' tk acc.toList hk ?_ (by rw [List.length_map]; exact hz)
    refine vals_of_at (by rw [List.length_map, el, hacc.1, l1, l0]) fun j x w h1 h2 => ?_
    obtain ⟨en, hen, hv⟩ := hacc.2 j w (by rw [← Array.getElem?_toList]; exact h2)
    rw [List.getElem?_map] at h1
    cases hx : xs[j]? with
    | none => rw [hx] at h1; cases h1
    | some y =>
      rw [hx] at h1
      cases h1
      obtain ⟨q, hq, e1, e2, e3⟩ := paired_at rel hx
      have qe : es.toList[j]? = some (⟨NestedKey.hash X.w q.1, .ref q.2.1, q.2.2⟩ : DictEntry) := by
        rw [he, List.getElem?_map, hq] <;> rfl
      rw [Array.getElem?_toList, hen] at qe
      cases qe
      rw [hv]
      exact congrArg Value.ref e2.symm
theorem sorted_keys {β : Type} {R : Value → β → Prop} {enc : β → PyData} {bs : List β} {A : Around} {E : Value → Shared → Prop} {Q : Value → Shared → Prop}
    (coll : ∀ T : List Value → Shared → Prop, (∀ (h' : Heap) (tk : Nat) (acc : List Value), (∀ b o, s.heap.get? b = some o → h'.get? b = some o) → EachIs R acc bs → EachIs (fun v b => ∃ as, PySem.Reads h' v (enc b) as) acc bs → T acc { s with heap := h', toks := tk }) → wpAny (model X.prog X.w) A.in1 (collect (.ref a)) T E s)
    (hal : AllAlike (bs.map enc)) (hk : Sortable2 (bs.map enc)) (hL : bs.length ≤ sizeLine) (hu : ∀ b, b ∈ bs → A.units + 2 + (enc b).depth < cLine)
    (h : ∀ (h' : Heap) (tk : Nat) (acc out : List Value), (∀ b o, s.heap.get? b = some o → h'.get? b = some o) → out.length = bs.length → EachIs R out (bs.mergeSort (dataLe false enc)) → Q (.ref h'.objs.size) { s with heap := PyProof.Rows.sortedHeap (h'.push (seqObj "list" acc.toArray 0)) h'.objs.size acc out.toArray, toks := tk }) :
    wpAny (model X.prog X.w) A (call (.builtin "sorted") [.ref a]) Q E s := by
  refine Calls.call_function_entry PyProof.Rows.kind_sorted PyProof.Rows.plain_sorted PyProof.Rows.entry_sorted (PyProof.Rows.args_sorted1 _) ?_
  unfold Builtin.«sorted»
  refine wpAny_bind (m := checkCount "sorted" 1 1 _) (wpAny_pure ?_)
  refine wpAny_bind (coll _ fun h' tk acc hk' e er => ?_)
  have hl : acc.length ≤ sizeLine := by rw [e.length]; exact hL
  refine wpAny_bind (wpAny_newList ?_ hl)
  have hoL : (h'.push (seqObj "list" acc.toArray 0)).get? h'.objs.size = some (seqObj "list" acc.toArray 0) := Heap.get?_push_size _ rfl
  show wpAny _ _ _ _ _ { s with heap := h'.push (seqObj "list" acc.toArray 0), toks := tk }
  have er2 : EachIs (fun v b => ∃ as, PySem.Reads (sortingHeap (h'.push (seqObj "list" acc.toArray 0)) h'.objs.size acc) v (enc b) as) acc bs := er.mono fun _ _ ⟨as, r⟩ => ⟨as, PyProof.Rows.Reads.keeps (fun b o hb => sortingHeap_old (Nat.ne_of_lt (Heap.lt_size hb)) (Heap.get?_push_of_some _ hb)) r⟩
  refine wpAny_bind (wpAny_holding (wpAny_call_entry PyProof.Rows.slot_list_sort ⟨_, hoL, rfl⟩ PyProof.Rows.entry_list_sort
    (list_sort_vals (s := { s with heap := h'.push (seqObj "list" acc.toArray 0), toks := tk }) hoL
      (SortsAt_data2 (s := { s with heap := sortingHeap (h'.push (seqObj "list" acc.toArray 0)) h'.objs.size acc, toks := tk }) (each_map (R := fun v d => ∃ as, PySem.Reads (sortingHeap (h'.push (seqObj "list" acc.toArray 0)) h'.objs.size acc) v d as) enc er2) hal hk (bound_map2 hu)) hl ⟨_, rfl, wpAny_pure ⟨_, rfl, ?_⟩⟩)
    (PyProof.Rows.args_list_sort _)))
  exact h h' tk acc _ hk' (by rw [sortVals_length false rfl]; exact e.length) (sortVals_data false e er2 hal)
end
section
variable {X : Cx}
def rSortedK (K : KW) : List V → Hp → VK → Prop := fun xs H Q => ∃ (a : Addr) (bs : List (D × V)), xs = [.ref a] ∧ DKeys K H a (bs.map (·.2)) ∧ (∀ b ∈ bs, Dp K H b.2 (b.1.toP 60) ∧ (b.1.toP 60).depth ≤ 60) ∧
  AllAlike (bs.map fun b => b.1.toP 60) ∧ Sortable2 (bs.map fun b => b.1.toP 60) ∧ ∀ p, H p = none → Q (.ref p) (upd H p (.lst ((bs.mergeSort (dataLe false fun b => b.1.toP 60)).map (·.2))))
theorem cr_sortedK (hc : X.calm = true) (hu : X.A.units + 65 < cLine) : CallR X (.builtin "sorted") (rSortedK X.kw) := by
  intro pins s σ H vs us Q I r h
  obtain ⟨a, bs, rfl, hd, hb, hal, hk, q⟩ := h
  rw [Vals.ref1 r]
  have hz : bs.length ≤ sizeLine := by
    have hm : ∀ {vs : List V}, DKeys X.kw H a vs → vs.length ≤ sizeLine := fun c => by
      rcases c with ⟨us, e, rfl⟩ | ⟨xs, e, rfl⟩
      · obtain ⟨z, _⟩ := (show ObjOk X.prog X.w H s.heap a (.dK us) from I.hok a _ e)
        rw [List.length_map]
        exact z
      · obtain ⟨⟨_, z, _⟩, _, _⟩ := (show ObjOk X.prog X.w H s.heap a (.ext (DObj X.w a xs)) from I.hok a _ e)
        rw [List.length_map]
        exact z
    have := hm hd
    rwa [List.length_map] at this
  refine sorted_keys (X := X) (R := fun u (b : D × V) => RelV b.2 u) (enc := fun b : D × V => b.1.toP 60) (bs := bs) (fun T hT => ?_) hal hk hz (fun b hm => by
    have := (hb b hm).2
    omega) fun h' tk acc out hk' h1 h2 => ?_
  · refine collect_keys (A := X.A.in1) (I.ok.hd hc) I hd fun h' tk acc hk' rv _ => ?_
    refine hT h' tk acc hk' (each_of (f := fun b : D × V => b.2) rv fun b _ u h => h) (each_of (f := fun b : D × V => b.2) rv fun b hm u h => ?_)
    obtain ⟨as, r⟩ := Dp.reads I _ _ _ (hb b hm).1 h
    exact ⟨as, PyProof.Rows.Reads.keeps hk' r⟩
  · have hoL : (h'.push (seqObj "list" acc.toArray 0)).get? h'.objs.size = some (seqObj "list" acc.toArray 0) := Heap.get?_push_size _ rfl
    obtain ⟨ep, he'⟩ := PyProof.Rows.sortedHeap_at (vs := acc) (out := out.toArray) hoL
    have I1 : Inv X pins σ H { s with heap := h', toks := tk } := I.kept hk'
    have rv' := vals_of_each (f := fun b : D × V => b.2) h2
    have hlen : ((bs.mergeSort (dataLe false fun b => b.1.toP 60)).map (·.2)).length ≤ sizeLine := by
      rw [List.length_map, List.length_mergeSort]
      exact hz
    refine ⟨.ref h'.objs.size, upd H h'.objs.size (.lst ((bs.mergeSort (dataLe false fun b => b.1.toP 60)).map (·.2))), I1.laid (t' := tk) (fun b u e => ?_) (Nat.le_refl _) ⟨hlen, out, ep, rv', he'⟩, rfl, q _ (I1.hok.fresh (Nat.le_refl _))⟩
    have hb : b < h'.objs.size := Heap.lt_size e
    rw [PyProof.Rows.sortedHeap_old (Nat.ne_of_lt hb) (by rw [size_push']; exact Nat.lt_succ_of_lt hb)]
    exact Heap.get?_push_of_some _ e
/-- sorted(x), x a list, a tuple or a dict -/
def fSorted : FM := fun ds st => match ds with
  | [d] => match dSeq st d with
    | some xs => gSorted xs st
    | none => match d with
      | .ref n => match dctAt st n with
        | some kvs => gSorted (kvs.map (·.1)) st
        | none => .bad
      | _ => .bad
  | _ => .bad
/-- what sorting asks, of any row of values -/
theorem sorted_ask {K : KW} {m : List Addr} {st : Store} {H : Hp} {ds : List D} {vs : List V} {E : XK} {Q : VK} (hS : SS K m st H) (rs : RDs K m H ds vs) (hP : Pe K E (RD K) m H (gSorted ds st) Q) :
    ∃ bs : List (D × V), bs.map (·.2) = vs ∧ (∀ b ∈ bs, Dp K H b.2 (b.1.toP 60) ∧ (b.1.toP 60).depth ≤ 60) ∧ AllAlike (bs.map fun b => b.1.toP 60) ∧ Sortable2 (bs.map fun b => b.1.toP 60) ∧ ∀ p, H p = none → Q (.ref p) (upd H p (.lst ((bs.mergeSort (dataLe false fun b => b.1.toP 60)).map (·.2)))) := by
  unfold gSorted at hP
  split at hP
  · rename_i hc
    unfold sortable at hc
    simp only [Bool.and_eq_true, Bool.or_eq_true, List.all_eq_true] at hc
    obtain ⟨⟨h1, h2⟩, h3⟩ := hc
    obtain ⟨z1, z2, z3⟩ := rds_zip rs
    have hmem : ∀ b ∈ ds.zip vs, b.1 ∈ ds := fun b hb => by
      rw [← z1]
      exact List.mem_map_of_mem hb
    have hmap : (ds.zip vs).map (fun b => b.1.toP 60) = ds.map (D.toP 60) := by
      conv => rhs; rw [← z1]
      rw [List.map_map]
      rfl
    refine ⟨ds.zip vs, z2, fun b hb => ?_, ?_, ?_, ?_⟩
    · obtain ⟨a1, a2, a3⟩ := plain_dp 60 b.1 b.2 (h1 _ (hmem b hb)) (z3 b hb)
      exact ⟨a1, a3⟩
    · rw [hmap]
      intro d hd d' hd'
      obtain ⟨x, hx, rfl⟩ := List.mem_map.mp hd
      obtain ⟨y, hy, rfl⟩ := List.mem_map.mp hd'
      exact h2 x hx y hy
    · rw [hmap]
      rcases h3 with (h3 | h3) | ⟨h3, h4⟩
      · refine .inl (.inl fun d hd => ?_)
        obtain ⟨x, hx, rfl⟩ := List.mem_map.mp hd
        have := h3 x hx
        unfold D.neTup at this
        split at this
        · exact ⟨_, _, rfl⟩
        · cases this
      · refine .inl (.inr fun d hd => ?_)
        obtain ⟨x, hx, rfl⟩ := List.mem_map.mp hd
        have := h3 x hx
        unfold D.atom at this
        split at this
        · exact ⟨nofun, fun _ => nofun⟩
        · exact ⟨nofun, fun _ => nofun⟩
        · cases this
      · refine .inr ⟨fun d hd => ?_, ?_⟩
        · obtain ⟨x, hx, rfl⟩ := List.mem_map.mp hd
          have := h3 x hx
          unfold D.isTup at this
          split at this
          · exact ⟨_, rfl⟩
          · cases this
        · rw [List.any_eq_true] at h4
          obtain ⟨x, hx, e⟩ := h4
          have e := of_decide_eq_true e
          subst e
          exact List.mem_map.mpr ⟨_, hx, rfl⟩
    · have e : (ds.zip vs).mergeSort (dataLe false fun b => b.1.toP 60) = (ds.zip vs).mergeSort (fun b c => sortLeD b.1 c.1) := rfl
      have e2 : ((ds.zip vs).mergeSort (fun b c => sortLeD b.1 c.1)).map (·.1) = sortD ds := by
        refine (sort_maps (s := sortLeD) (Prod.fst : D × V → D) (fun _ _ _ _ => rfl)).trans ?_
        show ((ds.zip vs).map fun b => b.1).mergeSort sortLeD = sortD ds
        rw [z1]
        rfl
      rw [e]
      have z4 : ∀ b ∈ (ds.zip vs).mergeSort (fun b c => sortLeD b.1 c.1), RD K m H b.1 b.2 := fun b hb => z3 b (List.mem_mergeSort.mp hb)
      have z5 := rds_of z4
      rw [e2] at z5
      exact hP.lst hS z5
  · exact hP.elim
theorem c_sorted (hc : X.calm = true) (hu : X.A.units + 65 < cLine) : CallM X (.builtin "sorted") fSorted :=
  ⟨fun vs H Q => rSortedD X.K vs H Q ∨ rSortedK X.kw vs H Q, fun pins s σ H vs us Q I r h => h.elim (fun h => cr_sortedD hu pins s σ H vs us Q I r h) (fun h => cr_sortedK hc hu pins s σ H vs us Q I r h), fun m st H ds vs E Q hS r hP => by
    unfold fSorted at hP
    split at hP
    · rename_i d
      obtain ⟨v, rfl, rv⟩ := r.one
      split at hP
      · rename_i xs hx
        obtain ⟨a, ws, rfl, hq, rs⟩ := dSeq_read hS hx rv
        obtain ⟨bs, e, h1, h2, h3, h4⟩ := sorted_ask hS rs hP
        exact .inl ⟨a, bs, rfl, by rw [e]; exact hq.imp id PlT.sq, h1, h2, h3, h4⟩
      · split at hP
        · rename_i n
          split at hP
          · rename_i kvs hk
            obtain ⟨a, ws, rfl, hd, rs⟩ := dkeys_of hS hk rv
            obtain ⟨bs, e, h1, h2, h3, h4⟩ := sorted_ask hS rs hP
            exact .inr ⟨a, bs, rfl, by rw [e]; exact hd, h1, h2, h3, h4⟩
          · exact hP.elim
        · exact hP.elim
    · exact hP.elim⟩
end
end HM

/-! HM, part DD: a dict of one pair. -/
namespace HM
open PySem PySem.Spec PyProof.Rows L2
section
variable {X : Cx} {W : WX} {a b : Expr} {pos : Pos} {fa fb : EM D} {A : Around} {E : Value → Shared → Prop} {s : Shared}
theorem wpAny_Dict_one {prog : Program} {w : World} {env : Env} {k v : Expr} {Q : Value → Shared → Prop}
    (h : wpAny (model prog w) A (eval k env) (fun kv s1 => wpAny (model prog w) A (eval v env) (fun vv s2 => wpAny (model prog w) A (dictSet s.heap.objs.size kv vv) (fun _ s3 => Q (.ref s.heap.objs.size) s3) E s2) E s1) E { s with heap := s.heap.push { cls := .type "dict", data := .dict #[] } }) :
    wpAny (model prog w) A (eval (.Dict [some k] [v] pos) env) Q E s := by
  rw [arm_eval_Dict, zip_pairTrees [some k] [v] env pos rfl rfl, dictDisplay_pairs _ (by simp [pairTrees]) (by simp [pairTrees])]
  refine wpAny_bind (wpAny_standAt (wpAny_bind ?_))
  unfold subDict
  refine wpAny_bind (wpAny_alloc (wpAny_bind (wpAny_holding ?_)))
  rw [if_pos (by simp [pairTrees])]
  refine wpAny_bind (pairTrees_cons_walk (wpAny_mono h (fun kv s1 h1 => wpAny_mono h1 (fun vv s2 h2 => pairTrees_nil_walk ?_) fun _ _ e => e) fun _ _ e => e))
  refine wpAny_holding ?_
  rw [List.forIn_cons]
  refine wpAny_bind (wpAny_bind (wpAny_bind (wpAny_mono h2 (fun _ s3 h3 => wpAny_pure ?_) fun _ _ e => e)))
  show wpAny _ _ (forIn [] PUnit.unit _) _ _ _
  rw [List.forIn_nil]
  exact wpAny_pure (wpAny_pure (wpAny_pure (wpAny_pure h3)))
end
section
variable {X : Cx} {pins : List (Addr × Obj)} {σ : L2.St} {H : Hp} {s : Shared} {p : Addr} {A : Around} {E : Value → Shared → Prop} {K : KW} {m m2 : List Addr} {st : Store}
/-- the first pair of a dict -/
theorem dictSet_first {k d : D} {y v : V} {u r : Value} {Q : Unit → Shared → Prop} (hu : A.units + 10 < cLine) (I : Inv X pins σ H s) (e : H p = some (.dK [])) (f : (k.flatK || k.tupQ) = true) (rk : RD X.K m H k y) (rv : RD X.K m H d v) (ru : RelV y u) (rr : RelV v r)
    (h : ∀ (o : HO) (s' : Shared), Inv X pins σ (upd H p o) s' → (∀ m', (∀ (n : Nat) (a : Addr), m[n]? = some a → m'[n]? = some a) → RC X.kw m' (upd H p o) p (.dct [(k, d)])) → Q () s') : wpAny (model X.prog X.w) A (dictSet p u r) Q E s := by
  have mu : Mut (H p) := by rw [e]; exact True.intro
  have kp : ∀ (o : HO) (m' : List Addr), (∀ (n : Nat) (a : Addr), m[n]? = some a → m'[n]? = some a) → Kp X.K m H m' (upd H p o) := fun o m' hm => by
    have z : Kp X.K m H m (upd H p o) := Kp.writeM mu
    exact ⟨fun n a q => hm n a q, z.tup, z.plt, z.fzl, z.xdk⟩
  rw [Bool.or_eq_true] at f
  rcases f with f | f
  · obtain ⟨q, rfl, rfl⟩ := flatK_of f rk
    obtain ⟨z, hd, vs0, r0, dd⟩ := dk_of I.hok e
    cases r0
    refine wpAny_dictSet_pairs (hsz := Nat.zero_le _) (kV_is ru) dd fun h' dd' hs => h (.dK (putK [] q v)) _ ?_ fun m' hm => .inl ⟨_, upd_same, .cons ⟨rfl, rv.kp (kp _ m' hm)⟩ .nil⟩
    have he : ∃ q, h'.get? p = some q := let ⟨q, _, _, hq, _⟩ := dd'; ⟨q, hq⟩
    refine d_write I mu hs he (dk_new (by rw [PySem.sizeLine_eq]; show 1 ≤ _; omega) hd ?_ dd')
    exact .cons ⟨rfl, rr⟩ .nil
  · obtain ⟨b, rfl, z1, z2⟩ := tupQ_of f rk
    cases (show u = Value.ref b from ru)
    obtain ⟨hd, dd⟩ := dk_empty_at I e
    refine wpAny_dictSet_heap (knd := nestedKind X.prog X.w) (hsz := Nat.zero_le _) ?_ ⟨nv_is I z1 rfl, z2⟩ dd fun h' dd' hs => h (.ext (DObj X.w p [(k.nk, b, v)])) _ ?_ fun m' hm => .inr ⟨_, upd_same, by simp, .cons ⟨f, rfl, rk.kp (kp _ m' hm), rv.kp (kp _ m' hm)⟩ .nil⟩
    · show A.units + 8 < cLine
      omega
    have he : ∃ q, h'.get? p = some q := let ⟨q, _, _, hq, _⟩ := dd'; ⟨q, hq⟩
    exact d_write I mu hs he (dobj_ok hd (by rw [PySem.sizeLine_eq]; show 1 ≤ _; omega) (.cons ⟨rfl, rfl, rr⟩ .nil) dd')
/-- an object that the store does not hold is written and becomes the store's -/
theorem Ext.ownW {H0 : Hp} {o : HO} (e : Ext K.F m H0 m2 H) (h0 : H0 p = none) (hp : p ∉ m2) (mu : Mut (H p)) : Ext K.F m H0 (m2 ++ [p]) (upd H p o) where
  pre := fun n a q => by
    have := e.pre n a q
    rw [List.getElem?_append_left (List.getElem?_eq_some_iff.mp this).1]
    exact this
  tup := fun a vs q => (Kp.writeM (K := K.F) (m := m2) mu).tup a vs (e.tup a vs q)
  plt := fun a vs q => (Kp.writeM (K := K.F) (m := m2) mu).plt a vs (e.plt a vs q)
  fzl := fun a vs q => (Kp.writeM (K := K.F) (m := m2) mu).fzl a vs (e.fzl a vs q)
  xdk := fun a vs q => (Kp.writeM (K := K.F) (m := m2) mu).xdk a vs (e.xdk a vs q)
  frm := fun a ob n q => by
    have : a ≠ p := fun z => by rw [z, h0] at q; cases q
    rw [upd_ne this]
    exact e.frm a ob n q
  new := fun a q n => by
    rcases List.mem_append.mp q with q | q
    · exact e.new a q n
    · have z : a = p := by simpa using q
      rw [z]
      exact h0
theorem SS.ownW {o : HO} {c : Cell} (hS : SS K m st H) (hp : p ∉ m) (mu : Mut (H p)) (r : RC K (m ++ [p]) (upd H p o) p c) : SS K (m ++ [p]) (st ++ [c]) (upd H p o) := by
  have s1 : SS K m st (upd H p o) := ⟨hS.len, hS.nd, fun n c a h1 h2 => (hS.cel n c a h1 h2).kp (Kp.writeM mu) fun ob q => by
    have : a ≠ p := fun z => by rw [z] at h2; exact hp (List.mem_of_getElem? h2)
    rw [upd_ne this]
    exact q⟩
  exact s1.grow hp r
end
section
variable {X : Cx} {W : WX} {a b : Expr} {pos : Pos} {fa fb : EM D}
def eDct1 (fk fv : EM D) : EM D := fun τ st => (fk τ st).bind fun k s1 => (fv τ s1).bind fun v s2 => if k.flatK || k.tupQ then .ok (.ref s2.length) (s2 ++ [.dct [(k, v)]]) else .bad
theorem ex_dct1 (hu : X.A.units + 65 < cLine) (hk : Ex X W a fa) (hv : Ex X W b fb) : Ex X W (.Dict [some a] [b] pos) (eDct1 fa fb) := by
  refine ⟨fun m τ st σ H Q hL hS hP pins s I => wpAny_Dict_one ?_⟩
  have hn := I.hok.fresh (Nat.le_refl s.heap.objs.size)
  obtain ⟨p, hp⟩ : ∃ p, p = s.heap.objs.size := ⟨_, rfl⟩
  have I1 := I.laid (a := s.heap.objs.size) (o := .dK []) (h' := s.heap.push { cls := .type "dict", data := .dict #[] }) (t' := s.toks) (fun _ _ q => Heap.get?_push_of_some _ q) (Nat.le_refl _) (dk_empty s.heap I.big)
  rw [← hp] at I1 hn ⊢
  have e0 : Ext X.K m H m (upd H p (.dK [])) := Ext.fresh hn
  have np := hS.notin hn
  unfold eDct1 at hP
  cases h1 : fa τ st with
  | bad => rw [h1] at hP; exact hP.elim
  | exc x s1 =>
    rw [h1] at hP
    refine wpAny_mono (hk.run m τ st σ _ (fun _ _ => False) (hL.mono e0) (hS.fresh hn) ?_ pins _ I1) (fun _ _ h => ?_) fun _ _ h => h
    · rw [h1]
      exact fun m' H' c d e q r => hP m' H' c d (e0.trans e) q r
    · obtain ⟨_, _, _, _, f⟩ := h
      exact f.elim
  | ok k s1 =>
    rw [h1, ER.bind_ok] at hP
    have J1 : ∀ {m1 : List Addr} {H1 : Hp}, Ext X.K m (upd H p (.dK [])) m1 H1 → H1 p = some (.dK []) ∧ p ∉ m1 := fun e => by
      refine ⟨e.frm p _ np upd_same, fun q => ?_⟩
      have := e.new p q np
      rw [upd_same] at this
      cases this
    refine wpAny_mono (hk.run m τ st σ _ (fun y H1 => ∃ m1, Ext X.K m (upd H p (.dK [])) m1 H1 ∧ SS X.kw m1 s1 H1 ∧ RD X.K m1 H1 k y) (hL.mono e0) (hS.fresh hn) ?_ pins _ I1) (fun u t1 hh => ?_) fun _ _ h => h
    · rw [h1]
      exact fun m' H' y e q r => ⟨m', e, q, r⟩
    obtain ⟨y, H1, I2, ru, m1, e1, hS1, rk⟩ := hh
    cases h2 : fb τ s1 with
    | bad => rw [h2] at hP; exact hP.elim
    | exc x s2 =>
      rw [h2] at hP
      refine wpAny_mono (hv.run m1 τ s1 σ H1 (fun _ _ => False) (hL.mono (e0.trans e1)) hS1 ?_ pins _ I2) (fun _ _ h => ?_) fun _ _ h => h
      · rw [h2]
        exact fun m' H' c d e q r => hP m' H' c d ((e0.trans e1).trans e) q r
      · obtain ⟨_, _, _, _, f⟩ := h
        exact f.elim
    | ok v s2 =>
      rw [h2, ER.bind_ok] at hP
      refine wpAny_mono (hv.run m1 τ s1 σ H1 (fun z H2 => ∃ m2, Ext X.K m1 H1 m2 H2 ∧ SS X.kw m2 s2 H2 ∧ RD X.K m2 H2 v z) (hL.mono (e0.trans e1)) hS1 ?_ pins _ I2) (fun w t2 hh => ?_) fun _ _ h => h
      · rw [h2]
        exact fun m' H' y e q r => ⟨m', e, q, r⟩
      obtain ⟨z, H2, I3, rw', m2, e2, hS2, rv⟩ := hh
      obtain ⟨q2, n2⟩ := J1 (e1.trans e2)
      have rk2 := rk.mono e2
      split at hP
      · rename_i hf
        have mu : Mut (H2 p) := by rw [q2]; exact True.intro
        refine dictSet_first (by omega) I3 q2 hf rk2 rv ru rw' fun o t3 I4 rc => ?_
        have pre : ∀ (n : Nat) (a : Addr), m2[n]? = some a → (m2 ++ [p])[n]? = some a := fun n a q => by
          rw [List.getElem?_append_left (List.getElem?_eq_some_iff.mp q).1]
          exact q
        have hS3 := SS.ownW hS2 n2 mu (rc _ pre)
        refine ⟨.ref p, _, I4, rfl, hP _ _ _ (Ext.ownW (K := X.kw) ((e0.trans e1).trans e2) hn n2 mu) hS3 (.ref ?_)⟩
        rw [← hS2.len]
        simp
      · exact hP.elim
end
end HM

/-! HM, part M: min of tuples. -/
namespace HM
open PySem PySem.Spec PyProof.Rows L2
section
open PySem.W PySem.Calls
variable {prog : Program} {w : World} {A : Around} {E : Value → Shared → Prop} {s : Shared}
theorem min_list_ix {l : Addr} {vs : Array Value} {ys : List PyData} {as : List Addr} {Q : Value → Shared → Prop} (hh : A.handled = none) (hl : s.heap.IsList l vs) (hr : ReadsAll s.heap vs.toList ys as) (hn : vs.size = ys.length) (h0 : 0 < ys.length) (ha : AlikeAll ys) (hu : A.units + 1 + PyData.depthAll ys < cLine)
    (h : ∀ v h' tk, vs[argBest (fun i j => PySem.W.dataLt (ys.getD i .none) (ys.getD j .none)) (ys.length - 1)]? = some v → (∀ b o, s.heap.get? b = some o → h'.get? b = some o) → Q v { s with heap := h', toks := tk }) :
    wpAny (model prog w) A (call (.builtin "min") [.ref l]) Q E s := by
  refine call_min_walkH (iter_listW (A := A.in1) hh hl fun s₂ e W st hfp hw hk => ?_)
  refine ⟨_, _, _, _, _, _, _, s.heap, _, rfl, W, st, hfp, by omega, hw, hk, cmpIn_lt (A := A.in1) hr ha (by show A.units + 1 + _ < _; exact hu), fun v s' hP m => ?_⟩
  obtain ⟨h', tk, rfl, hk'⟩ := moved_old e rfl m
  rw [hn] at hP
  exact h v h' tk hP hk'
theorem min_tuple_ix {l : Addr} {vs : Array Value} {ys : List PyData} {as : List Addr} {Q : Value → Shared → Prop} (hh : A.handled = none) (hl : s.heap.IsTuple l vs) (hr : ReadsAll s.heap vs.toList ys as) (hn : vs.size = ys.length) (h0 : 0 < ys.length) (ha : AlikeAll ys) (hu : A.units + 1 + PyData.depthAll ys < cLine)
    (h : ∀ v h' tk, vs[argBest (fun i j => PySem.W.dataLt (ys.getD i .none) (ys.getD j .none)) (ys.length - 1)]? = some v → (∀ b o, s.heap.get? b = some o → h'.get? b = some o) → Q v { s with heap := h', toks := tk }) :
    wpAny (model prog w) A (call (.builtin "min") [.ref l]) Q E s := by
  refine call_min_walkH (iter_tupleW (A := A.in1) hh hl fun s₂ e W st hfp hw hk => ?_)
  refine ⟨_, _, _, _, _, _, _, s.heap, _, rfl, W, st, hfp, by omega, hw, hk, cmpIn_lt (A := A.in1) hr ha (by show A.units + 1 + _ < _; exact hu), fun v s' hP m => ?_⟩
  obtain ⟨h', tk, rfl, hk'⟩ := moved_old e rfl m
  rw [hn] at hP
  exact h v h' tk hP hk'
end
section
open PySem.W PySem.Calls
variable {X : Cx} {W : WX} {e o a b c : Expr} {es : List Expr} {pos p : Pos} {f fo fa fb : EM D} {fs : EM (List D)}
/-- the place of the first of the least -/
def minIx (ds : List D) : Nat := argBest (fun i j => PySem.W.dataLt ((ds.getD i .non).toP 60) ((ds.getD j .non).toP 60)) (ds.length - 1)
def minable (xs : List D) : Bool := xs.all D.isTup && xs.all (D.plain 60) && xs.all fun x => xs.all fun y => PySem.W.alike (x.toP 60) (y.toP 60)
def gMinT : SM1 := fun xs st => match (intsD xs).bind minI with
  | some n => .ok (.int n) st
  | none => match minable xs, xs[minIx xs]? with
    | true, some d => .ok d st
    | _, _ => .bad
def rMinD (K : PySem.W.Frag) : List V → Hp → VK → Prop := fun xs H Q => ∃ (a : Addr) (bs : List (D × V)), xs = [.ref a] ∧ (SqL K H a (bs.map (·.2)) ∨ SqT K H a (bs.map (·.2))) ∧ (∀ b ∈ bs, Dp K H b.2 (b.1.toP 60) ∧ (b.1.toP 60).depth ≤ 60) ∧
  AlikeAll (bs.map fun b => b.1.toP 60) ∧ 0 < bs.length ∧ ∀ b, bs[minIx (bs.map (·.1))]? = some b → Q b.2 H
theorem depthAll_le {n : Nat} : ∀ {ys : List PyData}, (∀ y ∈ ys, y.depth ≤ n) → PyData.depthAll ys ≤ n
  | [], _ => by simp [PyData.depthAll]
  | y :: ys, h => by
    have h1 := h y (List.mem_cons_self ..)
    have h2 := depthAll_le (ys := ys) fun z hz => h z (List.mem_cons_of_mem _ hz)
    simp only [PyData.depthAll]
    omega
theorem cr_minD (hc : X.calm = true) (hu : X.A.units + 65 < cLine) : CallR X (.builtin "min") (rMinD X.K) := by
  intro pins s σ H vs us Q I r h
  obtain ⟨a, bs, rfl, hs, hb, hal, h0, q⟩ := h
  rw [Vals.ref1 r]
  have ee : ∀ its : List Value, Vals (bs.map (·.2)) its → EachIs (fun u (b : D × V) => RelV b.2 u) its bs := fun its rv => each_of (f := fun b : D × V => b.2) rv fun b _ u h => h
  have er : ∀ its : List Value, Vals (bs.map (·.2)) its → EachIs (fun v (b : D × V) => ∃ as, PySem.Reads s.heap v (b.1.toP 60) as) its bs := fun its rv => each_of (f := fun b : D × V => b.2) rv fun b hm u h => Dp.reads I _ _ _ (hb b hm).1 h
  have hd : PyData.depthAll (bs.map fun b => b.1.toP 60) ≤ 60 := depthAll_le fun y hy => by
    obtain ⟨b, hb', rfl⟩ := List.mem_map.mp hy
    exact (hb b hb').2
  have ix : argBest (fun i j => PySem.W.dataLt ((bs.map fun b => b.1.toP 60).getD i .none) ((bs.map fun b => b.1.toP 60).getD j .none)) ((bs.map fun b => b.1.toP 60).length - 1) = minIx (bs.map (·.1)) := by
    unfold minIx
    have g : ∀ i, (bs.map fun b => b.1.toP 60).getD i .none = ((bs.map (·.1)).getD i D.non).toP 60 := fun i => by
      simp only [List.getD_eq_getElem?_getD, List.getElem?_map]
      cases bs[i]? <;> simp [D.toP]
    simp only [g, List.length_map]
  have fin : ∀ its : List Value, Vals (bs.map (·.2)) its → ∀ v h' tk, its.toArray[minIx (bs.map (·.1))]? = some v → (∀ b o, s.heap.get? b = some o → h'.get? b = some o) → EP X pins σ Q v { s with heap := h', toks := tk } := fun its rv v h' tk hv hk => by
    have hv' : its[minIx (bs.map (·.1))]? = some v := by simpa using hv
    have len := EachIs.length (ee its rv)
    have hi := (List.getElem?_eq_some_iff.mp hv').1
    have hb' : bs[minIx (bs.map (·.1))]? = some bs[minIx (bs.map (·.1))] := List.getElem?_eq_getElem (by omega)
    obtain ⟨u, hu', ru⟩ := rv.get (i := minIx (bs.map (·.1))) (x := (bs[minIx (bs.map (·.1))]'(by omega)).2) (by rw [List.getElem?_map, hb']; rfl)
    rw [hv'] at hu'
    cases hu'
    exact ⟨_, H, I.kept hk, ru, q _ hb'⟩
  have sz : ∀ its : List Value, Vals (bs.map (·.2)) its → its.toArray.size = (bs.map fun b => b.1.toP 60).length := fun its rv => by
    have len := EachIs.length (ee its rv)
    simp
    omega
  have l0 : 0 < (bs.map fun b => b.1.toP 60).length := by rw [List.length_map]; exact h0
  rcases hs with hs | hs
  · obtain ⟨its, rv, hl, hz⟩ := I.list hs
    obtain ⟨as, ra⟩ := PySem.W.each_readsAll (fun b : D × V => b.1.toP 60) (er its rv)
    refine min_list_ix (vs := its.toArray) (I.ok.hd hc) hl.isList (by simpa using ra) (sz its rv) l0 hal (by omega) fun v h' tk hv hk => ?_
    rw [ix] at hv
    exact fin its rv v h' tk hv hk
  · obtain ⟨its, rv, hl, hz⟩ := I.tuple hs
    obtain ⟨as, ra⟩ := PySem.W.each_readsAll (fun b : D × V => b.1.toP 60) (er its rv)
    obtain ⟨ob, ho, hcl, n, hd'⟩ := hl
    refine min_tuple_ix (vs := its.toArray) (I.ok.hd hc) ⟨ob, ho, hcl, n, hd'⟩ (by simpa using ra) (sz its rv) l0 hal (by omega) fun v h' tk hv hk => ?_
    rw [ix] at hv
    exact fin its rv v h' tk hv hk
theorem sv_minD (hc : X.calm = true) (hu : X.A.units + 65 < cLine) : CallS X (.builtin "min") gMinT := ⟨_, ((cr_min hc).or (cr_minT hc)).or (cr_minD hc hu), fun m st H ds v E Q hS r hP => by
  obtain ⟨a, vs, rfl, q, rs⟩ := r
  unfold gMinT at hP
  split at hP
  · rename_i k hk
    cases hn : intsD ds with
    | none =>
      rw [hn] at hk
      cases hk
    | some ns =>
      rw [hn] at hk
      have hk : minI ns = some k := hk
      have e := intsD_V rs hn
      subst e
      have fin : ∀ mm, mm ∈ ns → (∀ y, y ∈ ns → mm ≤ y) → Q (.int mm) H := fun mm hm hy => by
        rw [min_uniq hk hm hy]
        exact hP.now hS (.int _)
      rcases q with q | q
      · exact .inl (.inl ⟨a, ns, rfl, q, minI_pos hk, fin⟩)
      · exact .inl (.inr ⟨a, ns, rfl, q.sq, minI_pos hk, fin⟩)
  · split at hP
    · rename_i d hm hd
      unfold minable at hm
      simp only [Bool.and_eq_true, List.all_eq_true] at hm
      obtain ⟨⟨h0, h1⟩, h2⟩ := hm
      obtain ⟨z1, z2, z3⟩ := rds_zip rs
      have hmem : ∀ b ∈ ds.zip vs, b.1 ∈ ds := fun b hb => by
        rw [← z1]
        exact List.mem_map_of_mem hb
      have hmap : (ds.zip vs).map (fun b => b.1.toP 60) = ds.map (D.toP 60) := by
        conv => rhs; rw [← z1]
        rw [List.map_map]
        rfl
      refine .inr ⟨a, ds.zip vs, rfl, by rw [z2]; exact q.imp id PlT.sq, fun b hb => ?_, ?_, ?_, fun b hb => ?_⟩
      · obtain ⟨a1, a2, a3⟩ := plain_dp 60 b.1 b.2 (h1 _ (hmem b hb)) (z3 b hb)
        exact ⟨a1, a3⟩
      · rw [hmap]
        refine ⟨fun d hd d' hd' => ?_, fun d hd => ?_⟩
        · obtain ⟨x, hx, rfl⟩ := List.mem_map.mp hd
          obtain ⟨y, hy, rfl⟩ := List.mem_map.mp hd'
          exact h2 x hx y hy
        · obtain ⟨x, hx, rfl⟩ := List.mem_map.mp hd
          exact toP_tup (h0 x hx)
      · have : (ds.zip vs).length = ds.length := by rw [← z1, List.length_map, z1]
        rw [this]
        have := (List.getElem?_eq_some_iff.mp hd).1
        omega
      · rw [z1] at hb
        have e : b.1 = d := by
          have : ((ds.zip vs).map (·.1))[minIx ds]? = some b.1 := by rw [List.getElem?_map, hb]; rfl
          rw [z1, hd] at this
          exact (Option.some.inj this).symm
        have rb := z3 b (List.mem_of_getElem? hb)
        rw [e] at rb
        exact hP.now hS rb
    · exact hP.elim⟩
/-! ### index -/
def mIndexT : MM := fun d ds st => match d, ds with
  | .tup xs, [.int k] => match intsD xs with
    | some ns => if k ∈ ns then .ok (.int (ns.idxOf k : Nat)) st else .bad
    | none => .bad
  | _, _ => .bad
theorem me_indexT : MethM X "tuple.index" mIndexT := ⟨fun v vs H Q => ∃ (p : Addr) (ns : List Int) (k : Int), v = .ref p ∧ vs = [.int k] ∧ SqT X.K H p (ns.map V.int) ∧ k ∈ ns ∧ Q (.int (ns.idxOf k : Nat)) H,
  fun pins s σ H x xs v us Q I r rs h => by
    obtain ⟨p, ns, k, rfl, rfl, hq, hk, q⟩ := h
    cases r
    obtain ⟨u, rfl, ru⟩ := vals1 rs
    obtain ⟨t, rfl⟩ := ru
    obtain ⟨its, rv, ⟨ob, ho, hc, n, hd⟩, hz⟩ := I.tuple hq
    exact PySem.SeqAt.tuple_index_ints (vs := its) ⟨ob, ho, hc, n, hd⟩ rv.ints hk ⟨.int _, H, I.tok _, ⟨_, rfl⟩, q⟩,
  fun m st H d v ds vs E Q hS r rs hP => by
    unfold mIndexT at hP
    split at hP
    · split at hP
      · rename_i ns hn
        split at hP
        · rename_i hk
          cases r with
          | tup q r2 =>
            obtain ⟨w, rfl, rw'⟩ := rs.one
            cases rw'
            have e := intsD_V r2 hn
            subst e
            exact ⟨_, ns, _, rfl, rfl, q.sq, hk, hP.now hS (.int _)⟩
        · exact hP.elim
      · exact hP.elim
    · exact hP.elim⟩
def mIndexL : MM := fun d ds st => match d, ds with
  | .ref n, [.int k] => match (lstAt st n).bind intsD with
    | some ns => if k ∈ ns then .ok (.int (ns.idxOf k : Nat)) st else .bad
    | none => .bad
  | _, _ => .bad
theorem me_indexL : MethM X "list.index" mIndexL := ⟨fun v vs H Q => ∃ (p : Addr) (ns : List Int) (k : Int), v = .ref p ∧ vs = [.int k] ∧ SqL X.K H p (ns.map V.int) ∧ k ∈ ns ∧ Q (.int (ns.idxOf k : Nat)) H,
  fun pins s σ H x xs v us Q I r rs h => by
    obtain ⟨p, ns, k, rfl, rfl, hq, hk, q⟩ := h
    cases r
    obtain ⟨u, rfl, ru⟩ := vals1 rs
    obtain ⟨t, rfl⟩ := ru
    obtain ⟨its, rv, hl, hz⟩ := I.list hq
    exact PySem.SeqAt.list_index_ints (vs := its) hl.isList rv.ints (by rw [← List.length_map (f := V.int)]; exact hz) hk ⟨.int _, H, I.tok _, ⟨_, rfl⟩, q⟩,
  fun m st H d v ds vs E Q hS r rs hP => by
    unfold mIndexL at hP
    split at hP
    · split at hP
      · rename_i ns hn
        split at hP
        · rename_i hk
          cases r with
          | ref q =>
            obtain ⟨w, rfl, rw'⟩ := rs.one
            cases rw'
            obtain ⟨xs, hx, hn⟩ := Option.bind_eq_some_iff.mp hn
            obtain ⟨us, h1, h2⟩ := hS.list hx q
            have e := intsD_V h2 hn
            subst e
            exact ⟨_, ns, _, rfl, rfl, SqL.of h1, hk, hP.now hS (.int _)⟩
        · exact hP.elim
      · exact hP.elim
    · exact hP.elim⟩
end
end HM

/-! HM, part S: how mirrors are computed (simp). -/
namespace HM
open PySem PySem.Spec PyProof.Rows L2
section
variable {α β : Type} {τ : Sl} {st : Store} {f g h fa fb fc fe fo fi : EM D} {fs : EM (List D)} {ga gb : EM Bool} {i n : Nat} {d : D} {u v : SM}
@[simp] theorem eVar_e (hh : τ[i]? = some (some d)) : eVar i τ st = .ok d st := by unfold eVar; rw [hh]
@[simp] theorem eC_e : eC d τ st = .ok d st := rfl
@[simp] theorem eBin_e {o : O2} : eBin o fa fb τ st = (fa τ st).bind fun x s1 => (fb τ s1).bind fun y s2 => o x y s2 := rfl
@[simp] theorem eUn_e {o : O1} : eUn o fa τ st = (fa τ st).bind o := rfl
@[simp] theorem tBl_e : tBl fa τ st = (fa τ st).bind dBl := rfl
@[simp] theorem dBl_e {b : Bool} : dBl (.bl b) st = .ok b st := rfl
def oTru (d : D) (st : Store) : ER Bool := match dTru st d with
  | some b => .ok b st
  | none => .bad
@[simp] theorem tVal_e : tVal fa τ st = (fa τ st).bind oTru := rfl
@[simp] theorem oTru_bl {b : Bool} : oTru (.bl b) st = .ok b st := rfl
@[simp] theorem oTru_int {k : Int} : oTru (.int k) st = .ok (k != 0) st := rfl
@[simp] theorem oTru_non : oTru .non st = .ok false st := rfl
@[simp] theorem oTru_tup {xs : List D} : oTru (.tup xs) st = .ok (!xs.isEmpty) st := rfl
@[simp] theorem tAnd_e : HM.tAnd ga gb τ st = (ga τ st).bind fun x s1 => if x then gb τ s1 else .ok false s1 := rfl
@[simp] theorem tOr_e : HM.tOr ga gb τ st = (ga τ st).bind fun x s1 => if x then .ok true s1 else gb τ s1 := rfl
@[simp] theorem tNot_e : HM.tNot ga τ st = (ga τ st).bind fun x s1 => .ok (!x) s1 := rfl
@[simp] theorem tYes_e : HM.tYes τ st = .ok true st := rfl
def oAndV (k : Store → ER D) (d : D) (st : Store) : ER D := match dTru st d with
  | some true => k st
  | some false => .ok d st
  | none => .bad
def oOrV (k : Store → ER D) (d : D) (st : Store) : ER D := match dTru st d with
  | some true => .ok d st
  | some false => k st
  | none => .bad
def oNotV (d : D) (st : Store) : ER D := match dTru st d with
  | some b => .ok (.bl !b) st
  | none => .bad
@[simp] theorem eAnd_e : eAnd fa fb τ st = (fa τ st).bind (oAndV (fb τ)) := rfl
@[simp] theorem eOr_e : eOr fa fb τ st = (fa τ st).bind (oOrV (fb τ)) := rfl
@[simp] theorem eNot_e : eNot fa τ st = (fa τ st).bind oNotV := rfl
@[simp] theorem oAndV_bl {k : Store → ER D} {b : Bool} : oAndV k (.bl b) st = if b then k st else .ok (.bl false) st := by cases b <;> rfl
@[simp] theorem oOrV_bl {k : Store → ER D} {b : Bool} : oOrV k (.bl b) st = if b then .ok (.bl true) st else k st := by cases b <;> rfl
@[simp] theorem oNotV_bl {b : Bool} : oNotV (.bl b) st = .ok (.bl !b) st := rfl
@[simp] theorem eIf_e : eIf ga fa fb τ st = (ga τ st).bind fun x s1 => if x then fa τ s1 else fb τ s1 := rfl
@[simp] theorem aNil_e : aNil τ st = .ok [] st := rfl
@[simp] theorem aCons_e : aCons f fs τ st = (f τ st).bind fun x s1 => (fs τ s1).bind fun xs s2 => .ok (x :: xs) s2 := rfl
@[simp] theorem eTup_e : eTup fs τ st = (fs τ st).bind fun xs s1 => if xs.length ≤ 16777216 then .ok (.tup xs) s1 else .bad := rfl
@[simp] theorem eLst_e : eLst fs τ st = (fs τ st).bind fun xs s1 => if xs.length ≤ 16777216 then .ok (.ref s1.length) (s1 ++ [.lst xs]) else .bad := rfl
@[simp] theorem eCall_e {mf : FM} : eCall n mf fs τ st = (fs τ st).bind fun ds s1 => if ds.length = n then mf ds s1 else .bad := rfl
@[simp] theorem eCB_e {mf : FM} : eCB mf fs τ st = (fs τ st).bind mf := rfl
@[simp] theorem eCS_e {g : SM1} : eCS g fs τ st = (fs τ st).bind g := rfl
@[simp] theorem eEl_e : eEl fs τ st = (fs τ st).bind fun ds s1 => .ok (.ref s1.length) (s1 ++ [.lst ds]) := rfl
def oSeq (d : D) (st : Store) : ER (List D) := match dSeq st d with
  | some xs => .ok xs st
  | none => .bad
@[simp] theorem sEx_e : sEx f τ st = (f τ st).bind oSeq := rfl
@[simp] theorem oSeq_tup {xs : List D} : oSeq (.tup xs) st = .ok xs st := rfl
@[simp] theorem oSeq_rol {xs : List D} : oSeq (.rol xs) st = .ok xs st := rfl
@[simp] theorem eChain_e {o o' : O2} : eChain o o' fa fb fc τ st = (fa τ st).bind fun x s1 => (fb τ s1).bind fun y s2 => (o x y s2).bind fun z s3 => match z with
  | .bl true => (fc τ s3).bind fun w s4 => o' y w s4
  | .bl false => .ok (.bl false) s3
  | _ => .bad := rfl
/-! values -/
@[simp] theorem oAdd_int {i j : Int} : oAdd (.int i) (.int j) st = .ok (.int (i + j)) st := rfl
@[simp] theorem oIAdd_int {i j : Int} : oIAdd (.int i) (.int j) st = .ok (.int (i + j)) st := rfl
@[simp] theorem oAdd_str {a b : List Nat} : oAdd (.str a) (.str b) st = if a.length + b.length ≤ 16777216 then .ok (.str (a ++ b)) st else .bad := rfl
@[simp] theorem oAdd_tup {a b : List D} : oAdd (.tup a) (.tup b) st = if a.length + b.length ≤ 16777216 then .ok (.tup (a ++ b)) st else .bad := rfl
@[simp] theorem oInt_e {i j : Int} {k : Int → Int → Int} : oInt k (.int i) (.int j) st = .ok (.int (k i j)) st := rfl
@[simp] theorem oIntC_e {i j : Int} {C : Int → Int → Bool} {k : Int → Int → Int} (hc : C i j = true) : oIntC C k (.int i) (.int j) st = .ok (.int (k i j)) st := by
  show (if C i j = true then _ else _) = _
  rw [if_pos hc]
@[simp] theorem oCmp_e {i j : Int} {k : Int → Int → Bool} : oCmp k (.int i) (.int j) st = .ok (.bl (k i j)) st := rfl
@[simp] theorem oNeg_e {i : Int} : oNeg (.int i) st = .ok (.int (-i)) st := rfl
@[simp] theorem oEq_int {i j : Int} : oEq (.int i) (.int j) st = .ok (.bl (decide (i = j))) st := rfl
@[simp] theorem oNe_int {i j : Int} : oNe (.int i) (.int j) st = .ok (.bl !(decide (i = j))) st := rfl
@[simp] theorem oEq_str {a b : List Nat} : oEq (.str a) (.str b) st = .ok (.bl (decide (a = b))) st := rfl
@[simp] theorem oNe_str {a b : List Nat} : oNe (.str a) (.str b) st = .ok (.bl !(decide (a = b))) st := rfl
@[simp] theorem oEq_bl {a b : Bool} : oEq (.bl a) (.bl b) st = .ok (.bl (decide (a = b))) st := rfl
@[simp] theorem oNe_bl {a b : Bool} : oNe (.bl a) (.bl b) st = .ok (.bl !(decide (a = b))) st := rfl
@[simp] theorem oEq_tup {a b : List D} (ha : (D.tup a).plain 60 = true) (hb : (D.tup b).plain 60 = true) : oEq (.tup a) (.tup b) st = .ok (.bl (decide (a = b))) st := by
  simp [oEq, dEq, D.pd, ha, hb]
@[simp] theorem oNe_tup {a b : List D} (ha : (D.tup a).plain 60 = true) (hb : (D.tup b).plain 60 = true) : oNe (.tup a) (.tup b) st = .ok (.bl !(decide (a = b))) st := by
  simp [oNe, dEq, D.pd, ha, hb]
@[simp] theorem plain_tup {n : Nat} {xs : List D} : (D.tup xs).plain (n + 1) = xs.all (D.plain n) := rfl
@[simp] theorem plain_int {n : Nat} {k : Int} : (D.int k).plain n = true := by cases n <;> rfl
@[simp] theorem plain_non {n : Nat} : D.non.plain n = true := by cases n <;> rfl
@[simp] theorem plain_str {n : Nat} {x : List Nat} : (D.str x).plain n = x.all fun c => decide (c < 1114112) := by cases n <;> rfl
@[simp] theorem oIs_bl {a b : Bool} : oIs (.bl a) (.bl b) st = .ok (.bl (decide (a = b))) st := rfl
@[simp] theorem oIsNot_bl {a b : Bool} : oIsNot (.bl a) (.bl b) st = .ok (.bl !(decide (a = b))) st := rfl
@[simp] theorem oIs_non : oIs .non .non st = .ok (.bl true) st := rfl
@[simp] theorem oIs_int {i : Int} : oIs (.int i) .non st = .ok (.bl false) st := rfl
@[simp] theorem oIs_tup {xs : List D} : oIs (.tup xs) .non st = .ok (.bl false) st := rfl
@[simp] theorem oIsNot_non : oIsNot .non .non st = .ok (.bl false) st := rfl
@[simp] theorem oIsNot_int {i : Int} : oIsNot (.int i) .non st = .ok (.bl true) st := rfl
@[simp] theorem oIsNot_tup {xs : List D} : oIsNot (.tup xs) .non st = .ok (.bl true) st := rfl
def ofO (st : Store) : Option D → ER D
  | some d => .ok d st
  | none => .bad
@[simp] theorem ofO_some : ofO st (some d) = .ok d st := rfl
@[simp] theorem oIx_tup {xs : List D} {k : Int} : oIx (.tup xs) (.int k) st = ofO st (atI xs k) := by
  unfold oIx oIxS ofO
  simp only <;> (split <;> simp_all)
theorem oIx_ref {xs : List D} {m : Nat} {k : Int} (hh : lstAt st m = some xs) : oIx (.ref m) (.int k) st = ofO st (atI xs k) := by
  unfold oIx oIxS ofO
  simp only [dct_lst hh, hh] <;> (split <;> simp_all)
/-- d[k] -/
theorem oIx_dct {kvs : List (D × D)} {m : Nat} {k d : D} (hh : dctAt st m = some kvs) (hf : keyFit kvs k = true) (hg : dGet kvs k = some d) : oIx (.ref m) k st = .ok d st := by
  unfold oIx
  simp only [hh, hf, hg, if_true]
@[simp] theorem oLt_int {i j : Int} : oLt (.int i) (.int j) st = .ok (.bl (decide (i < j))) st := rfl
@[simp] theorem eDct_e : eDct τ st = .ok (.ref st.length) (st ++ [.dct []]) := rfl
@[simp] theorem atI_0 {α : Type} {x : α} {xs : List α} : atI (x :: xs) 0 = some x := by simp [atI, ixN]
@[simp] theorem atI_1 {α : Type} {x y : α} {xs : List α} : atI (x :: y :: xs) 1 = some y := atI_nat (j := 1) rfl
@[simp] theorem atI_2 {α : Type} {x y z : α} {xs : List α} : atI (x :: y :: z :: xs) 2 = some z := atI_nat (j := 2) rfl
@[simp] theorem atI_3 {α : Type} {x y z w : α} {xs : List α} : atI (x :: y :: z :: w :: xs) 3 = some w := atI_nat (j := 3) rfl
/-! built-ins -/
@[simp] theorem fInt_int {i : Int} : fInt [.int i] st = .ok (.int i) st := rfl
@[simp] theorem fInt_bl {b : Bool} : fInt [.bl b] st = .ok (.int (if b then 1 else 0)) st := rfl
@[simp] theorem fAbs_e {i : Int} : fAbs [.int i] st = .ok (.int (i.natAbs : Nat)) st := rfl
@[simp] theorem fGcd_e {i j : Int} : fGcd [.int i, .int j] st = .ok (.int (Nat.gcd i.natAbs j.natAbs : Nat)) st := rfl
@[simp] theorem fLen_tup {xs : List D} : fLen [.tup xs] st = .ok (.int xs.length) st := rfl
@[simp] theorem fLen_rol {xs : List D} : fLen [.rol xs] st = .ok (.int xs.length) st := rfl
theorem fLen_ref {xs : List D} {m : Nat} (hh : lstAt st m = some xs) : fLen [.ref m] st = .ok (.int xs.length) st := by simp [fLen, fLenS, dSeq, hh, dct_lst hh]
theorem fLen_dct {kvs : List (D × D)} {m : Nat} (hh : dctAt st m = some kvs) : fLen [.ref m] st = .ok (.int kvs.length) st := by simp [fLen, hh]
@[simp] theorem fTuple_tup {xs : List D} : fTuple [.tup xs] st = .ok (.tup xs) st := rfl
theorem fTuple_ref {xs : List D} {m : Nat} (hh : lstAt st m = some xs) : fTuple [.ref m] st = .ok (.tup xs) st := by simp [fTuple, dSeq, hh]
@[simp] theorem gTuple_e {xs : List D} : gTuple xs st = .ok (.tup xs) st := rfl
@[simp] theorem gLen_e {xs : List D} : gLen xs st = .ok (.int xs.length) st := rfl
@[simp] theorem fMin2_e {i j : Int} : fMin2 [.int i, .int j] st = .ok (.int (if j < i then j else i)) st := rfl
@[simp] theorem fMax2_e {i j : Int} : fMax2 [.int i, .int j] st = .ok (.int (if j > i then j else i)) st := rfl
theorem fIsi_e {t c : String} {b : Bool} (h1 : dTy st d = some t) (h2 : isiT t c = some b) : fIsi [d, .ty c] st = .ok (.bl b) st := by simp [fIsi, h1, h2]
theorem isi1 : isiT "int" "int" = some true := by decide +kernel
theorem isi2 : isiT "int" "bool" = some false := by decide +kernel
theorem isi3 : isiT "bool" "int" = some true := by decide +kernel
theorem isi4 : isiT "bool" "bool" = some true := by decide +kernel
theorem isi5 : isiT "tuple" "tuple" = some true := by decide +kernel
theorem isi6 : isiT "tuple" "int" = some false := by decide +kernel
theorem isi7 : isiT "str" "str" = some true := by decide +kernel
theorem isi8 : isiT "str" "int" = some false := by decide +kernel
theorem isi9 : isiT "NoneType" "int" = some false := by decide +kernel
@[simp] theorem fIsi_ii {i : Int} : fIsi [.int i, .ty "int"] st = .ok (.bl true) st := fIsi_e rfl isi1
@[simp] theorem fIsi_ib {i : Int} : fIsi [.int i, .ty "bool"] st = .ok (.bl false) st := fIsi_e rfl isi2
@[simp] theorem fIsi_bi {i : Bool} : fIsi [.bl i, .ty "int"] st = .ok (.bl true) st := fIsi_e rfl isi3
@[simp] theorem fIsi_bb {i : Bool} : fIsi [.bl i, .ty "bool"] st = .ok (.bl true) st := fIsi_e rfl isi4
@[simp] theorem fIsi_tt {xs : List D} : fIsi [.tup xs, .ty "tuple"] st = .ok (.bl true) st := fIsi_e rfl isi5
@[simp] theorem fIsi_ti {xs : List D} : fIsi [.tup xs, .ty "int"] st = .ok (.bl false) st := fIsi_e rfl isi6
@[simp] theorem fIsi_ss {x : List Nat} : fIsi [.str x, .ty "str"] st = .ok (.bl true) st := fIsi_e rfl isi7
@[simp] theorem fIsi_si {x : List Nat} : fIsi [.str x, .ty "int"] st = .ok (.bl false) st := fIsi_e rfl isi8
@[simp] theorem fIsi_ni : fIsi [.non, .ty "int"] st = .ok (.bl false) st := fIsi_e rfl isi9
/-! statements -/
def SR.seq (r : SR) (k : SM) : SR := match r with
  | .nx τ s => k τ s
  | r => r
@[simp] theorem seq_nx {k : SM} : (SR.nx τ st).seq k = k τ st := rfl
@[simp] theorem seq_rt {k : SM} : (SR.rt d st).seq k = .rt d st := rfl
@[simp] theorem seq_bad {k : SM} : SR.bad.seq k = .bad := rfl
@[simp] theorem seq_exc {x : Xc} {k : SM} : (SR.exc x τ st).seq k = .exc x τ st := rfl
@[simp] theorem seq_bk {k : SM} : (SR.bk τ st).seq k = .bk τ st := rfl
@[simp] theorem seq_ct {k : SM} : (SR.ct τ st).seq k = .ct τ st := rfl
@[simp] theorem sSeq_e : sSeq u v τ st = (u τ st).seq v := by
  unfold sSeq SR.seq
  rfl
@[simp] theorem sNil_e : sNil τ st = .nx τ st := rfl
@[simp] theorem sIf_e : sIf ga u v τ st = bindE (ga τ st) τ fun b s1 => if b then u τ s1 else v τ s1 := rfl
@[simp] theorem sSet_e : sSet i fe τ st = bindE (fe τ st) τ fun d s1 => .nx (τ.set i (some d)) s1 := rfl
@[simp] theorem sRet_e : sRet fe τ st = bindE (fe τ st) τ fun d s1 => .rt d s1 := rfl
@[simp] theorem sRetN_e : sRetN τ st = .rt .non st := rfl
@[simp] theorem sExpr_e : sExpr fe τ st = bindE (fe τ st) τ fun _ s1 => .nx τ s1 := rfl
@[simp] theorem sRaise_e {x : Xc} : sRaise x τ st = .exc x τ st := rfl
@[simp] theorem sBrk_e : sBrk τ st = .bk τ st := rfl
@[simp] theorem sCnt_e : sCnt τ st = .ct τ st := rfl
@[simp] theorem bindE_bind {r : ER α} {k : α → Store → ER β} {k' : β → Store → SR} : bindE (r.bind k) τ k' = bindE r τ fun a s => bindE (k a s) τ k' := by cases r <;> rfl
@[simp] theorem bind_bind {γ : Type} {r : ER α} {k : α → Store → ER β} {k' : β → Store → ER γ} : (r.bind k).bind k' = r.bind fun a s => (k a s).bind k' := by cases r <;> rfl
@[simp] theorem bind_ite {c : Prop} [Decidable c] {r r' : ER α} {k : α → Store → ER β} : (if c then r else r').bind k = if c then r.bind k else r'.bind k := by split <;> rfl
@[simp] theorem bindE_ite {c : Prop} [Decidable c] {r r' : ER α} {k : α → Store → SR} : bindE (if c then r else r') τ k = if c then bindE r τ k else bindE r' τ k := by split <;> rfl
def SR.fin : SR → ER D
  | .nx _ s => .ok .non s
  | .rt d s => .ok d s
  | .exc x _ s => .exc x s
  | _ => .bad
@[simp] theorem fin_nx : (SR.nx τ st).fin = .ok .non st := rfl
@[simp] theorem fin_rt : (SR.rt d st).fin = .ok d st := rfl
@[simp] theorem fin_exc {x : Xc} : (SR.exc x τ st).fin = .exc x st := rfl
@[simp] theorem fin_bad : SR.bad.fin = .bad := rfl
theorem runB_e {ds : List D} : runB n u ds st = (u (ent n ds) st).fin := rfl
@[simp] theorem fin_ite {c : Prop} [Decidable c] {r r' : SR} : (if c then r else r').fin = if c then r.fin else r'.fin := by split <;> rfl
@[simp] theorem seq_ite {c : Prop} [Decidable c] {r r' : SR} {k : SM} : (if c then r else r').seq k = if c then r.seq k else r'.seq k := by split <;> rfl
@[simp] theorem ent_0 : ent n [] = List.replicate n none := by simp [ent]
@[simp] theorem ent_cons {x : D} {xs : List D} : ent (n + 1) (x :: xs) = some x :: ent n xs := by
  simp [ent]
end
end HM

/-! HM, part T: lists written to, loops, the draws' store. -/
namespace HM
open PySem PySem.Spec PyProof.Rows L2
section
variable {α β : Type} {τ : Sl} {st : Store} {f g h fa fb fc fe fo fi : EM D} {fs : EM (List D)} {ga gb : EM Bool} {i n m : Nat} {d v : D} {xs ys : List D} {u w : SM}
theorem lstAt_set (hh : lstAt st n = some xs) : lstAt (st.set n (.lst ys)) n = some ys := by
  have : n < st.length := by
    unfold lstAt at hh
    split at hh
    · rename_i e
      exact (List.getElem?_eq_some_iff.mp e).1
    · cases hh
  simp [lstAt, this]
theorem lstAt_ne {c : Cell} (hh : m ≠ n) : lstAt (st.set n c) m = lstAt st m := by
  unfold lstAt
  rw [List.getElem?_set_ne (Ne.symm hh)]
theorem oSet_ref {k : Int} {j : Nat} (hh : lstAt st m = some xs) (hj : ixN xs.length k = some j) : oSet (.ref m) (.int k) v st = some (st.set m (.lst (xs.set j v))) := by
  simp [oSet, oSetS, dct_lst hh, hh, hj]
theorem oSet_dct {kvs : List (D × D)} {k : D} (hh : dctAt st m = some kvs) (hf : keyFit kvs k = true) (hl : kvs.length < 16777216) : oSet (.ref m) k v st = some (st.set m (.dct (dPut kvs k v))) := by
  simp [oSet, hh, hf, hl]
theorem oGetL_ref {k : Int} (hh : lstAt st m = some xs) : oGetL (.ref m) (.int k) st = ofO st (atI xs k) := by
  unfold oGetL oGetLS ofO
  simp only [dct_lst hh, hh] <;> (split <;> simp_all)
def ofS (τ : Sl) : Option Store → SR
  | some s => .nx τ s
  | none => .bad
@[simp] theorem ofS_some : ofS τ (some st) = .nx τ st := rfl
@[simp] theorem sSub_e : sSub fo fi fe τ st = bindE (fe τ st) τ fun v s1 => bindE (fo τ s1) τ fun o s2 => bindE (fi τ s2) τ fun i s3 => ofS τ (oSet o i v s3) := by
  unfold sSub ofS
  rfl
@[simp] theorem sAugS_e {o : O2} : sAugS o fo fi fe τ st = bindE (fo τ st) τ fun x s1 => bindE (fi τ s1) τ fun i s2 => bindE (oGetL x i s2) τ fun y s3 => bindE (fe τ s3) τ fun z s4 => bindE (o y z s4) τ fun v s5 => ofS τ (oSet x i v s5) := by
  unfold sAugS ofS
  rfl
theorem sAug_e {o : O2} (hh : τ[i]? = some (some d)) : sAug i o fe τ st = bindE (fe τ st) τ fun y s1 => bindE (o d y s1) τ fun z s2 => .nx (τ.set i (some z)) s2 := by
  unfold sAug
  rw [hh]
def ofA (set : D → Sl → Option Sl) (τ : Sl) (d : D) (st : Store) : SR := match set d τ with
  | some τ1 => .nx τ1 st
  | none => .bad
@[simp] theorem sAsg_e {set : D → Sl → Option Sl} : sAsg set fe τ st = bindE (fe τ st) τ (ofA set τ) := rfl
@[simp] theorem okMul_l {i j : Int} (hh : i.natAbs < 18446744073709551616) : okMul i j = true := decide_eq_true (.inl (.inl hh))
@[simp] theorem okMul_r {i j : Int} (hh : j.natAbs < 18446744073709551616) : okMul i j = true := decide_eq_true (.inl (.inr hh))
theorem okMod_of {i j : Int} (hh : j ≠ 0) : okMod i j = true := decide_eq_true hh
theorem okDiv_of {i j : Int} (hh : j ≠ 0) (h2 : j.natAbs.log2 < 9000) : okDiv i j = true := decide_eq_true ⟨hh, h2⟩
theorem log2_le {x k : Nat} (h : x < 2 ^ k) : x.log2 ≤ k := by
  by_cases z : x = 0
  · subst z
    exact Nat.zero_le _
  · exact Nat.le_of_lt ((Nat.log2_lt z).mpr h)
/-! for loops -/
theorem sFor_e {fi : EM Sq} {set : D → Sl → Option Sl} : sFor fi set u τ st = bindE (fi τ st) τ fun q s1 => forL q set u q.items τ s1 := rfl
def ofQ (st : Store) : Option Sq → ER Sq
  | some q => .ok q st
  | none => .bad
@[simp] theorem ofQ_some {q : Sq} : ofQ st (some q) = .ok q st := rfl
@[simp] theorem iEx_e : iEx f τ st = (f τ st).bind fun d s1 => ofQ s1 (dSq s1 d) := by
  unfold iEx ofQ
  rfl
@[simp] theorem dSq_tup : dSq st (.tup xs) = some (.fix xs) := rfl
@[simp] theorem dSq_rol : dSq st (.rol xs) = some (.fix xs) := rfl
theorem dSq_ref (hh : lstAt st n = some xs) : dSq st (.ref n) = some (.cell n xs) := by simp [dSq, hh]
@[simp] theorem items_fix : (Sq.fix xs).items = xs := rfl
@[simp] theorem items_cell : (Sq.cell n xs).items = xs := rfl
@[simp] theorem iEl_e : iEl fs τ st = (fs τ st).bind fun xs s1 => .ok (.fix xs) s1 := rfl
def rg1 (d : D) (st : Store) : ER Sq := match d with
  | .int j => if okRng j then .ok (.fix (rng 0 j)) st else .bad
  | _ => .bad
def rg2 (d e : D) (st : Store) : ER Sq := match d, e with
  | .int i, .int j => if okRng i && okRng j then .ok (.fix (rng i j)) st else .bad
  | _, _ => .bad
@[simp] theorem iRg1_e : iRg1 f τ st = (f τ st).bind rg1 := rfl
@[simp] theorem iRg2_e : iRg2 fa fb τ st = (fa τ st).bind fun d s1 => (fb τ s1).bind fun e s2 => rg2 d e s2 := rfl
theorem okRng_of {j : Int} (hh : j.natAbs < 4611686018427387904) : okRng j = true := decide_eq_true hh
theorem rg1_int {j : Int} (hh : j.natAbs < 4611686018427387904) : rg1 (.int j) st = .ok (.fix (rng 0 j)) st := by simp [rg1, okRng_of hh]
theorem rg2_int {i j : Int} (hi : i.natAbs < 4611686018427387904) (hh : j.natAbs < 4611686018427387904) : rg2 (.int i) (.int j) st = .ok (.fix (rng i j)) st := by simp [rg2, okRng_of hh, okRng_of hi]
/-- a loop, by an invariant -/
theorem for_inv {set : D → Sl → Option Sl} {q : Sq} (P : Nat → Sl → Store → Prop) (hc : ∀ k τ st, P k τ st → q.chk st = true) :
    ∀ (xs : List D) (k : Nat) (τ : Sl) (st : Store), P k τ st →
    (∀ i d τ st, xs[i]? = some d → P (k + i) τ st → ∃ τ1, set d τ = some τ1 ∧ ∃ τ2 s2, (u τ1 st = .nx τ2 s2 ∨ u τ1 st = .ct τ2 s2) ∧ P (k + i + 1) τ2 s2) →
    ∃ τ' st', forL q set u xs τ st = .nx τ' st' ∧ P (k + xs.length) τ' st'
  | [], k, τ, st, h0, _ => ⟨τ, st, by
      unfold forL
      rw [if_pos (hc _ _ _ h0)], h0⟩
  | d :: ds, k, τ, st, h0, hs => by
    obtain ⟨τ1, e1, τ2, s2, e2, h2⟩ := hs 0 d τ st rfl h0
    obtain ⟨τ', st', e3, h3⟩ := for_inv (q := q) P hc ds (k + 1) τ2 s2 h2 fun i d τ st hi hp => by
      have := hs (i + 1) d τ st hi (by rwa [show k + (i + 1) = k + 1 + i by omega])
      rwa [show k + (i + 1) + 1 = k + 1 + i + 1 by omega] at this
    refine ⟨τ', st', ?_, ?_⟩
    · unfold forL
      rw [if_pos (hc _ _ _ h0), e1]
      rcases e2 with e2 | e2 <;> simp only [e2, e3]
    · rw [List.length_cons]
      rwa [show k + (ds.length + 1) = k + 1 + ds.length by omega]
/-! comprehensions -/
def lc1 (own : List Nat) (set : D → Sl → Option Sl) (ft : EM Bool) (fe : EM D) (τ : Sl) (q : Sq) (st : Store) : ER (List D) := if q.items.length ≤ 16777216 then compL q set ft fe (wipeD τ own) q.items [] st else .bad
theorem lComp_e {own : List Nat} {fi : EM Sq} {set : D → Sl → Option Sl} {ft : EM Bool} : lComp own fi set ft fe τ st = (fi τ st).bind (lc1 own set ft fe τ) := rfl
/-- a comprehension without tests -/
theorem comp_inv {set : D → Sl → Option Sl} {q : Sq} (P : List D → Store → Prop) (hc : ∀ acc st, P acc st → q.chk st = true) :
    ∀ (xs acc : List D) (st : Store), P acc st →
    (∀ i d acc' st, xs[i]? = some d → acc'.length = acc.length + i → P acc' st → ∃ τ1, set d τ = some τ1 ∧ ∃ x s2, fe τ1 st = .ok x s2 ∧ P (acc' ++ [x]) s2) →
    ∃ ys st', compL q set tYes fe τ xs acc st = .ok ys st' ∧ P ys st' ∧ ys.length = acc.length + xs.length
  | [], acc, st, h0, _ => ⟨acc, st, by
      unfold compL
      rw [if_pos (hc _ _ h0)], h0, rfl⟩
  | d :: ds, acc, st, h0, hs => by
    obtain ⟨τ1, e1, x, s2, e2, h2⟩ := hs 0 d acc st rfl rfl h0
    obtain ⟨ys, st', e3, h3, h4⟩ := comp_inv (q := q) P hc ds (acc ++ [x]) s2 h2 fun i d acc' st hi ha hp => hs (i + 1) d acc' st hi (by simp at ha; omega) hp
    refine ⟨ys, st', ?_, h3, by simp at h4; simp; omega⟩
    unfold compL
    rw [if_pos (hc _ _ h0), e1]
    simp only [tYes, ER.bindN_ok, if_true, e2]
    exact e3
end
/-! the draws' store: cell 0 holds the script's numbers, cell 1 the place -/
structure DS (ns : List Int) (st : Store) : Prop where
  c0 : lstAt st 0 = some (ns.map D.int)
  c1 : ∃ p h q : Int, 0 ≤ p ∧ lstAt st 1 = some [.ref 0, .int p, .int h, .int q]
/-- what a draw may change -/
structure Fr (a b : Store) : Prop where
  len : a.length ≤ b.length
  at' : ∀ n, n ≠ 1 → n < a.length → b[n]? = a[n]?
theorem Fr.refl {a : Store} : Fr a a := ⟨Nat.le_refl _, fun _ _ _ => rfl⟩
theorem Fr.trans {a b c : Store} (x : Fr a b) (y : Fr b c) : Fr a c := ⟨Nat.le_trans x.len y.len, fun n h1 h2 => (y.at' n h1 (Nat.lt_of_lt_of_le h2 x.len)).trans (x.at' n h1 h2)⟩
theorem Fr.lst {a b : Store} {n : Nat} {xs : List D} (x : Fr a b) (h : lstAt a n = some xs) (hn : n ≠ 1) : lstAt b n = some xs := by
  have := x.at' n hn (lstAt_lt h)
  unfold lstAt at h ⊢
  rwa [this]
theorem Fr.app {a : Store} {c : Cell} : Fr a (a ++ [c]) := ⟨by simp, fun n _ h => by rw [List.getElem?_append_left h]⟩
theorem DS.app {ns : List Int} {st : Store} {c : Cell} (h : DS ns st) : DS ns (st ++ [c]) := by
  obtain ⟨c0, p, hh, q, hp, c1⟩ := h
  exact ⟨by rw [lstAt_left (lstAt_lt c0)]; exact c0, p, hh, q, hp, by rw [lstAt_left (lstAt_lt c1)]; exact c1⟩
end HM

/-! HM, part U: how the mirrors of parts 10 to 12 are computed. -/
namespace HM
open PySem PySem.Spec PyProof.Rows L2
section
variable {τ : Sl} {st : Store} {f g fo fi : EM D} {fs : EM (List D)} {fl fh : EM (Option Int)} {i n m : Nat} {d v x : D} {xs ys : List D}
@[simp] theorem eM_e {T : String} {g : MM} : eM T g fo fs τ st = (fo τ st).bind fun d s1 => if okT T s1 d then (fs τ s1).bind fun ds s2 => g d ds s2 else .bad := rfl
theorem okT_ref (hh : lstAt st n = some xs) : okT "list" st (.ref n) = true := by simp [okT, hh]
@[simp] theorem okT_str {z : List Nat} : okT "str" st (.str z) = true := rfl
theorem mAppend_ref (hh : lstAt st n = some xs) (hl : xs.length < 16777216) : mAppend (.ref n) [x] st = .ok .non (st.set n (.lst (xs ++ [x]))) := by simp [mAppend, hh, hl]
theorem mInsert_ref {k : Nat} (hh : lstAt st n = some xs) (hl : xs.length < 16777216) (hk : k < 9223372036854775808) : mInsert (.ref n) [.int k, x] st = .ok .non (st.set n (.lst (xs.take k ++ [x] ++ xs.drop k))) := by
  have h2 : okIx (k : Int) = true := decide_eq_true (by omega)
  simp [mInsert, hh, hl, h2]
theorem mExtend_ref (hh : lstAt st n = some xs) (h2 : lstAt st m = some ys) (hl : xs.length + ys.length ≤ 16777216) : mExtend (.ref n) [.ref m] st = .ok .non (st.set n (.lst (xs ++ ys))) := by simp [mExtend, hh, h2, hl]
theorem mPop_ref (hh : lstAt st n = some (xs ++ [x])) : mPop (.ref n) [] st = .ok x (st.set n (.lst xs)) := by simp [mPop, hh]
theorem mJoin_tup {a : List Nat} {ys : List (List Nat)} (hl : (ys.map List.length).sum + ys.length * a.length ≤ 16777216) : mJoin (.str a) [.tup (ys.map D.str)] st = .ok (.str (joinD a ys)) st := by
  simp [mJoin, dSeq, strsD_map, hl]
theorem mJoin_ref {a : List Nat} {ys : List (List Nat)} (hh : lstAt st n = some (ys.map D.str)) (hl : (ys.map List.length).sum + ys.length * a.length ≤ 16777216) : mJoin (.str a) [.ref n] st = .ok (.str (joinD a ys)) st := by
  simp [mJoin, dSeq, hh, strsD_map, hl]
def ofB (st : Store) : Option Bool → ER D
  | some b => .ok (.bl b) st
  | none => .bad
@[simp] theorem ofB_some {b : Bool} : ofB st (some b) = .ok (.bl b) st := rfl
@[simp] theorem oIn_e : oIn x v st = ofB st (dIn x v st) := by
  unfold oIn ofB
  rfl
@[simp] theorem oNotIn_e : oNotIn x v st = ofB st ((dIn x v st).map fun b => !b) := by
  unfold oNotIn ofB
  cases dIn x v st <;> rfl
@[simp] theorem dIn_sign {c : Nat} {z : List Nat} : dIn (.str [c]) (.str z) st = some (decide (c ∈ z)) := rfl
theorem dIn_S (hy : dSeq st v = some ys) : dIn x v st = dInS x v st := by
  unfold dIn
  cases v with
  | ref n => simp only [dct_lst (show lstAt st n = some ys from hy)]
  | _ => rfl
theorem dIn_dct {kvs : List (D × D)} (hh : dctAt st n = some kvs) (hf : keyFit kvs x = true) : dIn x (.ref n) st = some (dGet kvs x).isSome := by
  unfold dIn
  simp only [hh, hf, if_true]
theorem dIn_flat (hy : dSeq st v = some ys) (h1 : x.flat = true) (h2 : ys.all D.flat = true) : dIn x v st = some (ys.any fun y => eqF y x) := by
  rw [dIn_S hy]
  unfold dInS
  split
  · rename_i c z
    cases hy
  · simp [hy, h1, h2]
@[simp] theorem dSeq_tup : dSeq st (.tup xs) = some xs := rfl
@[simp] theorem dSeq_rol : dSeq st (.rol xs) = some xs := rfl
theorem dSeq_ref (hh : lstAt st n = some xs) : dSeq st (.ref n) = some xs := hh
@[simp] theorem flat_int {k : Int} : (D.int k).flat = true := rfl
@[simp] theorem flat_str {k : List Nat} : (D.str k).flat = true := rfl
@[simp] theorem flat_bl {k : Bool} : (D.bl k).flat = true := rfl
@[simp] theorem flat_non : D.non.flat = true := rfl
@[simp] theorem eqF_int {a b : Int} : eqF (.int a) (.int b) = decide (a = b) := rfl
@[simp] theorem eqF_str {a b : List Nat} : eqF (.str a) (.str b) = decide (a = b) := rfl
@[simp] theorem dIn_tup {k : Int} : dIn (.int k) (.tup ys) st = if ys.all D.flat then some (ys.any fun y => eqF y (.int k)) else if ys.all (D.plain 59) then some (decide (D.int k ∈ ys)) else none := by
  simp [dIn, dInS, dSeq] <;> rfl
@[simp] theorem eSl_e : eSl f fl fh τ st = (f τ st).bind fun d s1 => (fl τ s1).bind fun l s2 => (fh τ s2).bind fun h s3 => dCut d l h s3 := rfl
@[simp] theorem oNone_e : oNone τ st = .ok none st := rfl
def ofI (d : D) (st : Store) : ER (Option Int) := match d with
  | .int i => .ok (some i) st
  | _ => .bad
@[simp] theorem ofI_int {k : Int} : ofI (.int k) st = .ok (some k) st := rfl
@[simp] theorem oSome_e : oSome f τ st = (f τ st).bind ofI := rfl
theorem sIx_n {n d k : Nat} : HT.sIx n d (some (k : Int)) = min k n := HT.sIx_nat n d k
@[simp] theorem sIx_0 {n d : Nat} : HT.sIx n d none = d := rfl
theorem dCut_str {z : List Nat} {lo hi : Option Int} (hz : z.length ≤ 16777216) : dCut (.str z) lo hi st = .ok (.str (cutD z lo hi)) st := by simp [dCut, hz]
theorem dCut_ref {lo hi : Option Int} (hh : lstAt st n = some xs) : dCut (.ref n) lo hi st = .ok (.ref st.length) (st ++ [.lst (cutD xs lo hi)]) := by simp [dCut, hh]
theorem cutD_nn {α : Type} {zs : List α} {a b : Nat} : cutD zs (some (a : Int)) (some (b : Int)) = (zs.drop (min a zs.length)).take (min b zs.length - min a zs.length) := by
  unfold cutD
  rw [sIx_n, sIx_n]
theorem cutD_to {α : Type} {zs : List α} {b : Nat} : cutD zs none (some (b : Int)) = zs.take b := by
  unfold cutD
  rw [sIx_n, sIx_0, List.drop_zero, Nat.sub_zero]
  exact PySem.W.kmk_take_min ..
theorem cutD_from {α : Type} {zs : List α} {a : Nat} : cutD zs (some (a : Int)) none = zs.drop a := by
  unfold cutD
  rw [sIx_n, sIx_0]
  rw [show zs.drop (min a zs.length) = zs.drop a from PySem.W.kmk_drop_min ..]
  refine List.take_of_length_le ?_
  rw [List.length_drop]
  omega
theorem gSum_ints {ns : List Int} : gSum (ns.map D.int) st = .ok (.int ns.sum) st := by simp [gSum, intsD_map]
theorem gAllB_bls {bs : List Bool} : gAllB (bs.map D.bl) st = .ok (.bl (bs.all id)) st := by simp [gAllB, blsD_map]
theorem gAnyB_bls {bs : List Bool} : gAnyB (bs.map D.bl) st = .ok (.bl (bs.any id)) st := by simp [gAnyB, blsD_map]
@[simp] theorem oMul_int {a b : Int} (hc : okMul a b = true) : oMul (.int a) (.int b) st = .ok (.int (a * b)) st := by simp [oMul, hc]
theorem oMul_str {z : List Nat} {k : Int} (h2 : 2 ≤ k) (hz : k ≤ 16777216) (hl : z.length * k.toNat ≤ 16777216) : oMul (.str z) (.int k) st = .ok (.str (repD k.toNat z)) st := by
  simp [oMul, h2, hz, hl]
theorem fLcm_W {a b : Int} (ha : a.natAbs < 2 ^ 9000) (hb : b.natAbs < 2 ^ 9000) : fLcm [.int a, .int b] st = .ok (.int (Nat.lcm a.natAbs b.natAbs : Nat)) st := by
  unfold fLcm
  simp only [decide_eq_true ha, decide_eq_true hb, Bool.and_self, if_true]
theorem fLcm_e {a b : Int} (ha : a.natAbs < 18446744073709551616) (hb : b.natAbs < 18446744073709551616) : fLcm [.int a, .int b] st = .ok (.int (Nat.lcm a.natAbs b.natAbs : Nat)) st :=
  fLcm_W (Nat.lt_of_lt_of_le ha (Nat.pow_le_pow_right (n := 2) (i := 64) (by decide) (by decide))) (Nat.lt_of_lt_of_le hb (Nat.pow_le_pow_right (n := 2) (i := 64) (by decide) (by decide)))
theorem fList_tup : fList [.tup xs] st = .ok (.ref st.length) (st ++ [.lst xs]) := rfl
theorem fList_ref (hh : lstAt st n = some xs) : fList [.ref n] st = .ok (.ref st.length) (st ++ [.lst xs]) := by simp [fList, dSeq, hh]
theorem sExL_e : sExL f τ st = (f τ st).bind fun d s1 => match dSeqL s1 d with
  | some xs => .ok xs s1
  | none => .bad := rfl
theorem oAdd_ref (hh : lstAt st n = some xs) (h2 : lstAt st m = some ys) (hl : xs.length + ys.length ≤ 16777216) : oAdd (.ref n) (.ref m) st = .ok (.ref st.length) (st ++ [.lst (xs ++ ys)]) := by simp [oAdd, hh, h2, hl]
theorem oIx_str {z : List Nat} {k : Nat} {c : Nat} (hz : z.length ≤ 16777216) (hk : z[k]? = some c) : oIx (.str z) (.int k) st = .ok (.str [c]) st := by
  have := atI_nat (xs := z) (j := k) (v := c) hk
  simp [oIx, oIxS, hz, this]
theorem fLen_str {z : List Nat} (hz : z.length ≤ 16777216) : fLen [.str z] st = .ok (.int z.length) st := by simp [fLen, fLenS, hz]
end
/-- a while loop, by an invariant with a measure -/
theorem while_inv {g : EM Bool} {u : SM} (P : Nat → Sl → Store → Prop) (Done : Sl → Store → Prop)
    (hs : ∀ n τ st, P n τ st → (∃ s1, g τ st = .ok false s1 ∧ Done τ s1) ∨ (∃ s1, g τ st = .ok true s1 ∧ ∃ τ2 s2, (u τ s1 = .nx τ2 s2 ∨ u τ s1 = .ct τ2 s2) ∧ ∃ m, m < n ∧ P m τ2 s2)) :
    ∀ (k n : Nat) (τ : Sl) (st : Store), n < k → P n τ st → ∃ τ' st', whileN g u k τ st = .nx τ' st' ∧ Done τ' st'
  | 0, _, _, _, h, _ => absurd h (Nat.not_lt_zero _)
  | k + 1, n, τ, st, h, hp => by
    unfold whileN
    rcases hs n τ st hp with ⟨s1, e, hd⟩ | ⟨s1, e, τ2, s2, e2, m, hm, hp2⟩
    · rw [e, bindE_ok, if_neg Bool.false_ne_true]
      exact ⟨τ, s1, rfl, hd⟩
    · rw [e, bindE_ok, if_pos rfl]
      obtain ⟨τ', st', e3, hd⟩ := while_inv P Done hs k m τ2 s2 (by omega) hp2
      refine ⟨τ', st', ?_, hd⟩
      rcases e2 with e2 | e2 <;> simp only [e2] <;> exact e3
/-- a comprehension that reads alone -/
theorem comp_map {α : Type} {q : Sq} {set : D → Sl → Option Sl} {fe : EM D} {τ : Sl} {st : Store} (hq : q.chk st = true) (g h : α → D) : ∀ (xs : List α) (acc : List D), (∀ a ∈ xs, ∃ τ1, set (g a) τ = some τ1 ∧ fe τ1 st = .ok (h a) st) → compL q set tYes fe τ (xs.map g) acc st = .ok (acc ++ xs.map h) st
  | [], acc, _ => by
    rw [List.map_nil, List.map_nil, List.append_nil]
    unfold compL
    rw [if_pos hq]
  | a :: xs, acc, hs => by
    obtain ⟨τ1, e1, e2⟩ := hs a (List.mem_cons_self ..)
    rw [List.map_cons]
    unfold compL
    rw [if_pos hq, e1]
    simp only [tYes, ER.bindN_ok, if_true, e2]
    rw [comp_map hq g h xs (acc ++ [h a]) fun b hb => hs b (List.mem_cons_of_mem _ hb), List.map_cons, List.append_assoc]
    rfl
/-- a loop that folds -/
theorem for_fold {α β : Type} {q : Sq} {set : D → Sl → Option Sl} {u : SM} {st : Store} (hq : q.chk st = true) (g : α → D) (F : β → α → β) (E : β → Option D → Sl) (I : β → Prop) : ∀ (xs : List α) (b : β) (t : Option D), I b →
    (∀ b t a, a ∈ xs → I b → I (F b a) ∧ ∃ τ1, set (g a) (E b t) = some τ1 ∧ u τ1 st = .nx (E (F b a) (some (g a))) st) → (∃ t', forL q set u (xs.map g) (E b t) st = .nx (E (xs.foldl F b) t') st) ∧ I (xs.foldl F b)
  | [], b, t, hI, _ => ⟨⟨t, by rw [List.map_nil, forL, if_pos hq]; rfl⟩, hI⟩
  | a :: xs, b, t, hI, hs => by
    obtain ⟨h1, τ1, e1, e2⟩ := hs b t a (List.mem_cons_self ..) hI
    obtain ⟨⟨t', e3⟩, h3⟩ := for_fold hq g F E I xs (F b a) (some (g a)) h1 fun b t a ha => hs b t a (List.mem_cons_of_mem _ ha)
    refine ⟨⟨t', ?_⟩, h3⟩
    rw [List.map_cons, forL, if_pos hq, e1]
    simp only [e2]
    exact e3
end HM

/-! HM, part V: growth of stores, comprehensions with tests, keyword calls. -/
namespace HM
open PySem PySem.Spec PyProof.Rows L2
section
variable {τ : Sl} {st : Store} {fs fk : EM (List D)} {n k np : Nat} {is : List Nat} {mf : FM}
@[simp] theorem eCallK_e : eCallK n k np is mf fs fk τ st = (fs τ st).bind fun ds s1 => (fk τ s1).bind fun es s2 => if ds.length = n ∧ es.length = k ∧ (arr is (ds ++ es)).length = np then mf (arr is (ds ++ es)) s2 else .bad := rfl
end
/-- cells are added alone -/
structure Gr (a b : Store) : Prop where
  ex : ∃ l, b = a ++ l
theorem Gr.refl {a : Store} : Gr a a := ⟨[], by simp⟩
theorem Gr.app {a : Store} {c : Cell} : Gr a (a ++ [c]) := ⟨[c], rfl⟩
theorem Gr.trans {a b c : Store} (x : Gr a b) (y : Gr b c) : Gr a c := by
  obtain ⟨l, rfl⟩ := x.ex
  obtain ⟨m, rfl⟩ := y.ex
  exact ⟨l ++ m, by simp⟩
theorem Gr.lst {a b : Store} {n : Nat} {xs : List D} (x : Gr a b) (h : lstAt a n = some xs) : lstAt b n = some xs := by
  obtain ⟨l, rfl⟩ := x.ex
  rw [lstAt_left (lstAt_lt h)]
  exact h
theorem Gr.fr {a b : Store} (x : Gr a b) : Fr a b := by
  obtain ⟨l, rfl⟩ := x.ex
  exact ⟨by simp, fun n _ h => by rw [List.getElem?_append_left h]⟩
theorem Gr.ds {a b : Store} {ns : List Int} (x : Gr a b) (H : DS ns a) : DS ns b := by
  obtain ⟨c0, p, h, q, hp, c1⟩ := H
  exact ⟨x.lst c0, p, h, q, hp, x.lst c1⟩
/-- the last cell is written -/
theorem Gr.put {a b : Store} {m : Nat} {c : Cell} (x : Gr a b) (h : a.length ≤ m) : Gr a (b.set m c) := by
  obtain ⟨l, rfl⟩ := x.ex
  exact ⟨l.set (m - a.length) c, List.set_append_right m c h⟩
theorem Gr.len {a b : Store} (x : Gr a b) : a.length ≤ b.length := by
  obtain ⟨l, rfl⟩ := x.ex
  simp
theorem DS.put2 {ns : List Int} {s : Store} {m : Nat} {c : Cell} (H : DS ns s) (h0 : m ≠ 0) (h1 : m ≠ 1) : DS ns (s.set m c) := by
  obtain ⟨c0, p, h, q, hp, c1⟩ := H
  exact ⟨by rw [lstAt_ne (Ne.symm h0)]; exact c0, p, h, q, hp, by rw [lstAt_ne (Ne.symm h1)]; exact c1⟩
theorem Fr.put2 {st s : Store} {m : Nat} {c : Cell} (F : Fr st s) (h : st.length ≤ m) : Fr st (s.set m c) :=
  ⟨by rw [List.length_set]; exact F.len, fun n h1 h2 => by rw [List.getElem?_set_ne (by omega)]; exact F.at' n h1 h2⟩
theorem DS.len {ns : List Int} {s : Store} (H : DS ns s) : 2 ≤ s.length := by
  obtain ⟨p, h, q, _, c1⟩ := H.c1
  exact lstAt_lt c1
theorem rng_eq (n : Nat) : rng 0 n = (List.range n).map fun k => D.int (k : Nat) := by
  unfold rng
  simp
theorem rng_mem {n : Nat} {i : Nat} {d : D} (h : (rng 0 n)[i]? = some d) : ∃ k : Nat, k < n ∧ d = .int k := by
  rw [rng_eq, List.getElem?_map] at h
  cases hx : (List.range n)[i]? with
  | none => rw [hx] at h; cases h
  | some a =>
    have := List.mem_range.mp (List.mem_of_getElem? hx)
    rw [hx] at h
    exact ⟨a, this, (Option.some.inj h).symm⟩
@[simp] theorem iZip_e {fa fb : EM D} {τ : Sl} {st : Store} : iZip fa fb τ st = (fa τ st).bind fun d s1 => (fb τ s1).bind fun e s2 => zip2 d e s2 := rfl
@[simp] theorem zip2_tup {xs ys : List D} {st : Store} : zip2 (.tup xs) (.tup ys) st = .ok (.fix (zipD xs ys)) st := rfl
def okRg (k : Int → Int → Store → ER D) (d : D) (st : Store) : ER D := match d with
  | .int j => k 0 j st
  | _ => .bad
@[simp] theorem eRg1_e {k : Int → Int → Store → ER D} {fa : EM D} {τ : Sl} {st : Store} : eRg1 k fa τ st = (fa τ st).bind (okRg k) := rfl
@[simp] theorem okRg_int {k : Int → Int → Store → ER D} {j : Int} {st : Store} : okRg k (.int j) st = k 0 j st := rfl
theorem rng_len {n : Nat} : (rng 0 (n : Nat)).length = n := by
  unfold rng
  simp
theorem lstAt_new {a : Store} {xs : List D} : lstAt (a ++ [.lst xs]) a.length = some xs := by simp [lstAt]
/-- a comprehension with a test -/
theorem comp_gen {q : Sq} {set : D → Sl → Option Sl} {ft : EM Bool} {fe : EM D} {τ : Sl} (P : Nat → List D → Store → Prop) (hc : ∀ k acc st, P k acc st → q.chk st = true) :
    ∀ (xs : List D) (k : Nat) (acc : List D) (st : Store), P k acc st →
    (∀ (i : Nat) (d : D) (acc' : List D) (st : Store), xs[i]? = some d → P (k + i) acc' st → ∃ τ1, set d τ = some τ1 ∧ ∃ b s1, ft τ1 st = .ok b s1 ∧ (b = false → P (k + i + 1) acc' s1) ∧ (b = true → ∃ x s2, fe τ1 s1 = .ok x s2 ∧ P (k + i + 1) (acc' ++ [x]) s2)) →
    ∃ ys st', compL q set ft fe τ xs acc st = .ok ys st' ∧ P (k + xs.length) ys st'
  | [], k, acc, st, h0, _ => ⟨acc, st, by
      unfold compL
      rw [if_pos (hc _ _ _ h0)], h0⟩
  | d :: ds, k, acc, st, h0, hs => by
    obtain ⟨τ1, e1, b, s1, e2, h2, h3⟩ := hs 0 d acc st rfl h0
    have next : ∀ acc s, P (k + 1) acc s → ∃ ys st', compL q set ft fe τ ds acc s = .ok ys st' ∧ P (k + (d :: ds).length) ys st' := fun acc s h => by
      rw [List.length_cons, show k + (ds.length + 1) = k + 1 + ds.length by omega]
      refine comp_gen P hc ds (k + 1) acc s h fun i d acc' st hi hp => ?_
      rw [show k + 1 + i = k + (i + 1) by omega] at hp ⊢
      exact hs (i + 1) d acc' st hi hp
    unfold compL
    rw [if_pos (hc _ _ _ h0), e1]
    simp only [e2, ER.bindN_ok]
    cases b with
    | false => exact next _ _ (h2 rfl)
    | true =>
      obtain ⟨x, s2, e3, h4⟩ := h3 rfl
      simp only [if_true, e3, ER.bindN_ok]
      exact next _ _ h4
/-- a comprehension with a test that reads alone -/
theorem comp_fil {α : Type} {q : Sq} {set : D → Sl → Option Sl} {ft : EM Bool} {fe : EM D} {τ : Sl} {st : Store} (hq : q.chk st = true) (g h : α → D) (p : α → Bool) : ∀ (xs : List α) (acc : List D), (∀ a ∈ xs, ∃ τ1, set (g a) τ = some τ1 ∧ ft τ1 st = .ok (p a) st ∧ (p a = true → fe τ1 st = .ok (h a) st)) → compL q set ft fe τ (xs.map g) acc st = .ok (acc ++ (xs.filter p).map h) st
  | [], acc, _ => by
    rw [List.map_nil, List.filter_nil, List.map_nil, List.append_nil]
    unfold compL
    rw [if_pos hq]
  | a :: xs, acc, hs => by
    obtain ⟨τ1, e1, e2, e3⟩ := hs a (List.mem_cons_self ..)
    have ih := fun acc => comp_fil hq g h p xs acc fun b hb => hs b (List.mem_cons_of_mem _ hb)
    rw [List.map_cons, List.filter_cons]
    unfold compL
    rw [if_pos hq, e1]
    simp only [e2, ER.bindN_ok]
    cases hp : p a with
    | false => simp only [Bool.false_eq_true, if_false]; exact ih acc
    | true =>
      simp only [if_true, e3 hp, ER.bindN_ok]
      rw [ih, List.map_cons, List.append_assoc]
      rfl
theorem forL_nil {set : D → Sl → Option Sl} {u : SM} {q : Sq} {τ : Sl} {st : Store} (hq : q.chk st = true) : forL q set u [] τ st = .nx τ st := by
  rw [forL, if_pos hq]
theorem forL_nx {set : D → Sl → Option Sl} {u : SM} {q : Sq} {τ τ1 τ2 : Sl} {st s2 : Store} {d : D} {ds : List D} (hq : q.chk st = true) (h1 : set d τ = some τ1) (h2 : u τ1 st = .nx τ2 s2) : forL q set u (d :: ds) τ st = forL q set u ds τ2 s2 := by
  rw [forL, if_pos hq, h1]
  simp only [h2]
theorem forL_ct {set : D → Sl → Option Sl} {u : SM} {q : Sq} {τ τ1 τ2 : Sl} {st s2 : Store} {d : D} {ds : List D} (hq : q.chk st = true) (h1 : set d τ = some τ1) (h2 : u τ1 st = .ct τ2 s2) : forL q set u (d :: ds) τ st = forL q set u ds τ2 s2 := by
  rw [forL, if_pos hq, h1]
  simp only [h2]
theorem forL_rt {set : D → Sl → Option Sl} {u : SM} {q : Sq} {τ τ1 : Sl} {st s2 : Store} {d x : D} {ds : List D} (hq : q.chk st = true) (h1 : set d τ = some τ1) (h2 : u τ1 st = .rt x s2) : forL q set u (d :: ds) τ st = .rt x s2 := by
  rw [forL, if_pos hq, h1]
  simp only [h2]
theorem forL_bk {set : D → Sl → Option Sl} {u : SM} {q : Sq} {τ τ1 τ2 : Sl} {st s2 : Store} {d : D} {ds : List D} (hq : q.chk st = true) (h1 : set d τ = some τ1) (h2 : u τ1 st = .bk τ2 s2) : forL q set u (d :: ds) τ st = .nx τ2 s2 := by
  rw [forL, if_pos hq, h1]
  simp only [h2]
theorem map_mem {α : Type} {f : α → D} {xs : List α} {i : Nat} {d : D} (h : (xs.map f)[i]? = some d) : ∃ a ∈ xs, d = f a := by
  rw [List.getElem?_map] at h
  cases hx : xs[i]? with
  | none => simp [hx] at h
  | some a => exact ⟨a, List.mem_of_getElem? hx, by simpa [hx] using h.symm⟩
theorem any_eqF {cs : List Int} {k : Int} : ((cs.map D.int).any fun y => eqF y (.int k)) = decide (k ∈ cs) := by
  induction cs with
  | nil => rfl
  | cons c cs ih =>
    rw [List.map_cons, List.any_cons, ih]
    by_cases h : k = c <;> simp [h, eq_comm]
theorem dIn_ints {cs : List Int} {k : Int} {st : Store} : dIn (.int k) (.tup (cs.map D.int)) st = some (decide (k ∈ cs)) := by
  rw [dIn_tup, if_pos, any_eqF]
  rw [List.all_eq_true]
  intro x hx
  obtain ⟨c, _, rfl⟩ := List.mem_map.mp hx
  rfl
end HM

/-! HM, part W: what holds behind a run. -/
namespace HM
open PySem PySem.Spec PyProof.Rows L2
section
variable {α β : Type} {r : ER α} {Q Q' : α → Store → Prop} {st : Store} {τ : Sl}
def W (r : ER α) (Q : α → Store → Prop) : Prop := match r with
  | .ok a s => Q a s
  | _ => False
def WS (r : SR) (N : Sl → Store → Prop) (R : D → Store → Prop) (B C : Sl → Store → Prop) : Prop := match r with
  | .nx τ s => N τ s
  | .rt d s => R d s
  | .bk τ s => B τ s
  | .ct τ s => C τ s
  | _ => False
theorem W.ex (h : W r Q) : ∃ a s, r = .ok a s ∧ Q a s := by
  cases r with
  | ok a s => exact ⟨a, s, rfl, h⟩
  | _ => exact h.elim
theorem W.of {a : α} {s : Store} (h : r = .ok a s) (q : Q a s) : W r Q := by rw [h]; exact q
theorem W.mono (h : W r Q) (i : ∀ a s, Q a s → Q' a s) : W r Q' := by
  cases r with
  | ok a s => exact i a s h
  | _ => exact h.elim
@[simp] theorem W_ok {a : α} {s : Store} : W (.ok a s) Q = Q a s := rfl
@[simp] theorem W_bad : W (.bad : ER α) Q = False := rfl
@[simp] theorem W_bind {k : α → Store → ER β} {Q : β → Store → Prop} : W (r.bind k) Q = W r fun a s => W (k a s) Q := by cases r <;> rfl
theorem W_ite {c : Prop} [Decidable c] {r' : ER α} : W (if c then r else r') Q = if c then W r Q else W r' Q := by split <;> rfl
section
variable {N : Sl → Store → Prop} {R : D → Store → Prop} {B C : Sl → Store → Prop}
@[simp] theorem WS_nx : WS (.nx τ st) N R B C = N τ st := rfl
@[simp] theorem WS_rt {d : D} : WS (.rt d st) N R B C = R d st := rfl
@[simp] theorem WS_bk : WS (.bk τ st) N R B C = B τ st := rfl
@[simp] theorem WS_ct : WS (.ct τ st) N R B C = C τ st := rfl
@[simp] theorem WS_bindE {k : α → Store → SR} : WS (bindE r τ k) N R B C = W r fun a s => WS (k a s) N R B C := by cases r <;> rfl
@[simp] theorem WS_seq {s : SR} {v : SM} : WS (s.seq v) N R B C = WS s (fun τ st => WS (v τ st) N R B C) R B C := by cases s <;> rfl
theorem WS_ite {c : Prop} [Decidable c] {a b : SR} : WS (if c then a else b) N R B C = if c then WS a N R B C else WS b N R B C := by split <;> rfl
@[simp] theorem W_fin {s : SR} {Q : D → Store → Prop} : W s.fin Q = WS s (fun _ st => Q .non st) Q (fun _ _ => False) (fun _ _ => False) := by cases s <;> rfl
theorem WS.mono {s : SR} {N' : Sl → Store → Prop} {R' : D → Store → Prop} {B' C' : Sl → Store → Prop} (h : WS s N R B C) (n : ∀ τ st, N τ st → N' τ st) (r : ∀ d st, R d st → R' d st) (b : ∀ τ st, B τ st → B' τ st) (c : ∀ τ st, C τ st → C' τ st) : WS s N' R' B' C' := by
  cases s with
  | nx τ s => exact n _ _ h
  | rt d s => exact r _ _ h
  | bk τ s => exact b _ _ h
  | ct τ s => exact c _ _ h
  | _ => exact h.elim
/-- a for loop -/
theorem ws_for {q : Sq} {set : D → Sl → Option Sl} {u : SM} (P : Nat → Sl → Store → Prop) (hc : ∀ k τ st, P k τ st → q.chk st = true) :
    ∀ (xs : List D) (k : Nat) (τ : Sl) (st : Store), P k τ st →
    (∀ i d τ st, xs[i]? = some d → P (k + i) τ st → ∃ τ1, set d τ = some τ1 ∧ WS (u τ1 st) (P (k + i + 1)) R N (P (k + i + 1))) →
    (∀ τ st, P (k + xs.length) τ st → N τ st) → WS (forL q set u xs τ st) N R B C
  | [], k, τ, st, h0, _, hN => by
    unfold forL
    rw [if_pos (hc _ _ _ h0)]
    exact hN _ _ h0
  | d :: ds, k, τ, st, h0, hs, hN => by
    obtain ⟨τ1, e1, h1⟩ := hs 0 d τ st rfl h0
    have rest := fun τ st h => ws_for (q := q) (set := set) (u := u) P hc ds (k + 1) τ st h (fun i d τ st hi hp => by
      have := hs (i + 1) d τ st hi (by rwa [show k + (i + 1) = k + 1 + i by omega])
      rwa [show k + (i + 1) + 1 = k + 1 + i + 1 by omega] at this) (fun τ st h => hN τ st (by rw [List.length_cons]; rwa [show k + (ds.length + 1) = k + 1 + ds.length by omega]))
    unfold forL
    rw [if_pos (hc _ _ _ h0), e1]
    simp only
    generalize u τ1 st = r at h1
    cases r with
    | nx τ s => exact rest τ s h1
    | ct τ s => exact rest τ s h1
    | bk τ s => exact h1
    | rt d s => exact h1
    | _ => exact h1.elim
/-- a for loop over given items -/
theorem ws_for0 {q : Sq} {set : D → Sl → Option Sl} {u : SM} {xs : List D} (P : Nat → Sl → Store → Prop) (hc : ∀ k τ st, P k τ st → q.chk st = true) (h0 : P 0 τ st)
    (hs : ∀ i d τ st, xs[i]? = some d → P i τ st → ∃ τ1, set d τ = some τ1 ∧ WS (u τ1 st) (P (i + 1)) R N (P (i + 1)))
    (hN : ∀ τ st, P xs.length τ st → N τ st) : WS (forL q set u xs τ st) N R B C :=
  ws_for P hc xs 0 τ st h0 (fun i d τ st hi hp => by
    rw [Nat.zero_add] at hp ⊢
    exact hs i d τ st hi hp) (fun τ st h => hN τ st (by rwa [Nat.zero_add] at h))
/-- a while loop -/
theorem ws_while {g : EM Bool} {u : SM} (P : Nat → Sl → Store → Prop)
    (hs : ∀ n τ st, P n τ st → W (g τ st) fun b s1 => if b then WS (u τ s1) (fun τ s => ∃ m, m < n ∧ P m τ s) R N (fun τ s => ∃ m, m < n ∧ P m τ s) else N τ s1) :
    ∀ (k n : Nat) (τ : Sl) (st : Store), n < k → P n τ st → WS (whileN g u k τ st) N R B C
  | 0, _, _, _, h, _ => absurd h (Nat.not_lt_zero _)
  | k + 1, n, τ, st, h, hp => by
    unfold whileN
    obtain ⟨b, s1, e, h1⟩ := (hs n τ st hp).ex
    rw [e, bindE_ok]
    cases b with
    | false => exact h1
    | true =>
      rw [if_pos rfl] at h1 ⊢
      generalize u τ s1 = r at h1
      cases r with
      | nx τ s =>
        obtain ⟨m, hm, hp2⟩ := h1
        exact ws_while P hs k m τ s (by omega) hp2
      | ct τ s =>
        obtain ⟨m, hm, hp2⟩ := h1
        exact ws_while P hs k m τ s (by omega) hp2
      | bk τ s => exact h1
      | rt d s => exact h1
      | _ => exact h1.elim
end
/-- a comprehension -/
theorem w_comp {q : Sq} {set : D → Sl → Option Sl} {ft : EM Bool} {fe : EM D} {Q : List D → Store → Prop} (P : Nat → List D → Store → Prop) (hc : ∀ k acc st, P k acc st → q.chk st = true) :
    ∀ (xs : List D) (k : Nat) (acc : List D) (st : Store), P k acc st →
    (∀ (i : Nat) (d : D) (acc' : List D) (st : Store), xs[i]? = some d → P (k + i) acc' st → ∃ τ1, set d τ = some τ1 ∧ W (ft τ1 st) fun b s1 => if b then W (fe τ1 s1) fun x s2 => P (k + i + 1) (acc' ++ [x]) s2 else P (k + i + 1) acc' s1) →
    (∀ acc st, P (k + xs.length) acc st → Q acc st) → W (compL q set ft fe τ xs acc st) Q
  | [], k, acc, st, h0, _, hQ => by
    unfold compL
    rw [if_pos (hc _ _ _ h0)]
    exact hQ _ _ h0
  | d :: ds, k, acc, st, h0, hs, hQ => by
    obtain ⟨τ1, e1, h1⟩ := hs 0 d acc st rfl h0
    obtain ⟨b, s1, e2, h2⟩ := h1.ex
    have rest := fun acc st h => w_comp (q := q) (set := set) (ft := ft) (fe := fe) P hc ds (k + 1) acc st h (fun i d acc' st hi hp => by
      have := hs (i + 1) d acc' st hi (by rwa [show k + (i + 1) = k + 1 + i by omega])
      rwa [show k + (i + 1) + 1 = k + 1 + i + 1 by omega] at this) (fun acc st h => hQ acc st (by rw [List.length_cons]; rwa [show k + (ds.length + 1) = k + 1 + ds.length by omega]))
    unfold compL
    rw [if_pos (hc _ _ _ h0), e1]
    simp only [e2, ER.bindN_ok]
    cases b with
    | false => exact rest _ _ h2
    | true =>
      rw [if_pos rfl] at h2
      obtain ⟨x, s2, e3, h3⟩ := h2.ex
      simp only [if_true, e3, ER.bindN_ok]
      exact rest _ _ h3
theorem w_comp0 {q : Sq} {set : D → Sl → Option Sl} {ft : EM Bool} {fe : EM D} {Q : List D → Store → Prop} {xs : List D} (P : Nat → List D → Store → Prop) (hc : ∀ k acc st, P k acc st → q.chk st = true) (h0 : P 0 [] st)
    (hs : ∀ (i : Nat) (d : D) (acc : List D) (st : Store), xs[i]? = some d → P i acc st → ∃ τ1, set d τ = some τ1 ∧ W (ft τ1 st) fun b s1 => if b then W (fe τ1 s1) fun x s2 => P (i + 1) (acc ++ [x]) s2 else P (i + 1) acc s1)
    (hQ : ∀ acc st, P xs.length acc st → Q acc st) : W (compL q set ft fe τ xs [] st) Q :=
  w_comp P hc xs 0 [] st h0 (fun i d acc st hi hp => by
    rw [Nat.zero_add] at hp ⊢
    exact hs i d acc st hi hp) (fun acc st h => hQ acc st (by rwa [Nat.zero_add] at h))
theorem w_lc {own : List Nat} {set : D → Sl → Option Sl} {ft : EM Bool} {fe : EM D} {q : Sq} {Q : List D → Store → Prop} (hl : q.items.length ≤ 16777216) (h : W (compL q set ft fe (wipeD τ own) q.items [] st) Q) : W (lc1 own set ft fe τ q st) Q := by
  unfold lc1
  rw [if_pos hl]
  exact h
/-- a comprehension that reads alone -/
theorem w_map {α : Type} {q : Sq} {set : D → Sl → Option Sl} {fe : EM D} {Q : List D → Store → Prop} {ds : List D} (g h : α → D) (xs : List α) (hd : ds = xs.map g) (hq : q.chk st = true) (hs : ∀ a ∈ xs, ∃ τ1, set (g a) τ = some τ1 ∧ W (fe τ1 st) fun d s => d = h a ∧ s = st) (hQ : Q (xs.map h) st) :
    W (compL q set tYes fe τ ds [] st) Q := by
  subst hd
  have e := comp_map (set := set) (fe := fe) (τ := τ) hq g h xs [] (fun a ha => by
    obtain ⟨τ1, e1, hw⟩ := hs a ha
    obtain ⟨d, s, e2, e3, e4⟩ := hw.ex
    rw [e3, e4] at e2
    exact ⟨τ1, e1, e2⟩)
  rw [e]
  exact hQ
/-- a comprehension with a test that reads alone -/
theorem w_fil {α : Type} {q : Sq} {set : D → Sl → Option Sl} {ft : EM Bool} {fe : EM D} {Q : List D → Store → Prop} {ds : List D} (g h : α → D) (p : α → Bool) (xs : List α) (hd : ds = xs.map g) (hq : q.chk st = true)
    (hs : ∀ a ∈ xs, ∃ τ1, set (g a) τ = some τ1 ∧ W (ft τ1 st) fun b s => b = p a ∧ s = st ∧ (b = true → W (fe τ1 st) fun d s => d = h a ∧ s = st)) (hQ : Q ((xs.filter p).map h) st) :
    W (compL q set ft fe τ ds [] st) Q := by
  subst hd
  have e := comp_fil (set := set) (ft := ft) (fe := fe) (τ := τ) hq g h p xs [] (fun a ha => by
    obtain ⟨τ1, e1, hw⟩ := hs a ha
    obtain ⟨b, s, e2, e3, e4, h3⟩ := hw.ex
    rw [e3, e4] at e2
    refine ⟨τ1, e1, e2, fun hb => ?_⟩
    obtain ⟨d, s, e5, e6, e7⟩ := (h3 (e3.trans hb)).ex
    rw [e6, e7] at e5
    exact e5)
  rw [e]
  exact hQ
/-- a loop that folds, the store as it is -/
theorem ws_fold {α β : Type} {q : Sq} {set : D → Sl → Option Sl} {u : SM} {ds : List D} {N : Sl → Store → Prop} {R : D → Store → Prop} {B C : Sl → Store → Prop} (g : α → D) (F : β → α → β) (E : β → Option D → Sl) (xs : List α) (b0 : β) (t0 : Option D) (hd : ds = xs.map g) (hτ : τ = E b0 t0) (hq : q.chk st = true)
    (hs : ∀ b t a, a ∈ xs → ∃ τ1, set (g a) (E b t) = some τ1 ∧ WS (u τ1 st) (fun τ s => (∃ t, τ = E (F b a) t) ∧ s = st) R (fun _ _ => False) (fun τ s => (∃ t, τ = E (F b a) t) ∧ s = st))
    (hN : ∀ t, N (E (xs.foldl F b0) t) st) : WS (forL q set u ds τ st) N R B C := by
  subst hd hτ
  induction xs generalizing b0 t0 with
  | nil =>
    rw [List.map_nil, forL, if_pos hq]
    exact hN t0
  | cons a xs ih =>
    obtain ⟨τ1, e1, h1⟩ := hs b0 t0 a (List.mem_cons_self ..)
    rw [List.map_cons, forL, if_pos hq, e1]
    simp only
    have go : ∀ τ s, ((∃ t, τ = E (F b0 a) t) ∧ s = st) → WS (forL q set u (xs.map g) τ s) N R B C := fun τ s h => by
      obtain ⟨⟨t, rfl⟩, rfl⟩ := h
      exact ih (F b0 a) t (fun b t a' ha => hs b t a' (List.mem_cons_of_mem _ ha)) hN
    generalize u τ1 st = r at h1
    cases r with
    | nx τ s => exact go τ s h1
    | ct τ s => exact go τ s h1
    | rt d s => exact h1
    | _ => exact h1.elim
end
theorem rng_at {n i : Nat} {d : D} (h : (rng 0 (n : Nat))[i]? = some d) : i < n ∧ d = .int (i : Nat) := by
  have hin : i < n := by
    have := (List.getElem?_eq_some_iff.mp h).1
    rwa [rng_len] at this
  rw [rng_eq, List.getElem?_map, List.getElem?_range hin] at h
  exact ⟨hin, (Option.some.inj h).symm⟩
section
variable {q : Sq} {set : D → Sl → Option Sl} {u : SM} {τ : Sl} {st : Store} {N : Sl → Store → Prop} {R : D → Store → Prop} {B C : Sl → Store → Prop} {ft : EM Bool} {fe : EM D} {Q : List D → Store → Prop}
/-- over range(n) -/
theorem ws_rng {n : Nat} (P : Nat → Sl → Store → Prop) (hc : ∀ k τ st, P k τ st → q.chk st = true) (h0 : P 0 τ st)
    (hs : ∀ i τ st, i < n → P i τ st → ∃ τ1, set (.int (i : Nat)) τ = some τ1 ∧ WS (u τ1 st) (P (i + 1)) R N (P (i + 1)))
    (hN : ∀ τ st, P n τ st → N τ st) : WS (forL q set u (rng 0 (n : Nat)) τ st) N R B C :=
  ws_for0 P hc h0 (fun i d τ st hi hp => by
    obtain ⟨hin, rfl⟩ := rng_at hi
    exact hs i τ st hin hp) (fun τ st h => hN τ st (by rwa [rng_len] at h))
theorem w_rng {n : Nat} (P : Nat → List D → Store → Prop) (hc : ∀ k acc st, P k acc st → q.chk st = true) (h0 : P 0 [] st)
    (hs : ∀ (i : Nat) (acc : List D) (st : Store), i < n → P i acc st → ∃ τ1, set (.int (i : Nat)) τ = some τ1 ∧ W (ft τ1 st) fun b s1 => if b then W (fe τ1 s1) fun x s2 => P (i + 1) (acc ++ [x]) s2 else P (i + 1) acc s1)
    (hQ : ∀ acc st, P n acc st → Q acc st) : W (compL q set ft fe τ (rng 0 (n : Nat)) [] st) Q :=
  w_comp0 P hc h0 (fun i d acc st hi hp => by
    obtain ⟨hin, rfl⟩ := rng_at hi
    exact hs i acc st hin hp) (fun acc st h => hQ acc st (by rwa [rng_len] at h))
/-- over things that are told by others -/
theorem ws_map {α : Type} {ds : List D} (g : α → D) (xs : List α) (hd : ds = xs.map g) (P : Nat → Sl → Store → Prop) (hc : ∀ k τ st, P k τ st → q.chk st = true) (h0 : P 0 τ st)
    (hs : ∀ i a τ st, xs[i]? = some a → P i τ st → ∃ τ1, set (g a) τ = some τ1 ∧ WS (u τ1 st) (P (i + 1)) R N (P (i + 1)))
    (hN : ∀ τ st, P xs.length τ st → N τ st) : WS (forL q set u ds τ st) N R B C :=
  ws_for0 P hc h0 (fun i d τ st hi hp => by
    rw [hd, List.getElem?_map] at hi
    cases hx : xs[i]? with
    | none => rw [hx] at hi; cases hi
    | some a =>
      rw [hx] at hi
      cases hi
      exact hs i a τ st hx hp) (fun τ st h => hN τ st (by rwa [hd, List.length_map] at h))
theorem w_mapc {α : Type} {ds : List D} (g : α → D) (xs : List α) (hd : ds = xs.map g) (P : Nat → List D → Store → Prop) (hc : ∀ k acc st, P k acc st → q.chk st = true) (h0 : P 0 [] st)
    (hs : ∀ (i : Nat) (a : α) (acc : List D) (st : Store), xs[i]? = some a → P i acc st → ∃ τ1, set (g a) τ = some τ1 ∧ W (ft τ1 st) fun b s1 => if b then W (fe τ1 s1) fun x s2 => P (i + 1) (acc ++ [x]) s2 else P (i + 1) acc s1)
    (hQ : ∀ acc st, P xs.length acc st → Q acc st) : W (compL q set ft fe τ ds [] st) Q :=
  w_comp0 P hc h0 (fun i d acc st hi hp => by
    rw [hd, List.getElem?_map] at hi
    cases hx : xs[i]? with
    | none => rw [hx] at hi; cases hi
    | some a =>
      rw [hx] at hi
      cases hi
      exact hs i a acc st hx hp) (fun acc st h => hQ acc st (by rwa [hd, List.length_map] at h))
end
section
variable {q : Sq} {set : D → Sl → Option Sl} {u : SM} {τ : Sl} {st : Store} {N : Sl → Store → Prop} {R : D → Store → Prop} {B C : Sl → Store → Prop}
/-- a loop that returns False at the first that fails -/
theorem ws_all {α : Type} (g : α → D) (p : α → Bool) (I : Sl → Prop) (J : Store → Prop) (hc : ∀ st, J st → q.chk st = true) : ∀ (xs : List α) (ds : List D) (τ : Sl) (st : Store), ds = xs.map g → I τ → J st →
    (∀ a ∈ xs, ∀ τ st, I τ → J st → ∃ τ1, set (g a) τ = some τ1 ∧ WS (u τ1 st) (fun τ s => p a = true ∧ I τ ∧ J s) (fun d s => p a = false ∧ d = .bl false ∧ J s) (fun _ _ => False) (fun τ s => p a = true ∧ I τ ∧ J s)) →
    (∀ τ s, xs.all p = true → I τ → J s → N τ s) → (∀ s, xs.all p = false → J s → R (.bl false) s) → WS (forL q set u ds τ st) N R B C
  | [], ds, τ, st, hd, h0, j0, _, kN, _ => by
    subst hd
    rw [List.map_nil, forL, if_pos (hc st j0)]
    exact kN τ st rfl h0 j0
  | a :: xs, ds, τ, st, hd, h0, j0, hs, kN, kR => by
    subst hd
    obtain ⟨τ1, e1, h1⟩ := hs a (List.mem_cons_self ..) τ st h0 j0
    rw [List.map_cons, forL, if_pos (hc st j0), e1]
    simp only
    have go : ∀ τ s, (p a = true ∧ I τ ∧ J s) → WS (forL q set u (xs.map g) τ s) N R B C := fun τ s ⟨hp, h2, h3⟩ =>
      ws_all g p I J hc xs _ τ s rfl h2 h3 (fun b hb => hs b (List.mem_cons_of_mem _ hb)) (fun τ s h => kN τ s (by rw [List.all_cons, hp, h]; rfl)) (fun s h => kR s (by rw [List.all_cons, hp, h]; rfl))
    generalize u τ1 st = r at h1
    cases r with
    | nx τ s => exact go τ s h1
    | ct τ s => exact go τ s h1
    | rt d s =>
      obtain ⟨hp, rfl, h3⟩ := h1
      exact kR s (by rw [List.all_cons, hp]; rfl) h3
    | _ => exact h1.elim
theorem ws_allR {n : Nat} (p : Nat → Bool) (I : Sl → Prop) (J : Store → Prop) (hc : ∀ st, J st → q.chk st = true) (h0 : I τ) (j0 : J st)
    (hs : ∀ a, a < n → ∀ τ st, I τ → J st → ∃ τ1, set (.int (a : Nat)) τ = some τ1 ∧ WS (u τ1 st) (fun τ s => p a = true ∧ I τ ∧ J s) (fun d s => p a = false ∧ d = .bl false ∧ J s) (fun _ _ => False) (fun τ s => p a = true ∧ I τ ∧ J s))
    (kN : ∀ τ s, (List.range n).all p = true → I τ → J s → N τ s) (kR : ∀ s, (List.range n).all p = false → J s → R (.bl false) s) : WS (forL q set u (rng 0 (n : Nat)) τ st) N R B C :=
  ws_all (fun k : Nat => D.int k) p I J hc (List.range n) _ τ st (rng_eq n) h0 j0 (fun a ha => hs a (List.mem_range.mp ha)) kN kR
theorem WS.cut {r : SR} {N' : Sl → Store → Prop} (h : WS r N' R B C) (k : ∀ τ s, N' τ s → N τ s) : WS r N R B C := h.mono k (fun _ _ h => h) (fun _ _ h => h) (fun _ _ h => h)
end
/-! dicts -/
theorem dGet_put {kvs : List (D × D)} {k k' v : D} : dGet (dPut kvs k v) k' = if k' = k then some v else dGet kvs k' := by
  have h1 : ∀ kvs : List (D × D), dGet (kvs.map fun p => if p.1 = k then (p.1, v) else p) k' = (dGet kvs k').map fun x => if k' = k then v else x := fun kvs => by
    unfold dGet
    induction kvs with
    | nil => rfl
    | cons p kvs ih =>
      rw [List.map_cons]
      by_cases e : p.1 = k'
      · rw [List.find?_cons_of_pos (by split <;> simpa using e), List.find?_cons_of_pos (by simpa using e)]
        by_cases e2 : p.1 = k
        · have : k' = k := by rw [← e, e2]
          simp [e2, this]
        · have : ¬ k' = k := by rw [← e]; exact e2
          simp [e2, this]
      · rw [List.find?_cons_of_neg (by split <;> simpa using e), List.find?_cons_of_neg (by simpa using e)]
        exact ih
  unfold dPut
  split
  · rename_i h
    rw [h1]
    by_cases e : k' = k
    · obtain ⟨x, hx⟩ := Option.isSome_iff_exists.mp h
      subst e
      simp [hx]
    · rw [if_neg e]
      cases dGet kvs k' <;> simp [e]
  · rename_i h
    unfold dGet at h ⊢
    rw [List.find?_append]
    by_cases e : k' = k
    · subst e
      have : kvs.find? (fun p => decide (p.1 = k')) = none := by
        cases hz : kvs.find? (fun p => decide (p.1 = k')) with
        | none => rfl
        | some x => rw [hz] at h; exact absurd rfl h
      simp [this]
    · rw [if_neg e]
      cases hz : kvs.find? (fun p => decide (p.1 = k')) with
      | some x => simp
      | none => simp [Ne.symm e]
theorem dPut_keys {kvs : List (D × D)} {k v : D} {p : D → Bool} (h : (kvs.all fun q => p q.1) = true) (hk : p k = true) : ((dPut kvs k v).all fun q => p q.1) = true := by
  unfold dPut
  rw [List.all_eq_true] at h
  split
  · rw [List.all_eq_true]
    intro x hx
    obtain ⟨y, hy, rfl⟩ := List.mem_map.mp hx
    have := h y hy
    split <;> exact this
  · rw [List.all_append, List.all_eq_true.mpr h]
    simpa using hk
theorem dPut_len {kvs : List (D × D)} {k v : D} : (dPut kvs k v).length ≤ kvs.length + 1 := by
  unfold dPut
  split <;> simp
theorem keyFit_tup {kvs : List (D × D)} {k : D} (h : (kvs.all fun q => q.1.tupQ) = true) (hk : k.tupQ = true) : keyFit kvs k = true := by simp [keyFit, h, hk]
theorem keyFit_flat {kvs : List (D × D)} {k : D} (h : (kvs.all fun q => q.1.flatK) = true) (hk : k.flatK = true) : keyFit kvs k = true := by simp [keyFit, h, hk]
theorem dctAt_new {a : Store} {kvs : List (D × D)} : dctAt (a ++ [.dct kvs]) a.length = some kvs := by simp [dctAt]
theorem dctAt_lt {st : Store} {n : Nat} {kvs : List (D × D)} (h : dctAt st n = some kvs) : n < st.length := by
  unfold dctAt at h
  split at h
  · rename_i e
    exact (List.getElem?_eq_some_iff.mp e).1
  · cases h
theorem dctAt_set {st : Store} {n : Nat} {kvs kvs' : List (D × D)} (h : dctAt st n = some kvs) : dctAt (st.set n (.dct kvs')) n = some kvs' := by
  have := dctAt_lt h
  simp [dctAt, this]
theorem dctAt_ne {st : Store} {n m : Nat} {c : Cell} (h : m ≠ n) : dctAt (st.set n c) m = dctAt st m := by
  unfold dctAt
  rw [List.getElem?_set_ne (Ne.symm h)]
theorem Gr.dct {a b : Store} {n : Nat} {kvs : List (D × D)} (x : Gr a b) (h : dctAt a n = some kvs) : dctAt b n = some kvs := by
  obtain ⟨l, rfl⟩ := x.ex
  unfold dctAt at h ⊢
  rw [List.getElem?_append_left (dctAt_lt (kvs := kvs) (by unfold dctAt; exact h))]
  exact h
theorem Fr.dct {a b : Store} {n : Nat} {kvs : List (D × D)} (x : Fr a b) (h : dctAt a n = some kvs) (hn : n ≠ 1) : dctAt b n = some kvs := by
  have := x.at' n hn (dctAt_lt h)
  unfold dctAt at h ⊢
  rwa [this]
section
variable {g : EM Bool} {u v w : SM} {τ : Sl} {st s1 : Store} {N : Sl → Store → Prop} {R : D → Store → Prop} {B C : Sl → Store → Prop}
theorem ws_skip (h : g τ st = .ok false st) (k : WS (w τ st) N R B C) : WS (sSeq (sIf g u sNil) w τ st) N R B C := by
  rw [sSeq_e, WS_seq, sIf_e, h]
  simpa using k
theorem ws_take (h : g τ st = .ok true st) (k : WS (u τ st) (fun τ s => WS (w τ s) N R B C) R B C) : WS (sSeq (sIf g u v) w τ st) N R B C := by
  rw [sSeq_e, WS_seq, sIf_e, h]
  simpa using k
theorem ws_else (h : g τ st = .ok false st) (k : WS (v τ st) (fun τ s => WS (w τ s) N R B C) R B C) : WS (sSeq (sIf g u v) w τ st) N R B C := by
  rw [sSeq_e, WS_seq, sIf_e, h]
  simpa using k
/-- one statement, then the rest -/
theorem ws_cons {N' : Sl → Store → Prop} (h : WS (u τ st) N' R B C) (k : ∀ τ s, N' τ s → WS (w τ s) N R B C) : WS (sSeq u w τ st) N R B C := by
  rw [sSeq_e, WS_seq]
  exact h.cut k
end
end HM

/-! HM, part X: texts split. -/
namespace HM
open PySem PySem.Spec PyProof.Rows L2
section
variable {X : Cx}
theorem strs_rds {K : KW} {m : List Addr} {H : Hp} : ∀ ys : List Str, RDs K m H (ys.map fun y => D.str y.cps.toList) (ys.map V.str)
  | [] => .nil
  | y :: ys => .cons (.str y.cps.toList) (strs_rds ys)
def mSplit : MM := fun d ds st => match d, ds with
  | .str a, [.str b] => if b ≠ [] ∧ a.length + 2 ≤ 16777216 then .ok (.ref st.length) (st ++ [.lst ((Txt.split ⟨a.toArray⟩ ⟨b.toArray⟩).map fun y => D.str y.cps.toList)]) else .bad
  | _, _ => .bad
theorem me_split : MethM X "str.split" mSplit := ⟨_, mt_split, fun m st H d v ds vs E Q hS r rs hP => by
  unfold mSplit at hP
  split at hP
  · rename_i a b
    split at hP
    · rename_i hc
      cases r
      obtain ⟨u, rfl, ru⟩ := rs.one
      cases ru
      refine ⟨_, _, rfl, rfl, ?_, ?_, hP.lst hS (strs_rds _)⟩
      · cases b with
        | nil => exact absurd rfl hc.1
        | cons x b => rfl
      · rw [PySem.sizeLine_eq]
        exact hc.2
    · exact hP.elim
  · exact hP.elim⟩
end
/-! ### dict(pairs) -/
section
variable {X : Cx} {pins : List (Addr × Obj)} {σ : L2.St} {H : Hp} {s : Shared} {a : Addr} {xs : List V}
theorem plain_seq (I : Inv X pins σ H s) (h : PlT X.K H a xs) : ∃ its : List Value, Vals xs its ∧ PlainSeq "tuple" s.heap a its.toArray ∧ xs.length ≤ sizeLine := by
  obtain ⟨its, r, pl, hz⟩ := I.tuple h.sq
  obtain ⟨ob, ho, hc, n, hd⟩ := pl
  rcases h with ⟨o, hn, h⟩ | ⟨o, its', n', hk, hc', hn, hs, hz', r'⟩
  · have z : s.heap.get? a = some o := (I.hok a _ h).1
    rw [z] at ho
    cases ho
    exact ⟨its, r, ⟨ob, n, z, hc, hn, hd⟩, hz⟩
  · have z := I.kIn a o hk
    rw [z] at ho
    cases ho
    exact ⟨its, r, ⟨ob, n, z, hc, hn, hd⟩, hz⟩
theorem pairs2 (I : Inv X pins σ H s) : ∀ {ps : List Addr} {kvs : List (Key × V)}, Paired (fun p kv => SqT X.K H p [kV kv.1, kv.2]) ps kvs →
    ∃ (prs : List (Key × Value)) (qs : List (Value × Value)), KV kvs prs ∧ prs.length = ps.length ∧ qs.length = ps.length ∧ ∀ (j : Nat) (q : Value × Value), qs[j]? = some q → ∃ (b : Addr) (k : Key), ps[j]? = some b ∧ prs[j]? = some (k, q.2) ∧ IsTup s.heap b #[q.1, q.2] ∧ (mixKind X.prog X.w).is k q.1 = true
  | _, _, .nil => ⟨[], [], .nil, rfl, rfl, fun j q e => by simp at e⟩
  | _, _, .cons (a := p) (b := kv) h t => by
    obtain ⟨prs, qs, r, hl, hl2, hp⟩ := pairs2 I t
    obtain ⟨its, rv, ht, _⟩ := I.tuple h
    obtain ⟨u, y, ei, ru, ry⟩ := vals2 rv
    subst ei
    refine ⟨(kv.1, y) :: prs, (u, y) :: qs, .cons ⟨rfl, ry⟩ r, by rw [List.length_cons, List.length_cons, hl], by rw [List.length_cons, List.length_cons, hl2], fun j q e => ?_⟩
    cases j with
    | zero =>
      have e' : (u, y) = q := Option.some.inj e
      subst e'
      exact ⟨p, kv.1, rfl, rfl, ht, kV_is ru⟩
    | succ j =>
      obtain ⟨b, k', e1, e2, e3⟩ := hp j q (by simpa using e)
      exact ⟨b, k', by simpa using e1, by simpa using e2, e3⟩
theorem call_dictT (hcalm : X.calm = true) : CallR X (.type "dict") (fun xs H Q => ∃ (a : Addr) (ps : List Addr) (kvs : List (Key × V)), xs = [.ref a] ∧ PlT X.K H a (ps.map V.ref) ∧ Paired (fun p kv => SqT X.K H p [kV kv.1, kv.2]) ps kvs ∧
    ∀ p, H p = none → Q (.ref p) (upd H p (.dK (mergeK [] kvs)))) := by
  intro pins s σ H xs us Q I r q
  obtain ⟨a, ps, kvs, rfl, hq, hp, q⟩ := q
  obtain ⟨u, rfl, rx⟩ := vals1 r
  cases rx
  obtain ⟨its, rv, pl, hz⟩ := plain_seq I hq
  have ei := refs_at rv
  subst ei
  rw [List.length_map] at hz
  obtain ⟨prs, qs, rel, hl, hl2, hpr⟩ := pairs2 I hp
  have P := PairArg.tuple (prog := X.prog) (w := X.w) a (ps.map Value.ref).toArray (fun j => ps.getD j 0) qs
  refine PySem.call_dict_pairs (knd := mixKind X.prog X.w) (kvs := prs) P (I.ok.hd hcalm) ⟨pl, by simp [hl2], fun j k v e => ?_⟩ ⟨by rw [hl, hl2], fun j k v e => ?_⟩ (by rw [hl2]; exact hz) fun h' tk hd' k => ?_
  · obtain ⟨b, k', e1, e2, e3, e4⟩ := hpr j _ e
    obtain ⟨o, ho, hc, n, hd⟩ := e3
    exact ⟨by simp [e1], .inl (by simp only [List.getD_eq_getElem?_getD, e1]; exact ⟨o, ho, hc, n, hd⟩)⟩
  · obtain ⟨b, k', e1, e2, e3, e4⟩ := hpr j _ e
    exact ⟨k', e2, e4⟩
  · have hm : (s.heap.objs.size == sysModules) = false := beq_eq_false_iff_ne.mpr (Nat.ne_of_gt I.big)
    have hlen : (mergeK [] kvs).length ≤ sizeLine := by
      refine Nat.le_trans (length_mergeK kvs []) ?_
      rw [List.length_nil, Nat.zero_add, rel.length, hl]
      exact hz
    exact ⟨.ref s.heap.objs.size, upd H s.heap.objs.size (.dK (mergeK [] kvs)), I.laid (t' := tk) (fun b o e => k b o (fun z => nomatch z) e) (Nat.le_refl _) (show ObjOk X.prog X.w _ _ _ (.dK (mergeK [] kvs)) from ⟨hlen, hm, merged [] prs, KV.merge rel .nil, hd'⟩), rfl, q _ (I.hok.fresh (Nat.le_refl _))⟩
end
section
variable {K : PySem.W.Frag} {m : List Addr} {H : Hp}
theorem DRel1.put {kvs : List (D × D)} {us : List (Key × V)} (q : DRel1 K m H kvs us) {d : D} {v : V} (rv : RD K m H d v) (w : Key) : DRel1 K m H (dPut kvs (keyD w) d) (putK us w v) := by
  unfold dPut putK
  have ea : (dGet kvs (keyD w)).isSome = (us.any fun kv => decide (kv.1 = w)) := by
    have z := get1 q w
    rw [valV_any]
    cases h1 : dGet kvs (keyD w) <;> cases h2 : valV us w <;> rw [h1, h2] at z <;> first | rfl | exact z.elim
  rw [ea]
  split
  · have go : ∀ {kvs us}, DRel1 K m H kvs us → DRel1 K m H (kvs.map fun p => if p.1 = keyD w then (p.1, d) else p) (us.map fun kv => if kv.1 = w then (kv.1, v) else kv) := fun {kvs us} r => by
      induction r with
      | nil => exact .nil
      | @cons p u ps us h t ih =>
        refine .cons ?_ ih
        simp only []
        by_cases e : u.1 = w
        · rw [if_pos e, if_pos (by rw [h.1, e])]
          exact ⟨h.1, rv⟩
        · rw [if_neg e, if_neg (by rw [h.1]; exact fun z => e (keyD_inj z))]
          exact h
    exact go q
  · exact Paired.snoc q ⟨rfl, rv⟩
def mergeD (acc ps : List (D × D)) : List (D × D) := ps.foldl (fun acc p => dPut acc p.1 p.2) acc
theorem DRel1.merge {ps : List (D × D)} {kvs : List (Key × V)} (r : DRel1 K m H ps kvs) : ∀ {acc : List (D × D)} {us : List (Key × V)}, DRel1 K m H acc us → DRel1 K m H (mergeD acc ps) (mergeK us kvs) := by
  induction r with
  | nil => exact fun q => q
  | @cons p q ps kvs h t ih =>
    intro acc us z
    have e := ih (z.put h.2 q.1)
    rw [← h.1] at e
    exact e
/-- a pair whose first is a number or a text -/
def pairD (d : D) : Option (D × D) := match d with
  | .tup [k, v] => if k.flatK then some (k, v) else none
  | _ => none
def pairsD : List D → Option (List (D × D))
  | [] => some []
  | d :: ds => match pairD d, pairsD ds with
    | some p, some ps => some (p :: ps)
    | _, _ => none
theorem pairsD_read : ∀ {ds : List D} {vs : List V} {ps : List (D × D)}, RDs K m H ds vs → pairsD ds = some ps → ∃ (as : List Addr) (kvs : List (Key × V)), vs = as.map V.ref ∧ Paired (fun p kv => SqT K H p [kV kv.1, kv.2]) as kvs ∧ DRel1 K m H ps kvs
  | _, _, _, .nil, e => by
    cases e
    exact ⟨[], [], rfl, .nil, .nil⟩
  | _, _, _, .cons (d := d) r rs, e => by
    unfold pairsD at e
    split at e
    · rename_i p ps hp hps
      cases e
      obtain ⟨as, kvs, rfl, q1, q2⟩ := pairsD_read rs hps
      unfold pairD at hp
      split at hp
      · rename_i k v
        split at hp
        · rename_i hf
          cases hp
          cases r with
          | tup sq r2 =>
            cases r2 with
            | cons rk r3 =>
              cases r3 with
              | cons rv r4 =>
                cases r4
                obtain ⟨w, e1, e2⟩ := flatK_of hf rk
                subst e2
                exact ⟨_ :: as, (w, _) :: kvs, rfl, .cons sq.sq q1, .cons ⟨e1, rv⟩ q2⟩
        · cases hp
      · cases hp
    · cases e
end
section
variable {X : Cx}
def gDict : SM1 := fun ds st => match pairsD ds with
  | some ps => .ok (.ref st.length) (st ++ [.dct (mergeD [] ps)])
  | none => .bad
theorem s_dict (hc : X.calm = true) : CallS X (.type "dict") gDict := ⟨_, (call_dictP hc).or (call_dictT hc), fun m st H ds v E Q hS r hP => by
  obtain ⟨a, vs, rfl, q, rs⟩ := r
  unfold gDict at hP
  split at hP
  · rename_i ps hps
    obtain ⟨as, kvs, rfl, q1, q2⟩ := pairsD_read rs hps
    have fin : ∀ p, H p = none → Q (.ref p) (upd H p (.dK (mergeK [] kvs))) := fun p hp => by
      refine hP (m ++ [p]) _ _ (Ext.app hp) (hS.app hp (.inl ⟨_, upd_same, DRel1.kp (DRel1.merge q2 .nil) (Ext.app hp).toKp⟩)) (.ref ?_)
      rw [← hS.len]
      simp
    rcases q with q | q
    · exact .inl ⟨a, as, kvs, rfl, q, q1, fin⟩
    · exact .inr ⟨a, as, kvs, rfl, q, q1, fin⟩
  · exact hP.elim⟩
end
theorem bt_dict : bootBuiltins "dict" = some (.type "dict") := by decide +kernel
end HM

/-! HM, part Y: more of what holds behind a run. -/
namespace HM
open PySem PySem.Spec PyProof.Rows L2
/-- what is to hold is kept from the simplifier -/
theorem W.opq {α : Type} {r : ER α} {Q : α → Store → Prop} (h : ∀ Q' : α → Store → Prop, (∀ a s, Q a s → Q' a s) → W r Q') : W r Q := h Q fun _ _ h => h
section
variable {g : EM Bool} {u v w : SM} {τ : Sl} {st s1 : Store} {N : Sl → Store → Prop} {R : D → Store → Prop} {B C : Sl → Store → Prop}
/-- an if whose test changes the store -/
theorem ws_ifd (P : Bool → Store → Prop) (h : W (g τ st) P) (k1 : ∀ s, P true s → WS (u τ s) N R B C) (k2 : ∀ s, P false s → WS (v τ s) N R B C) : WS (sIf g u v τ st) N R B C := by
  rw [sIf_e, WS_bindE]
  refine h.mono fun b s hp => ?_
  cases b with
  | true => exact k1 s hp
  | false => exact k2 s hp
/-- a test that must be passed: if not g: return False -/
theorem ws_must {f : EM D} (P : Store → Prop) (h : W (f τ st) fun d s => d = .bl true ∧ P s) (k : ∀ s, P s → N τ s) : WS (sIf (HM.tNot (tVal f)) u sNil τ st) N R B C := by
  rw [sIf_e, WS_bindE, tNot_e, tVal_e]
  rw [W_bind, W_bind]
  refine h.mono fun d s hp => ?_
  obtain ⟨rfl, hp⟩ := hp
  simpa using k s hp
theorem ws_forD {fi : EM Sq} {set : D → Sl → Option Sl} (P : Sq → Store → Prop) (h : W (fi τ st) P) (k : ∀ q s, P q s → WS (forL q set u q.items τ s) N R B C) : WS (sFor fi set u τ st) N R B C := by
  rw [sFor_e, WS_bindE]
  exact h.mono k
theorem ws_set {i : Nat} {f : EM D} (h : W (f τ st) fun d s => N (τ.set i (some d)) s) : WS (sSet i f τ st) N R B C := by
  rw [sSet_e, WS_bindE]
  exact h
theorem ws_ret {f : EM D} (h : W (f τ st) R) : WS (sRet f τ st) N R B C := by
  rw [sRet_e, WS_bindE]
  exact h
theorem ws_expr {f : EM D} (h : W (f τ st) fun _ s => N τ s) : WS (sExpr f τ st) N R B C := by
  rw [sExpr_e, WS_bindE]
  exact h
/-- a name bound to a comprehension's list -/
theorem ws_setLc {i : Nat} {own : List Nat} {fi : EM Sq} {set : D → Sl → Option Sl} {ft : EM Bool} {fe : EM D} (P : Sq → Store → Prop) (h : W (fi τ st) P) (hl : ∀ q s, P q s → q.items.length ≤ 16777216)
    (k : ∀ q s, P q s → W (compL q set ft fe (wipeD τ own) q.items [] s) fun ys s1 => N (τ.set i (some (.ref s1.length))) (s1 ++ [.lst ys])) : WS (sSet i (eEl (lComp own fi set ft fe)) τ st) N R B C := by
  refine ws_set ?_
  rw [eEl_e, W_bind, lComp_e, W_bind]
  refine h.mono fun q s hp => w_lc (hl q s hp) ?_
  exact k q s hp
end
section
variable {q : Sq} {set : D → Sl → Option Sl} {u : SM} {N : Sl → Store → Prop} {R : D → Store → Prop} {B C : Sl → Store → Prop}
/-- a loop that returns the first that fits -/
theorem ws_find {α : Type} (g : α → D) (p : α → Bool) (I : Sl → Prop) (J : Store → Prop) (hc : ∀ st, J st → q.chk st = true) : ∀ (xs : List α) (ds : List D) (τ : Sl) (st : Store), ds = xs.map g → I τ → J st →
    (∀ a ∈ xs, ∀ τ st, I τ → J st → ∃ τ1, set (g a) τ = some τ1 ∧ WS (u τ1 st) (fun τ s => p a = false ∧ I τ ∧ J s) (fun d s => p a = true ∧ d = g a ∧ J s) (fun _ _ => False) (fun τ s => p a = false ∧ I τ ∧ J s)) →
    (∀ τ s, xs.find? p = none → I τ → J s → N τ s) → (∀ a s, xs.find? p = some a → J s → R (g a) s) → WS (forL q set u ds τ st) N R B C
  | [], ds, τ, st, hd, h0, j0, _, kN, _ => by
    subst hd
    rw [List.map_nil, forL, if_pos (hc st j0)]
    exact kN τ st rfl h0 j0
  | a :: xs, ds, τ, st, hd, h0, j0, hs, kN, kR => by
    subst hd
    obtain ⟨τ1, e1, h1⟩ := hs a (List.mem_cons_self ..) τ st h0 j0
    rw [List.map_cons, forL, if_pos (hc st j0), e1]
    simp only
    have go : ∀ τ s, (p a = false ∧ I τ ∧ J s) → WS (forL q set u (xs.map g) τ s) N R B C := fun τ s ⟨hp, h2, h3⟩ =>
      ws_find g p I J hc xs _ τ s rfl h2 h3 (fun b hb => hs b (List.mem_cons_of_mem _ hb)) (fun τ s h => kN τ s (by rw [List.find?_cons_of_neg (by rw [hp]; decide)]; exact h)) (fun a' s h => kR a' s (by rw [List.find?_cons_of_neg (by rw [hp]; decide)]; exact h))
    generalize u τ1 st = r at h1
    cases r with
    | nx τ s => exact go τ s h1
    | ct τ s => exact go τ s h1
    | rt d s =>
      obtain ⟨hp, rfl, h3⟩ := h1
      exact kR a s (by rw [List.find?_cons_of_pos hp]) h3
    | _ => exact h1.elim
end
/-! dicts of one pair; sorted -/
section
variable {τ : Sl} {st : Store} {f g : EM D} {n : Nat} {xs : List D} {kvs : List (D × D)}
@[simp] theorem eDct1_e : eDct1 f g τ st = (f τ st).bind fun k s1 => (g τ s1).bind fun v s2 => if k.flatK || k.tupQ then .ok (.ref s2.length) (s2 ++ [.dct [(k, v)]]) else .bad := rfl
theorem fSorted_ref (h : lstAt st n = some xs) : fSorted [.ref n] st = gSorted xs st := by simp [fSorted, dSeq, h]
@[simp] theorem fSorted_tup : fSorted [.tup xs] st = gSorted xs st := rfl
theorem fSorted_dct (h : dctAt st n = some kvs) : fSorted [.ref n] st = gSorted (kvs.map (·.1)) st := by
  have := lst_dct h
  simp [fSorted, dSeq, this, h]
end
end HM

/-! HM, part ZT: zip of three tuples. -/
namespace HM
open PySem PySem.Spec PyProof.Rows L2
/-- triples of the items at a, b and c -/
def It3 (K : PySem.W.Frag) (a b c : Addr) : It where
  go := fun i H => ∃ (xs ys zs : List V) (x y z : V), (SqT K H a xs ∧ SqT K H b ys ∧ SqT K H c zs) ∧ xs[i]? = some x ∧ ys[i]? = some y ∧ zs[i]? = some z
  yld := fun i H v H' => ∃ (T : Addr) (x y z : V), (v = .ref T ∧ H T = none ∧ ∃ o : Obj, o.dict = none ∧ H' = upd H T (.frz o (.tup [x, y, z]))) ∧ (∀ xs, SqT K H a xs → xs[i]? = some x) ∧ (∀ ys, SqT K H b ys → ys[i]? = some y) ∧ (∀ zs, SqT K H c zs → zs[i]? = some z)
  stop := fun i H => ∃ xs ys zs : List V, (SqT K H a xs ∧ SqT K H b ys ∧ SqT K H c zs) ∧ i ≤ xs.length ∧ i ≤ ys.length ∧ i ≤ zs.length ∧ (i = xs.length ∨ i = ys.length ∨ i = zs.length)
section
variable {P : Program} {w : World} {K : PySem.W.Frag}
/-- the new cells of a zip of three lie apart -/
theorem nne {a b : Nat} (h : a < b ∨ b < a) : @Ne Addr a b := by
  show @Ne Nat a b
  omega
theorem nin {a b c : Nat} (h : a < b ∨ b < a) (h2 : a < c ∨ c < a) : a ∉ ([b, c] : List Addr) := by
  intro hm
  rcases List.mem_cons.mp hm with q | q
  · exact nne h q
  · exact nne h2 (List.mem_singleton.mp q)
theorem sep3 {n a b c : Nat} (ha : a < n) (hb : b < n) (hc : c < n) : ZipSep3 (n + 5) (n + 3) (n + 4) n (n + 1) (n + 2) [n, a] [n + 1, b] [n + 2, c] := by
  constructor
  all_goals first | exact nne (by omega) | exact nin (by omega) (by omega) | exact List.mem_cons_self
theorem turn_3 {elts : List Expr} {kk : Nat} {tpos : Pos} {a b c n : Nat} (ha : a < n) (hb : b < n) (hc : c < n) :
    Turn P w K (.Tuple elts kk tpos) (It3 K a b c) [n + 5, n + 3, n + 4, n, n + 1, n + 2] (n + 5) fun i h => (IsZip h (n + 5) (n + 3) (n + 4) .none ∧ IsTupOf3 h (n + 3) (.ref n) (.ref (n + 1)) (.ref (n + 2)) ∧ ∃ x y z, IsTupOf3 h (n + 4) x y z) ∧ kIter false h n a i ∧ kIter false h (n + 1) b i ∧ kIter false h (n + 2) c i := by
  have keepI : ∀ {k : Bool} {h h' : Heap} {it l : Addr} {i : Nat}, kIter k h it l i → (∀ o, h.get? it = some o → h'.get? it = some o) → kIter k h' it l i := fun st q => by
    obtain ⟨o, e, c⟩ := st
    exact ⟨o, q o e, c⟩
  have S := sep3 ha hb hc
  refine ⟨by simp, ?_, ?_, ?_, ?_, fun A i s Q E st h => wpAny_pyIter_zip st.1.1 h⟩
  · rintro i h ⟨⟨hz, ht, x, y, z, ho⟩, ⟨o1, g1, _, d1⟩, ⟨o2, g2, _, d2⟩, o3, g3, _, d3⟩ c hc
    simp only [List.mem_cons, List.not_mem_nil, or_false] at hc
    rcases hc with rfl | rfl | rfl | rfl | rfl | rfl
    · exact ⟨_, hz, fun v q => nomatch q⟩
    · exact ⟨_, ht, fun v q => nomatch q⟩
    · exact ⟨_, ho, fun v q => nomatch q⟩
    · exact ⟨o1, g1, fun v q => by rw [d1] at q; exact nomatch q⟩
    · exact ⟨o2, g2, fun v q => by rw [d2] at q; exact nomatch q⟩
    · exact ⟨o3, g3, fun v q => by rw [d3] at q; exact nomatch q⟩
  · rintro i h h' ⟨⟨hz, ht, x, y, z, ho⟩, j1, j2, j3⟩ q
    exact ⟨⟨q _ (by simp) _ hz, q _ (by simp) _ ht, x, y, z, q _ (by simp) _ ho⟩, keepI j1 (q _ (by simp)), keepI j2 (q _ (by simp)), keepI j3 (q _ (by simp))⟩
  · intro X hP hw hK hcc i pins s σ H E I hf st hg
    subst hP hw hK
    obtain ⟨⟨hz, ht, x0, y0, z0, ho⟩, j1, j2, j3⟩ := st
    obtain ⟨xs, ys, zs, x, y, z, ⟨hx, hy, hw⟩, ex, ey, ez⟩ := hg
    obtain ⟨its, rv, p1, _⟩ := inv_k (k := false) I hx
    obtain ⟨its2, rv2, p2, _⟩ := inv_k (k := false) I hy
    obtain ⟨its3, rv3, p3, _⟩ := inv_k (k := false) I hw
    obtain ⟨u, hu, ru⟩ := rv.get ex
    obtain ⟨u2, hu2, ru2⟩ := rv2.get ey
    obtain ⟨u3, hu3, ru3⟩ := rv3.get ez
    have hh : X.A.in1.handled = none := I.ok.hd hcc
    have d1 := draws_k (prog := X.prog) (w := X.w) (k := false) hh (nne (a := a) (b := n) (by omega)) its.toArray
    have d2 := draws_k (prog := X.prog) (w := X.w) (k := false) hh (nne (a := b) (b := n + 1) (by omega)) its2.toArray
    have d3 := draws_k (prog := X.prog) (w := X.w) (k := false) hh (nne (a := c) (b := n + 2) (by omega)) its3.toArray
    have n1 : i < its.toArray.size := by have := (List.getElem?_eq_some_iff.mp hu).1; simpa using this
    have n2 : i < its2.toArray.size := by have := (List.getElem?_eq_some_iff.mp hu2).1; simpa using this
    have n3 : i < its3.toArray.size := by have := (List.getElem?_eq_some_iff.mp hu3).1; simpa using this
    have zl : n + 5 < s.heap.objs.size := Heap.lt_size hz
    refine wpAny_pyNext_zipD3_item S d1 d2 d3 hz ht ho ⟨j1, p1⟩ ⟨j2, p2⟩ ⟨j3, p3⟩ n1 n2 n3 ?_
    intro v1 v2 v3 h' tk e1 e2 e3 z' o' q1 q2 q3 hT hsz hk
    have e1 : u = v1 := by simpa [hu] using e1
    have e2 : u2 = v2 := by simpa [hu2] using e2
    have e3 : u3 = v3 := by simpa [hu3] using e3
    subst e1 e2 e3
    refine ⟨_, rfl, wpAny_letOwnedTupleGo_zip (s := { s with heap := h', toks := tk }) z' ?_⟩
    intro h'' z'' sb
    have T2 := (sb.2 _ (Nat.ne_of_gt zl)).trans hT
    have nw : ObjOk X.prog X.w (upd H s.heap.objs.size (.frz { cls := .type "tuple", data := .seq #[u, u2, u3] } (.tup [x, y, z]))) h'' s.heap.objs.size (.frz { cls := .type "tuple", data := .seq #[u, u2, u3] } (.tup [x, y, z])) := by
      refine ⟨T2, ?_, [u, u2, u3], .cons ru (.cons ru2 (.cons ru3 .nil)), _, T2, rfl, _, rfl⟩
      show 3 ≤ sizeLine
      decide
    have other : ∀ (c : Addr) (o : Obj), c ∉ [n + 5, n + 3, n + 4, n, n + 1, n + 2] → s.heap.get? c = some o → h''.get? c = some o := fun c o hb q => by
      simp only [List.mem_cons, List.not_mem_nil, or_false, not_or] at hb
      exact (sb.2 c hb.1).trans (hk c o hb.1 hb.2.2.1 hb.2.2.2.1 hb.2.2.2.2.1 hb.2.2.2.2.2 q)
    have I1 : Inv X pins σ (upd H s.heap.objs.size (.frz { cls := .type "tuple", data := .seq #[u, u2, u3] } (.tup [x, y, z]))) { s with heap := h'', toks := tk } := I.turnedNew (t' := tk) (ch := [n + 5, n + 3, n + 4, n, n + 1, n + 2]) other hf (Nat.le_refl _) nw
    have jk : ∀ {l i1 : Nat}, n ≤ i1 → i1 < n + 3 → kIter false h' i1 l (i + 1) → kIter false h'' i1 l (i + 1) := fun h1 h2 st => keepI st fun o e => (sb.2 _ (nne (by omega))).trans e
    refine ⟨.ref s.heap.objs.size, _, I1, rfl, ⟨_, x, y, z, ⟨rfl, I.hok.fresh (Nat.le_refl _), _, rfl, rfl⟩, fun l hl => by rw [inj_k (k := false) I hl hx]; exact ex, fun l hl => by rw [inj_k (k := false) I hl hy]; exact ey, fun l hl => by rw [inj_k (k := false) I hl hw]; exact ez⟩, ⟨⟨z'', ?_, u, u2, u3, ?_⟩, ?_, ?_, ?_⟩, ?_⟩
    · exact (sb.2 _ (nne (by omega))).trans (hk _ _ (nne (by omega)) (nne (by omega)) (nne (by omega)) (nne (by omega)) (nne (by omega)) ht)
    · exact (sb.2 _ (nne (by omega))).trans o'
    · exact jk (by omega) (by omega) q1.1
    · exact jk (by omega) (by omega) q2.1
    · exact jk (by omega) (by omega) q3.1
    · intro c hm
      have lt : c < s.heap.objs.size := by
        have hm := hm
        simp only [List.mem_cons, List.not_mem_nil, or_false] at hm
        have go : ∀ k : Nat, k ≤ n + 5 → k < s.heap.objs.size := fun k hk => by omega
        rcases hm with rfl | rfl | rfl | rfl | rfl | rfl <;> exact go _ (by omega)
      rw [upd_ne (Nat.ne_of_lt lt)]
      exact (hf c hm).1
  · intro X hP hw hK hcc i pins s σ H E I hf st hg
    subst hP hw hK
    obtain ⟨⟨hz, ht, x0, y0, z0, ho⟩, j1, j2, j3⟩ := st
    obtain ⟨xs, ys, zs, ⟨hx, hy, hw⟩, l1, l2, l3, he⟩ := hg
    obtain ⟨its, rv, p1, _⟩ := inv_k (k := false) I hx
    obtain ⟨its2, rv2, p2, _⟩ := inv_k (k := false) I hy
    obtain ⟨its3, rv3, p3, _⟩ := inv_k (k := false) I hw
    have m1 := rv.length
    have m2 := rv2.length
    have m3 := rv3.length
    have hh : X.A.in1.handled = none := I.ok.hd hcc
    have d1 := draws_k (prog := X.prog) (w := X.w) (k := false) hh (nne (a := a) (b := n) (by omega)) its.toArray
    have d2 := draws_k (prog := X.prog) (w := X.w) (k := false) hh (nne (a := b) (b := n + 1) (by omega)) its2.toArray
    have d3 := draws_k (prog := X.prog) (w := X.w) (k := false) hh (nne (a := c) (b := n + 2) (by omega)) its3.toArray
    refine wpAny_pyNext_zipD3_end S d1 d2 d3 hz ht ho ⟨j1, p1⟩ ⟨j2, p2⟩ ⟨j3, p3⟩ (by rw [List.size_toArray]; omega) (by rw [List.size_toArray]; omega) (by rw [List.size_toArray]; omega) (by rw [List.size_toArray, List.size_toArray, List.size_toArray]; omega) ?_
    intro h' tk hk
    refine ⟨rfl, I.turnedL (t' := tk) (ch := [n + 5, n + 3, n + 4, n, n + 1, n + 2]) ?_ hf⟩
    intro c o hb q
    simp only [List.mem_cons, List.not_mem_nil, or_false, not_or] at hb
    exact hk c o hb.1 hb.2.2.1 hb.2.2.2.1 hb.2.2.2.2.1 hb.2.2.2.2.2 q
end
def iZ3 (K : PySem.W.Frag) (ta : TA) : TI := fun σ H R => ta σ H fun vs H1 => ∃ (a b c : Addr) (xs ys zs : List V), vs = [.ref a, .ref b, .ref c] ∧ (SqT K H1 a xs ∧ SqT K H1 b ys ∧ SqT K H1 c zs) ∧ R (It3 K a b c) H1
theorem pi_z3 {X : Cx} {e e2 e3 : Expr} {ta : TA} {p pos tpos : Pos} {elts : List Expr} {kk : Nat} (hg : Gl X "zip") (hm : X.mg "zip" = none) (ha : PA X [e, e2, e3] ta)
    (hs : starEach [e, e2, e3] X.env = (false, eval e X.env) :: starEach [e2, e3] X.env := by rfl)
    (hpl : (backTo pos (starEach [e2, e3] X.env)).any (·.1) = false := by rfl) : PI X (.Tuple elts kk tpos) (.Call (.Name "zip" p) [e, e2, e3] [] pos) (iZ3 X.K ta) := by
  refine ⟨?_⟩
  intro pins s σ H R I h
  refine Call_ (ld_blt I hg hm PyProof.Rows.boot_zip ?_)
  refine PyProof.Rows.callWith_type1 (thn (ha.run pos pins s σ H _ I h) ?_) hs hpl
  rintro us s1 ⟨vs, H1, I1, r1, a, b, c, xs, ys, zs, rfl, ⟨hx, hy, hw⟩, q⟩
  cases r1 with
  | cons r rr =>
  cases rr with
  | cons r' rr =>
  cases rr with
  | cons r'' rr =>
  cases rr
  cases r
  cases r'
  cases r''
  obtain ⟨its, rv, p1, la⟩ := inv_k (k := false) I1 hx
  obtain ⟨its2, rv2, p2, lb⟩ := inv_k (k := false) I1 hy
  obtain ⟨its3, rv3, p3, lc⟩ := inv_k (k := false) I1 hw
  refine zip_begins3 (begins_tuple a its.toArray) (begins_tuple b its2.toArray) (begins_tuple c its3.toArray) p1 p2 p3 ?_
  intro h' Zz Zi Zo Z1 Z2 Z3 hsz keep
  refine wpAny_pyIter_zip Zz ?_
  have I2 : Inv X pins σ H1 { s1 with heap := h' } := I1.kept (t' := s1.toks) keep
  have T := turn_3 (P := X.prog) (w := X.w) (K := X.K) (elts := elts) (kk := kk) (tpos := tpos) la lb lc
  refine ⟨s1.heap.objs.size + 5, _, _, _, H1, rfl, I2, T, ⟨⟨Zz, Zi, _, _, _, Zo⟩, ⟨_, Z1, rfl, rfl⟩, ⟨_, Z2, rfl, rfl⟩, ⟨_, Z3, rfl, rfl⟩⟩, ?_, q⟩
  intro c hm
  have le : s1.heap.objs.size ≤ c := by
    simp only [List.mem_cons, List.not_mem_nil, or_false] at hm
    have go : ∀ k : Nat, s1.heap.objs.size ≤ s1.heap.objs.size + k := fun k => Nat.le_add_right _ _
    rcases hm with rfl | rfl | rfl | rfl | rfl | rfl
    · exact go 5
    · exact go 3
    · exact go 4
    · exact go 0
    · exact go 1
    · exact go 2
  exact I1.fpOk le (I1.hok.fresh le)
/-- triples -/
def zip3D (xs ys zs : List D) : List D := (List.zip xs (List.zip ys zs)).map fun p => .tup [p.1, p.2.1, p.2.2]
theorem zip3D_at {xs ys zs : List D} {i : Nat} {d : D} (h : (zip3D xs ys zs)[i]? = some d) : ∃ x y z, xs[i]? = some x ∧ ys[i]? = some y ∧ zs[i]? = some z ∧ d = .tup [x, y, z] := by
  unfold zip3D at h
  rw [List.getElem?_map] at h
  cases hz : (List.zip xs (List.zip ys zs))[i]? with
  | none =>
    rw [hz] at h
    cases h
  | some q =>
    rw [hz] at h
    cases h
    obtain ⟨h1, h2⟩ := List.getElem?_zip_eq_some.mp hz
    obtain ⟨h2, h3⟩ := List.getElem?_zip_eq_some.mp h2
    exact ⟨_, _, _, h1, h2, h3, rfl⟩
theorem zip3D_len (xs ys zs : List D) : (zip3D xs ys zs).length = min xs.length (min ys.length zs.length) := by
  unfold zip3D
  rw [List.length_map, List.length_zip, List.length_zip]
theorem j_z3 {K : KW} {m0 : List Addr} {H0 : Hp} {a b c : Addr} {xs ys zs : List D} {vs us ts : List V} (q1 : SqT K H0 a vs) (q2 : SqT K H0 b us) (q3 : SqT K H0 c ts) (r1 : RDs K m0 H0 xs vs) (r2 : RDs K m0 H0 ys us) (r3 : RDs K m0 H0 zs ts) :
    JOk K m0 H0 (.fix (zip3D xs ys zs)) (It3 K a b c) := by
  intro m H st e s _
  have q1 := e.tup a vs q1
  have q2 := e.tup b us q2
  have q3 := e.tup c ts q3
  have r1 := r1.mono e
  have r2 := r2.mono e
  have r3 := r3.mono e
  refine ⟨?_, vs, us, ts, ⟨q1, q2, q3⟩, ?_⟩
  · intro i d hd
    obtain ⟨x, y, z, hx, hy, hz, rfl⟩ := zip3D_at (show (zip3D xs ys zs)[i]? = some d from hd)
    obtain ⟨v, hv, rv⟩ := r1.get hx
    obtain ⟨u, hu, ru⟩ := r2.get hy
    obtain ⟨t, ht, rt⟩ := r3.get hz
    refine ⟨⟨vs, us, ts, v, u, t, ⟨q1, q2, q3⟩, hv, hu, ht⟩, ?_⟩
    rintro z H' ⟨T, v', u', t', ⟨rfl, hT, ob, hob, rfl⟩, g1, g2, g3⟩
    have z1 := g1 vs q1
    have z2 := g2 us q2
    have z3 := g3 ts q3
    rw [hv] at z1
    rw [hu] at z2
    rw [ht] at z3
    cases z1
    cases z2
    cases z3
    have f := Ext.fresh (K := K) (m := m) (H := H) (o := .frz ob (.tup [v, u, t])) hT
    exact ⟨f, s.fresh hT, .tup (PlT.of hob) (.cons (rv.mono f) (.cons (ru.mono f) (.cons (rt.mono f) .nil)))⟩
  · have l1 := r1.len
    have l2 := r2.len
    have l3 := r3.len
    have e : (Sq.fix (zip3D xs ys zs)).items.length = min xs.length (min ys.length zs.length) := zip3D_len xs ys zs
    omega
section
variable {X : Cx} {W : WX} {a b c : Expr} {pos p tpos : Pos} {fa fb fc : EM D}
def zip3 (d e f : D) (st : Store) : ER Sq := match d, e, f with
  | .tup xs, .tup ys, .tup zs => .ok (.fix (zip3D xs ys zs)) st
  | _, _, _ => .bad
def iZip3 (fa fb fc : EM D) : EM Sq := fun τ st => (fa τ st).bind fun d s1 => (fb τ s1).bind fun e s2 => (fc τ s2).bind fun f s3 => zip3 d e f s3
theorem ei_zip3 {elts : List Expr} {kk : Nat} (hg : Gl X "zip") (hm : X.mg "zip" = none) (ha : Ex X W a fa) (hb : Ex X W b fb) (hc : Ex X W c fc)
    (hs : starEach [a, b, c] X.env = (false, eval a X.env) :: starEach [b, c] X.env := by rfl) (hs2 : starEach [b, c] X.env = (false, eval b X.env) :: starEach [c] X.env := by rfl) (hs3 : starEach [c] X.env = (false, eval c X.env) :: starEach [] X.env := by rfl) (hpl : (backTo pos (starEach [b, c] X.env)).any (·.1) = false := by rfl) :
    Ei X W (.Tuple elts kk tpos) (.Call (.Name "zip" p) [a, b, c] [] pos) (iZip3 fa fb fc) := by
  refine ⟨fun m τ st σ H R hL hS hP pins s I => (pi_z3 (elts := elts) (kk := kk) (tpos := tpos) hg hm (pa_cons peW (pa_cons peW (pa_cons peW pa_nil hs3) hs2) hs) hs hpl).run pins s σ H R I ?_⟩
  refine ha.run m τ st σ H _ hL hS (hP.bind fun d s1 m1 H1 v e1 hS1 r1 hP1 => ?_)
  refine hb.run m1 τ s1 σ H1 _ (hL.mono e1) hS1 (hP1.bind fun d2 s2 m2 H2 v2 e2 hS2 r2 hP2 => ?_)
  refine hc.run m2 τ s2 σ H2 _ ((hL.mono e1).mono e2) hS2 (hP2.bind fun d3 s3 m3 H3 v3 e3 hS3 r3 hP3 => ?_)
  have r1 := (r1.mono e2).mono e3
  have r2 := r2.mono e3
  unfold zip3 at hP3
  split at hP3
  · cases r1 with
    | tup q rs =>
      cases r2 with
      | tup q2 rs2 =>
        cases r3 with
        | tup q3 rs3 => exact ⟨_, _, _, _, _, _, rfl, ⟨q.sq, q2.sq, q3.sq⟩, hP3.now hS3 (j_z3 q.sq q2.sq q3.sq rs rs2 rs3)⟩
  · exact hP3.elim
end
end HM

/-! HM, own exceptions: raise, try .. except X as e, isinstance(e, C), e.f. -/
namespace HM
open PySem PySem.Spec PyProof.Rows L2
/-- a class of the module's, by its name -/
def cN (n : Str) : D := .adr 0 none n .non
section
variable {X : Cx} {W : WX} {a e : Expr} {pos p pos' : Pos} {fs : EM (List D)} {k : Nat}
def sRaise1 (n f : Str) (fs : EM (List D)) : SM := fun τ st => bindE (fs τ st) τ fun ds s => match ds with
  | [d] => .exc ⟨cN n, [(f, d)]⟩ τ s
  | _ => .bad
theorem sx_raise1 {n f : Str} (hc : X.calm = true) (tk : Takes X W) (O : Own X.prog X.K X.mg n (some f)) (hr : Room k X.A) (hk : 0 < k) (ha : Ea X W [a] fs) (hg : Gl X n := by rfl) (hn : (n == ("__debug__" : Str)) = false := by decide)
    (he : starEach (a :: []) X.env = (false, eval a X.env) :: starEach [] X.env := by rfl) (hpl : (backTo pos (starEach [] X.env)).any (·.1) = false := by rfl) :
    Sx X W (.Raise (some (.Call (.Name n p) [a] [] pos)) none pos') (sRaise1 n f fs) := by
  refine ⟨fun m τ s σ H D hL hS hP pins sh I => ?_⟩
  obtain ⟨fI, T⟩ := O.txt
  refine (ps_raise hc tk (pmk1 T O.glob hr paW hg hk hn he hpl)).run pins sh σ H D I ?_
  show wA X [a] σ H fun vs H1 => ∃ v, vs = [v] ∧ ∀ d, H1 d = none → W (.ref (He.ga X.K n)) (some d) σ (upd H1 d (.xd [(f, v)]))
  refine ha.run m τ s σ H _ hL hS ?_
  unfold sRaise1 at hP
  cases hq : fs τ s with
  | ok ds s1 =>
    rw [hq, bindE_ok] at hP
    intro m1 H1 vs e1 hS1 r1
    match ds, r1, hP with
    | [], _, hP => exact hP.elim
    | _ :: _ :: _, _, hP => exact hP.elim
    | [d], r1, hP =>
      obtain ⟨v, rfl, rv⟩ := r1.one
      refine ⟨v, rfl, fun dd hd => ?_⟩
      have eF : Ext X.K m1 H1 m1 (upd H1 dd (.xd [(f, v)])) := Ext.fresh hd
      exact hP m1 _ σ (.ref (He.ga X.K n)) (some dd) (e1.trans eF) (hS1.fresh hd) (hL.mono (e1.trans eF)) ⟨rfl, .inr ⟨f, d, dd, v, rfl, rfl, upd_same, rv.mono eF⟩⟩
  | exc x s1 =>
    rw [hq] at hP
    intro m1 H1 c d e1 hS1 hX
    exact hP m1 H1 σ c d e1 hS1 (hL.mono e1) hX
  | bad =>
    rw [hq] at hP
    exact hP.elim
def sRaise0 (n : Str) : SM := fun τ st => .exc ⟨cN n, []⟩ τ st
theorem sx_raise0 {n : Str} (hc : X.calm = true) (tk : Takes X W) (O : Own X.prog X.K X.mg n none) (hr : Room k X.A) (hk : 0 < k) (hg : Gl X n := by rfl) (hn : (n == ("__debug__" : Str)) = false := by decide) :
    Sx X W (.Raise (some (.Call (.Name n p) [] [] pos)) none pos') (sRaise0 n) := by
  refine ⟨fun m τ s σ H D hL hS hP pins sh I => ?_⟩
  obtain ⟨fI, T⟩ := O.txt
  refine (ps_raise hc tk (pmk0 T O.glob hr hg hk hn)).run pins sh σ H D I ?_
  exact hP m H σ _ _ .refl hS hL ⟨rfl, .inl ⟨rfl, rfl⟩⟩
end
/-! ### the suite's own -/
def dOf (x : Xc) : Option Addr := match x.fs with
  | [] => none
  | _ => some 0
def xcD (a : Addr) (d : Option Addr) (x : Xc) : D := match x.fs with
  | [(f, v)] => .adr a d f v
  | _ => .adr a none Str.empty .non
/-- isinstance(e, ..), e in slot i the exception at a -/
def eIs (i : Nat) (a : Addr) (d : Option Addr) (b : Option Bool) : EM D := fun τ st => match τ[i]? with
  | some (some (.adr a' d' _ _)) => if a' = a ∧ d' = d then match b with
    | some b => .ok (.bl b) st
    | none => .bad
    else .bad
  | _ => .bad
/-- e.f -/
def eFl (i : Nat) (a : Addr) (d : Option Addr) (f : Str) : EM D := fun τ st => match τ[i]? with
  | some (some (.adr a' (some d') g x)) => if (a' = a ∧ some d' = d) ∧ g = f then .ok x st else .bad
  | _ => .bad
def rIsE2 (K : PySem.W.Frag) (D a : Addr) (d : Option Addr) : List V → Hp → VK → Prop := fun xs H Q => ∃ (c : V) (cv : Value) (b : Bool), xs = [.ref a, c] ∧ (∀ u, RelV c u → u = cv) ∧ PySem.W.kitOne K (.ref D) cv = some b ∧ (∀ dd, d = some dd → ∃ fs, H dd = some (.xd fs)) ∧ Q (.bl b) H
theorem call_isE2 {X : Cx} {a D : Addr} {oe : Obj} {d : Option Addr} {pn : List (Addr × Obj)} (C : IsC X.K D) (hz : Zc (.ref D) d oe) (hf : ∃ vs, oe.data = .fields vs) : CallR (X.suite a ((a, oe) :: pn)) (.builtin "isinstance") (rIsE2 X.K D a d) := by
  intro pins s σ H xs us Q I r h
  obtain ⟨c, cv, b, rfl, hcv, e, hd, q⟩ := h
  cases r with
  | cons rx rr =>
    cases rr with
    | cons rt rr =>
      cases rr
      cases rx
      have ec := hcv _ rt
      subst ec
      obtain ⟨hget, _⟩ := I.pin (a, oe) (List.mem_append.mpr (.inl List.mem_cons_self))
      obtain ⟨vs, hv⟩ := hf
      have J : ∃ od, PySem.W.InstAt s.heap a oe D od := by
        obtain ⟨oc, od, oda, osl⟩ := oe
        obtain ⟨h1, h2⟩ := hz
        dsimp only at h1 h2 hv
        subst h1 h2 hv
        cases od with
        | none => exact ⟨none, hget, rfl, rfl, trivial⟩
        | some dd =>
          obtain ⟨fs, hx⟩ := hd dd rfl
          have hx : ObjOk X.prog X.w H s.heap dd (.xd fs) := I.hok dd _ hx
          obtain ⟨mA, hns, hr⟩ := hx
          obtain ⟨od, ho, hl⟩ := lookIn_ns hns
          exact ⟨some od, hget, rfl, rfl, ho⟩
      obtain ⟨od, J⟩ := J
      exact PySem.W.kia_one (PySem.W.kitx_exc C.cl C.ga C.gg C.ex C.ca C.sp C.tk C.ob) I.kIn J e (fun z => nomatch z) fun tk => ⟨.bl b, H, I.kept (t' := tk) fun _ _ z => z, rfl, q⟩
section
variable {X : Cx} {W : WX} {a : Addr} {oe : Obj} {d : Option Addr} {pn : List (Addr × Obj)} {n e : Str} {i : Nat} {pos p p1 p2 : Pos}
theorem slot_adr {K : PySem.W.Frag} {m : List Addr} {H : Hp} {τ : Sl} {σ : L2.St} {a' : Addr} {d' : Option Addr} {f : Str} {x : D} (hL : SL K m H τ σ) (h : τ[i]? = some (some (.adr a' d' f x))) : σ[i]? = some (some (.ref a')) ∧ ∀ dd, d' = some dd → ∃ v, H dd = some (.xd [(f, v)]) ∧ RD K m H x v := by
  obtain ⟨v, h1, h2⟩ := hL.get i _ h
  cases h2 with
  | adr => exact ⟨h1, fun dd z => by cases z⟩
  | adrF h r => exact ⟨h1, fun dd z => by cases z; exact ⟨_, h, r⟩⟩
/-- isinstance(e, c) -/
theorem ex_isE {c : Expr} {cv : Value} {v : V} {b : Bool} (C : IsC X.K (He.ga X.K n)) (hz : Zc (.ref (He.ga X.K n)) d oe) (hf : ∃ vs, oe.data = .fields vs) (hN : X.N[i]? = some e) (hv : Vis X.env.scope e) (hcd : PE (X.suite a ((a, oe) :: pn)) c (tC v)) (hcv : ∀ u, RelV v u → u = cv) (hk : PySem.W.kitOne X.K (.ref (He.ga X.K n)) cv = some b)
    (hg : Gl X "isinstance") (hm : X.mg "isinstance" = none) (hd1 : (e == ("__debug__" : Str)) = false := by decide) (hd2 : (e == ("__classdict__" : Str)) = false := by decide)
    (he : starEach [.Name e p1, c] X.env = (false, eval (.Name e p1) X.env) :: starEach [c] X.env := by rfl) (he2 : starEach [c] X.env = (false, eval c X.env) :: starEach [] X.env := by rfl) (hpl : (backTo pos (starEach [c] X.env)).any (·.1) = false := by rfl) :
    Ex (X.suite a ((a, oe) :: pn)) W (.Call (.Name "isinstance" p) [.Name e p1, c] [] pos) (eIs i a d (some b)) := by
  refine ⟨fun m τ st σ H Q hL hS hP pins s I => ?_⟩
  refine (pe_callB (X := X.suite a ((a, oe) :: pn)) (call_isE2 C hz hf) hg hm PyProof.Rows.boot_isinstance (pa_cons (pe_var (X := X.suite a ((a, oe) :: pn)) hN hv hd1 hd2) (pa_cons hcd pa_nil he2) he) (by decide) (by decide) he hpl).run pins s σ H Q I ?_
  unfold eIs at hP
  split at hP
  · rename_i a' d' f x hi
    split at hP
    · rename_i hh
      obtain ⟨rfl, rfl⟩ := hh
      obtain ⟨h1, h2⟩ := slot_adr hL hi
      refine ⟨_, h1, ?_⟩
      refine ⟨v, cv, b, rfl, hcv, hk, fun dd z => ?_, hP.now hS (.bl b)⟩
      obtain ⟨u, hu, _⟩ := h2 dd z
      exact ⟨_, hu⟩
    · exact hP.elim
  · exact hP.elim
/-- e.f -/
theorem ex_fl {f : Str} (C : IsC X.K (He.ga X.K n)) (hz : Zc (.ref (He.ga X.K n)) d oe) (hf : ∃ vs, oe.data = .fields vs) (hd : PySem.W.hasDictIn X.K (He.ga X.K n) = true) (hno : PySem.W.findIn X.K (.ref (He.ga X.K n)) f = some none) (hN : X.N[i]? = some e) (hv : Vis X.env.scope e)
    (hd1 : (e == ("__debug__" : Str)) = false := by decide) (hd2 : (e == ("__classdict__" : Str)) = false := by decide) (hb : attributeBase (.Name e p1) f X.env (eval (.Name e p1) X.env) = eval (.Name e p1) X.env := by rfl) :
    Ex (X.suite a ((a, oe) :: pn)) W (.Attribute (.Name e p1) f pos) (eFl i a d f) := by
  refine ⟨fun m τ st σ H Q hL hS hP pins s I => ?_⟩
  refine (pe_xf (te := tVar i) ⟨C.ga, C.gg, C.ex, hd⟩ hno hz hf (pe_var (X := X.suite a ((a, oe) :: pn)) hN hv hd1 hd2) hb).run pins s σ H Q I ?_
  unfold eFl at hP
  split at hP
  · rename_i a' d' g x hi
    split at hP
    · rename_i hh
      obtain ⟨⟨rfl, rfl⟩, rfl⟩ := hh
      obtain ⟨h1, h2⟩ := slot_adr hL hi
      obtain ⟨u, hu, ru⟩ := h2 d' rfl
      refine ⟨_, h1, rfl, rfl, d', _, u, rfl, hu, by simp [List.lookup], hP.now hS ru⟩
    · exact hP.elim
  · exact hP.elim
end
end HM

/-! HM, own exceptions: try .. except X as e. -/
namespace HM
open PySem PySem.Spec PyProof.Rows L2
/-! ### what does not lean on the exception's address -/
def IndE {α : Type} (i : Nat) (x : Xc) (f : Addr → Option Addr → EM α) : Prop := ∀ (a : Addr) (d : Option Addr), d.isSome = (dOf x).isSome → ∀ (τ : Sl) (s : Store), f a d (τ.set i (some (xcD a d x))) s = f 0 (dOf x) (τ.set i (some (xcD 0 (dOf x) x))) s
/-- the same end, but for the slot -/
def SRr (i : Nat) (X0 Xa : D) (r r' : SR) : Prop := match r with
  | .rt v s => r' = .rt v s
  | .nx τ s => ∃ τ0 : Sl, τ = τ0.set i (some X0) ∧ r' = .nx (τ0.set i (some Xa)) s
  | _ => True
def IndS (i : Nat) (x : Xc) (h : Addr → Option Addr → SM) : Prop := ∀ (a : Addr) (d : Option Addr), d.isSome = (dOf x).isSome → ∀ (τ : Sl) (s : Store), SRr i (xcD 0 (dOf x) x) (xcD a d x) (h 0 (dOf x) (τ.set i (some (xcD 0 (dOf x) x))) s) (h a d (τ.set i (some (xcD a d x))) s)
section
variable {i j : Nat} {x : Xc} {α β : Type}
theorem ind_c {v : D} : IndE i x (fun _ _ => eC v) := fun _ _ _ _ _ => rfl
theorem ind_v (h : i ≠ j) : IndE i x (fun _ _ => eVar j) := fun a d _ τ s => by
  show eVar j _ s = eVar j _ s
  unfold eVar
  rw [List.getElem?_set_ne h, List.getElem?_set_ne h]
theorem ind_is {b : Option Bool} : IndE i x (fun a d => eIs i a d b) := fun a d hd τ s => by
  show eIs i a d b _ s = eIs i 0 (dOf x) b _ s
  unfold eIs
  by_cases hi : i < τ.length
  · rw [List.getElem?_set_self hi, List.getElem?_set_self hi]
    obtain ⟨cls, fs⟩ := x
    match fs, hd with
    | [], hd =>
      cases d with
      | none =>
        show (if a = a ∧ (none : Option Addr) = none then _ else _) = (if (0 : Addr) = 0 ∧ (none : Option Addr) = none then _ else _)
        rw [if_pos ⟨rfl, rfl⟩, if_pos ⟨rfl, rfl⟩]
      | some d => cases hd
    | [(f, v)], hd =>
      show (if a = a ∧ d = d then _ else _) = (if (0 : Addr) = 0 ∧ dOf _ = dOf _ then _ else _)
      rw [if_pos ⟨rfl, rfl⟩, if_pos ⟨rfl, rfl⟩]
    | _ :: _ :: _, hd =>
      cases d with
      | none => cases hd
      | some d =>
        show (if a = a ∧ none = some d then _ else _) = (if (0 : Addr) = 0 ∧ none = some 0 then _ else _)
        rw [if_neg (fun z => by cases z.2), if_neg (fun z => by cases z.2)]
  · rw [List.getElem?_eq_none (by simpa using hi), List.getElem?_eq_none (by simpa using hi)]
theorem ind_fl {f : Str} : IndE i x (fun a d => eFl i a d f) := fun a d hd τ s => by
  show eFl i a d f _ s = eFl i 0 (dOf x) f _ s
  unfold eFl
  by_cases hi : i < τ.length
  · rw [List.getElem?_set_self hi, List.getElem?_set_self hi]
    obtain ⟨cls, fs⟩ := x
    match fs, hd with
    | [], hd => rfl
    | [(g, v)], hd =>
      cases d with
      | none => cases hd
      | some d =>
        show (if (a = a ∧ some d = some d) ∧ g = f then _ else _) = (if ((0 : Addr) = 0 ∧ some (0 : Addr) = some 0) ∧ g = f then _ else _)
        by_cases h : g = f
        · rw [if_pos ⟨⟨rfl, rfl⟩, h⟩, if_pos ⟨⟨rfl, rfl⟩, h⟩]
        · rw [if_neg fun z => h z.2, if_neg fun z => h z.2]
    | _ :: _ :: _, hd => rfl
  · rw [List.getElem?_eq_none (by simpa using hi), List.getElem?_eq_none (by simpa using hi)]
theorem ind_bind {f : Addr → Option Addr → EM α} {k : α → Store → ER β} (h : IndE i x f) : IndE i x (fun a d τ s => (f a d τ s).bind k) := fun a d hd τ s => by
  show (f a d _ s).bind k = (f 0 (dOf x) _ s).bind k
  rw [h a d hd τ s]
theorem ind_bind2 {f : Addr → Option Addr → EM α} {g : Addr → Option Addr → EM β} {γ : Type} {k : α → β → Store → ER γ} (h : IndE i x f) (h2 : IndE i x g) : IndE i x (fun a d τ s => (f a d τ s).bind fun y s1 => (g a d τ s1).bind fun z s2 => k y z s2) := fun a d hd τ s => by
  show (f a d _ s).bind _ = (f 0 (dOf x) _ s).bind _
  rw [h a d hd τ s]
  congr 1
  funext y s1
  rw [h2 a d hd τ s1]
theorem ind_bin {o : O2} {f g : Addr → Option Addr → EM D} (h : IndE i x f) (h2 : IndE i x g) : IndE i x (fun a d => eBin o (f a d) (g a d)) := ind_bind2 (k := o) h h2
theorem ind_aNil : IndE i x (fun _ _ => aNil) := fun _ _ _ _ _ => rfl
theorem ind_aCons {f : Addr → Option Addr → EM D} {g : Addr → Option Addr → EM (List D)} (h : IndE i x f) (h2 : IndE i x g) : IndE i x (fun a d => aCons (f a d) (g a d)) := ind_bind2 (k := fun y z s => .ok (y :: z) s) h h2
theorem ind_tup {f : Addr → Option Addr → EM (List D)} (h : IndE i x f) : IndE i x (fun a d => eTup (f a d)) := ind_bind h
theorem ind_call {k : Nat} {m : FM} {f : Addr → Option Addr → EM (List D)} (h : IndE i x f) : IndE i x (fun a d => eCall k m (f a d)) := fun a d hd τ s => by
  show (f a d _ s).bind _ = (f 0 (dOf x) _ s).bind _
  rw [h a d hd τ s]
theorem ind_cb {m : FM} {f : Addr → Option Addr → EM (List D)} (h : IndE i x f) : IndE i x (fun a d => eCB m (f a d)) := ind_bind (k := m) h
theorem ind_and {f g : Addr → Option Addr → EM D} (h : IndE i x f) (h2 : IndE i x g) : IndE i x (fun a d => eAnd (f a d) (g a d)) := fun a d hd τ s => by
  show (f a d _ s).bind _ = (f 0 (dOf x) _ s).bind _
  rw [h a d hd τ s]
  congr 1
  funext y s1
  rw [h2 a d hd τ s1]
theorem ind_or {f g : Addr → Option Addr → EM D} (h : IndE i x f) (h2 : IndE i x g) : IndE i x (fun a d => eOr (f a d) (g a d)) := fun a d hd τ s => by
  show (f a d _ s).bind _ = (f 0 (dOf x) _ s).bind _
  rw [h a d hd τ s]
  congr 1
  funext y s1
  rw [h2 a d hd τ s1]
theorem ind_not {f : Addr → Option Addr → EM D} (h : IndE i x f) : IndE i x (fun a d => eNot (f a d)) := fun a d hd τ s => by
  show (f a d _ s).bind _ = (f 0 (dOf x) _ s).bind _
  rw [h a d hd τ s]
theorem ind_tVal {f : Addr → Option Addr → EM D} (h : IndE i x f) : IndE i x (fun a d => tVal (f a d)) := fun a d hd τ s => by
  show (f a d _ s).bind _ = (f 0 (dOf x) _ s).bind _
  rw [h a d hd τ s]
theorem ind_tBl {f : Addr → Option Addr → EM D} (h : IndE i x f) : IndE i x (fun a d => tBl (f a d)) := fun a d hd τ s => by
  show (f a d _ s).bind _ = (f 0 (dOf x) _ s).bind _
  rw [h a d hd τ s]
theorem ind_tNot {f : Addr → Option Addr → EM Bool} (h : IndE i x f) : IndE i x (fun a d => HM.tNot (f a d)) := fun a d hd τ s => by
  show (f a d _ s).bind _ = (f 0 (dOf x) _ s).bind _
  rw [h a d hd τ s]
theorem ind_tOr {f g : Addr → Option Addr → EM Bool} (h : IndE i x f) (h2 : IndE i x g) : IndE i x (fun a d => tOr (f a d) (g a d)) := fun a d hd τ s => by
  show (f a d _ s).bind _ = (f 0 (dOf x) _ s).bind _
  rw [h a d hd τ s]
  congr 1
  funext y s1
  rw [h2 a d hd τ s1]
theorem ind_tAnd {f g : Addr → Option Addr → EM Bool} (h : IndE i x f) (h2 : IndE i x g) : IndE i x (fun a d => tAnd (f a d) (g a d)) := fun a d hd τ s => by
  show (f a d _ s).bind _ = (f 0 (dOf x) _ s).bind _
  rw [h a d hd τ s]
  congr 1
  funext y s1
  rw [h2 a d hd τ s1]
theorem ind_eIf {t : Addr → Option Addr → EM Bool} {f g : Addr → Option Addr → EM D} (ht : IndE i x t) (h : IndE i x f) (h2 : IndE i x g) : IndE i x (fun a d => eIf (t a d) (f a d) (g a d)) := fun a d hd τ s => by
  show (t a d _ s).bind _ = (t 0 (dOf x) _ s).bind _
  rw [ht a d hd τ s]
  congr 1
  funext y s1
  rw [h a d hd τ s1, h2 a d hd τ s1]
/-! ### statements -/
theorem inds_ret {f : Addr → Option Addr → EM D} (h : IndE i x f) : IndS i x (fun a d => sRet (f a d)) := fun a d hd τ s => by
  show SRr i _ _ (bindE (f 0 (dOf x) _ s) _ fun d s1 => .rt d s1) (bindE (f a d _ s) _ fun d s1 => .rt d s1)
  rw [h a d hd τ s]
  cases f 0 (dOf x) (τ.set i (some (xcD 0 (dOf x) x))) s <;> first | exact rfl | exact True.intro
theorem inds_nil : IndS i x (fun _ _ => sNil) := fun a d hd τ s => ⟨τ, rfl, rfl⟩
theorem inds_if {t : Addr → Option Addr → EM Bool} {p q : Addr → Option Addr → SM} (ht : IndE i x t) (hp : IndS i x p) (hq : IndS i x q) : IndS i x (fun a d => sIf (t a d) (p a d) (q a d)) := fun a d hd τ s => by
  show SRr i _ _ (bindE (t 0 (dOf x) _ s) _ fun b s1 => if b then p 0 (dOf x) _ s1 else q 0 (dOf x) _ s1) (bindE (t a d _ s) _ fun b s1 => if b then p a d _ s1 else q a d _ s1)
  rw [ht a d hd τ s]
  cases t 0 (dOf x) (τ.set i (some (xcD 0 (dOf x) x))) s with
  | ok b s1 =>
    cases b
    · exact hq a d hd τ s1
    · exact hp a d hd τ s1
  | exc _ _ => exact True.intro
  | bad => exact True.intro
theorem inds_seq {p q : Addr → Option Addr → SM} (hp : IndS i x p) (hq : IndS i x q) : IndS i x (fun a d => sSeq (p a d) (q a d)) := fun a d hd τ s => by
  have h := hp a d hd τ s
  show SRr i _ _ (sSeq (p 0 (dOf x)) (q 0 (dOf x)) _ s) (sSeq (p a d) (q a d) _ s)
  unfold sSeq
  revert h
  generalize p 0 (dOf x) (τ.set i (some (xcD 0 (dOf x) x))) s = r
  generalize p a d (τ.set i (some (xcD a d x))) s = r'
  intro h
  cases r with
  | nx τ1 s1 =>
    obtain ⟨τ0, rfl, rfl⟩ := h
    exact hq a d hd τ0 s1
  | rt v s1 =>
    cases (show r' = .rt v s1 from h)
    exact rfl
  | _ => exact True.intro
theorem inds_set {f : Addr → Option Addr → EM D} (hij : i ≠ j) (h : IndE i x f) : IndS i x (fun a d => sSet j (f a d)) := fun a d hd τ s => by
  show SRr i _ _ (bindE (f 0 (dOf x) _ s) _ fun v s1 => .nx ((τ.set i _).set j (some v)) s1) (bindE (f a d _ s) _ fun v s1 => .nx ((τ.set i _).set j (some v)) s1)
  rw [h a d hd τ s]
  cases f 0 (dOf x) (τ.set i (some (xcD 0 (dOf x) x))) s with
  | ok v s1 =>
    refine ⟨τ.set j (some v), ?_, ?_⟩
    · exact List.set_comm _ _ hij
    · show SR.nx ((τ.set i _).set j _) s1 = SR.nx _ s1
      rw [List.set_comm _ _ hij]
  | exc _ _ => exact True.intro
  | bad => exact True.intro
end
/-! ### the statement -/
def ClsN (x : D) (c : Str) : Prop := ∃ a d v, x = .adr a d c v
def isT (tab : Str → Str → Option Bool) (x : D) (y : Str) : Option Bool := match x with
  | .adr _ _ n _ => tab n y
  | _ => none
theorem isT_of {tab : Str → Str → Option Bool} {x : D} {c y : Str} (h : ClsN x c) : isT tab x y = tab c y := by
  obtain ⟨a, d, v, rfl⟩ := h
  rfl
def mtO (tab : Str → Bool) : D → Option Bool
  | .adr _ _ n _ => if tab n then some true else none
  | _ => none
def sTryAs (i : Nat) (f : SM) (mt : D → Option Bool) (h : Xc → Addr → Option Addr → SM) : SM := fun τ st => match f τ st with
  | .exc x τ1 s1 => match mt x.cls with
    | some true => match h x 0 (dOf x) (τ1.set i (some (xcD 0 (dOf x) x))) s1 with
      | .rt d s => .rt d s
      | .nx τ2 s => .nx (τ2.set i none) s
      | _ => .bad
    | _ => .bad
  | r => r
theorem SL.unset {K : PySem.W.Frag} {m : List Addr} {H : Hp} {τ : Sl} {σ : L2.St} (s : SL K m H τ σ) (i : Nat) : SL K m H (τ.set i none) (σ.set i none) := by
  refine ⟨by simpa using s.len, fun j e h => ?_⟩
  by_cases hj : i = j
  · subst hj
    by_cases hl : i < τ.length
    · rw [List.getElem?_set_self hl] at h
      cases h
    · rw [List.getElem?_eq_none (by simpa using hl)] at h
      cases h
  · rw [List.getElem?_set_ne hj] at h
    rw [List.getElem?_set_ne hj]
    exact s.get j e h
section
variable {X : Cx} {W : WX} {pos pos' np : Pos} {x n : Str} {i : Nat} {body suite : List Stmt} {b₀ : Stmt} {f : SM} {h : Xc → Addr → Option Addr → SM} {tab : Str → Bool} {y : Str}
theorem sx_tryAs (hs : X.stack = X.env :: X.outer) (hf : X.env.frame = some X.env.locals) (hN : X.N.Nodup) (hi : X.N[i]? = some n) (hln : X.env.kindOf n = some .local) (hg : Gl X y) (hgl : X.mg y = some (.ref (He.ga X.K y))) (tk : Takes X W)
    (hmt : ∀ c, tab c = true → PySem.W.exmOne X.K (.ref (He.ga X.K c)) (.ref (He.ga X.K y)) = some true)
    (hb : ∀ (W : WX) (pn : List (Addr × Obj)) (xe : Value → Shared → Prop), Takes (X.tr pn xe) W → PassesOwn (model X.prog X.w) X.A X.env xe → Sxs (X.tr pn xe) W body f)
    (hsu : ∀ (a : Addr) (oe : Obj) (d : Option Addr) (pn : List (Addr × Obj)) (xc : Xc) (c : Str), ClsN xc.cls c → tab c = true → Zc (.ref (He.ga X.K c)) d oe → (∃ vs, oe.data = .fields vs) → Sxs (X.suite a ((a, oe) :: pn)) (fun _ _ _ _ => False) (b₀ :: suite) (h xc a d))
    (hind : ∀ xc, IndS i xc (h xc)) (hy : (y == ("__debug__" : Str)) = false := by decide) :
    Sx X W (.Try body [.ExceptHandler (some (.Name y np)) (some n) (b₀ :: suite) pos'] [] [] pos) (sTryAs i f (mtO tab) h) := by
  refine ⟨fun m τ s σ H D hL hS hP pins sh I => ?_⟩
  refine (ps_try_as (tb := fun W => fun D σ H => ∀ (pn : List (Addr × Obj)) (xe : Value → Shared → Prop), Takes (X.tr pn xe) W → PassesOwn (model X.prog X.w) X.A X.env xe → wSs (X.tr pn xe) body D σ H)
    (ts := fun a cls d => fun D σ H => ∀ (oe : Obj) (pn : List (Addr × Obj)), Zc cls d oe → (∃ vs, oe.data = .fields vs) → wSs (X.suite a ((a, oe) :: pn)) (b₀ :: suite) D σ H) hs hf hN hi hln ⟨hg, hy, .inl hgl⟩ tk (fun W pn xe t1 t2 => ⟨fun pins s σ H D I h => h pn xe t1 t2 pins s I⟩) (fun a oe cls d pn z1 z2 => ⟨fun pins s σ H D I h => h oe pn z1 z2 pins s I⟩)).run pins sh σ H D I ?_
  intro pn xe t1 t2
  refine (hb _ pn xe t1 t2).run m τ s σ H D hL hS ?_
  unfold sTryAs at hP
  cases hq : f τ s with
  | exc z τ1 s1 =>
    rw [hq] at hP
    intro m1 H1 σ1 cls d e1 hS1 hL1 hX
    have hP : Ps X.kw W m H (match mtO tab z.cls with
      | some true => match h z 0 (dOf z) (τ1.set i (some (xcD 0 (dOf z) z))) s1 with
        | .rt d s => .rt d s
        | .nx τ2 s => .nx (τ2.set i none) s
        | _ => .bad
      | _ => .bad) D := hP
    obtain ⟨c, hc, htab⟩ : ∃ c, (∃ a d v, z.cls = .adr a d c v) ∧ tab c = true := by
      unfold mtO at hP
      split at hP
      · rename_i e
        split at e
        · rename_i a d c v ec
          split at e
          · rename_i ht
            exact ⟨c, ⟨a, d, v, ec⟩, ht⟩
          · cases e
        · cases e
      · exact hP.elim
    obtain ⟨a9, d9, v9, hc⟩ := hc
    have hm : mtO tab z.cls = some true := by
      rw [hc]
      show (if tab c = true then some true else none) = some true
      rw [if_pos htab]
    rw [hm] at hP
    unfold XR at hX
    rw [hc] at hX
    obtain ⟨rfl, hX⟩ := hX
    refine ⟨true, hmt c htab, fun _ a na oe pn hz hfd => ?_, fun q => by cases q⟩
    have hcond : d.isSome = (dOf z).isSome := by
      rcases hX with ⟨h1, h2⟩ | ⟨g, y, da, v, h1, h2, _⟩
      · rw [h2]
        unfold dOf
        rw [h1]
      · rw [h2]
        unfold dOf
        rw [h1]
        rfl
    have rd : RD X.K m1 H1 (xcD a d z) (.ref a) := by
      rcases hX with ⟨h1, h2⟩ | ⟨g, y, da, v, h1, h2, h3, h4⟩
      · unfold xcD
        rw [h1]
        exact .adr a _ _
      · unfold xcD
        rw [h1, h2]
        exact .adrF h3 h4
    have hI := hind z a d hcond τ1 s1
    refine (hsu a oe d pn z c ⟨a9, d9, v9, hc⟩ htab hz hfd).run m1 _ s1 _ H1 _ (hL1.set i rd) hS1 ?_
    revert hI hP
    generalize h z 0 (dOf z) (τ1.set i (some (xcD 0 (dOf z) z))) s1 = r
    generalize h z a d (τ1.set i (some (xcD a d z))) s1 = r'
    intro hP hI
    cases r with
    | rt v s2 =>
      cases (show r' = .rt v s2 from hI)
      exact fun m' H' u e' q1 q2 => hP m' H' u (e1.trans e') q1 q2
    | nx τ2 s2 =>
      obtain ⟨τ0, rfl, rfl⟩ := hI
      intro m' H' σ' e' q1 q2
      refine hP m' H' (σ'.set i none) (e1.trans e') q1 ?_
      have := q2.unset i
      simpa only [List.set_set] using this
    | bk _ _ => exact hP.elim
    | ct _ _ => exact hP.elim
    | exc _ _ _ => exact hP.elim
    | bad => exact hP.elim
  | nx _ _ =>
    rw [hq] at hP
    exact hP
  | bk _ _ =>
    rw [hq] at hP
    exact hP
  | ct _ _ =>
    rw [hq] at hP
    exact hP
  | rt _ _ =>
    rw [hq] at hP
    exact hP
  | bad =>
    rw [hq] at hP
    exact hP
end
section
variable {X : Cx} {W : WX} {a : Addr} {oe : Obj} {d : Option Addr} {pn : List (Addr × Obj)} {n e : Str} {i : Nat} {pos p p1 p2 : Pos}
theorem ex_isBad : ∀ {ex : Expr}, Ex X W ex (eIs i a d none) := ⟨fun m τ st σ H Q hL hS hP pins s I => by
  unfold eIs at hP
  split at hP
  · split at hP <;> exact hP.elim
  · exact hP.elim⟩
/-- isinstance(e, y), y a class of the module's -/
theorem ex_isX {y : Str} {o : Option Bool} (C : IsC X.K (He.ga X.K n)) (F : ∀ b, o = some b → Isx X.K X.mg n y b) (hz : Zc (.ref (He.ga X.K n)) d oe) (hf : ∃ vs, oe.data = .fields vs) (hN : X.N[i]? = some e) (hv : Vis X.env.scope e) (hgy : Gl X y)
    (hg : Gl X "isinstance") (hm : X.mg "isinstance" = none) (hy : (y == ("__debug__" : Str)) = false := by decide) (hd1 : (e == ("__debug__" : Str)) = false := by decide) (hd2 : (e == ("__classdict__" : Str)) = false := by decide)
    (he : starEach [.Name e p1, .Name y p2] X.env = (false, eval (.Name e p1) X.env) :: starEach [.Name y p2] X.env := by rfl) (he2 : starEach [.Name y p2] X.env = (false, eval (.Name y p2) X.env) :: starEach [] X.env := by rfl) (hpl : (backTo pos (starEach [.Name y p2] X.env)).any (·.1) = false := by rfl) :
    Ex (X.suite a ((a, oe) :: pn)) W (.Call (.Name "isinstance" p) [.Name e p1, .Name y p2] [] pos) (eIs i a d o) := by
  cases o with
  | none => exact ex_isBad
  | some b =>
    have F := F b rfl
    exact ex_isE (cv := .ref (He.ga X.K y)) (v := .ref (He.ga X.K y)) C hz hf hN hv (pe_glob (X := X.suite a ((a, oe) :: pn)) hgy F.glob (show RelV (.ref _) (.ref _) from rfl) hy) (fun u r => r) F.is hg hm hd1 hd2 he he2 hpl
/-- isinstance(e, T), T a built-in class -/
theorem ex_isB {T : String} {y : Str} {o : Option Bool} (C : IsC X.K (He.ga X.K n)) (F : ∀ b, o = some b → Isb X.K n T b) (hz : Zc (.ref (He.ga X.K n)) d oe) (hf : ∃ vs, oe.data = .fields vs) (hN : X.N[i]? = some e) (hv : Vis X.env.scope e) (hgy : Gl X y) (hmy : X.mg y = none) (hby : bootBuiltins y = some (.type T))
    (hg : Gl X "isinstance") (hm : X.mg "isinstance" = none) (hny : y ≠ "__name__" := by decide) (hy : (y == ("__debug__" : Str)) = false := by decide) (hd1 : (e == ("__debug__" : Str)) = false := by decide) (hd2 : (e == ("__classdict__" : Str)) = false := by decide)
    (he : starEach [.Name e p1, .Name y p2] X.env = (false, eval (.Name e p1) X.env) :: starEach [.Name y p2] X.env := by rfl) (he2 : starEach [.Name y p2] X.env = (false, eval (.Name y p2) X.env) :: starEach [] X.env := by rfl) (hpl : (backTo pos (starEach [.Name y p2] X.env)).any (·.1) = false := by rfl) :
    Ex (X.suite a ((a, oe) :: pn)) W (.Call (.Name "isinstance" p) [.Name e p1, .Name y p2] [] pos) (eIs i a d o) := by
  cases o with
  | none => exact ex_isBad
  | some b =>
    have F := F b rfl
    exact ex_isE (cv := .type T) (v := .ty T) C hz hf hN hv (pe_bltn (X := X.suite a ((a, oe) :: pn)) hgy hmy hby (show RelV (.ty T) (.type T) from rfl) hny hy) (fun u r => r) F.is hg hm hd1 hd2 he he2 hpl
def isF (fl : Str → Option Str) (x : D) (f : Str) : Bool := match x with
  | .adr _ _ n _ => decide (fl n = some f)
  | _ => false
theorem isF_of {fl : Str → Option Str} {x : D} {c f : Str} (h : ClsN x c) : isF fl x f = decide (fl c = some f) := by
  obtain ⟨a, d, v, rfl⟩ := h
  rfl
def eFc (b : Bool) (i : Nat) (a : Addr) (d : Option Addr) (f : Str) : EM D := fun τ st => if b then eFl i a d f τ st else .bad
theorem ind_fc {b : Bool} {x : Xc} {f : Str} : IndE i x (fun a d => eFc b i a d f) := fun a d hd τ s => by
  cases b
  · rfl
  · exact ind_fl a d hd τ s
/-- e.f, whatever its class is -/
theorem ex_flX {f : Str} {fl : Str → Option Str} (O : ∀ g, fl n = some g → Own X.prog X.K X.mg n (some g)) (C : IsC X.K (He.ga X.K n)) (hz : Zc (.ref (He.ga X.K n)) d oe) (hf : ∃ vs, oe.data = .fields vs) (hN : X.N[i]? = some e) (hv : Vis X.env.scope e)
    (hd1 : (e == ("__debug__" : Str)) = false := by decide) (hd2 : (e == ("__classdict__" : Str)) = false := by decide) (hb : attributeBase (.Name e p1) f X.env (eval (.Name e p1) X.env) = eval (.Name e p1) X.env := by rfl) :
    Ex (X.suite a ((a, oe) :: pn)) W (.Attribute (.Name e p1) f pos) (eFc (decide (fl n = some f)) i a d f) := by
  by_cases h : fl n = some f
  · obtain ⟨fI, T⟩ := (O f h).txt
    have := ex_fl (W := W) (a := a) (pn := pn) (pos := pos) (p1 := p1) C hz hf T.hdC (T.noN f rfl).1 hN hv hd1 hd2 hb
    refine ⟨fun m τ st σ H Q hL hS hP pins s I => this.run m τ st σ H Q hL hS ?_ pins s I⟩
    unfold eFc at hP
    rw [if_pos (decide_eq_true h)] at hP
    exact hP
  · refine ⟨fun m τ st σ H Q hL hS hP pins s I => ?_⟩
    unfold eFc at hP
    rw [if_neg (by simpa using h)] at hP
    exact hP.elim
end
/-! ### tables -/
def lkX (L : List (Str × Str × Bool)) (c y : Str) : Option Bool := (L.find? fun r => decide (r.1 = c) && decide (r.2.1 = y)).map (·.2.2)
def lkB (L : List (Str × String × Bool)) (T : String) (c _y : Str) : Option Bool := (L.find? fun r => decide (r.1 = c) && decide (r.2.1 = T)).map (·.2.2)
def flO (L : List (Str × Option Str)) (c : Str) : Option Str := match L.find? fun r => decide (r.1 = c) with
  | some r => r.2
  | none => none
def tbM (L : List (Str × Str)) (y c : Str) : Bool := decide ((c, y) ∈ L)
section
variable {P : Program} {K : PySem.W.Frag} {mg : Str → Option Value} {c y : Str}
theorem lkX_ok {L : List (Str × Str × Bool)} (h : ∀ r ∈ L, Isx K mg r.1 r.2.1 r.2.2) : ∀ b, lkX L c y = some b → Isx K mg c y b := fun b e => by
  unfold lkX at e
  obtain ⟨r, hr, rfl⟩ := Option.map_eq_some_iff.mp e
  have h1 := List.find?_some hr
  rw [Bool.and_eq_true, decide_eq_true_eq, decide_eq_true_eq] at h1
  have := h r (List.mem_of_find?_eq_some hr)
  rw [h1.1, h1.2] at this
  exact this
theorem lkB_ok {L : List (Str × String × Bool)} {T : String} (h : ∀ r ∈ L, Isb K r.1 r.2.1 r.2.2) : ∀ b, lkB L T c y = some b → Isb K c T b := fun b e => by
  unfold lkB at e
  obtain ⟨r, hr, rfl⟩ := Option.map_eq_some_iff.mp e
  have h1 := List.find?_some hr
  rw [Bool.and_eq_true, decide_eq_true_eq, decide_eq_true_eq] at h1
  have := h r (List.mem_of_find?_eq_some hr)
  rw [h1.1, h1.2] at this
  exact this
theorem flO_ok {L : List (Str × Option Str)} (h : ∀ r ∈ L, Own P K mg r.1 r.2) : ∀ g, flO L c = some g → Own P K mg c (some g) := fun g e => by
  unfold flO at e
  split at e
  · rename_i r hr
    have h1 := List.find?_some hr
    rw [decide_eq_true_eq] at h1
    have := h r (List.mem_of_find?_eq_some hr)
    rw [h1, e] at this
    exact this
  · cases e
theorem tbM_ok {L : List (Str × Str)} (h : ∀ r ∈ L, Exm K mg r.1 r.2) : ∀ c, tbM L y c = true → PySem.W.exmOne K (.ref (He.ga K c)) (.ref (He.ga K y)) = some true := fun c e => (h (c, y) (of_decide_eq_true e)).is
theorem tbM_is {L : List (Str × Str)} (h : ∀ r ∈ L, Exm K mg r.1 r.2) (e : tbM L y c = true) : IsC K (He.ga K c) := (h (c, y) (of_decide_eq_true e)).isc
theorem aln {α : Type} {p : α → Prop} : ∀ r ∈ ([] : List α), p r := fun _ h => nomatch h
theorem alc {α : Type} {p : α → Prop} {a : α} {l : List α} (h : p a) (t : ∀ r ∈ l, p r) : ∀ r ∈ a :: l, p r := fun r hr => by
  rcases List.mem_cons.mp hr with rfl | q
  · exact h
  · exact t r q
theorem ex_isT {X : Cx} {W : WX} {ex : Expr} {i : Nat} {a : Addr} {d : Option Addr} {tab : Str → Str → Option Bool} {x : D} (h : ClsN x c) (e : Ex X W ex (eIs i a d (tab c y))) : Ex X W ex (eIs i a d (isT tab x y)) := by
  rw [isT_of h]
  exact e
theorem ex_fT {X : Cx} {W : WX} {ex : Expr} {i : Nat} {a : Addr} {d : Option Addr} {fl : Str → Option Str} {x : D} {f : Str} (h : ClsN x c) (e : Ex X W ex (eFc (decide (fl c = some f)) i a d f)) : Ex X W ex (eFc (isF fl x f) i a d f) := by
  rw [isF_of h]
  exact e
end
end HM

/-! HM, part RI: isinstance(e, (A, B, ..)), classes of the module's. -/
namespace HM
open PySem PySem.Spec PyProof.Rows L2
def isAny (os : List (Option Bool)) : Option Bool := if os.all Option.isSome then some (os.any fun o => decide (o = some true)) else none
/-- which of the classes the exception is of -/
inductive IsxS (K : PySem.W.Frag) (mg : Str → Option Value) (n : Str) : List (Str × Pos) → List (Option Bool) → Prop
  | nil : IsxS K mg n [] []
  | cons {y : Str} {p : Pos} {o : Option Bool} {ys : List (Str × Pos)} {os : List (Option Bool)} : (∀ b, o = some b → Isx K mg n y b) → (y == ("__debug__" : Str)) = false → IsxS K mg n ys os → IsxS K mg n ((y, p) :: ys) (o :: os)
def clsV (K : PySem.W.Frag) (ys : List (Str × Pos)) : List Value := ys.map fun y => Value.ref (He.ga K y.1)
def clsX (K : PySem.W.Frag) (ys : List (Str × Pos)) : List V := ys.map fun y => V.ref (He.ga K y.1)
theorem isx_any {K : PySem.W.Frag} {mg : Str → Option Value} {n : Str} : ∀ {ys : List (Str × Pos)} {os : List (Option Bool)}, IsxS K mg n ys os → os.all Option.isSome = true → PySem.W.kitAny K (.ref (He.ga K n)) (clsV K ys) = some (os.any fun o => decide (o = some true)) ∧ ∀ y ∈ ys, mg y.1 = some (.ref (He.ga K y.1)) ∧ (y.1 == ("__debug__" : Str)) = false
  | _, _, .nil, _ => ⟨rfl, fun _ h => nomatch h⟩
  | _, _, .cons (y := y) (p := p) (o := o) (ys := ys) (os := os) h hd t, ha => by
    rw [List.all_cons, Bool.and_eq_true] at ha
    obtain ⟨b, hb⟩ := Option.isSome_iff_exists.mp ha.1
    have F := h b hb
    obtain ⟨t1, t2⟩ := isx_any t ha.2
    refine ⟨?_, fun z hz => ?_⟩
    · show PySem.W.kitAny K _ (Value.ref (He.ga K y) :: clsV K ys) = _
      unfold PySem.W.kitAny
      rw [show PySem.W.kitOne K (.ref (He.ga K n)) (.ref (He.ga K y)) = some b from F.is, hb, List.any_cons]
      cases b
      · simp only [t1]
        rfl
      · rfl
    · rcases List.mem_cons.mp hz with e | hz
      · rw [e]
        exact ⟨F.glob, hd⟩
      · exact t2 z hz
def tCs (vs : List V) : TA := fun _ H Q => Q vs H
section
variable {X : Cx}
theorem pa_names {K : PySem.W.Frag} : ∀ (ys : List (Str × Pos)), (∀ y ∈ ys, X.mg y.1 = some (.ref (He.ga K y.1)) ∧ (y.1 == ("__debug__" : Str)) = false) → (∀ y ∈ ys, Gl X y.1) → PA X (ys.map fun y => Expr.Name y.1 y.2) (tCs (clsX K ys))
  | [], _, _ => pa_nil
  | y :: ys, h, g => pa_cons (pe_glob (g y List.mem_cons_self) (h y List.mem_cons_self).1 (show RelV (.ref (He.ga K y.1)) (.ref (He.ga K y.1)) from rfl) (h y List.mem_cons_self).2) (pa_names ys (fun z hz => h z (List.mem_cons_of_mem _ hz)) fun z hz => g z (List.mem_cons_of_mem _ hz)) rfl
end
def rIsT2 (K : PySem.W.Frag) (D a : Addr) (d : Option Addr) : List V → Hp → VK → Prop := fun xs H Q => ∃ (tp : Addr) (ys : List (Str × Pos)) (b : Bool), xs = [.ref a, .ref tp] ∧ H tp = some (.tup (clsX K ys)) ∧ PySem.W.kitAny K (.ref D) (clsV K ys) = some b ∧ (∀ dd, d = some dd → ∃ fs, H dd = some (.xd fs)) ∧ Q (.bl b) H
theorem cls_vals {K : PySem.W.Frag} : ∀ {ys : List (Str × Pos)} {us : List Value}, Vals (clsX K ys) us → us = clsV K ys
  | [], _, r => by
    cases r
    rfl
  | y :: ys, _, r => by
    cases r with
    | cons r1 r2 =>
      cases r1
      rw [cls_vals r2]
      rfl
theorem call_isT2 {X : Cx} {a D : Addr} {oe : Obj} {d : Option Addr} {pn : List (Addr × Obj)} (C : IsC X.K D) (hz : Zc (.ref D) d oe) (hf : ∃ vs, oe.data = .fields vs) : CallR (X.suite a ((a, oe) :: pn)) (.builtin "isinstance") (rIsT2 X.K D a d) := by
  intro pins s σ H xs us Q I r h
  obtain ⟨tp, ys, b, rfl, htp, e, hd, q⟩ := h
  cases r with
  | cons rx rr =>
    cases rr with
    | cons rt rr =>
      cases rr
      cases rx
      cases rt
      obtain ⟨its, rv, ⟨⟨cls, dt, data, sl⟩, ho, hc, n, hdt⟩, hs⟩ := I.tuple (SqT.of htp)
      simp only at hc hdt
      subst hc hdt
      have ei := cls_vals rv
      subst ei
      obtain ⟨hget, _⟩ := I.pin (a, oe) (List.mem_append.mpr (.inl List.mem_cons_self))
      obtain ⟨vs, hv⟩ := hf
      have J : ∃ od, PySem.W.InstAt s.heap a oe D od := by
        obtain ⟨oc, od, oda, osl⟩ := oe
        obtain ⟨h1, h2⟩ := hz
        dsimp only at h1 h2 hv
        subst h1 h2 hv
        cases od with
        | none => exact ⟨none, hget, rfl, rfl, trivial⟩
        | some dd =>
          obtain ⟨fs, hx⟩ := hd dd rfl
          have hx : ObjOk X.prog X.w H s.heap dd (.xd fs) := I.hok dd _ hx
          obtain ⟨mA, hns, hr⟩ := hx
          obtain ⟨od, ho, hl⟩ := lookIn_ns hns
          exact ⟨some od, hget, rfl, rfl, ho⟩
      obtain ⟨od, J⟩ := J
      exact PySem.W.kia_tup (PySem.W.kitx_exc C.cl C.ga C.gg C.ex C.ca C.sp C.tk C.ob) I.kIn J ho e (fun z => nomatch z) fun tk => ⟨.bl b, H, I.kept (t' := tk) fun _ _ z => z, rfl, q⟩
section
variable {X : Cx} {W : WX} {a : Addr} {oe : Obj} {d : Option Addr} {pn : List (Addr × Obj)} {n e : Str} {i : Nat} {pos p p1 p2 : Pos}
/-- isinstance(e, (A, B, ..)) -/
theorem ex_isXs {x1} (ys : List (Str × Pos)) {os : List (Option Bool)} {es : List Expr} (C : IsC X.K (He.ga X.K n)) (F : IsxS X.K X.mg n ys os) (hz : Zc (.ref (He.ga X.K n)) d oe) (hf : ∃ vs, oe.data = .fields vs) (hN : X.N[i]? = some e) (hv : Vis X.env.scope e) (hgy : ∀ y ∈ ys, Gl X y.1)
    (hg : Gl X "isinstance") (hm : X.mg "isinstance" = none) (hes : es = ys.map fun y => Expr.Name y.1 y.2 := by rfl) (hl : ys.length ≤ 100 := by decide) (hd1 : (e == ("__debug__" : Str)) = false := by decide) (hd2 : (e == ("__classdict__" : Str)) = false := by decide) :
    Ex (X.suite a ((a, oe) :: pn)) W (.Call (.Name "isinstance" p) [.Name e p1, .Tuple es x1 p2] [] pos) (eIs i a d (isAny os)) := by
  subst hes
  by_cases ha : os.all Option.isSome = true
  · have eo : isAny os = some (os.any fun o => decide (o = some true)) := by
      unfold isAny
      rw [if_pos ha]
    rw [eo]
    obtain ⟨k1, k2⟩ := isx_any F ha
    refine ⟨fun m τ st σ H Q hL hS hP pins s I => ?_⟩
    refine (pe_callB (X := X.suite a ((a, oe) :: pn)) (call_isT2 C hz hf) hg hm PyProof.Rows.boot_isinstance (pa_cons (pe_var (X := X.suite a ((a, oe) :: pn)) hN hv hd1 hd2) (pa_cons (pe_tup (pa_names (X := X.suite a ((a, oe) :: pn)) ys k2 hgy)) pa_nil rfl) rfl) (by decide) (by decide) rfl rfl).run pins s σ H Q I ?_
    unfold eIs at hP
    split at hP
    · rename_i a' d' f x hi
      split at hP
      · rename_i hh
        obtain ⟨rfl, rfl⟩ := hh
        obtain ⟨h1, h2⟩ := slot_adr hL hi
        refine ⟨_, h1, ?_⟩
        show _ ∧ ∀ p, H p = none → _
        refine ⟨by unfold clsX; rw [List.length_map, PySem.sizeLine_eq]; omega, fun tp htp => ?_⟩
        have ex : Ext X.K m H m (upd H tp (.tup (clsX X.K ys))) := Ext.fresh htp
        refine ⟨tp, ys, _, rfl, upd_same, k1, fun dd z => ?_, (hP.up ex).now (hS.fresh htp) (.bl _)⟩
        obtain ⟨u, hu, _⟩ := h2 dd z
        refine ⟨[(f, u)], ?_⟩
        rw [upd_ne (fun q => by rw [q, htp] at hu; cases hu)]
        exact hu
      · exact hP.elim
    · exact hP.elim
  · have eo : isAny os = none := by
      unfold isAny
      rw [if_neg ha]
    rw [eo]
    exact ex_isBad
end
def isAnyT (tab : Str → Str → Option Bool) (x : D) (zs : List Str) : Option Bool := isAny (zs.map (isT tab x))
def GlA (X : Cx) : List (Str × Pos) → Prop
  | [] => True
  | y :: ys => Gl X y.1 ∧ GlA X ys
theorem glA {X : Cx} : ∀ {ys : List (Str × Pos)}, GlA X ys → ∀ y ∈ ys, Gl X y.1
  | _ :: _, h, z, hz => by
    rcases List.mem_cons.mp hz with e | hz
    · rw [e]
      exact h.1
    · exact glA h.2 z hz
theorem isxS_of {K : PySem.W.Frag} {mg : Str → Option Value} {c : Str} {L : List (Str × Str × Bool)} (h : ∀ r ∈ L, Isx K mg r.1 r.2.1 r.2.2) : ∀ ys : List (Str × Pos), (ys.all fun y => !(y.1 == ("__debug__" : Str))) = true → IsxS K mg c ys (ys.map fun y => lkX L c y.1)
  | [], _ => .nil
  | y :: ys, hd => by
    rw [List.all_cons, Bool.and_eq_true] at hd
    exact .cons (lkX_ok h) (by simpa using hd.1) (isxS_of h ys hd.2)
theorem ex_isTX {X : Cx} {W : WX} {a : Addr} {oe : Obj} {d : Option Addr} {pn : List (Addr × Obj)} {c e : Str} {i : Nat} {pos p p1 p2 : Pos} {x1 : Nat} (ys : List (Str × Pos)) {zs : List Str} {es : List Expr} {x : D} {L : List (Str × Str × Bool)} (h : ClsN x c) (C : IsC X.K (He.ga X.K c)) (eX : ∀ r ∈ L, Isx X.K X.mg r.1 r.2.1 r.2.2)
    (hz : Zc (.ref (He.ga X.K c)) d oe) (hf : ∃ vs, oe.data = .fields vs) (hN : X.N[i]? = some e) (hv : Vis X.env.scope e) (hgy : GlA X ys) (hg : Gl X "isinstance") (hm : X.mg "isinstance" = none) (hzs : ys.map (·.1) = zs := by rfl) (hdb : (ys.all fun y => !(y.1 == ("__debug__" : Str))) = true := by decide)
    (hes : es = ys.map fun y => Expr.Name y.1 y.2 := by rfl) (hl : ys.length ≤ 100 := by decide) (hd1 : (e == ("__debug__" : Str)) = false := by decide) (hd2 : (e == ("__classdict__" : Str)) = false := by decide) :
    Ex (X.suite a ((a, oe) :: pn)) W (.Call (.Name "isinstance" p) [.Name e p1, .Tuple es x1 p2] [] pos) (eIs i a d (isAnyT (lkX L) x zs)) := by
  have e1 : isAnyT (lkX L) x zs = isAny (ys.map fun y => lkX L c y.1) := by
    subst hzs
    unfold isAnyT
    rw [List.map_map]
    congr 1
    exact List.map_congr_left fun y _ => isT_of h
  rw [e1]
  exact ex_isXs ys C (isxS_of eX ys hdb) hz hf hN hv (glA hgy) hg hm hes hl hd1 hd2
end HM

/-! HM, weakest preconditions with exceptions. -/
namespace HM
def WX {α : Type} (r : ER α) (Q : α → Store → Prop) (E : Xc → Store → Prop) : Prop := match r with
  | .ok a s => Q a s
  | .exc x s => E x s
  | .bad => False
def WSX (r : SR) (N : Sl → Store → Prop) (R : D → Store → Prop) (E : Xc → Store → Prop) : Prop := match r with
  | .nx τ s => N τ s
  | .rt d s => R d s
  | .exc x _ s => E x s
  | _ => False
section
variable {α β : Type} {r : ER α} {Q Q' : α → Store → Prop} {E E' : Xc → Store → Prop} {N N' : Sl → Store → Prop} {R : D → Store → Prop}
theorem W.x (h : W r Q) : WX r Q E := by
  cases r with
  | ok a s => exact h
  | _ => exact h.elim
theorem WS.x {r : SR} (h : WS r N R (fun _ _ => False) (fun _ _ => False)) : WSX r N R E := by
  cases r with
  | nx _ _ => exact h
  | rt _ _ => exact h
  | _ => exact h.elim
theorem WX.mono (h : WX r Q E) (i : ∀ a s, Q a s → Q' a s) (j : ∀ x s, E x s → E' x s) : WX r Q' E' := by
  cases r with
  | ok a s => exact i _ _ h
  | exc x s => exact j _ _ h
  | bad => exact h
theorem WX.bind {k : α → Store → ER β} {Q : β → Store → Prop} (h : W r fun a s => WX (k a s) Q E) : WX (r.bind k) Q E := by
  cases r with
  | ok a s => exact h
  | _ => exact h.elim
theorem WX.cases (h : WX r Q E) : (∃ a s, r = .ok a s ∧ Q a s) ∨ ∃ x s, r = .exc x s ∧ E x s := by
  cases r with
  | ok a s => exact .inl ⟨a, s, rfl, h⟩
  | exc x s => exact .inr ⟨x, s, rfl, h⟩
  | bad => exact h.elim
theorem WX_fin {s : SR} {Q : D → Store → Prop} : WX s.fin Q E = WSX s (fun _ st => Q .non st) Q E := by cases s <;> rfl
theorem wsx_cons {u w : SM} {τ : Sl} {st : Store} (h : WSX (u τ st) N' R E) (k : ∀ τ s, N' τ s → WSX (w τ s) N R E) : WSX (sSeq u w τ st) N R E := by
  unfold sSeq
  revert h
  generalize u τ st = r
  intro h
  cases r with
  | nx τ s => exact k τ s h
  | rt d s => exact h
  | exc x τ s => exact h
  | bk _ _ => exact h.elim
  | ct _ _ => exact h.elim
  | bad => exact h.elim
theorem wsx_if {g : EM Bool} {u v : SM} {τ : Sl} {st : Store} {b : Bool} {s : Store} (h : g τ st = .ok b s) (k1 : b = true → WSX (u τ s) N R E) (k2 : b = false → WSX (v τ s) N R E) : WSX (sIf g u v τ st) N R E := by
  unfold sIf
  rw [h, bindE_ok]
  cases b with
  | true => exact k1 rfl
  | false => exact k2 rfl
theorem wsx_expr {f : EM D} {τ : Sl} {st : Store} (h : WX (f τ st) (fun _ s => N τ s) E) : WSX (sExpr f τ st) N R E := by
  unfold sExpr
  revert h
  generalize f τ st = r
  intro h
  cases r with
  | ok d s => exact h
  | exc x s => exact h
  | bad => exact h.elim
theorem wsx_set {i : Nat} {f : EM D} {τ : Sl} {st : Store} (h : WX (f τ st) (fun d s => N (τ.set i (some d)) s) E) : WSX (sSet i f τ st) N R E := by
  unfold sSet
  revert h
  generalize f τ st = r
  intro h
  cases r with
  | ok d s => exact h
  | exc x s => exact h
  | bad => exact h.elim
theorem wsx_ret {f : EM D} {τ : Sl} {st : Store} (h : WX (f τ st) R E) : WSX (sRet f τ st) N R E := by
  unfold sRet
  revert h
  generalize f τ st = r
  intro h
  cases r with
  | ok d s => exact h
  | exc x s => exact h
  | bad => exact h.elim
theorem wsx_for {q : Sq} {set : D → Sl → Option Sl} {u : SM} (P : Nat → Sl → Store → Prop) (hc : ∀ k τ st, P k τ st → q.chk st = true) :
    ∀ (xs : List D) (k : Nat) (τ : Sl) (st : Store), P k τ st →
    (∀ i d τ st, xs[i]? = some d → P (k + i) τ st → ∃ τ1, set d τ = some τ1 ∧ WSX (u τ1 st) (P (k + i + 1)) R E) →
    (∀ τ st, P (k + xs.length) τ st → N τ st) → WSX (forL q set u xs τ st) N R E
  | [], k, τ, st, h0, _, hN => by
    unfold forL
    rw [if_pos (hc _ _ _ h0)]
    exact hN _ _ h0
  | d :: ds, k, τ, st, h0, hs, hN => by
    obtain ⟨τ1, e1, h1⟩ := hs 0 d τ st rfl h0
    have rest := fun τ st h => wsx_for (q := q) (set := set) (u := u) P hc ds (k + 1) τ st h (fun i d τ st hi hp => by
      have := hs (i + 1) d τ st hi (by rwa [show k + (i + 1) = k + 1 + i by omega])
      rwa [show k + (i + 1) + 1 = k + 1 + i + 1 by omega] at this) (fun τ st h => hN τ st (by rw [List.length_cons]; rwa [show k + (ds.length + 1) = k + 1 + ds.length by omega]))
    unfold forL
    rw [if_pos (hc _ _ _ h0), e1]
    simp only
    generalize u τ1 st = r at h1
    cases r with
    | nx τ s => exact rest τ s h1
    | rt d s => exact h1
    | exc x τ s => exact h1
    | ct τ s => exact h1.elim
    | bk τ s => exact h1.elim
    | bad => exact h1.elim
theorem wsx_rng {q : Sq} {set : D → Sl → Option Sl} {u : SM} {τ : Sl} {st : Store} {n : Nat} (P : Nat → Sl → Store → Prop) (hc : ∀ k τ st, P k τ st → q.chk st = true) (h0 : P 0 τ st)
    (hs : ∀ i τ st, i < n → P i τ st → ∃ τ1, set (.int (i : Nat)) τ = some τ1 ∧ WSX (u τ1 st) (P (i + 1)) R E)
    (hN : ∀ τ st, P n τ st → N τ st) : WSX (forL q set u (rng 0 (n : Nat)) τ st) N R E :=
  wsx_for P hc (rng 0 (n : Nat)) 0 τ st h0 (fun i d τ st hi hp => by
    rw [Nat.zero_add] at hp ⊢
    obtain ⟨hin, rfl⟩ := rng_at hi
    exact hs i τ st hin hp) (fun τ st h => hN τ st (by rw [Nat.zero_add] at h; rwa [rng_len] at h))
theorem wsx_forD {fi : EM Sq} {set : D → Sl → Option Sl} {u : SM} {τ : Sl} {st : Store} (P : Sq → Store → Prop) (h : W (fi τ st) P) (k : ∀ q s, P q s → WSX (forL q set u q.items τ s) N R E) : WSX (sFor fi set u τ st) N R E := by
  obtain ⟨q, s, e, hp⟩ := h.ex
  unfold sFor
  rw [e]
  exact k q s hp
theorem wsx_while {g : EM Bool} {u : SM} (P : Nat → Sl → Store → Prop)
    (hs : ∀ n τ st, P n τ st → W (g τ st) fun b s1 => if b then WSX (u τ s1) (fun τ s => ∃ m, m < n ∧ P m τ s) R E else N τ s1) :
    ∀ (k n : Nat) (τ : Sl) (st : Store), n < k → P n τ st → WSX (whileN g u k τ st) N R E
  | 0, _, _, _, h, _ => absurd h (Nat.not_lt_zero _)
  | k + 1, n, τ, st, h, hp => by
    unfold whileN
    obtain ⟨b, s1, e, h1⟩ := (hs n τ st hp).ex
    rw [e, bindE_ok]
    cases b with
    | false => exact h1
    | true =>
      rw [if_pos rfl] at h1 ⊢
      generalize u τ s1 = r at h1
      cases r with
      | nx τ s =>
        obtain ⟨m, hm, hp2⟩ := h1
        exact wsx_while P hs k m τ s (by omega) hp2
      | rt d s => exact h1
      | exc x τ s => exact h1
      | ct τ s => exact h1.elim
      | bk τ s => exact h1.elim
      | bad => exact h1.elim
end
end HM

namespace K65
open PySem PySem.Spec PyProof.Rows L2 HM
def N_ratio : List PySem.Str := ["n", "d", "common"]
theorem sc_ratio : FnScope N_ratio ["n", "d"] (defScope s_ratio) := ⟨rfl, rfl, rfl, by decide +kernel, rfl, by decide +kernel, by decide +kernel⟩
def m_ratio : SM := (sSeq (sIf (tBl (eBin oEq (eVar 1) (eC (.int 0)))) (sRaise ⟨.ty "ZeroDivisionError", []⟩) sNil)
    (sSeq (sSet 2 (eCB fGcd (aCons (eVar 0) (aCons (eVar 1) aNil))))
    (sSeq (sIf (tBl (eBin oLt (eVar 1) (eC (.int 0)))) (sSet 2 (eUn oNeg (eVar 2))) sNil)
    (sRet (eTup (aCons (eBin oDiv (eVar 0) (eVar 2)) (aCons (eBin oDiv (eVar 1) (eVar 2)) aNil)))))))
theorem ok_ratio {P : Program} {w : World} {K : PySem.W.Frag} {mg : PySem.Str → Option Value} {base : Heap} {f : Addr} {fd : FuncData} (F : FnP K "ratio" s_ratio f fd) (gx : mg "ratio" = some (.ref f)) (g_gcd : mg "gcd" = some (.builtin "math.gcd")) (z_ZeroDivisionError : mg "ZeroDivisionError" = none) :
    Cal P w K mg base "ratio" 1 ["n", "d"] (runB 3 (m_ratio)) :=
  cal_mk (k := 0) F sc_ratio gx (fun _ _ _ _ _ _ us hl => match us, hl with | [_, _], _ => rfl) fun cdv A outer s H E hr tk hp =>
    (sx_cons (sx_if (et_cmp (m_eq hr.units) (xv 1) ex_int (nomark _)) (sx_one (sx_raiseB (by rfl) tk exb_ZeroDivisionError (by rfl) z_ZeroDivisionError boot_ZeroDivisionError)) sx_nil)
    (sx_cons (sx_set sc_ratio.nd (ex_callF c_gcd (by rfl) g_gcd (ea_cons (xv 0) (ea_cons (xv 1) ea_nil))))
    (sx_cons (sx_if (et_cmp (m_lt hr.units65) (xv 1) ex_int (nomark _)) (sx_one (sx_set sc_ratio.nd (ex_un m_neg (xv 2)))) sx_nil)
    (sx_one (sx_ret (ex_tup (ea_cons (ex_op m_div (xv 0) (xv 2)) (ea_cons (ex_op m_div (xv 1) (xv 2)) ea_nil))))))))
def N_plus : List PySem.Str := ["x", "y"]
theorem sc_plus : FnScope N_plus ["x", "y"] (defScope s_plus) := ⟨rfl, rfl, rfl, by decide +kernel, rfl, by decide +kernel, by decide +kernel⟩
def m_plus (f_ratio : FM) : SM := (sSeq (sIf (tBl (eBin oEq (eBin oIx (eVar 0) (eC (.int 1))) (eBin oIx (eVar 1) (eC (.int 1))))) (sRet (eCall 2 f_ratio (aCons (eBin oAdd (eBin oIx (eVar 0) (eC (.int 0))) (eBin oIx (eVar 1) (eC (.int 0)))) (aCons (eBin oIx (eVar 0) (eC (.int 1))) aNil)))) sNil)
    (sRet (eCall 2 f_ratio (aCons (eBin oAdd (eBin oMul (eBin oIx (eVar 0) (eC (.int 0))) (eBin oIx (eVar 1) (eC (.int 1)))) (eBin oMul (eBin oIx (eVar 1) (eC (.int 0))) (eBin oIx (eVar 0) (eC (.int 1))))) (aCons (eBin oMul (eBin oIx (eVar 0) (eC (.int 1))) (eBin oIx (eVar 1) (eC (.int 1)))) aNil)))))
theorem ok_plus {P : Program} {w : World} {K : PySem.W.Frag} {mg : PySem.Str → Option Value} {base : Heap} {f : Addr} {fd : FuncData} {f_ratio : FM} (F : FnP K "plus" s_plus f fd) (gx : mg "plus" = some (.ref f)) (c_ratio : Cal P w K mg base "ratio" 1 ["n", "d"] f_ratio) :
    Cal P w K mg base "plus" 2 ["x", "y"] (runB 2 (m_plus f_ratio)) :=
  cal_mk (k := 1) F sc_plus gx (fun _ _ _ _ _ _ us hl => match us, hl with | [_, _], _ => rfl) fun cdv A outer s H E hr tk hp =>
    (sx_cons (sx_if (et_cmp (m_eq hr.units) (ex_ix (m_ix hr.units65) (xv 0) ex_int) (ex_ix (m_ix hr.units65) (xv 1) ex_int) (nomark _)) (sx_one (sx_ret (ex_c1 c_ratio tk hr (by decide) (ea_cons (ex_op m_add (ex_ix (m_ix hr.units65) (xv 0) ex_int) (ex_ix (m_ix hr.units65) (xv 1) ex_int)) (ea_cons (ex_ix (m_ix hr.units65) (xv 0) ex_int) ea_nil))))) sx_nil)
    (sx_one (sx_ret (ex_c1 c_ratio tk hr (by decide) (ea_cons (ex_op m_add (ex_op m_mul (ex_ix (m_ix hr.units65) (xv 0) ex_int) (ex_ix (m_ix hr.units65) (xv 1) ex_int)) (ex_op m_mul (ex_ix (m_ix hr.units65) (xv 1) ex_int) (ex_ix (m_ix hr.units65) (xv 0) ex_int))) (ea_cons (ex_op m_mul (ex_ix (m_ix hr.units65) (xv 0) ex_int) (ex_ix (m_ix hr.units65) (xv 1) ex_int)) ea_nil))))))
def N_minus : List PySem.Str := ["x", "y"]
theorem sc_minus : FnScope N_minus ["x", "y"] (defScope s_minus) := ⟨rfl, rfl, rfl, by decide +kernel, rfl, by decide +kernel, by decide +kernel⟩
def m_minus (f_ratio : FM) : SM := (sRet (eCall 2 f_ratio (aCons (eBin oSub (eBin oMul (eBin oIx (eVar 0) (eC (.int 0))) (eBin oIx (eVar 1) (eC (.int 1)))) (eBin oMul (eBin oIx (eVar 1) (eC (.int 0))) (eBin oIx (eVar 0) (eC (.int 1))))) (aCons (eBin oMul (eBin oIx (eVar 0) (eC (.int 1))) (eBin oIx (eVar 1) (eC (.int 1)))) aNil))))
theorem ok_minus {P : Program} {w : World} {K : PySem.W.Frag} {mg : PySem.Str → Option Value} {base : Heap} {f : Addr} {fd : FuncData} {f_ratio : FM} (F : FnP K "minus" s_minus f fd) (gx : mg "minus" = some (.ref f)) (c_ratio : Cal P w K mg base "ratio" 1 ["n", "d"] f_ratio) :
    Cal P w K mg base "minus" 2 ["x", "y"] (runB 2 (m_minus f_ratio)) :=
  cal_mk (k := 1) F sc_minus gx (fun _ _ _ _ _ _ us hl => match us, hl with | [_, _], _ => rfl) fun cdv A outer s H E hr tk hp =>
    (sx_one (sx_ret (ex_c1 c_ratio tk hr (by decide) (ea_cons (ex_op m_sub (ex_op m_mul (ex_ix (m_ix hr.units65) (xv 0) ex_int) (ex_ix (m_ix hr.units65) (xv 1) ex_int)) (ex_op m_mul (ex_ix (m_ix hr.units65) (xv 1) ex_int) (ex_ix (m_ix hr.units65) (xv 0) ex_int))) (ea_cons (ex_op m_mul (ex_ix (m_ix hr.units65) (xv 0) ex_int) (ex_ix (m_ix hr.units65) (xv 1) ex_int)) ea_nil)))))
def N_times : List PySem.Str := ["x", "y"]
theorem sc_times : FnScope N_times ["x", "y"] (defScope s_times) := ⟨rfl, rfl, rfl, by decide +kernel, rfl, by decide +kernel, by decide +kernel⟩
def m_times (f_ratio : FM) : SM := (sRet (eCall 2 f_ratio (aCons (eBin oMul (eBin oIx (eVar 0) (eC (.int 0))) (eBin oIx (eVar 1) (eC (.int 0)))) (aCons (eBin oMul (eBin oIx (eVar 0) (eC (.int 1))) (eBin oIx (eVar 1) (eC (.int 1)))) aNil))))
theorem ok_times {P : Program} {w : World} {K : PySem.W.Frag} {mg : PySem.Str → Option Value} {base : Heap} {f : Addr} {fd : FuncData} {f_ratio : FM} (F : FnP K "times" s_times f fd) (gx : mg "times" = some (.ref f)) (c_ratio : Cal P w K mg base "ratio" 1 ["n", "d"] f_ratio) :
    Cal P w K mg base "times" 2 ["x", "y"] (runB 2 (m_times f_ratio)) :=
  cal_mk (k := 1) F sc_times gx (fun _ _ _ _ _ _ us hl => match us, hl with | [_, _], _ => rfl) fun cdv A outer s H E hr tk hp =>
    (sx_one (sx_ret (ex_c1 c_ratio tk hr (by decide) (ea_cons (ex_op m_mul (ex_ix (m_ix hr.units65) (xv 0) ex_int) (ex_ix (m_ix hr.units65) (xv 1) ex_int)) (ea_cons (ex_op m_mul (ex_ix (m_ix hr.units65) (xv 0) ex_int) (ex_ix (m_ix hr.units65) (xv 1) ex_int)) ea_nil)))))
def N_over : List PySem.Str := ["x", "y"]
theorem sc_over : FnScope N_over ["x", "y"] (defScope s_over) := ⟨rfl, rfl, rfl, by decide +kernel, rfl, by decide +kernel, by decide +kernel⟩
def m_over (f_ratio : FM) : SM := (sRet (eCall 2 f_ratio (aCons (eBin oMul (eBin oIx (eVar 0) (eC (.int 0))) (eBin oIx (eVar 1) (eC (.int 1)))) (aCons (eBin oMul (eBin oIx (eVar 0) (eC (.int 1))) (eBin oIx (eVar 1) (eC (.int 0)))) aNil))))
theorem ok_over {P : Program} {w : World} {K : PySem.W.Frag} {mg : PySem.Str → Option Value} {base : Heap} {f : Addr} {fd : FuncData} {f_ratio : FM} (F : FnP K "over" s_over f fd) (gx : mg "over" = some (.ref f)) (c_ratio : Cal P w K mg base "ratio" 1 ["n", "d"] f_ratio) :
    Cal P w K mg base "over" 2 ["x", "y"] (runB 2 (m_over f_ratio)) :=
  cal_mk (k := 1) F sc_over gx (fun _ _ _ _ _ _ us hl => match us, hl with | [_, _], _ => rfl) fun cdv A outer s H E hr tk hp =>
    (sx_one (sx_ret (ex_c1 c_ratio tk hr (by decide) (ea_cons (ex_op m_mul (ex_ix (m_ix hr.units65) (xv 0) ex_int) (ex_ix (m_ix hr.units65) (xv 1) ex_int)) (ea_cons (ex_op m_mul (ex_ix (m_ix hr.units65) (xv 0) ex_int) (ex_ix (m_ix hr.units65) (xv 1) ex_int)) ea_nil)))))
def N_is_below : List PySem.Str := ["x", "y"]
theorem sc_is_below : FnScope N_is_below ["x", "y"] (defScope s_is_below) := ⟨rfl, rfl, rfl, by decide +kernel, rfl, by decide +kernel, by decide +kernel⟩
def m_is_below : SM := (sRet (eBin oLt (eBin oMul (eBin oIx (eVar 0) (eC (.int 0))) (eBin oIx (eVar 1) (eC (.int 1)))) (eBin oMul (eBin oIx (eVar 1) (eC (.int 0))) (eBin oIx (eVar 0) (eC (.int 1))))))
theorem ok_is_below {P : Program} {w : World} {K : PySem.W.Frag} {mg : PySem.Str → Option Value} {base : Heap} {f : Addr} {fd : FuncData} (F : FnP K "is_below" s_is_below f fd) (gx : mg "is_below" = some (.ref f))  :
    Cal P w K mg base "is_below" 1 ["x", "y"] (runB 2 (m_is_below)) :=
  cal_mk (k := 0) F sc_is_below gx (fun _ _ _ _ _ _ us hl => match us, hl with | [_, _], _ => rfl) fun cdv A outer s H E hr tk hp =>
    (sx_one (sx_ret (ex_cmp (m_lt hr.units65) (ex_op m_mul (ex_ix (m_ix hr.units65) (xv 0) ex_int) (ex_ix (m_ix hr.units65) (xv 1) ex_int)) (ex_op m_mul (ex_ix (m_ix hr.units65) (xv 1) ex_int) (ex_ix (m_ix hr.units65) (xv 0) ex_int)) (nomark _))))
def N_is_fraction : List PySem.Str := ["pair", "n", "d"]
theorem sc_is_fraction : FnScope N_is_fraction ["pair"] (defScope s_is_fraction) := ⟨rfl, rfl, rfl, by decide +kernel, rfl, by decide +kernel, by decide +kernel⟩
def m_is_fraction : SM := (sSeq (sAsg (gT 2 (gCs 1 (gCs 2 gNil0))) (eVar 0))
    (sSeq (sIf (tBl (eBin oLt (eVar 2) (eC (.int 1)))) (sRet (eC (.bl false))) sNil)
    (sRet (eBin oEq (eCB fGcd (aCons (eVar 1) (aCons (eVar 2) aNil))) (eC (.int 1))))))
theorem ok_is_fraction {P : Program} {w : World} {K : PySem.W.Frag} {mg : PySem.Str → Option Value} {base : Heap} {f : Addr} {fd : FuncData} (F : FnP K "is_fraction" s_is_fraction f fd) (gx : mg "is_fraction" = some (.ref f)) (g_gcd : mg "gcd" = some (.builtin "math.gcd")) :
    Cal P w K mg base "is_fraction" 1 ["pair"] (runB 3 (m_is_fraction)) :=
  cal_mk (k := 0) F sc_is_fraction gx (fun _ _ _ _ _ _ us hl => match us, hl with | [_], _ => rfl) fun cdv A outer s H E hr tk hp =>
    (sx_cons (sx_asg (xv 0) (eg_tup (by rfl) (egs_cons sc_is_fraction.nd (egs_cons sc_is_fraction.nd egs_nil))))
    (sx_cons (sx_if (et_cmp (m_lt hr.units65) (xv 2) ex_int (nomark _)) (sx_one (sx_ret ex_bl)) sx_nil)
    (sx_one (sx_ret (ex_cmp (m_eq hr.units) (ex_callF c_gcd (by rfl) g_gcd (ea_cons (xv 1) (ea_cons (xv 2) ea_nil))) ex_int (nomark _))))))
def N_height_at : List PySem.Str := ["bowl", "fraction", "way"]
theorem sc_height_at : FnScope N_height_at ["bowl", "fraction"] (defScope s_height_at) := ⟨rfl, rfl, rfl, by decide +kernel, rfl, by decide +kernel, by decide +kernel⟩
def m_height_at (f_minus : FM) (f_times : FM) : SM := (sSeq (sSet 2 (eCall 2 f_minus (aCons (eVar 1) (aCons (eBin oIx (eVar 0) (eC (.int 0))) aNil))))
    (sRet (eCall 2 f_times (aCons (eBin oIx (eVar 0) (eC (.int 1))) (aCons (eCall 2 f_times (aCons (eVar 2) (aCons (eVar 2) aNil))) aNil)))))
theorem ok_height_at {P : Program} {w : World} {K : PySem.W.Frag} {mg : PySem.Str → Option Value} {base : Heap} {f : Addr} {fd : FuncData} {f_minus f_times : FM} (F : FnP K "height_at" s_height_at f fd) (gx : mg "height_at" = some (.ref f)) (c_minus : Cal P w K mg base "minus" 2 ["x", "y"] f_minus) (c_times : Cal P w K mg base "times" 2 ["x", "y"] f_times) :
    Cal P w K mg base "height_at" 3 ["bowl", "fraction"] (runB 3 (m_height_at f_minus f_times)) :=
  cal_mk (k := 2) F sc_height_at gx (fun _ _ _ _ _ _ us hl => match us, hl with | [_, _], _ => rfl) fun cdv A outer s H E hr tk hp =>
    (sx_cons (sx_set sc_height_at.nd (ex_c1 c_minus tk hr (by decide) (ea_cons (xv 1) (ea_cons (ex_ix (m_ix hr.units65) (xv 0) ex_int) ea_nil))))
    (sx_one (sx_ret (ex_c1 c_times tk hr (by decide) (ea_cons (ex_ix (m_ix hr.units65) (xv 0) ex_int) (ea_cons (ex_c1 c_times tk hr (by decide) (ea_cons (xv 2) (ea_cons (xv 2) ea_nil))) ea_nil))))))
def N_pull_at : List PySem.Str := ["bowl", "fraction"]
theorem sc_pull_at : FnScope N_pull_at ["bowl", "fraction"] (defScope s_pull_at) := ⟨rfl, rfl, rfl, by decide +kernel, rfl, by decide +kernel, by decide +kernel⟩
def m_pull_at (f_times : FM) (f_minus : FM) : SM := (sRet (eCall 2 f_times (aCons (eBin oIx (eVar 0) (eC (.int 1))) (aCons (eCall 2 f_minus (aCons (eBin oIx (eVar 0) (eC (.int 0))) (aCons (eVar 1) aNil))) aNil))))
theorem ok_pull_at {P : Program} {w : World} {K : PySem.W.Frag} {mg : PySem.Str → Option Value} {base : Heap} {f : Addr} {fd : FuncData} {f_times f_minus : FM} (F : FnP K "pull_at" s_pull_at f fd) (gx : mg "pull_at" = some (.ref f)) (c_times : Cal P w K mg base "times" 2 ["x", "y"] f_times) (c_minus : Cal P w K mg base "minus" 2 ["x", "y"] f_minus) :
    Cal P w K mg base "pull_at" 3 ["bowl", "fraction"] (runB 2 (m_pull_at f_times f_minus)) :=
  cal_mk (k := 2) F sc_pull_at gx (fun _ _ _ _ _ _ us hl => match us, hl with | [_, _], _ => rfl) fun cdv A outer s H E hr tk hp =>
    (sx_one (sx_ret (ex_c1 c_times tk hr (by decide) (ea_cons (ex_ix (m_ix hr.units65) (xv 0) ex_int) (ea_cons (ex_c1 c_minus tk hr (by decide) (ea_cons (ex_ix (m_ix hr.units65) (xv 0) ex_int) (ea_cons (xv 1) ea_nil))) ea_nil)))))
def N_joined_bowl : List PySem.Str := ["bowl", "other", "weight", "loaded"]
theorem sc_joined_bowl : FnScope N_joined_bowl ["bowl", "other"] (defScope s_joined_bowl) := ⟨rfl, rfl, rfl, by decide +kernel, rfl, by decide +kernel, by decide +kernel⟩
def m_joined_bowl (f_plus : FM) (f_times : FM) (f_over : FM) : SM := (sSeq (sSet 2 (eCall 2 f_plus (aCons (eBin oIx (eVar 0) (eC (.int 1))) (aCons (eBin oIx (eVar 1) (eC (.int 1))) aNil))))
    (sSeq (sSet 3 (eCall 2 f_plus (aCons (eCall 2 f_times (aCons (eBin oIx (eVar 0) (eC (.int 1))) (aCons (eBin oIx (eVar 0) (eC (.int 0))) aNil))) (aCons (eCall 2 f_times (aCons (eBin oIx (eVar 1) (eC (.int 1))) (aCons (eBin oIx (eVar 1) (eC (.int 0))) aNil))) aNil))))
    (sRet (eTup (aCons (eCall 2 f_over (aCons (eVar 3) (aCons (eVar 2) aNil))) (aCons (eVar 2) aNil))))))
theorem ok_joined_bowl {P : Program} {w : World} {K : PySem.W.Frag} {mg : PySem.Str → Option Value} {base : Heap} {f : Addr} {fd : FuncData} {f_plus f_times f_over : FM} (F : FnP K "joined_bowl" s_joined_bowl f fd) (gx : mg "joined_bowl" = some (.ref f)) (c_plus : Cal P w K mg base "plus" 2 ["x", "y"] f_plus) (c_times : Cal P w K mg base "times" 2 ["x", "y"] f_times) (c_over : Cal P w K mg base "over" 2 ["x", "y"] f_over) :
    Cal P w K mg base "joined_bowl" 3 ["bowl", "other"] (runB 4 (m_joined_bowl f_plus f_times f_over)) :=
  cal_mk (k := 2) F sc_joined_bowl gx (fun _ _ _ _ _ _ us hl => match us, hl with | [_, _], _ => rfl) fun cdv A outer s H E hr tk hp =>
    (sx_cons (sx_set sc_joined_bowl.nd (ex_c1 c_plus tk hr (by decide) (ea_cons (ex_ix (m_ix hr.units65) (xv 0) ex_int) (ea_cons (ex_ix (m_ix hr.units65) (xv 1) ex_int) ea_nil))))
    (sx_cons (sx_set sc_joined_bowl.nd (ex_c1 c_plus tk hr (by decide) (ea_cons (ex_c1 c_times tk hr (by decide) (ea_cons (ex_ix (m_ix hr.units65) (xv 0) ex_int) (ea_cons (ex_ix (m_ix hr.units65) (xv 0) ex_int) ea_nil))) (ea_cons (ex_c1 c_times tk hr (by decide) (ea_cons (ex_ix (m_ix hr.units65) (xv 1) ex_int) (ea_cons (ex_ix (m_ix hr.units65) (xv 1) ex_int) ea_nil))) ea_nil))))
    (sx_one (sx_ret (ex_tup (ea_cons (ex_c1 c_over tk hr (by decide) (ea_cons (xv 3) (ea_cons (xv 2) ea_nil))) (ea_cons (xv 2) ea_nil)))))))
def N_is_ahead : List PySem.Str := ["block", "other"]
theorem sc_is_ahead : FnScope N_is_ahead ["block", "other"] (defScope s_is_ahead) := ⟨rfl, rfl, rfl, by decide +kernel, rfl, by decide +kernel, by decide +kernel⟩
def m_is_ahead (f_is_below : FM) : SM := (sRet (eCall 2 f_is_below (aCons (eBin oIx (eBin oIx (eVar 0) (eC (.int 0))) (eC (.int 0))) (aCons (eBin oIx (eBin oIx (eVar 1) (eC (.int 0))) (eC (.int 0))) aNil))))
theorem ok_is_ahead {P : Program} {w : World} {K : PySem.W.Frag} {mg : PySem.Str → Option Value} {base : Heap} {f : Addr} {fd : FuncData} {f_is_below : FM} (F : FnP K "is_ahead" s_is_ahead f fd) (gx : mg "is_ahead" = some (.ref f)) (c_is_below : Cal P w K mg base "is_below" 1 ["x", "y"] f_is_below) :
    Cal P w K mg base "is_ahead" 2 ["block", "other"] (runB 2 (m_is_ahead f_is_below)) :=
  cal_mk (k := 1) F sc_is_ahead gx (fun _ _ _ _ _ _ us hl => match us, hl with | [_, _], _ => rfl) fun cdv A outer s H E hr tk hp =>
    (sx_one (sx_ret (ex_c1 c_is_below tk hr (by decide) (ea_cons (ex_ix (m_ix hr.units65) (ex_ix (m_ix hr.units65) (xv 0) ex_int) ex_int) (ea_cons (ex_ix (m_ix hr.units65) (ex_ix (m_ix hr.units65) (xv 1) ex_int) ex_int) ea_nil)))))
def N_one_block : List PySem.Str := ["block", "other"]
theorem sc_one_block : FnScope N_one_block ["block", "other"] (defScope s_one_block) := ⟨rfl, rfl, rfl, by decide +kernel, rfl, by decide +kernel, by decide +kernel⟩
def m_one_block (f_joined_bowl : FM) : SM := (sRet (eTup (aCons (eCall 2 f_joined_bowl (aCons (eBin oIx (eVar 0) (eC (.int 0))) (aCons (eBin oIx (eVar 1) (eC (.int 0))) aNil))) (aCons (eBin oAdd (eBin oIx (eVar 0) (eC (.int 1))) (eBin oIx (eVar 1) (eC (.int 1)))) aNil))))
theorem ok_one_block {P : Program} {w : World} {K : PySem.W.Frag} {mg : PySem.Str → Option Value} {base : Heap} {f : Addr} {fd : FuncData} {f_joined_bowl : FM} (F : FnP K "one_block" s_one_block f fd) (gx : mg "one_block" = some (.ref f)) (c_joined_bowl : Cal P w K mg base "joined_bowl" 3 ["bowl", "other"] f_joined_bowl) :
    Cal P w K mg base "one_block" 4 ["block", "other"] (runB 2 (m_one_block f_joined_bowl)) :=
  cal_mk (k := 3) F sc_one_block gx (fun _ _ _ _ _ _ us hl => match us, hl with | [_, _], _ => rfl) fun cdv A outer s H E hr tk hp =>
    (sx_one (sx_ret (ex_tup (ea_cons (ex_c1 c_joined_bowl tk hr (by decide) (ea_cons (ex_ix (m_ix hr.units65) (xv 0) ex_int) (ea_cons (ex_ix (m_ix hr.units65) (xv 1) ex_int) ea_nil))) (ea_cons (ex_op m_add (ex_ix (m_ix hr.units65) (xv 0) ex_int) (ex_ix (m_ix hr.units65) (xv 1) ex_int)) ea_nil)))))
def N_pooled_blocks : List PySem.Str := ["answers", "weights", "blocks", "answer", "weight", "last"]
theorem sc_pooled_blocks : FnScope N_pooled_blocks ["answers", "weights"] (defScope s_pooled_blocks) := ⟨rfl, rfl, rfl, by decide +kernel, rfl, by decide +kernel, by decide +kernel⟩
def m_pooled_blocks (f_is_ahead : FM) (f_one_block : FM) : SM := (sSeq (sSet 2 (eLst aNil))
    (sSeq (sFor (iZip (eVar 0) (eVar 1)) (gT 2 (gCs 3 (gCs 4 gNil0))) (sSeq (sExpr (eM "list" mAppend (eVar 2) (aCons (eTup (aCons (eTup (aCons (eVar 3) (aCons (eVar 4) aNil))) (aCons (eC (.int 1)) aNil))) aNil)))
    (whileN (tAnd (tBl (eBin oGt (eCB fLen (aCons (eVar 2) aNil)) (eC (.int 1)))) (HM.tNot (tVal (eCall 2 f_is_ahead (aCons (eBin oIx (eVar 2) (eUn oNeg (eC (.int 2)))) (aCons (eBin oIx (eVar 2) (eUn oNeg (eC (.int 1)))) aNil)))))) (sSeq (sSet 5 (eM "list" mPop (eVar 2) aNil))
    (sExpr (eM "list" mAppend (eVar 2) (aCons (eCall 2 f_one_block (aCons (eM "list" mPop (eVar 2) aNil) (aCons (eVar 5) aNil))) aNil)))) big)))
    (sRet (eVar 2))))
theorem ok_pooled_blocks {P : Program} {w : World} {K : PySem.W.Frag} {mg : PySem.Str → Option Value} {base : Heap} {f : Addr} {fd : FuncData} {f_is_ahead f_one_block : FM} (F : FnP K "pooled_blocks" s_pooled_blocks f fd) (gx : mg "pooled_blocks" = some (.ref f)) (c_is_ahead : Cal P w K mg base "is_ahead" 2 ["block", "other"] f_is_ahead) (c_one_block : Cal P w K mg base "one_block" 4 ["block", "other"] f_one_block) (z_zip : mg "zip" = none) (z_len : mg "len" = none) :
    Cal P w K mg base "pooled_blocks" 5 ["answers", "weights"] (runB 6 (m_pooled_blocks f_is_ahead f_one_block)) :=
  cal_mk (k := 4) F sc_pooled_blocks gx (fun _ _ _ _ _ _ us hl => match us, hl with | [_, _], _ => rfl) fun cdv A outer s H E hr tk hp =>
    (sx_cons (sx_set sc_pooled_blocks.nd (ex_lst ea_nil))
    (sx_cons (sx_for hp (by rfl) (ei_zip (by rfl) z_zip (xv 0) (xv 1)) (eg_tup (by rfl) (egs_cons sc_pooled_blocks.nd (egs_cons sc_pooled_blocks.nd egs_nil))) (sx_cons (sx_expr (ex_m PySem.F.plainAttrs_list PySem.F.slot_list_append PySem.F.type_list_append me_append (xv 2) (ea_cons (ex_tup (ea_cons (ex_tup (ea_cons (xv 3) (ea_cons (xv 4) ea_nil))) (ea_cons ex_int ea_nil))) ea_nil)))
    (sx_one (sx_while big hp (Ew.et (ew_and (et_cmp m_gt (ex_callB c_len (by rfl) z_len bt_len (ea_cons (xv 2) ea_nil)) ex_int (nomark _)) (ew_and1 (et_not (et_val (ex_c1 c_is_ahead tk hr (by decide) (ea_cons (ex_ix (m_ix hr.units65) (xv 2) (ex_un m_neg ex_int)) (ea_cons (ex_ix (m_ix hr.units65) (xv 2) (ex_un m_neg ex_int)) ea_nil)))))))) (sx_cons (sx_set sc_pooled_blocks.nd (ex_m0 PySem.F.plainAttrs_list PySem.F.slot_list_pop PySem.F.type_list_pop me_pop (xv 2)))
    (sx_one (sx_expr (ex_m PySem.F.plainAttrs_list PySem.F.slot_list_append PySem.F.type_list_append me_append (xv 2) (ea_cons (ex_c1 c_one_block tk hr (by decide) (ea_cons (ex_m0 PySem.F.plainAttrs_list PySem.F.slot_list_pop PySem.F.type_list_pop me_pop (xv 2)) (ea_cons (xv 5) ea_nil))) ea_nil)))))))))
    (sx_one (sx_ret (xv 2)))))
def N_nearest_rising : List PySem.Str := ["answers", "weights", "found", "bowl", "many", "place"]
theorem sc_nearest_rising : FnScope N_nearest_rising ["answers", "weights"] (defScope s_nearest_rising) := ⟨rfl, rfl, rfl, by decide +kernel, rfl, by decide +kernel, by decide +kernel⟩
def m_nearest_rising (f_pooled_blocks : FM) : SM := (sSeq (sSet 2 (eLst aNil))
    (sSeq (sFor (iEx (eCall 2 f_pooled_blocks (aCons (eVar 0) (aCons (eVar 1) aNil)))) (gT 2 (gCs 3 (gCs 4 gNil0))) (sExpr (eM "list" mExtend (eVar 2) (aCons (eEl (lComp [5] (iRg1 (eVar 4)) (gN 5) tYes (eBin oIx (eVar 3) (eC (.int 0))))) aNil))))
    (sRet (eCB fTuple (aCons (eVar 2) aNil)))))
theorem ok_nearest_rising {P : Program} {w : World} {K : PySem.W.Frag} {mg : PySem.Str → Option Value} {base : Heap} {f : Addr} {fd : FuncData} {f_pooled_blocks : FM} (F : FnP K "nearest_rising" s_nearest_rising f fd) (gx : mg "nearest_rising" = some (.ref f)) (c_pooled_blocks : Cal P w K mg base "pooled_blocks" 5 ["answers", "weights"] f_pooled_blocks) (z_range : mg "range" = none) (z_tuple : mg "tuple" = none) :
    Cal P w K mg base "nearest_rising" 6 ["answers", "weights"] (runB 6 (m_nearest_rising f_pooled_blocks)) :=
  cal_mk (k := 5) F sc_nearest_rising gx (fun _ _ _ _ _ _ us hl => match us, hl with | [_, _], _ => rfl) fun cdv A outer s H E hr tk hp =>
    (sx_cons (sx_set sc_nearest_rising.nd (ex_lst ea_nil))
    (sx_cons (sx_for hp (by rfl) (ei_ex (ex_c1 c_pooled_blocks tk hr (by decide) (ea_cons (xv 0) (ea_cons (xv 1) ea_nil)))) (eg_tup (by rfl) (egs_cons sc_nearest_rising.nd (egs_cons sc_nearest_rising.nd egs_nil))) (sx_one (sx_expr (ex_m PySem.F.plainAttrs_list PySem.F.slot_list_extend PySem.F.type_list_extend me_extend (xv 2) (ea_cons (ex_el (el_comp (own := [(("place" : PySem.Str), 5)]) (by rfl) sc_nearest_rising.nd (ei_range1 (by rfl) z_range (xv 4)) (blkOk_by (N := N_nearest_rising) (sc := (defScope s_nearest_rising)) (by decide +kernel)) (fun _ _ _ _ _ => (eg_name sc_nearest_rising.nd)) (fun _ _ _ _ _ => ets_nil) (fun _ _ _ _ _ => (ex_ix (m_ix hr.units65) (xv 3) ex_int)))) ea_nil)))))
    (sx_one (sx_ret (ex_callT c_tuple (by rfl) z_tuple bt_tuple (ea_cons (xv 2) ea_nil))))))
def N_is_rising : List PySem.Str := ["row", "place"]
theorem sc_is_rising : FnScope N_is_rising ["row"] (defScope s_is_rising) := ⟨rfl, rfl, rfl, by decide +kernel, rfl, by decide +kernel, by decide +kernel⟩
def m_is_rising (f_is_below : FM) : SM := (sSeq (sFor (iRg2 (eC (.int 1)) (eCB fLen (aCons (eVar 0) aNil))) (gN 1) (sIf (tVal (eCall 2 f_is_below (aCons (eBin oIx (eVar 0) (eVar 1)) (aCons (eBin oIx (eVar 0) (eBin oSub (eVar 1) (eC (.int 1)))) aNil)))) (sRet (eC (.bl false))) sNil))
    (sRet (eC (.bl true))))
theorem ok_is_rising {P : Program} {w : World} {K : PySem.W.Frag} {mg : PySem.Str → Option Value} {base : Heap} {f : Addr} {fd : FuncData} {f_is_below : FM} (F : FnP K "is_rising" s_is_rising f fd) (gx : mg "is_rising" = some (.ref f)) (c_is_below : Cal P w K mg base "is_below" 1 ["x", "y"] f_is_below) (z_range : mg "range" = none) (z_len : mg "len" = none) :
    Cal P w K mg base "is_rising" 2 ["row"] (runB 2 (m_is_rising f_is_below)) :=
  cal_mk (k := 1) F sc_is_rising gx (fun _ _ _ _ _ _ us hl => match us, hl with | [_], _ => rfl) fun cdv A outer s H E hr tk hp =>
    (sx_cons (sx_for hp (by rfl) (ei_range2 (by rfl) z_range ex_int (ex_callB c_len (by rfl) z_len bt_len (ea_cons (xv 0) ea_nil))) (eg_name sc_is_rising.nd) (sx_one (sx_if (et_val (ex_c1 c_is_below tk hr (by decide) (ea_cons (ex_ix (m_ix hr.units65) (xv 0) (xv 1)) (ea_cons (ex_ix (m_ix hr.units65) (xv 0) (ex_op m_sub (xv 1) ex_int)) ea_nil)))) (sx_one (sx_ret ex_bl)) sx_nil)))
    (sx_one (sx_ret ex_bl)))
def N_rises_behind : List PySem.Str := ["row", "place"]
theorem sc_rises_behind : FnScope N_rises_behind ["row", "place"] (defScope s_rises_behind) := ⟨rfl, rfl, rfl, by decide +kernel, rfl, by decide +kernel, by decide +kernel⟩
def m_rises_behind : SM := (sRet (eOr (eBin oEq (eBin oAdd (eVar 1) (eC (.int 1))) (eCB fLen (aCons (eVar 0) aNil))) (eBin oNe (eBin oIx (eVar 0) (eVar 1)) (eBin oIx (eVar 0) (eBin oAdd (eVar 1) (eC (.int 1)))))))
theorem ok_rises_behind {P : Program} {w : World} {K : PySem.W.Frag} {mg : PySem.Str → Option Value} {base : Heap} {f : Addr} {fd : FuncData} (F : FnP K "rises_behind" s_rises_behind f fd) (gx : mg "rises_behind" = some (.ref f)) (z_len : mg "len" = none) :
    Cal P w K mg base "rises_behind" 1 ["row", "place"] (runB 2 (m_rises_behind)) :=
  cal_mk (k := 0) F sc_rises_behind gx (fun _ _ _ _ _ _ us hl => match us, hl with | [_, _], _ => rfl) fun cdv A outer s H E hr tk hp =>
    (sx_one (sx_ret (ex_or (ex_cmp (m_eq hr.units) (ex_op m_add (xv 1) ex_int) (ex_callB c_len (by rfl) z_len bt_len (ea_cons (xv 0) ea_nil)) (nomark _)) (ex_one (ex_cmp (m_ne hr.units) (ex_ix (m_ix hr.units65) (xv 0) (xv 1)) (ex_ix (m_ix hr.units65) (xv 0) (ex_op m_add (xv 1) ex_int)) (nomark _))))))
def N_pulls_up_to : List PySem.Str := ["answers", "weights", "row", "found", "led", "answer", "weight", "part"]
theorem sc_pulls_up_to : FnScope N_pulls_up_to ["answers", "weights", "row"] (defScope s_pulls_up_to) := ⟨rfl, rfl, rfl, by decide +kernel, rfl, by decide +kernel, by decide +kernel⟩
def m_pulls_up_to (f_plus : FM) (f_pull_at : FM) : SM := (sSeq (sSet 3 (eLst aNil))
    (sSeq (sSet 4 (eC q_ZERO))
    (sSeq (sFor (iZip3 (eVar 0) (eVar 1) (eVar 2)) (gT 3 (gCs 5 (gCs 6 (gCs 7 gNil0)))) (sSeq (sSet 4 (eCall 2 f_plus (aCons (eVar 4) (aCons (eCall 2 f_pull_at (aCons (eTup (aCons (eVar 5) (aCons (eVar 6) aNil))) (aCons (eVar 7) aNil))) aNil))))
    (sExpr (eM "list" mAppend (eVar 3) (aCons (eVar 4) aNil)))))
    (sRet (eVar 3)))))
theorem ok_pulls_up_to {P : Program} {w : World} {K : PySem.W.Frag} {mg : PySem.Str → Option Value} {base : Heap} {f : Addr} {fd : FuncData} {f_plus f_pull_at : FM} (F : FnP K "pulls_up_to" s_pulls_up_to f fd) (gx : mg "pulls_up_to" = some (.ref f)) (c_plus : Cal P w K mg base "plus" 2 ["x", "y"] f_plus) (c_pull_at : Cal P w K mg base "pull_at" 3 ["bowl", "fraction"] f_pull_at) (k_ZERO : Con K mg "ZERO" q_ZERO) (z_zip : mg "zip" = none) :
    Cal P w K mg base "pulls_up_to" 4 ["answers", "weights", "row"] (runB 8 (m_pulls_up_to f_plus f_pull_at)) :=
  cal_mk (k := 3) F sc_pulls_up_to gx (fun _ _ _ _ _ _ us hl => match us, hl with | [_, _, _], _ => rfl) fun cdv A outer s H E hr tk hp =>
    (sx_cons (sx_set sc_pulls_up_to.nd (ex_lst ea_nil))
    (sx_cons (sx_set sc_pulls_up_to.nd (ex_con k_ZERO))
    (sx_cons (sx_for hp (by rfl) (ei_zip3 (by rfl) z_zip (xv 0) (xv 1) (xv 2)) (eg_tup (by rfl) (egs_cons sc_pulls_up_to.nd (egs_cons sc_pulls_up_to.nd (egs_cons sc_pulls_up_to.nd egs_nil)))) (sx_cons (sx_set sc_pulls_up_to.nd (ex_c1 c_plus tk hr (by decide) (ea_cons (xv 4) (ea_cons (ex_c1 c_pull_at tk hr (by decide) (ea_cons (ex_tup (ea_cons (xv 5) (ea_cons (xv 6) ea_nil))) (ea_cons (xv 7) ea_nil))) ea_nil))))
    (sx_one (sx_expr (ex_m PySem.F.plainAttrs_list PySem.F.slot_list_append PySem.F.type_list_append me_append (xv 3) (ea_cons (xv 4) ea_nil))))))
    (sx_one (sx_ret (xv 3))))))
def N_judge_rising : List PySem.Str := ["answers", "weights", "row", "part", "pulls", "place"]
theorem sc_judge_rising : FnScope N_judge_rising ["answers", "weights", "row"] (defScope s_judge_rising) := ⟨rfl, rfl, rfl, by decide +kernel, rfl, by decide +kernel, by decide +kernel⟩
def m_judge_rising (f_is_fraction : FM) (f_is_rising : FM) (f_pulls_up_to : FM) (f_is_below : FM) (f_rises_behind : FM) : SM := (sSeq (sIf (tBl (eBin oNe (eCB fLen (aCons (eVar 2) aNil)) (eCB fLen (aCons (eVar 0) aNil)))) (sRet (eC (.bl false))) sNil)
    (sSeq (sFor (iEx (eVar 2)) (gN 3) (sIf (HM.tNot (tVal (eCall 1 f_is_fraction (aCons (eVar 3) aNil)))) (sRet (eC (.bl false))) sNil))
    (sSeq (sIf (HM.tNot (tVal (eCall 1 f_is_rising (aCons (eVar 2) aNil)))) (sRet (eC (.bl false))) sNil)
    (sSeq (sSet 4 (eCall 3 f_pulls_up_to (aCons (eVar 0) (aCons (eVar 1) (aCons (eVar 2) aNil)))))
    (sSeq (sFor (iRg1 (eCB fLen (aCons (eVar 2) aNil))) (gN 5) (sSeq (sIf (tVal (eCall 2 f_is_below (aCons (eBin oIx (eVar 4) (eVar 5)) (aCons (eC q_ZERO) aNil)))) (sRet (eC (.bl false))) sNil)
    (sIf (tAnd (tVal (eCall 2 f_rises_behind (aCons (eVar 2) (aCons (eVar 5) aNil)))) (tBl (eBin oNe (eBin oIx (eVar 4) (eVar 5)) (eC q_ZERO)))) (sRet (eC (.bl false))) sNil)))
    (sRet (eC (.bl true))))))))
theorem ok_judge_rising {P : Program} {w : World} {K : PySem.W.Frag} {mg : PySem.Str → Option Value} {base : Heap} {f : Addr} {fd : FuncData} {f_is_fraction f_is_rising f_pulls_up_to f_is_below f_rises_behind : FM} (F : FnP K "judge_rising" s_judge_rising f fd) (gx : mg "judge_rising" = some (.ref f)) (c_is_fraction : Cal P w K mg base "is_fraction" 1 ["pair"] f_is_fraction) (c_is_rising : Cal P w K mg base "is_rising" 2 ["row"] f_is_rising) (c_pulls_up_to : Cal P w K mg base "pulls_up_to" 4 ["answers", "weights", "row"] f_pulls_up_to) (c_is_below : Cal P w K mg base "is_below" 1 ["x", "y"] f_is_below) (c_rises_behind : Cal P w K mg base "rises_behind" 1 ["row", "place"] f_rises_behind) (k_ZERO : Con K mg "ZERO" q_ZERO) (z_len : mg "len" = none) (z_range : mg "range" = none) :
    Cal P w K mg base "judge_rising" 5 ["answers", "weights", "row"] (runB 6 (m_judge_rising f_is_fraction f_is_rising f_pulls_up_to f_is_below f_rises_behind)) :=
  cal_mk (k := 4) F sc_judge_rising gx (fun _ _ _ _ _ _ us hl => match us, hl with | [_, _, _], _ => rfl) fun cdv A outer s H E hr tk hp =>
    (sx_cons (sx_if (et_cmp (m_ne hr.units) (ex_callB c_len (by rfl) z_len bt_len (ea_cons (xv 2) ea_nil)) (ex_callB c_len (by rfl) z_len bt_len (ea_cons (xv 0) ea_nil)) (nomark _)) (sx_one (sx_ret ex_bl)) sx_nil)
    (sx_cons (sx_for hp (by rfl) (ei_ex (xv 2)) (eg_name sc_judge_rising.nd) (sx_one (sx_if (et_not (et_val (ex_c1 c_is_fraction tk hr (by decide) (ea_cons (xv 3) ea_nil)))) (sx_one (sx_ret ex_bl)) sx_nil)))
    (sx_cons (sx_if (et_not (et_val (ex_c1 c_is_rising tk hr (by decide) (ea_cons (xv 2) ea_nil)))) (sx_one (sx_ret ex_bl)) sx_nil)
    (sx_cons (sx_set sc_judge_rising.nd (ex_c1 c_pulls_up_to tk hr (by decide) (ea_cons (xv 0) (ea_cons (xv 1) (ea_cons (xv 2) ea_nil)))))
    (sx_cons (sx_for hp (by rfl) (ei_range1 (by rfl) z_range (ex_callB c_len (by rfl) z_len bt_len (ea_cons (xv 2) ea_nil))) (eg_name sc_judge_rising.nd) (sx_cons (sx_if (et_val (ex_c1 c_is_below tk hr (by decide) (ea_cons (ex_ix (m_ix hr.units65) (xv 4) (xv 5)) (ea_cons (ex_con k_ZERO) ea_nil)))) (sx_one (sx_ret ex_bl)) sx_nil)
    (sx_one (sx_if (Ew.et (ew_and (et_val (ex_c1 c_rises_behind tk hr (by decide) (ea_cons (xv 2) (ea_cons (xv 5) ea_nil)))) (ew_and1 (et_cmp (m_ne hr.units) (ex_ix (m_ix hr.units65) (xv 4) (xv 5)) (ex_con k_ZERO) (nomark _))))) (sx_one (sx_ret ex_bl)) sx_nil))))
    (sx_one (sx_ret ex_bl)))))))
def N_square_distance : List PySem.Str := ["weights", "row", "other", "found", "weight", "mine", "theirs"]
theorem sc_square_distance : FnScope N_square_distance ["weights", "row", "other"] (defScope s_square_distance) := ⟨rfl, rfl, rfl, by decide +kernel, rfl, by decide +kernel, by decide +kernel⟩
def m_square_distance (f_plus : FM) (f_height_at : FM) : SM := (sSeq (sSet 3 (eC q_ZERO))
    (sSeq (sFor (iZip3 (eVar 0) (eVar 1) (eVar 2)) (gT 3 (gCs 4 (gCs 5 (gCs 6 gNil0)))) (sSet 3 (eCall 2 f_plus (aCons (eVar 3) (aCons (eCall 2 f_height_at (aCons (eTup (aCons (eVar 6) (aCons (eVar 4) aNil))) (aCons (eVar 5) aNil))) aNil)))))
    (sRet (eVar 3))))
theorem ok_square_distance {P : Program} {w : World} {K : PySem.W.Frag} {mg : PySem.Str → Option Value} {base : Heap} {f : Addr} {fd : FuncData} {f_plus f_height_at : FM} (F : FnP K "square_distance" s_square_distance f fd) (gx : mg "square_distance" = some (.ref f)) (c_plus : Cal P w K mg base "plus" 2 ["x", "y"] f_plus) (c_height_at : Cal P w K mg base "height_at" 3 ["bowl", "fraction"] f_height_at) (k_ZERO : Con K mg "ZERO" q_ZERO) (z_zip : mg "zip" = none) :
    Cal P w K mg base "square_distance" 4 ["weights", "row", "other"] (runB 7 (m_square_distance f_plus f_height_at)) :=
  cal_mk (k := 3) F sc_square_distance gx (fun _ _ _ _ _ _ us hl => match us, hl with | [_, _, _], _ => rfl) fun cdv A outer s H E hr tk hp =>
    (sx_cons (sx_set sc_square_distance.nd (ex_con k_ZERO))
    (sx_cons (sx_for hp (by rfl) (ei_zip3 (by rfl) z_zip (xv 0) (xv 1) (xv 2)) (eg_tup (by rfl) (egs_cons sc_square_distance.nd (egs_cons sc_square_distance.nd (egs_cons sc_square_distance.nd egs_nil)))) (sx_one (sx_set sc_square_distance.nd (ex_c1 c_plus tk hr (by decide) (ea_cons (xv 3) (ea_cons (ex_c1 c_height_at tk hr (by decide) (ea_cons (ex_tup (ea_cons (xv 6) (ea_cons (xv 4) ea_nil))) (ea_cons (xv 5) ea_nil))) ea_nil))))))
    (sx_one (sx_ret (xv 3)))))
def N__law_begin : List PySem.Str := ["script", "cell"]
theorem sc__law_begin : FnScope N__law_begin ["script"] (defScope s__law_begin) := ⟨rfl, rfl, rfl, by decide +kernel, rfl, by decide +kernel, by decide +kernel⟩
def m__law_begin : SM := (sRet (eLst (aCons (eEl (lComp [1] (iEx (eVar 0)) (gN 1) tYes (eCB fInt (aCons (eVar 1) aNil)))) (aCons (eC (.int 0)) (aCons (eC (.int 0)) (aCons (eC (.int 7)) aNil))))))
theorem ok__law_begin {P : Program} {w : World} {K : PySem.W.Frag} {mg : PySem.Str → Option Value} {base : Heap} {f : Addr} {fd : FuncData} (F : FnP K "_law_begin" s__law_begin f fd) (gx : mg "_law_begin" = some (.ref f)) (z_int : mg "int" = none) :
    Cal P w K mg base "_law_begin" 1 ["script"] (runB 2 (m__law_begin)) :=
  cal_mk (k := 0) F sc__law_begin gx (fun _ _ _ _ _ _ us hl => match us, hl with | [_], _ => rfl) fun cdv A outer s H E hr tk hp =>
    (sx_one (sx_ret (ex_lst (ea_cons (ex_el (el_comp (own := [(("cell" : PySem.Str), 1)]) (by rfl) sc__law_begin.nd (ei_ex (xv 0)) (blkOk_by (N := N__law_begin) (sc := (defScope s__law_begin)) (by decide +kernel)) (fun _ _ _ _ _ => (eg_name sc__law_begin.nd)) (fun _ _ _ _ _ => ets_nil) (fun _ _ _ _ _ => (ex_callT c_int (by rfl) z_int bt_int (ea_cons (xv 1) ea_nil))))) (ea_cons ex_int (ea_cons ex_int (ea_cons ex_int ea_nil)))))))
def N__law_draw : List PySem.Str := ["d", "many", "found", "size", "cell"]
theorem sc__law_draw : FnScope N__law_draw ["d", "many"] (defScope s__law_draw) := ⟨rfl, rfl, rfl, by decide +kernel, rfl, by decide +kernel, by decide +kernel⟩
def m__law_draw : SM := (sSeq (sIf (tBl (eBin oGt (eBin oIx (eVar 0) (eC (.int 2))) (eC (.int 0)))) (sSeq (sSet 2 (eBin oIx (eVar 0) (eC (.int 2))))
    (sSeq (sSub (eVar 0) (eC (.int 2)) (eBin oDiv (eVar 2) (eVar 1)))
    (sRet (eBin oMod (eCB fInt (aCons (eVar 2) aNil)) (eVar 1))))) sNil)
    (sSeq (sSet 3 (eC (.int 0)))
    (sSeq (sIf (tBl (eBin oLt (eBin oIx (eVar 0) (eC (.int 1))) (eCB fLen (aCons (eBin oIx (eVar 0) (eC (.int 0))) aNil)))) (sSeq (sSet 4 (eBin oIx (eBin oIx (eVar 0) (eC (.int 0))) (eBin oIx (eVar 0) (eC (.int 1)))))
    (sSet 3 (eBin oAdd (eBin oMul (eC (.int 2)) (eCB fAbs (aCons (eVar 4) aNil))) (eCB fInt (aCons (eBin oLt (eVar 4) (eC (.int 0))) aNil))))) sNil)
    (sSeq (sAugS oIAdd (eVar 0) (eC (.int 1)) (eC (.int 1)))
    (sSeq (sIf (tBl (eBin oGe (eVar 3) (eBin oMul (eC (.int 2)) (eBin oPow (eC (.int 10)) (eC (.int 18)))))) (sSeq (sSet 2 (eBin oMod (eCB fInt (aCons (eBin oDiv (eVar 3) (eC (.int 2))) aNil)) (eBin oShl (eC (.int 1)) (eC (.int 6000)))))
    (sSeq (sSub (eVar 0) (eC (.int 2)) (eBin oDiv (eVar 2) (eVar 1)))
    (sRet (eBin oMod (eCB fInt (aCons (eVar 2) aNil)) (eVar 1))))) sNil)
    (sSeq (sSub (eVar 0) (eC (.int 3)) (eBin oMod (eCB fInt (aCons (eBin oAdd (eBin oAdd (eBin oAdd (eBin oMul (eBin oIx (eVar 0) (eC (.int 3))) (eC (.int 48271))) (eBin oMul (eBin oMod (eCB fInt (aCons (eVar 3) aNil)) (eC (.int 2147483629))) (eC (.int 16807)))) (eBin oMul (eBin oIx (eVar 0) (eC (.int 1))) (eC (.int 69621)))) (eC (.int 11))) aNil)) (eC (.int 2147483647))))
    (sRet (eBin oMod (eCB fInt (aCons (eBin oDiv (eBin oIx (eVar 0) (eC (.int 3))) (eC (.int 16))) aNil)) (eVar 1)))))))))
theorem ok__law_draw {P : Program} {w : World} {K : PySem.W.Frag} {mg : PySem.Str → Option Value} {base : Heap} {f : Addr} {fd : FuncData} (F : FnP K "_law_draw" s__law_draw f fd) (gx : mg "_law_draw" = some (.ref f)) (z_int : mg "int" = none) (z_len : mg "len" = none) (z_abs : mg "abs" = none) :
    Cal P w K mg base "_law_draw" 1 ["d", "many"] (runB 5 (m__law_draw)) :=
  cal_mk (k := 0) F sc__law_draw gx (fun _ _ _ _ _ _ us hl => match us, hl with | [_, _], _ => rfl) fun cdv A outer s H E hr tk hp =>
    (sx_cons (sx_if (et_cmp m_gt (ex_ix (m_ix hr.units65) (xv 0) ex_int) ex_int (nomark _)) (sx_cons (sx_set sc__law_draw.nd (ex_ix (m_ix hr.units65) (xv 0) ex_int))
    (sx_cons (sx_sub hr.units65 (ex_op m_div (xv 2) (xv 1)) (xv 0) ex_int)
    (sx_one (sx_ret (ex_op m_mod (ex_callT c_int (by rfl) z_int bt_int (ea_cons (xv 2) ea_nil)) (xv 1)))))) sx_nil)
    (sx_cons (sx_set sc__law_draw.nd ex_int)
    (sx_cons (sx_if (et_cmp (m_lt hr.units65) (ex_ix (m_ix hr.units65) (xv 0) ex_int) (ex_callB c_len (by rfl) z_len bt_len (ea_cons (ex_ix (m_ix hr.units65) (xv 0) ex_int) ea_nil)) (nomark _)) (sx_cons (sx_set sc__law_draw.nd (ex_ix (m_ix hr.units65) (ex_ix (m_ix hr.units65) (xv 0) ex_int) (ex_ix (m_ix hr.units65) (xv 0) ex_int)))
    (sx_one (sx_set sc__law_draw.nd (ex_op m_add (ex_op m_mul ex_int (ex_callB c_abs (by rfl) z_abs bt_abs (ea_cons (xv 4) ea_nil))) (ex_callT c_int (by rfl) z_int bt_int (ea_cons (ex_cmp (m_lt hr.units65) (xv 4) ex_int (nomark _)) ea_nil)))))) sx_nil)
    (sx_cons (sx_augS hr.units65 (xv 0) ex_int ex_int mi_add)
    (sx_cons (sx_if (et_cmp m_ge (xv 3) (ex_op m_mul ex_int (ex_op m_pow ex_int ex_int)) (nomark _)) (sx_cons (sx_set sc__law_draw.nd (ex_op m_mod (ex_callT c_int (by rfl) z_int bt_int (ea_cons (ex_op m_div (xv 3) ex_int) ea_nil)) (ex_op m_shl ex_int ex_int)))
    (sx_cons (sx_sub hr.units65 (ex_op m_div (xv 2) (xv 1)) (xv 0) ex_int)
    (sx_one (sx_ret (ex_op m_mod (ex_callT c_int (by rfl) z_int bt_int (ea_cons (xv 2) ea_nil)) (xv 1)))))) sx_nil)
    (sx_cons (sx_sub hr.units65 (ex_op m_mod (ex_callT c_int (by rfl) z_int bt_int (ea_cons (ex_op m_add (ex_op m_add (ex_op m_add (ex_op m_mul (ex_ix (m_ix hr.units65) (xv 0) ex_int) ex_int) (ex_op m_mul (ex_op m_mod (ex_callT c_int (by rfl) z_int bt_int (ea_cons (xv 3) ea_nil)) ex_int) ex_int)) (ex_op m_mul (ex_ix (m_ix hr.units65) (xv 0) ex_int) ex_int)) ex_int) ea_nil)) ex_int) (xv 0) ex_int)
    (sx_one (sx_ret (ex_op m_mod (ex_callT c_int (by rfl) z_int bt_int (ea_cons (ex_op m_div (ex_ix (m_ix hr.units65) (xv 0) ex_int) ex_int) ea_nil)) (xv 1))))))))))
def N__law_rare : List PySem.Str := ["d", "many"]
theorem sc__law_rare : FnScope N__law_rare ["d", "many"] (defScope s__law_rare) := ⟨rfl, rfl, rfl, by decide +kernel, rfl, by decide +kernel, by decide +kernel⟩
def m__law_rare (f__law_draw : FM) : SM := (sRet (eBin oEq (eCall 2 f__law_draw (aCons (eVar 0) (aCons (eVar 1) aNil))) (eBin oDiv (eVar 1) (eC (.int 2)))))
theorem ok__law_rare {P : Program} {w : World} {K : PySem.W.Frag} {mg : PySem.Str → Option Value} {base : Heap} {f : Addr} {fd : FuncData} {f__law_draw : FM} (F : FnP K "_law_rare" s__law_rare f fd) (gx : mg "_law_rare" = some (.ref f)) (c__law_draw : Cal P w K mg base "_law_draw" 1 ["d", "many"] f__law_draw) :
    Cal P w K mg base "_law_rare" 2 ["d", "many"] (runB 2 (m__law_rare f__law_draw)) :=
  cal_mk (k := 1) F sc__law_rare gx (fun _ _ _ _ _ _ us hl => match us, hl with | [_, _], _ => rfl) fun cdv A outer s H E hr tk hp =>
    (sx_one (sx_ret (ex_cmp (m_eq hr.units) (ex_c1 c__law_draw tk hr (by decide) (ea_cons (xv 0) (ea_cons (xv 1) ea_nil))) (ex_op m_div (xv 1) ex_int) (nomark _))))
def N__law_is_int : List PySem.Str := ["thing"]
theorem sc__law_is_int : FnScope N__law_is_int ["thing"] (defScope s__law_is_int) := ⟨rfl, rfl, rfl, by decide +kernel, rfl, by decide +kernel, by decide +kernel⟩
def m__law_is_int : SM := (sRet (eAnd (eCB fIsi (aCons (eVar 0) (aCons (eC (.ty "int")) aNil))) (eNot (eCB fIsi (aCons (eVar 0) (aCons (eC (.ty "bool")) aNil))))))
theorem ok__law_is_int {P : Program} {w : World} {K : PySem.W.Frag} {mg : PySem.Str → Option Value} {base : Heap} {f : Addr} {fd : FuncData} (F : FnP K "_law_is_int" s__law_is_int f fd) (gx : mg "_law_is_int" = some (.ref f)) (z_int : mg "int" = none) (z_isinstance : mg "isinstance" = none) (z_bool : mg "bool" = none) :
    Cal P w K mg base "_law_is_int" 1 ["thing"] (runB 1 (m__law_is_int)) :=
  cal_mk (k := 0) F sc__law_is_int gx (fun _ _ _ _ _ _ us hl => match us, hl with | [_], _ => rfl) fun cdv A outer s H E hr tk hp =>
    (sx_one (sx_ret (ex_and (ex_callB c_isi (by rfl) z_isinstance bt_isinstance (ea_cons (xv 0) (ea_cons (ex_bltn (by rfl) z_int bt_int (by rfl) (fun _ _ => .ty _)) ea_nil))) (ex_one (ex_not (ex_callB c_isi (by rfl) z_isinstance bt_isinstance (ea_cons (xv 0) (ea_cons (ex_bltn (by rfl) z_bool bt_bool (by rfl) (fun _ _ => .ty _)) ea_nil))))))))
def N__law_gcd : List PySem.Str := ["left", "right", "a", "b", "c"]
theorem sc__law_gcd : FnScope N__law_gcd ["left", "right"] (defScope s__law_gcd) := ⟨rfl, rfl, rfl, by decide +kernel, rfl, by decide +kernel, by decide +kernel⟩
def m__law_gcd : SM := (sSeq (sSet 2 (eCB fAbs (aCons (eVar 0) aNil)))
    (sSeq (sSet 3 (eCB fAbs (aCons (eVar 1) aNil)))
    (sSeq (whileN (tBl (eBin oGt (eVar 3) (eC (.int 0)))) (sSeq (sSet 4 (eBin oMod (eCB fInt (aCons (eVar 2) aNil)) (eVar 3)))
    (sSeq (sSet 2 (eVar 3))
    (sSet 3 (eVar 4)))) big)
    (sRet (eVar 2)))))
theorem ok__law_gcd {P : Program} {w : World} {K : PySem.W.Frag} {mg : PySem.Str → Option Value} {base : Heap} {f : Addr} {fd : FuncData} (F : FnP K "_law_gcd" s__law_gcd f fd) (gx : mg "_law_gcd" = some (.ref f)) (z_abs : mg "abs" = none) (z_int : mg "int" = none) :
    Cal P w K mg base "_law_gcd" 1 ["left", "right"] (runB 5 (m__law_gcd)) :=
  cal_mk (k := 0) F sc__law_gcd gx (fun _ _ _ _ _ _ us hl => match us, hl with | [_, _], _ => rfl) fun cdv A outer s H E hr tk hp =>
    (sx_cons (sx_set sc__law_gcd.nd (ex_callB c_abs (by rfl) z_abs bt_abs (ea_cons (xv 0) ea_nil)))
    (sx_cons (sx_set sc__law_gcd.nd (ex_callB c_abs (by rfl) z_abs bt_abs (ea_cons (xv 1) ea_nil)))
    (sx_cons (sx_while big hp (et_cmp m_gt (xv 3) ex_int (nomark _)) (sx_cons (sx_set sc__law_gcd.nd (ex_op m_mod (ex_callT c_int (by rfl) z_int bt_int (ea_cons (xv 2) ea_nil)) (xv 3)))
    (sx_cons (sx_set sc__law_gcd.nd (xv 3))
    (sx_one (sx_set sc__law_gcd.nd (xv 4))))))
    (sx_one (sx_ret (xv 2))))))
def N__law_f : List PySem.Str := ["n", "d", "common"]
theorem sc__law_f : FnScope N__law_f ["n", "d"] (defScope s__law_f) := ⟨rfl, rfl, rfl, by decide +kernel, rfl, by decide +kernel, by decide +kernel⟩
def m__law_f (f__law_gcd : FM) : SM := (sSeq (sSet 2 (eCall 2 f__law_gcd (aCons (eVar 0) (aCons (eVar 1) aNil))))
    (sSeq (sIf (tBl (eBin oLt (eVar 1) (eC (.int 0)))) (sSet 2 (eUn oNeg (eVar 2))) sNil)
    (sRet (eTup (aCons (eBin oDiv (eVar 0) (eVar 2)) (aCons (eBin oDiv (eVar 1) (eVar 2)) aNil))))))
theorem ok__law_f {P : Program} {w : World} {K : PySem.W.Frag} {mg : PySem.Str → Option Value} {base : Heap} {f : Addr} {fd : FuncData} {f__law_gcd : FM} (F : FnP K "_law_f" s__law_f f fd) (gx : mg "_law_f" = some (.ref f)) (c__law_gcd : Cal P w K mg base "_law_gcd" 1 ["left", "right"] f__law_gcd) :
    Cal P w K mg base "_law_f" 2 ["n", "d"] (runB 3 (m__law_f f__law_gcd)) :=
  cal_mk (k := 1) F sc__law_f gx (fun _ _ _ _ _ _ us hl => match us, hl with | [_, _], _ => rfl) fun cdv A outer s H E hr tk hp =>
    (sx_cons (sx_set sc__law_f.nd (ex_c1 c__law_gcd tk hr (by decide) (ea_cons (xv 0) (ea_cons (xv 1) ea_nil))))
    (sx_cons (sx_if (et_cmp (m_lt hr.units65) (xv 1) ex_int (nomark _)) (sx_one (sx_set sc__law_f.nd (ex_un m_neg (xv 2)))) sx_nil)
    (sx_one (sx_ret (ex_tup (ea_cons (ex_op m_div (xv 0) (xv 2)) (ea_cons (ex_op m_div (xv 1) (xv 2)) ea_nil)))))))
def N__law_plus : List PySem.Str := ["x", "y"]
theorem sc__law_plus : FnScope N__law_plus ["x", "y"] (defScope s__law_plus) := ⟨rfl, rfl, rfl, by decide +kernel, rfl, by decide +kernel, by decide +kernel⟩
def m__law_plus (f__law_f : FM) : SM := (sRet (eCall 2 f__law_f (aCons (eBin oAdd (eBin oMul (eBin oIx (eVar 0) (eC (.int 0))) (eBin oIx (eVar 1) (eC (.int 1)))) (eBin oMul (eBin oIx (eVar 1) (eC (.int 0))) (eBin oIx (eVar 0) (eC (.int 1))))) (aCons (eBin oMul (eBin oIx (eVar 0) (eC (.int 1))) (eBin oIx (eVar 1) (eC (.int 1)))) aNil))))
theorem ok__law_plus {P : Program} {w : World} {K : PySem.W.Frag} {mg : PySem.Str → Option Value} {base : Heap} {f : Addr} {fd : FuncData} {f__law_f : FM} (F : FnP K "_law_plus" s__law_plus f fd) (gx : mg "_law_plus" = some (.ref f)) (c__law_f : Cal P w K mg base "_law_f" 2 ["n", "d"] f__law_f) :
    Cal P w K mg base "_law_plus" 3 ["x", "y"] (runB 2 (m__law_plus f__law_f)) :=
  cal_mk (k := 2) F sc__law_plus gx (fun _ _ _ _ _ _ us hl => match us, hl with | [_, _], _ => rfl) fun cdv A outer s H E hr tk hp =>
    (sx_one (sx_ret (ex_c1 c__law_f tk hr (by decide) (ea_cons (ex_op m_add (ex_op m_mul (ex_ix (m_ix hr.units65) (xv 0) ex_int) (ex_ix (m_ix hr.units65) (xv 1) ex_int)) (ex_op m_mul (ex_ix (m_ix hr.units65) (xv 1) ex_int) (ex_ix (m_ix hr.units65) (xv 0) ex_int))) (ea_cons (ex_op m_mul (ex_ix (m_ix hr.units65) (xv 0) ex_int) (ex_ix (m_ix hr.units65) (xv 1) ex_int)) ea_nil)))))
def N__law_minus : List PySem.Str := ["x", "y"]
theorem sc__law_minus : FnScope N__law_minus ["x", "y"] (defScope s__law_minus) := ⟨rfl, rfl, rfl, by decide +kernel, rfl, by decide +kernel, by decide +kernel⟩
def m__law_minus (f__law_f : FM) : SM := (sRet (eCall 2 f__law_f (aCons (eBin oSub (eBin oMul (eBin oIx (eVar 0) (eC (.int 0))) (eBin oIx (eVar 1) (eC (.int 1)))) (eBin oMul (eBin oIx (eVar 1) (eC (.int 0))) (eBin oIx (eVar 0) (eC (.int 1))))) (aCons (eBin oMul (eBin oIx (eVar 0) (eC (.int 1))) (eBin oIx (eVar 1) (eC (.int 1)))) aNil))))
theorem ok__law_minus {P : Program} {w : World} {K : PySem.W.Frag} {mg : PySem.Str → Option Value} {base : Heap} {f : Addr} {fd : FuncData} {f__law_f : FM} (F : FnP K "_law_minus" s__law_minus f fd) (gx : mg "_law_minus" = some (.ref f)) (c__law_f : Cal P w K mg base "_law_f" 2 ["n", "d"] f__law_f) :
    Cal P w K mg base "_law_minus" 3 ["x", "y"] (runB 2 (m__law_minus f__law_f)) :=
  cal_mk (k := 2) F sc__law_minus gx (fun _ _ _ _ _ _ us hl => match us, hl with | [_, _], _ => rfl) fun cdv A outer s H E hr tk hp =>
    (sx_one (sx_ret (ex_c1 c__law_f tk hr (by decide) (ea_cons (ex_op m_sub (ex_op m_mul (ex_ix (m_ix hr.units65) (xv 0) ex_int) (ex_ix (m_ix hr.units65) (xv 1) ex_int)) (ex_op m_mul (ex_ix (m_ix hr.units65) (xv 1) ex_int) (ex_ix (m_ix hr.units65) (xv 0) ex_int))) (ea_cons (ex_op m_mul (ex_ix (m_ix hr.units65) (xv 0) ex_int) (ex_ix (m_ix hr.units65) (xv 1) ex_int)) ea_nil)))))
def N__law_times : List PySem.Str := ["x", "y"]
theorem sc__law_times : FnScope N__law_times ["x", "y"] (defScope s__law_times) := ⟨rfl, rfl, rfl, by decide +kernel, rfl, by decide +kernel, by decide +kernel⟩
def m__law_times (f__law_f : FM) : SM := (sRet (eCall 2 f__law_f (aCons (eBin oMul (eBin oIx (eVar 0) (eC (.int 0))) (eBin oIx (eVar 1) (eC (.int 0)))) (aCons (eBin oMul (eBin oIx (eVar 0) (eC (.int 1))) (eBin oIx (eVar 1) (eC (.int 1)))) aNil))))
theorem ok__law_times {P : Program} {w : World} {K : PySem.W.Frag} {mg : PySem.Str → Option Value} {base : Heap} {f : Addr} {fd : FuncData} {f__law_f : FM} (F : FnP K "_law_times" s__law_times f fd) (gx : mg "_law_times" = some (.ref f)) (c__law_f : Cal P w K mg base "_law_f" 2 ["n", "d"] f__law_f) :
    Cal P w K mg base "_law_times" 3 ["x", "y"] (runB 2 (m__law_times f__law_f)) :=
  cal_mk (k := 2) F sc__law_times gx (fun _ _ _ _ _ _ us hl => match us, hl with | [_, _], _ => rfl) fun cdv A outer s H E hr tk hp =>
    (sx_one (sx_ret (ex_c1 c__law_f tk hr (by decide) (ea_cons (ex_op m_mul (ex_ix (m_ix hr.units65) (xv 0) ex_int) (ex_ix (m_ix hr.units65) (xv 1) ex_int)) (ea_cons (ex_op m_mul (ex_ix (m_ix hr.units65) (xv 0) ex_int) (ex_ix (m_ix hr.units65) (xv 1) ex_int)) ea_nil)))))
def N__law_over : List PySem.Str := ["x", "y"]
theorem sc__law_over : FnScope N__law_over ["x", "y"] (defScope s__law_over) := ⟨rfl, rfl, rfl, by decide +kernel, rfl, by decide +kernel, by decide +kernel⟩
def m__law_over (f__law_f : FM) : SM := (sRet (eCall 2 f__law_f (aCons (eBin oMul (eBin oIx (eVar 0) (eC (.int 0))) (eBin oIx (eVar 1) (eC (.int 1)))) (aCons (eBin oMul (eBin oIx (eVar 0) (eC (.int 1))) (eBin oIx (eVar 1) (eC (.int 0)))) aNil))))
theorem ok__law_over {P : Program} {w : World} {K : PySem.W.Frag} {mg : PySem.Str → Option Value} {base : Heap} {f : Addr} {fd : FuncData} {f__law_f : FM} (F : FnP K "_law_over" s__law_over f fd) (gx : mg "_law_over" = some (.ref f)) (c__law_f : Cal P w K mg base "_law_f" 2 ["n", "d"] f__law_f) :
    Cal P w K mg base "_law_over" 3 ["x", "y"] (runB 2 (m__law_over f__law_f)) :=
  cal_mk (k := 2) F sc__law_over gx (fun _ _ _ _ _ _ us hl => match us, hl with | [_, _], _ => rfl) fun cdv A outer s H E hr tk hp =>
    (sx_one (sx_ret (ex_c1 c__law_f tk hr (by decide) (ea_cons (ex_op m_mul (ex_ix (m_ix hr.units65) (xv 0) ex_int) (ex_ix (m_ix hr.units65) (xv 1) ex_int)) (ea_cons (ex_op m_mul (ex_ix (m_ix hr.units65) (xv 0) ex_int) (ex_ix (m_ix hr.units65) (xv 1) ex_int)) ea_nil)))))
def N__law_less : List PySem.Str := ["x", "y"]
theorem sc__law_less : FnScope N__law_less ["x", "y"] (defScope s__law_less) := ⟨rfl, rfl, rfl, by decide +kernel, rfl, by decide +kernel, by decide +kernel⟩
def m__law_less : SM := (sRet (eBin oLt (eBin oMul (eBin oIx (eVar 0) (eC (.int 0))) (eBin oIx (eVar 1) (eC (.int 1)))) (eBin oMul (eBin oIx (eVar 1) (eC (.int 0))) (eBin oIx (eVar 0) (eC (.int 1))))))
theorem ok__law_less {P : Program} {w : World} {K : PySem.W.Frag} {mg : PySem.Str → Option Value} {base : Heap} {f : Addr} {fd : FuncData} (F : FnP K "_law_less" s__law_less f fd) (gx : mg "_law_less" = some (.ref f))  :
    Cal P w K mg base "_law_less" 1 ["x", "y"] (runB 2 (m__law_less)) :=
  cal_mk (k := 0) F sc__law_less gx (fun _ _ _ _ _ _ us hl => match us, hl with | [_, _], _ => rfl) fun cdv A outer s H E hr tk hp =>
    (sx_one (sx_ret (ex_cmp (m_lt hr.units65) (ex_op m_mul (ex_ix (m_ix hr.units65) (xv 0) ex_int) (ex_ix (m_ix hr.units65) (xv 1) ex_int)) (ex_op m_mul (ex_ix (m_ix hr.units65) (xv 1) ex_int) (ex_ix (m_ix hr.units65) (xv 0) ex_int)) (nomark _))))
def N__law_is_frac : List PySem.Str := ["thing"]
theorem sc__law_is_frac : FnScope N__law_is_frac ["thing"] (defScope s__law_is_frac) := ⟨rfl, rfl, rfl, by decide +kernel, rfl, by decide +kernel, by decide +kernel⟩
def m__law_is_frac (f__law_is_int : FM) (f__law_gcd : FM) : SM := (sSeq (sIf (tOr (HM.tNot (tVal (eCB fIsi (aCons (eVar 0) (aCons (eC (.ty "tuple")) aNil))))) (tBl (eBin oNe (eCB fLen (aCons (eVar 0) aNil)) (eC (.int 2))))) (sRet (eC (.bl false))) sNil)
    (sSeq (sIf (tOr (HM.tNot (tVal (eCall 1 f__law_is_int (aCons (eBin oIx (eVar 0) (eC (.int 0))) aNil)))) (HM.tNot (tVal (eCall 1 f__law_is_int (aCons (eBin oIx (eVar 0) (eC (.int 1))) aNil))))) (sRet (eC (.bl false))) sNil)
    (sRet (eAnd (eBin oGe (eBin oIx (eVar 0) (eC (.int 1))) (eC (.int 1))) (eBin oEq (eCall 2 f__law_gcd (aCons (eBin oIx (eVar 0) (eC (.int 0))) (aCons (eBin oIx (eVar 0) (eC (.int 1))) aNil))) (eC (.int 1)))))))
theorem ok__law_is_frac {P : Program} {w : World} {K : PySem.W.Frag} {mg : PySem.Str → Option Value} {base : Heap} {f : Addr} {fd : FuncData} {f__law_is_int f__law_gcd : FM} (F : FnP K "_law_is_frac" s__law_is_frac f fd) (gx : mg "_law_is_frac" = some (.ref f)) (c__law_is_int : Cal P w K mg base "_law_is_int" 1 ["thing"] f__law_is_int) (c__law_gcd : Cal P w K mg base "_law_gcd" 1 ["left", "right"] f__law_gcd) (z_tuple : mg "tuple" = none) (z_isinstance : mg "isinstance" = none) (z_len : mg "len" = none) :
    Cal P w K mg base "_law_is_frac" 2 ["thing"] (runB 1 (m__law_is_frac f__law_is_int f__law_gcd)) :=
  cal_mk (k := 1) F sc__law_is_frac gx (fun _ _ _ _ _ _ us hl => match us, hl with | [_], _ => rfl) fun cdv A outer s H E hr tk hp =>
    (sx_cons (sx_if (Ew.et (ew_or (et_not (et_val (ex_callB c_isi (by rfl) z_isinstance bt_isinstance (ea_cons (xv 0) (ea_cons (ex_bltn (by rfl) z_tuple bt_tuple (by rfl) (fun _ _ => .ty _)) ea_nil))))) (ew_or1 (et_cmp (m_ne hr.units) (ex_callB c_len (by rfl) z_len bt_len (ea_cons (xv 0) ea_nil)) ex_int (nomark _))))) (sx_one (sx_ret ex_bl)) sx_nil)
    (sx_cons (sx_if (Ew.et (ew_or (et_not (et_val (ex_c1 c__law_is_int tk hr (by decide) (ea_cons (ex_ix (m_ix hr.units65) (xv 0) ex_int) ea_nil)))) (ew_or1 (et_not (et_val (ex_c1 c__law_is_int tk hr (by decide) (ea_cons (ex_ix (m_ix hr.units65) (xv 0) ex_int) ea_nil))))))) (sx_one (sx_ret ex_bl)) sx_nil)
    (sx_one (sx_ret (ex_and (ex_cmp m_ge (ex_ix (m_ix hr.units65) (xv 0) ex_int) ex_int (nomark _)) (ex_one (ex_cmp (m_eq hr.units) (ex_c1 c__law_gcd tk hr (by decide) (ea_cons (ex_ix (m_ix hr.units65) (xv 0) ex_int) (ea_cons (ex_ix (m_ix hr.units65) (xv 0) ex_int) ea_nil))) ex_int (nomark _))))))))
def N__law_signed : List PySem.Str := ["d"]
theorem sc__law_signed : FnScope N__law_signed ["d"] (defScope s__law_signed) := ⟨rfl, rfl, rfl, by decide +kernel, rfl, by decide +kernel, by decide +kernel⟩
def m__law_signed (f__law_draw : FM) (f__law_f : FM) : SM := (sSeq (sIf (tBl (eBin oEq (eCall 2 f__law_draw (aCons (eVar 0) (aCons (eC (.int 7)) aNil))) (eC (.int 3)))) (sRet (eTup (aCons (eC (.int 0)) (aCons (eC (.int 1)) aNil)))) sNil)
    (sRet (eCall 2 f__law_f (aCons (eBin oSub (eCall 2 f__law_draw (aCons (eVar 0) (aCons (eC (.int 19)) aNil))) (eC (.int 9))) (aCons (eBin oAdd (eC (.int 1)) (eCall 2 f__law_draw (aCons (eVar 0) (aCons (eC (.int 4)) aNil)))) aNil)))))
theorem ok__law_signed {P : Program} {w : World} {K : PySem.W.Frag} {mg : PySem.Str → Option Value} {base : Heap} {f : Addr} {fd : FuncData} {f__law_draw f__law_f : FM} (F : FnP K "_law_signed" s__law_signed f fd) (gx : mg "_law_signed" = some (.ref f)) (c__law_draw : Cal P w K mg base "_law_draw" 1 ["d", "many"] f__law_draw) (c__law_f : Cal P w K mg base "_law_f" 2 ["n", "d"] f__law_f) :
    Cal P w K mg base "_law_signed" 3 ["d"] (runB 1 (m__law_signed f__law_draw f__law_f)) :=
  cal_mk (k := 2) F sc__law_signed gx (fun _ _ _ _ _ _ us hl => match us, hl with | [_], _ => rfl) fun cdv A outer s H E hr tk hp =>
    (sx_cons (sx_if (et_cmp (m_eq hr.units) (ex_c1 c__law_draw tk hr (by decide) (ea_cons (xv 0) (ea_cons ex_int ea_nil))) ex_int (nomark _)) (sx_one (sx_ret (ex_tup (ea_cons ex_int (ea_cons ex_int ea_nil))))) sx_nil)
    (sx_one (sx_ret (ex_c1 c__law_f tk hr (by decide) (ea_cons (ex_op m_sub (ex_c1 c__law_draw tk hr (by decide) (ea_cons (xv 0) (ea_cons ex_int ea_nil))) ex_int) (ea_cons (ex_op m_add ex_int (ex_c1 c__law_draw tk hr (by decide) (ea_cons (xv 0) (ea_cons ex_int ea_nil)))) ea_nil))))))
def N__law_up : List PySem.Str := ["d"]
theorem sc__law_up : FnScope N__law_up ["d"] (defScope s__law_up) := ⟨rfl, rfl, rfl, by decide +kernel, rfl, by decide +kernel, by decide +kernel⟩
def m__law_up (f__law_f : FM) (f__law_draw : FM) : SM := (sRet (eCall 2 f__law_f (aCons (eBin oAdd (eC (.int 1)) (eCall 2 f__law_draw (aCons (eVar 0) (aCons (eC (.int 5)) aNil)))) (aCons (eBin oAdd (eC (.int 1)) (eCall 2 f__law_draw (aCons (eVar 0) (aCons (eC (.int 4)) aNil)))) aNil))))
theorem ok__law_up {P : Program} {w : World} {K : PySem.W.Frag} {mg : PySem.Str → Option Value} {base : Heap} {f : Addr} {fd : FuncData} {f__law_f f__law_draw : FM} (F : FnP K "_law_up" s__law_up f fd) (gx : mg "_law_up" = some (.ref f)) (c__law_f : Cal P w K mg base "_law_f" 2 ["n", "d"] f__law_f) (c__law_draw : Cal P w K mg base "_law_draw" 1 ["d", "many"] f__law_draw) :
    Cal P w K mg base "_law_up" 3 ["d"] (runB 1 (m__law_up f__law_f f__law_draw)) :=
  cal_mk (k := 2) F sc__law_up gx (fun _ _ _ _ _ _ us hl => match us, hl with | [_], _ => rfl) fun cdv A outer s H E hr tk hp =>
    (sx_one (sx_ret (ex_c1 c__law_f tk hr (by decide) (ea_cons (ex_op m_add ex_int (ex_c1 c__law_draw tk hr (by decide) (ea_cons (xv 0) (ea_cons ex_int ea_nil)))) (ea_cons (ex_op m_add ex_int (ex_c1 c__law_draw tk hr (by decide) (ea_cons (xv 0) (ea_cons ex_int ea_nil)))) ea_nil)))))
def N__law_step : List PySem.Str := ["d"]
theorem sc__law_step : FnScope N__law_step ["d"] (defScope s__law_step) := ⟨rfl, rfl, rfl, by decide +kernel, rfl, by decide +kernel, by decide +kernel⟩
def m__law_step (f__law_draw : FM) (f__law_up : FM) (f__law_minus : FM) : SM := (sSeq (sIf (tBl (eBin oEq (eCall 2 f__law_draw (aCons (eVar 0) (aCons (eC (.int 2)) aNil))) (eC (.int 1)))) (sRet (eCall 1 f__law_up (aCons (eVar 0) aNil))) sNil)
    (sRet (eCall 2 f__law_minus (aCons (eTup (aCons (eC (.int 0)) (aCons (eC (.int 1)) aNil))) (aCons (eCall 1 f__law_up (aCons (eVar 0) aNil)) aNil)))))
theorem ok__law_step {P : Program} {w : World} {K : PySem.W.Frag} {mg : PySem.Str → Option Value} {base : Heap} {f : Addr} {fd : FuncData} {f__law_draw f__law_up f__law_minus : FM} (F : FnP K "_law_step" s__law_step f fd) (gx : mg "_law_step" = some (.ref f)) (c__law_draw : Cal P w K mg base "_law_draw" 1 ["d", "many"] f__law_draw) (c__law_up : Cal P w K mg base "_law_up" 3 ["d"] f__law_up) (c__law_minus : Cal P w K mg base "_law_minus" 3 ["x", "y"] f__law_minus) :
    Cal P w K mg base "_law_step" 4 ["d"] (runB 1 (m__law_step f__law_draw f__law_up f__law_minus)) :=
  cal_mk (k := 3) F sc__law_step gx (fun _ _ _ _ _ _ us hl => match us, hl with | [_], _ => rfl) fun cdv A outer s H E hr tk hp =>
    (sx_cons (sx_if (et_cmp (m_eq hr.units) (ex_c1 c__law_draw tk hr (by decide) (ea_cons (xv 0) (ea_cons ex_int ea_nil))) ex_int (nomark _)) (sx_one (sx_ret (ex_c1 c__law_up tk hr (by decide) (ea_cons (xv 0) ea_nil)))) sx_nil)
    (sx_one (sx_ret (ex_c1 c__law_minus tk hr (by decide) (ea_cons (ex_tup (ea_cons ex_int (ea_cons ex_int ea_nil))) (ea_cons (ex_c1 c__law_up tk hr (by decide) (ea_cons (xv 0) ea_nil)) ea_nil))))))
def N__law_loads : List PySem.Str := ["d", "many", "k"]
theorem sc__law_loads : FnScope N__law_loads ["d", "many"] (defScope s__law_loads) := ⟨rfl, rfl, rfl, by decide +kernel, rfl, by decide +kernel, by decide +kernel⟩
def m__law_loads (f__law_draw : FM) (f__law_f : FM) : SM := (sSeq (sIf (tBl (eBin oEq (eCall 2 f__law_draw (aCons (eVar 0) (aCons (eC (.int 4)) aNil))) (eC (.int 1)))) (sRet (eCS gTuple (lComp [2] (iRg1 (eVar 1)) (gN 2) tYes (eTup (aCons (eC (.int 1)) (aCons (eC (.int 1)) aNil)))))) sNil)
    (sRet (eCS gTuple (lComp [2] (iRg1 (eVar 1)) (gN 2) tYes (eCall 2 f__law_f (aCons (eBin oAdd (eC (.int 1)) (eCall 2 f__law_draw (aCons (eVar 0) (aCons (eC (.int 6)) aNil)))) (aCons (eBin oAdd (eC (.int 1)) (eCall 2 f__law_draw (aCons (eVar 0) (aCons (eC (.int 4)) aNil)))) aNil)))))))
theorem ok__law_loads {P : Program} {w : World} {K : PySem.W.Frag} {mg : PySem.Str → Option Value} {base : Heap} {f : Addr} {fd : FuncData} {f__law_draw f__law_f : FM} (F : FnP K "_law_loads" s__law_loads f fd) (gx : mg "_law_loads" = some (.ref f)) (c__law_draw : Cal P w K mg base "_law_draw" 1 ["d", "many"] f__law_draw) (c__law_f : Cal P w K mg base "_law_f" 2 ["n", "d"] f__law_f) (z_range : mg "range" = none) (z_tuple : mg "tuple" = none) :
    Cal P w K mg base "_law_loads" 3 ["d", "many"] (runB 3 (m__law_loads f__law_draw f__law_f)) :=
  cal_mk (k := 2) F sc__law_loads gx (fun _ _ _ _ _ _ us hl => match us, hl with | [_, _], _ => rfl) fun cdv A outer s H E hr tk hp =>
    (sx_cons (sx_if (et_cmp (m_eq hr.units) (ex_c1 c__law_draw tk hr (by decide) (ea_cons (xv 0) (ea_cons ex_int ea_nil))) ex_int (nomark _)) (sx_one (sx_ret (ex_callTs s_tuple (by rfl) z_tuple bt_tuple (es_el (el_comp (own := [(("k" : PySem.Str), 2)]) (by rfl) sc__law_loads.nd (ei_range1 (by rfl) z_range (xv 1)) (blkOk_by (N := N__law_loads) (sc := (defScope s__law_loads)) (by decide +kernel)) (fun _ _ _ _ _ => (eg_name sc__law_loads.nd)) (fun _ _ _ _ _ => ets_nil) (fun _ _ _ _ _ => (ex_tup (ea_cons ex_int (ea_cons ex_int ea_nil))))))))) sx_nil)
    (sx_one (sx_ret (ex_callTs s_tuple (by rfl) z_tuple bt_tuple (es_el (el_comp (own := [(("k" : PySem.Str), 2)]) (by rfl) sc__law_loads.nd (ei_range1 (by rfl) z_range (xv 1)) (blkOk_by (N := N__law_loads) (sc := (defScope s__law_loads)) (by decide +kernel)) (fun _ _ _ _ _ => (eg_name sc__law_loads.nd)) (fun _ _ _ _ _ => ets_nil) (fun _ _ _ _ _ => (ex_c1 c__law_f tk0 hr (by decide) (ea_cons (ex_op m_add ex_int (ex_c1 c__law_draw tk0 hr (by decide) (ea_cons (xv 0) (ea_cons ex_int ea_nil)))) (ea_cons (ex_op m_add ex_int (ex_c1 c__law_draw tk0 hr (by decide) (ea_cons (xv 0) (ea_cons ex_int ea_nil)))) ea_nil))))))))))
def N__law_stairs : List PySem.Str := ["d", "many", "bad", "found", "k", "step"]
theorem sc__law_stairs : FnScope N__law_stairs ["d", "many", "bad"] (defScope s__law_stairs) := ⟨rfl, rfl, rfl, by decide +kernel, rfl, by decide +kernel, by decide +kernel⟩
def m__law_stairs (f__law_signed : FM) (f__law_draw : FM) (f__law_up : FM) (f__law_minus : FM) (f__law_plus : FM) : SM := (sSeq (sSet 3 (eLst (aCons (eCall 1 f__law_signed (aCons (eVar 0) aNil)) aNil)))
    (sSeq (sFor (iRg2 (eC (.int 1)) (eVar 1)) (gN 4) (sSeq (sSet 5 (eIf (tBl (eBin oEq (eCall 2 f__law_draw (aCons (eVar 0) (aCons (eC (.int 2)) aNil))) (eC (.int 1)))) (eCall 1 f__law_up (aCons (eVar 0) aNil)) (eTup (aCons (eC (.int 0)) (aCons (eC (.int 1)) aNil)))))
    (sSeq (sIf (tBl (eBin oEq (eVar 4) (eVar 2))) (sSet 5 (eCall 2 f__law_minus (aCons (eTup (aCons (eC (.int 0)) (aCons (eC (.int 1)) aNil))) (aCons (eCall 1 f__law_up (aCons (eVar 0) aNil)) aNil)))) sNil)
    (sExpr (eM "list" mAppend (eVar 3) (aCons (eCall 2 f__law_plus (aCons (eBin oIx (eVar 3) (eUn oNeg (eC (.int 1)))) (aCons (eVar 5) aNil))) aNil))))))
    (sRet (eCB fTuple (aCons (eVar 3) aNil)))))
theorem ok__law_stairs {P : Program} {w : World} {K : PySem.W.Frag} {mg : PySem.Str → Option Value} {base : Heap} {f : Addr} {fd : FuncData} {f__law_signed f__law_draw f__law_up f__law_minus f__law_plus : FM} (F : FnP K "_law_stairs" s__law_stairs f fd) (gx : mg "_law_stairs" = some (.ref f)) (c__law_signed : Cal P w K mg base "_law_signed" 3 ["d"] f__law_signed) (c__law_draw : Cal P w K mg base "_law_draw" 1 ["d", "many"] f__law_draw) (c__law_up : Cal P w K mg base "_law_up" 3 ["d"] f__law_up) (c__law_minus : Cal P w K mg base "_law_minus" 3 ["x", "y"] f__law_minus) (c__law_plus : Cal P w K mg base "_law_plus" 3 ["x", "y"] f__law_plus) (z_range : mg "range" = none) (z_tuple : mg "tuple" = none) :
    Cal P w K mg base "_law_stairs" 4 ["d", "many", "bad"] (runB 6 (m__law_stairs f__law_signed f__law_draw f__law_up f__law_minus f__law_plus)) :=
  cal_mk (k := 3) F sc__law_stairs gx (fun _ _ _ _ _ _ us hl => match us, hl with | [_, _, _], _ => rfl) fun cdv A outer s H E hr tk hp =>
    (sx_cons (sx_set sc__law_stairs.nd (ex_lst (ea_cons (ex_c1 c__law_signed tk hr (by decide) (ea_cons (xv 0) ea_nil)) ea_nil)))
    (sx_cons (sx_for hp (by rfl) (ei_range2 (by rfl) z_range ex_int (xv 1)) (eg_name sc__law_stairs.nd) (sx_cons (sx_set sc__law_stairs.nd (ex_if (et_cmp (m_eq hr.units) (ex_c1 c__law_draw tk hr (by decide) (ea_cons (xv 0) (ea_cons ex_int ea_nil))) ex_int (nomark _)) (ex_c1 c__law_up tk hr (by decide) (ea_cons (xv 0) ea_nil)) (ex_tup (ea_cons ex_int (ea_cons ex_int ea_nil)))))
    (sx_cons (sx_if (et_cmp (m_eq hr.units) (xv 4) (xv 2) (nomark _)) (sx_one (sx_set sc__law_stairs.nd (ex_c1 c__law_minus tk hr (by decide) (ea_cons (ex_tup (ea_cons ex_int (ea_cons ex_int ea_nil))) (ea_cons (ex_c1 c__law_up tk hr (by decide) (ea_cons (xv 0) ea_nil)) ea_nil))))) sx_nil)
    (sx_one (sx_expr (ex_m PySem.F.plainAttrs_list PySem.F.slot_list_append PySem.F.type_list_append me_append (xv 3) (ea_cons (ex_c1 c__law_plus tk hr (by decide) (ea_cons (ex_ix (m_ix hr.units65) (xv 3) (ex_un m_neg ex_int)) (ea_cons (xv 5) ea_nil))) ea_nil)))))))
    (sx_one (sx_ret (ex_callT c_tuple (by rfl) z_tuple bt_tuple (ea_cons (xv 3) ea_nil))))))
def N__law_is_flat : List PySem.Str := ["line", "k"]
theorem sc__law_is_flat : FnScope N__law_is_flat ["line", "k"] (defScope s__law_is_flat) := ⟨rfl, rfl, rfl, by decide +kernel, rfl, by decide +kernel, by decide +kernel⟩
def m__law_is_flat : SM := (sRet (eAnd (eBin oLt (eBin oAdd (eVar 1) (eC (.int 1))) (eCB fLen (aCons (eVar 0) aNil))) (eBin oEq (eBin oIx (eVar 0) (eVar 1)) (eBin oIx (eVar 0) (eBin oAdd (eVar 1) (eC (.int 1)))))))
theorem ok__law_is_flat {P : Program} {w : World} {K : PySem.W.Frag} {mg : PySem.Str → Option Value} {base : Heap} {f : Addr} {fd : FuncData} (F : FnP K "_law_is_flat" s__law_is_flat f fd) (gx : mg "_law_is_flat" = some (.ref f)) (z_len : mg "len" = none) :
    Cal P w K mg base "_law_is_flat" 1 ["line", "k"] (runB 2 (m__law_is_flat)) :=
  cal_mk (k := 0) F sc__law_is_flat gx (fun _ _ _ _ _ _ us hl => match us, hl with | [_, _], _ => rfl) fun cdv A outer s H E hr tk hp =>
    (sx_one (sx_ret (ex_and (ex_cmp (m_lt hr.units65) (ex_op m_add (xv 1) ex_int) (ex_callB c_len (by rfl) z_len bt_len (ea_cons (xv 0) ea_nil)) (nomark _)) (ex_one (ex_cmp (m_eq hr.units) (ex_ix (m_ix hr.units65) (xv 0) (xv 1)) (ex_ix (m_ix hr.units65) (xv 0) (ex_op m_add (xv 1) ex_int)) (nomark _))))))
def N__law_led : List PySem.Str := ["d", "line", "bad", "found", "k", "led"]
theorem sc__law_led : FnScope N__law_led ["d", "line", "bad"] (defScope s__law_led) := ⟨rfl, rfl, rfl, by decide +kernel, rfl, by decide +kernel, by decide +kernel⟩
def m__law_led (f__law_is_flat : FM) (f__law_draw : FM) (f__law_up : FM) (f__law_minus : FM) (f__law_step : FM) : SM := (sSeq (sSet 3 (eLst aNil))
    (sSeq (sFor (iRg1 (eCB fLen (aCons (eVar 1) aNil))) (gN 4) (sSeq (sSet 5 (eTup (aCons (eC (.int 0)) (aCons (eC (.int 1)) aNil))))
    (sSeq (sIf (tAnd (tVal (eCall 2 f__law_is_flat (aCons (eVar 1) (aCons (eVar 4) aNil)))) (tBl (eBin oGt (eCall 2 f__law_draw (aCons (eVar 0) (aCons (eC (.int 3)) aNil))) (eC (.int 0))))) (sSet 5 (eCall 1 f__law_up (aCons (eVar 0) aNil))) sNil)
    (sSeq (sIf (tAnd (tBl (eBin oEq (eVar 4) (eVar 2))) (tVal (eCall 2 f__law_is_flat (aCons (eVar 1) (aCons (eVar 4) aNil))))) (sSet 5 (eCall 2 f__law_minus (aCons (eTup (aCons (eC (.int 0)) (aCons (eC (.int 1)) aNil))) (aCons (eCall 1 f__law_up (aCons (eVar 0) aNil)) aNil)))) (sIf (tBl (eBin oEq (eVar 4) (eVar 2))) (sSet 5 (eIf (tBl (eBin oLt (eBin oAdd (eVar 4) (eC (.int 1))) (eCB fLen (aCons (eVar 1) aNil)))) (eCall 1 f__law_up (aCons (eVar 0) aNil)) (eCall 1 f__law_step (aCons (eVar 0) aNil)))) sNil))
    (sExpr (eM "list" mAppend (eVar 3) (aCons (eVar 5) aNil)))))))
    (sRet (eVar 3))))
theorem ok__law_led {P : Program} {w : World} {K : PySem.W.Frag} {mg : PySem.Str → Option Value} {base : Heap} {f : Addr} {fd : FuncData} {f__law_is_flat f__law_draw f__law_up f__law_minus f__law_step : FM} (F : FnP K "_law_led" s__law_led f fd) (gx : mg "_law_led" = some (.ref f)) (c__law_is_flat : Cal P w K mg base "_law_is_flat" 1 ["line", "k"] f__law_is_flat) (c__law_draw : Cal P w K mg base "_law_draw" 1 ["d", "many"] f__law_draw) (c__law_up : Cal P w K mg base "_law_up" 3 ["d"] f__law_up) (c__law_minus : Cal P w K mg base "_law_minus" 3 ["x", "y"] f__law_minus) (c__law_step : Cal P w K mg base "_law_step" 4 ["d"] f__law_step) (z_range : mg "range" = none) (z_len : mg "len" = none) :
    Cal P w K mg base "_law_led" 5 ["d", "line", "bad"] (runB 6 (m__law_led f__law_is_flat f__law_draw f__law_up f__law_minus f__law_step)) :=
  cal_mk (k := 4) F sc__law_led gx (fun _ _ _ _ _ _ us hl => match us, hl with | [_, _, _], _ => rfl) fun cdv A outer s H E hr tk hp =>
    (sx_cons (sx_set sc__law_led.nd (ex_lst ea_nil))
    (sx_cons (sx_for hp (by rfl) (ei_range1 (by rfl) z_range (ex_callB c_len (by rfl) z_len bt_len (ea_cons (xv 1) ea_nil))) (eg_name sc__law_led.nd) (sx_cons (sx_set sc__law_led.nd (ex_tup (ea_cons ex_int (ea_cons ex_int ea_nil))))
    (sx_cons (sx_if (Ew.et (ew_and (et_val (ex_c1 c__law_is_flat tk hr (by decide) (ea_cons (xv 1) (ea_cons (xv 4) ea_nil)))) (ew_and1 (et_cmp m_gt (ex_c1 c__law_draw tk hr (by decide) (ea_cons (xv 0) (ea_cons ex_int ea_nil))) ex_int (nomark _))))) (sx_one (sx_set sc__law_led.nd (ex_c1 c__law_up tk hr (by decide) (ea_cons (xv 0) ea_nil)))) sx_nil)
    (sx_cons (sx_if (Ew.et (ew_and (et_cmp (m_eq hr.units) (xv 4) (xv 2) (nomark _)) (ew_and1 (et_val (ex_c1 c__law_is_flat tk hr (by decide) (ea_cons (xv 1) (ea_cons (xv 4) ea_nil))))))) (sx_one (sx_set sc__law_led.nd (ex_c1 c__law_minus tk hr (by decide) (ea_cons (ex_tup (ea_cons ex_int (ea_cons ex_int ea_nil))) (ea_cons (ex_c1 c__law_up tk hr (by decide) (ea_cons (xv 0) ea_nil)) ea_nil))))) (sx_one (sx_if (et_cmp (m_eq hr.units) (xv 4) (xv 2) (nomark _)) (sx_one (sx_set sc__law_led.nd (ex_if (et_cmp (m_lt hr.units65) (ex_op m_add (xv 4) ex_int) (ex_callB c_len (by rfl) z_len bt_len (ea_cons (xv 1) ea_nil)) (nomark _)) (ex_c1 c__law_up tk hr (by decide) (ea_cons (xv 0) ea_nil)) (ex_c1 c__law_step tk hr (by decide) (ea_cons (xv 0) ea_nil))))) sx_nil)))
    (sx_one (sx_expr (ex_m PySem.F.plainAttrs_list PySem.F.slot_list_append PySem.F.type_list_append me_append (xv 3) (ea_cons (xv 5) ea_nil))))))))
    (sx_one (sx_ret (xv 3)))))
def N__law_answers_of : List PySem.Str := ["line", "loads", "led", "found", "k", "pull"]
theorem sc__law_answers_of : FnScope N__law_answers_of ["line", "loads", "led"] (defScope s__law_answers_of) := ⟨rfl, rfl, rfl, by decide +kernel, rfl, by decide +kernel, by decide +kernel⟩
def m__law_answers_of (f__law_minus : FM) (f__law_plus : FM) (f__law_over : FM) : SM := (sSeq (sSet 3 (eLst aNil))
    (sSeq (sFor (iRg1 (eCB fLen (aCons (eVar 0) aNil))) (gN 4) (sSeq (sSet 5 (eCall 2 f__law_minus (aCons (eBin oIx (eVar 2) (eVar 4)) (aCons (eIf (tBl (eBin oGt (eVar 4) (eC (.int 0)))) (eBin oIx (eVar 2) (eBin oSub (eVar 4) (eC (.int 1)))) (eTup (aCons (eC (.int 0)) (aCons (eC (.int 1)) aNil)))) aNil))))
    (sExpr (eM "list" mAppend (eVar 3) (aCons (eCall 2 f__law_plus (aCons (eBin oIx (eVar 0) (eVar 4)) (aCons (eCall 2 f__law_over (aCons (eVar 5) (aCons (eBin oIx (eVar 1) (eVar 4)) aNil))) aNil))) aNil)))))
    (sRet (eCB fTuple (aCons (eVar 3) aNil)))))
theorem ok__law_answers_of {P : Program} {w : World} {K : PySem.W.Frag} {mg : PySem.Str → Option Value} {base : Heap} {f : Addr} {fd : FuncData} {f__law_minus f__law_plus f__law_over : FM} (F : FnP K "_law_answers_of" s__law_answers_of f fd) (gx : mg "_law_answers_of" = some (.ref f)) (c__law_minus : Cal P w K mg base "_law_minus" 3 ["x", "y"] f__law_minus) (c__law_plus : Cal P w K mg base "_law_plus" 3 ["x", "y"] f__law_plus) (c__law_over : Cal P w K mg base "_law_over" 3 ["x", "y"] f__law_over) (z_range : mg "range" = none) (z_len : mg "len" = none) (z_tuple : mg "tuple" = none) :
    Cal P w K mg base "_law_answers_of" 4 ["line", "loads", "led"] (runB 6 (m__law_answers_of f__law_minus f__law_plus f__law_over)) :=
  cal_mk (k := 3) F sc__law_answers_of gx (fun _ _ _ _ _ _ us hl => match us, hl with | [_, _, _], _ => rfl) fun cdv A outer s H E hr tk hp =>
    (sx_cons (sx_set sc__law_answers_of.nd (ex_lst ea_nil))
    (sx_cons (sx_for hp (by rfl) (ei_range1 (by rfl) z_range (ex_callB c_len (by rfl) z_len bt_len (ea_cons (xv 0) ea_nil))) (eg_name sc__law_answers_of.nd) (sx_cons (sx_set sc__law_answers_of.nd (ex_c1 c__law_minus tk hr (by decide) (ea_cons (ex_ix (m_ix hr.units65) (xv 2) (xv 4)) (ea_cons (ex_if (et_cmp m_gt (xv 4) ex_int (nomark _)) (ex_ix (m_ix hr.units65) (xv 2) (ex_op m_sub (xv 4) ex_int)) (ex_tup (ea_cons ex_int (ea_cons ex_int ea_nil)))) ea_nil))))
    (sx_one (sx_expr (ex_m PySem.F.plainAttrs_list PySem.F.slot_list_append PySem.F.type_list_append me_append (xv 3) (ea_cons (ex_c1 c__law_plus tk hr (by decide) (ea_cons (ex_ix (m_ix hr.units65) (xv 0) (xv 4)) (ea_cons (ex_c1 c__law_over tk hr (by decide) (ea_cons (xv 5) (ea_cons (ex_ix (m_ix hr.units65) (xv 1) (xv 4)) ea_nil))) ea_nil))) ea_nil))))))
    (sx_one (sx_ret (ex_callT c_tuple (by rfl) z_tuple bt_tuple (ea_cons (xv 3) ea_nil))))))
def N__law_with : List PySem.Str := ["line", "k", "part"]
theorem sc__law_with : FnScope N__law_with ["line", "k", "part"] (defScope s__law_with) := ⟨rfl, rfl, rfl, by decide +kernel, rfl, by decide +kernel, by decide +kernel⟩
def m__law_with : SM := (sRet (eBin oAdd (eBin oAdd (eSl (eVar 0) oNone (oSome (eVar 1))) (eTup (aCons (eVar 2) aNil))) (eSl (eVar 0) (oSome (eBin oAdd (eVar 1) (eC (.int 1)))) oNone)))
theorem ok__law_with {P : Program} {w : World} {K : PySem.W.Frag} {mg : PySem.Str → Option Value} {base : Heap} {f : Addr} {fd : FuncData} (F : FnP K "_law_with" s__law_with f fd) (gx : mg "_law_with" = some (.ref f))  :
    Cal P w K mg base "_law_with" 1 ["line", "k", "part"] (runB 3 (m__law_with)) :=
  cal_mk (k := 0) F sc__law_with gx (fun _ _ _ _ _ _ us hl => match us, hl with | [_, _, _], _ => rfl) fun cdv A outer s H E hr tk hp =>
    (sx_one (sx_ret (ex_op m_add (ex_op m_add (ex_sl (xv 0) eo_none (eo_some (xv 1))) (ex_tup (ea_cons (xv 2) ea_nil))) (ex_sl (xv 0) (eo_some (ex_op m_add (xv 1) ex_int)) eo_none))))
def N__law_rises : List PySem.Str := ["line", "k"]
theorem sc__law_rises : FnScope N__law_rises ["line"] (defScope s__law_rises) := ⟨rfl, rfl, rfl, by decide +kernel, rfl, by decide +kernel, by decide +kernel⟩
def m__law_rises (f__law_less : FM) : SM := (sRet (eCS gAllB (lComp [1] (iRg1 (eBin oSub (eCB fLen (aCons (eVar 0) aNil)) (eC (.int 1)))) (gN 1) tYes (eNot (eCall 2 f__law_less (aCons (eBin oIx (eVar 0) (eBin oAdd (eVar 1) (eC (.int 1)))) (aCons (eBin oIx (eVar 0) (eVar 1)) aNil)))))))
theorem ok__law_rises {P : Program} {w : World} {K : PySem.W.Frag} {mg : PySem.Str → Option Value} {base : Heap} {f : Addr} {fd : FuncData} {f__law_less : FM} (F : FnP K "_law_rises" s__law_rises f fd) (gx : mg "_law_rises" = some (.ref f)) (c__law_less : Cal P w K mg base "_law_less" 1 ["x", "y"] f__law_less) (z_range : mg "range" = none) (z_len : mg "len" = none) (z_all : mg "all" = none) :
    Cal P w K mg base "_law_rises" 2 ["line"] (runB 2 (m__law_rises f__law_less)) :=
  cal_mk (k := 1) F sc__law_rises gx (fun _ _ _ _ _ _ us hl => match us, hl with | [_], _ => rfl) fun cdv A outer s H E hr tk hp =>
    (sx_one (sx_ret (ex_callBl (s_all (by rfl)) (by rfl) z_all bt_all (esl_el (el_comp (own := [(("k" : PySem.Str), 1)]) (by rfl) sc__law_rises.nd (ei_range1 (by rfl) z_range (ex_op m_sub (ex_callB c_len (by rfl) z_len bt_len (ea_cons (xv 0) ea_nil)) ex_int)) (blkOk_by (N := N__law_rises) (sc := (defScope s__law_rises)) (by decide +kernel)) (fun _ _ _ _ _ => (eg_name sc__law_rises.nd)) (fun _ _ _ _ _ => ets_nil) (fun _ _ _ _ _ => (ex_not (ex_c1 c__law_less tk0 hr (by decide) (ea_cons (ex_ix (m_ix hr.units65) (xv 0) (ex_op m_add (xv 1) ex_int)) (ea_cons (ex_ix (m_ix hr.units65) (xv 0) (xv 1)) ea_nil))))))))))
def N__law_is_nearest : List PySem.Str := ["numbers", "loads", "line", "led", "k", "part"]
theorem sc__law_is_nearest : FnScope N__law_is_nearest ["numbers", "loads", "line"] (defScope s__law_is_nearest) := ⟨rfl, rfl, rfl, by decide +kernel, rfl, by decide +kernel, by decide +kernel⟩
def m__law_is_nearest (f__law_is_frac : FM) (f__law_rises : FM) (f__law_plus : FM) (f__law_times : FM) (f__law_minus : FM) (f__law_is_flat : FM) : SM := (sSeq (sIf (tOr (HM.tNot (tVal (eCB fIsi (aCons (eVar 2) (aCons (eC (.ty "tuple")) aNil))))) (tOr (tBl (eBin oNe (eCB fLen (aCons (eVar 2) aNil)) (eCB fLen (aCons (eVar 0) aNil)))) (tBl (eBin oEq (eCB fLen (aCons (eVar 2) aNil)) (eC (.int 0)))))) (sRet (eC (.bl false))) sNil)
    (sSeq (sIf (tOr (HM.tNot (tVal (eCS gAllB (lComp [5] (iEx (eVar 2)) (gN 5) tYes (eCall 1 f__law_is_frac (aCons (eVar 5) aNil)))))) (HM.tNot (tVal (eCall 1 f__law_rises (aCons (eVar 2) aNil))))) (sRet (eC (.bl false))) sNil)
    (sSeq (sSet 3 (eTup (aCons (eC (.int 0)) (aCons (eC (.int 1)) aNil))))
    (sSeq (sFor (iRg1 (eCB fLen (aCons (eVar 2) aNil))) (gN 4) (sSeq (sSet 3 (eCall 2 f__law_plus (aCons (eVar 3) (aCons (eCall 2 f__law_times (aCons (eBin oIx (eVar 1) (eVar 4)) (aCons (eCall 2 f__law_minus (aCons (eBin oIx (eVar 0) (eVar 4)) (aCons (eBin oIx (eVar 2) (eVar 4)) aNil))) aNil))) aNil))))
    (sIf (tOr (tBl (eBin oLt (eBin oIx (eVar 3) (eC (.int 0))) (eC (.int 0)))) (tAnd (tBl (eBin oGt (eBin oIx (eVar 3) (eC (.int 0))) (eC (.int 0)))) (HM.tNot (tVal (eCall 2 f__law_is_flat (aCons (eVar 2) (aCons (eVar 4) aNil))))))) (sRet (eC (.bl false))) sNil)))
    (sRet (eC (.bl true)))))))
theorem ok__law_is_nearest {P : Program} {w : World} {K : PySem.W.Frag} {mg : PySem.Str → Option Value} {base : Heap} {f : Addr} {fd : FuncData} {f__law_is_frac f__law_rises f__law_plus f__law_times f__law_minus f__law_is_flat : FM} (F : FnP K "_law_is_nearest" s__law_is_nearest f fd) (gx : mg "_law_is_nearest" = some (.ref f)) (c__law_is_frac : Cal P w K mg base "_law_is_frac" 2 ["thing"] f__law_is_frac) (c__law_rises : Cal P w K mg base "_law_rises" 2 ["line"] f__law_rises) (c__law_plus : Cal P w K mg base "_law_plus" 3 ["x", "y"] f__law_plus) (c__law_times : Cal P w K mg base "_law_times" 3 ["x", "y"] f__law_times) (c__law_minus : Cal P w K mg base "_law_minus" 3 ["x", "y"] f__law_minus) (c__law_is_flat : Cal P w K mg base "_law_is_flat" 1 ["line", "k"] f__law_is_flat) (z_tuple : mg "tuple" = none) (z_isinstance : mg "isinstance" = none) (z_len : mg "len" = none) (z_all : mg "all" = none) (z_range : mg "range" = none) :
    Cal P w K mg base "_law_is_nearest" 4 ["numbers", "loads", "line"] (runB 6 (m__law_is_nearest f__law_is_frac f__law_rises f__law_plus f__law_times f__law_minus f__law_is_flat)) :=
  cal_mk (k := 3) F sc__law_is_nearest gx (fun _ _ _ _ _ _ us hl => match us, hl with | [_, _, _], _ => rfl) fun cdv A outer s H E hr tk hp =>
    (sx_cons (sx_if (Ew.et (ew_or (et_not (et_val (ex_callB c_isi (by rfl) z_isinstance bt_isinstance (ea_cons (xv 2) (ea_cons (ex_bltn (by rfl) z_tuple bt_tuple (by rfl) (fun _ _ => .ty _)) ea_nil))))) (ew_or (et_cmp (m_ne hr.units) (ex_callB c_len (by rfl) z_len bt_len (ea_cons (xv 2) ea_nil)) (ex_callB c_len (by rfl) z_len bt_len (ea_cons (xv 0) ea_nil)) (nomark _)) (ew_or1 (et_cmp (m_eq hr.units) (ex_callB c_len (by rfl) z_len bt_len (ea_cons (xv 2) ea_nil)) ex_int (nomark _)))))) (sx_one (sx_ret ex_bl)) sx_nil)
    (sx_cons (sx_if (Ew.et (ew_or (et_not (et_val (ex_callBl (s_all (by rfl)) (by rfl) z_all bt_all (esl_el (el_comp (own := [(("part" : PySem.Str), 5)]) (by rfl) sc__law_is_nearest.nd (ei_ex (xv 2)) (blkOk_by (N := N__law_is_nearest) (sc := (defScope s__law_is_nearest)) (by decide +kernel)) (fun _ _ _ _ _ => (eg_name sc__law_is_nearest.nd)) (fun _ _ _ _ _ => ets_nil) (fun _ _ _ _ _ => (ex_c1 c__law_is_frac tk0 hr (by decide) (ea_cons (xv 5) ea_nil)))))))) (ew_or1 (et_not (et_val (ex_c1 c__law_rises tk hr (by decide) (ea_cons (xv 2) ea_nil))))))) (sx_one (sx_ret ex_bl)) sx_nil)
    (sx_cons (sx_set sc__law_is_nearest.nd (ex_tup (ea_cons ex_int (ea_cons ex_int ea_nil))))
    (sx_cons (sx_for hp (by rfl) (ei_range1 (by rfl) z_range (ex_callB c_len (by rfl) z_len bt_len (ea_cons (xv 2) ea_nil))) (eg_name sc__law_is_nearest.nd) (sx_cons (sx_set sc__law_is_nearest.nd (ex_c1 c__law_plus tk hr (by decide) (ea_cons (xv 3) (ea_cons (ex_c1 c__law_times tk hr (by decide) (ea_cons (ex_ix (m_ix hr.units65) (xv 1) (xv 4)) (ea_cons (ex_c1 c__law_minus tk hr (by decide) (ea_cons (ex_ix (m_ix hr.units65) (xv 0) (xv 4)) (ea_cons (ex_ix (m_ix hr.units65) (xv 2) (xv 4)) ea_nil))) ea_nil))) ea_nil))))
    (sx_one (sx_if (Ew.et (ew_or (et_cmp (m_lt hr.units65) (ex_ix (m_ix hr.units65) (xv 3) ex_int) ex_int (nomark _)) (ew_or1 (Ew.et (ew_and (et_cmp m_gt (ex_ix (m_ix hr.units65) (xv 3) ex_int) ex_int (nomark _)) (ew_and1 (et_not (et_val (ex_c1 c__law_is_flat tk hr (by decide) (ea_cons (xv 2) (ea_cons (xv 4) ea_nil))))))))))) (sx_one (sx_ret ex_bl)) sx_nil))))
    (sx_one (sx_ret ex_bl))))))
def N__law_far : List PySem.Str := ["loads", "line", "second", "found", "k", "way"]
theorem sc__law_far : FnScope N__law_far ["loads", "line", "second"] (defScope s__law_far) := ⟨rfl, rfl, rfl, by decide +kernel, rfl, by decide +kernel, by decide +kernel⟩
def m__law_far (f__law_minus : FM) (f__law_plus : FM) (f__law_times : FM) : SM := (sSeq (sSet 3 (eTup (aCons (eC (.int 0)) (aCons (eC (.int 1)) aNil))))
    (sSeq (sFor (iRg1 (eCB fLen (aCons (eVar 1) aNil))) (gN 4) (sSeq (sSet 5 (eCall 2 f__law_minus (aCons (eBin oIx (eVar 1) (eVar 4)) (aCons (eBin oIx (eVar 2) (eVar 4)) aNil))))
    (sSet 3 (eCall 2 f__law_plus (aCons (eVar 3) (aCons (eCall 2 f__law_times (aCons (eBin oIx (eVar 0) (eVar 4)) (aCons (eCall 2 f__law_times (aCons (eVar 5) (aCons (eVar 5) aNil))) aNil))) aNil))))))
    (sRet (eVar 3))))
theorem ok__law_far {P : Program} {w : World} {K : PySem.W.Frag} {mg : PySem.Str → Option Value} {base : Heap} {f : Addr} {fd : FuncData} {f__law_minus f__law_plus f__law_times : FM} (F : FnP K "_law_far" s__law_far f fd) (gx : mg "_law_far" = some (.ref f)) (c__law_minus : Cal P w K mg base "_law_minus" 3 ["x", "y"] f__law_minus) (c__law_plus : Cal P w K mg base "_law_plus" 3 ["x", "y"] f__law_plus) (c__law_times : Cal P w K mg base "_law_times" 3 ["x", "y"] f__law_times) (z_range : mg "range" = none) (z_len : mg "len" = none) :
    Cal P w K mg base "_law_far" 4 ["loads", "line", "second"] (runB 6 (m__law_far f__law_minus f__law_plus f__law_times)) :=
  cal_mk (k := 3) F sc__law_far gx (fun _ _ _ _ _ _ us hl => match us, hl with | [_, _, _], _ => rfl) fun cdv A outer s H E hr tk hp =>
    (sx_cons (sx_set sc__law_far.nd (ex_tup (ea_cons ex_int (ea_cons ex_int ea_nil))))
    (sx_cons (sx_for hp (by rfl) (ei_range1 (by rfl) z_range (ex_callB c_len (by rfl) z_len bt_len (ea_cons (xv 1) ea_nil))) (eg_name sc__law_far.nd) (sx_cons (sx_set sc__law_far.nd (ex_c1 c__law_minus tk hr (by decide) (ea_cons (ex_ix (m_ix hr.units65) (xv 1) (xv 4)) (ea_cons (ex_ix (m_ix hr.units65) (xv 2) (xv 4)) ea_nil))))
    (sx_one (sx_set sc__law_far.nd (ex_c1 c__law_plus tk hr (by decide) (ea_cons (xv 3) (ea_cons (ex_c1 c__law_times tk hr (by decide) (ea_cons (ex_ix (m_ix hr.units65) (xv 0) (xv 4)) (ea_cons (ex_c1 c__law_times tk hr (by decide) (ea_cons (xv 5) (ea_cons (xv 5) ea_nil))) ea_nil))) ea_nil)))))))
    (sx_one (sx_ret (xv 3)))))
def N__law_no_fraction : List PySem.Str := ["d", "part", "style"]
theorem sc__law_no_fraction : FnScope N__law_no_fraction ["d", "part"] (defScope s__law_no_fraction) := ⟨rfl, rfl, rfl, by decide +kernel, rfl, by decide +kernel, by decide +kernel⟩
def m__law_no_fraction (f__law_draw : FM) : SM := (sSeq (sSet 2 (eCall 2 f__law_draw (aCons (eVar 0) (aCons (eC (.int 5)) aNil))))
    (sSeq (sIf (tBl (eBin oEq (eVar 2) (eC (.int 0)))) (sRet (eTup (aCons (eBin oIx (eVar 1) (eC (.int 0))) (aCons (eC (.int 0)) aNil)))) sNil)
    (sSeq (sIf (tBl (eBin oEq (eVar 2) (eC (.int 1)))) (sRet (eTup (aCons (eUn oNeg (eBin oIx (eVar 1) (eC (.int 0)))) (aCons (eUn oNeg (eBin oIx (eVar 1) (eC (.int 1)))) aNil)))) sNil)
    (sSeq (sIf (tBl (eBin oEq (eVar 2) (eC (.int 2)))) (sRet (eTup (aCons (eBin oIx (eVar 1) (eC (.int 0))) (aCons (eUn oNeg (eBin oIx (eVar 1) (eC (.int 1)))) aNil)))) sNil)
    (sRet (eTup (aCons (eBin oMul (eBin oIx (eVar 1) (eC (.int 0))) (eBin oSub (eVar 2) (eC (.int 1)))) (aCons (eBin oMul (eBin oIx (eVar 1) (eC (.int 1))) (eBin oSub (eVar 2) (eC (.int 1)))) aNil))))))))
theorem ok__law_no_fraction {P : Program} {w : World} {K : PySem.W.Frag} {mg : PySem.Str → Option Value} {base : Heap} {f : Addr} {fd : FuncData} {f__law_draw : FM} (F : FnP K "_law_no_fraction" s__law_no_fraction f fd) (gx : mg "_law_no_fraction" = some (.ref f)) (c__law_draw : Cal P w K mg base "_law_draw" 1 ["d", "many"] f__law_draw) :
    Cal P w K mg base "_law_no_fraction" 2 ["d", "part"] (runB 3 (m__law_no_fraction f__law_draw)) :=
  cal_mk (k := 1) F sc__law_no_fraction gx (fun _ _ _ _ _ _ us hl => match us, hl with | [_, _], _ => rfl) fun cdv A outer s H E hr tk hp =>
    (sx_cons (sx_set sc__law_no_fraction.nd (ex_c1 c__law_draw tk hr (by decide) (ea_cons (xv 0) (ea_cons ex_int ea_nil))))
    (sx_cons (sx_if (et_cmp (m_eq hr.units) (xv 2) ex_int (nomark _)) (sx_one (sx_ret (ex_tup (ea_cons (ex_ix (m_ix hr.units65) (xv 1) ex_int) (ea_cons ex_int ea_nil))))) sx_nil)
    (sx_cons (sx_if (et_cmp (m_eq hr.units) (xv 2) ex_int (nomark _)) (sx_one (sx_ret (ex_tup (ea_cons (ex_un m_neg (ex_ix (m_ix hr.units65) (xv 1) ex_int)) (ea_cons (ex_un m_neg (ex_ix (m_ix hr.units65) (xv 1) ex_int)) ea_nil))))) sx_nil)
    (sx_cons (sx_if (et_cmp (m_eq hr.units) (xv 2) ex_int (nomark _)) (sx_one (sx_ret (ex_tup (ea_cons (ex_ix (m_ix hr.units65) (xv 1) ex_int) (ea_cons (ex_un m_neg (ex_ix (m_ix hr.units65) (xv 1) ex_int)) ea_nil))))) sx_nil)
    (sx_one (sx_ret (ex_tup (ea_cons (ex_op m_mul (ex_ix (m_ix hr.units65) (xv 1) ex_int) (ex_op m_sub (xv 2) ex_int)) (ea_cons (ex_op m_mul (ex_ix (m_ix hr.units65) (xv 1) ex_int) (ex_op m_sub (xv 2) ex_int)) ea_nil)))))))))
def N__law_spoilt : List PySem.Str := ["d", "numbers", "line", "k", "step", "found", "part"]
theorem sc__law_spoilt : FnScope N__law_spoilt ["d", "numbers", "line"] (defScope s__law_spoilt) := ⟨rfl, rfl, rfl, by decide +kernel, rfl, by decide +kernel, by decide +kernel⟩
def m__law_spoilt (f__law_draw : FM) (f__law_step : FM) (f__law_with : FM) (f__law_no_fraction : FM) (f__law_plus : FM) : SM := (sSeq (sSet 3 (eCall 2 f__law_draw (aCons (eVar 0) (aCons (eCB fLen (aCons (eVar 2) aNil)) aNil))))
    (sSeq (sSet 4 (eCall 1 f__law_step (aCons (eVar 0) aNil)))
    (sSeq (sSet 5 (eLst (aCons (eVar 2) (aCons (eSl (eVar 2) oNone (oSome (eUn oNeg (eC (.int 1))))) (aCons (eBin oAdd (eVar 2) (eTup (aCons (eBin oIx (eVar 2) (eUn oNeg (eC (.int 1)))) aNil))) (aCons (eTup aNil) (aCons (eVar 1) aNil)))))))
    (sSeq (sExpr (eM "list" mAppend (eVar 5) (aCons (eCall 3 f__law_with (aCons (eVar 2) (aCons (eVar 3) (aCons (eCall 2 f__law_no_fraction (aCons (eVar 0) (aCons (eBin oIx (eVar 2) (eVar 3)) aNil))) aNil)))) aNil)))
    (sSeq (sExpr (eM "list" mAppend (eVar 5) (aCons (eCall 3 f__law_with (aCons (eVar 2) (aCons (eVar 3) (aCons (eCall 2 f__law_plus (aCons (eBin oIx (eVar 2) (eVar 3)) (aCons (eVar 4) aNil))) aNil)))) aNil)))
    (sSeq (sExpr (eM "list" mAppend (eVar 5) (aCons (eBin oAdd (eCS gTuple (lComp [6] (iEx (eSl (eVar 2) oNone (oSome (eBin oAdd (eVar 3) (eC (.int 1)))))) (gN 6) tYes (eCall 2 f__law_plus (aCons (eVar 6) (aCons (eVar 4) aNil))))) (eSl (eVar 2) (oSome (eBin oAdd (eVar 3) (eC (.int 1)))) oNone)) aNil)))
    (sSeq (sExpr (eM "list" mAppend (eVar 5) (aCons (eBin oAdd (eSl (eVar 2) oNone (oSome (eVar 3))) (eCS gTuple (lComp [6] (iEx (eSl (eVar 2) (oSome (eVar 3)) oNone)) (gN 6) tYes (eCall 2 f__law_plus (aCons (eVar 6) (aCons (eVar 4) aNil)))))) aNil)))
    (sRet (eVar 5)))))))))
theorem ok__law_spoilt {P : Program} {w : World} {K : PySem.W.Frag} {mg : PySem.Str → Option Value} {base : Heap} {f : Addr} {fd : FuncData} {f__law_draw f__law_step f__law_with f__law_no_fraction f__law_plus : FM} (F : FnP K "_law_spoilt" s__law_spoilt f fd) (gx : mg "_law_spoilt" = some (.ref f)) (c__law_draw : Cal P w K mg base "_law_draw" 1 ["d", "many"] f__law_draw) (c__law_step : Cal P w K mg base "_law_step" 4 ["d"] f__law_step) (c__law_with : Cal P w K mg base "_law_with" 1 ["line", "k", "part"] f__law_with) (c__law_no_fraction : Cal P w K mg base "_law_no_fraction" 2 ["d", "part"] f__law_no_fraction) (c__law_plus : Cal P w K mg base "_law_plus" 3 ["x", "y"] f__law_plus) (z_len : mg "len" = none) (z_tuple : mg "tuple" = none) :
    Cal P w K mg base "_law_spoilt" 5 ["d", "numbers", "line"] (runB 7 (m__law_spoilt f__law_draw f__law_step f__law_with f__law_no_fraction f__law_plus)) :=
  cal_mk (k := 4) F sc__law_spoilt gx (fun _ _ _ _ _ _ us hl => match us, hl with | [_, _, _], _ => rfl) fun cdv A outer s H E hr tk hp =>
    (sx_cons (sx_set sc__law_spoilt.nd (ex_c1 c__law_draw tk hr (by decide) (ea_cons (xv 0) (ea_cons (ex_callB c_len (by rfl) z_len bt_len (ea_cons (xv 2) ea_nil)) ea_nil))))
    (sx_cons (sx_set sc__law_spoilt.nd (ex_c1 c__law_step tk hr (by decide) (ea_cons (xv 0) ea_nil)))
    (sx_cons (sx_set sc__law_spoilt.nd (ex_lst (ea_cons (xv 2) (ea_cons (ex_sl (xv 2) eo_none (eo_some (ex_un m_neg ex_int))) (ea_cons (ex_op m_add (xv 2) (ex_tup (ea_cons (ex_ix (m_ix hr.units65) (xv 2) (ex_un m_neg ex_int)) ea_nil))) (ea_cons (ex_tup ea_nil) (ea_cons (xv 1) ea_nil)))))))
    (sx_cons (sx_expr (ex_m PySem.F.plainAttrs_list PySem.F.slot_list_append PySem.F.type_list_append me_append (xv 5) (ea_cons (ex_c1 c__law_with tk hr (by decide) (ea_cons (xv 2) (ea_cons (xv 3) (ea_cons (ex_c1 c__law_no_fraction tk hr (by decide) (ea_cons (xv 0) (ea_cons (ex_ix (m_ix hr.units65) (xv 2) (xv 3)) ea_nil))) ea_nil)))) ea_nil)))
    (sx_cons (sx_expr (ex_m PySem.F.plainAttrs_list PySem.F.slot_list_append PySem.F.type_list_append me_append (xv 5) (ea_cons (ex_c1 c__law_with tk hr (by decide) (ea_cons (xv 2) (ea_cons (xv 3) (ea_cons (ex_c1 c__law_plus tk hr (by decide) (ea_cons (ex_ix (m_ix hr.units65) (xv 2) (xv 3)) (ea_cons (xv 4) ea_nil))) ea_nil)))) ea_nil)))
    (sx_cons (sx_expr (ex_m PySem.F.plainAttrs_list PySem.F.slot_list_append PySem.F.type_list_append me_append (xv 5) (ea_cons (ex_op m_add (ex_callTs s_tuple (by rfl) z_tuple bt_tuple (es_el (el_comp (own := [(("part" : PySem.Str), 6)]) (by rfl) sc__law_spoilt.nd (ei_ex (ex_sl (xv 2) eo_none (eo_some (ex_op m_add (xv 3) ex_int)))) (blkOk_by (N := N__law_spoilt) (sc := (defScope s__law_spoilt)) (by decide +kernel)) (fun _ _ _ _ _ => (eg_name sc__law_spoilt.nd)) (fun _ _ _ _ _ => ets_nil) (fun _ _ _ _ _ => (ex_c1 c__law_plus tk0 hr (by decide) (ea_cons (xv 6) (ea_cons (xv 4) ea_nil))))))) (ex_sl (xv 2) (eo_some (ex_op m_add (xv 3) ex_int)) eo_none)) ea_nil)))
    (sx_cons (sx_expr (ex_m PySem.F.plainAttrs_list PySem.F.slot_list_append PySem.F.type_list_append me_append (xv 5) (ea_cons (ex_op m_add (ex_sl (xv 2) eo_none (eo_some (xv 3))) (ex_callTs s_tuple (by rfl) z_tuple bt_tuple (es_el (el_comp (own := [(("part" : PySem.Str), 6)]) (by rfl) sc__law_spoilt.nd (ei_ex (ex_sl (xv 2) (eo_some (xv 3)) eo_none)) (blkOk_by (N := N__law_spoilt) (sc := (defScope s__law_spoilt)) (by decide +kernel)) (fun _ _ _ _ _ => (eg_name sc__law_spoilt.nd)) (fun _ _ _ _ _ => ets_nil) (fun _ _ _ _ _ => (ex_c1 c__law_plus tk0 hr (by decide) (ea_cons (xv 6) (ea_cons (xv 4) ea_nil)))))))) ea_nil)))
    (sx_one (sx_ret (xv 5))))))))))
def N__law_judged : List PySem.Str := ["numbers", "loads", "line", "told"]
theorem sc__law_judged : FnScope N__law_judged ["numbers", "loads", "line"] (defScope s__law_judged) := ⟨rfl, rfl, rfl, by decide +kernel, rfl, by decide +kernel, by decide +kernel⟩
def m__law_judged (f_judge_rising : FM) (f__law_is_nearest : FM) : SM := (sSeq (sSet 3 (eCall 3 f_judge_rising (aCons (eVar 0) (aCons (eVar 1) (aCons (eVar 2) aNil)))))
    (sRet (eAnd (eCB fIsi (aCons (eVar 3) (aCons (eC (.ty "bool")) aNil))) (eBin oEq (eVar 3) (eCall 3 f__law_is_nearest (aCons (eVar 0) (aCons (eVar 1) (aCons (eVar 2) aNil))))))))
theorem ok__law_judged {P : Program} {w : World} {K : PySem.W.Frag} {mg : PySem.Str → Option Value} {base : Heap} {f : Addr} {fd : FuncData} {f_judge_rising f__law_is_nearest : FM} (F : FnP K "_law_judged" s__law_judged f fd) (gx : mg "_law_judged" = some (.ref f)) (c_judge_rising : Cal P w K mg base "judge_rising" 5 ["answers", "weights", "row"] f_judge_rising) (c__law_is_nearest : Cal P w K mg base "_law_is_nearest" 4 ["numbers", "loads", "line"] f__law_is_nearest) (z_bool : mg "bool" = none) (z_isinstance : mg "isinstance" = none) :
    Cal P w K mg base "_law_judged" 6 ["numbers", "loads", "line"] (runB 4 (m__law_judged f_judge_rising f__law_is_nearest)) :=
  cal_mk (k := 5) F sc__law_judged gx (fun _ _ _ _ _ _ us hl => match us, hl with | [_, _, _], _ => rfl) fun cdv A outer s H E hr tk hp =>
    (sx_cons (sx_set sc__law_judged.nd (ex_c1 c_judge_rising tk hr (by decide) (ea_cons (xv 0) (ea_cons (xv 1) (ea_cons (xv 2) ea_nil)))))
    (sx_one (sx_ret (ex_and (ex_callB c_isi (by rfl) z_isinstance bt_isinstance (ea_cons (xv 3) (ea_cons (ex_bltn (by rfl) z_bool bt_bool (by rfl) (fun _ _ => .ty _)) ea_nil))) (ex_one (ex_cmp (m_eq hr.units) (xv 3) (ex_c1 c__law_is_nearest tk hr (by decide) (ea_cons (xv 0) (ea_cons (xv 1) (ea_cons (xv 2) ea_nil)))) (nomark _)))))))
def N__law_right : List PySem.Str := ["d", "numbers", "loads", "line", "told", "second", "k", "heavier"]
theorem sc__law_right : FnScope N__law_right ["d", "numbers", "loads", "line"] (defScope s__law_right) := ⟨rfl, rfl, rfl, by decide +kernel, rfl, by decide +kernel, by decide +kernel⟩
def m__law_right (f_nearest_rising : FM) (f__law_is_nearest : FM) (f_judge_rising : FM) (f__law_spoilt : FM) (f__law_judged : FM) (f__law_draw : FM) (f__law_with : FM) (f__law_plus : FM) (f__law_up : FM) : SM := (sSeq (sSet 4 (eCall 2 f_nearest_rising (aCons (eVar 1) (aCons (eVar 2) aNil))))
    (sSeq (sIf (tOr (HM.tNot (tVal (eCall 3 f__law_is_nearest (aCons (eVar 1) (aCons (eVar 2) (aCons (eVar 4) aNil)))))) (tBl (eBin oNe (eVar 4) (eVar 3)))) (sRet (eC (.bl false))) sNil)
    (sSeq (sIf (tBl (eBin oIsNot (eCallK 0 3 3 [0, 1, 2] f_judge_rising aNil (aCons (eVar 1) (aCons (eVar 2) (aCons (eVar 3) aNil)))) (eC (.bl true)))) (sRet (eC (.bl false))) sNil)
    (sSeq (sFor (iEx (eCall 3 f__law_spoilt (aCons (eVar 0) (aCons (eVar 1) (aCons (eVar 3) aNil))))) (gN 5) (sIf (HM.tNot (tVal (eCall 3 f__law_judged (aCons (eVar 1) (aCons (eVar 2) (aCons (eVar 5) aNil)))))) (sRet (eC (.bl false))) sNil))
    (sSeq (sSet 6 (eCall 2 f__law_draw (aCons (eVar 0) (aCons (eCB fLen (aCons (eVar 3) aNil)) aNil))))
    (sSeq (sSet 7 (eCall 3 f__law_with (aCons (eVar 2) (aCons (eVar 6) (aCons (eCall 2 f__law_plus (aCons (eBin oIx (eVar 2) (eVar 6)) (aCons (eCall 1 f__law_up (aCons (eVar 0) aNil)) aNil))) aNil)))))
    (sSeq (sIf (HM.tNot (tVal (eCall 3 f__law_judged (aCons (eVar 1) (aCons (eVar 7) (aCons (eVar 3) aNil)))))) (sRet (eC (.bl false))) sNil)
    (sSeq (sIf (HM.tNot (tVal (eCall 3 f__law_is_nearest (aCons (eVar 1) (aCons (eVar 7) (aCons (eCall 2 f_nearest_rising (aCons (eVar 1) (aCons (eVar 7) aNil))) aNil)))))) (sRet (eC (.bl false))) sNil)
    (sRet (eBin oEq (eCallK 0 2 2 [0, 1] f_nearest_rising aNil (aCons (eVar 1) (aCons (eVar 2) aNil))) (eVar 3)))))))))))
theorem ok__law_right {P : Program} {w : World} {K : PySem.W.Frag} {mg : PySem.Str → Option Value} {base : Heap} {f : Addr} {fd : FuncData} {f_nearest_rising f__law_is_nearest f_judge_rising f__law_spoilt f__law_judged f__law_draw f__law_with f__law_plus f__law_up : FM} (F : FnP K "_law_right" s__law_right f fd) (gx : mg "_law_right" = some (.ref f)) (c_nearest_rising : Cal P w K mg base "nearest_rising" 6 ["answers", "weights"] f_nearest_rising) (c__law_is_nearest : Cal P w K mg base "_law_is_nearest" 4 ["numbers", "loads", "line"] f__law_is_nearest) (c_judge_rising : Cal P w K mg base "judge_rising" 5 ["answers", "weights", "row"] f_judge_rising) (c__law_spoilt : Cal P w K mg base "_law_spoilt" 5 ["d", "numbers", "line"] f__law_spoilt) (c__law_judged : Cal P w K mg base "_law_judged" 6 ["numbers", "loads", "line"] f__law_judged) (c__law_draw : Cal P w K mg base "_law_draw" 1 ["d", "many"] f__law_draw) (c__law_with : Cal P w K mg base "_law_with" 1 ["line", "k", "part"] f__law_with) (c__law_plus : Cal P w K mg base "_law_plus" 3 ["x", "y"] f__law_plus) (c__law_up : Cal P w K mg base "_law_up" 3 ["d"] f__law_up) {fa_judge_rising : Addr} {fd_judge_rising : FuncData} (FK_judge_rising : FnP K "judge_rising" s_judge_rising fa_judge_rising fd_judge_rising) (gk_judge_rising : mg "judge_rising" = some (.ref fa_judge_rising)) {fa_nearest_rising : Addr} {fd_nearest_rising : FuncData} (FK_nearest_rising : FnP K "nearest_rising" s_nearest_rising fa_nearest_rising fd_nearest_rising) (gk_nearest_rising : mg "nearest_rising" = some (.ref fa_nearest_rising)) (z_len : mg "len" = none) :
    Cal P w K mg base "_law_right" 7 ["d", "numbers", "loads", "line"] (runB 8 (m__law_right f_nearest_rising f__law_is_nearest f_judge_rising f__law_spoilt f__law_judged f__law_draw f__law_with f__law_plus f__law_up)) :=
  cal_mk (k := 6) F sc__law_right gx (fun _ _ _ _ _ _ us hl => match us, hl with | [_, _, _, _], _ => rfl) fun cdv A outer s H E hr tk hp =>
    (sx_cons (sx_set sc__law_right.nd (ex_c1 c_nearest_rising tk hr (by decide) (ea_cons (xv 1) (ea_cons (xv 2) ea_nil))))
    (sx_cons (sx_if (Ew.et (ew_or (et_not (et_val (ex_c1 c__law_is_nearest tk hr (by decide) (ea_cons (xv 1) (ea_cons (xv 2) (ea_cons (xv 4) ea_nil)))))) (ew_or1 (et_cmp (m_ne hr.units) (xv 4) (xv 3) (nomark _))))) (sx_one (sx_ret ex_bl)) sx_nil)
    (sx_cons (sx_if (et_cmp m_isnot (ex_ck0 (ks := ["answers", "weights", "row"]) (is := [0, 1, 2]) c_judge_rising FK_judge_rising gk_judge_rising (fun _ _ _ _ _ _ us ws hl hk => match us, ws, hl, hk with | [], [_, _, _], _, _ => rfl) tk hr (by decide) (ek_cons (xv 1) (ek_cons (xv 2) (ek_cons (xv 3) ek_nil)))) ex_bl (nomark _)) (sx_one (sx_ret ex_bl)) sx_nil)
    (sx_cons (sx_for hp (by rfl) (ei_ex (ex_c1 c__law_spoilt tk hr (by decide) (ea_cons (xv 0) (ea_cons (xv 1) (ea_cons (xv 3) ea_nil))))) (eg_name sc__law_right.nd) (sx_one (sx_if (et_not (et_val (ex_c1 c__law_judged tk hr (by decide) (ea_cons (xv 1) (ea_cons (xv 2) (ea_cons (xv 5) ea_nil)))))) (sx_one (sx_ret ex_bl)) sx_nil)))
    (sx_cons (sx_set sc__law_right.nd (ex_c1 c__law_draw tk hr (by decide) (ea_cons (xv 0) (ea_cons (ex_callB c_len (by rfl) z_len bt_len (ea_cons (xv 3) ea_nil)) ea_nil))))
    (sx_cons (sx_set sc__law_right.nd (ex_c1 c__law_with tk hr (by decide) (ea_cons (xv 2) (ea_cons (xv 6) (ea_cons (ex_c1 c__law_plus tk hr (by decide) (ea_cons (ex_ix (m_ix hr.units65) (xv 2) (xv 6)) (ea_cons (ex_c1 c__law_up tk hr (by decide) (ea_cons (xv 0) ea_nil)) ea_nil))) ea_nil)))))
    (sx_cons (sx_if (et_not (et_val (ex_c1 c__law_judged tk hr (by decide) (ea_cons (xv 1) (ea_cons (xv 7) (ea_cons (xv 3) ea_nil)))))) (sx_one (sx_ret ex_bl)) sx_nil)
    (sx_cons (sx_if (et_not (et_val (ex_c1 c__law_is_nearest tk hr (by decide) (ea_cons (xv 1) (ea_cons (xv 7) (ea_cons (ex_c1 c_nearest_rising tk hr (by decide) (ea_cons (xv 1) (ea_cons (xv 7) ea_nil))) ea_nil)))))) (sx_one (sx_ret ex_bl)) sx_nil)
    (sx_one (sx_ret (ex_cmp (m_eq hr.units) (ex_ck0 (ks := ["answers", "weights"]) (is := [0, 1]) c_nearest_rising FK_nearest_rising gk_nearest_rising (fun _ _ _ _ _ _ us ws hl hk => match us, ws, hl, hk with | [], [_, _], _, _ => rfl) tk hr (by decide) (ek_cons (xv 1) (ek_cons (xv 2) ek_nil))) (xv 3) (nomark _))))))))))))
def N__law_bad_ones : List PySem.Str := ["d", "many", "loads", "line", "numbers"]
theorem sc__law_bad_ones : FnScope N__law_bad_ones ["d", "many", "loads"] (defScope s__law_bad_ones) := ⟨rfl, rfl, rfl, by decide +kernel, rfl, by decide +kernel, by decide +kernel⟩
def m__law_bad_ones (f__law_stairs : FM) (f__law_answers_of : FM) (f__law_led : FM) (f__law_draw : FM) (f__law_judged : FM) : SM := (sSeq (sSet 3 (eCall 3 f__law_stairs (aCons (eVar 0) (aCons (eVar 1) (aCons (eUn oNeg (eC (.int 1))) aNil)))))
    (sSeq (sSet 4 (eCall 3 f__law_answers_of (aCons (eVar 3) (aCons (eVar 2) (aCons (eCall 3 f__law_led (aCons (eVar 0) (aCons (eVar 3) (aCons (eCall 2 f__law_draw (aCons (eVar 0) (aCons (eVar 1) aNil))) aNil)))) aNil)))))
    (sSeq (sIf (HM.tNot (tVal (eCall 3 f__law_judged (aCons (eVar 4) (aCons (eVar 2) (aCons (eVar 3) aNil)))))) (sRet (eC (.bl false))) sNil)
    (sSeq (sIf (tBl (eBin oGt (eVar 1) (eC (.int 1)))) (sSeq (sSet 3 (eCall 3 f__law_stairs (aCons (eVar 0) (aCons (eVar 1) (aCons (eBin oAdd (eC (.int 1)) (eCall 2 f__law_draw (aCons (eVar 0) (aCons (eBin oSub (eVar 1) (eC (.int 1))) aNil)))) aNil)))))
    (sSet 4 (eCall 3 f__law_answers_of (aCons (eVar 3) (aCons (eVar 2) (aCons (eCall 3 f__law_led (aCons (eVar 0) (aCons (eVar 3) (aCons (eUn oNeg (eC (.int 1))) aNil)))) aNil)))))) sNil)
    (sRet (eCall 3 f__law_judged (aCons (eVar 4) (aCons (eVar 2) (aCons (eVar 3) aNil)))))))))
theorem ok__law_bad_ones {P : Program} {w : World} {K : PySem.W.Frag} {mg : PySem.Str → Option Value} {base : Heap} {f : Addr} {fd : FuncData} {f__law_stairs f__law_answers_of f__law_led f__law_draw f__law_judged : FM} (F : FnP K "_law_bad_ones" s__law_bad_ones f fd) (gx : mg "_law_bad_ones" = some (.ref f)) (c__law_stairs : Cal P w K mg base "_law_stairs" 4 ["d", "many", "bad"] f__law_stairs) (c__law_answers_of : Cal P w K mg base "_law_answers_of" 4 ["line", "loads", "led"] f__law_answers_of) (c__law_led : Cal P w K mg base "_law_led" 5 ["d", "line", "bad"] f__law_led) (c__law_draw : Cal P w K mg base "_law_draw" 1 ["d", "many"] f__law_draw) (c__law_judged : Cal P w K mg base "_law_judged" 6 ["numbers", "loads", "line"] f__law_judged) :
    Cal P w K mg base "_law_bad_ones" 7 ["d", "many", "loads"] (runB 5 (m__law_bad_ones f__law_stairs f__law_answers_of f__law_led f__law_draw f__law_judged)) :=
  cal_mk (k := 6) F sc__law_bad_ones gx (fun _ _ _ _ _ _ us hl => match us, hl with | [_, _, _], _ => rfl) fun cdv A outer s H E hr tk hp =>
    (sx_cons (sx_set sc__law_bad_ones.nd (ex_c1 c__law_stairs tk hr (by decide) (ea_cons (xv 0) (ea_cons (xv 1) (ea_cons (ex_un m_neg ex_int) ea_nil)))))
    (sx_cons (sx_set sc__law_bad_ones.nd (ex_c1 c__law_answers_of tk hr (by decide) (ea_cons (xv 3) (ea_cons (xv 2) (ea_cons (ex_c1 c__law_led tk hr (by decide) (ea_cons (xv 0) (ea_cons (xv 3) (ea_cons (ex_c1 c__law_draw tk hr (by decide) (ea_cons (xv 0) (ea_cons (xv 1) ea_nil))) ea_nil)))) ea_nil)))))
    (sx_cons (sx_if (et_not (et_val (ex_c1 c__law_judged tk hr (by decide) (ea_cons (xv 4) (ea_cons (xv 2) (ea_cons (xv 3) ea_nil)))))) (sx_one (sx_ret ex_bl)) sx_nil)
    (sx_cons (sx_if (et_cmp m_gt (xv 1) ex_int (nomark _)) (sx_cons (sx_set sc__law_bad_ones.nd (ex_c1 c__law_stairs tk hr (by decide) (ea_cons (xv 0) (ea_cons (xv 1) (ea_cons (ex_op m_add ex_int (ex_c1 c__law_draw tk hr (by decide) (ea_cons (xv 0) (ea_cons (ex_op m_sub (xv 1) ex_int) ea_nil)))) ea_nil)))))
    (sx_one (sx_set sc__law_bad_ones.nd (ex_c1 c__law_answers_of tk hr (by decide) (ea_cons (xv 3) (ea_cons (xv 2) (ea_cons (ex_c1 c__law_led tk hr (by decide) (ea_cons (xv 0) (ea_cons (xv 3) (ea_cons (ex_un m_neg ex_int) ea_nil)))) ea_nil))))))) sx_nil)
    (sx_one (sx_ret (ex_c1 c__law_judged tk hr (by decide) (ea_cons (xv 4) (ea_cons (xv 2) (ea_cons (xv 3) ea_nil))))))))))
def N__law_free_numbers : List PySem.Str := ["d", "many", "style", "found", "k"]
theorem sc__law_free_numbers : FnScope N__law_free_numbers ["d", "many"] (defScope s__law_free_numbers) := ⟨rfl, rfl, rfl, by decide +kernel, rfl, by decide +kernel, by decide +kernel⟩
def m__law_free_numbers (f__law_draw : FM) (f__law_signed : FM) (f__law_minus : FM) (f__law_up : FM) : SM := (sSeq (sSet 2 (eCall 2 f__law_draw (aCons (eVar 0) (aCons (eC (.int 5)) aNil))))
    (sSeq (sSet 3 (eLst (aCons (eCall 1 f__law_signed (aCons (eVar 0) aNil)) aNil)))
    (sSeq (sFor (iRg2 (eC (.int 1)) (eVar 1)) (gN 4) (sIf (tBl (eBin oEq (eVar 2) (eC (.int 1)))) (sExpr (eM "list" mAppend (eVar 3) (aCons (eCall 2 f__law_minus (aCons (eBin oIx (eVar 3) (eUn oNeg (eC (.int 1)))) (aCons (eCall 1 f__law_up (aCons (eVar 0) aNil)) aNil))) aNil))) (sIf (tBl (eBin oEq (eVar 2) (eC (.int 2)))) (sExpr (eM "list" mAppend (eVar 3) (aCons (eBin oIx (eVar 3) (eC (.int 0))) aNil))) (sExpr (eM "list" mAppend (eVar 3) (aCons (eCall 1 f__law_signed (aCons (eVar 0) aNil)) aNil))))))
    (sRet (eCB fTuple (aCons (eVar 3) aNil))))))
theorem ok__law_free_numbers {P : Program} {w : World} {K : PySem.W.Frag} {mg : PySem.Str → Option Value} {base : Heap} {f : Addr} {fd : FuncData} {f__law_draw f__law_signed f__law_minus f__law_up : FM} (F : FnP K "_law_free_numbers" s__law_free_numbers f fd) (gx : mg "_law_free_numbers" = some (.ref f)) (c__law_draw : Cal P w K mg base "_law_draw" 1 ["d", "many"] f__law_draw) (c__law_signed : Cal P w K mg base "_law_signed" 3 ["d"] f__law_signed) (c__law_minus : Cal P w K mg base "_law_minus" 3 ["x", "y"] f__law_minus) (c__law_up : Cal P w K mg base "_law_up" 3 ["d"] f__law_up) (z_range : mg "range" = none) (z_tuple : mg "tuple" = none) :
    Cal P w K mg base "_law_free_numbers" 4 ["d", "many"] (runB 5 (m__law_free_numbers f__law_draw f__law_signed f__law_minus f__law_up)) :=
  cal_mk (k := 3) F sc__law_free_numbers gx (fun _ _ _ _ _ _ us hl => match us, hl with | [_, _], _ => rfl) fun cdv A outer s H E hr tk hp =>
    (sx_cons (sx_set sc__law_free_numbers.nd (ex_c1 c__law_draw tk hr (by decide) (ea_cons (xv 0) (ea_cons ex_int ea_nil))))
    (sx_cons (sx_set sc__law_free_numbers.nd (ex_lst (ea_cons (ex_c1 c__law_signed tk hr (by decide) (ea_cons (xv 0) ea_nil)) ea_nil)))
    (sx_cons (sx_for hp (by rfl) (ei_range2 (by rfl) z_range ex_int (xv 1)) (eg_name sc__law_free_numbers.nd) (sx_one (sx_if (et_cmp (m_eq hr.units) (xv 2) ex_int (nomark _)) (sx_one (sx_expr (ex_m PySem.F.plainAttrs_list PySem.F.slot_list_append PySem.F.type_list_append me_append (xv 3) (ea_cons (ex_c1 c__law_minus tk hr (by decide) (ea_cons (ex_ix (m_ix hr.units65) (xv 3) (ex_un m_neg ex_int)) (ea_cons (ex_c1 c__law_up tk hr (by decide) (ea_cons (xv 0) ea_nil)) ea_nil))) ea_nil)))) (sx_one (sx_if (et_cmp (m_eq hr.units) (xv 2) ex_int (nomark _)) (sx_one (sx_expr (ex_m PySem.F.plainAttrs_list PySem.F.slot_list_append PySem.F.type_list_append me_append (xv 3) (ea_cons (ex_ix (m_ix hr.units65) (xv 3) ex_int) ea_nil)))) (sx_one (sx_expr (ex_m PySem.F.plainAttrs_list PySem.F.slot_list_append PySem.F.type_list_append me_append (xv 3) (ea_cons (ex_c1 c__law_signed tk hr (by decide) (ea_cons (xv 0) ea_nil)) ea_nil)))))))))
    (sx_one (sx_ret (ex_callT c_tuple (by rfl) z_tuple bt_tuple (ea_cons (xv 3) ea_nil)))))))
def N__law_is_far : List PySem.Str := ["loads", "line", "second", "told"]
theorem sc__law_is_far : FnScope N__law_is_far ["loads", "line", "second", "told"] (defScope s__law_is_far) := ⟨rfl, rfl, rfl, by decide +kernel, rfl, by decide +kernel, by decide +kernel⟩
def m__law_is_far (f__law_is_frac : FM) (f__law_far : FM) : SM := (sRet (eAnd (eCall 1 f__law_is_frac (aCons (eVar 3) aNil)) (eBin oEq (eVar 3) (eCall 3 f__law_far (aCons (eVar 0) (aCons (eVar 1) (aCons (eVar 2) aNil)))))))
theorem ok__law_is_far {P : Program} {w : World} {K : PySem.W.Frag} {mg : PySem.Str → Option Value} {base : Heap} {f : Addr} {fd : FuncData} {f__law_is_frac f__law_far : FM} (F : FnP K "_law_is_far" s__law_is_far f fd) (gx : mg "_law_is_far" = some (.ref f)) (c__law_is_frac : Cal P w K mg base "_law_is_frac" 2 ["thing"] f__law_is_frac) (c__law_far : Cal P w K mg base "_law_far" 4 ["loads", "line", "second"] f__law_far) :
    Cal P w K mg base "_law_is_far" 5 ["loads", "line", "second", "told"] (runB 4 (m__law_is_far f__law_is_frac f__law_far)) :=
  cal_mk (k := 4) F sc__law_is_far gx (fun _ _ _ _ _ _ us hl => match us, hl with | [_, _, _, _], _ => rfl) fun cdv A outer s H E hr tk hp =>
    (sx_one (sx_ret (ex_and (ex_c1 c__law_is_frac tk hr (by decide) (ea_cons (xv 3) ea_nil)) (ex_one (ex_cmp (m_eq hr.units) (xv 3) (ex_c1 c__law_far tk hr (by decide) (ea_cons (xv 0) (ea_cons (xv 1) (ea_cons (xv 2) ea_nil)))) (nomark _))))))
def N__law_free : List PySem.Str := ["d", "numbers", "loads", "told", "truth", "whole", "near", "left"]
theorem sc__law_free : FnScope N__law_free ["d", "numbers", "loads"] (defScope s__law_free) := ⟨rfl, rfl, rfl, by decide +kernel, rfl, by decide +kernel, by decide +kernel⟩
def m__law_free (f_nearest_rising : FM) (f__law_is_nearest : FM) (f_judge_rising : FM) (f__law_stairs : FM) (f_square_distance : FM) (f__law_is_far : FM) (f__law_less : FM) (f__law_plus : FM) (f__law_judged : FM) : SM := (sSeq (sSet 3 (eCall 2 f_nearest_rising (aCons (eVar 1) (aCons (eVar 2) aNil))))
    (sSeq (sIf (tOr (HM.tNot (tVal (eCall 3 f__law_is_nearest (aCons (eVar 1) (aCons (eVar 2) (aCons (eVar 3) aNil)))))) (tBl (eBin oIsNot (eCall 3 f_judge_rising (aCons (eVar 1) (aCons (eVar 2) (aCons (eVar 3) aNil)))) (eC (.bl true))))) (sRet (eC (.bl false))) sNil)
    (sSeq (sSet 4 (eCall 3 f__law_stairs (aCons (eVar 0) (aCons (eCB fLen (aCons (eVar 1) aNil)) (aCons (eUn oNeg (eC (.int 1))) aNil)))))
    (sSeq (sSet 5 (eCall 3 f_square_distance (aCons (eVar 2) (aCons (eVar 1) (aCons (eVar 4) aNil)))))
    (sSeq (sSet 6 (eCall 3 f_square_distance (aCons (eVar 2) (aCons (eVar 1) (aCons (eVar 3) aNil)))))
    (sSeq (sSet 7 (eCall 3 f_square_distance (aCons (eVar 2) (aCons (eVar 3) (aCons (eVar 4) aNil)))))
    (sSeq (sIf (tOr (HM.tNot (tVal (eCall 4 f__law_is_far (aCons (eVar 2) (aCons (eVar 1) (aCons (eVar 4) (aCons (eVar 5) aNil))))))) (HM.tNot (tVal (eCall 4 f__law_is_far (aCons (eVar 2) (aCons (eVar 1) (aCons (eVar 3) (aCons (eVar 6) aNil)))))))) (sRet (eC (.bl false))) sNil)
    (sSeq (sIf (tOr (HM.tNot (tVal (eCall 4 f__law_is_far (aCons (eVar 2) (aCons (eVar 3) (aCons (eVar 4) (aCons (eVar 7) aNil))))))) (tVal (eCall 2 f__law_less (aCons (eVar 5) (aCons (eCall 2 f__law_plus (aCons (eVar 6) (aCons (eVar 7) aNil))) aNil))))) (sRet (eC (.bl false))) sNil)
    (sRet (eAnd (eBin oEq (eCall 2 f_nearest_rising (aCons (eVar 4) (aCons (eVar 2) aNil))) (eVar 4)) (eCall 3 f__law_judged (aCons (eVar 4) (aCons (eVar 2) (aCons (eVar 4) aNil))))))))))))))
theorem ok__law_free {P : Program} {w : World} {K : PySem.W.Frag} {mg : PySem.Str → Option Value} {base : Heap} {f : Addr} {fd : FuncData} {f_nearest_rising f__law_is_nearest f_judge_rising f__law_stairs f_square_distance f__law_is_far f__law_less f__law_plus f__law_judged : FM} (F : FnP K "_law_free" s__law_free f fd) (gx : mg "_law_free" = some (.ref f)) (c_nearest_rising : Cal P w K mg base "nearest_rising" 6 ["answers", "weights"] f_nearest_rising) (c__law_is_nearest : Cal P w K mg base "_law_is_nearest" 4 ["numbers", "loads", "line"] f__law_is_nearest) (c_judge_rising : Cal P w K mg base "judge_rising" 5 ["answers", "weights", "row"] f_judge_rising) (c__law_stairs : Cal P w K mg base "_law_stairs" 4 ["d", "many", "bad"] f__law_stairs) (c_square_distance : Cal P w K mg base "square_distance" 4 ["weights", "row", "other"] f_square_distance) (c__law_is_far : Cal P w K mg base "_law_is_far" 5 ["loads", "line", "second", "told"] f__law_is_far) (c__law_less : Cal P w K mg base "_law_less" 1 ["x", "y"] f__law_less) (c__law_plus : Cal P w K mg base "_law_plus" 3 ["x", "y"] f__law_plus) (c__law_judged : Cal P w K mg base "_law_judged" 6 ["numbers", "loads", "line"] f__law_judged) (z_len : mg "len" = none) :
    Cal P w K mg base "_law_free" 7 ["d", "numbers", "loads"] (runB 8 (m__law_free f_nearest_rising f__law_is_nearest f_judge_rising f__law_stairs f_square_distance f__law_is_far f__law_less f__law_plus f__law_judged)) :=
  cal_mk (k := 6) F sc__law_free gx (fun _ _ _ _ _ _ us hl => match us, hl with | [_, _, _], _ => rfl) fun cdv A outer s H E hr tk hp =>
    (sx_cons (sx_set sc__law_free.nd (ex_c1 c_nearest_rising tk hr (by decide) (ea_cons (xv 1) (ea_cons (xv 2) ea_nil))))
    (sx_cons (sx_if (Ew.et (ew_or (et_not (et_val (ex_c1 c__law_is_nearest tk hr (by decide) (ea_cons (xv 1) (ea_cons (xv 2) (ea_cons (xv 3) ea_nil)))))) (ew_or1 (et_cmp m_isnot (ex_c1 c_judge_rising tk hr (by decide) (ea_cons (xv 1) (ea_cons (xv 2) (ea_cons (xv 3) ea_nil)))) ex_bl (nomark _))))) (sx_one (sx_ret ex_bl)) sx_nil)
    (sx_cons (sx_set sc__law_free.nd (ex_c1 c__law_stairs tk hr (by decide) (ea_cons (xv 0) (ea_cons (ex_callB c_len (by rfl) z_len bt_len (ea_cons (xv 1) ea_nil)) (ea_cons (ex_un m_neg ex_int) ea_nil)))))
    (sx_cons (sx_set sc__law_free.nd (ex_c1 c_square_distance tk hr (by decide) (ea_cons (xv 2) (ea_cons (xv 1) (ea_cons (xv 4) ea_nil)))))
    (sx_cons (sx_set sc__law_free.nd (ex_c1 c_square_distance tk hr (by decide) (ea_cons (xv 2) (ea_cons (xv 1) (ea_cons (xv 3) ea_nil)))))
    (sx_cons (sx_set sc__law_free.nd (ex_c1 c_square_distance tk hr (by decide) (ea_cons (xv 2) (ea_cons (xv 3) (ea_cons (xv 4) ea_nil)))))
    (sx_cons (sx_if (Ew.et (ew_or (et_not (et_val (ex_c1 c__law_is_far tk hr (by decide) (ea_cons (xv 2) (ea_cons (xv 1) (ea_cons (xv 4) (ea_cons (xv 5) ea_nil))))))) (ew_or1 (et_not (et_val (ex_c1 c__law_is_far tk hr (by decide) (ea_cons (xv 2) (ea_cons (xv 1) (ea_cons (xv 3) (ea_cons (xv 6) ea_nil)))))))))) (sx_one (sx_ret ex_bl)) sx_nil)
    (sx_cons (sx_if (Ew.et (ew_or (et_not (et_val (ex_c1 c__law_is_far tk hr (by decide) (ea_cons (xv 2) (ea_cons (xv 3) (ea_cons (xv 4) (ea_cons (xv 7) ea_nil))))))) (ew_or1 (et_val (ex_c1 c__law_less tk hr (by decide) (ea_cons (xv 5) (ea_cons (ex_c1 c__law_plus tk hr (by decide) (ea_cons (xv 6) (ea_cons (xv 7) ea_nil))) ea_nil))))))) (sx_one (sx_ret ex_bl)) sx_nil)
    (sx_one (sx_ret (ex_and (ex_cmp (m_eq hr.units) (ex_c1 c_nearest_rising tk hr (by decide) (ea_cons (xv 4) (ea_cons (xv 2) ea_nil))) (xv 4) (nomark _)) (ex_one (ex_c1 c__law_judged tk hr (by decide) (ea_cons (xv 4) (ea_cons (xv 2) (ea_cons (xv 4) ea_nil))))))))))))))))
def N_law : List PySem.Str := ["script", "d", "many", "loads", "line", "numbers", "free", "great", "part"]
theorem sc_law : FnScope N_law ["script"] (defScope s_law) := ⟨rfl, rfl, rfl, by decide +kernel, rfl, by decide +kernel, by decide +kernel⟩
def m_law (f__law_begin : FM) (f__law_rare : FM) (f__law_draw : FM) (f__law_loads : FM) (f__law_stairs : FM) (f__law_answers_of : FM) (f__law_led : FM) (f__law_free_numbers : FM) (f__law_f : FM) (f__law_plus : FM) (f__law_with : FM) (f__law_right : FM) (f__law_bad_ones : FM) (f__law_free : FM) (f_nearest_rising : FM) : SM := (sSeq (sSet 1 (eCall 1 f__law_begin (aCons (eVar 0) aNil)))
    (sSeq (sSet 2 (eIf (tVal (eCall 2 f__law_rare (aCons (eVar 1) (aCons (eC (.int 9)) aNil)))) (eBin oAdd (eC (.int 18)) (eCall 2 f__law_draw (aCons (eVar 1) (aCons (eC (.int 3)) aNil)))) (eBin oAdd (eC (.int 1)) (eCall 2 f__law_draw (aCons (eVar 1) (aCons (eC (.int 7)) aNil))))))
    (sSeq (sSet 3 (eCall 2 f__law_loads (aCons (eVar 1) (aCons (eVar 2) aNil))))
    (sSeq (sSet 4 (eCall 3 f__law_stairs (aCons (eVar 1) (aCons (eVar 2) (aCons (eUn oNeg (eC (.int 1))) aNil)))))
    (sSeq (sSet 5 (eCall 3 f__law_answers_of (aCons (eVar 4) (aCons (eVar 3) (aCons (eCall 3 f__law_led (aCons (eVar 1) (aCons (eVar 4) (aCons (eUn oNeg (eC (.int 1))) aNil)))) aNil)))))
    (sSeq (sSet 6 (eCall 2 f__law_free_numbers (aCons (eVar 1) (aCons (eVar 2) aNil))))
    (sSeq (sIf (tVal (eCall 2 f__law_rare (aCons (eVar 1) (aCons (eC (.int 7)) aNil)))) (sSeq (sSet 7 (eCall 2 f__law_f (aCons (eBin oMul (eBin oAdd (eBin oPow (eC (.int 10)) (eC (.int 40))) (eCall 2 f__law_draw (aCons (eVar 1) (aCons (eC (.int 1000)) aNil)))) (eBin oIx (eLst (aCons (eC (.int 1)) (aCons (eUn oNeg (eC (.int 1))) aNil))) (eCall 2 f__law_draw (aCons (eVar 1) (aCons (eC (.int 2)) aNil))))) (aCons (eBin oAdd (eBin oPow (eC (.int 10)) (eC (.int 30))) (eC (.int 3))) aNil))))
    (sSeq (sSet 4 (eCS gTuple (lComp [8] (iEx (eVar 4)) (gN 8) tYes (eCall 2 f__law_plus (aCons (eVar 8) (aCons (eVar 7) aNil))))))
    (sSeq (sSet 5 (eCS gTuple (lComp [8] (iEx (eVar 5)) (gN 8) tYes (eCall 2 f__law_plus (aCons (eVar 8) (aCons (eVar 7) aNil))))))
    (sSet 6 (eCall 3 f__law_with (aCons (eVar 6) (aCons (eCall 2 f__law_draw (aCons (eVar 1) (aCons (eVar 2) aNil))) (aCons (eVar 7) aNil)))))))) sNil)
    (sSeq (sIf (tOr (HM.tNot (tVal (eCall 4 f__law_right (aCons (eVar 1) (aCons (eVar 5) (aCons (eVar 3) (aCons (eVar 4) aNil))))))) (HM.tNot (tVal (eCall 3 f__law_bad_ones (aCons (eVar 1) (aCons (eVar 2) (aCons (eVar 3) aNil))))))) (sRet (eC (.bl false))) sNil)
    (sRet (eAnd (eCall 3 f__law_free (aCons (eVar 1) (aCons (eVar 6) (aCons (eVar 3) aNil)))) (eBin oEq (eCall 2 f_nearest_rising (aCons (eVar 5) (aCons (eVar 3) aNil))) (eVar 4))))))))))))
theorem ok_law {P : Program} {w : World} {K : PySem.W.Frag} {mg : PySem.Str → Option Value} {base : Heap} {f : Addr} {fd : FuncData} {f__law_begin f__law_rare f__law_draw f__law_loads f__law_stairs f__law_answers_of f__law_led f__law_free_numbers f__law_f f__law_plus f__law_with f__law_right f__law_bad_ones f__law_free f_nearest_rising : FM} (F : FnP K "law" s_law f fd) (c__law_begin : Cal P w K mg base "_law_begin" 1 ["script"] f__law_begin) (c__law_rare : Cal P w K mg base "_law_rare" 2 ["d", "many"] f__law_rare) (c__law_draw : Cal P w K mg base "_law_draw" 1 ["d", "many"] f__law_draw) (c__law_loads : Cal P w K mg base "_law_loads" 3 ["d", "many"] f__law_loads) (c__law_stairs : Cal P w K mg base "_law_stairs" 4 ["d", "many", "bad"] f__law_stairs) (c__law_answers_of : Cal P w K mg base "_law_answers_of" 4 ["line", "loads", "led"] f__law_answers_of) (c__law_led : Cal P w K mg base "_law_led" 5 ["d", "line", "bad"] f__law_led) (c__law_free_numbers : Cal P w K mg base "_law_free_numbers" 4 ["d", "many"] f__law_free_numbers) (c__law_f : Cal P w K mg base "_law_f" 2 ["n", "d"] f__law_f) (c__law_plus : Cal P w K mg base "_law_plus" 3 ["x", "y"] f__law_plus) (c__law_with : Cal P w K mg base "_law_with" 1 ["line", "k", "part"] f__law_with) (c__law_right : Cal P w K mg base "_law_right" 7 ["d", "numbers", "loads", "line"] f__law_right) (c__law_bad_ones : Cal P w K mg base "_law_bad_ones" 7 ["d", "many", "loads"] f__law_bad_ones) (c__law_free : Cal P w K mg base "_law_free" 7 ["d", "numbers", "loads"] f__law_free) (c_nearest_rising : Cal P w K mg base "nearest_rising" 6 ["answers", "weights"] f_nearest_rising) (z_tuple : mg "tuple" = none) :
    FnM P w K mg base 8 f fd ["script"] (runB 9 (m_law f__law_begin f__law_rare f__law_draw f__law_loads f__law_stairs f__law_answers_of f__law_led f__law_free_numbers f__law_f f__law_plus f__law_with f__law_right f__law_bad_ones f__law_free f_nearest_rising)) :=
  fn_def (k := 7) F sc_law fun cdv A outer s H E hr tk hp =>
    (sx_cons (sx_set sc_law.nd (ex_c1 c__law_begin tk hr (by decide) (ea_cons (xv 0) ea_nil)))
    (sx_cons (sx_set sc_law.nd (ex_if (et_val (ex_c1 c__law_rare tk hr (by decide) (ea_cons (xv 1) (ea_cons ex_int ea_nil)))) (ex_op m_add ex_int (ex_c1 c__law_draw tk hr (by decide) (ea_cons (xv 1) (ea_cons ex_int ea_nil)))) (ex_op m_add ex_int (ex_c1 c__law_draw tk hr (by decide) (ea_cons (xv 1) (ea_cons ex_int ea_nil))))))
    (sx_cons (sx_set sc_law.nd (ex_c1 c__law_loads tk hr (by decide) (ea_cons (xv 1) (ea_cons (xv 2) ea_nil))))
    (sx_cons (sx_set sc_law.nd (ex_c1 c__law_stairs tk hr (by decide) (ea_cons (xv 1) (ea_cons (xv 2) (ea_cons (ex_un m_neg ex_int) ea_nil)))))
    (sx_cons (sx_set sc_law.nd (ex_c1 c__law_answers_of tk hr (by decide) (ea_cons (xv 4) (ea_cons (xv 3) (ea_cons (ex_c1 c__law_led tk hr (by decide) (ea_cons (xv 1) (ea_cons (xv 4) (ea_cons (ex_un m_neg ex_int) ea_nil)))) ea_nil)))))
    (sx_cons (sx_set sc_law.nd (ex_c1 c__law_free_numbers tk hr (by decide) (ea_cons (xv 1) (ea_cons (xv 2) ea_nil))))
    (sx_cons (sx_if (et_val (ex_c1 c__law_rare tk hr (by decide) (ea_cons (xv 1) (ea_cons ex_int ea_nil)))) (sx_cons (sx_set sc_law.nd (ex_c1 c__law_f tk hr (by decide) (ea_cons (ex_op m_mul (ex_op m_add (ex_op m_pow ex_int ex_int) (ex_c1 c__law_draw tk hr (by decide) (ea_cons (xv 1) (ea_cons ex_int ea_nil)))) (ex_ix (m_ix hr.units65) (ex_lst (ea_cons ex_int (ea_cons (ex_un m_neg ex_int) ea_nil))) (ex_c1 c__law_draw tk hr (by decide) (ea_cons (xv 1) (ea_cons ex_int ea_nil))))) (ea_cons (ex_op m_add (ex_op m_pow ex_int ex_int) ex_int) ea_nil))))
    (sx_cons (sx_set sc_law.nd (ex_callTs s_tuple (by rfl) z_tuple bt_tuple (es_el (el_comp (own := [(("part" : PySem.Str), 8)]) (by rfl) sc_law.nd (ei_ex (xv 4)) (blkOk_by (N := N_law) (sc := (defScope s_law)) (by decide +kernel)) (fun _ _ _ _ _ => (eg_name sc_law.nd)) (fun _ _ _ _ _ => ets_nil) (fun _ _ _ _ _ => (ex_c1 c__law_plus tk0 hr (by decide) (ea_cons (xv 8) (ea_cons (xv 7) ea_nil))))))))
    (sx_cons (sx_set sc_law.nd (ex_callTs s_tuple (by rfl) z_tuple bt_tuple (es_el (el_comp (own := [(("part" : PySem.Str), 8)]) (by rfl) sc_law.nd (ei_ex (xv 5)) (blkOk_by (N := N_law) (sc := (defScope s_law)) (by decide +kernel)) (fun _ _ _ _ _ => (eg_name sc_law.nd)) (fun _ _ _ _ _ => ets_nil) (fun _ _ _ _ _ => (ex_c1 c__law_plus tk0 hr (by decide) (ea_cons (xv 8) (ea_cons (xv 7) ea_nil))))))))
    (sx_one (sx_set sc_law.nd (ex_c1 c__law_with tk hr (by decide) (ea_cons (xv 6) (ea_cons (ex_c1 c__law_draw tk hr (by decide) (ea_cons (xv 1) (ea_cons (xv 2) ea_nil))) (ea_cons (xv 7) ea_nil))))))))) sx_nil)
    (sx_cons (sx_if (Ew.et (ew_or (et_not (et_val (ex_c1 c__law_right tk hr (by decide) (ea_cons (xv 1) (ea_cons (xv 5) (ea_cons (xv 3) (ea_cons (xv 4) ea_nil))))))) (ew_or1 (et_not (et_val (ex_c1 c__law_bad_ones tk hr (by decide) (ea_cons (xv 1) (ea_cons (xv 2) (ea_cons (xv 3) ea_nil))))))))) (sx_one (sx_ret ex_bl)) sx_nil)
    (sx_one (sx_ret (ex_and (ex_c1 c__law_free tk hr (by decide) (ea_cons (xv 1) (ea_cons (xv 6) (ea_cons (xv 3) ea_nil)))) (ex_one (ex_cmp (m_eq hr.units) (ex_c1 c_nearest_rising tk hr (by decide) (ea_cons (xv 5) (ea_cons (xv 3) ea_nil))) (xv 4) (nomark _))))))))))))))
end K65

/-! fractions in lowest terms -/
namespace HM
open PySem PySem.Spec L2
/-- the sign that makes a denominator positive, times the greatest common divisor -/
def com (n d : Int) : Int := if d < 0 then -((Nat.gcd n.natAbs d.natAbs : Nat) : Int) else (Nat.gcd n.natAbs d.natAbs : Nat)
def rn (n d : Int) : Int := n.fdiv (com n d)
def rd (n d : Int) : Int := d.fdiv (com n d)
abbrev fr (a b : Int) : D := .tup [.int a, .int b]
abbrev rat (n d : Int) : D := fr (rn n d) (rd n d)
theorem com_abs {n d : Int} : (com n d).natAbs = Nat.gcd n.natAbs d.natAbs := by
  unfold com
  split <;> omega
theorem com_ne {n d : Int} (h : d ≠ 0) : com n d ≠ 0 := by
  have := Nat.gcd_pos_of_pos_right n.natAbs (Int.natAbs_pos.mpr h)
  have := com_abs (n := n) (d := d)
  omega
theorem com_le {n d : Int} (h : d ≠ 0) : (com n d).natAbs ≤ d.natAbs := by
  rw [com_abs]
  exact Nat.le_of_dvd (Int.natAbs_pos.mpr h) (Nat.gcd_dvd_right _ _)
theorem rat_n {n d : Int} (h : d ≠ 0) : n = com n d * rn n d := by
  have z : com n d ∣ n := by
    rw [← Int.natAbs_dvd_natAbs, com_abs]
    exact Nat.gcd_dvd_left _ _
  obtain ⟨k, hk⟩ := z
  have e : rn n d = k := by
    unfold rn
    rw [hk]
    have hc : com n d ≠ 0 := com_ne h
    rw [← hk]
    rw (occs := .pos [1]) [hk]
    exact Int.mul_fdiv_cancel_left k hc
  rw [e]
  exact hk
theorem rat_d {n d : Int} (h : d ≠ 0) : d = com n d * rd n d := by
  have z : com n d ∣ d := by
    rw [← Int.natAbs_dvd_natAbs, com_abs]
    exact Nat.gcd_dvd_right _ _
  obtain ⟨k, hk⟩ := z
  have e : rd n d = k := by
    unfold rd
    have hc : com n d ≠ 0 := com_ne h
    rw (occs := .pos [1]) [hk]
    exact Int.mul_fdiv_cancel_left k hc
  rw [e]
  exact hk
theorem rat_pos {n d : Int} (h : d ≠ 0) : 0 < rd n d := by
  have e := rat_d (n := n) h
  have hg := com_ne (n := n) h
  by_cases hd : d < 0
  · have hc : com n d < 0 := by
      have : com n d = -((Nat.gcd n.natAbs d.natAbs : Nat) : Int) := by unfold com; rw [if_pos hd]
      omega
    rcases Int.lt_trichotomy 0 (rd n d) with z | z | z
    · exact z
    · rw [← z] at e
      simp at e
      exact absurd e h
    · have := Int.mul_pos_of_neg_of_neg hc z
      omega
  · have hc : 0 < com n d := by
      have : com n d = ((Nat.gcd n.natAbs d.natAbs : Nat) : Int) := by unfold com; rw [if_neg hd]
      omega
    rcases Int.lt_trichotomy 0 (rd n d) with z | z | z
    · exact z
    · rw [← z] at e
      simp at e
      exact absurd e h
    · have := Int.mul_neg_of_pos_of_neg hc z
      omega
theorem rat_cop {n d : Int} (h : d ≠ 0) : Nat.gcd (rn n d).natAbs (rd n d).natAbs = 1 := by
  have e1 := congrArg Int.natAbs (rat_n (n := n) h)
  have e2 := congrArg Int.natAbs (rat_d (n := n) h)
  rw [Int.natAbs_mul] at e1 e2
  have z : Nat.gcd n.natAbs d.natAbs = (com n d).natAbs * Nat.gcd (rn n d).natAbs (rd n d).natAbs := by
    rw [← Nat.gcd_mul_left, ← e1, ← e2]
  rw [← com_abs] at z
  have hc : 0 < (com n d).natAbs := Int.natAbs_pos.mpr (com_ne h)
  have : (com n d).natAbs * 1 = (com n d).natAbs * Nat.gcd (rn n d).natAbs (rd n d).natAbs := by omega
  exact (Nat.eq_of_mul_eq_mul_left hc this).symm
theorem rat_cross {n d : Int} (h : d ≠ 0) : rn n d * d = n * rd n d := by
  have e1 := rat_n (n := n) h
  have e2 := rat_d (n := n) h
  calc rn n d * d = rn n d * (com n d * rd n d) := by rw [← e2]
    _ = com n d * rn n d * rd n d := by rw [← Int.mul_assoc, Int.mul_comm (rn n d)]
    _ = n * rd n d := by rw [← e1]
theorem rn_le {n d : Int} (h : d ≠ 0) : (rn n d).natAbs ≤ n.natAbs := by
  have e1 := congrArg Int.natAbs (rat_n (n := n) h)
  rw [Int.natAbs_mul] at e1
  have hc : 0 < (com n d).natAbs := Int.natAbs_pos.mpr (com_ne h)
  rw [e1]
  exact Nat.le_mul_of_pos_left _ hc
theorem rd_le {n d : Int} (h : d ≠ 0) : (rd n d).natAbs ≤ d.natAbs := by
  have e1 := congrArg Int.natAbs (rat_d (n := n) h)
  rw [Int.natAbs_mul] at e1
  have hc : 0 < (com n d).natAbs := Int.natAbs_pos.mpr (com_ne h)
  rw [e1]
  exact Nat.le_mul_of_pos_left _ hc
/-- two pairs in lowest terms that are equal crosswise are equal -/
theorem low_eq {a b c d : Int} (hb : 0 < b) (hd : 0 < d) (h1 : Nat.gcd a.natAbs b.natAbs = 1) (h2 : Nat.gcd c.natAbs d.natAbs = 1) (e : a * d = c * b) : a = c ∧ b = d := by
  have e' := congrArg Int.natAbs e
  rw [Int.natAbs_mul, Int.natAbs_mul] at e'
  have bd : b.natAbs ∣ d.natAbs := by
    have z : b.natAbs ∣ a.natAbs * d.natAbs := ⟨c.natAbs, by rw [e', Nat.mul_comm]⟩
    exact Nat.Coprime.dvd_of_dvd_mul_left ((Nat.gcd_comm _ _).trans h1 : Nat.Coprime _ _) z
  have db : d.natAbs ∣ b.natAbs := by
    have z : d.natAbs ∣ c.natAbs * b.natAbs := ⟨a.natAbs, by rw [← e', Nat.mul_comm]⟩
    exact Nat.Coprime.dvd_of_dvd_mul_left ((Nat.gcd_comm _ _).trans h2 : Nat.Coprime _ _) z
  have ebd : b = d := by
    have := Nat.dvd_antisymm bd db
    omega
  subst ebd
  exact ⟨Int.eq_of_mul_eq_mul_right (by omega) e, rfl⟩
theorem rat_eq {n d m e : Int} (hd : d ≠ 0) (he : e ≠ 0) (h : n * e = m * d) : rn n d = rn m e ∧ rd n d = rd m e := by
  refine low_eq (rat_pos hd) (rat_pos he) (rat_cop hd) (rat_cop he) ?_
  have c1 := rat_cross (n := n) hd
  have c2 := rat_cross (n := m) he
  -- (rn n d * rd m e) * (d * e) = (rn m e * rd n d) * (d * e)
  refine Int.eq_of_mul_eq_mul_right (show d * e ≠ 0 from Int.mul_ne_zero hd he) ?_
  calc rn n d * rd m e * (d * e) = (rn n d * d) * (rd m e * e) := by simp only [Int.mul_assoc, Int.mul_comm, Int.mul_left_comm]
    _ = (n * rd n d) * (rd m e * e) := by rw [c1]
    _ = (n * e) * (rd n d * rd m e) := by simp only [Int.mul_assoc, Int.mul_comm, Int.mul_left_comm]
    _ = (m * d) * (rd n d * rd m e) := by rw [h]
    _ = (m * rd m e) * (rd n d * d) := by simp only [Int.mul_assoc, Int.mul_comm, Int.mul_left_comm]
    _ = (rn m e * e) * (rd n d * d) := by rw [c2]
    _ = rn m e * rd n d * (d * e) := by simp only [Int.mul_assoc, Int.mul_comm, Int.mul_left_comm]
/-- a fraction in lowest terms is its own -/
theorem rat_self {a b : Int} (hb : 0 < b) (h : Nat.gcd a.natAbs b.natAbs = 1) : rn a b = a ∧ rd a b = b :=
  low_eq (rat_pos (by omega)) hb (rat_cop (by omega)) h (rat_cross (by omega))
/-! sizes -/
theorem okMul_of {i j : Int} {k l : Nat} (hi : i.natAbs < 2 ^ k) (hj : j.natAbs < 2 ^ l) (h : k + l < 1000000) : okMul i j = true := by
  refine decide_eq_true (.inr ?_)
  have a : ∀ {x k : Nat}, x < 2 ^ k → x.log2 ≤ k := fun {x k} h => by
    by_cases z : x = 0
    · subst z
      exact Nat.zero_le _
    · exact Nat.le_of_lt ((Nat.log2_lt z).mpr h)
  have := a hi
  have := a hj
  omega
theorem mul_lt {i j : Int} {k l : Nat} (hi : i.natAbs < 2 ^ k) (hj : j.natAbs < 2 ^ l) : (i * j).natAbs < 2 ^ (k + l) := by
  rw [Int.natAbs_mul, Nat.pow_add]
  exact Nat.mul_lt_mul'' hi hj
theorem add_lt {i j : Int} {k : Nat} (hi : i.natAbs < 2 ^ k) (hj : j.natAbs < 2 ^ k) : (i + j).natAbs < 2 ^ (k + 1) := by
  rw [Nat.pow_succ]
  omega
theorem sub_lt {i j : Int} {k : Nat} (hi : i.natAbs < 2 ^ k) (hj : j.natAbs < 2 ^ k) : (i - j).natAbs < 2 ^ (k + 1) := by
  rw [Nat.pow_succ]
  omega
theorem lt_up {x k l : Nat} (h : x < 2 ^ k) (hl : k ≤ l) : x < 2 ^ l := Nat.lt_of_lt_of_le h (Nat.pow_le_pow_right (by decide) hl)
theorem okDiv_com {n d i : Int} {k : Nat} (h : d ≠ 0) (hd : d.natAbs < 2 ^ k) (hk : k ≤ 9000) : okDiv i (com n d) = true := by
  have hc := com_ne (n := n) h
  refine decide_eq_true ⟨hc, ?_⟩
  have hl := com_le (n := n) h
  have : (com n d).natAbs ≠ 0 := by omega
  rw [Nat.log2_lt this]
  exact Nat.lt_of_le_of_lt hl (lt_up hd hk)
end HM

namespace K65
open PySem PySem.Spec PyProof.Rows L2 HM

def f_ratio : FM := runB 3 (m_ratio)
theorem le_ratio : ∀ ds st, Le st (runB 3 (m_ratio) ds st) (f_ratio ds st) := fun _ _ => .refl _
def f_plus : FM := runB 2 (m_plus f_ratio)
theorem le_plus : ∀ ds st, Le st (runB 2 (m_plus f_ratio) ds st) (f_plus ds st) := fun _ _ => .refl _
def f_minus : FM := runB 2 (m_minus f_ratio)
theorem le_minus : ∀ ds st, Le st (runB 2 (m_minus f_ratio) ds st) (f_minus ds st) := fun _ _ => .refl _
def f_times : FM := runB 2 (m_times f_ratio)
theorem le_times : ∀ ds st, Le st (runB 2 (m_times f_ratio) ds st) (f_times ds st) := fun _ _ => .refl _
def f_over : FM := runB 2 (m_over f_ratio)
theorem le_over : ∀ ds st, Le st (runB 2 (m_over f_ratio) ds st) (f_over ds st) := fun _ _ => .refl _
def f_is_below : FM := runB 2 (m_is_below)
theorem le_is_below : ∀ ds st, Le st (runB 2 (m_is_below) ds st) (f_is_below ds st) := fun _ _ => .refl _
def f_is_fraction : FM := runB 3 (m_is_fraction)
theorem le_is_fraction : ∀ ds st, Le st (runB 3 (m_is_fraction) ds st) (f_is_fraction ds st) := fun _ _ => .refl _
def f_height_at : FM := runB 3 (m_height_at f_minus f_times)
theorem le_height_at : ∀ ds st, Le st (runB 3 (m_height_at f_minus f_times) ds st) (f_height_at ds st) := fun _ _ => .refl _
def f_pull_at : FM := runB 2 (m_pull_at f_times f_minus)
theorem le_pull_at : ∀ ds st, Le st (runB 2 (m_pull_at f_times f_minus) ds st) (f_pull_at ds st) := fun _ _ => .refl _
def f_joined_bowl : FM := runB 4 (m_joined_bowl f_plus f_times f_over)
theorem le_joined_bowl : ∀ ds st, Le st (runB 4 (m_joined_bowl f_plus f_times f_over) ds st) (f_joined_bowl ds st) := fun _ _ => .refl _
def f_is_ahead : FM := runB 2 (m_is_ahead f_is_below)
theorem le_is_ahead : ∀ ds st, Le st (runB 2 (m_is_ahead f_is_below) ds st) (f_is_ahead ds st) := fun _ _ => .refl _
def f_one_block : FM := runB 2 (m_one_block f_joined_bowl)
theorem le_one_block : ∀ ds st, Le st (runB 2 (m_one_block f_joined_bowl) ds st) (f_one_block ds st) := fun _ _ => .refl _
def f_pooled_blocks : FM := runB 6 (m_pooled_blocks f_is_ahead f_one_block)
theorem le_pooled_blocks : ∀ ds st, Le st (runB 6 (m_pooled_blocks f_is_ahead f_one_block) ds st) (f_pooled_blocks ds st) := fun _ _ => .refl _
def f_nearest_rising : FM := runB 6 (m_nearest_rising f_pooled_blocks)
theorem le_nearest_rising : ∀ ds st, Le st (runB 6 (m_nearest_rising f_pooled_blocks) ds st) (f_nearest_rising ds st) := fun _ _ => .refl _
def f_is_rising : FM := runB 2 (m_is_rising f_is_below)
theorem le_is_rising : ∀ ds st, Le st (runB 2 (m_is_rising f_is_below) ds st) (f_is_rising ds st) := fun _ _ => .refl _
def f_rises_behind : FM := runB 2 (m_rises_behind)
theorem le_rises_behind : ∀ ds st, Le st (runB 2 (m_rises_behind) ds st) (f_rises_behind ds st) := fun _ _ => .refl _
def f_pulls_up_to : FM := runB 8 (m_pulls_up_to f_plus f_pull_at)
theorem le_pulls_up_to : ∀ ds st, Le st (runB 8 (m_pulls_up_to f_plus f_pull_at) ds st) (f_pulls_up_to ds st) := fun _ _ => .refl _
def f_judge_rising : FM := runB 6 (m_judge_rising f_is_fraction f_is_rising f_pulls_up_to f_is_below f_rises_behind)
theorem le_judge_rising : ∀ ds st, Le st (runB 6 (m_judge_rising f_is_fraction f_is_rising f_pulls_up_to f_is_below f_rises_behind) ds st) (f_judge_rising ds st) := fun _ _ => .refl _
def f_square_distance : FM := runB 7 (m_square_distance f_plus f_height_at)
theorem le_square_distance : ∀ ds st, Le st (runB 7 (m_square_distance f_plus f_height_at) ds st) (f_square_distance ds st) := fun _ _ => .refl _
def f__law_begin : FM := runB 2 (m__law_begin)
theorem le__law_begin : ∀ ds st, Le st (runB 2 (m__law_begin) ds st) (f__law_begin ds st) := fun _ _ => .refl _
def f__law_draw : FM := runB 5 (m__law_draw)
theorem le__law_draw : ∀ ds st, Le st (runB 5 (m__law_draw) ds st) (f__law_draw ds st) := fun _ _ => .refl _
def f__law_rare : FM := runB 2 (m__law_rare f__law_draw)
theorem le__law_rare : ∀ ds st, Le st (runB 2 (m__law_rare f__law_draw) ds st) (f__law_rare ds st) := fun _ _ => .refl _
def f__law_is_int : FM := runB 1 (m__law_is_int)
theorem le__law_is_int : ∀ ds st, Le st (runB 1 (m__law_is_int) ds st) (f__law_is_int ds st) := fun _ _ => .refl _
def f__law_gcd : FM := runB 5 (m__law_gcd)
theorem le__law_gcd : ∀ ds st, Le st (runB 5 (m__law_gcd) ds st) (f__law_gcd ds st) := fun _ _ => .refl _
def f__law_f : FM := runB 3 (m__law_f f__law_gcd)
theorem le__law_f : ∀ ds st, Le st (runB 3 (m__law_f f__law_gcd) ds st) (f__law_f ds st) := fun _ _ => .refl _
def f__law_plus : FM := runB 2 (m__law_plus f__law_f)
theorem le__law_plus : ∀ ds st, Le st (runB 2 (m__law_plus f__law_f) ds st) (f__law_plus ds st) := fun _ _ => .refl _
def f__law_minus : FM := runB 2 (m__law_minus f__law_f)
theorem le__law_minus : ∀ ds st, Le st (runB 2 (m__law_minus f__law_f) ds st) (f__law_minus ds st) := fun _ _ => .refl _
def f__law_times : FM := runB 2 (m__law_times f__law_f)
theorem le__law_times : ∀ ds st, Le st (runB 2 (m__law_times f__law_f) ds st) (f__law_times ds st) := fun _ _ => .refl _
def f__law_over : FM := runB 2 (m__law_over f__law_f)
theorem le__law_over : ∀ ds st, Le st (runB 2 (m__law_over f__law_f) ds st) (f__law_over ds st) := fun _ _ => .refl _
def f__law_less : FM := runB 2 (m__law_less)
theorem le__law_less : ∀ ds st, Le st (runB 2 (m__law_less) ds st) (f__law_less ds st) := fun _ _ => .refl _
def f__law_is_frac : FM := runB 1 (m__law_is_frac f__law_is_int f__law_gcd)
theorem le__law_is_frac : ∀ ds st, Le st (runB 1 (m__law_is_frac f__law_is_int f__law_gcd) ds st) (f__law_is_frac ds st) := fun _ _ => .refl _
def f__law_signed : FM := runB 1 (m__law_signed f__law_draw f__law_f)
theorem le__law_signed : ∀ ds st, Le st (runB 1 (m__law_signed f__law_draw f__law_f) ds st) (f__law_signed ds st) := fun _ _ => .refl _
def f__law_up : FM := runB 1 (m__law_up f__law_f f__law_draw)
theorem le__law_up : ∀ ds st, Le st (runB 1 (m__law_up f__law_f f__law_draw) ds st) (f__law_up ds st) := fun _ _ => .refl _
def f__law_step : FM := runB 1 (m__law_step f__law_draw f__law_up f__law_minus)
theorem le__law_step : ∀ ds st, Le st (runB 1 (m__law_step f__law_draw f__law_up f__law_minus) ds st) (f__law_step ds st) := fun _ _ => .refl _
def f__law_loads : FM := runB 3 (m__law_loads f__law_draw f__law_f)
theorem le__law_loads : ∀ ds st, Le st (runB 3 (m__law_loads f__law_draw f__law_f) ds st) (f__law_loads ds st) := fun _ _ => .refl _
def f__law_stairs : FM := runB 6 (m__law_stairs f__law_signed f__law_draw f__law_up f__law_minus f__law_plus)
theorem le__law_stairs : ∀ ds st, Le st (runB 6 (m__law_stairs f__law_signed f__law_draw f__law_up f__law_minus f__law_plus) ds st) (f__law_stairs ds st) := fun _ _ => .refl _
def f__law_is_flat : FM := runB 2 (m__law_is_flat)
theorem le__law_is_flat : ∀ ds st, Le st (runB 2 (m__law_is_flat) ds st) (f__law_is_flat ds st) := fun _ _ => .refl _
def f__law_led : FM := runB 6 (m__law_led f__law_is_flat f__law_draw f__law_up f__law_minus f__law_step)
theorem le__law_led : ∀ ds st, Le st (runB 6 (m__law_led f__law_is_flat f__law_draw f__law_up f__law_minus f__law_step) ds st) (f__law_led ds st) := fun _ _ => .refl _
def f__law_answers_of : FM := runB 6 (m__law_answers_of f__law_minus f__law_plus f__law_over)
theorem le__law_answers_of : ∀ ds st, Le st (runB 6 (m__law_answers_of f__law_minus f__law_plus f__law_over) ds st) (f__law_answers_of ds st) := fun _ _ => .refl _
def f__law_with : FM := runB 3 (m__law_with)
theorem le__law_with : ∀ ds st, Le st (runB 3 (m__law_with) ds st) (f__law_with ds st) := fun _ _ => .refl _
def f__law_rises : FM := runB 2 (m__law_rises f__law_less)
theorem le__law_rises : ∀ ds st, Le st (runB 2 (m__law_rises f__law_less) ds st) (f__law_rises ds st) := fun _ _ => .refl _
def f__law_is_nearest : FM := runB 6 (m__law_is_nearest f__law_is_frac f__law_rises f__law_plus f__law_times f__law_minus f__law_is_flat)
theorem le__law_is_nearest : ∀ ds st, Le st (runB 6 (m__law_is_nearest f__law_is_frac f__law_rises f__law_plus f__law_times f__law_minus f__law_is_flat) ds st) (f__law_is_nearest ds st) := fun _ _ => .refl _
def f__law_far : FM := runB 6 (m__law_far f__law_minus f__law_plus f__law_times)
theorem le__law_far : ∀ ds st, Le st (runB 6 (m__law_far f__law_minus f__law_plus f__law_times) ds st) (f__law_far ds st) := fun _ _ => .refl _
def f__law_no_fraction : FM := runB 3 (m__law_no_fraction f__law_draw)
theorem le__law_no_fraction : ∀ ds st, Le st (runB 3 (m__law_no_fraction f__law_draw) ds st) (f__law_no_fraction ds st) := fun _ _ => .refl _
def f__law_spoilt : FM := runB 7 (m__law_spoilt f__law_draw f__law_step f__law_with f__law_no_fraction f__law_plus)
theorem le__law_spoilt : ∀ ds st, Le st (runB 7 (m__law_spoilt f__law_draw f__law_step f__law_with f__law_no_fraction f__law_plus) ds st) (f__law_spoilt ds st) := fun _ _ => .refl _
def f__law_judged : FM := runB 4 (m__law_judged f_judge_rising f__law_is_nearest)
theorem le__law_judged : ∀ ds st, Le st (runB 4 (m__law_judged f_judge_rising f__law_is_nearest) ds st) (f__law_judged ds st) := fun _ _ => .refl _
def f__law_right : FM := runB 8 (m__law_right f_nearest_rising f__law_is_nearest f_judge_rising f__law_spoilt f__law_judged f__law_draw f__law_with f__law_plus f__law_up)
theorem le__law_right : ∀ ds st, Le st (runB 8 (m__law_right f_nearest_rising f__law_is_nearest f_judge_rising f__law_spoilt f__law_judged f__law_draw f__law_with f__law_plus f__law_up) ds st) (f__law_right ds st) := fun _ _ => .refl _
def f__law_bad_ones : FM := runB 5 (m__law_bad_ones f__law_stairs f__law_answers_of f__law_led f__law_draw f__law_judged)
theorem le__law_bad_ones : ∀ ds st, Le st (runB 5 (m__law_bad_ones f__law_stairs f__law_answers_of f__law_led f__law_draw f__law_judged) ds st) (f__law_bad_ones ds st) := fun _ _ => .refl _
def f__law_free_numbers : FM := runB 5 (m__law_free_numbers f__law_draw f__law_signed f__law_minus f__law_up)
theorem le__law_free_numbers : ∀ ds st, Le st (runB 5 (m__law_free_numbers f__law_draw f__law_signed f__law_minus f__law_up) ds st) (f__law_free_numbers ds st) := fun _ _ => .refl _
def f__law_is_far : FM := runB 4 (m__law_is_far f__law_is_frac f__law_far)
theorem le__law_is_far : ∀ ds st, Le st (runB 4 (m__law_is_far f__law_is_frac f__law_far) ds st) (f__law_is_far ds st) := fun _ _ => .refl _
def f__law_free : FM := runB 8 (m__law_free f_nearest_rising f__law_is_nearest f_judge_rising f__law_stairs f_square_distance f__law_is_far f__law_less f__law_plus f__law_judged)
theorem le__law_free : ∀ ds st, Le st (runB 8 (m__law_free f_nearest_rising f__law_is_nearest f_judge_rising f__law_stairs f_square_distance f__law_is_far f__law_less f__law_plus f__law_judged) ds st) (f__law_free ds st) := fun _ _ => .refl _
def f_law : FM := runB 9 (m_law f__law_begin f__law_rare f__law_draw f__law_loads f__law_stairs f__law_answers_of f__law_led f__law_free_numbers f__law_f f__law_plus f__law_with f__law_right f__law_bad_ones f__law_free f_nearest_rising)
theorem le_law : ∀ ds st, Le st (runB 9 (m_law f__law_begin f__law_rare f__law_draw f__law_loads f__law_stairs f__law_answers_of f__law_led f__law_free_numbers f__law_f f__law_plus f__law_with f__law_right f__law_bad_ones f__law_free f_nearest_rising) ds st) (f_law ds st) := fun _ _ => .refl _

theorem gcd_loop {st : Store} {g : EM Bool} {u : SM} {x y : Option D}
    (hg : ∀ (a b : Nat) c, g [x, y, some (.int a), some (.int b), c] st = .ok (decide (0 < b)) st)
    (hu : ∀ (a b : Nat) c, 0 < b → u [x, y, some (.int a), some (.int b), c] st = .nx [x, y, some (.int b), some (.int (a % b : Nat)), some (.int (a % b : Nat))] st) :
    ∀ (n a b : Nat) (c : Option D), b < n → ∃ c', whileN g u n [x, y, some (.int a), some (.int b), c] st = .nx [x, y, some (.int (Nat.gcd a b : Nat)), some (.int 0), c'] st
  | 0, a, b, c, h => absurd h (Nat.not_lt_zero _)
  | n + 1, a, b, c, h => by
    unfold whileN
    rw [hg, bindE_ok]
    by_cases hb : 0 < b
    · rw [decide_eq_true hb, if_pos rfl, hu a b c hb]
      obtain ⟨c', e⟩ := gcd_loop hg hu n b (a % b) (some (.int (a % b : Nat))) (Nat.lt_of_lt_of_le (Nat.mod_lt a hb) (by omega))
      refine ⟨c', ?_⟩
      rw [Nat.gcd_comm a b, Nat.gcd_rec b a, Nat.gcd_comm]
      exact e
    · have : b = 0 := by omega
      subst this
      rw [if_neg (by simp)]
      exact ⟨c, by rw [Nat.gcd_zero_right]; rfl⟩
theorem r_gcd {st : Store} {i j : Int} (h : j.natAbs < 2 ^ 9000) : f__law_gcd [.int i, .int j] st = .ok (.int (Nat.gcd i.natAbs j.natAbs : Nat)) st := by
  unfold f__law_gcd
  rw [runB_e]
  unfold m__law_gcd
  have hw : ∃ c', whileN (tBl (eBin oGt (eVar 3) (eC (.int 0)))) (sSeq (sSet 4 (eBin oMod (eCB fInt (aCons (eVar 2) aNil)) (eVar 3))) (sSeq (sSet 2 (eVar 3)) (sSet 3 (eVar 4)))) big [some (.int i), some (.int j), some (.int (i.natAbs : Nat)), some (.int (j.natAbs : Nat)), none] st = .nx [some (.int i), some (.int j), some (.int (Nat.gcd i.natAbs j.natAbs : Nat)), some (.int 0), c'] st := by
    refine gcd_loop (fun a b c => ?_) (fun a b c hb => ?_) big _ _ none (Nat.lt_of_lt_of_le h (le_big (k := 9000) (by decide) (Nat.le_refl _)))
    · simp
    · have om : okMod (a : Int) (b : Int) = true := okMod_of (by omega)
      have e : (a : Int).fmod (b : Int) = (a % b : Nat) := by
        rw [Int.fmod_eq_emod_of_nonneg _ (by omega)]
        rfl
      simp [om, e]
  obtain ⟨c', hw⟩ := hw
  simp [hw]

theorem r_is_int {st : Store} {i : Int} : f__law_is_int [.int i] st = .ok (.bl true) st := by
  simp [f__law_is_int, runB_e, m__law_is_int]

/-! draws -/
theorem r_begin {ns : List Int} (hl : ns.length ≤ 63) : ∃ st', f__law_begin [.rol (ns.map D.int)] [] = .ok (.ref 1) st' ∧ DS ns st' ∧ st'.length = 2 := by
  obtain ⟨ys, st1, e, ⟨h1, h2⟩, hl2⟩ := comp_inv (q := .fix (ns.map D.int)) (set := gN 1) (fe := eCB fInt (aCons (eVar 1) aNil)) (τ := [some (.rol (ns.map D.int)), none]) (fun acc s => acc = (ns.map D.int).take acc.length ∧ s = ([] : Store)) (fun _ _ _ => rfl) (ns.map D.int) [] [] ⟨rfl, rfl⟩ fun i d acc s hi ha hp => by
    obtain ⟨h1, rfl⟩ := hp
    refine ⟨_, rfl, d, [], ?_, ?_, rfl⟩
    · have : ∃ k, d = .int k := by
        rw [List.getElem?_map] at hi
        cases hz : ns[i]? with
        | none => simp [hz] at hi
        | some k => exact ⟨k, by simpa [hz] using hi.symm⟩
      obtain ⟨k, rfl⟩ := this
      simp [gN]
    · simp only [List.length_nil, Nat.zero_add] at ha
      rw [List.length_append, List.length_singleton, ha, List.take_succ, hi, ← ha, ← h1]
      rfl
  have hy : ys = ns.map D.int := by
    rw [h1, List.take_of_length_le]
    simp at hl2
    simp [hl2]
  subst hy h2
  refine ⟨[.lst (ns.map D.int), .lst [.ref 0, .int 0, .int 0, .int 7]], ?_, ⟨rfl, 0, 0, 7, by decide, rfl⟩, rfl⟩
  have e : compL (.fix (ns.map D.int)) (gN 1) tYes (eCB fInt (aCons (eVar 1) aNil)) (wipeD [some (.rol (ns.map D.int)), none] [1]) (ns.map D.int) [] [] = .ok (ns.map D.int) [] := e
  have hs : ns.length ≤ 16777216 := by omega
  simp [f__law_begin, runB_e, m__law_begin, lComp_e, lc1, hs, e]
theorem r_draw {ns : List Int} {st : Store} {many : Int} (H : DS ns st) (h0 : 0 < many) (h1 : many.natAbs.log2 < 9000) :
    ∃ v st', f__law_draw [.ref 1, .int many] st = .ok (.int v) st' ∧ 0 ≤ v ∧ v < many ∧ DS ns st' ∧ Fr st st' := by
  obtain ⟨c0, p, h, q, hp, c1⟩ := H
  have set1 : ∀ p' h' q' : Int, 0 ≤ p' → ∀ s, s = st ∨ (∃ ys, s = st.set 1 (.lst ys)) ∨ (∃ ys zs, s = (st.set 1 (.lst ys)).set 1 (.lst zs)) → DS ns (s.set 1 (.lst [.ref 0, .int p', .int h', .int q'])) ∧ Fr st (s.set 1 (.lst [.ref 0, .int p', .int h', .int q'])) := by
    intro p' h' q' hp' s hs
    have e : s.set 1 (.lst [.ref 0, .int p', .int h', .int q']) = st.set 1 (.lst [.ref 0, .int p', .int h', .int q']) := by
      rcases hs with rfl | ⟨ys, rfl⟩ | ⟨ys, zs, rfl⟩ <;> simp [List.set_set]
    rw [e]
    refine ⟨⟨by rw [lstAt_ne (by decide)]; exact c0, p', h', q', hp', lstAt_set c1⟩, by simp, fun n hn _ => ?_⟩
    rw [List.getElem?_set_ne (Ne.symm hn)]
  have od : ∀ i, okDiv i many = true := fun i => okDiv_of (by omega) h1
  have om : ∀ i, okMod i many = true := fun i => okMod_of (by omega)
  have b0 : ∀ i : Int, 0 ≤ i.fmod many := fun i => Int.fmod_nonneg_of_pos i h0
  have b1 : ∀ i : Int, i.fmod many < many := fun i => Int.fmod_lt_of_pos i h0
  unfold f__law_draw
  rw [runB_e]
  unfold m__law_draw
  by_cases hh : 0 < h
  · obtain ⟨d1, d2⟩ := set1 p (h.fdiv many) q hp st (.inl rfl)
    refine ⟨h.fmod many, _, ?_, b0 _, b1 _, d1, d2⟩
    have x2 : ixN 4 2 = some 2 := rfl
    simp [oIx_ref c1, hh, od, om, oSet_ref c1, x2]
  · -- the size of the script's number here
    have main : ∀ (size : Int) (c : Option D), (0 ≤ size) → ∃ v st', ((sSeq (sAugS oIAdd (eVar 0) (eC (.int 1)) (eC (.int 1)))
        (sSeq (sIf (tBl (eBin oGe (eVar 3) (eBin oMul (eC (.int 2)) (eBin oPow (eC (.int 10)) (eC (.int 18)))))) (sSeq (sSet 2 (eBin oMod (eCB fInt (aCons (eBin oDiv (eVar 3) (eC (.int 2))) aNil)) (eBin oShl (eC (.int 1)) (eC (.int 6000)))))
        (sSeq (sSub (eVar 0) (eC (.int 2)) (eBin oDiv (eVar 2) (eVar 1)))
        (sRet (eBin oMod (eCB fInt (aCons (eVar 2) aNil)) (eVar 1))))) sNil)
        (sSeq (sSub (eVar 0) (eC (.int 3)) (eBin oMod (eCB fInt (aCons (eBin oAdd (eBin oAdd (eBin oAdd (eBin oMul (eBin oIx (eVar 0) (eC (.int 3))) (eC (.int 48271))) (eBin oMul (eBin oMod (eCB fInt (aCons (eVar 3) aNil)) (eC (.int 2147483629))) (eC (.int 16807)))) (eBin oMul (eBin oIx (eVar 0) (eC (.int 1))) (eC (.int 69621)))) (eC (.int 11))) aNil)) (eC (.int 2147483647))))
        (sRet (eBin oMod (eCB fInt (aCons (eBin oDiv (eBin oIx (eVar 0) (eC (.int 3))) (eC (.int 16))) aNil)) (eVar 1)))))) [some (.ref 1), some (.int many), none, some (.int size), c] st).fin = .ok (.int v) st' ∧ 0 ≤ v ∧ v < many ∧ DS ns st' ∧ Fr st st' := by
      intro size c hs
      have x1 : ixN 4 1 = some 1 := rfl
      have x2 : ixN 4 2 = some 2 := rfl
      have x3 : ixN 4 3 = some 3 := rfl
      obtain ⟨st1, e1⟩ : ∃ st1, st1 = st.set 1 (.lst [.ref 0, .int (p + 1), .int h, .int q]) := ⟨_, rfl⟩
      have l1 : lstAt st1 1 = some [.ref 0, .int (p + 1), .int h, .int q] := by
        rw [e1]
        exact lstAt_set c1
      have d48 : okMul q 48271 = true := okMul_r (by decide)
      have d16 : ∀ i, okMul i 16807 = true := fun i => okMul_r (by decide)
      have d69 : ∀ i, okMul i 69621 = true := fun i => okMul_r (by decide)
      have m1 : ∀ i, okMod i 2147483629 = true := fun i => okMod_of (by decide)
      have m2 : ∀ i, okMod i 2147483647 = true := fun i => okMod_of (by decide)
      have v16 : ∀ i, okDiv i 16 = true := fun i => okDiv_of (by decide) (by decide)
      have v2 : ∀ i, okDiv i 2 = true := fun i => okDiv_of (by decide) (by decide)
      by_cases hz : 2000000000000000000 ≤ size
      · have p1 : okPow 10 18 = true := by decide
        have p2 : okMul 2 1000000000000000000 = true := okMul_r (by decide)
        have p3 : okPow 1 6000 = true := by decide
        obtain ⟨M, eM⟩ : ∃ M : Int, M = 2 ^ 6000 := ⟨_, rfl⟩
        have hM : M ≠ 0 := by
          have : (0 : Int) < 2 ^ 6000 := Int.pow_pos (by decide)
          omega
        have om2 : ∀ i, okMod i M = true := fun i => okMod_of hM
        obtain ⟨d1, d2⟩ := set1 (p + 1) (((size.fdiv 2).fmod M).fdiv many) q (by omega) st1 (.inr (.inl ⟨_, e1⟩))
        refine ⟨((size.fdiv 2).fmod M).fmod many, _, ?_, b0 _, b1 _, d1, d2⟩
        simp [oGetL_ref c1, oSet_ref c1, x1, x2, ← e1, hz, p1, p2, p3, v2, od, om, ← eM, om2, oSet_ref l1]
      · have p1 : okPow 10 18 = true := by decide
        have p2 : okMul 2 1000000000000000000 = true := okMul_r (by decide)
        obtain ⟨q', eq'⟩ : ∃ q', q' = (q * 48271 + size.fmod 2147483629 * 16807 + (p + 1) * 69621 + 11).fmod 2147483647 := ⟨_, rfl⟩
        obtain ⟨d1, d2⟩ := set1 (p + 1) h q' (by omega) st1 (.inr (.inl ⟨_, e1⟩))
        have l2 : lstAt (st1.set 1 (.lst [.ref 0, .int (p + 1), .int h, .int q'])) 1 = some [.ref 0, .int (p + 1), .int h, .int q'] := lstAt_set l1
        refine ⟨(q'.fdiv 16).fmod many, _, ?_, b0 _, b1 _, d1, d2⟩
        simp [oGetL_ref c1, oSet_ref c1, x1, x2, x3, ← e1, hz, p1, p2, v2, v16, od, om, m1, m2, d48, d16, d69, oIx_ref l1, oSet_ref l1, oIx_ref l2, ← eq']
    by_cases hp2 : p < ns.length
    · have hc : ∃ c : Int, atI (ns.map D.int) p = some (.int c) := by
        have hp3 : p.toNat < ns.length := by omega
        refine ⟨ns[p.toNat], ?_⟩
        have := atI_nat (xs := ns.map D.int) (j := p.toNat) (v := D.int ns[p.toNat]) (by simp [hp3])
        rwa [Int.toNat_of_nonneg hp] at this
      obtain ⟨c, hc⟩ := hc
      obtain ⟨v, st', e, r⟩ := main (2 * (c.natAbs : Nat) + (if c < 0 then 1 else 0)) (some (.int c)) (by split <;> omega)
      refine ⟨v, st', ?_, r⟩
      rw [← e]
      have k2 : okMul 2 (c.natAbs : Nat) = true := okMul_l (by decide)
      simp [oIx_ref c1, hh, oIx_ref c0, fLen_ref c0, hp2, hc, k2]
    · obtain ⟨v, st', e, r⟩ := main 0 none (by omega)
      refine ⟨v, st', ?_, r⟩
      rw [← e]
      simp [oIx_ref c1, hh, oIx_ref c0, fLen_ref c0, hp2]

/-- a draw, as a natural number -/
theorem r_drawN {ns : List Int} {st : Store} {many : Nat} (H : DS ns st) (h0 : 0 < many) (h1 : many < 2 ^ 60) :
    ∃ (v : Nat) (st' : Store), f__law_draw [.ref 1, .int (many : Nat)] st = .ok (.int (v : Nat)) st' ∧ v < many ∧ DS ns st' ∧ Fr st st' := by
  obtain ⟨v, s1, e, v0, v1, D1, F1⟩ := r_draw (many := (many : Nat)) H (by omega) (by
    rw [Int.natAbs_natCast]
    have := log2_le h1
    omega)
  refine ⟨v.toNat, s1, ?_, by omega, D1, F1⟩
  rw [Int.toNat_of_nonneg v0]
  exact e
theorem ixN_of {n j : Nat} (h : j < n) : ixN n (j : Nat) = some j := by
  unfold ixN
  rw [if_pos (by omega), if_pos (by simpa using h)]
  simp
theorem atI_of {xs : List D} {j : Nat} (h : j < xs.length) : atI xs (j : Nat) = some xs[j] := atI_nat (by simp [h])
theorem r_drawZ {ns : List Int} {st : Store} {many : Int} (H : DS ns st) (h0 : 0 < many) (h1 : many ≤ 1000) :
    ∃ v st', f__law_draw [.ref 1, .int many] st = .ok (.int v) st' ∧ 0 ≤ v ∧ v < many ∧ DS ns st' ∧ Fr st st' :=
  r_draw H h0 (Nat.lt_of_le_of_lt (log2_le (k := 10) (by omega)) (by decide))

theorem r_rare {ns : List Int} {st : Store} {many : Int} (H : DS ns st) (h0 : 0 < many) (h1 : many.natAbs.log2 < 9000) :
    ∃ b st', f__law_rare [.ref 1, .int many] st = .ok (.bl b) st' ∧ DS ns st' ∧ Fr st st' := by
  obtain ⟨v, s1, e, v0, v1, D1, F1⟩ := r_draw H h0 h1
  have v2 : okDiv many 2 = true := okDiv_of (by decide) (by decide)
  exact ⟨decide (v = many.fdiv 2), s1, by simp [f__law_rare, runB_e, m__law_rare, e, v2], D1, F1⟩

/-- a loop that returns False at the first that fails -/
theorem for_all {α : Type} {q : Sq} {set : D → Sl → Option Sl} {u : SM} {st : Store} (hq : q.chk st = true) (g : α → D) (p : α → Bool) (I : Sl → Prop) : ∀ (xs : List α) (τ : Sl), I τ →
    (∀ a ∈ xs, ∀ τ, I τ → ∃ τ1, set (g a) τ = some τ1 ∧ (p a = true → ∃ τ2, u τ1 st = .nx τ2 st ∧ I τ2) ∧ (p a = false → u τ1 st = .rt (.bl false) st)) →
    (xs.all p = true ∧ ∃ τ', forL q set u (xs.map g) τ st = .nx τ' st ∧ I τ') ∨ (xs.all p = false ∧ forL q set u (xs.map g) τ st = .rt (.bl false) st)
  | [], τ, h0, _ => .inl ⟨rfl, τ, forL_nil hq, h0⟩
  | a :: xs, τ, h0, hs => by
    obtain ⟨τ1, e1, h1, h2⟩ := hs a (List.mem_cons_self ..) τ h0
    cases hp : p a with
    | true =>
      obtain ⟨τ2, e2, h3⟩ := h1 hp
      rcases for_all hq g p I xs τ2 h3 fun b hb => hs b (List.mem_cons_of_mem _ hb) with ⟨ha, τ', e3, h4⟩ | ⟨ha, e3⟩
      · exact .inl ⟨by rw [List.all_cons, hp, ha]; rfl, τ', by rw [List.map_cons, forL_nx hq e1 e2, e3], h4⟩
      · exact .inr ⟨by rw [List.all_cons, hp, ha]; rfl, by rw [List.map_cons, forL_nx hq e1 e2, e3]⟩
    | false => exact .inr ⟨by rw [List.all_cons, hp]; rfl, by rw [List.map_cons, forL_rt hq e1 (h2 hp)]⟩
theorem ch_le {fa fb fc : EM D} {τ : Sl} {st : Store} {a b c : Int} (ha : fa τ st = .ok (.int a) st) (hb : fb τ st = .ok (.int b) st) (hc : fc τ st = .ok (.int c) st) : eChain oLe oLe fa fb fc τ st = .ok (.bl (decide (a ≤ b) && decide (b ≤ c))) st := by
  by_cases h : a ≤ b <;> simp [ha, hb, hc, oLe, h]
theorem ch_lt {fa fb fc : EM D} {τ : Sl} {st : Store} {a b c : Int} (ha : fa τ st = .ok (.int a) st) (hb : fb τ st = .ok (.int b) st) (hc : fc τ st = .ok (.int c) st) : eChain oLe oLt fa fb fc τ st = .ok (.bl (decide (a ≤ b) && decide (b < c))) st := by
  by_cases h : a ≤ b <;> simp [ha, hb, hc, oLe, oLt, h]
theorem gAllB_map {α : Type} {f : α → Bool} {xs : List α} {st : Store} : gAllB (xs.map fun a => D.bl (f a)) st = .ok (.bl (xs.all f)) st := by
  have := gAllB_bls (bs := xs.map f) (st := st)
  rw [List.map_map, List.all_map] at this
  exact this

/-! draws, by what holds behind them -/
section
variable {ns : List Int} {st : Store}
theorem w_draw {many : Nat} {Q : D → Store → Prop} (H : DS ns st) (h0 : 0 < many) (h1 : many < 2 ^ 60) (hQ : ∀ (v : Nat) s, v < many → DS ns s → Fr st s → Q (.int (v : Nat)) s) : W (f__law_draw [.ref 1, .int (many : Nat)] st) Q := by
  obtain ⟨v, s, e, hv, D1, F1⟩ := r_drawN H h0 h1
  exact .of e (hQ v s hv D1 F1)
end

section
variable {ns : List Int} {st : Store}
theorem w_rare {many : Nat} {Q : D → Store → Prop} (H : DS ns st) (h0 : 0 < many) (h1 : many < 2 ^ 60) (hQ : ∀ b s, DS ns s → Fr st s → Q (.bl b) s) : W (f__law_rare [.ref 1, .int (many : Nat)] st) Q := by
  obtain ⟨b, s, e, D1, F1⟩ := r_rare (many := (many : Nat)) H (by omega) (by
    rw [Int.natAbs_natCast]
    have := log2_le h1
    omega)
  exact .of e (hQ b s D1 F1)
end

/-- a fraction in lowest terms, of at most so many bits -/
structure FQ (k : Nat) (a b : Int) : Prop where
  pos : 0 < b
  cop : Nat.gcd a.natAbs b.natAbs = 1
  an : a.natAbs < 2 ^ k
  bn : b.natAbs < 2 ^ k
theorem FQ.up {k l : Nat} {a b : Int} (h : FQ k a b) (hl : k ≤ l) : FQ l a b := ⟨h.pos, h.cop, lt_up h.an hl, lt_up h.bn hl⟩
theorem FQ.rat {k : Nat} {n d : Int} (h : d ≠ 0) (hn : n.natAbs < 2 ^ k) (hd : d.natAbs < 2 ^ k) : FQ k (rn n d) (rd n d) :=
  ⟨rat_pos h, rat_cop h, Nat.lt_of_le_of_lt (rn_le h) hn, Nat.lt_of_le_of_lt (rd_le h) hd⟩
theorem r_ratio {n d : Int} {st : Store} {k : Nat} (h : d ≠ 0) (hb : d.natAbs < 2 ^ k) (hk : k ≤ 9000) : f_ratio [.int n, .int d] st = .ok (rat n d) st := by
  have o : ∀ i, okDiv i (com n d) = true := fun i => okDiv_com h hb hk
  unfold rat fr rn rd
  by_cases hd : d < 0
  · have e : com n d = -((Nat.gcd n.natAbs d.natAbs : Nat) : Int) := by unfold com; rw [if_pos hd]
    rw [e] at o
    simp [f_ratio, runB_e, m_ratio, h, hd, e, o]
  · have e : com n d = ((Nat.gcd n.natAbs d.natAbs : Nat) : Int) := by unfold com; rw [if_neg hd]
    rw [e] at o
    simp [f_ratio, runB_e, m_ratio, h, hd, e, o]
theorem r_f {n d : Int} {st : Store} {k : Nat} (h : d ≠ 0) (hb : d.natAbs < 2 ^ k) (hk : k ≤ 9000) : f__law_f [.int n, .int d] st = .ok (rat n d) st := by
  have o : ∀ i, okDiv i (com n d) = true := fun i => okDiv_com h hb hk
  have g : f__law_gcd [.int n, .int d] st = _ := r_gcd (lt_up hb hk)
  unfold rat fr rn rd
  by_cases hd : d < 0
  · have e : com n d = -((Nat.gcd n.natAbs d.natAbs : Nat) : Int) := by unfold com; rw [if_pos hd]
    rw [e] at o
    simp [f__law_f, runB_e, m__law_f, h, hd, e, o, g]
  · have e : com n d = ((Nat.gcd n.natAbs d.natAbs : Nat) : Int) := by unfold com; rw [if_neg hd]
    rw [e] at o
    simp [f__law_f, runB_e, m__law_f, h, hd, e, o, g]
section
variable {k l : Nat} {a b c e : Int} {st : Store}
theorem om {i j : Int} (h1 : i.natAbs < 2 ^ k) (h2 : j.natAbs < 2 ^ l) (h : k + l ≤ 9000) : okMul i j = true := okMul_of h1 h2 (by omega)
theorem ne2 {b e : Int} (hb : 0 < b) (he : 0 < e) : b * e ≠ 0 := Int.ne_of_gt (Int.mul_pos hb he)
end

/-! fractions as rational numbers -/
def qd (q : Rat) : D := fr q.num (q.den : Nat)
theorem den_ne {q : Rat} : ((q.den : Nat) : Int) ≠ 0 := by have := q.den_pos; omega
theorem qd_inj {x y : Rat} (h : qd x = qd y) : x = y := by
  unfold qd fr at h
  have h1 := D.tup.inj h
  have h2 := D.int.inj (List.cons.inj h1).1
  have h3 := D.int.inj (List.cons.inj (List.cons.inj h1).2).1
  exact Rat.ext h2 (by omega)
theorem rat_qd {n d : Int} (h : d ≠ 0) : rat n d = qd (Rat.divInt n d) := by
  obtain ⟨q, eq⟩ : ∃ q, q = Rat.divInt n d := ⟨_, rfl⟩
  have e := Rat.num_divInt_den q
  rw [eq, ← eq] at e
  have e2 : q.num * d = n * (q.den : Nat) := (Rat.divInt_eq_divInt_iff den_ne h).mp (by rw [Rat.num_divInt_den]; exact eq)
  have e3 := rat_cross (n := n) (d := d) h
  have e4 : rn n d * (q.den : Nat) = q.num * rd n d := by
    refine Int.eq_of_mul_eq_mul_right h ?_
    calc rn n d * (q.den : Nat) * d = (rn n d * d) * (q.den : Nat) := by ac_rfl
      _ = (n * rd n d) * (q.den : Nat) := by rw [e3]
      _ = (n * (q.den : Nat)) * rd n d := by ac_rfl
      _ = (q.num * d) * rd n d := by rw [e2]
      _ = _ := by ac_rfl
  have := low_eq (rat_pos h) (by have := q.den_pos; omega : (0 : Int) < (q.den : Nat)) (rat_cop h) (by rw [Int.natAbs_natCast]; exact q.reduced) e4
  unfold rat qd
  rw [← eq, this.1, this.2]
/-- of so many bits -/
structure QB (k : Nat) (q : Rat) : Prop where
  an : q.num.natAbs < 2 ^ k
  bn : q.den < 2 ^ k
theorem QB.up {k l : Nat} {q : Rat} (h : QB k q) (hl : k ≤ l) : QB l q := ⟨lt_up h.an hl, lt_up h.bn hl⟩
theorem QB.fq {k : Nat} {q : Rat} (h : QB k q) : FQ k q.num (q.den : Nat) := ⟨by have := q.den_pos; omega, by rw [Int.natAbs_natCast]; exact q.reduced, h.an, by rw [Int.natAbs_natCast]; exact h.bn⟩
theorem QB.bi {k : Nat} {q : Rat} (h : QB k q) : ((q.den : Nat) : Int).natAbs < 2 ^ k := by rw [Int.natAbs_natCast]; exact h.bn
theorem QB.of {k : Nat} {n d : Int} (h : d ≠ 0) (hn : n.natAbs < 2 ^ k) (hd : d.natAbs < 2 ^ k) : QB k (Rat.divInt n d) := by
  have e := rat_qd (n := n) h
  unfold rat qd fr at e
  have h1 := D.tup.inj e
  have h2 := D.int.inj (List.cons.inj h1).1
  have h3 := D.int.inj (List.cons.inj (List.cons.inj h1).2).1
  refine ⟨by rw [← h2]; exact Nat.lt_of_le_of_lt (rn_le h) hn, ?_⟩
  have := Nat.lt_of_le_of_lt (rd_le (n := n) h) hd
  rw [h3, Int.natAbs_natCast] at this
  exact this
theorem QB.sub {k l : Nat} {x y : Rat} (hx : QB k x) (hy : QB l y) : QB (k + l + 1) (x - y) := by
  rw [Rat.sub_def', ← Rat.divInt_ofNat]
  refine .of (by have := x.den_pos; have := y.den_pos; have := Nat.mul_pos x.den_pos y.den_pos; omega) (sub_lt (mul_lt hx.an hy.bi) (by rw [Nat.add_comm k l]; exact mul_lt hy.an hx.bi)) (lt_up (k := k + l) ?_ (by omega))
  rw [Int.natAbs_natCast, Nat.pow_add]
  exact Nat.mul_lt_mul'' hx.bn hy.bn
theorem QB.add {k l : Nat} {x y : Rat} (hx : QB k x) (hy : QB l y) : QB (k + l + 1) (x + y) := by
  rw [Rat.add_def', ← Rat.divInt_ofNat]
  refine .of (by have := x.den_pos; have := y.den_pos; have := Nat.mul_pos x.den_pos y.den_pos; omega) (add_lt (mul_lt hx.an hy.bi) (by rw [Nat.add_comm k l]; exact mul_lt hy.an hx.bi)) (lt_up (k := k + l) ?_ (by omega))
  rw [Int.natAbs_natCast, Nat.pow_add]
  exact Nat.mul_lt_mul'' hx.bn hy.bn
theorem QB.mul {k l : Nat} {x y : Rat} (hx : QB k x) (hy : QB l y) : QB (k + l) (x * y) := by
  rw [Rat.mul_def', ← Rat.divInt_ofNat]
  refine .of (by have := x.den_pos; have := y.den_pos; have := Nat.mul_pos x.den_pos y.den_pos; omega) (mul_lt hx.an hy.an) ?_
  rw [Int.natAbs_natCast, Nat.pow_add]
  exact Nat.mul_lt_mul'' hx.bn hy.bn
theorem num_ne {y : Rat} (h : y ≠ 0) : y.num ≠ 0 := fun e => h (Rat.num_eq_zero.mp e)
theorem div_eq {x y : Rat} : x / y = Rat.divInt (x.num * (y.den : Nat)) ((x.den : Nat) * y.num) := by
  rw [Rat.div_def, Rat.inv_def]
  have := Rat.num_divInt_den x
  conv => lhs; lhs; rw [← this]
  rw [Rat.divInt_mul_divInt]
theorem QB.div {k l : Nat} {x y : Rat} (hx : QB k x) (hy : QB l y) (h : y ≠ 0) : QB (k + l) (x / y) := by
  rw [div_eq]
  exact .of (Int.mul_ne_zero den_ne (num_ne h)) (mul_lt hx.an hy.bi) (mul_lt hx.bi hy.an)
theorem r_ratioQ {n d : Int} {st : Store} {k : Nat} (h : d ≠ 0) (hb : d.natAbs < 2 ^ k) (hk : k ≤ 9000) : f_ratio [.int n, .int d] st = .ok (qd (Rat.divInt n d)) st := by
  rw [← rat_qd h]
  exact r_ratio h hb hk
theorem r_fQ {n d : Int} {st : Store} {k : Nat} (h : d ≠ 0) (hb : d.natAbs < 2 ^ k) (hk : k ≤ 9000) : f__law_f [.int n, .int d] st = .ok (qd (Rat.divInt n d)) st := by
  rw [← rat_qd h]
  exact r_f h hb hk
theorem lt_dec {x y : Rat} : decide (x.num * (y.den : Nat) < y.num * (x.den : Nat)) = decide (x < y) := by
  have := Rat.lt_iff x y
  exact decide_eq_decide.mpr this.symm
theorem qd_tup {x : Rat} : qd x = .tup [.int x.num, .int (x.den : Nat)] := rfl
theorem eq_qd {x y : Rat} {st : Store} : oEq (qd x) (qd y) st = .ok (.bl (decide (x = y))) st := by
  have e : ([D.int x.num, D.int (x.den : Nat)] = [D.int y.num, D.int (y.den : Nat)]) = (x = y) := propext ⟨fun h => qd_inj (congrArg D.tup h), fun h => by rw [h]⟩
  rw [qd_tup, qd_tup, oEq_tup (by simp) (by simp)]
  simp only [e]
theorem ne_qd {x y : Rat} {st : Store} : oNe (qd x) (qd y) st = .ok (.bl (!(decide (x = y)))) st := by
  have e : ([D.int x.num, D.int (x.den : Nat)] = [D.int y.num, D.int (y.den : Nat)]) = (x = y) := propext ⟨fun h => qd_inj (congrArg D.tup h), fun h => by rw [h]⟩
  rw [qd_tup, qd_tup, oNe_tup (by simp) (by simp)]
  simp only [e]
theorem one_qd : D.tup [.int 1, .int 1] = qd 1 := rfl
theorem zero_qd : D.tup [.int 0, .int 1] = qd 0 := rfl

theorem r_plusQ {k l : Nat} {x y : Rat} {st : Store} (hx : QB k x) (hy : QB l y) (hk : k + l ≤ 9000) : f_plus [qd x, qd y] st = .ok (qd (x + y)) st := by
  have o1 := om hx.an hy.bi (by omega)
  have o2 := om hy.an hx.bi (by omega)
  have o3 := om hx.bi hy.bi (by omega)
  by_cases he : x.den = y.den
  · have z := r_ratioQ (st := st) (n := x.num + y.num) (d := (x.den : Nat)) den_ne hx.bi (by omega)
    have e : Rat.divInt (x.num + y.num) (x.den : Nat) = x + y := by
      have h1 := Rat.num_divInt_den x
      have h2 := Rat.num_divInt_den y
      rw [← he] at h2
      rw [Rat.divInt_eq_div] at h1 h2 ⊢
      rw [Rat.intCast_add]
      have hd : (((x.den : Nat) : Int) : Rat) ≠ 0 := fun e => den_ne (Rat.intCast_eq_zero_iff.mp e)
      obtain ⟨a, ha⟩ : ∃ a : Rat, a = (((x.den : Nat) : Int) : Rat) := ⟨_, rfl⟩
      rw [← ha] at h1 h2 hd ⊢
      rw [← h1, ← h2]
      grind
    rw [e] at z
    rw [qd_tup] at z
    simp [f_plus, runB_e, m_plus, qd_tup, ← he, z]
  · have z := r_ratioQ (st := st) (n := x.num * (y.den : Nat) + y.num * (x.den : Nat)) (d := (x.den : Nat) * (y.den : Nat)) (Int.mul_ne_zero den_ne den_ne) (mul_lt hx.bi hy.bi) hk
    rw [← Int.natCast_mul, Rat.divInt_ofNat, ← Rat.add_def', Int.natCast_mul] at z
    have he' : ¬ ((x.den : Int) = (y.den : Int)) := by omega
    rw [qd_tup] at z
    simp [f_plus, runB_e, m_plus, qd_tup, o1, o2, o3, he, he', z]

theorem r_timesQ {k l : Nat} {x y : Rat} {st : Store} (hx : QB k x) (hy : QB l y) (hk : k + l ≤ 9000) : f_times [qd x, qd y] st = .ok (qd (x * y)) st := by
  have o1 := om hx.an hy.an (by omega)
  have o2 := om hx.bi hy.bi (by omega)
  have z := r_ratioQ (st := st) (n := x.num * y.num) (d := (x.den : Nat) * (y.den : Nat)) (Int.mul_ne_zero den_ne den_ne) (mul_lt hx.bi hy.bi) hk
  rw [← Int.natCast_mul, Rat.divInt_ofNat, ← Rat.mul_def', Int.natCast_mul] at z
  rw [qd_tup] at z
  simp [f_times, runB_e, m_times, qd_tup, o1, o2, z]

theorem r_minusQ {k l : Nat} {x y : Rat} {st : Store} (hx : QB k x) (hy : QB l y) (hk : k + l ≤ 9000) : f_minus [qd x, qd y] st = .ok (qd (x - y)) st := by
  have o1 := om hx.an hy.bi (by omega)
  have o2 := om hy.an hx.bi (by omega)
  have o3 := om hx.bi hy.bi (by omega)
  have z := r_ratioQ (st := st) (n := x.num * (y.den : Nat) - y.num * (x.den : Nat)) (d := (x.den : Nat) * (y.den : Nat)) (Int.mul_ne_zero den_ne den_ne) (mul_lt hx.bi hy.bi) hk
  rw [← Int.natCast_mul, Rat.divInt_ofNat, ← Rat.sub_def', Int.natCast_mul] at z
  rw [qd_tup] at z
  simp [f_minus, runB_e, m_minus, qd_tup, o1, o2, o3, z]

theorem r_overQ {k l : Nat} {x y : Rat} {st : Store} (hx : QB k x) (hy : QB l y) (h : y ≠ 0) (hk : k + l ≤ 9000) : f_over [qd x, qd y] st = .ok (qd (x / y)) st := by
  have o1 := om hx.an hy.bi (by omega)
  have o2 := om hx.bi hy.an (by omega)
  have z := r_ratioQ (st := st) (n := x.num * (y.den : Nat)) (Int.mul_ne_zero den_ne (num_ne h)) (mul_lt hx.bi hy.an) hk
  rw [← div_eq] at z
  rw [qd_tup] at z
  simp [f_over, runB_e, m_over, qd_tup, o1, o2, z]

theorem r_belowQ {k l : Nat} {x y : Rat} {st : Store} (hx : QB k x) (hy : QB l y) (hk : k + l ≤ 9000) : f_is_below [qd x, qd y] st = .ok (.bl (decide (x < y))) st := by
  have o1 := om hx.an hy.bi (by omega)
  have o2 := om hy.an hx.bi (by omega)
  rw [← lt_dec]
  simp [f_is_below, runB_e, m_is_below, qd_tup, o1, o2]

theorem r_llessQ {k l : Nat} {x y : Rat} {st : Store} (hx : QB k x) (hy : QB l y) (hk : k + l ≤ 9000) : f__law_less [qd x, qd y] st = .ok (.bl (decide (x < y))) st := by
  have o1 := om hx.an hy.bi (by omega)
  have o2 := om hy.an hx.bi (by omega)
  rw [← lt_dec]
  simp [f__law_less, runB_e, m__law_less, qd_tup, o1, o2]
theorem r_is_fracQ {k : Nat} {x : Rat} {st : Store} (hx : QB k x) (hk : k ≤ 8000) : f__law_is_frac [qd x] st = .ok (.bl true) st := by
  have g : f__law_gcd [.int x.num, .int (x.den : Nat)] st = _ := r_gcd (lt_up hx.bi (by omega))
  rw [Int.natAbs_natCast, show x.num.natAbs.gcd x.den = 1 from x.reduced] at g
  have h1 : (1 : Int) ≤ (x.den : Nat) := by have := x.den_pos; omega
  simp [f__law_is_frac, runB_e, m__law_is_frac, qd_tup, r_is_int, g, h1]

theorem r_loverQ {k l : Nat} {x y : Rat} {st : Store} (hx : QB k x) (hy : QB l y) (h : y ≠ 0) (hk : k + l ≤ 9000) : f__law_over [qd x, qd y] st = .ok (qd (x / y)) st := by
  have o1 := om hx.an hy.bi (by omega)
  have o2 := om hx.bi hy.an (by omega)
  have z := r_fQ (st := st) (n := x.num * (y.den : Nat)) (Int.mul_ne_zero den_ne (num_ne h)) (mul_lt hx.bi hy.an) hk
  rw [← div_eq] at z
  rw [qd_tup] at z
  simp [f__law_over, runB_e, m__law_over, qd_tup, o1, o2, z]

/-! the law's own operations -/
theorem r_lplusQ {k l : Nat} {x y : Rat} {st : Store} (hx : QB k x) (hy : QB l y) (hk : k + l ≤ 9000) : f__law_plus [qd x, qd y] st = .ok (qd (x + y)) st := by
  have o1 := om hx.an hy.bi (by omega)
  have o2 := om hy.an hx.bi (by omega)
  have o3 := om hx.bi hy.bi (by omega)
  have z := r_fQ (st := st) (n := x.num * (y.den : Nat) + y.num * (x.den : Nat)) (d := (x.den : Nat) * (y.den : Nat)) (Int.mul_ne_zero den_ne den_ne) (mul_lt hx.bi hy.bi) hk
  rw [← Int.natCast_mul, Rat.divInt_ofNat, ← Rat.add_def', Int.natCast_mul] at z
  rw [qd_tup] at z
  simp [f__law_plus, runB_e, m__law_plus, qd_tup, o1, o2, o3, z]
theorem r_lminusQ {k l : Nat} {x y : Rat} {st : Store} (hx : QB k x) (hy : QB l y) (hk : k + l ≤ 9000) : f__law_minus [qd x, qd y] st = .ok (qd (x - y)) st := by
  have o1 := om hx.an hy.bi (by omega)
  have o2 := om hy.an hx.bi (by omega)
  have o3 := om hx.bi hy.bi (by omega)
  have z := r_fQ (st := st) (n := x.num * (y.den : Nat) - y.num * (x.den : Nat)) (d := (x.den : Nat) * (y.den : Nat)) (Int.mul_ne_zero den_ne den_ne) (mul_lt hx.bi hy.bi) hk
  rw [← Int.natCast_mul, Rat.divInt_ofNat, ← Rat.sub_def', Int.natCast_mul] at z
  rw [qd_tup] at z
  simp [f__law_minus, runB_e, m__law_minus, qd_tup, o1, o2, o3, z]
theorem r_ltimesQ {k l : Nat} {x y : Rat} {st : Store} (hx : QB k x) (hy : QB l y) (hk : k + l ≤ 9000) : f__law_times [qd x, qd y] st = .ok (qd (x * y)) st := by
  have o1 := om hx.an hy.an (by omega)
  have o2 := om hx.bi hy.bi (by omega)
  have z := r_fQ (st := st) (n := x.num * y.num) (d := (x.den : Nat) * (y.den : Nat)) (Int.mul_ne_zero den_ne den_ne) (mul_lt hx.bi hy.bi) hk
  rw [← Int.natCast_mul, Rat.divInt_ofNat, ← Rat.mul_def', Int.natCast_mul] at z
  rw [qd_tup] at z
  simp [f__law_times, runB_e, m__law_times, qd_tup, o1, o2, z]

/-! pairs, looked at: fractions -/
def isF (p : Int × Int) : Bool := decide (1 ≤ p.2) && decide (Nat.gcd p.1.natAbs p.2.natAbs = 1)
def frp (p : Int × Int) : D := fr p.1 p.2
def rp (p : Int × Int) : Rat := Rat.divInt p.1 p.2
theorem fqF {p : Int × Int} (h : isF p = true) : frp p = qd (rp p) := by
  unfold isF at h
  simp only [Bool.and_eq_true, decide_eq_true_eq] at h
  have h0 : p.2 ≠ 0 := by omega
  have := low_eq (rat_pos h0) (by omega : 0 < p.2) (rat_cop h0) h.2 (rat_cross (n := p.1) h0)
  unfold rp
  rw [← rat_qd h0]
  unfold rat frp
  rw [this.1, this.2]
section
variable {st : Store} {a b : Int}
theorem v_is_frac (h : b.natAbs < 2 ^ 9000) : f__law_is_frac [fr a b] st = .ok (.bl (decide (1 ≤ b) && decide (Nat.gcd a.natAbs b.natAbs = 1))) st := by
  have g : f__law_gcd [.int a, .int b] st = _ := r_gcd h
  unfold f__law_is_frac
  rw [runB_e]
  unfold m__law_is_frac
  by_cases p : 1 ≤ b
  · have p := eq_true p
    simp [r_is_int, p, g]
    omega
  · have p := eq_false p
    simp [r_is_int, p]
theorem v_is_fraction : f_is_fraction [fr a b] st = .ok (.bl (decide (1 ≤ b) && decide (Nat.gcd a.natAbs b.natAbs = 1))) st := by
  unfold f_is_fraction
  rw [runB_e]
  unfold m_is_fraction
  have as : ∀ s, ofA (gT 2 (gCs 1 (gCs 2 gNil0))) [some (fr a b), none, none] (fr a b) s = .nx [some (fr a b), some (.int a), some (.int b)] s := fun _ => rfl
  by_cases p : b < 1
  · have p' : ¬ 1 ≤ b := by omega
    have p := eq_true p
    have p' := eq_false p'
    simp [as, p, p']
  · have p' : 1 ≤ b := by omega
    have p := eq_false p
    have p' := eq_true p'
    simp [as, p, p']
    omega
end

/-! rationals over a common denominator -/
theorem W.eq {α : Type} {r : ER α} {x : α} {st : Store} (h : W r fun d s => d = x ∧ s = st) : r = .ok x st := by
  obtain ⟨d, s, e, rfl, rfl⟩ := h.ex
  exact e
theorem getD_at {α : Type} {l : List α} {i : Nat} {d : α} (h : i < l.length) : l.getD i d = l[i] := by
  rw [List.getD_eq_getElem?_getD, List.getElem?_eq_getElem h]
  rfl
theorem zipD_map {α β : Type} {f : α → D} {g : β → D} : ∀ {xs : List α} {ys : List β}, zipD (xs.map f) (ys.map g) = (List.zip xs ys).map fun p => .tup [f p.1, g p.2]
  | [], _ => rfl
  | _ :: _, [] => rfl
  | x :: xs, y :: ys => by
    rw [List.map_cons, List.map_cons, List.zip_cons_cons, List.map_cons, ← zipD_map]
    rfl
/-- so many D-th parts -/
def Rp (D N : Nat) (x : Rat) : Prop := ∃ n : Int, x * (D : Rat) = (n : Rat) ∧ n.natAbs ≤ N
theorem natCast_ne {D : Nat} (h : 0 < D) : (D : Rat) ≠ 0 := by
  intro e
  have : (D : Nat) = 0 := by exact_mod_cast e
  omega
theorem Rp.qb {D N k : Nat} {x : Rat} (h : Rp D N x) (h0 : 0 < D) (hD : D < 2 ^ k) (hN : N < 2 ^ k) : QB k x := by
  obtain ⟨n, e, l⟩ := h
  have hx : x = Rat.divInt n (D : Nat) := by
    have h1 : Rat.divInt n (D : Nat) = (n : Rat) / ((D : Nat) : Rat) := by
      rw [Rat.divInt_eq_div]
      rfl
    rw [h1, ← e, Rat.mul_div_cancel (natCast_ne h0)]
  rw [hx]
  exact .of (by omega) (by omega) (by rw [Int.natAbs_natCast]; exact hD)
theorem Rp.add {D N M : Nat} {x y : Rat} (hx : Rp D N x) (hy : Rp D M y) : Rp D (N + M) (x + y) := by
  obtain ⟨n, e, l⟩ := hx
  obtain ⟨m, f, k⟩ := hy
  exact ⟨n + m, by rw [Rat.add_mul, e, f, Rat.intCast_add], by omega⟩
theorem Rp.neg {D N : Nat} {x : Rat} (hx : Rp D N x) : Rp D N (-x) := by
  obtain ⟨n, e, l⟩ := hx
  exact ⟨-n, by rw [Rat.neg_mul, e, Rat.intCast_neg], by omega⟩
theorem Rp.sub {D N M : Nat} {x y : Rat} (hx : Rp D N x) (hy : Rp D M y) : Rp D (N + M) (x - y) := by
  rw [Rat.sub_eq_add_neg]
  exact hx.add hy.neg
theorem Rp.mul {D E N M : Nat} {x y : Rat} (hx : Rp D N x) (hy : Rp E M y) : Rp (D * E) (N * M) (x * y) := by
  obtain ⟨n, e, l⟩ := hx
  obtain ⟨m, f, k⟩ := hy
  refine ⟨n * m, ?_, by rw [Int.natAbs_mul]; exact Nat.mul_le_mul l k⟩
  rw [Rat.natCast_mul, Rat.intCast_mul, ← e, ← f]
  rw [Rat.mul_assoc, ← Rat.mul_assoc y, Rat.mul_comm y, Rat.mul_assoc (D : Rat), ← Rat.mul_assoc]
theorem Rp.one : Rp 1 1 1 := ⟨1, by simp, by decide⟩
theorem Rp.zero {D N : Nat} : Rp D N 0 := ⟨0, by simp, by simp⟩
theorem Rp.up {D N E : Nat} {x : Rat} (h : Rp D N x) (hE : D ∣ E) (h0 : 0 < D) {M : Nat} (hM : N * (E / D) ≤ M) : Rp E M x := by
  obtain ⟨c, rfl⟩ := hE
  obtain ⟨n, e, l⟩ := h
  rw [Nat.mul_div_cancel_left _ h0] at hM
  refine ⟨n * c, ?_, ?_⟩
  · rw [Rat.natCast_mul, ← Rat.mul_assoc, e, Rat.intCast_mul]
    rfl
  · rw [Int.natAbs_mul, Int.natAbs_natCast]
    exact Nat.le_trans (Nat.mul_le_mul_right _ l) hM
theorem Rp.le {D N M : Nat} {x : Rat} (h : Rp D N x) (hM : N ≤ M) : Rp D M x := by
  obtain ⟨n, e, l⟩ := h
  exact ⟨n, e, by omega⟩
theorem Rp.divInt {D N d : Nat} {n : Int} (h0 : 0 < d) (hd : d ∣ D) (hn : n.natAbs * (D / d) ≤ N) : Rp D N (Rat.divInt n (d : Nat)) := by
  obtain ⟨c, rfl⟩ := hd
  rw [Nat.mul_div_cancel_left _ h0] at hn
  refine ⟨n * c, ?_, by rw [Int.natAbs_mul, Int.natAbs_natCast]; exact hn⟩
  have h1 : Rat.divInt n (d : Nat) = (n : Rat) / ((d : Nat) : Rat) := by
    rw [Rat.divInt_eq_div]
    rfl
  rw [h1, Rat.natCast_mul, ← Rat.mul_assoc, Rat.div_mul_cancel (natCast_ne h0), Rat.intCast_mul]
  rfl
theorem zip_at {xs ys : List Rat} {i : Nat} {p : Rat × Rat} (h : (List.zip xs ys)[i]? = some p) : xs[i]? = some p.1 ∧ ys[i]? = some p.2 := List.getElem?_zip_eq_some.mp h

/-! k65: rising rows, plainly -/
/-- what is led up to, but not including, k -/
def Sd (a w x : Nat → Rat) : Nat → Rat
  | 0 => 0
  | k + 1 => Sd a w x k + w k * (a k - x k)
/-- the sum of w (a - x) (y - x) -/
def Td (a w x y : Nat → Rat) : Nat → Rat
  | 0 => 0
  | k + 1 => Td a w x y k + w k * (a k - x k) * (y k - x k)
/-- the sum of w (x - y) (x - y) -/
def Fd (w x y : Nat → Rat) : Nat → Rat
  | 0 => 0
  | k + 1 => Fd w x y k + w k * ((x k - y k) * (x k - y k))
def Up (n : Nat) (x : Nat → Rat) : Prop := ∀ k, k + 1 < n → x k ≤ x (k + 1)
structure KK (n : Nat) (a w x : Nat → Rat) : Prop where
  up : Up n x
  nn : ∀ k, k < n → 0 ≤ Sd a w x (k + 1)
  z : ∀ k, k < n → (k + 1 = n ∨ x k ≠ x (k + 1)) → Sd a w x (k + 1) = 0
theorem KK.td {n : Nat} {a w x y : Nat → Rat} (h : KK n a w x) (hy : Up n y) : ∀ k, k < n → Td a w x y (k + 1) ≤ Sd a w x (k + 1) * (y k - x k)
  | 0, _ => by
    simp only [Td, Sd]
    grind
  | k + 1, hk => by
    have ih := h.td hy k (by omega)
    have s0 := h.nn k (by omega)
    have hy1 := hy k hk
    have e : Sd a w x (k + 1) * (x (k + 1) - x k) = 0 := by
      by_cases c : x k = x (k + 1)
      · rw [c]
        grind
      · rw [h.z k (by omega) (.inr c)]
        grind
    have p : 0 ≤ Sd a w x (k + 1) * (y (k + 1) - y k) := Rat.mul_nonneg s0 (by grind)
    rw [Td, Sd]
    grind
theorem KK.le {n : Nat} {a w x y : Nat → Rat} (h : KK n a w x) (hy : Up n y) : Td a w x y n ≤ 0 := by
  cases n with
  | zero => exact Rat.le_refl
  | succ n =>
    have t := h.td hy n (by omega)
    rw [h.z n (by omega) (.inl rfl)] at t
    grind
theorem td_fd {a w x y : Nat → Rat} : ∀ n, Td a w x y n + Td a w y x n = Fd w x y n
  | 0 => by simp only [Td, Fd]; grind
  | n + 1 => by
    have ih := td_fd (a := a) (w := w) (x := x) (y := y) n
    simp only [Td, Fd]
    grind
theorem sq_nn (x : Rat) : 0 ≤ x * x := by
  rcases Rat.le_total (a := 0) (b := x) with h | h
  · exact Rat.mul_nonneg h h
  · have := Rat.mul_nonneg (a := -x) (b := -x) (by grind) (by grind)
    grind
theorem fd_nn {w x y : Nat → Rat} : ∀ n, (∀ k, k < n → 0 < w k) → 0 ≤ Fd w x y n
  | 0, _ => Rat.le_refl
  | n + 1, h => by
    have := fd_nn (x := x) (y := y) n fun k hk => h k (by omega)
    have q := Rat.mul_nonneg (a := w n) (b := (x n - y n) * (x n - y n)) (Rat.le_of_lt (h n (by omega))) (sq_nn _)
    rw [Fd]
    grind
theorem fd_zero {w x y : Nat → Rat} : ∀ n, (∀ k, k < n → 0 < w k) → Fd w x y n ≤ 0 → ∀ k, k < n → x k = y k
  | 0, _, _ => fun k hk => absurd hk (Nat.not_lt_zero _)
  | n + 1, h, h0 => fun k hk => by
    have a1 := fd_nn (x := x) (y := y) n fun k hk => h k (by omega)
    have w0 := h n (by omega)
    have s0 := sq_nn (x n - y n)
    have q := Rat.mul_nonneg (a := w n) (b := (x n - y n) * (x n - y n)) (Rat.le_of_lt w0) s0
    rw [Fd] at h0
    by_cases c : k = n
    · have z : w n * ((x n - y n) * (x n - y n)) = 0 := by grind
      rcases Rat.mul_eq_zero.mp z with e | e
      · rw [e] at w0
        exact absurd w0 (by decide)
      · have : x n - y n = 0 := by
          rcases Rat.mul_eq_zero.mp e with e | e <;> exact e
        rw [c]
        grind
    · exact fd_zero n (fun k hk => h k (by omega)) (by grind) k (by omega)
theorem KK.uniq {n : Nat} {a w x y : Nat → Rat} (hw : ∀ k, k < n → 0 < w k) (h : KK n a w x) (g : KK n a w y) : ∀ k, k < n → x k = y k := by
  refine fd_zero n hw ?_
  have := td_fd (a := a) (w := w) (x := x) (y := y) n
  have h1 := h.le g.up
  have h2 := g.le h.up
  grind
theorem fd_split {a w x t : Nat → Rat} : ∀ n, Fd w a t n = Fd w a x n + Fd w x t n - 2 * Td a w x t n
  | 0 => by simp only [Td, Fd]; grind
  | n + 1 => by
    have ih := fd_split (a := a) (w := w) (x := x) (t := t) n
    simp only [Td, Fd]
    grind
/-- the nearest rising row is at least as near to a rising one -/
theorem KK.far {n : Nat} {a w x t : Nat → Rat} (h : KK n a w x) (ht : Up n t) : Fd w a x n + Fd w x t n ≤ Fd w a t n := by
  have := fd_split (a := a) (w := w) (x := x) (t := t) n
  have := h.le ht
  grind
theorem fd_symm {w x y : Nat → Rat} : ∀ n, Fd w x y n = Fd w y x n
  | 0 => rfl
  | n + 1 => by
    have ih := fd_symm (w := w) (x := x) (y := y) n
    rw [Fd, Fd, ih]
    grind

/-! k65: pooling, plainly -/
def Pw (w : Nat → Rat) : Nat → Rat
  | 0 => 0
  | k + 1 => Pw w k + w k
def Pp (a w : Nat → Rat) : Nat → Rat
  | 0 => 0
  | k + 1 => Pp a w k + w k * a k
structure Bk where
  m : Rat
  W : Rat
  c : Nat
def jn (c b : Bk) : Bk := ⟨(c.W * c.m + b.W * b.m) / (c.W + b.W), c.W + b.W, c.c + b.c⟩
def pool : Bk → List Bk → List Bk
  | b, [] => [b]
  | b, c :: cs => if c.m < b.m then b :: c :: cs else pool (jn c b) cs
/-- a block that stands for s .. k -/
structure Seg (a w : Nat → Rat) (b : Bk) (s k : Nat) : Prop where
  c0 : 0 < b.c
  e : k = s + b.c
  W : b.W = Pw w k - Pw w s
  m : b.m * b.W = Pp a w k - Pp a w s
  le : ∀ i, s < i → i ≤ k → b.m * (Pw w i - Pw w s) ≤ Pp a w i - Pp a w s
def Stk (a w : Nat → Rat) : List Bk → Nat → Prop
  | [], k => k = 0
  | b :: bs, k => ∃ s, Stk a w bs s ∧ Seg a w b s k ∧ ∀ c, bs.head? = some c → c.m < b.m
section
variable {a w : Nat → Rat} {n : Nat}
theorem pw_lt (hw : ∀ k, k < n → 0 < w k) {i : Nat} : ∀ d, i + d ≤ n → Pw w i ≤ Pw w (i + d) ∧ (0 < d → Pw w i < Pw w (i + d))
  | 0, _ => ⟨Rat.le_refl, fun h => absurd h (Nat.lt_irrefl _)⟩
  | d + 1, h => by
    have ih := (pw_lt hw (i := i) d (by omega)).1
    have w0 := hw (i + d) (by omega)
    rw [← Nat.add_assoc, Pw]
    grind
theorem pw_le (hw : ∀ k, k < n → 0 < w k) {i j : Nat} (h : i ≤ j) (hj : j ≤ n) : Pw w i ≤ Pw w j := by
  have := (pw_lt hw (i := i) (j - i) (by omega)).1
  rwa [show i + (j - i) = j by omega] at this
theorem Seg.pos (hw : ∀ k, k < n → 0 < w k) {b : Bk} {s k : Nat} (h : Seg a w b s k) (hk : k ≤ n) : 0 < b.W := by
  have c0 := h.c0
  have e := h.e
  have := (pw_lt hw (i := s) b.c (by omega)).2 c0
  rw [h.W, e]
  grind
theorem jn_m {c b : Bk} (h1 : 0 < c.W) (h2 : 0 < b.W) : (jn c b).m * (jn c b).W = c.W * c.m + b.W * b.m := by
  show (c.W * c.m + b.W * b.m) / (c.W + b.W) * (c.W + b.W) = _
  exact Rat.div_mul_cancel (by grind)
theorem Seg.join (hw : ∀ k, k < n → 0 < w k) {c b : Bk} {r s k : Nat} (hc : Seg a w c r s) (hb : Seg a w b s k) (hk : k ≤ n) (h : ¬ c.m < b.m) : Seg a w (jn c b) r k := by
  have cl := hc.e
  have bl := hb.e
  have c0 := hc.c0
  have c1 := hc.pos hw (by omega)
  have b1 := hb.pos hw hk
  have e := jn_m c1 b1
  have eW : (jn c b).W = c.W + b.W := rfl
  obtain ⟨m, hm⟩ : ∃ m, m = (jn c b).m := ⟨_, rfl⟩
  rw [eW, ← hm] at e
  have h := Rat.not_lt.mp h
  have mc : m ≤ c.m := by
    refine Rat.not_lt.mp fun q => ?_
    have p := Rat.mul_lt_mul_of_pos_right q (show 0 < c.W + b.W by grind)
    have p2 := Rat.mul_nonneg (a := c.m - b.m) (b := b.W) (by grind) (Rat.le_of_lt b1)
    grind
  have bm : b.m ≤ m := by
    refine Rat.not_lt.mp fun q => ?_
    have p := Rat.mul_lt_mul_of_pos_right q (show 0 < c.W + b.W by grind)
    have p2 := Rat.mul_nonneg (a := c.m - b.m) (b := c.W) (by grind) (Rat.le_of_lt c1)
    grind
  have W1 := hc.W
  have W2 := hb.W
  have m1 := hc.m
  have m2 := hb.m
  refine ⟨by show 0 < c.c + b.c; omega, by show k = r + (c.c + b.c); omega, by rw [eW]; grind, by rw [eW, ← hm]; grind, fun i hi hik => ?_⟩
  rw [← hm]
  by_cases q : i ≤ s
  · have l := hc.le i hi q
    have p := Rat.mul_nonneg (a := c.m - m) (b := Pw w i - Pw w r) (by grind) (by have := pw_le hw (i := r) (j := i) (by omega) (by omega); grind)
    grind
  · have l := hb.le i (by omega) hik
    have p := Rat.mul_nonneg (a := m - b.m) (b := b.W - (Pw w i - Pw w s)) (by grind) (by have := pw_le hw (i := i) (j := k) hik hk; grind)
    clear h mc bm c1 b1 hm
    rw [W1, W2] at e
    rw [W1] at m1
    rw [W2] at p
    grind
theorem pool_stk (hw : ∀ k, k < n → 0 < w k) {k : Nat} (hk : k ≤ n) : ∀ {bs : List Bk} {b : Bk} {s : Nat}, Stk a w bs s → Seg a w b s k → Stk a w (pool b bs) k
  | [], b, s, hs, hb => ⟨s, hs, hb, nofun⟩
  | c :: cs, b, s, hs, hb => by
    unfold pool
    split
    · rename_i q
      exact ⟨s, hs, hb, fun d hd => by rw [← Option.some.inj hd]; exact q⟩
    · rename_i q
      obtain ⟨r, h1, h2, _⟩ := hs
      exact pool_stk hw hk h1 (h2.join hw hb hk q)
theorem seg_one {k : Nat} : Seg a w ⟨a k, w k, 1⟩ k (k + 1) := by
  refine ⟨Nat.one_pos, rfl, ?_, ?_, fun i h1 h2 => ?_⟩
  · rw [Pw]
    grind
  · rw [Pp]
    show a k * w k = _
    grind
  · have : i = k + 1 := by omega
    rw [this, Pw, Pp]
    grind
def rowB : List Bk → List Rat
  | [] => []
  | b :: bs => rowB bs ++ List.replicate b.c b.m
theorem Stk.len : ∀ {bs : List Bk} {k : Nat}, Stk a w bs k → (rowB bs).length = k
  | [], k, h => h.symm
  | b :: bs, k, h => by
    obtain ⟨s, h1, h2, _⟩ := h
    rw [rowB, List.length_append, List.length_replicate, h1.len, h2.e]
def fnR (xs : List Rat) (k : Nat) : Rat := xs.getD k 0
theorem row_lo {bs : List Bk} {b : Bk} {s i : Nat} (h : (rowB bs).length = s) (hi : i < s) : fnR (rowB (b :: bs)) i = fnR (rowB bs) i := by
  show (rowB bs ++ List.replicate b.c b.m).getD i 0 = (rowB bs).getD i 0
  rw [List.getD_eq_getElem?_getD, List.getD_eq_getElem?_getD, List.getElem?_append_left (by omega)]
theorem row_hi {bs : List Bk} {b : Bk} {s i : Nat} (h : (rowB bs).length = s) (hi : s ≤ i) (h2 : i < s + b.c) : fnR (rowB (b :: bs)) i = b.m := by
  show (rowB bs ++ List.replicate b.c b.m).getD i 0 = b.m
  rw [List.getD_eq_getElem?_getD, List.getElem?_append_right (by omega), List.getElem?_replicate, if_pos (by omega)]
  rfl
theorem sd_congr {x y : Nat → Rat} : ∀ k, (∀ i, i < k → x i = y i) → Sd a w x k = Sd a w y k
  | 0, _ => rfl
  | k + 1, h => by
    rw [Sd, Sd, sd_congr k fun i hi => h i (by omega), h k (by omega)]
theorem sd_seg {x : Nat → Rat} {s : Nat} {m : Rat} : ∀ d, (∀ i, s ≤ i → i < s + d → x i = m) → Sd a w x (s + d) = Sd a w x s + (Pp a w (s + d) - Pp a w s) - m * (Pw w (s + d) - Pw w s)
  | 0, _ => by
    show Sd a w x s = Sd a w x s + (Pp a w s - Pp a w s) - m * (Pw w s - Pw w s)
    grind
  | d + 1, h => by
    have ih := sd_seg d fun i h1 h2 => h i h1 (by omega)
    rw [← Nat.add_assoc, Sd, Pp, Pw, ih, h (s + d) (by omega) (by omega)]
    grind
theorem Stk.kk (hw : ∀ k, k < n → 0 < w k) : ∀ {bs : List Bk} {k : Nat}, Stk a w bs k → k ≤ n → KK k a w (fnR (rowB bs)) ∧ Sd a w (fnR (rowB bs)) k = 0 ∧ ∀ b, bs.head? = some b → 0 < k ∧ fnR (rowB bs) (k - 1) = b.m
  | [], k, h, _ => by
    have h : k = 0 := h
    rw [h]
    exact ⟨⟨fun k hk => absurd hk (Nat.not_lt_zero _), fun k hk => absurd hk (Nat.not_lt_zero _), fun k hk => absurd hk (Nat.not_lt_zero _)⟩, rfl, nofun⟩
  | b :: bs, k, h, hk => by
    obtain ⟨s, h1, h2, h3⟩ := h
    have ek := h2.e
    have c0 := h2.c0
    obtain ⟨K, z, hd⟩ := h1.kk hw (by omega)
    have ln := h1.len
    have lo := fun i (hi : i < s) => row_lo (b := b) ln hi
    have hi := fun i (h1 : s ≤ i) (h2 : i < k) => row_hi (b := b) ln h1 (by omega)
    obtain ⟨x, hx⟩ : ∃ x, x = fnR (rowB (b :: bs)) := ⟨_, rfl⟩
    obtain ⟨y, hy⟩ : ∃ y, y = fnR (rowB bs) := ⟨_, rfl⟩
    rw [← hy] at K z hd lo
    rw [← hx] at lo hi ⊢
    have sl : ∀ i, i ≤ s → Sd a w x i = Sd a w y i := fun i q => sd_congr i fun j hj => lo j (by omega)
    have sh : ∀ i, s < i → i ≤ k → Sd a w x i = (Pp a w i - Pp a w s) - b.m * (Pw w i - Pw w s) := fun i q1 q2 => by
      have := sd_seg (a := a) (w := w) (x := x) (s := s) (m := b.m) (i - s) fun j p1 p2 => hi j p1 (by omega)
      rw [show s + (i - s) = i by omega, sl s (Nat.le_refl _), z] at this
      rw [this]
      grind
    have zk : Sd a w x k = 0 := by
      rw [sh k (by omega) (Nat.le_refl _)]
      have e1 := h2.m
      rw [h2.W] at e1
      grind
    refine ⟨⟨fun i q => ?_, fun i q => ?_, fun i q p => ?_⟩, zk, fun c hc => ⟨by omega, ?_⟩⟩
    · by_cases q1 : i + 1 < s
      · rw [lo i (by omega), lo (i + 1) q1]
        exact K.up i q1
      · by_cases q2 : i + 1 = s
        · rw [lo i (by omega), hi (i + 1) (by omega) (by omega)]
          cases hb : bs with
          | nil =>
            rw [hb] at h1
            have h1 : s = 0 := h1
            omega
          | cons c cs =>
            have e := (hd c (by rw [hb]; rfl)).2
            rw [show i = s - 1 by omega, e]
            exact Rat.le_of_lt (h3 c (by rw [hb]; rfl))
        · rw [hi i (by omega) (by omega), hi (i + 1) (by omega) (by omega)]
          exact Rat.le_refl
    · by_cases q1 : i + 1 ≤ s
      · rw [sl _ q1]
        exact K.nn i (by omega)
      · rw [sh (i + 1) (by omega) (by omega)]
        have := h2.le (i + 1) (by omega) (by omega)
        grind
    · by_cases q1 : i + 1 < s
      · rw [sl _ (by omega)]
        refine K.z i (by omega) ?_
        rw [lo i (by omega), lo (i + 1) q1] at p
        rcases p with p | p
        · omega
        · exact .inr p
      · by_cases q2 : i + 1 = s
        · rw [sl _ (by omega), q2]
          exact z
        · by_cases q3 : i + 1 = k
          · rw [q3]
            exact zk
          · rcases p with p | p
            · exact absurd p q3
            · exact absurd (by rw [hi i (by omega) (by omega), hi (i + 1) (by omega) (by omega)]) p
    · rw [← Option.some.inj hc]
      exact hi (k - 1) (by omega) (by omega)
/-- the stack after k items -/
def stkOf (a w : Nat → Rat) : Nat → List Bk
  | 0 => []
  | k + 1 => pool ⟨a k, w k, 1⟩ (stkOf a w k)
theorem stkOf_stk (hw : ∀ k, k < n → 0 < w k) : ∀ k, k ≤ n → Stk a w (stkOf a w k) k
  | 0, _ => rfl
  | k + 1, h => pool_stk hw h (stkOf_stk hw k (by omega)) seg_one
end

/-! k65: pooling, walked -/
def bd (b : Bk) : D := .tup [.tup [qd b.m, qd b.W], .int (b.c : Nat)]
theorem atI_1 {xs : List D} {x : D} : atI (xs ++ [x]) (-1) = some x := by
  unfold atI ixN
  rw [if_neg (by decide), if_pos (by rw [List.length_append, List.length_singleton]; omega)]
  simp
  rw [show (-1 + ((xs.length : Int) + 1)).toNat = xs.length by omega]
  simp
theorem atI_2 {xs : List D} {x y : D} : atI (xs ++ [y, x]) (-2) = some y := by
  unfold atI ixN
  rw [if_neg (by decide), if_pos (by rw [List.length_append]; simp; omega)]
  simp
  rw [show (-2 + ((xs.length : Int) + 2)).toNat = xs.length by omega]
  simp
section
variable {st : Store} {c b : Bk}
/-- few bits -/
structure BQ (b : Bk) : Prop where
  m : QB 1000 b.m
  W : QB 1000 b.W
  p : 0 < b.W
theorem r_joined (hc : BQ c) (hb : BQ b) : f_joined_bowl [.tup [qd c.m, qd c.W], .tup [qd b.m, qd b.W]] st = .ok (.tup [qd (jn c b).m, qd (jn c b).W]) st := by
  have p1 := r_plusQ (st := st) hc.W hb.W (by decide)
  have t1 := r_timesQ (st := st) hc.W hc.m (by decide)
  have t2 := r_timesQ (st := st) hb.W hb.m (by decide)
  have p2 := r_plusQ (st := st) (hc.W.mul hc.m) (hb.W.mul hb.m) (by decide)
  have o := r_overQ (st := st) ((hc.W.mul hc.m).add (hb.W.mul hb.m)) (hc.W.add hb.W) (by have := hc.p; have := hb.p; grind) (by decide)
  unfold f_joined_bowl
  rw [runB_e]
  unfold m_joined_bowl
  simp [p1, t1, t2, p2, o, jn]
theorem r_ahead (hc : QB 1000 c.m) (hb : QB 1000 b.m) : f_is_ahead [bd c, bd b] st = .ok (.bl (decide (c.m < b.m))) st := by
  have e := r_belowQ (st := st) hc hb (by decide)
  unfold f_is_ahead
  rw [runB_e]
  unfold m_is_ahead bd
  simp [e]
theorem r_one_block (hc : BQ c) (hb : BQ b) : f_one_block [bd c, bd b] st = .ok (bd (jn c b)) st := by
  have e := r_joined (st := st) hc hb
  unfold f_one_block
  rw [runB_e]
  unfold m_one_block bd
  simp [e]
  rfl
end

theorem ws_app {τ : Sl} {st : Store} {fo fe : EM D} {m : Nat} {xs0 : List D} {N : Sl → Store → Prop} {R : D → Store → Prop} {B C : Sl → Store → Prop} (ho : fo τ st = .ok (.ref m) st) (g : lstAt st m = some xs0)
    (h : W (fe τ st) fun v s1 => ∃ xs, lstAt s1 m = some xs ∧ xs.length < 16777216 ∧ N τ (s1.set m (.lst (xs ++ [v])))) : WS (sExpr (eM "list" mAppend fo (aCons fe aNil)) τ st) N R B C := by
  refine ws_expr ?_
  rw [eM_e, ho, ER.bind_ok, if_pos (okT_ref g), W_bind, aCons_e, W_bind]
  refine h.mono fun v s1 ⟨xs, hx, hl, hN⟩ => ?_
  show W (mAppend (.ref m) [v] s1) _
  rw [mAppend_ref hx hl]
  exact hN
theorem call2 {f : FM} {fa fb : EM D} {a b : D} {s s1 s2 : Store} (h1 : fa τ s = .ok a s1) (h2 : fb τ s1 = .ok b s2) : eCall 2 f (aCons fa (aCons fb aNil)) τ s = f [a, b] s2 := by
  rw [eCall_e, aCons_e, h1, ER.bind_ok, aCons_e, h2]
  rfl

/-! k65: all blocks pooled -/
structure Sz (E N n : Nat) (a w : List Rat) : Prop where
  n20 : n ≤ 20
  la : a.length = n
  lw : w.length = n
  e0 : 0 < E
  e1 : E < 2 ^ 400
  n1 : N < 2 ^ 450
  a : ∀ z ∈ a, Rp E N z
  w : ∀ z ∈ w, 0 < z ∧ Rp 12 256 z
theorem fn_mem {xs : List Rat} {k : Nat} (h : k < xs.length) : fnR xs k ∈ xs := by
  unfold fnR
  rw [getD_at h]
  exact List.getElem_mem h
theorem fn_at {xs : List Rat} {k : Nat} {z : Rat} (h : xs[k]? = some z) : fnR xs k = z := by
  unfold fnR
  rw [List.getD_eq_getElem?_getD, h]
  rfl
section
variable {E N n : Nat} {a w : List Rat}
theorem Sz.hw (Z : Sz E N n a w) : ∀ k, k < n → 0 < fnR w k := fun k hk => (Z.w _ (fn_mem (by rw [Z.lw]; exact hk))).1
theorem Sz.pw (Z : Sz E N n a w) : ∀ k, k ≤ n → Rp 12 (256 * k) (Pw (fnR w) k)
  | 0, _ => Rp.zero
  | k + 1, h => by
    have ih := Z.pw k (by omega)
    exact ih.add (Z.w _ (fn_mem (by rw [Z.lw]; omega))).2
theorem Sz.pp (Z : Sz E N n a w) : ∀ k, k ≤ n → Rp (12 * E) (256 * N * k) (Pp (fnR a) (fnR w) k)
  | 0, _ => Rp.zero
  | k + 1, h => by
    have ih := Z.pp k (by omega)
    exact ih.add ((Z.w _ (fn_mem (by rw [Z.lw]; omega))).2.mul (Z.a _ (fn_mem (by rw [Z.la]; omega))))
theorem Sz.segW (Z : Sz E N n a w) {b : Bk} {s k : Nat} (h : Seg (fnR a) (fnR w) b s k) (hk : k ≤ n) : Rp 12 (2 ^ 14) b.W := by
  have e := h.e
  have := Z.n20
  rw [h.W]
  exact ((Z.pw k hk).sub (Z.pw s (by omega))).le (by omega)
theorem Sz.segA (Z : Sz E N n a w) {b : Bk} {s k : Nat} (h : Seg (fnR a) (fnR w) b s k) (hk : k ≤ n) : Rp (12 * E) (N * 2 ^ 14) (b.m * b.W) := by
  have e := h.e
  have := Z.n20
  rw [h.m]
  refine ((Z.pp k hk).sub (Z.pp s (by omega))).le ?_
  rw [← Nat.mul_add, Nat.mul_comm 256 N, Nat.mul_assoc]
  exact Nat.mul_le_mul_left _ (by omega)
theorem Sz.bq (Z : Sz E N n a w) {b : Bk} {s k : Nat} (h : Seg (fnR a) (fnR w) b s k) (hk : k ≤ n) : BQ b := by
  have W0 := h.pos Z.hw hk
  have e1 := Z.e1
  have n1 := Z.n1
  have e0 := Z.e0
  have A : QB 500 (b.m * b.W) := (Z.segA h hk).qb (by omega) (Nat.lt_of_lt_of_le (Nat.mul_lt_mul_of_pos_left e1 (by decide)) (by decide +kernel)) (Nat.lt_of_lt_of_le (Nat.mul_lt_mul_of_pos_right n1 (by decide)) (by decide +kernel))
  have B : QB 15 b.W := (Z.segW h hk).qb (by decide) (by decide) (by decide)
  have ne : b.W ≠ 0 := fun e => by rw [e] at W0; exact absurd W0 (by decide)
  have q := A.div B ne
  rw [Rat.mul_div_cancel ne] at q
  exact ⟨q.up (by decide), B.up (by decide), W0⟩
theorem set_last {st : Store} {xs ys : List D} : (st ++ [Cell.lst xs]).set st.length (.lst ys) = st ++ [.lst ys] := by
  rw [List.set_append_right _ _ (Nat.le_refl _), Nat.sub_self]
  rfl
theorem e_pop {τ : Sl} {s : Store} {fo : EM D} {m : Nat} {xs : List D} {x : D} (ho : fo τ s = .ok (.ref m) s) (g : lstAt s m = some (xs ++ [x])) : eM "list" mPop fo aNil τ s = .ok x (s.set m (.lst xs)) := by
  rw [eM_e, ho, ER.bind_ok, if_pos (okT_ref g)]
  show mPop (.ref m) [] s = _
  exact mPop_ref g
def stD (bs : List Bk) : List D := bs.reverse.map bd
theorem stD_cons {b : Bk} {bs : List Bk} : stD (b :: bs) = stD bs ++ [bd b] := by
  unfold stD
  rw [List.reverse_cons, List.map_append]
  rfl
theorem Stk.lenB {a w : Nat → Rat} : ∀ {bs : List Bk} {k : Nat}, Stk a w bs k → bs.length ≤ k
  | [], _, _ => Nat.zero_le _
  | b :: bs, k, h => by
    obtain ⟨s, h1, h2, _⟩ := h
    have := h1.lenB
    have := h2.e
    have := h2.c0
    rw [List.length_cons]
    omega
theorem r_pooled {st : Store} (Z : Sz E N n a w) : f_pooled_blocks [.tup (a.map qd), .tup (w.map qd)] st = .ok (.ref st.length) (st ++ [.lst (stD (stkOf (fnR a) (fnR w) n))]) := by
  have hw := Z.hw
  have n20 := Z.n20
  refine W.eq ?_
  have zz : ∀ t, zip2 (.tup (a.map qd)) (.tup (w.map qd)) t = .ok (.fix ((List.zip a w).map fun p => .tup [qd p.1, qd p.2])) t := fun t => by
    rw [zip2_tup, zipD_map]
  obtain ⟨X, hX⟩ : ∃ X, X = D.tup (a.map qd) := ⟨_, rfl⟩
  obtain ⟨Y, hY⟩ : ∃ Y, Y = D.tup (w.map qd) := ⟨_, rfl⟩
  rw [← hX, ← hY] at zz ⊢
  unfold f_pooled_blocks
  rw [runB_e]
  unfold m_pooled_blocks
  rw [W_fin]
  have n6 : ent 6 [X, Y] = [some X, some Y, none, none, none, none] := rfl
  rw [n6]
  refine ws_cons (N' := fun τ t => τ = [some X, some Y, some (.ref st.length), none, none, none] ∧ t = st ++ [.lst []]) (ws_set (W.of (a := .ref st.length) (s := st ++ [.lst []]) (by simp) ⟨rfl, rfl⟩)) fun τ t hp => ?_
  obtain ⟨rfl, ht⟩ := hp
  rw [ht]
  clear ht t
  obtain ⟨J, hJ⟩ : ∃ J : Nat → Sl → Store → Prop, J = fun i τ t => (∃ c d e, τ = [some X, some Y, some (.ref st.length), c, d, e]) ∧ t = st ++ [.lst (stD (stkOf (fnR a) (fnR w) i))] := ⟨_, rfl⟩
  have lz : (List.zip a w).length = n := by rw [List.length_zip, Z.la, Z.lw]; omega
  refine ws_cons (N' := J n) ?_ fun τ t hp => ?_
  · refine ws_forD (fun q t' => q = .fix ((List.zip a w).map fun p => .tup [qd p.1, qd p.2]) ∧ t' = st ++ [.lst []]) (W.of (a := .fix ((List.zip a w).map fun p => .tup [qd p.1, qd p.2])) (s := st ++ [.lst []]) (by simp [zz]) ⟨rfl, rfl⟩) ?_
    rintro _ t' ⟨rfl, ht'⟩
    rw [ht']
    refine ws_map (fun p : Rat × Rat => .tup [qd p.1, qd p.2]) (List.zip a w) rfl J (fun _ _ _ _ => rfl) (by rw [hJ]; exact ⟨⟨_, _, _, rfl⟩, rfl⟩) (fun i p τ t hi hp => ?_) fun τ t hp => by rw [lz] at hp; exact hp
    rw [hJ] at hp
    obtain ⟨⟨c, d, e, rfl⟩, ht⟩ := hp
    rw [ht]
    clear ht t
    obtain ⟨ha, hb⟩ := zip_at hi
    have hin : i < n := by
      have := (List.getElem?_eq_some_iff.mp hi).1
      omega
    have hS := stkOf_stk hw i (by omega) (a := fnR a)
    have lb := hS.lenB
    have hG : Seg (fnR a) (fnR w) ⟨p.1, p.2, 1⟩ i (i + 1) := by
      have := seg_one (a := fnR a) (w := fnR w) (k := i)
      rw [fn_at ha, fn_at hb] at this
      exact this
    have hE : stkOf (fnR a) (fnR w) (i + 1) = pool ⟨p.1, p.2, 1⟩ (stkOf (fnR a) (fnR w) i) := by
      rw [stkOf, fn_at ha, fn_at hb]
    refine ⟨[some X, some Y, some (.ref st.length), some (qd p.1), some (qd p.2), e], rfl, ?_⟩
    refine ws_cons (N' := fun τ t => ∃ c d e, τ = [some X, some Y, some (.ref st.length), c, d, e] ∧ t = st ++ [.lst (stD (⟨p.1, p.2, 1⟩ :: stkOf (fnR a) (fnR w) i))]) ?_ fun τ t hp => ?_
    · refine ws_app (m := st.length) rfl lstAt_new (W.of (a := bd ⟨p.1, p.2, 1⟩) (s := st ++ [.lst (stD (stkOf (fnR a) (fnR w) i))]) (by unfold bd; simp) ⟨_, lstAt_new, ?_, _, _, _, rfl, ?_⟩)
      · unfold stD
        rw [List.length_map, List.length_reverse]
        omega
      · rw [set_last, stD_cons]
    obtain ⟨c', d', e', rfl, ht⟩ := hp
    rw [ht]
    clear ht t c d
    obtain ⟨PW, hPW⟩ : ∃ PW : Nat → Sl → Store → Prop, PW = fun l τ t => ∃ b bs s, bs.length = l ∧ Stk (fnR a) (fnR w) bs s ∧ Seg (fnR a) (fnR w) b s (i + 1) ∧ pool b bs = stkOf (fnR a) (fnR w) (i + 1) ∧ (∃ c d e, τ = [some X, some Y, some (.ref st.length), c, d, e]) ∧ t = st ++ [.lst (stD (b :: bs))] := ⟨_, rfl⟩
    refine ws_while PW (fun l τ t hp => ?_) big (stkOf (fnR a) (fnR w) i).length _ _ (Nat.lt_of_lt_of_le (show _ < 21 by omega) (le_big (k := 5) (by decide) (by decide))) (by rw [hPW]; exact ⟨_, _, _, rfl, hS, hG, hE.symm, ⟨_, _, _, rfl⟩, rfl⟩)
    rw [hPW] at hp
    obtain ⟨b, bs, s, hl, h1, h2, h3, ⟨c, d, e, rfl⟩, ht⟩ := hp
    rw [ht]
    clear ht t
    have bqb := Z.bq h2 (by omega)
    have lbs := h1.lenB
    have es := h2.e
    obtain ⟨r, hr⟩ : ∃ r, r = st.length := ⟨_, rfl⟩
    cases bs with
    | nil =>
      have g : lstAt (st ++ [.lst (stD [b])]) r = some [bd b] := by rw [hr]; exact lstAt_new
      have ln := fLen_ref g
      rw [← hr]
      obtain ⟨S, hS⟩ : ∃ S, S = st ++ [Cell.lst (stD [b])] := ⟨_, rfl⟩
      rw [← hS] at ln ⊢
      refine W.of (a := false) (s := S) (by simp [ln]) ?_
      rw [if_neg (by decide), hJ, hS, hr]
      refine ⟨⟨_, _, _, rfl⟩, ?_⟩
      show st ++ [Cell.lst (stD [b])] = st ++ [.lst (stD (stkOf (fnR a) (fnR w) (i + 1)))]
      rw [← h3]
      rfl
    | cons c0 cs =>
      obtain ⟨s', q1, q2, q3⟩ := h1
      have es' := q2.e
      have bqc := Z.bq q2 (by omega)
      have ea := fun t => r_ahead (st := t) bqc.m bqb.m
      have eo := fun t => r_one_block (st := t) bqc bqb
      have g : lstAt (st ++ [.lst (stD (b :: c0 :: cs))]) r = some (stD cs ++ [bd c0, bd b]) := by rw [hr, lstAt_new, stD_cons, stD_cons, List.append_assoc]; rfl
      have ln := fLen_ref g
      have i2 : oIx (.ref r) (.int (-2)) (st ++ [.lst (stD (b :: c0 :: cs))]) = .ok (bd c0) (st ++ [.lst (stD (b :: c0 :: cs))]) := by rw [oIx_ref g, atI_2]; rfl
      have i1 : oIx (.ref r) (.int (-1)) (st ++ [.lst (stD (b :: c0 :: cs))]) = .ok (bd b) (st ++ [.lst (stD (b :: c0 :: cs))]) := by
        rw [oIx_ref g, show stD cs ++ [bd c0, bd b] = (stD cs ++ [bd c0]) ++ [bd b] by rw [List.append_assoc]; rfl, atI_1]
        rfl
      rw [← hr]
      obtain ⟨S, hS⟩ : ∃ S, S = st ++ [Cell.lst (stD (b :: c0 :: cs))] := ⟨_, rfl⟩
      obtain ⟨B, hB⟩ : ∃ B, B = bd b := ⟨_, rfl⟩
      obtain ⟨C, hC⟩ : ∃ C, C = bd c0 := ⟨_, rfl⟩
      rw [← hB, ← hC] at ea eo g ln
      rw [← hB] at i1
      rw [← hC] at i2
      rw [← hS] at ln i1 i2 g ⊢
      refine W.of (a := !decide (c0.m < b.m)) (s := S) (by simp [ln, i1, i2, ea]; omega) ?_
      by_cases k : c0.m < b.m
      · rw [decide_eq_true k, Bool.not_true, if_neg (by decide), hJ, hS, hr]
        refine ⟨⟨_, _, _, rfl⟩, ?_⟩
        show st ++ [Cell.lst (stD (b :: c0 :: cs))] = st ++ [.lst (stD (stkOf (fnR a) (fnR w) (i + 1)))]
        rw [← h3, pool, if_pos k]
      · rw [decide_eq_false k, Bool.not_false, if_pos rfl]
        refine ws_cons (N' := fun τ t => ∃ c d, τ = [some X, some Y, some (.ref r), c, d, some B] ∧ t = st ++ [.lst (stD cs ++ [C])]) ?_ fun τ t hp => ?_
        · refine ws_set (W.of (a := B) (s := S.set r (.lst (stD cs ++ [C]))) (e_pop rfl (by rw [g, List.append_assoc]; rfl)) ⟨_, _, rfl, ?_⟩)
          rw [hS, hr, set_last]
        obtain ⟨c1, d1, rfl, ht⟩ := hp
        rw [ht]
        clear ht t
        have g2 : lstAt (st ++ [Cell.lst (stD cs ++ [C])]) r = some (stD cs ++ [C]) := by rw [hr]; exact lstAt_new
        have cl := q1.lenB
        refine ws_app (m := r) rfl g2 ?_
        rw [call2 (s2 := st ++ [.lst (stD cs)]) (by rw [e_pop rfl g2, hr, set_last]) (eVar_e rfl)]
        refine W.of (eo _) ⟨stD cs, by rw [hr]; exact lstAt_new, by unfold stD; rw [List.length_map, List.length_reverse]; omega, cs.length, by rw [← hl]; exact Nat.lt_succ_self _, ?_⟩
        rw [hPW]
        refine ⟨jn c0 b, cs, s', rfl, q1, q2.join hw h2 (by omega) k, ?_, ⟨_, _, _, by rw [hr]⟩, ?_⟩
        · rw [← h3]
          conv => rhs; rw [pool, if_neg k]
        · rw [hr, set_last, stD_cons]
  rw [hJ] at hp
  obtain ⟨⟨c, d, e, rfl⟩, ht⟩ := hp
  rw [ht]
  exact ws_ret (W.of (eVar_e rfl) ⟨rfl, rfl⟩)
end

/-! k65: the nearest rising row, walked -/
theorem ws_ext {τ : Sl} {st : Store} {fo fe : EM D} {m : Nat} {xs0 : List D} {N : Sl → Store → Prop} {R : D → Store → Prop} {B C : Sl → Store → Prop} (ho : fo τ st = .ok (.ref m) st) (g : lstAt st m = some xs0)
    (h : W (fe τ st) fun v s1 => ∃ k xs ys, v = .ref k ∧ lstAt s1 m = some xs ∧ lstAt s1 k = some ys ∧ xs.length + ys.length ≤ 16777216 ∧ N τ (s1.set m (.lst (xs ++ ys)))) : WS (sExpr (eM "list" mExtend fo (aCons fe aNil)) τ st) N R B C := by
  refine ws_expr ?_
  rw [eM_e, ho, ER.bind_ok, if_pos (okT_ref g), W_bind, aCons_e, W_bind]
  refine h.mono fun v s1 ⟨k, xs, ys, hv, hx, hy, hl, hN⟩ => ?_
  show W (mExtend (.ref m) [v] s1) _
  rw [hv, mExtend_ref hx hy hl]
  exact hN
theorem rowB_flat : ∀ {bs : List Bk}, rowB bs = bs.reverse.flatMap fun b => List.replicate b.c b.m
  | [] => rfl
  | b :: bs => by
    rw [rowB, rowB_flat, List.reverse_cons, List.flatMap_append]
    simp
theorem Stk.cle {a w : Nat → Rat} : ∀ {bs : List Bk} {k : Nat}, Stk a w bs k → ∀ b ∈ bs, b.c ≤ k ∧ ∃ s r, r ≤ k ∧ Seg a w b s r
  | [], _, _ => fun b hb => absurd hb List.not_mem_nil
  | c :: cs, k, h => fun b hb => by
    obtain ⟨s, h1, h2, _⟩ := h
    have e := h2.e
    rcases List.mem_cons.mp hb with q | q
    · rw [q]
      exact ⟨by omega, s, k, Nat.le_refl _, h2⟩
    · obtain ⟨h3, s', r, h4, h5⟩ := h1.cle b q
      exact ⟨by omega, s', r, by omega, h5⟩
def pav (a w : List Rat) (n : Nat) : List Rat := rowB (stkOf (fnR a) (fnR w) n)
theorem w_reps {τ : Sl} {s : Store} {c : Nat} {m : Rat} {x : D} (hc : c ≤ 20) (h4 : τ[4]? = some (some (.int (c : Nat)))) (h3 : τ[3]? = some (some (.tup [qd m, x]))) (h5 : 5 < τ.length) :
    W (eEl (lComp [5] (iRg1 (eVar 4)) (gN 5) tYes (eBin oIx (eVar 3) (eC (.int 0)))) τ s) fun d t => d = .ref s.length ∧ t = s ++ [.lst ((List.replicate c m).map qd)] := by
  rw [eEl_e, W_bind, lComp_e, W_bind, iRg1_e, eVar_e h4]
  refine W.of (rg1_int (by omega)) ?_
  refine w_lc (by show (rng 0 (c : Nat)).length ≤ _; rw [rng_len]; omega) ?_
  refine w_map (fun k : Nat => D.int k) (fun _ => qd m) (List.range c) (rng_eq c) rfl (fun k hk => ⟨_, rfl, ?_⟩) ?_
  · have h : ((wipeD τ [5]).set 5 (some (D.int (k : Nat))))[3]? = some (some (.tup [qd m, x])) := by
      rw [List.getElem?_set_ne (by decide)]
      simp [wipeD, h3]
    obtain ⟨M, hM⟩ : ∃ M, M = qd m := ⟨_, rfl⟩
    rw [← hM] at h ⊢
    exact W.of (a := M) (s := s) (by rw [eBin_e, eVar_e h, ER.bind_ok, eC_e, ER.bind_ok]; simp) ⟨rfl, rfl⟩
  · rw [W_ok]
    refine ⟨rfl, ?_⟩
    rw [show (List.range c).map (fun _ => qd m) = (List.replicate c m).map qd by rw [List.map_const', List.length_range, List.map_replicate]]
section
variable {E N n : Nat} {a w : List Rat}
theorem r_nearest {st : Store} (Z : Sz E N n a w) : W (f_nearest_rising [.tup (a.map qd), .tup (w.map qd)] st) fun d t => d = .tup ((pav a w n).map qd) ∧ Gr st t := by
  have hw := Z.hw
  have n20 := Z.n20
  have po := fun t => r_pooled (st := t) Z
  have hS := stkOf_stk hw n (Nat.le_refl _) (a := fnR a)
  have lbs := hS.lenB
  have lrow := hS.len
  have cle := hS.cle
  unfold pav
  obtain ⟨bs, hbs⟩ : ∃ bs, bs = stkOf (fnR a) (fnR w) n := ⟨_, rfl⟩
  rw [← hbs] at po lbs cle lrow ⊢
  clear hS
  obtain ⟨X, hX⟩ : ∃ X, X = D.tup (a.map qd) := ⟨_, rfl⟩
  obtain ⟨Y, hY⟩ : ∃ Y, Y = D.tup (w.map qd) := ⟨_, rfl⟩
  rw [← hX, ← hY] at po ⊢
  unfold f_nearest_rising
  rw [runB_e]
  unfold m_nearest_rising
  rw [W_fin]
  have n6 : ent 6 [X, Y] = [some X, some Y, none, none, none, none] := rfl
  rw [n6]
  obtain ⟨r, hr⟩ : ∃ r, r = st.length := ⟨_, rfl⟩
  refine ws_cons (N' := fun τ t => τ = [some X, some Y, some (.ref r), none, none, none] ∧ t = st ++ [.lst []]) (ws_set (W.of (a := .ref r) (s := st ++ [.lst []]) (by rw [hr]; simp) ⟨rfl, rfl⟩)) fun τ t hp => ?_
  obtain ⟨rfl, ht⟩ := hp
  have g0 : lstAt t r = some [] := by rw [ht, hr]; exact lstAt_new
  have G0 : Gr st t := by rw [ht]; exact .app
  have lt : t.length = r + 1 := by rw [ht, hr]; simp
  clear ht
  obtain ⟨J, hJ⟩ : ∃ J : Nat → Sl → Store → Prop, J = fun i τ u => (∃ c d, τ = [some X, some Y, some (.ref r), c, d, none]) ∧ Gr st u ∧ lstAt u (r + 1) = some (stD bs) ∧ lstAt u r = some (((bs.reverse.take i).flatMap fun b => List.replicate b.c b.m).map qd) := ⟨_, rfl⟩
  refine ws_cons (N' := J bs.length) ?_ fun τ u hp => ?_
  · refine ws_forD (fun q u => q = .cell (r + 1) (stD bs) ∧ u = t ++ [.lst (stD bs)]) ?_ ?_
    · rw [iEx_e, call2 (s1 := t) (s2 := t) (eVar_e rfl) (eVar_e rfl), po t, ER.bind_ok, lt]
      have g : lstAt (t ++ [.lst (stD bs)]) (r + 1) = some (stD bs) := by rw [← lt]; exact lstAt_new
      have hq : dSq (t ++ [.lst (stD bs)]) (.ref (r + 1)) = some (.cell (r + 1) (stD bs)) := by simp [dSq, g]
      rw [hq, ofQ_some, W_ok]
      exact ⟨rfl, rfl⟩
    rintro _ u ⟨rfl, hu⟩
    rw [hu]
    have g1 : lstAt (t ++ [.lst (stD bs)]) (r + 1) = some (stD bs) := by rw [← lt]; exact lstAt_new
    refine ws_map bd bs.reverse rfl J (fun _ τ u hp => ?_) (by rw [hJ]; exact ⟨⟨_, _, rfl⟩, G0.trans .app, g1, Gr.lst .app g0⟩) (fun i b τ u hi hp => ?_) fun τ u hp => by rw [List.length_reverse] at hp; exact hp
    · rw [hJ] at hp
      simp [Sq.chk, hp.2.2.1]
    · rw [hJ] at hp
      obtain ⟨⟨c, d, rfl⟩, Gu, gb, gr⟩ := hp
      have hb : b ∈ bs := List.mem_reverse.mp (List.mem_of_getElem? hi)
      have cb := (cle b hb).1
      refine ⟨[some X, some Y, some (.ref r), some (.tup [qd b.m, qd b.W]), some (.int (b.c : Nat)), none], rfl, ?_⟩
      refine ws_ext (m := r) rfl gr ((w_reps (c := b.c) (m := b.m) (by omega) rfl rfl (by show 5 < 6; decide)).mono fun d v hp => ?_)
      obtain ⟨rfl, hv⟩ := hp
      have ul := lstAt_lt gb
      have Gv : Gr u v := by rw [hv]; exact .app
      refine ⟨u.length, _, _, rfl, Gv.lst gr, by rw [hv]; exact lstAt_new, ?_, ?_⟩
      · rw [List.length_map, List.length_map, List.length_replicate]
        have : ((bs.reverse.take i).flatMap fun b => List.replicate b.c b.m).length ≤ (rowB bs).length := by
          rw [rowB_flat]
          conv => rhs; rw [← List.take_append_drop i bs.reverse, List.flatMap_append, List.length_append]
          omega
        omega
      · rw [hJ]
        refine ⟨⟨_, _, rfl⟩, (Gu.trans Gv).put (by omega), by rw [lstAt_ne (by omega)]; exact Gv.lst gb, ?_⟩
        rw [lstAt_set (Gv.lst gr)]
        obtain ⟨li, ei⟩ := List.getElem?_eq_some_iff.mp hi
        rw [List.take_succ_eq_append_getElem li, ei, List.flatMap_append, List.map_append]
        simp
  rw [hJ] at hp
  obtain ⟨⟨c, d, rfl⟩, Gu, _, gr⟩ := hp
  rw [List.take_of_length_le (by rw [List.length_reverse]; exact Nat.le_refl _), ← rowB_flat] at gr
  obtain ⟨L, hL⟩ : ∃ L, L = (rowB bs).map qd := ⟨_, rfl⟩
  rw [← hL] at gr ⊢
  refine ws_ret (W.of (a := .tup L) (s := u) ?_ ⟨rfl, Gu⟩)
  rw [eCB_e, aCons_e, eVar_e rfl]
  exact fTuple_ref gr
theorem pav_kk (Z : Sz E N n a w) : KK n (fnR a) (fnR w) (fnR (pav a w n)) := ((stkOf_stk Z.hw n (Nat.le_refl _)).kk Z.hw (Nat.le_refl _)).1
theorem pav_len (Z : Sz E N n a w) : (pav a w n).length = n := (stkOf_stk Z.hw n (Nat.le_refl _)).len
/-- its numbers have one denominator -/
theorem Sz.segR (Z : Sz E N n a w) {b : Bk} {s k : Nat} (h : Seg (fnR a) (fnR w) b s k) (hk : k ≤ n) : ∃ d : Nat, 0 < d ∧ d ≤ 2 ^ 14 ∧ Rp (E * d) (N * 2 ^ 14) b.m := by
  obtain ⟨p, ep, lp⟩ := Z.segW h hk
  obtain ⟨q, eq, lq⟩ := Z.segA h hk
  have W0 := h.pos Z.hw hk
  have p0 : 0 < p := by
    have : (0 : Rat) < (p : Rat) := by
      rw [← ep]
      exact Rat.mul_pos W0 (by decide)
    exact_mod_cast this
  refine ⟨p.natAbs, by omega, lp, q, ?_, lq⟩
  have e : ((p.natAbs : Nat) : Rat) = (p : Rat) := by
    have : ((p.natAbs : Nat) : Int) = p := by omega
    rw [← Rat.intCast_natCast, this]
  rw [Rat.natCast_mul, e, ← ep, ← eq, Rat.natCast_mul]
  grind
theorem Stk.rp (Z : Sz E N n a w) : ∀ {bs : List Bk} {k : Nat}, Stk (fnR a) (fnR w) bs k → k ≤ n → ∃ L, 0 < L ∧ L ≤ (2 ^ 14) ^ bs.length ∧ ∀ t ∈ rowB bs, Rp (E * L) (N * 2 ^ 14 * L) t
  | [], _, _, _ => ⟨1, by decide, Nat.le_refl _, fun t ht => absurd ht List.not_mem_nil⟩
  | b :: bs, k, h, hk => by
    obtain ⟨s, h1, h2, _⟩ := h
    have e := h2.e
    obtain ⟨L, l0, l1, hL⟩ := h1.rp Z (by omega)
    obtain ⟨d, d0, d1, hd⟩ := Z.segR h2 hk
    have E0 := Z.e0
    refine ⟨L * d, Nat.mul_pos l0 d0, by rw [List.length_cons, Nat.pow_succ]; exact Nat.mul_le_mul l1 d1, fun t ht => ?_⟩
    rcases List.mem_append.mp ht with q | q
    · refine (hL t q).up ⟨d, by rw [Nat.mul_assoc]⟩ (Nat.mul_pos E0 l0) ?_
      rw [← Nat.mul_assoc, Nat.mul_div_cancel_left _ (Nat.mul_pos E0 l0), Nat.mul_assoc, Nat.mul_assoc]
      exact Nat.le_refl _
    · rw [(List.mem_replicate.mp q).2]
      refine hd.up ⟨L, by rw [Nat.mul_comm L d, Nat.mul_assoc]⟩ (Nat.mul_pos E0 d0) ?_
      rw [Nat.mul_comm L d, ← Nat.mul_assoc E, Nat.mul_div_cancel_left _ (Nat.mul_pos E0 d0)]
      exact Nat.mul_le_mul_left _ (Nat.le_mul_of_pos_left _ d0)
end

section
variable {g : EM Bool} {u v : SM} {τ : Sl} {st : Store} {N : Sl → Store → Prop} {R : D → Store → Prop} {B C : Sl → Store → Prop}
theorem ws_if1 (h : g τ st = .ok true st) (k : WS (u τ st) N R B C) : WS (sIf g u v τ st) N R B C := by
  rw [sIf_e, h, bindE_ok, if_pos rfl]
  exact k
theorem ws_if0 (h : g τ st = .ok false st) (k : WS (v τ st) N R B C) : WS (sIf g u v τ st) N R B C := by
  rw [sIf_e, h, bindE_ok, if_neg (by decide)]
  exact k
theorem ws_if0n (h : g τ st = .ok false st) (k : N τ st) : WS (sIf g u sNil τ st) N R B C := ws_if0 h (by rw [sNil_e, WS_nx]; exact k)
end

/-! k65: the judge of rising rows -/
def upB (n : Nat) (x : Nat → Rat) : Bool := (List.range (n - 1)).all fun k => !decide (x (k + 1) < x k)
def flB (n : Nat) (x : Nat → Rat) (k : Nat) : Bool := decide (k + 1 < n) && decide (x k = x (k + 1))
def zB (n : Nat) (a w x : Nat → Rat) (k : Nat) : Bool := !decide (Sd a w x (k + 1) < 0) && (flB n x k || decide (Sd a w x (k + 1) = 0))
def kkB (n : Nat) (a w x : Nat → Rat) : Bool := upB n x && (List.range n).all (zB n a w x)
theorem kkB_iff {n : Nat} {a w x : Nat → Rat} : kkB n a w x = true ↔ KK n a w x := by
  unfold kkB upB
  rw [Bool.and_eq_true, List.all_eq_true, List.all_eq_true]
  constructor
  · rintro ⟨h1, h2⟩
    refine ⟨fun k hk => ?_, fun k hk => ?_, fun k hk p => ?_⟩
    · have := h1 k (List.mem_range.mpr (by omega))
      rw [Bool.not_eq_true', decide_eq_false_iff_not] at this
      exact Rat.not_lt.mp this
    · have := h2 k (List.mem_range.mpr hk)
      unfold zB at this
      rw [Bool.and_eq_true, Bool.not_eq_true', decide_eq_false_iff_not] at this
      exact Rat.not_lt.mp this.1
    · have := h2 k (List.mem_range.mpr hk)
      unfold zB flB at this
      simp only [Bool.and_eq_true, Bool.or_eq_true, decide_eq_true_eq] at this
      rcases this.2 with q | q
      · rcases p with p | p
        · omega
        · exact absurd q.2 p
      · exact q
  · intro h
    refine ⟨fun k hk => ?_, fun k hk => ?_⟩
    · rw [Bool.not_eq_true', decide_eq_false_iff_not]
      exact Rat.not_lt.mpr (h.up k (by have := List.mem_range.mp hk; omega))
    · have hk := List.mem_range.mp hk
      unfold zB flB
      simp only [Bool.and_eq_true, Bool.or_eq_true, decide_eq_true_eq, Bool.not_eq_true', decide_eq_false_iff_not]
      refine ⟨Rat.not_lt.mpr (h.nn k hk), ?_⟩
      by_cases p : k + 1 = n
      · exact .inr (h.z k hk (.inl p))
      · by_cases q : x k = x (k + 1)
        · exact .inl ⟨by omega, q⟩
        · exact .inr (h.z k hk (.inr q))
section
variable {st : Store} {τ : Sl} {x : List Rat} {i j k n : Nat}
theorem r_at (h : k < x.length) : oIx (.tup (x.map qd)) (.int (k : Nat)) st = .ok (qd (fnR x k)) st := by
  rw [oIx_tup, atI_nat (List.getElem?_eq_getElem (by rw [List.length_map]; exact h)), List.getElem_map]
  unfold fnR
  rw [getD_at h]
  rfl
theorem e_at {fo fi : EM D} (ho : fo τ st = .ok (.tup (x.map qd)) st) (hi : fi τ st = .ok (.int (k : Nat)) st) (h : k < x.length) : eBin oIx fo fi τ st = .ok (qd (fnR x k)) st := by
  rw [eBin_e, ho, ER.bind_ok, hi, ER.bind_ok]
  exact r_at h
theorem e_pred (h : τ[j]? = some (some (.int ((k + 1 : Nat) : Int)))) : eBin oSub (eVar j) (eC (.int 1)) τ st = .ok (.int (k : Nat)) st := by
  rw [eBin_e, eVar_e h, ER.bind_ok, eC_e, ER.bind_ok]
  simp
theorem e_succ {fi : EM D} (h : fi τ st = .ok (.int (k : Nat)) st) : eBin oAdd fi (eC (.int 1)) τ st = .ok (.int ((k + 1 : Nat) : Int)) st := by
  rw [eBin_e, h, ER.bind_ok, eC_e, ER.bind_ok]
  simp
theorem e_len {fo : EM D} {xs : List D} (ho : fo τ st = .ok (.tup xs) st) : eCB fLen (aCons fo aNil) τ st = .ok (.int (xs.length : Nat)) st := by
  rw [eCB_e, aCons_e, ho]
  exact fLen_tup
theorem rng_one (n : Nat) : rng 1 (n : Nat) = (List.range (n - 1)).map fun k => D.int ((k + 1 : Nat) : Int) := by
  unfold rng
  rw [show ((n : Int) - 1).toNat = n - 1 by omega]
  refine List.map_congr_left fun k hk => ?_
  rw [show (1 : Int) + (k : Int) = ((k + 1 : Nat) : Int) by omega]
theorem r_rising (ln : x.length = n) (hn : n ≤ 20) (qb : ∀ k, k < n → QB 1000 (fnR x k)) : f_is_rising [.tup (x.map qd)] st = .ok (.bl (upB n (fnR x))) st := by
  refine W.eq ?_
  have at' := fun (k : Nat) (h : k < n) (t : Store) => r_at (x := x) (st := t) (k := k) (by omega)
  obtain ⟨X, hX⟩ : ∃ X, X = D.tup (x.map qd) := ⟨_, rfl⟩
  have lx : ∀ t, fLen [X] t = .ok (.int (n : Nat)) t := fun t => by rw [hX, fLen_tup, List.length_map, ln]
  rw [← hX] at at' ⊢
  unfold f_is_rising
  rw [runB_e]
  unfold m_is_rising
  rw [W_fin]
  have n2 : ent 2 [X] = [some X, none] := rfl
  rw [n2]
  refine ws_cons (N' := fun τ t => upB n (fnR x) = true ∧ t = st) ?_ fun τ t hp => ?_
  · refine ws_forD (fun q t => q = .fix (rng 1 (n : Nat)) ∧ t = st) (W.of ?_ ⟨rfl, rfl⟩) ?_
    · rw [iRg2_e, eC_e, ER.bind_ok, eCB_e, aCons_e, eVar_e rfl]
      show (fLen [X] st).bind _ = _
      rw [lx, ER.bind_ok]
      exact rg2_int (by decide) (by omega)
    rintro _ t ⟨rfl, ht⟩
    rw [ht]
    refine ws_all (fun k : Nat => D.int ((k + 1 : Nat) : Int)) (fun k => !decide (fnR x (k + 1) < fnR x k)) (fun τ => ∃ d, τ = [some X, d]) (fun t => t = st) (fun _ _ => rfl) (List.range (n - 1)) _ _ _ (rng_one n) ⟨_, rfl⟩ rfl (fun k hk τ t hI ht => ?_) (fun τ t h _ ht => ⟨h, ht⟩) fun t h ht => ⟨by unfold upB; rw [h], ht⟩
    obtain ⟨d, rfl⟩ := hI
    rw [ht]
    have hk : k + 1 < n := by have := List.mem_range.mp hk; omega
    refine ⟨[some X, some (.int ((k + 1 : Nat) : Int))], rfl, ?_⟩
    have b := r_belowQ (st := st) (qb (k + 1) hk) (qb k (by omega)) (by decide)
    have e : eCall 2 f_is_below (aCons (eBin oIx (eVar 0) (eVar 1)) (aCons (eBin oIx (eVar 0) (eBin oSub (eVar 1) (eC (.int 1)))) aNil)) [some X, some (.int ((k + 1 : Nat) : Int))] st = .ok (.bl (decide (fnR x (k + 1) < fnR x k))) st := by
      rw [call2 (s1 := st) (s2 := st) (a := qd (fnR x (k + 1))) (b := qd (fnR x k))]
      · exact b
      · rw [eBin_e, eVar_e rfl, ER.bind_ok, eVar_e rfl, ER.bind_ok]
        exact at' (k + 1) hk st
      · rw [eBin_e, eVar_e rfl, ER.bind_ok, e_pred rfl, ER.bind_ok]
        exact at' k (by omega) st
    by_cases c : fnR x (k + 1) < fnR x k
    · rw [decide_eq_true c] at e
      refine ws_if1 (by rw [tVal_e, e]; rfl) (ws_ret (W.of (eC_e ..) ⟨by simp [c], rfl, rfl⟩))
    · rw [decide_eq_false c] at e
      exact ws_if0n (by rw [tVal_e, e]; rfl) ⟨by simp [c], ⟨_, rfl⟩, rfl⟩
  · rw [hp.2]
    exact ws_ret (W.of (eC_e ..) ⟨by rw [hp.1], rfl⟩)
theorem e_flat {d e : EM D} (hd : d τ st = .ok (qd (fnR x k)) st) (he : e τ st = .ok (qd (fnR x (k + 1))) st) : eBin oEq d e τ st = .ok (.bl (decide (fnR x k = fnR x (k + 1)))) st := by
  rw [eBin_e, hd, ER.bind_ok, he, ER.bind_ok]
  exact eq_qd
theorem r_behind (ln : x.length = n) (hk : k < n) : f_rises_behind [.tup (x.map qd), .int (k : Nat)] st = .ok (.bl (!flB n (fnR x) k)) st := by
  have a1 := r_at (x := x) (st := st) (k := k) (by omega)
  have a2 := fun h => r_at (x := x) (st := st) (k := k + 1) h
  obtain ⟨X, hX⟩ : ∃ X, X = D.tup (x.map qd) := ⟨_, rfl⟩
  have lx : fLen [X] st = .ok (.int (n : Nat)) st := by rw [hX, fLen_tup, List.length_map, ln]
  rw [← hX] at a1 a2 ⊢
  unfold f_rises_behind flB
  rw [runB_e]
  unfold m_rises_behind
  by_cases c : k + 1 < n
  · have a2 := a2 (by omega)
    have q : ¬ ((k : Int) + 1 = (n : Int)) := by omega
    rw [show ((k + 1 : Nat) : Int) = (k : Int) + 1 by omega] at a2
    rw [decide_eq_true c, Bool.true_and]
    obtain ⟨A, hA⟩ : ∃ A, A = qd (fnR x k) := ⟨_, rfl⟩
    obtain ⟨B, hB⟩ : ∃ A, A = qd (fnR x (k + 1)) := ⟨_, rfl⟩
    have ne := ne_qd (x := fnR x k) (y := fnR x (k + 1)) (st := st)
    rw [← hA] at a1 ne
    rw [← hB] at a2 ne
    have q := eq_false q
    simp [lx, q, a1, a2, ne]
  · have q : ((k : Int) + 1 = (n : Int)) := by omega
    have q := eq_true q
    rw [decide_eq_false c, Bool.false_and]
    simp [lx, q]
theorem r_lflat (ln : x.length = n) (hk : k < n) : f__law_is_flat [.tup (x.map qd), .int (k : Nat)] st = .ok (.bl (flB n (fnR x) k)) st := by
  have a1 := r_at (x := x) (st := st) (k := k) (by omega)
  have a2 := fun h => r_at (x := x) (st := st) (k := k + 1) h
  obtain ⟨X, hX⟩ : ∃ X, X = D.tup (x.map qd) := ⟨_, rfl⟩
  have lx : fLen [X] st = .ok (.int (n : Nat)) st := by rw [hX, fLen_tup, List.length_map, ln]
  rw [← hX] at a1 a2 ⊢
  unfold f__law_is_flat flB
  rw [runB_e]
  unfold m__law_is_flat
  by_cases c : k + 1 < n
  · have a2 := a2 (by omega)
    have q : ((k : Int) + 1 < (n : Int)) := by omega
    rw [show ((k + 1 : Nat) : Int) = (k : Int) + 1 by omega] at a2
    rw [decide_eq_true c, Bool.true_and]
    obtain ⟨A, hA⟩ : ∃ A, A = qd (fnR x k) := ⟨_, rfl⟩
    obtain ⟨B, hB⟩ : ∃ A, A = qd (fnR x (k + 1)) := ⟨_, rfl⟩
    have ne := eq_qd (x := fnR x k) (y := fnR x (k + 1)) (st := st)
    rw [← hA] at a1 ne
    rw [← hB] at a2 ne
    have q := eq_true q
    simp [lx, q, a1, a2, ne]
  · have q : ¬ ((k : Int) + 1 < (n : Int)) := by omega
    have q := eq_false q
    rw [decide_eq_false c, Bool.false_and]
    simp [lx, q]
end

section
variable {τ : Sl} {s : Store}
theorem call1 {f : FM} {fa : EM D} {a : D} {s s1 : Store} (h1 : fa τ s = .ok a s1) : eCall 1 f (aCons fa aNil) τ s = f [a] s1 := by
  simp [h1]
theorem call3 {f : FM} {fa fb fc : EM D} {a b c : D} {s s1 s2 s3 : Store} (h1 : fa τ s = .ok a s1) (h2 : fb τ s1 = .ok b s2) (h3 : fc τ s2 = .ok c s3) : eCall 3 f (aCons fa (aCons fb (aCons fc aNil))) τ s = f [a, b, c] s3 := by
  simp [h1, h2, h3]
theorem call4 {f : FM} {fa fb fc fd : EM D} {a b c d : D} {s s1 s2 s3 s4 : Store} (h1 : fa τ s = .ok a s1) (h2 : fb τ s1 = .ok b s2) (h3 : fc τ s2 = .ok c s3) (h4 : fd τ s3 = .ok d s4) : eCall 4 f (aCons fa (aCons fb (aCons fc (aCons fd aNil)))) τ s = f [a, b, c, d] s4 := by
  simp [h1, h2, h3, h4]
theorem bin_ix {fo fi : EM D} {r j : Nat} (ho : fo τ s = .ok (.ref r) s) (hi : fi τ s = .ok (.int (j : Nat)) s) : eBin oIx fo fi τ s = oIx (.ref r) (.int (j : Nat)) s := by
  rw [eBin_e, ho, ER.bind_ok, hi, ER.bind_ok]
end

/-! k65: pulls; both judges -/
theorem zip3D_map {α β γ : Type} {f : α → D} {g : β → D} {h : γ → D} : ∀ {xs : List α} {ys : List β} {zs : List γ}, zip3D (xs.map f) (ys.map g) (zs.map h) = (List.zip xs (List.zip ys zs)).map fun p => .tup [f p.1, g p.2.1, h p.2.2]
  | [], _, _ => rfl
  | _ :: _, [], _ => rfl
  | _ :: _, _ :: _, [] => rfl
  | x :: xs, y :: ys, z :: zs => by
    have := zip3D_map (f := f) (g := g) (h := h) (xs := xs) (ys := ys) (zs := zs)
    unfold zip3D at this ⊢
    rw [List.map_cons, List.map_cons, List.map_cons, List.zip_cons_cons, List.zip_cons_cons, List.map_cons, this, List.zip_cons_cons, List.zip_cons_cons, List.map_cons]
theorem iZip3_t {fa fb fc : EM D} {τ : Sl} {s : Store} {xs ys zs : List D} (h1 : fa τ s = .ok (.tup xs) s) (h2 : fb τ s = .ok (.tup ys) s) (h3 : fc τ s = .ok (.tup zs) s) : iZip3 fa fb fc τ s = .ok (.fix (zip3D xs ys zs)) s := by
  unfold iZip3
  rw [h1, ER.bind_ok, h2, ER.bind_ok, h3, ER.bind_ok]
  rfl
theorem zip3_at {xs ys zs : List Rat} {i : Nat} {p : Rat × Rat × Rat} (h : (List.zip xs (List.zip ys zs))[i]? = some p) : fnR xs i = p.1 ∧ fnR ys i = p.2.1 ∧ fnR zs i = p.2.2 := by
  obtain ⟨h1, h2⟩ := List.getElem?_zip_eq_some.mp h
  obtain ⟨h2, h3⟩ := List.getElem?_zip_eq_some.mp h2
  exact ⟨fn_at h1, fn_at h2, fn_at h3⟩
structure Sx (E N n : Nat) (a w x : List Rat) : Prop where
  z : Sz E N n a w
  lx : x.length = n
  x : ∀ z ∈ x, Rp E N z
section
variable {E N n : Nat} {a w x : List Rat}
theorem Sx.q (Z : Sx E N n a w x) {k : Nat} (hk : k < n) : QB 1000 (fnR a k) ∧ QB 1000 (fnR w k) ∧ QB 1000 (fnR x k) ∧ Rp (12 * E) (256 * (N + N)) (fnR w k * (fnR a k - fnR x k)) := by
  have Z0 := Z.z
  have ma := fn_mem (xs := a) (k := k) (by rw [Z0.la]; exact hk)
  have mw := fn_mem (xs := w) (k := k) (by rw [Z0.lw]; exact hk)
  have mx := fn_mem (xs := x) (k := k) (by rw [Z.lx]; exact hk)
  have e : E < 2 ^ 1000 := Nat.lt_trans Z0.e1 (by decide +kernel)
  have n' : N < 2 ^ 1000 := Nat.lt_trans Z0.n1 (by decide +kernel)
  exact ⟨(Z0.a _ ma).qb Z0.e0 e n', (Z0.w _ mw).2.qb (by decide) (by decide) (by decide), (Z.x _ mx).qb Z0.e0 e n', (Z0.w _ mw).2.mul ((Z0.a _ ma).sub (Z.x _ mx))⟩
theorem Sx.sd (Z : Sx E N n a w x) : ∀ k, k ≤ n → Rp (12 * E) (256 * (N + N) * k) (Sd (fnR a) (fnR w) (fnR x) k)
  | 0, _ => Rp.zero
  | k + 1, h => (Z.sd k (by omega)).add (Z.q (by omega)).2.2.2
theorem Sx.sq (Z : Sx E N n a w x) {k : Nat} (hk : k ≤ n) : QB 1000 (Sd (fnR a) (fnR w) (fnR x) k) := by
  have n20 := Z.z.n20
  have e1 := Z.z.e1
  have n1 := Z.z.n1
  have e0 := Z.z.e0
  refine (Z.sd k hk).qb (by omega) (Nat.lt_of_lt_of_le (Nat.mul_lt_mul_of_pos_left e1 (by decide)) (by decide +kernel)) ?_
  refine Nat.lt_of_le_of_lt (Nat.mul_le_mul (Nat.mul_le_mul_left 256 (show N + N ≤ 2 ^ 450 + 2 ^ 450 by omega)) (show k ≤ 20 by omega)) ?_
  decide +kernel
theorem r_pull {st : Store} (Z : Sx E N n a w x) {k : Nat} (hk : k < n) : f_pull_at [.tup [qd (fnR a k), qd (fnR w k)], qd (fnR x k)] st = .ok (qd (fnR w k * (fnR a k - fnR x k))) st := by
  obtain ⟨q1, q2, q3, _⟩ := Z.q hk
  have m := r_minusQ (st := st) q1 q3 (by decide)
  have t := r_timesQ (st := st) q2 (q1.sub q3) (by decide)
  unfold f_pull_at
  rw [runB_e]
  unfold m_pull_at
  simp [m, t]
theorem r_pulls {st : Store} (Z : Sx E N n a w x) : f_pulls_up_to [.tup (a.map qd), .tup (w.map qd), .tup (x.map qd)] st = .ok (.ref st.length) (st ++ [.lst ((List.range n).map fun k => qd (Sd (fnR a) (fnR w) (fnR x) (k + 1)))]) := by
  have n20 := Z.z.n20
  refine W.eq ?_
  have zz : ∀ t, iZip3 (eVar 0) (eVar 1) (eVar 2) [some (.tup (a.map qd)), some (.tup (w.map qd)), some (.tup (x.map qd)), some (.ref st.length), some (qd 0), none, none, none] t = .ok (.fix ((List.zip a (List.zip w x)).map fun p => .tup [qd p.1, qd p.2.1, qd p.2.2])) t := fun t => by
    rw [iZip3_t (eVar_e rfl) (eVar_e rfl) (eVar_e rfl), zip3D_map]
  have lz : (List.zip a (List.zip w x)).length = n := by rw [List.length_zip, List.length_zip, Z.z.la, Z.z.lw, Z.lx]; omega
  obtain ⟨X, hX⟩ : ∃ X, X = D.tup (a.map qd) := ⟨_, rfl⟩
  obtain ⟨Y, hY⟩ : ∃ Y, Y = D.tup (w.map qd) := ⟨_, rfl⟩
  obtain ⟨V, hV⟩ : ∃ V, V = D.tup (x.map qd) := ⟨_, rfl⟩
  rw [← hX, ← hY, ← hV] at zz ⊢
  unfold f_pulls_up_to
  rw [runB_e]
  unfold m_pulls_up_to
  rw [W_fin]
  have n8 : ent 8 [X, Y, V] = [some X, some Y, some V, none, none, none, none, none] := rfl
  rw [n8]
  refine ws_cons (N' := fun τ t => τ = [some X, some Y, some V, some (.ref st.length), none, none, none, none] ∧ t = st ++ [.lst []]) (ws_set (W.of (a := .ref st.length) (s := st ++ [.lst []]) (by simp) ⟨rfl, rfl⟩)) fun τ t hp => ?_
  obtain ⟨rfl, ht⟩ := hp
  rw [ht]
  clear ht t
  refine ws_cons (N' := fun τ t => τ = [some X, some Y, some V, some (.ref st.length), some (qd 0), none, none, none] ∧ t = st ++ [.lst []]) (ws_set (W.of (a := qd 0) (s := st ++ [.lst []]) rfl ⟨rfl, rfl⟩)) fun τ t hp => ?_
  obtain ⟨rfl, ht⟩ := hp
  rw [ht]
  clear ht t
  obtain ⟨J, hJ⟩ : ∃ J : Nat → Sl → Store → Prop, J = fun i τ t => (∃ c d e, τ = [some X, some Y, some V, some (.ref st.length), some (qd (Sd (fnR a) (fnR w) (fnR x) i)), c, d, e]) ∧ t = st ++ [.lst ((List.range i).map fun k => qd (Sd (fnR a) (fnR w) (fnR x) (k + 1)))] := ⟨_, rfl⟩
  refine ws_cons (N' := J n) ?_ fun τ t hp => ?_
  · refine ws_forD (fun q t' => q = .fix ((List.zip a (List.zip w x)).map fun p => .tup [qd p.1, qd p.2.1, qd p.2.2]) ∧ t' = st ++ [.lst []]) (W.of (zz _) ⟨rfl, rfl⟩) ?_
    rintro _ t' ⟨rfl, ht'⟩
    rw [ht']
    refine ws_map (fun p : Rat × Rat × Rat => .tup [qd p.1, qd p.2.1, qd p.2.2]) (List.zip a (List.zip w x)) rfl J (fun _ _ _ _ => rfl) (by rw [hJ]; exact ⟨⟨_, _, _, rfl⟩, rfl⟩) (fun i p τ t hi hp => ?_) fun τ t hp => by rw [lz] at hp; exact hp
    rw [hJ] at hp
    obtain ⟨⟨c, d, e, rfl⟩, ht⟩ := hp
    rw [ht]
    clear ht t
    obtain ⟨p1, p2, p3⟩ := zip3_at hi
    have hin : i < n := by
      have := (List.getElem?_eq_some_iff.mp hi).1
      omega
    rw [← p1, ← p2, ← p3]
    refine ⟨[some X, some Y, some V, some (.ref st.length), some (qd (Sd (fnR a) (fnR w) (fnR x) i)), some (qd (fnR a i)), some (qd (fnR w i)), some (qd (fnR x i))], rfl, ?_⟩
    obtain ⟨q1, q2, q3, _⟩ := Z.q hin
    refine ws_cons (N' := fun τ t => τ = [some X, some Y, some V, some (.ref st.length), some (qd (Sd (fnR a) (fnR w) (fnR x) (i + 1))), some (qd (fnR a i)), some (qd (fnR w i)), some (qd (fnR x i))] ∧ t = st ++ [.lst ((List.range i).map fun k => qd (Sd (fnR a) (fnR w) (fnR x) (k + 1)))]) ?_ fun τ t hp => ?_
    · refine ws_set ?_
      rw [call2 (eVar_e rfl) (by rw [call2 (a := .tup [qd (fnR a i), qd (fnR w i)]) (by rw [eTup_e, aCons_e, eVar_e rfl, ER.bind_ok, aCons_e, eVar_e rfl, ER.bind_ok, aNil_e, ER.bind_ok, ER.bind_ok]; rfl) (eVar_e rfl)]; exact r_pull Z hin)]
      exact W.of (r_plusQ (Z.sq (by omega)) (q2.mul (q1.sub q3)) (by decide)) ⟨rfl, rfl⟩
    obtain ⟨rfl, ht⟩ := hp
    rw [ht]
    clear ht t
    refine ws_app (m := st.length) rfl lstAt_new (W.of (eVar_e rfl) ⟨_, lstAt_new, by rw [List.length_map, List.length_range]; omega, ?_⟩)
    rw [hJ, set_last]
    refine ⟨⟨_, _, _, rfl⟩, ?_⟩
    rw [List.range_succ, List.map_append]
    rfl
  rw [hJ] at hp
  obtain ⟨⟨c, d, e, rfl⟩, ht⟩ := hp
  rw [ht]
  exact ws_ret (W.of (eVar_e rfl) ⟨rfl, rfl⟩)
/-- what a judged row is -/
def jB (n : Nat) (a w : List Rat) (ps : List (Int × Int)) : Bool := decide (ps.length = n) && ps.all isF && kkB n (fnR a) (fnR w) (fnR (ps.map rp))
theorem frps {ps : List (Int × Int)} (h : ps.all isF = true) : ps.map frp = (ps.map rp).map qd := by
  rw [List.map_map]
  exact List.map_congr_left fun p hp => fqF (List.all_eq_true.mp h p hp)
theorem range_at {n k : Nat} {f : Nat → D} (hk : k < n) {st : Store} {m : Nat} (g : lstAt st m = some ((List.range n).map f)) : oIx (.ref m) (.int (k : Nat)) st = .ok (f k) st := by
  rw [oIx_ref g, atI_nat (List.getElem?_eq_getElem (by rw [List.length_map, List.length_range]; exact hk)), List.getElem_map, List.getElem_range]
  rfl
theorem zB_eq {a w x : Nat → Rat} {k : Nat} : zB n a w x k = (!decide (Sd a w x (k + 1) < 0) && !(!flB n x k && !decide (Sd a w x (k + 1) = 0))) := by
  unfold zB
  cases flB n x k <;> cases decide (Sd a w x (k + 1) = 0) <;> rfl
theorem w_judge {st : Store} {ps : List (Int × Int)} (Z : Sz E N n a w) (hx : ps.length = n → ps.all isF = true → ∀ z ∈ ps.map rp, Rp E N z) (lp : ps.length ≤ 100) :
    W (f_judge_rising [.tup (a.map qd), .tup (w.map qd), .tup (ps.map frp)] st) fun d t => d = .bl (jB n a w ps) ∧ Gr st t := by
  have n20 := Z.n20
  unfold jB
  obtain ⟨X, hX⟩ : ∃ X, X = D.tup (a.map qd) := ⟨_, rfl⟩
  obtain ⟨Y, hY⟩ : ∃ Y, Y = D.tup (w.map qd) := ⟨_, rfl⟩
  obtain ⟨V, hV⟩ : ∃ V, V = D.tup (ps.map frp) := ⟨_, rfl⟩
  have lx : ∀ t, fLen [X] t = .ok (.int (n : Nat)) t := fun t => by rw [hX, fLen_tup, List.length_map, Z.la]
  have lv : ∀ t, fLen [V] t = .ok (.int (ps.length : Nat)) t := fun t => by rw [hV, fLen_tup, List.length_map]
  have n6 : ent 6 [X, Y, V] = [some X, some Y, some V, none, none, none] := rfl
  rw [← hX, ← hY, ← hV]
  unfold f_judge_rising
  rw [runB_e]
  unfold m_judge_rising
  rw [W_fin, n6]
  by_cases c : ps.length = n
  · rw [decide_eq_true c, Bool.true_and]
    have ne : tBl (eBin oNe (eCB fLen (aCons (eVar 2) aNil)) (eCB fLen (aCons (eVar 0) aNil))) [some X, some Y, some V, none, none, none] st = .ok false st := by
      have c := eq_true (show ((ps.length : Nat) : Int) = (n : Int) by omega)
      simp [lx, lv, c]
    refine ws_skip ne ?_
    -- the fractions
    have loop : WS (sFor (iEx (eVar 2)) (gN 3) (sIf (HM.tNot (tVal (eCall 1 f_is_fraction (aCons (eVar 3) aNil)))) (sRet (eC (.bl false))) sNil) [some X, some Y, some V, none, none, none] st) (fun τ t => ps.all isF = true ∧ (∃ d, τ = [some X, some Y, some V, d, none, none]) ∧ t = st) (fun d t => ps.all isF = false ∧ d = .bl false ∧ t = st) (fun _ _ => False) fun _ _ => False := by
      refine ws_forD (fun q t => q = .fix (ps.map frp) ∧ t = st) ?_ ?_
      · rw [iEx_e, eVar_e rfl, ER.bind_ok, hV]
        exact W.of (a := .fix (ps.map frp)) (s := st) (by simp [dSq]) ⟨rfl, rfl⟩
      rintro _ t ⟨rfl, ht⟩
      rw [ht]
      refine ws_all frp isF (fun τ => ∃ d, τ = [some X, some Y, some V, d, none, none]) (fun t => t = st) (fun _ _ => rfl) ps _ _ _ rfl ⟨_, rfl⟩ rfl (fun p hp τ t hI ht => ?_) (fun τ t h hI ht => ⟨h, hI, ht⟩) fun t h ht => ⟨h, rfl, ht⟩
      obtain ⟨d, rfl⟩ := hI
      rw [ht]
      refine ⟨[some X, some Y, some V, some (frp p), none, none], rfl, ?_⟩
      have e : eCall 1 f_is_fraction (aCons (eVar 3) aNil) [some X, some Y, some V, some (frp p), none, none] st = .ok (.bl (isF p)) st := by
        rw [call1 (eVar_e rfl)]
        exact v_is_fraction
      cases hp : isF p with
      | true =>
        rw [hp] at e
        exact ws_if0n (by rw [tNot_e, tVal_e, e]; rfl) ⟨rfl, ⟨_, rfl⟩, rfl⟩
      | false =>
        rw [hp] at e
        exact ws_if1 (by rw [tNot_e, tVal_e, e]; rfl) (ws_ret (W.of (eC_e ..) ⟨rfl, rfl, rfl⟩))
    rw [sSeq_e, WS_seq]
    refine loop.mono (fun τ t hp => ?_) (fun d t hp => ?_) (fun _ _ h => h) fun _ _ h => h
    · obtain ⟨hF, ⟨d, rfl⟩, ht⟩ := hp
      rw [ht, hF, Bool.true_and]
      clear ht t
      have hx := hx c hF
      have Zx : Sx E N n a w (ps.map rp) := ⟨Z, by rw [List.length_map]; exact c, hx⟩
      rw [frps hF] at hV
      obtain ⟨x, hxx⟩ : ∃ x, x = ps.map rp := ⟨_, rfl⟩
      rw [← hxx] at hV Zx ⊢
      have ri := r_rising (st := st) Zx.lx n20 (fun k hk => (Zx.q hk).2.2.1)
      have rb := fun k (hk : k < n) t => r_behind (st := t) (k := k) Zx.lx hk
      have rp' := r_pulls (st := st) Zx
      rw [← hV] at ri rb
      rw [← hX, ← hY, ← hV] at rp'
      unfold kkB
      cases hu : upB n (fnR x) with
      | false =>
        rw [hu] at ri
        rw [Bool.false_and]
        exact ws_take (by rw [tNot_e, tVal_e, call1 (eVar_e rfl), ri]; rfl) (ws_ret (W.of (eC_e ..) ⟨rfl, .refl⟩))
      | true =>
        rw [hu] at ri
        rw [Bool.true_and]
        refine ws_skip (by rw [tNot_e, tVal_e, call1 (eVar_e rfl), ri]; rfl) ?_
        refine ws_cons (N' := fun τ t => τ = [some X, some Y, some V, d, some (.ref st.length), none] ∧ t = st ++ [.lst ((List.range n).map fun k => qd (Sd (fnR a) (fnR w) (fnR x) (k + 1)))]) (ws_set ?_) fun τ t hp => ?_
        · rw [call3 (eVar_e rfl) (eVar_e rfl) (eVar_e rfl)]
          exact W.of rp' ⟨rfl, rfl⟩
        obtain ⟨rfl, ht⟩ := hp
        have gp : lstAt t st.length = some ((List.range n).map fun k => qd (Sd (fnR a) (fnR w) (fnR x) (k + 1))) := by rw [ht]; exact lstAt_new
        have Gt : Gr st t := by rw [ht]; exact .app
        clear ht
        have oi := fun k (hk : k < n) => range_at hk gp
        obtain ⟨r, hr⟩ : ∃ r, r = st.length := ⟨_, rfl⟩
        rw [← hr] at oi ⊢
        refine ws_cons (N' := fun τ u => (List.range n).all (zB n (fnR a) (fnR w) (fnR x)) = true ∧ u = t) ?_ fun τ u hp => ?_
        · refine ws_forD (fun q u => q = .fix (rng 0 (n : Nat)) ∧ u = t) (W.of ?_ ⟨rfl, rfl⟩) ?_
          · rw [iRg1_e, eCB_e, aCons_e, eVar_e rfl]
            show ((fLen [V] t).bind _) = _
            rw [lv, c, ER.bind_ok]
            exact rg1_int (by omega)
          rintro _ u ⟨rfl, hu⟩
          rw [hu]
          refine ws_allR (zB n (fnR a) (fnR w) (fnR x)) (fun τ => ∃ e, τ = [some X, some Y, some V, d, some (.ref r), e]) (fun u => u = t) (fun _ _ => rfl) ⟨_, rfl⟩ rfl (fun k hk τ u hI hu => ?_) (fun τ u h _ hu => ⟨h, hu⟩) fun u h hu => ⟨by rw [h], by rw [hu]; exact Gt⟩
          obtain ⟨e, rfl⟩ := hI
          rw [hu]
          refine ⟨[some X, some Y, some V, d, some (.ref r), some (.int (k : Nat))], rfl, ?_⟩
          have ep : eBin oIx (eVar 4) (eVar 5) [some X, some Y, some V, d, some (.ref r), some (.int (k : Nat))] t = .ok (qd (Sd (fnR a) (fnR w) (fnR x) (k + 1))) t := by
            rw [bin_ix (eVar_e rfl) (eVar_e rfl)]
            exact oi k hk
          have bl : eCall 2 f_is_below (aCons (eBin oIx (eVar 4) (eVar 5)) (aCons (eC q_ZERO) aNil)) [some X, some Y, some V, d, some (.ref r), some (.int (k : Nat))] t = .ok (.bl (decide (Sd (fnR a) (fnR w) (fnR x) (k + 1) < 0))) t := by
            rw [call2 ep (show eC q_ZERO _ t = .ok (qd 0) t from rfl)]
            exact r_belowQ (Zx.sq (by omega)) (Rp.qb (k := 1000) (D := 1) (N := 1) Rp.zero (by decide) (by decide) (by decide)) (by decide)
          have be : eCall 2 f_rises_behind (aCons (eVar 2) (aCons (eVar 5) aNil)) [some X, some Y, some V, d, some (.ref r), some (.int (k : Nat))] t = .ok (.bl (!flB n (fnR x) k)) t := by
            rw [call2 (eVar_e rfl) (eVar_e rfl)]
            exact rb k hk t
          have nz : tBl (eBin oNe (eBin oIx (eVar 4) (eVar 5)) (eC q_ZERO)) [some X, some Y, some V, d, some (.ref r), some (.int (k : Nat))] t = .ok (!decide (Sd (fnR a) (fnR w) (fnR x) (k + 1) = 0)) t := by
            rw [tBl_e, eBin_e, ep, ER.bind_ok, show eC q_ZERO [some X, some Y, some V, d, some (.ref r), some (.int (k : Nat))] t = .ok (qd 0) t from rfl, ER.bind_ok, ne_qd]
            rfl
          rw [zB_eq]
          cases h1 : decide (Sd (fnR a) (fnR w) (fnR x) (k + 1) < 0) with
          | true =>
            rw [h1] at bl
            exact ws_take (by rw [tVal_e, bl]; rfl) (ws_ret (W.of (eC_e ..) ⟨rfl, rfl, rfl⟩))
          | false =>
            rw [h1] at bl
            refine ws_skip (by rw [tVal_e, bl]; rfl) ?_
            cases h2 : flB n (fnR x) k with
            | true =>
              rw [h2] at be
              exact ws_if0n (by rw [tAnd_e, tVal_e, be]; rfl) ⟨rfl, ⟨_, rfl⟩, rfl⟩
            | false =>
              rw [h2] at be
              cases h3 : decide (Sd (fnR a) (fnR w) (fnR x) (k + 1) = 0) with
              | true =>
                rw [h3] at nz
                exact ws_if0n (by rw [tAnd_e, tVal_e, be]; exact nz) ⟨rfl, ⟨_, rfl⟩, rfl⟩
              | false =>
                rw [h3] at nz
                exact ws_if1 (by rw [tAnd_e, tVal_e, be]; exact nz) (ws_ret (W.of (eC_e ..) ⟨rfl, rfl, rfl⟩))
        · rw [hp.2]
          exact ws_ret (W.of (eC_e ..) ⟨by rw [hp.1], Gt⟩)
    · obtain ⟨hF, rfl, ht⟩ := hp
      rw [hF, ht]
      exact ⟨rfl, .refl⟩
  · rw [decide_eq_false c, Bool.false_and, Bool.false_and]
    have ne : tBl (eBin oNe (eCB fLen (aCons (eVar 2) aNil)) (eCB fLen (aCons (eVar 0) aNil))) [some X, some Y, some V, none, none, none] st = .ok true st := by
      have c := eq_false (show ¬ ((ps.length : Nat) : Int) = (n : Int) by omega)
      simp [lx, lv, c]
    exact ws_take ne (ws_ret (W.of (eC_e ..) ⟨rfl, .refl⟩))
end

/-! k65: the law's own judge -/
theorem num_pos {x : Rat} (h : 0 < x.num) : 0 < x := by
  refine Rat.not_le.mp fun h2 => ?_
  have h3 : 0 ≤ -x := by
    have := Rat.neg_le_neg h2
    rwa [Rat.neg_zero] at this
  have := Rat.num_nonneg.mpr h3
  rw [Rat.neg_num] at this
  omega
theorem pos_num {x : Rat} (h : 0 < x) : 0 < x.num := by
  rcases Int.lt_or_le 0 x.num with q | q
  · exact q
  · have : 0 ≤ (-x).num := by rw [Rat.neg_num]; omega
    have := Rat.num_nonneg.mp this
    have h2 := Rat.neg_le_neg this
    rw [Rat.neg_neg, Rat.neg_zero] at h2
    exact absurd h (Rat.not_lt.mpr h2)
theorem neg_dec {x : Rat} : decide (x.num < 0) = decide (x < 0) := by
  by_cases c : x < 0
  · rw [decide_eq_true c]
    refine decide_eq_true (Int.not_le.mp fun h => ?_)
    exact absurd c (Rat.not_lt.mpr (Rat.num_nonneg.mp h))
  · rw [decide_eq_false c]
    refine decide_eq_false (Int.not_lt.mpr ?_)
    exact Rat.num_nonneg.mpr (Rat.not_lt.mp c)
theorem pos_dec {x : Rat} : decide (0 < x.num) = decide (0 < x) := by
  by_cases c : 0 < x
  · rw [decide_eq_true c, decide_eq_true (pos_num c)]
  · rw [decide_eq_false c]
    exact decide_eq_false fun h => c (num_pos h)
theorem zB_law {a w x : Nat → Rat} {n k : Nat} : zB n a w x k = !(decide (Sd a w x (k + 1) < 0) || (decide (0 < Sd a w x (k + 1)) && !flB n x k)) := by
  unfold zB
  obtain ⟨s, hs⟩ : ∃ s, s = Sd a w x (k + 1) := ⟨_, rfl⟩
  rw [← hs]
  by_cases c : s < 0
  · rw [decide_eq_true c]
    rfl
  · rw [decide_eq_false c]
    by_cases d : s = 0
    · rw [decide_eq_true d, d, decide_eq_false (by decide : ¬ (0 : Rat) < 0)]
      cases flB n x k <;> rfl
    · rw [decide_eq_false d, decide_eq_true (by have := Rat.not_lt.mp c; grind : 0 < s)]
      cases flB n x k <;> rfl
section
variable {E N n : Nat} {a w x : List Rat}
theorem r_lrises {st : Store} (ln : x.length = n) (h0 : 0 < n) (hn : n ≤ 20) (qb : ∀ k, k < n → QB 1000 (fnR x k)) : f__law_rises [.tup (x.map qd)] st = .ok (.bl (upB n (fnR x))) st := by
  refine W.eq ?_
  have at' := fun (k : Nat) (h : k < n) (t : Store) => r_at (x := x) (st := t) (k := k) (by omega)
  obtain ⟨X, hX⟩ : ∃ X, X = D.tup (x.map qd) := ⟨_, rfl⟩
  have lx : ∀ t, fLen [X] t = .ok (.int (n : Nat)) t := fun t => by rw [hX, fLen_tup, List.length_map, ln]
  rw [← hX] at at' ⊢
  unfold f__law_rises
  rw [runB_e]
  unfold m__law_rises
  rw [W_fin]
  have n2 : ent 2 [X] = [some X, none] := rfl
  rw [n2]
  refine ws_ret ?_
  rw [eCS_e, W_bind, lComp_e, W_bind, iRg1_e, W_bind]
  refine W.of (a := .int ((n - 1 : Nat) : Int)) (s := st) (by rw [eBin_e, eCB_e, aCons_e, eVar_e rfl]; show (fLen [X] st).bind _ = _; rw [lx, ER.bind_ok, eC_e, ER.bind_ok]; simp; omega) ?_
  refine W.of (rg1_int (by omega)) ?_
  refine w_lc (by show (rng 0 ((n - 1 : Nat) : Int)).length ≤ _; rw [rng_len]; omega) ?_
  refine w_map (fun k : Nat => D.int k) (fun k => D.bl (!decide (fnR x (k + 1) < fnR x k))) (List.range (n - 1)) (rng_eq _) rfl (fun k hk => ⟨[some X, some (.int (k : Nat))], rfl, ?_⟩) ?_
  · have hk : k + 1 < n := by have := List.mem_range.mp hk; omega
    have b := r_llessQ (st := st) (qb (k + 1) hk) (qb k (by omega)) (by decide)
    have e : eCall 2 f__law_less (aCons (eBin oIx (eVar 0) (eBin oAdd (eVar 1) (eC (.int 1)))) (aCons (eBin oIx (eVar 0) (eVar 1)) aNil)) [some X, some (.int (k : Nat))] st = .ok (.bl (decide (fnR x (k + 1) < fnR x k))) st := by
      rw [call2 (s1 := st) (s2 := st) (a := qd (fnR x (k + 1))) (b := qd (fnR x k))]
      · exact b
      · rw [eBin_e, eVar_e rfl, ER.bind_ok, e_succ (eVar_e rfl), ER.bind_ok]
        exact at' (k + 1) hk st
      · rw [eBin_e, eVar_e rfl, ER.bind_ok, eVar_e rfl, ER.bind_ok]
        exact at' k (by omega) st
    refine W.of (a := .bl (!decide (fnR x (k + 1) < fnR x k))) (s := st) ?_ ⟨rfl, rfl⟩
    generalize eCall 2 f__law_less (aCons (eBin oIx (eVar 0) (eBin oAdd (eVar 1) (eC (.int 1)))) (aCons (eBin oIx (eVar 0) (eVar 1)) aNil)) = fe at e ⊢
    simp [e]
  · exact W.of (gAllB_map (f := fun k => !decide (fnR x (k + 1) < fnR x k)) (xs := List.range (n - 1))) ⟨rfl, rfl⟩
theorem r_nearestB {st : Store} {ps : List (Int × Int)} (Z : Sz E N n a w) (h0 : 0 < n) (hx : ps.length = n → ps.all isF = true → ∀ z ∈ ps.map rp, Rp E N z) (lp : ps.length ≤ 100) (hp : ∀ p ∈ ps, p.2.natAbs < 2 ^ 9000) :
    f__law_is_nearest [.tup (a.map qd), .tup (w.map qd), .tup (ps.map frp)] st = .ok (.bl (jB n a w ps)) st := by
  have n20 := Z.n20
  refine W.eq ?_
  unfold jB
  have ata := fun (k : Nat) (h : k < n) (t : Store) => r_at (x := a) (st := t) (k := k) (by rw [Z.la]; exact h)
  have atw := fun (k : Nat) (h : k < n) (t : Store) => r_at (x := w) (st := t) (k := k) (by rw [Z.lw]; exact h)
  obtain ⟨X, hX⟩ : ∃ X, X = D.tup (a.map qd) := ⟨_, rfl⟩
  obtain ⟨Y, hY⟩ : ∃ Y, Y = D.tup (w.map qd) := ⟨_, rfl⟩
  obtain ⟨V, hV⟩ : ∃ V, V = D.tup (ps.map frp) := ⟨_, rfl⟩
  have lx : ∀ t, fLen [X] t = .ok (.int (n : Nat)) t := fun t => by rw [hX, fLen_tup, List.length_map, Z.la]
  have lv : ∀ t, fLen [V] t = .ok (.int (ps.length : Nat)) t := fun t => by rw [hV, fLen_tup, List.length_map]
  have iv : ∀ t, fIsi [V, .ty "tuple"] t = .ok (.bl true) t := fun t => by rw [hV]; simp
  have sv : ∀ t, dSq t V = some (.fix (ps.map frp)) := fun t => by rw [hV]; simp [dSq]
  have n6 : ent 6 [X, Y, V] = [some X, some Y, some V, none, none, none] := rfl
  rw [← hX] at ata
  rw [← hY] at atw
  rw [← hX, ← hY, ← hV]
  unfold f__law_is_nearest
  rw [runB_e]
  unfold m__law_is_nearest
  rw [W_fin, n6]
  by_cases c : ps.length = n
  · rw [decide_eq_true c, Bool.true_and]
    have ne : tOr (HM.tNot (tVal (eCB fIsi (aCons (eVar 2) (aCons (eC (.ty "tuple")) aNil))))) (tOr (tBl (eBin oNe (eCB fLen (aCons (eVar 2) aNil)) (eCB fLen (aCons (eVar 0) aNil)))) (tBl (eBin oEq (eCB fLen (aCons (eVar 2) aNil)) (eC (.int 0))))) [some X, some Y, some V, none, none, none] st = .ok false st := by
      have c1 := eq_true (show ((ps.length : Nat) : Int) = (n : Int) by omega)
      have c2 := eq_false (show ¬ ps = [] from fun e => by rw [e] at c; exact absurd c (by show ¬ 0 = n; omega))
      simp [lx, lv, iv, c1, c2]
    refine ws_skip ne ?_
    have comp : eCS gAllB (lComp [5] (iEx (eVar 2)) (gN 5) tYes (eCall 1 f__law_is_frac (aCons (eVar 5) aNil))) [some X, some Y, some V, none, none, none] st = .ok (.bl (ps.all isF)) st := by
      refine W.eq ?_
      rw [eCS_e, W_bind, lComp_e, W_bind, iEx_e, W_bind]
      refine W.of (eVar_e rfl) ?_
      rw [sv, ofQ_some, W_ok]
      refine w_lc (by show (ps.map frp).length ≤ _; rw [List.length_map]; omega) ?_
      refine w_map frp (fun p => D.bl (isF p)) ps rfl rfl (fun p hpp => ⟨[some X, some Y, some V, none, none, some (frp p)], rfl, ?_⟩) ?_
      · rw [call1 (eVar_e rfl)]
        exact W.of (v_is_frac (hp p hpp)) ⟨rfl, rfl⟩
      · exact W.of (gAllB_map (f := isF) (xs := ps)) ⟨rfl, rfl⟩
    cases hF : ps.all isF with
    | false =>
      rw [hF] at comp
      rw [Bool.false_and]
      exact ws_take (by rw [tOr_e, tNot_e, tVal_e, comp]; rfl) (ws_ret (W.of (eC_e ..) ⟨rfl, rfl⟩))
    | true =>
      rw [hF] at comp
      rw [Bool.true_and]
      have Zx : Sx E N n a w (ps.map rp) := ⟨Z, by rw [List.length_map]; exact c, hx c hF⟩
      rw [frps hF] at hV
      obtain ⟨x, hxx⟩ : ∃ x, x = ps.map rp := ⟨_, rfl⟩
      rw [← hxx] at hV Zx ⊢
      have ri := r_lrises (st := st) Zx.lx h0 n20 (fun k hk => (Zx.q hk).2.2.1)
      have rb := fun k (hk : k < n) t => r_lflat (st := t) (k := k) Zx.lx hk
      have atx := fun (k : Nat) (h : k < n) (t : Store) => r_at (x := x) (st := t) (k := k) (by rw [Zx.lx]; exact h)
      rw [← hV] at ri rb atx
      unfold kkB
      have eri : eCall 1 f__law_rises (aCons (eVar 2) aNil) [some X, some Y, some V, none, none, none] st = .ok (.bl (upB n (fnR x))) st := by
        rw [call1 (eVar_e rfl)]
        exact ri
      cases hu : upB n (fnR x) with
      | false =>
        rw [hu] at eri
        rw [Bool.false_and]
        exact ws_take (by rw [tOr_e, tNot_e, tVal_e, comp]; show HM.tNot (tVal (eCall 1 f__law_rises (aCons (eVar 2) aNil))) [some X, some Y, some V, none, none, none] st = _; rw [tNot_e, tVal_e, eri]; rfl) (ws_ret (W.of (eC_e ..) ⟨rfl, rfl⟩))
      | true =>
        rw [hu] at eri
        rw [Bool.true_and]
        refine ws_skip (by rw [tOr_e, tNot_e, tVal_e, comp]; show HM.tNot (tVal (eCall 1 f__law_rises (aCons (eVar 2) aNil))) [some X, some Y, some V, none, none, none] st = _; rw [tNot_e, tVal_e, eri]; rfl) ?_
        refine ws_cons (N' := fun τ t => τ = [some X, some Y, some V, some (qd 0), none, none] ∧ t = st) (ws_set (W.of (a := qd 0) (s := st) (by rw [eTup_e, aCons_e, eC_e, ER.bind_ok, aCons_e, eC_e, ER.bind_ok, aNil_e, ER.bind_ok, ER.bind_ok]; rfl) ⟨rfl, rfl⟩)) fun τ t hp => ?_
        obtain ⟨rfl, ht⟩ := hp
        rw [ht]
        clear ht t
        obtain ⟨J, hJ⟩ : ∃ J : Nat → Sl → Store → Prop, J = fun k τ t => ((List.range k).all (zB n (fnR a) (fnR w) (fnR x)) = true ∧ ∃ e, τ = [some X, some Y, some V, some (qd (Sd (fnR a) (fnR w) (fnR x) k)), e, none]) ∧ t = st := ⟨_, rfl⟩
        refine ws_cons (N' := fun τ u => (List.range n).all (zB n (fnR a) (fnR w) (fnR x)) = true ∧ u = st) ?_ fun τ u hp => ?_
        · refine ws_forD (fun q u => q = .fix (rng 0 (n : Nat)) ∧ u = st) (W.of ?_ ⟨rfl, rfl⟩) ?_
          · rw [iRg1_e, eCB_e, aCons_e, eVar_e rfl]
            show ((fLen [V] st).bind _) = _
            rw [lv, c, ER.bind_ok]
            exact rg1_int (by omega)
          rintro _ u ⟨rfl, hu⟩
          rw [hu]
          refine ws_rng (n := n) J (fun _ _ _ _ => rfl) (by rw [hJ]; exact ⟨⟨rfl, _, rfl⟩, rfl⟩) (fun k τ u hk hp => ?_) fun τ u hp => by rw [hJ] at hp; exact ⟨hp.1.1, hp.2⟩
          rw [hJ] at hp
          obtain ⟨⟨hall, e, rfl⟩, hu⟩ := hp
          rw [hu]
          refine ⟨[some X, some Y, some V, some (qd (Sd (fnR a) (fnR w) (fnR x) k)), some (.int (k : Nat)), none], rfl, ?_⟩
          obtain ⟨q1, q2, q3, _⟩ := Zx.q hk
          refine ws_cons (N' := fun τ t => τ = [some X, some Y, some V, some (qd (Sd (fnR a) (fnR w) (fnR x) (k + 1))), some (.int (k : Nat)), none] ∧ t = st) ?_ fun τ t hp => ?_
          · refine ws_set ?_
            have i1 : eBin oIx (eVar 1) (eVar 4) [some X, some Y, some V, some (qd (Sd (fnR a) (fnR w) (fnR x) k)), some (.int (k : Nat)), none] st = .ok (qd (fnR w k)) st := by
              rw [eBin_e, eVar_e rfl, ER.bind_ok, eVar_e rfl, ER.bind_ok]
              exact atw k hk st
            have i0 : eBin oIx (eVar 0) (eVar 4) [some X, some Y, some V, some (qd (Sd (fnR a) (fnR w) (fnR x) k)), some (.int (k : Nat)), none] st = .ok (qd (fnR a k)) st := by
              rw [eBin_e, eVar_e rfl, ER.bind_ok, eVar_e rfl, ER.bind_ok]
              exact ata k hk st
            have i2 : eBin oIx (eVar 2) (eVar 4) [some X, some Y, some V, some (qd (Sd (fnR a) (fnR w) (fnR x) k)), some (.int (k : Nat)), none] st = .ok (qd (fnR x k)) st := by
              rw [eBin_e, eVar_e rfl, ER.bind_ok, eVar_e rfl, ER.bind_ok]
              exact atx k hk st
            rw [call2 (eVar_e rfl) (by rw [call2 i1 (by rw [call2 i0 i2]; exact r_lminusQ q1 q3 (by decide))]; exact r_ltimesQ q2 (q1.sub q3) (by decide))]
            exact W.of (r_lplusQ (Zx.sq (by omega)) (q2.mul (q1.sub q3)) (by decide)) ⟨rfl, rfl⟩
          obtain ⟨rfl, ht⟩ := hp
          rw [ht]
          clear ht t
          have s0 : eBin oIx (eVar 3) (eC (.int 0)) [some X, some Y, some V, some (qd (Sd (fnR a) (fnR w) (fnR x) (k + 1))), some (.int (k : Nat)), none] st = .ok (.int (Sd (fnR a) (fnR w) (fnR x) (k + 1)).num) st := by
            rw [eBin_e, eVar_e rfl, ER.bind_ok, eC_e, ER.bind_ok, qd_tup]
            simp
          have lt : tBl (eBin oLt (eBin oIx (eVar 3) (eC (.int 0))) (eC (.int 0))) [some X, some Y, some V, some (qd (Sd (fnR a) (fnR w) (fnR x) (k + 1))), some (.int (k : Nat)), none] st = .ok (decide (Sd (fnR a) (fnR w) (fnR x) (k + 1) < 0)) st := by
            rw [tBl_e, eBin_e, s0, ER.bind_ok, eC_e, ER.bind_ok, ← neg_dec]
            simp
          have gt : tBl (eBin oGt (eBin oIx (eVar 3) (eC (.int 0))) (eC (.int 0))) [some X, some Y, some V, some (qd (Sd (fnR a) (fnR w) (fnR x) (k + 1))), some (.int (k : Nat)), none] st = .ok (decide (0 < Sd (fnR a) (fnR w) (fnR x) (k + 1))) st := by
            rw [tBl_e, eBin_e, s0, ER.bind_ok, eC_e, ER.bind_ok, ← pos_dec]
            simp
          have fl : HM.tNot (tVal (eCall 2 f__law_is_flat (aCons (eVar 2) (aCons (eVar 4) aNil)))) [some X, some Y, some V, some (qd (Sd (fnR a) (fnR w) (fnR x) (k + 1))), some (.int (k : Nat)), none] st = .ok (!flB n (fnR x) k) st := by
            rw [tNot_e, tVal_e, call2 (eVar_e rfl) (eVar_e rfl), rb k hk st]
            rfl
          have tt : tOr (tBl (eBin oLt (eBin oIx (eVar 3) (eC (.int 0))) (eC (.int 0)))) (tAnd (tBl (eBin oGt (eBin oIx (eVar 3) (eC (.int 0))) (eC (.int 0)))) (HM.tNot (tVal (eCall 2 f__law_is_flat (aCons (eVar 2) (aCons (eVar 4) aNil)))))) [some X, some Y, some V, some (qd (Sd (fnR a) (fnR w) (fnR x) (k + 1))), some (.int (k : Nat)), none] st = .ok (!zB n (fnR a) (fnR w) (fnR x) k) st := by
            rw [zB_law, Bool.not_not, tOr_e, lt, ER.bind_ok, tAnd_e, gt, ER.bind_ok, fl]
            cases decide (Sd (fnR a) (fnR w) (fnR x) (k + 1) < 0) <;> cases decide (0 < Sd (fnR a) (fnR w) (fnR x) (k + 1)) <;> rfl
          cases hz : zB n (fnR a) (fnR w) (fnR x) k with
          | true =>
            rw [hz] at tt
            refine ws_if0n tt ?_
            rw [hJ]
            refine ⟨⟨?_, _, rfl⟩, rfl⟩
            rw [List.range_succ, List.all_append, hall, List.all_cons, List.all_nil, hz]
            rfl
          | false =>
            rw [hz] at tt
            refine ws_if1 tt (ws_ret (W.of (eC_e ..) ⟨?_, rfl⟩))
            have : (List.range n).all (zB n (fnR a) (fnR w) (fnR x)) = false := by
              rw [List.all_eq_false]
              exact ⟨k, List.mem_range.mpr hk, by rw [hz]; exact Bool.false_ne_true⟩
            rw [this]
        · rw [hp.2]
          exact ws_ret (W.of (eC_e ..) ⟨by rw [hp.1], rfl⟩)
  · rw [decide_eq_false c, Bool.false_and, Bool.false_and]
    have ne : tOr (HM.tNot (tVal (eCB fIsi (aCons (eVar 2) (aCons (eC (.ty "tuple")) aNil))))) (tOr (tBl (eBin oNe (eCB fLen (aCons (eVar 2) aNil)) (eCB fLen (aCons (eVar 0) aNil)))) (tBl (eBin oEq (eCB fLen (aCons (eVar 2) aNil)) (eC (.int 0))))) [some X, some Y, some V, none, none, none] st = .ok true st := by
      have c1 := eq_false (show ¬ ((ps.length : Nat) : Int) = (n : Int) by omega)
      simp [lx, lv, iv, c1]
    exact ws_take ne (ws_ret (W.of (eC_e ..) ⟨rfl, rfl⟩))
end

/-! k65: distances -/
structure Sy (E N n : Nat) (w x t : List Rat) : Prop where
  n20 : n ≤ 20
  lw : w.length = n
  lx : x.length = n
  lt : t.length = n
  e0 : 0 < E
  e1 : E < 2 ^ 400
  n1 : N < 2 ^ 450
  w : ∀ z ∈ w, 0 < z ∧ Rp 12 256 z
  x : ∀ z ∈ x, Rp E N z
  t : ∀ z ∈ t, Rp E N z
section
variable {E N n : Nat} {w x t : List Rat}
theorem Sy.q (Z : Sy E N n w x t) {k : Nat} (hk : k < n) : QB 1000 (fnR x k) ∧ QB 1000 (fnR w k) ∧ QB 1000 (fnR t k) ∧ Rp (12 * (E * E)) (256 * ((N + N) * (N + N))) (fnR w k * ((fnR x k - fnR t k) * (fnR x k - fnR t k))) := by
  have mw := fn_mem (xs := w) (k := k) (by rw [Z.lw]; exact hk)
  have mx := fn_mem (xs := x) (k := k) (by rw [Z.lx]; exact hk)
  have mt := fn_mem (xs := t) (k := k) (by rw [Z.lt]; exact hk)
  have e : E < 2 ^ 1000 := Nat.lt_trans Z.e1 (by decide +kernel)
  have n' : N < 2 ^ 1000 := Nat.lt_trans Z.n1 (by decide +kernel)
  have d := (Z.x _ mx).sub (Z.t _ mt)
  exact ⟨(Z.x _ mx).qb Z.e0 e n', (Z.w _ mw).2.qb (by decide) (by decide) (by decide), (Z.t _ mt).qb Z.e0 e n', (Z.w _ mw).2.mul (d.mul d)⟩
theorem Sy.fd (Z : Sy E N n w x t) : ∀ k, k ≤ n → Rp (12 * (E * E)) (256 * ((N + N) * (N + N)) * k) (Fd (fnR w) (fnR x) (fnR t) k)
  | 0, _ => Rp.zero
  | k + 1, h => (Z.fd k (by omega)).add (Z.q (by omega)).2.2.2
theorem Sy.dq (Z : Sy E N n w x t) {k : Nat} (hk : k ≤ n) : QB 1000 (Fd (fnR w) (fnR x) (fnR t) k) := by
  have n20 := Z.n20
  have e1 := Z.e1
  have n1 := Z.n1
  have e0 := Z.e0
  refine (Z.fd k hk).qb (by have := Nat.mul_pos e0 e0; omega) ?_ ?_
  · refine Nat.lt_of_le_of_lt (Nat.mul_le_mul_left 12 (Nat.mul_le_mul (Nat.le_of_lt e1) (Nat.le_of_lt e1))) ?_
    decide +kernel
  · refine Nat.lt_of_le_of_lt (Nat.mul_le_mul (Nat.mul_le_mul_left 256 (Nat.mul_le_mul (show N + N ≤ 2 ^ 450 + 2 ^ 450 by omega) (show N + N ≤ 2 ^ 450 + 2 ^ 450 by omega))) (show k ≤ 20 by omega)) ?_
    decide +kernel
theorem r_height {st : Store} (Z : Sy E N n w x t) {k : Nat} (hk : k < n) : f_height_at [.tup [qd (fnR t k), qd (fnR w k)], qd (fnR x k)] st = .ok (qd (fnR w k * ((fnR x k - fnR t k) * (fnR x k - fnR t k)))) st := by
  obtain ⟨q1, q2, q3, _⟩ := Z.q hk
  have m := r_minusQ (st := st) q1 q3 (by decide)
  have t1 := r_timesQ (st := st) (q1.sub q3) (q1.sub q3) (by decide)
  have t2 := r_timesQ (st := st) q2 ((q1.sub q3).mul (q1.sub q3)) (by decide)
  unfold f_height_at
  rw [runB_e]
  unfold m_height_at
  simp [m, t1, t2]
theorem r_square {st : Store} (Z : Sy E N n w x t) : f_square_distance [.tup (w.map qd), .tup (x.map qd), .tup (t.map qd)] st = .ok (qd (Fd (fnR w) (fnR x) (fnR t) n)) st := by
  have n20 := Z.n20
  refine W.eq ?_
  have zz : ∀ s, iZip3 (eVar 0) (eVar 1) (eVar 2) [some (.tup (w.map qd)), some (.tup (x.map qd)), some (.tup (t.map qd)), some (qd 0), none, none, none] s = .ok (.fix ((List.zip w (List.zip x t)).map fun p => .tup [qd p.1, qd p.2.1, qd p.2.2])) s := fun s => by
    rw [iZip3_t (eVar_e rfl) (eVar_e rfl) (eVar_e rfl), zip3D_map]
  have lz : (List.zip w (List.zip x t)).length = n := by rw [List.length_zip, List.length_zip, Z.lw, Z.lx, Z.lt]; omega
  obtain ⟨X, hX⟩ : ∃ X, X = D.tup (w.map qd) := ⟨_, rfl⟩
  obtain ⟨Y, hY⟩ : ∃ Y, Y = D.tup (x.map qd) := ⟨_, rfl⟩
  obtain ⟨V, hV⟩ : ∃ V, V = D.tup (t.map qd) := ⟨_, rfl⟩
  rw [← hX, ← hY, ← hV] at zz ⊢
  unfold f_square_distance
  rw [runB_e]
  unfold m_square_distance
  rw [W_fin]
  have n7 : ent 7 [X, Y, V] = [some X, some Y, some V, none, none, none, none] := rfl
  rw [n7]
  refine ws_cons (N' := fun τ s => τ = [some X, some Y, some V, some (qd 0), none, none, none] ∧ s = st) (ws_set (W.of (a := qd 0) (s := st) rfl ⟨rfl, rfl⟩)) fun τ s hp => ?_
  obtain ⟨rfl, hs⟩ := hp
  rw [hs]
  clear hs s
  obtain ⟨J, hJ⟩ : ∃ J : Nat → Sl → Store → Prop, J = fun i τ s => (∃ c d e, τ = [some X, some Y, some V, some (qd (Fd (fnR w) (fnR x) (fnR t) i)), c, d, e]) ∧ s = st := ⟨_, rfl⟩
  refine ws_cons (N' := J n) ?_ fun τ s hp => ?_
  · refine ws_forD (fun q s => q = .fix ((List.zip w (List.zip x t)).map fun p => .tup [qd p.1, qd p.2.1, qd p.2.2]) ∧ s = st) (W.of (zz _) ⟨rfl, rfl⟩) ?_
    rintro _ s ⟨rfl, hs⟩
    rw [hs]
    refine ws_map (fun p : Rat × Rat × Rat => .tup [qd p.1, qd p.2.1, qd p.2.2]) (List.zip w (List.zip x t)) rfl J (fun _ _ _ _ => rfl) (by rw [hJ]; exact ⟨⟨_, _, _, rfl⟩, rfl⟩) (fun i p τ s hi hp => ?_) fun τ s hp => by rw [lz] at hp; exact hp
    rw [hJ] at hp
    obtain ⟨⟨c, d, e, rfl⟩, hs⟩ := hp
    rw [hs]
    clear hs s
    obtain ⟨p1, p2, p3⟩ := zip3_at hi
    have hin : i < n := by
      have := (List.getElem?_eq_some_iff.mp hi).1
      omega
    rw [← p1, ← p2, ← p3]
    refine ⟨[some X, some Y, some V, some (qd (Fd (fnR w) (fnR x) (fnR t) i)), some (qd (fnR w i)), some (qd (fnR x i)), some (qd (fnR t i))], rfl, ?_⟩
    obtain ⟨q1, q2, q3, _⟩ := Z.q hin
    refine ws_set ?_
    rw [call2 (eVar_e rfl) (by rw [call2 (a := .tup [qd (fnR t i), qd (fnR w i)]) (by rw [eTup_e, aCons_e, eVar_e rfl, ER.bind_ok, aCons_e, eVar_e rfl, ER.bind_ok, aNil_e, ER.bind_ok, ER.bind_ok]; rfl) (eVar_e rfl)]; exact r_height Z hin)]
    refine W.of (r_plusQ (Z.dq (by omega)) (q2.mul ((q1.sub q3).mul (q1.sub q3))) (by decide)) ?_
    rw [hJ]
    exact ⟨⟨_, _, _, rfl⟩, rfl⟩
  rw [hJ] at hp
  obtain ⟨⟨c, d, e, rfl⟩, hs⟩ := hp
  rw [hs]
  exact ws_ret (W.of (eVar_e rfl) ⟨rfl, rfl⟩)
theorem r_lfar {st : Store} (Z : Sy E N n w x t) : f__law_far [.tup (w.map qd), .tup (x.map qd), .tup (t.map qd)] st = .ok (qd (Fd (fnR w) (fnR x) (fnR t) n)) st := by
  have n20 := Z.n20
  refine W.eq ?_
  have atw := fun (k : Nat) (h : k < n) (s : Store) => r_at (x := w) (st := s) (k := k) (by rw [Z.lw]; exact h)
  have atx := fun (k : Nat) (h : k < n) (s : Store) => r_at (x := x) (st := s) (k := k) (by rw [Z.lx]; exact h)
  have att := fun (k : Nat) (h : k < n) (s : Store) => r_at (x := t) (st := s) (k := k) (by rw [Z.lt]; exact h)
  obtain ⟨X, hX⟩ : ∃ X, X = D.tup (w.map qd) := ⟨_, rfl⟩
  obtain ⟨Y, hY⟩ : ∃ Y, Y = D.tup (x.map qd) := ⟨_, rfl⟩
  obtain ⟨V, hV⟩ : ∃ V, V = D.tup (t.map qd) := ⟨_, rfl⟩
  have ly : ∀ s, fLen [Y] s = .ok (.int (n : Nat)) s := fun s => by rw [hY, fLen_tup, List.length_map, Z.lx]
  rw [← hX] at atw
  rw [← hY] at atx
  rw [← hV] at att
  rw [← hX, ← hY, ← hV]
  unfold f__law_far
  rw [runB_e]
  unfold m__law_far
  rw [W_fin]
  have n6 : ent 6 [X, Y, V] = [some X, some Y, some V, none, none, none] := rfl
  rw [n6]
  refine ws_cons (N' := fun τ s => τ = [some X, some Y, some V, some (qd 0), none, none] ∧ s = st) (ws_set (W.of (a := qd 0) (s := st) (by rw [eTup_e, aCons_e, eC_e, ER.bind_ok, aCons_e, eC_e, ER.bind_ok, aNil_e, ER.bind_ok, ER.bind_ok]; rfl) ⟨rfl, rfl⟩)) fun τ s hp => ?_
  obtain ⟨rfl, hs⟩ := hp
  rw [hs]
  clear hs s
  obtain ⟨J, hJ⟩ : ∃ J : Nat → Sl → Store → Prop, J = fun i τ s => (∃ c d, τ = [some X, some Y, some V, some (qd (Fd (fnR w) (fnR x) (fnR t) i)), c, d]) ∧ s = st := ⟨_, rfl⟩
  refine ws_cons (N' := J n) ?_ fun τ s hp => ?_
  · refine ws_forD (fun q u => q = .fix (rng 0 (n : Nat)) ∧ u = st) (W.of ?_ ⟨rfl, rfl⟩) ?_
    · rw [iRg1_e, eCB_e, aCons_e, eVar_e rfl]
      show ((fLen [Y] st).bind _) = _
      rw [ly, ER.bind_ok]
      exact rg1_int (by omega)
    rintro _ u ⟨rfl, hu⟩
    rw [hu]
    refine ws_rng (n := n) J (fun _ _ _ _ => rfl) (by rw [hJ]; exact ⟨⟨_, _, rfl⟩, rfl⟩) (fun k τ u hk hp => ?_) fun τ u hp => hp
    rw [hJ] at hp
    obtain ⟨⟨c, d, rfl⟩, hu⟩ := hp
    rw [hu]
    clear hu u
    refine ⟨[some X, some Y, some V, some (qd (Fd (fnR w) (fnR x) (fnR t) k)), some (.int (k : Nat)), d], rfl, ?_⟩
    obtain ⟨q1, q2, q3, _⟩ := Z.q hk
    refine ws_cons (N' := fun τ s => τ = [some X, some Y, some V, some (qd (Fd (fnR w) (fnR x) (fnR t) k)), some (.int (k : Nat)), some (qd (fnR x k - fnR t k))] ∧ s = st) (ws_set ?_) fun τ s hp => ?_
    · rw [call2 (s1 := st) (s2 := st) (a := qd (fnR x k)) (b := qd (fnR t k))]
      · exact W.of (r_lminusQ q1 q3 (by decide)) ⟨rfl, rfl⟩
      · rw [eBin_e, eVar_e rfl, ER.bind_ok, eVar_e rfl, ER.bind_ok]
        exact atx k hk st
      · rw [eBin_e, eVar_e rfl, ER.bind_ok, eVar_e rfl, ER.bind_ok]
        exact att k hk st
    obtain ⟨rfl, hs⟩ := hp
    rw [hs]
    clear hs s
    refine ws_set ?_
    have i0 : eBin oIx (eVar 0) (eVar 4) [some X, some Y, some V, some (qd (Fd (fnR w) (fnR x) (fnR t) k)), some (.int (k : Nat)), some (qd (fnR x k - fnR t k))] st = .ok (qd (fnR w k)) st := by
      rw [eBin_e, eVar_e rfl, ER.bind_ok, eVar_e rfl, ER.bind_ok]
      exact atw k hk st
    rw [call2 (eVar_e rfl) (by rw [call2 i0 (by rw [call2 (eVar_e rfl) (eVar_e rfl)]; exact r_ltimesQ (q1.sub q3) (q1.sub q3) (by decide))]; exact r_ltimesQ q2 ((q1.sub q3).mul (q1.sub q3)) (by decide))]
    refine W.of (r_lplusQ (Z.dq (by omega)) (q2.mul ((q1.sub q3).mul (q1.sub q3))) (by decide)) ?_
    rw [hJ]
    exact ⟨⟨_, _, rfl⟩, rfl⟩
  rw [hJ] at hp
  obtain ⟨⟨c, d, rfl⟩, hs⟩ := hp
  rw [hs]
  exact ws_ret (W.of (eVar_e rfl) ⟨rfl, rfl⟩)
theorem r_is_far {st : Store} (Z : Sy E N n w x t) : f__law_is_far [.tup (w.map qd), .tup (x.map qd), .tup (t.map qd), qd (Fd (fnR w) (fnR x) (fnR t) n)] st = .ok (.bl true) st := by
  have f := r_lfar (st := st) Z
  have q := r_is_fracQ (st := st) (Z.dq (Nat.le_refl _)) (by decide)
  obtain ⟨X, hX⟩ : ∃ X, X = D.tup (w.map qd) := ⟨_, rfl⟩
  obtain ⟨Y, hY⟩ : ∃ Y, Y = D.tup (x.map qd) := ⟨_, rfl⟩
  obtain ⟨V, hV⟩ : ∃ V, V = D.tup (t.map qd) := ⟨_, rfl⟩
  obtain ⟨F, hF⟩ : ∃ F, F = Fd (fnR w) (fnR x) (fnR t) n := ⟨_, rfl⟩
  have e := eq_qd (x := F) (y := F) (st := st)
  rw [← hX, ← hY, ← hV] at f ⊢
  rw [← hF] at f q ⊢
  obtain ⟨G, hG⟩ : ∃ G, G = qd F := ⟨_, rfl⟩
  rw [← hG] at f q e ⊢
  unfold f__law_is_far
  rw [runB_e]
  unfold m__law_is_far
  simp [f, q, e]
end

/-! k65: draws -/
theorem div_pos {p q : Nat} (hp : 1 ≤ p) (hq : 1 ≤ q) : 0 < Rat.divInt (p : Nat) (q : Nat) := by
  have h : 0 ≤ Rat.divInt (p : Nat) (q : Nat) := Rat.divInt_nonneg (Int.natCast_nonneg _) (Int.natCast_nonneg _)
  refine Rat.lt_of_le_of_ne h fun e => ?_
  have h1 : Rat.divInt (p : Nat) (q : Nat) = ((p : Nat) : Rat) / ((q : Nat) : Rat) := by
    rw [Rat.divInt_eq_div]
    rfl
  have h2 := Rat.div_mul_cancel (a := ((p : Nat) : Rat)) (natCast_ne hq)
  rw [← h1, ← e, Rat.zero_mul] at h2
  exact natCast_ne hp h2.symm
theorem dv12 : ∀ q < 5, 1 ≤ q → q ∣ 12 := by decide
theorem dv60 : ∀ p < 7, 1 ≤ p → p ∣ 60 := by decide
theorem rp12 {z : Int} {q m : Nat} (hq : 1 ≤ q ∧ q ≤ 4) (hz : z.natAbs ≤ m) : Rp 12 (m * 12) (Rat.divInt z (q : Nat)) :=
  .divInt (by omega) (dv12 q (by omega) hq.1) (Nat.mul_le_mul hz (Nat.div_le_self _ _))
theorem nat_of {v m : Int} (h0 : 0 ≤ v) (h1 : v < m) : ∃ n : Nat, v = (n : Int) ∧ (n : Int) < m := ⟨v.toNat, by omega, by omega⟩
section
variable {ns : List Int} {s : Store} {τ : Sl} {i : Nat}
theorem e_draw {m : Nat} {fe : EM D} (H : DS ns s) (h0 : τ[i]? = some (some (.ref 1))) (he : fe τ s = .ok (.int (m : Nat)) s) (m0 : 0 < m) (m1 : m < 2 ^ 60) :
    ∃ (v : Nat) (t : Store), eCall 2 f__law_draw (aCons (eVar i) (aCons fe aNil)) τ s = .ok (.int (v : Nat)) t ∧ v < m ∧ DS ns t ∧ Fr s t := by
  obtain ⟨v, t, e, hv, D1, F1⟩ := r_drawN H m0 m1
  exact ⟨v, t, by rw [call2 (eVar_e h0) he]; exact e, hv, D1, F1⟩
theorem e_frac {m n : Nat} (H : DS ns s) (h0 : τ[i]? = some (some (.ref 1))) (hm : 0 < m ∧ m ≤ 10) (hn : 0 < n ∧ n ≤ 10) :
    W (eCall 2 f__law_f (aCons (eBin oAdd (eC (.int 1)) (eCall 2 f__law_draw (aCons (eVar i) (aCons (eC (.int (m : Nat))) aNil)))) (aCons (eBin oAdd (eC (.int 1)) (eCall 2 f__law_draw (aCons (eVar i) (aCons (eC (.int (n : Nat))) aNil)))) aNil)) τ s) fun d t => ∃ p q : Nat, (1 ≤ p ∧ p ≤ m) ∧ (1 ≤ q ∧ q ≤ n) ∧ d = qd (Rat.divInt (p : Nat) (q : Nat)) ∧ DS ns t ∧ Fr s t := by
  obtain ⟨v, t1, e1, hv, D1, F1⟩ := e_draw (fe := eC (.int (m : Nat))) H h0 rfl hm.1 (by omega)
  obtain ⟨u, t2, e2, hu, D2, F2⟩ := e_draw (fe := eC (.int (n : Nat))) D1 h0 rfl hn.1 (by omega)
  have a1 : eBin oAdd (eC (.int 1)) (eCall 2 f__law_draw (aCons (eVar i) (aCons (eC (.int (m : Nat))) aNil))) τ s = .ok (.int ((v + 1 : Nat) : Int)) t1 := by
    rw [eBin_e, eC_e, ER.bind_ok, e1, ER.bind_ok, show ((v + 1 : Nat) : Int) = 1 + (v : Int) by omega]
    simp
  have a2 : eBin oAdd (eC (.int 1)) (eCall 2 f__law_draw (aCons (eVar i) (aCons (eC (.int (n : Nat))) aNil))) τ t1 = .ok (.int ((u + 1 : Nat) : Int)) t2 := by
    rw [eBin_e, eC_e, ER.bind_ok, e2, ER.bind_ok, show ((u + 1 : Nat) : Int) = 1 + (u : Int) by omega]
    simp
  rw [call2 a1 a2]
  exact W.of (r_fQ (k := 20) (by omega) (by rw [Int.natAbs_natCast]; omega) (by decide)) ⟨v + 1, u + 1, ⟨by omega, by omega⟩, ⟨by omega, by omega⟩, rfl, D2, F1.trans F2⟩
theorem w_up (H : DS ns s) : W (f__law_up [.ref 1] s) fun d t => ∃ z, d = qd z ∧ Rp 12 60 z ∧ 0 < z ∧ DS ns t ∧ Fr s t := by
  unfold f__law_up
  rw [runB_e]
  unfold m__law_up
  rw [W_fin]
  have n1 : ent 1 [.ref 1] = [some (.ref 1)] := rfl
  rw [n1]
  refine ws_ret ((e_frac (m := 5) (n := 4) H rfl (by decide) (by decide)).mono fun d t hp => ?_)
  obtain ⟨p, q, hp, hq, rfl, D1, F1⟩ := hp
  exact ⟨_, rfl, rp12 hq (by rw [Int.natAbs_natCast]; exact hp.2), div_pos hp.1 hq.1, D1, F1⟩
theorem e_up (H : DS ns s) (h0 : τ[0]? = some (some (.ref 1))) : W (eCall 1 f__law_up (aCons (eVar 0) aNil) τ s) fun d t => ∃ z, d = qd z ∧ Rp 12 60 z ∧ 0 < z ∧ DS ns t ∧ Fr s t := by
  rw [call1 (eVar_e h0)]
  exact w_up H
theorem e_zero {t : Store} : eTup (aCons (eC (.int 0)) (aCons (eC (.int 1)) aNil)) τ t = .ok (qd 0) t := by
  rw [eTup_e, aCons_e, eC_e, ER.bind_ok, aCons_e, eC_e, ER.bind_ok, aNil_e, ER.bind_ok, ER.bind_ok]
  rfl
theorem q60 {z : Rat} (h : Rp 12 60 z) : QB 1000 z := h.qb (by decide) (by decide) (by decide)
theorem q0 : QB 1000 0 := Rp.qb (D := 1) (N := 1) Rp.zero (by decide) (by decide) (by decide)
theorem e_down (H : DS ns s) (h0 : τ[0]? = some (some (.ref 1))) : W (eCall 2 f__law_minus (aCons (eTup (aCons (eC (.int 0)) (aCons (eC (.int 1)) aNil))) (aCons (eCall 1 f__law_up (aCons (eVar 0) aNil)) aNil)) τ s) fun d t => ∃ z, d = qd z ∧ Rp 12 60 z ∧ DS ns t ∧ Fr s t := by
  obtain ⟨_, t, e, z, rfl, hz, z0, D1, F1⟩ := (e_up H h0).ex
  rw [call2 e_zero e]
  refine W.of (r_lminusQ q0 (q60 hz) (by decide)) ⟨_, rfl, ?_, D1, F1⟩
  have := (Rp.zero (D := 12) (N := 0)).sub hz
  exact this.le (by decide)
theorem w_step (H : DS ns s) : W (f__law_step [.ref 1] s) fun d t => ∃ z, d = qd z ∧ Rp 12 60 z ∧ DS ns t ∧ Fr s t := by
  unfold f__law_step
  rw [runB_e]
  unfold m__law_step
  rw [W_fin]
  have n1 : ent 1 [.ref 1] = [some (.ref 1)] := rfl
  rw [n1]
  obtain ⟨v, t, e, hv, D1, F1⟩ := e_draw (τ := [some (.ref 1)]) (i := 0) (m := 2) (fe := eC (.int 2)) H rfl rfl (by decide) (by decide)
  refine ws_cons (N' := fun τ u => τ = [some (.ref 1)] ∧ u = t) (ws_ifd (fun b u => u = t) (W.of (a := decide ((v : Int) = 1)) (s := t) (by rw [tBl_e, eBin_e, e, ER.bind_ok, eC_e, ER.bind_ok]; simp) rfl) (fun u hu => ?_) fun u hu => ?_) fun τ u hp => ?_
  · rw [hu]
    refine ws_ret ((e_up D1 rfl).mono fun d t' hp => ?_)
    obtain ⟨z, rfl, hz, _, D2, F2⟩ := hp
    exact ⟨z, rfl, hz, D2, F1.trans F2⟩
  · rw [sNil_e, WS_nx]
    exact ⟨rfl, hu⟩
  · obtain ⟨rfl, hu⟩ := hp
    rw [hu]
    refine ws_ret ((e_down D1 rfl).mono fun d t' hp => ?_)
    obtain ⟨z, rfl, hz, D2, F2⟩ := hp
    exact ⟨z, rfl, hz, D2, F1.trans F2⟩
theorem w_signed (H : DS ns s) : W (f__law_signed [.ref 1] s) fun d t => ∃ z, d = qd z ∧ Rp 12 108 z ∧ DS ns t ∧ Fr s t := by
  unfold f__law_signed
  rw [runB_e]
  unfold m__law_signed
  rw [W_fin]
  have n1 : ent 1 [.ref 1] = [some (.ref 1)] := rfl
  rw [n1]
  obtain ⟨v, t, e, hv, D1, F1⟩ := e_draw (τ := [some (.ref 1)]) (i := 0) (m := 7) (fe := eC (.int 7)) H rfl rfl (by decide) (by decide)
  refine ws_cons (N' := fun τ u => τ = [some (.ref 1)] ∧ u = t) (ws_ifd (fun b u => u = t) (W.of (a := decide ((v : Int) = 3)) (s := t) (by rw [tBl_e, eBin_e, e, ER.bind_ok, eC_e, ER.bind_ok]; simp) rfl) (fun u hu => ?_) fun u hu => ?_) fun τ u hp => ?_
  · rw [hu]
    exact ws_ret (W.of e_zero ⟨0, rfl, Rp.zero, D1, F1⟩)
  · rw [sNil_e, WS_nx]
    exact ⟨rfl, hu⟩
  · obtain ⟨rfl, hu⟩ := hp
    rw [hu]
    obtain ⟨x, t1, e1, hx, D2, F2⟩ := e_draw (τ := [some (.ref 1)]) (i := 0) (m := 19) (fe := eC (.int 19)) D1 rfl rfl (by decide) (by decide)
    obtain ⟨y, t2, e2, hy, D3, F3⟩ := e_draw (τ := [some (.ref 1)]) (i := 0) (m := 4) (fe := eC (.int 4)) D2 rfl rfl (by decide) (by decide)
    have a1 : eBin oSub (eCall 2 f__law_draw (aCons (eVar 0) (aCons (eC (.int 19)) aNil))) (eC (.int 9)) [some (.ref 1)] t = .ok (.int ((x : Int) - 9)) t1 := by
      rw [eBin_e, e1, ER.bind_ok, eC_e, ER.bind_ok]
      simp
    have a2 : eBin oAdd (eC (.int 1)) (eCall 2 f__law_draw (aCons (eVar 0) (aCons (eC (.int 4)) aNil))) [some (.ref 1)] t1 = .ok (.int ((y + 1 : Nat) : Int)) t2 := by
      rw [eBin_e, eC_e, ER.bind_ok, e2, ER.bind_ok, show ((y + 1 : Nat) : Int) = 1 + (y : Int) by omega]
      simp
    refine ws_ret ?_
    rw [call2 a1 a2]
    exact W.of (r_fQ (k := 20) (by omega) (by rw [Int.natAbs_natCast]; omega) (by decide)) ⟨_, rfl, rp12 (m := 9) ⟨by omega, by omega⟩ (by omega), D3, (F1.trans F2).trans F3⟩
/-- drawn loads -/
structure Ld (z : Rat) : Prop where
  p : 0 < z
  r : Rp 12 72 z
  i : Rp 60 240 z⁻¹
theorem Ld.of {p q : Nat} (hp : 1 ≤ p ∧ p ≤ 6) (hq : 1 ≤ q ∧ q ≤ 4) : Ld (Rat.divInt (p : Nat) (q : Nat)) := by
  refine ⟨div_pos hp.1 hq.1, rp12 (m := 6) hq (by rw [Int.natAbs_natCast]; exact hp.2), ?_⟩
  rw [Rat.inv_divInt]
  refine .divInt (by omega) (dv60 p (by omega) hp.1) ?_
  rw [Int.natAbs_natCast]
  exact Nat.mul_le_mul hq.2 (Nat.div_le_self 60 _)
theorem Ld.one : Ld 1 := by
  have := Ld.of (p := 1) (q := 1) (by decide) (by decide)
  have e : Rat.divInt ((1 : Nat) : Int) ((1 : Nat) : Int) = 1 := rfl
  rwa [e] at this
/-- as many as drawn, one after the other -/
theorem w_tup {n b j : Nat} {fe : EM D} {P : Rat → Prop} (H : DS ns s) (hj : τ[j]? = some (some (.int (n : Nat)))) (hn : n ≤ 1000)
    (hs : ∀ k : Nat, ∃ τ1, gN b (.int (k : Nat)) (wipeD τ [b]) = some τ1 ∧ ∀ t, DS ns t → W (fe τ1 t) fun d u => ∃ z, d = qd z ∧ P z ∧ DS ns u ∧ Fr t u) :
    W (eCS gTuple (lComp [b] (iRg1 (eVar j)) (gN b) tYes fe) τ s) fun d t => ∃ zs : List Rat, d = .tup (zs.map qd) ∧ zs.length = n ∧ (∀ z ∈ zs, P z) ∧ DS ns t ∧ Fr s t := by
  rw [eCS_e, W_bind, lComp_e, W_bind, iRg1_e, eVar_e hj]
  refine W.of (rg1_int (by omega)) ?_
  refine w_lc (by show (rng 0 (n : Nat)).length ≤ _; rw [rng_len]; omega) ?_
  refine w_rng (n := n) (fun i acc t => ∃ zs : List Rat, acc = zs.map qd ∧ zs.length = i ∧ (∀ z ∈ zs, P z) ∧ DS ns t ∧ Fr s t) (fun _ _ _ _ => rfl) ⟨[], rfl, rfl, by simp, H, .refl⟩ (fun i acc t hi hp => ?_) fun acc t hp => ?_
  · obtain ⟨zs, rfl, hl, hP, D1, F1⟩ := hp
    obtain ⟨τ1, e1, hw⟩ := hs i
    refine ⟨τ1, e1, ?_⟩
    rw [tYes_e, W_ok, if_pos rfl]
    refine (hw t D1).mono fun d u ⟨z, hd, hz, D2, F2⟩ => ?_
    refine ⟨zs ++ [z], by rw [hd, List.map_append]; rfl, by rw [List.length_append, hl]; rfl, fun y hy => ?_, D2, F1.trans F2⟩
    rcases List.mem_append.mp hy with q | q
    · exact hP y q
    · rw [List.mem_singleton.mp q]
      exact hz
  · obtain ⟨zs, rfl, hl, hP, D1, F1⟩ := hp
    rw [gTuple_e, W_ok]
    exact ⟨zs, rfl, hl, hP, D1, F1⟩
theorem w_loads {n : Nat} (H : DS ns s) (hn : n ≤ 20) : W (f__law_loads [.ref 1, .int (n : Nat)] s) fun d t => ∃ w : List Rat, d = .tup (w.map qd) ∧ w.length = n ∧ (∀ z ∈ w, Ld z) ∧ DS ns t ∧ Fr s t := by
  unfold f__law_loads
  rw [runB_e]
  unfold m__law_loads
  rw [W_fin]
  have n3 : ent 3 [.ref 1, .int (n : Nat)] = [some (.ref 1), some (.int (n : Nat)), none] := rfl
  rw [n3]
  obtain ⟨v, t, e, hv, D1, F1⟩ := e_draw (τ := [some (.ref 1), some (.int (n : Nat)), none]) (i := 0) (m := 4) (fe := eC (.int 4)) H rfl rfl (by decide) (by decide)
  refine ws_cons (N' := fun τ u => τ = [some (.ref 1), some (.int (n : Nat)), none] ∧ u = t) (ws_ifd (fun b u => u = t) (W.of (a := decide ((v : Int) = 1)) (s := t) (by rw [tBl_e, eBin_e, e, ER.bind_ok, eC_e, ER.bind_ok]; simp) rfl) (fun u hu => ?_) fun u hu => ?_) fun τ u hp => ?_
  · rw [hu]
    refine ws_ret ((w_tup (P := Ld) D1 rfl (by omega) fun k => ⟨_, rfl, fun t D1 => W.of (a := qd 1) (s := t) (by rw [eTup_e, aCons_e, eC_e, ER.bind_ok, aCons_e, eC_e, ER.bind_ok, aNil_e, ER.bind_ok, ER.bind_ok]; rfl) ⟨1, rfl, .one, D1, .refl⟩⟩).mono fun d u hp => ?_)
    obtain ⟨w, rfl, h1, h2, D2, F2⟩ := hp
    exact ⟨w, rfl, h1, h2, D2, F1.trans F2⟩
  · rw [sNil_e, WS_nx]
    exact ⟨rfl, hu⟩
  · obtain ⟨rfl, hu⟩ := hp
    rw [hu]
    refine ws_ret ((w_tup (P := Ld) D1 rfl (by omega) fun k => ⟨_, rfl, fun t D1 => (e_frac (m := 6) (n := 4) D1 rfl (by decide) (by decide)).mono fun d u hp => ?_⟩).mono fun d u hp => ?_)
    · obtain ⟨p, q, hp, hq, rfl, D2, F2⟩ := hp
      exact ⟨_, rfl, .of hp hq, D2, F2⟩
    · obtain ⟨w, rfl, h1, h2, D2, F2⟩ := hp
      exact ⟨w, rfl, h1, h2, D2, F1.trans F2⟩
end

/-! k65: drawn stairs, what is led -/
theorem fn_app {l r : List Rat} {j : Nat} (h : j < l.length) : fnR (l ++ r) j = fnR l j := by
  unfold fnR
  rw [List.getD_eq_getElem?_getD, List.getD_eq_getElem?_getD, List.getElem?_append_left h]
theorem fn_last {l : List Rat} {z : Rat} : fnR (l ++ [z]) l.length = z := by
  unfold fnR
  rw [List.getD_eq_getElem?_getD, List.getElem?_append_right (Nat.le_refl _), Nat.sub_self]
  rfl
theorem fn_lastE {l : List Rat} {z : Rat} {k : Nat} (h : k = l.length) : fnR (l ++ [z]) k = z := by rw [h, fn_last]
section
variable {ns : List Int} {s : Store} {τ : Sl}
theorem e_m1 {i r : Nat} {xs : List Rat} {y : Rat} (h : τ[i]? = some (some (.ref r))) (g : lstAt s r = some ((xs ++ [y]).map qd)) : eBin oIx (eVar i) (eUn oNeg (eC (.int 1))) τ s = .ok (qd y) s := by
  rw [eBin_e, eVar_e h, ER.bind_ok]
  show oIx (.ref r) (.int (-1)) s = _
  rw [oIx_ref g, List.map_append]
  show ofO s (atI (xs.map qd ++ [qd y]) (-1)) = _
  rw [atI_1]
  rfl
theorem q2048 {z : Rat} (h : Rp 12 2048 z) : QB 1000 z := h.qb (by decide) (by decide) (by decide)
theorem w_stairs {n : Nat} {bad : Int} (H : DS ns s) (h1 : 1 ≤ n) (hn : n ≤ 20) : W (f__law_stairs [.ref 1, .int (n : Nat), .int bad] s) fun d t => ∃ x : List Rat, d = .tup (x.map qd) ∧ x.length = n ∧ (∀ z ∈ x, Rp 12 2048 z) ∧ (bad = -1 → Up n (fnR x)) ∧ DS ns t ∧ Fr s t := by
  have two := H.len
  unfold f__law_stairs
  rw [runB_e]
  unfold m__law_stairs
  rw [W_fin]
  have n6 : ent 6 [.ref 1, .int (n : Nat), .int bad] = [some (.ref 1), some (.int (n : Nat)), some (.int bad), none, none, none] := rfl
  rw [n6]
  obtain ⟨r, hr⟩ : ∃ r : Nat → Prop, r = fun r => s.length ≤ r := ⟨_, rfl⟩
  obtain ⟨J, hJ⟩ : ∃ J : Nat → Sl → Store → Prop, J = fun i τ t => ∃ (r : Nat) (xs : List Rat) (y : Rat) (c d : Option D), τ = [some (.ref 1), some (.int (n : Nat)), some (.int bad), some (.ref r), c, d] ∧ s.length ≤ r ∧ lstAt t r = some ((xs ++ [y]).map qd) ∧ xs.length = i ∧ (∀ z ∈ xs ++ [y], Rp 12 (108 + 60 * i) z) ∧ (bad = -1 → Up (i + 1) (fnR (xs ++ [y]))) ∧ DS ns t ∧ Fr s t := ⟨_, rfl⟩
  refine ws_cons (N' := J 0) ?_ fun τ t hp => ?_
  · refine ws_set ?_
    obtain ⟨_, t, e, z, rfl, hz, D1, F1⟩ := (w_signed H).ex
    have es : eCall 1 f__law_signed (aCons (eVar 0) aNil) [some (.ref 1), some (.int (n : Nat)), some (.int bad), none, none, none] s = .ok (qd z) t := by
      rw [call1 (eVar_e rfl)]
      exact e
    generalize eCall 1 f__law_signed (aCons (eVar 0) aNil) = fe at es ⊢
    obtain ⟨Z, hZ⟩ : ∃ Z, Z = qd z := ⟨_, rfl⟩
    rw [← hZ] at es
    refine W.of (a := .ref t.length) (s := t ++ [.lst [Z]]) (by simp [es]) ?_
    rw [hJ, hZ]
    exact ⟨t.length, [], z, _, _, rfl, F1.len, lstAt_new, rfl, fun y hy => by rw [List.mem_singleton.mp hy]; exact hz, fun _ k hk => by omega, D1.app, F1.trans .app⟩
  refine ws_cons (N' := J (n - 1)) ?_ fun τ t hp => ?_
  · rw [hJ] at hp
    obtain ⟨r, xs, y, c, d, rfl, rest⟩ := hp
    refine ws_forD (fun q u => q = .fix (rng 1 (n : Nat)) ∧ u = t) (W.of (by rw [iRg2_e, eC_e, ER.bind_ok, eVar_e rfl, ER.bind_ok]; exact rg2_int (by decide) (by omega)) ⟨rfl, rfl⟩) ?_
    rintro _ u ⟨rfl, hu⟩
    rw [hu]
    refine ws_map (fun k : Nat => D.int ((k + 1 : Nat) : Int)) (List.range (n - 1)) (rng_one n) J (fun _ _ _ _ => rfl) (by rw [hJ]; exact ⟨r, xs, y, c, d, rfl, rest⟩) (fun i k τ u hi hp => ?_) fun τ u hp => by rw [List.length_range] at hp; exact hp
    have hin : i < n - 1 := by
      have := (List.getElem?_eq_some_iff.mp hi).1
      rwa [List.length_range] at this
    have ek : k = i := by
      have := (List.getElem?_eq_some_iff.mp hi).2
      rw [List.getElem_range] at this
      exact this.symm
    rw [ek]
    clear rest
    rw [hJ] at hp
    obtain ⟨r, xs, y, c, d, rfl, lr, g, lx, hx, hu, D1, F1⟩ := hp
    refine ⟨[some (.ref 1), some (.int (n : Nat)), some (.int bad), some (.ref r), some (.int ((i + 1 : Nat) : Int)), d], rfl, ?_⟩
    refine ws_cons (N' := fun τ t => ∃ z, τ = [some (.ref 1), some (.int (n : Nat)), some (.int bad), some (.ref r), some (.int ((i + 1 : Nat) : Int)), some (qd z)] ∧ 0 ≤ z ∧ Rp 12 60 z ∧ DS ns t ∧ Fr u t) ?_ fun τ t hp => ?_
    · refine ws_set ?_
      obtain ⟨v, t, e, hv, D2, F2⟩ := e_draw (τ := [some (.ref 1), some (.int (n : Nat)), some (.int bad), some (.ref r), some (.int ((i + 1 : Nat) : Int)), d]) (i := 0) (m := 2) (fe := eC (.int 2)) D1 rfl rfl (by decide) (by decide)
      have et : tBl (eBin oEq (eCall 2 f__law_draw (aCons (eVar 0) (aCons (eC (.int 2)) aNil))) (eC (.int 1))) [some (.ref 1), some (.int (n : Nat)), some (.int bad), some (.ref r), some (.int ((i + 1 : Nat) : Int)), d] u = .ok (decide ((v : Int) = 1)) t := by
        rw [tBl_e, eBin_e, e, ER.bind_ok, eC_e, ER.bind_ok]
        simp
      rw [eIf_e, et, ER.bind_ok]
      by_cases c : (v : Int) = 1
      · rw [decide_eq_true c, if_pos rfl]
        refine (e_up D2 rfl).mono fun d t' hp => ?_
        obtain ⟨z, rfl, hz, z0, D3, F3⟩ := hp
        exact ⟨z, rfl, Rat.le_of_lt z0, hz, D3, F2.trans F3⟩
      · rw [decide_eq_false c, if_neg (by decide)]
        exact W.of e_zero ⟨0, rfl, Rat.le_refl, Rp.zero, D2, F2⟩
    obtain ⟨z, rfl, z0, hz, D2, F2⟩ := hp
    refine ws_cons (N' := fun τ t => ∃ z, τ = [some (.ref 1), some (.int (n : Nat)), some (.int bad), some (.ref r), some (.int ((i + 1 : Nat) : Int)), some (qd z)] ∧ (bad = -1 → 0 ≤ z) ∧ Rp 12 60 z ∧ DS ns t ∧ Fr u t) ?_ fun τ t hp => ?_
    · have et : tBl (eBin oEq (eVar 4) (eVar 2)) [some (.ref 1), some (.int (n : Nat)), some (.int bad), some (.ref r), some (.int ((i + 1 : Nat) : Int)), some (qd z)] t = .ok (decide (((i + 1 : Nat) : Int) = bad)) t := by
        rw [tBl_e, eBin_e, eVar_e rfl, ER.bind_ok, eVar_e rfl, ER.bind_ok]
        simp
      by_cases c : ((i + 1 : Nat) : Int) = bad
      · rw [decide_eq_true c] at et
        refine ws_if1 et (ws_set ((e_down D2 rfl).mono fun d t' hp => ?_))
        obtain ⟨z', rfl, hz', D3, F3⟩ := hp
        exact ⟨z', rfl, fun h => by omega, hz', D3, F2.trans F3⟩
      · rw [decide_eq_false c] at et
        exact ws_if0n et ⟨z, rfl, fun _ => z0, hz, D2, F2⟩
    clear D2 F2 z0 hz
    obtain ⟨z, rfl, z0, hz, D2, F2⟩ := hp
    have g2 := F2.lst g (by omega)
    have hy := hx y (List.mem_append_right _ (List.mem_singleton.mpr rfl))
    have qy : QB 1000 y := q2048 (hy.le (by omega))
    refine ws_app (m := r) rfl g2 ?_
    rw [call2 (e_m1 rfl g2) (eVar_e rfl)]
    refine W.of (r_lplusQ qy (q60 hz) (by decide)) ⟨_, g2, by rw [List.length_map, List.length_append, lx]; show i + 1 < _; omega, ?_⟩
    rw [hJ]
    refine ⟨r, xs ++ [y], y + z, _, _, rfl, lr, ?_, by rw [List.length_append, lx]; rfl, fun q hq => ?_, fun hb j hj => ?_, D2.put2 (by omega) (by omega), (F1.trans F2).put2 lr⟩
    · rw [lstAt_set g2, List.map_append (l₁ := xs ++ [y])]
      rfl
    · rcases List.mem_append.mp hq with q1 | q1
      · exact (hx q q1).le (by omega)
      · rw [List.mem_singleton.mp q1]
        exact (hy.add hz).le (by omega)
    · have ll : (xs ++ [y]).length = i + 1 := by rw [List.length_append, lx]; rfl
      by_cases c : j + 1 < i + 1
      · have e1 : fnR (xs ++ [y] ++ [y + z]) j = fnR (xs ++ [y]) j := fn_app (by omega)
        have e2 : fnR (xs ++ [y] ++ [y + z]) (j + 1) = fnR (xs ++ [y]) (j + 1) := fn_app (by omega)
        rw [e1, e2]
        exact hu hb j c
      · have e1 : fnR (xs ++ [y] ++ [y + z]) j = fnR (xs ++ [y]) j := fn_app (by omega)
        rw [e1, fn_lastE (k := j + 1) (by omega), fn_lastE (l := xs) (by omega)]
        have := z0 hb
        grind
  · rw [hJ] at hp
    obtain ⟨r, xs, y, c, d, rfl, lr, g, lx, hx, hu, D1, F1⟩ := hp
    obtain ⟨L, hL⟩ : ∃ L, L = (xs ++ [y]).map qd := ⟨_, rfl⟩
    refine ws_ret (W.of (a := .tup ((xs ++ [y]).map qd)) (s := t) ?_ ⟨xs ++ [y], rfl, by rw [List.length_append, lx]; show n - 1 + 1 = n; omega, fun z hz => (hx z hz).le (by omega), fun hb => by have := hu hb; rwa [show n - 1 + 1 = n by omega] at this, D1, F1⟩)
    rw [eCB_e, aCons_e, eVar_e rfl]
    exact fTuple_ref g
/-- what is led, if nothing is bad -/
def LedOk (n : Nat) (x l : List Rat) (i : Nat) : Prop := ∀ j, j < i → 0 ≤ fnR l j ∧ (fnR l j ≠ 0 → flB n (fnR x) j = true)
theorem w_led {n : Nat} {x : List Rat} {bad : Int} (H : DS ns s) (lx : x.length = n) (hn : n ≤ 20) : W (f__law_led [.ref 1, .tup (x.map qd), .int bad] s) fun d t => ∃ r l, d = .ref r ∧ s.length ≤ r ∧ lstAt t r = some (l.map qd) ∧ l.length = n ∧ (∀ z ∈ l, Rp 12 60 z) ∧ (bad = -1 → LedOk n x l n) ∧ DS ns t ∧ Fr s t := by
  have two := H.len
  have rb := fun k (hk : k < n) t => r_lflat (st := t) (k := k) lx hk
  obtain ⟨X, hX⟩ : ∃ X, X = D.tup (x.map qd) := ⟨_, rfl⟩
  have lX : ∀ t, fLen [X] t = .ok (.int (n : Nat)) t := fun t => by rw [hX, fLen_tup, List.length_map, lx]
  rw [← hX] at rb ⊢
  unfold f__law_led
  rw [runB_e]
  unfold m__law_led
  rw [W_fin]
  have n6 : ent 6 [.ref 1, X, .int bad] = [some (.ref 1), some X, some (.int bad), none, none, none] := rfl
  rw [n6]
  obtain ⟨r, hr⟩ : ∃ r, r = s.length := ⟨_, rfl⟩
  obtain ⟨J, hJ⟩ : ∃ J : Nat → Sl → Store → Prop, J = fun i τ t => ∃ (l : List Rat) (c d : Option D), τ = [some (.ref 1), some X, some (.int bad), some (.ref r), c, d] ∧ lstAt t r = some (l.map qd) ∧ l.length = i ∧ (∀ z ∈ l, Rp 12 60 z) ∧ (bad = -1 → LedOk n x l i) ∧ DS ns t ∧ Fr s t := ⟨_, rfl⟩
  refine ws_cons (N' := J 0) ?_ fun τ t hp => ?_
  · refine ws_set (W.of (a := .ref r) (s := s ++ [.lst []]) (by rw [hr]; simp) ?_)
    rw [hJ]
    exact ⟨[], _, _, rfl, by rw [hr]; exact lstAt_new, rfl, nofun, fun _ j hj => absurd hj (Nat.not_lt_zero _), H.app, .app⟩
  refine ws_cons (N' := J n) ?_ fun τ t hp => ?_
  · have hp0 := hp
    rw [hJ] at hp
    obtain ⟨l, c, d, rfl, _⟩ := hp
    refine ws_forD (fun q u => q = .fix (rng 0 (n : Nat)) ∧ u = t) (W.of ?_ ⟨rfl, rfl⟩) ?_
    · rw [iRg1_e, eCB_e, aCons_e, eVar_e rfl]
      show ((fLen [X] t).bind _) = _
      rw [lX, ER.bind_ok]
      exact rg1_int (by omega)
    rintro _ u ⟨rfl, hu⟩
    rw [hu]
    refine ws_rng (n := n) J (fun _ _ _ _ => rfl) hp0 (fun k τ u hk hp => ?_) fun τ u hp => hp
    clear hp0
    rw [hJ] at hp
    obtain ⟨l, c, d, rfl, g, ll, hl, ok, D1, F1⟩ := hp
    refine ⟨[some (.ref 1), some X, some (.int bad), some (.ref r), some (.int (k : Nat)), d], rfl, ?_⟩
    have fl : ∀ {z : Option D} t, eCall 2 f__law_is_flat (aCons (eVar 1) (aCons (eVar 4) aNil)) [some (.ref 1), some X, some (.int bad), some (.ref r), some (.int (k : Nat)), z] t = .ok (.bl (flB n (fnR x) k)) t := fun t => by
      rw [call2 (eVar_e rfl) (eVar_e rfl)]
      exact rb k hk t
    refine ws_cons (N' := fun τ t => τ = [some (.ref 1), some X, some (.int bad), some (.ref r), some (.int (k : Nat)), some (qd 0)] ∧ t = u) (ws_set (W.of e_zero ⟨rfl, rfl⟩)) fun τ t hp => ?_
    obtain ⟨rfl, ht⟩ := hp
    rw [ht]
    clear ht t
    refine ws_cons (N' := fun τ t => ∃ z, τ = [some (.ref 1), some X, some (.int bad), some (.ref r), some (.int (k : Nat)), some (qd z)] ∧ 0 ≤ z ∧ (z ≠ 0 → flB n (fnR x) k = true) ∧ Rp 12 60 z ∧ DS ns t ∧ Fr u t) ?_ fun τ t hp => ?_
    · cases hf : flB n (fnR x) k with
      | false =>
        refine ws_if0n ?_ ⟨0, rfl, Rat.le_refl, fun h => absurd rfl h, Rp.zero, D1, .refl⟩
        rw [tAnd_e, tVal_e, fl u, hf]
        rfl
      | true =>
        obtain ⟨v, t, e, hv, D2, F2⟩ := e_draw (τ := [some (.ref 1), some X, some (.int bad), some (.ref r), some (.int (k : Nat)), some (qd 0)]) (i := 0) (m := 3) (fe := eC (.int 3)) D1 rfl rfl (by decide) (by decide)
        have et : tAnd (tVal (eCall 2 f__law_is_flat (aCons (eVar 1) (aCons (eVar 4) aNil)))) (tBl (eBin oGt (eCall 2 f__law_draw (aCons (eVar 0) (aCons (eC (.int 3)) aNil))) (eC (.int 0)))) [some (.ref 1), some X, some (.int bad), some (.ref r), some (.int (k : Nat)), some (qd 0)] u = .ok (decide ((0 : Int) < v)) t := by
          rw [tAnd_e, tVal_e, fl u, hf]
          show tBl (eBin oGt (eCall 2 f__law_draw (aCons (eVar 0) (aCons (eC (.int 3)) aNil))) (eC (.int 0))) [some (.ref 1), some X, some (.int bad), some (.ref r), some (.int (k : Nat)), some (qd 0)] u = _
          rw [tBl_e, eBin_e, e, ER.bind_ok, eC_e, ER.bind_ok]
          simp
        refine ws_ifd (fun b t' => t' = t) (W.of et rfl) (fun t' ht => ?_) fun t' ht => ?_
        · rw [ht]
          refine ws_set ((e_up D2 rfl).mono fun d t' hp => ?_)
          obtain ⟨z, rfl, hz, z0, D3, F3⟩ := hp
          exact ⟨z, rfl, Rat.le_of_lt z0, fun _ => rfl, hz, D3, F2.trans F3⟩
        · rw [ht, sNil_e, WS_nx]
          exact ⟨0, rfl, Rat.le_refl, fun h => absurd rfl h, Rp.zero, D2, F2⟩
    obtain ⟨z, rfl, z0, zf, hz, D2, F2⟩ := hp
    refine ws_cons (N' := fun τ t => ∃ z, τ = [some (.ref 1), some X, some (.int bad), some (.ref r), some (.int (k : Nat)), some (qd z)] ∧ (bad = -1 → 0 ≤ z ∧ (z ≠ 0 → flB n (fnR x) k = true)) ∧ Rp 12 60 z ∧ DS ns t ∧ Fr u t) ?_ fun τ t hp => ?_
    · have et : ∀ t, tBl (eBin oEq (eVar 4) (eVar 2)) [some (.ref 1), some X, some (.int bad), some (.ref r), some (.int (k : Nat)), some (qd z)] t = .ok (decide ((k : Int) = bad)) t := fun t => by
        rw [tBl_e, eBin_e, eVar_e rfl, ER.bind_ok, eVar_e rfl, ER.bind_ok]
        simp
      by_cases c : (k : Int) = bad
      · have et2 : tAnd (tBl (eBin oEq (eVar 4) (eVar 2))) (tVal (eCall 2 f__law_is_flat (aCons (eVar 1) (aCons (eVar 4) aNil)))) [some (.ref 1), some X, some (.int bad), some (.ref r), some (.int (k : Nat)), some (qd z)] t = .ok (flB n (fnR x) k) t := by
          rw [tAnd_e, et, decide_eq_true c]
          show tVal (eCall 2 f__law_is_flat (aCons (eVar 1) (aCons (eVar 4) aNil))) [some (.ref 1), some X, some (.int bad), some (.ref r), some (.int (k : Nat)), some (qd z)] t = _
          rw [tVal_e, fl t]
          rfl
        have bn : ¬ bad = -1 := by omega
        have st := et t
        rw [decide_eq_true c] at st
        cases hf : flB n (fnR x) k with
        | true =>
          rw [hf] at et2
          refine ws_if1 et2 (ws_set ((e_down D2 rfl).mono fun d t' hp => ?_))
          obtain ⟨z', rfl, hz', D3, F3⟩ := hp
          exact ⟨z', rfl, fun h => absurd h bn, hz', D3, F2.trans F3⟩
        | false =>
          rw [hf] at et2
          refine ws_if0 et2 (ws_if1 st (ws_set ?_))
          have ei : tBl (eBin oLt (eBin oAdd (eVar 4) (eC (.int 1))) (eCB fLen (aCons (eVar 1) aNil))) [some (.ref 1), some X, some (.int bad), some (.ref r), some (.int (k : Nat)), some (qd z)] t = .ok (decide (((k + 1 : Nat) : Int) < (n : Int))) t := by
            rw [tBl_e, eBin_e, e_succ (eVar_e rfl), ER.bind_ok, eCB_e, aCons_e, eVar_e rfl]
            show (((fLen [X] t).bind _).bind _) = _
            rw [lX, ER.bind_ok]
            simp
          rw [eIf_e, ei, ER.bind_ok]
          by_cases q : ((k + 1 : Nat) : Int) < (n : Int)
          · rw [decide_eq_true q, if_pos rfl]
            refine (e_up D2 rfl).mono fun d t' hp => ?_
            obtain ⟨z', rfl, hz', _, D3, F3⟩ := hp
            exact ⟨z', rfl, fun h => absurd h bn, hz', D3, F2.trans F3⟩
          · rw [decide_eq_false q, if_neg (by decide), call1 (eVar_e rfl)]
            refine (w_step D2).mono fun d t' hp => ?_
            obtain ⟨z', rfl, hz', D3, F3⟩ := hp
            exact ⟨z', rfl, fun h => absurd h bn, hz', D3, F2.trans F3⟩
      · have st := et t
        rw [decide_eq_false c] at st
        refine ws_if0 (by rw [tAnd_e, st]; rfl) (ws_if0n st ⟨z, rfl, fun _ => ⟨z0, zf⟩, hz, D2, F2⟩)
    clear D2 F2 z0 zf hz
    obtain ⟨z, rfl, zo, hz, D2, F2⟩ := hp
    have g2 := F2.lst g (by omega)
    refine ws_app (m := r) rfl g2 (W.of (eVar_e rfl) ⟨_, g2, by rw [List.length_map, ll]; omega, ?_⟩)
    rw [hJ]
    refine ⟨l ++ [z], _, _, rfl, by rw [lstAt_set g2, List.map_append]; rfl, by rw [List.length_append, ll]; rfl, fun q hq => ?_, fun hb j hj => ?_, D2.put2 (by omega) (by omega), (F1.trans F2).put2 (by omega)⟩
    · rcases List.mem_append.mp hq with q1 | q1
      · exact hl q q1
      · rw [List.mem_singleton.mp q1]
        exact hz
    · by_cases c : j < k
      · rw [fn_app (by omega)]
        exact ok hb j c
      · rw [fn_lastE (by omega), show j = k by omega]
        exact zo hb
  · rw [hJ] at hp
    obtain ⟨l, c, d, rfl, g, ll, hl, ok, D1, F1⟩ := hp
    exact ws_ret (W.of (eVar_e rfl) ⟨r, l, rfl, by omega, g, ll, hl, ok, D1, F1⟩)
end

/-! k65: numbers -/
/-- what is led ahead of k -/
def ldA (l : Nat → Rat) (k : Nat) : Rat := if 0 < k then l (k - 1) else 0
section
variable {ns : List Int} {s : Store} {τ : Sl}
theorem e_list {i j r k : Nat} {l : List Rat} {t : Store} (hi : τ[i]? = some (some (.ref r))) (hj : τ[j]? = some (some (.int (k : Nat)))) (g : lstAt t r = some (l.map qd)) (hk : k < l.length) : eBin oIx (eVar i) (eVar j) τ t = .ok (qd (fnR l k)) t := by
  rw [eBin_e, eVar_e hi, ER.bind_ok, eVar_e hj, ER.bind_ok, oIx_ref g, atI_nat (List.getElem?_eq_getElem (by rw [List.length_map]; exact hk)), List.getElem_map]
  unfold fnR
  rw [getD_at hk]
  rfl
theorem fn_all {P : Rat → Prop} {l : List Rat} (h : ∀ z ∈ l, P z) {k : Nat} (hk : k < l.length) : P (fnR l k) := h _ (fn_mem hk)
theorem w_answers {n : Nat} {x w l : List Rat} {r : Nat} (H : DS ns s) (lx : x.length = n) (lw : w.length = n) (ll : l.length = n) (hn : n ≤ 20) (hx : ∀ z ∈ x, Rp 12 2048 z) (hw : ∀ z ∈ w, Ld z) (hl : ∀ z ∈ l, Rp 12 60 z) (g : lstAt s r = some (l.map qd)) (r1 : r ≠ 1) :
    W (f__law_answers_of [.tup (x.map qd), .tup (w.map qd), .ref r] s) fun d t => ∃ a : List Rat, d = .tup (a.map qd) ∧ a.length = n ∧ (∀ z ∈ a, Rp 720 (2 ^ 18) z) ∧ (∀ k, k < n → fnR w k * (fnR a k - fnR x k) = fnR l k - ldA (fnR l) k) ∧ DS ns t ∧ Fr s t := by
  have two := H.len
  have atx := fun (k : Nat) (h : k < n) (t : Store) => r_at (x := x) (st := t) (k := k) (by omega)
  have atw := fun (k : Nat) (h : k < n) (t : Store) => r_at (x := w) (st := t) (k := k) (by omega)
  obtain ⟨X, hX⟩ : ∃ X, X = D.tup (x.map qd) := ⟨_, rfl⟩
  obtain ⟨Y, hY⟩ : ∃ Y, Y = D.tup (w.map qd) := ⟨_, rfl⟩
  have lX : ∀ t, fLen [X] t = .ok (.int (n : Nat)) t := fun t => by rw [hX, fLen_tup, List.length_map, lx]
  rw [← hX] at atx
  rw [← hY] at atw
  rw [← hX, ← hY]
  unfold f__law_answers_of
  rw [runB_e]
  unfold m__law_answers_of
  rw [W_fin]
  have n6 : ent 6 [X, Y, .ref r] = [some X, some Y, some (.ref r), none, none, none] := rfl
  rw [n6]
  obtain ⟨v, hv⟩ : ∃ v, v = s.length := ⟨_, rfl⟩
  have gl := lstAt_lt g
  obtain ⟨J, hJ⟩ : ∃ J : Nat → Sl → Store → Prop, J = fun i τ t => ∃ (a : List Rat) (c d : Option D), τ = [some X, some Y, some (.ref r), some (.ref v), c, d] ∧ lstAt t v = some (a.map qd) ∧ lstAt t r = some (l.map qd) ∧ a.length = i ∧ (∀ z ∈ a, Rp 720 (2 ^ 18) z) ∧ (∀ k, k < i → fnR w k * (fnR a k - fnR x k) = fnR l k - ldA (fnR l) k) ∧ DS ns t ∧ Fr s t := ⟨_, rfl⟩
  refine ws_cons (N' := J 0) ?_ fun τ t hp => ?_
  · refine ws_set (W.of (a := .ref v) (s := s ++ [.lst []]) (by rw [hv]; simp) ?_)
    rw [hJ]
    exact ⟨[], _, _, rfl, by rw [hv]; exact lstAt_new, Fr.app.lst g r1, rfl, nofun, fun k hk => absurd hk (Nat.not_lt_zero _), H.app, .app⟩
  refine ws_cons (N' := J n) ?_ fun τ t hp => ?_
  · have hp0 := hp
    rw [hJ] at hp
    obtain ⟨a, c, d, rfl, _⟩ := hp
    refine ws_forD (fun q u => q = .fix (rng 0 (n : Nat)) ∧ u = t) (W.of ?_ ⟨rfl, rfl⟩) ?_
    · rw [iRg1_e, eCB_e, aCons_e, eVar_e rfl]
      show ((fLen [X] t).bind _) = _
      rw [lX, ER.bind_ok]
      exact rg1_int (by omega)
    rintro _ u ⟨rfl, hu⟩
    rw [hu]
    refine ws_rng (n := n) J (fun _ _ _ _ => rfl) hp0 (fun k τ u hk hp => ?_) fun τ u hp => hp
    clear hp0
    rw [hJ] at hp
    obtain ⟨a, c, d, rfl, ga, gr, la, ha, ok, D1, F1⟩ := hp
    refine ⟨[some X, some Y, some (.ref r), some (.ref v), some (.int (k : Nat)), d], rfl, ?_⟩
    have hlk := fn_all hl (k := k) (by omega)
    have hlp : Rp 12 60 (ldA (fnR l) k) := by
      unfold ldA
      split
      · exact fn_all hl (by omega)
      · exact Rp.zero
    have hwk := fn_all hw (k := k) (by omega)
    have hxk := fn_all hx (k := k) (by omega)
    have hpl : Rp 12 120 (fnR l k - ldA (fnR l) k) := hlk.sub hlp
    have w0 : fnR w k ≠ 0 := fun e => by
      have := hwk.p
      rw [e] at this
      exact absurd this (by decide)
    have ho : Rp 720 28800 ((fnR l k - ldA (fnR l) k) / fnR w k) := by
      rw [Rat.div_def]
      exact hpl.mul hwk.i
    have hs : Rp 720 (2 ^ 18) (fnR x k + (fnR l k - ldA (fnR l) k) / fnR w k) := ((hxk.up (E := 720) (M := 122880) (by decide) (by decide) (by decide)).add ho).le (by decide)
    refine ws_cons (N' := fun τ t => τ = [some X, some Y, some (.ref r), some (.ref v), some (.int (k : Nat)), some (qd (fnR l k - ldA (fnR l) k))] ∧ t = u) (ws_set ?_) fun τ t hp => ?_
    · have e2 : eIf (tBl (eBin oGt (eVar 4) (eC (.int 0)))) (eBin oIx (eVar 2) (eBin oSub (eVar 4) (eC (.int 1)))) (eTup (aCons (eC (.int 0)) (aCons (eC (.int 1)) aNil))) [some X, some Y, some (.ref r), some (.ref v), some (.int (k : Nat)), d] u = .ok (qd (ldA (fnR l) k)) u := by
        have et : tBl (eBin oGt (eVar 4) (eC (.int 0))) [some X, some Y, some (.ref r), some (.ref v), some (.int (k : Nat)), d] u = .ok (decide (0 < (k : Int))) u := by
          rw [tBl_e, eBin_e, eVar_e rfl, ER.bind_ok, eC_e, ER.bind_ok]
          simp
        rw [eIf_e, et, ER.bind_ok]
        unfold ldA
        by_cases q : 0 < k
        · rw [decide_eq_true (by omega), if_pos rfl, if_pos q]
          obtain ⟨k', rfl⟩ : ∃ k', k = k' + 1 := ⟨k - 1, by omega⟩
          rw [eBin_e, eVar_e rfl, ER.bind_ok, e_pred rfl, ER.bind_ok, oIx_ref gr, atI_nat (List.getElem?_eq_getElem (by rw [List.length_map]; omega)), List.getElem_map]
          show _ = ER.ok (qd (fnR l k')) u
          unfold fnR
          rw [getD_at (by omega)]
          rfl
        · rw [decide_eq_false (by omega), if_neg (by decide), if_neg q]
          exact e_zero
      rw [call2 (e_list rfl rfl gr (by omega)) e2]
      exact W.of (r_lminusQ (q60 hlk) (q60 hlp) (by decide)) ⟨rfl, rfl⟩
    obtain ⟨rfl, ht⟩ := hp
    rw [ht]
    clear ht t
    refine ws_app (m := v) rfl ga ?_
    have i0 : eBin oIx (eVar 0) (eVar 4) [some X, some Y, some (.ref r), some (.ref v), some (.int (k : Nat)), some (qd (fnR l k - ldA (fnR l) k))] u = .ok (qd (fnR x k)) u := by
      rw [eBin_e, eVar_e rfl, ER.bind_ok, eVar_e rfl, ER.bind_ok]
      exact atx k hk u
    have i1 : eBin oIx (eVar 1) (eVar 4) [some X, some Y, some (.ref r), some (.ref v), some (.int (k : Nat)), some (qd (fnR l k - ldA (fnR l) k))] u = .ok (qd (fnR w k)) u := by
      rw [eBin_e, eVar_e rfl, ER.bind_ok, eVar_e rfl, ER.bind_ok]
      exact atw k hk u
    rw [call2 i0 (by rw [call2 (eVar_e rfl) i1]; exact r_loverQ (k := 1000) (l := 1000) (hpl.qb (by decide) (by decide) (by decide)) (hwk.r.qb (by decide) (by decide) (by decide)) w0 (by decide))]
    refine W.of (r_lplusQ (q2048 hxk) (k := 1000) (l := 1000) (ho.qb (by decide) (by decide) (by decide)) (by decide)) ⟨_, ga, by rw [List.length_map, la]; omega, ?_⟩
    rw [hJ]
    refine ⟨a ++ [fnR x k + (fnR l k - ldA (fnR l) k) / fnR w k], _, _, rfl, by rw [lstAt_set ga, List.map_append]; rfl, by rw [lstAt_ne (by omega)]; exact gr, by rw [List.length_append, la]; rfl, fun q hq => ?_, fun j hj => ?_, D1.put2 (by omega) (by omega), F1.put2 (by omega)⟩
    · rcases List.mem_append.mp hq with q1 | q1
      · exact ha q q1
      · rw [List.mem_singleton.mp q1]
        exact hs
    · by_cases c : j < k
      · rw [fn_app (by omega)]
        exact ok j c
      · have ej : j = k := by omega
        rw [ej, fn_lastE (by omega)]
        have := Rat.div_mul_cancel (a := fnR l k - ldA (fnR l) k) w0
        grind
  · rw [hJ] at hp
    obtain ⟨a, c, d, rfl, ga, gr, la, ha, ok, D1, F1⟩ := hp
    refine ws_ret (W.of (a := .tup (a.map qd)) (s := t) ?_ ⟨a, rfl, la, ha, ok, D1, F1⟩)
    rw [eCB_e, aCons_e, eVar_e rfl]
    exact fTuple_ref ga
/-- then the sums are what is led -/
theorem sd_led {a w x l : Nat → Rat} {n : Nat} (h : ∀ k, k < n → w k * (a k - x k) = l k - ldA l k) : ∀ k, k ≤ n → Sd a w x k = ldA l k
  | 0, _ => rfl
  | k + 1, hk => by
    rw [Sd, sd_led h k (by omega), h k (by omega)]
    unfold ldA
    rw [if_pos (Nat.succ_pos _), Nat.add_sub_cancel]
    grind
theorem kk_led {a w x l : List Rat} {n : Nat} (h : ∀ k, k < n → fnR w k * (fnR a k - fnR x k) = fnR l k - ldA (fnR l) k) (up : Up n (fnR x)) (ok : LedOk n x l n) : KK n (fnR a) (fnR w) (fnR x) := by
  have e : ∀ k, k < n → Sd (fnR a) (fnR w) (fnR x) (k + 1) = fnR l k := fun k hk => by
    rw [sd_led h (k + 1) (by omega)]
    unfold ldA
    rw [if_pos (Nat.succ_pos _), Nat.add_sub_cancel]
  refine ⟨up, fun k hk => by rw [e k hk]; exact (ok k hk).1, fun k hk p => ?_⟩
  rw [e k hk]
  refine Classical.byContradiction fun c => ?_
  have := (ok k hk).2 c
  unfold flB at this
  rw [Bool.and_eq_true, decide_eq_true_eq, decide_eq_true_eq] at this
  rcases p with p | p
  · omega
  · exact p this.2
theorem w_free {n : Nat} (H : DS ns s) (h1 : 1 ≤ n) (hn : n ≤ 20) : W (f__law_free_numbers [.ref 1, .int (n : Nat)] s) fun d t => ∃ x : List Rat, d = .tup (x.map qd) ∧ x.length = n ∧ (∀ z ∈ x, Rp 12 2048 z) ∧ DS ns t ∧ Fr s t := by
  have two := H.len
  unfold f__law_free_numbers
  rw [runB_e]
  unfold m__law_free_numbers
  rw [W_fin]
  have n5 : ent 5 [.ref 1, .int (n : Nat)] = [some (.ref 1), some (.int (n : Nat)), none, none, none] := rfl
  rw [n5]
  refine ws_cons (N' := fun τ t => ∃ y : Nat, τ = [some (.ref 1), some (.int (n : Nat)), some (.int (y : Nat)), none, none] ∧ DS ns t ∧ Fr s t) ?_ fun τ t hp => ?_
  · refine ws_set ?_
    obtain ⟨v, t, e, hv, D1, F1⟩ := e_draw (τ := [some (.ref 1), some (.int (n : Nat)), none, none, none]) (i := 0) (m := 5) (fe := eC (.int 5)) H rfl rfl (by decide) (by decide)
    exact W.of e ⟨v, rfl, D1, F1⟩
  obtain ⟨y, rfl, D0, F0⟩ := hp
  obtain ⟨J, hJ⟩ : ∃ J : Nat → Sl → Store → Prop, J = fun i τ u => ∃ (r : Nat) (x0 : Rat) (xs : List Rat) (z : Rat) (c : Option D), τ = [some (.ref 1), some (.int (n : Nat)), some (.int (y : Nat)), some (.ref r), c] ∧ s.length ≤ r ∧ lstAt u r = some ((xs ++ [z]).map qd) ∧ fnR (xs ++ [z]) 0 = x0 ∧ Rp 12 108 x0 ∧ xs.length = i ∧ (∀ q ∈ xs ++ [z], Rp 12 (108 + 60 * i) q) ∧ DS ns u ∧ Fr s u := ⟨_, rfl⟩
  refine ws_cons (N' := J 0) ?_ fun τ t hp => ?_
  · refine ws_set ?_
    obtain ⟨_, u, e, z, rfl, hz, D1, F1⟩ := (w_signed D0).ex
    have es : eCall 1 f__law_signed (aCons (eVar 0) aNil) [some (.ref 1), some (.int (n : Nat)), some (.int (y : Nat)), none, none] t = .ok (qd z) u := by
      rw [call1 (eVar_e rfl)]
      exact e
    generalize eCall 1 f__law_signed (aCons (eVar 0) aNil) = fe at es ⊢
    obtain ⟨Z, hZ⟩ : ∃ Z, Z = qd z := ⟨_, rfl⟩
    rw [← hZ] at es
    refine W.of (a := .ref u.length) (s := u ++ [.lst [Z]]) (by simp [es]) ?_
    rw [hJ, hZ]
    exact ⟨u.length, z, [], z, _, rfl, (F0.trans F1).len, lstAt_new, rfl, hz, rfl, fun y hy => by rw [List.mem_singleton.mp hy]; exact hz, D1.app, (F0.trans F1).trans .app⟩
  clear D0 F0
  refine ws_cons (N' := J (n - 1)) ?_ fun τ t hp => ?_
  · have hp0 := hp
    rw [hJ] at hp
    obtain ⟨r, x0, xs, z, c, rfl, _⟩ := hp
    refine ws_forD (fun q u => q = .fix (rng 1 (n : Nat)) ∧ u = t) (W.of (by rw [iRg2_e, eC_e, ER.bind_ok, eVar_e rfl, ER.bind_ok]; exact rg2_int (by decide) (by omega)) ⟨rfl, rfl⟩) ?_
    rintro _ u ⟨rfl, hu⟩
    rw [hu]
    refine ws_map (fun k : Nat => D.int ((k + 1 : Nat) : Int)) (List.range (n - 1)) (rng_one n) J (fun _ _ _ _ => rfl) hp0 (fun i k τ u hi hp => ?_) fun τ u hp => by rw [List.length_range] at hp; exact hp
    clear hp0
    have hin : i < n - 1 := by
      have := (List.getElem?_eq_some_iff.mp hi).1
      rwa [List.length_range] at this
    rw [hJ] at hp
    obtain ⟨r, x0, xs, z, c, rfl, lr, g, e0, hx0, lx, hx, D1, F1⟩ := hp
    refine ⟨[some (.ref 1), some (.int (n : Nat)), some (.int (y : Nat)), some (.ref r), some (.int ((k + 1 : Nat) : Int))], rfl, ?_⟩
    have et : ∀ c : Int, tBl (eBin oEq (eVar 2) (eC (.int c))) [some (.ref 1), some (.int (n : Nat)), some (.int (y : Nat)), some (.ref r), some (.int ((k + 1 : Nat) : Int))] u = .ok (decide ((y : Int) = c)) u := fun c => by
      rw [tBl_e, eBin_e, eVar_e rfl, ER.bind_ok, eC_e, ER.bind_ok]
      simp
    have fin : ∀ (v : Rat) t, Rp 12 (108 + 60 * (i + 1)) v → DS ns t → Fr u t → ∃ ys, lstAt t r = some ys ∧ ys.length < 16777216 ∧ J (i + 1) [some (.ref 1), some (.int (n : Nat)), some (.int (y : Nat)), some (.ref r), some (.int ((k + 1 : Nat) : Int))] (t.set r (.lst (ys ++ [qd v]))) := fun v t hv D2 F2 => by
      have g2 := F2.lst g (by omega)
      refine ⟨_, g2, by rw [List.length_map, List.length_append, lx]; show i + 1 < _; omega, ?_⟩
      rw [hJ]
      refine ⟨r, x0, xs ++ [z], v, _, rfl, lr, by rw [lstAt_set g2, List.map_append (l₁ := xs ++ [z])]; rfl, by rw [fn_app (by rw [List.length_append]; show 0 < _ + 1; omega)]; exact e0, hx0, by rw [List.length_append, lx]; rfl, fun q hq => ?_, D2.put2 (by omega) (by omega), (F1.trans F2).put2 lr⟩
      rcases List.mem_append.mp hq with q1 | q1
      · exact (hx q q1).le (by omega)
      · rw [List.mem_singleton.mp q1]
        exact hv
    have hz := hx z (List.mem_append_right _ (List.mem_singleton.mpr rfl))
    by_cases c1 : (y : Int) = 1
    · refine ws_if1 (by rw [et, decide_eq_true c1]) (ws_app (m := r) rfl g ?_)
      obtain ⟨_, t, e, p, rfl, hp, p0, D2, F2⟩ := (e_up (τ := [some (.ref 1), some (.int (n : Nat)), some (.int (y : Nat)), some (.ref r), some (.int ((k + 1 : Nat) : Int))]) D1 rfl).ex
      rw [call2 (e_m1 rfl g) e]
      exact W.of (r_lminusQ (q2048 (hz.le (by omega))) (q60 hp) (by decide)) (fin _ _ ((hz.sub hp).le (by omega)) D2 F2)
    · refine ws_if0 (by rw [et, decide_eq_false c1]) ?_
      by_cases c2 : (y : Int) = 2
      · refine ws_if1 (by rw [et, decide_eq_true c2]) (ws_app (m := r) rfl g (W.of (a := qd x0) (s := u) ?_ (fin _ _ (hx0.le (by omega)) D1 .refl)))
        rw [eBin_e, eVar_e rfl, ER.bind_ok, eC_e, ER.bind_ok]
        have := oIx_ref (k := 0) g
        rw [this, ← e0]
        have h0 : atI ((xs ++ [z]).map qd) ((0 : Nat) : Int) = some (qd (fnR (xs ++ [z]) 0)) := by
          rw [atI_nat (List.getElem?_eq_getElem (by rw [List.length_map, List.length_append]; show 0 < _ + 1; omega)), List.getElem_map]
          unfold fnR
          rw [getD_at (by rw [List.length_append]; show 0 < _ + 1; omega)]
        show ofO u (atI ((xs ++ [z]).map qd) ((0 : Nat) : Int)) = _
        rw [h0]
        rfl
      · refine ws_if0 (by rw [et, decide_eq_false c2]) (ws_app (m := r) rfl g ?_)
        rw [call1 (eVar_e rfl)]
        refine (w_signed D1).mono fun d t hp => ?_
        obtain ⟨p, rfl, hp, D2, F2⟩ := hp
        exact fin _ _ (hp.le (by omega)) D2 F2
  · rw [hJ] at hp
    obtain ⟨r, x0, xs, z, c, rfl, lr, g, e0, hx0, lx, hx, D1, F1⟩ := hp
    refine ws_ret (W.of (a := .tup ((xs ++ [z]).map qd)) (s := t) ?_ ⟨xs ++ [z], rfl, by rw [List.length_append, lx]; show n - 1 + 1 = n; omega, fun q hq => (hx q hq).le (by omega), D1, F1⟩)
    rw [eCB_e, aCons_e, eVar_e rfl]
    exact fTuple_ref g
end

/-! k65: rows spoilt -/
def qp (x : Rat) : Int × Int := (x.num, (x.den : Nat))
theorem frp_qp {x : Rat} : frp (qp x) = qd x := rfl
theorem rp_qp {x : Rat} : rp (qp x) = x := Rat.num_divInt_den x
theorem map_frp {xs : List Rat} : (xs.map qp).map frp = xs.map qd := by
  rw [List.map_map]
  rfl
theorem map_rp {xs : List Rat} : (xs.map qp).map rp = xs := by
  rw [List.map_map]
  have : (rp ∘ qp) = id := funext fun x => rp_qp
  rw [this, List.map_id]
/-- a pair that a judge may look at -/
structure Pq (E N : Nat) (p : Int × Int) : Prop where
  b : p.2.natAbs < 2 ^ 9000
  r : isF p = true → Rp E N (rp p)
structure Ln (E N : Nat) (ps : List (Int × Int)) : Prop where
  l : ps.length ≤ 100
  p : ∀ p ∈ ps, Pq E N p
structure En (E N : Nat) : Prop where
  e0 : 0 < E
  e1 : E < 2 ^ 400
  n1 : N < 2 ^ 450
section
variable {E N : Nat}
theorem En.q (h : En E N) {z : Rat} (hz : Rp E N z) : QB 1000 z := hz.qb h.e0 (Nat.lt_trans h.e1 (by decide +kernel)) (Nat.lt_trans h.n1 (by decide +kernel))
theorem Pq.of (h : En E N) {z : Rat} (hz : Rp E N z) : Pq E N (qp z) := by
  refine ⟨?_, fun _ => by rw [rp_qp]; exact hz⟩
  show ((z.den : Nat) : Int).natAbs < _
  rw [Int.natAbs_natCast]
  exact lt_up (h.q hz).bn (by decide)
theorem Ln.of (h : En E N) {xs : List Rat} (hl : xs.length ≤ 100) (hx : ∀ z ∈ xs, Rp E N z) : Ln E N (xs.map qp) := by
  refine ⟨by rw [List.length_map]; exact hl, fun p hp => ?_⟩
  obtain ⟨z, hz, rfl⟩ := List.mem_map.mp hp
  exact .of h (hx z hz)
theorem cut_m1 {zs : List D} : HM.cutD zs none (some (-1)) = zs.take (zs.length - 1) := by
  unfold HM.cutD
  rw [sIx_0, List.drop_zero, Nat.sub_zero]
  congr 1
  show (if (-1 : Int) < 0 then ((-1 : Int) + (zs.length : Int)).toNat else min (-1 : Int).toNat zs.length) = zs.length - 1
  rw [if_pos (by decide)]
  omega
section
variable {τ : Sl} {s : Store}
theorem e_slTo {fo fi : EM D} {xs : List D} {k : Nat} (ho : fo τ s = .ok (.tup xs) s) (hi : fi τ s = .ok (.int (k : Nat)) s) : eSl fo oNone (oSome fi) τ s = .ok (.tup (xs.take k)) s := by
  rw [eSl_e, ho, ER.bind_ok, oNone_e, ER.bind_ok, oSome_e, hi]
  show dCut (.tup xs) none (some (k : Nat)) s = _
  show ER.ok (D.tup (HM.cutD xs none (some (k : Nat)))) s = _
  rw [cutD_to]
theorem e_slFrom {fo fi : EM D} {xs : List D} {k : Nat} (ho : fo τ s = .ok (.tup xs) s) (hi : fi τ s = .ok (.int (k : Nat)) s) : eSl fo (oSome fi) oNone τ s = .ok (.tup (xs.drop k)) s := by
  rw [eSl_e, ho, ER.bind_ok, oSome_e, hi]
  show dCut (.tup xs) (some (k : Nat)) none s = _
  show ER.ok (D.tup (HM.cutD xs (some (k : Nat)) none)) s = _
  rw [cutD_from]
theorem e_add {fa fb : EM D} {xs ys : List D} {s1 s2 : Store} (ha : fa τ s = .ok (.tup xs) s1) (hb : fb τ s1 = .ok (.tup ys) s2) (hl : xs.length + ys.length ≤ 1000) : eBin oAdd fa fb τ s = .ok (.tup (xs ++ ys)) s2 := by
  rw [eBin_e, ha, ER.bind_ok, hb, ER.bind_ok, oAdd_tup, if_pos (by omega)]
theorem e_plusAll {fo : EM D} {b c : Nat} {zs : List Rat} {q : Rat} (ho : fo τ s = .ok (.tup (zs.map qd)) s) (hl : zs.length ≤ 100) (hq : QB 1000 q) (hz : ∀ z ∈ zs, QB 1000 z)
    (hs : ∀ z : Rat, ∃ τ1, gN b (qd z) (wipeD τ [b]) = some τ1 ∧ τ1[b]? = some (some (qd z)) ∧ τ1[c]? = some (some (qd q))) :
    eCS gTuple (lComp [b] (iEx fo) (gN b) tYes (eCall 2 f__law_plus (aCons (eVar b) (aCons (eVar c) aNil)))) τ s = .ok (.tup ((zs.map fun z => z + q).map qd)) s := by
  refine W.eq ?_
  rw [eCS_e, W_bind, lComp_e, W_bind, iEx_e, W_bind]
  refine W.of ho ?_
  have hd : dSq s (.tup (zs.map qd)) = some (.fix (zs.map qd)) := by simp [dSq]
  rw [hd, ofQ_some, W_ok]
  refine w_lc (by show (zs.map qd).length ≤ _; rw [List.length_map]; omega) ?_
  refine w_map qd (fun z => qd (z + q)) zs rfl rfl (fun z hm => ?_) ?_
  · obtain ⟨τ1, h1, h2, h3⟩ := hs z
    refine ⟨τ1, h1, ?_⟩
    rw [call2 (eVar_e h2) (eVar_e h3)]
    exact W.of (r_lplusQ (hz z hm) hq (by decide)) ⟨rfl, rfl⟩
  · rw [gTuple_e, W_ok, List.map_map]
    exact ⟨rfl, rfl⟩
end
theorem r_with {st : Store} {xs : List D} {k : Nat} {d : D} (hl : xs.length ≤ 100) : f__law_with [.tup xs, .int (k : Nat), d] st = .ok (.tup (xs.take k ++ [d] ++ xs.drop (k + 1))) st := by
  refine W.eq ?_
  unfold f__law_with
  rw [runB_e]
  unfold m__law_with
  rw [W_fin]
  have n3 : ent 3 [.tup xs, .int (k : Nat), d] = [some (.tup xs), some (.int (k : Nat)), some d] := rfl
  rw [n3]
  have e : eBin oAdd (eBin oAdd (eSl (eVar 0) oNone (oSome (eVar 1))) (eTup (aCons (eVar 2) aNil))) (eSl (eVar 0) (oSome (eBin oAdd (eVar 1) (eC (.int 1)))) oNone) [some (.tup xs), some (.int (k : Nat)), some d] st = .ok (.tup (xs.take k ++ [d] ++ xs.drop (k + 1))) st := by
    refine e_add (e_add (e_slTo (eVar_e rfl) (eVar_e rfl)) (ys := [d]) (by rw [eTup_e, aCons_e, eVar_e rfl, ER.bind_ok, aNil_e, ER.bind_ok]; rfl) ?_) (e_slFrom (eVar_e rfl) (e_succ (eVar_e rfl))) ?_
    · rw [List.length_take, List.length_singleton]
      omega
    · rw [List.length_append, List.length_take, List.length_singleton, List.length_drop]
      omega
  exact ws_ret (W.of e ⟨rfl, rfl⟩)
variable {ns : List Int} {s : Store}
theorem w_nofrac {z : Rat} (H : DS ns s) (hz : QB 1000 z) : W (f__law_no_fraction [.ref 1, qd z] s) fun d t => ∃ p, d = frp p ∧ Pq E N p ∧ DS ns t ∧ Fr s t := by
  have i0 : ∀ t, oIx (qd z) (.int 0) t = .ok (.int z.num) t := fun t => by rw [qd_tup]; simp
  have i1 : ∀ t, oIx (qd z) (.int 1) t = .ok (.int (z.den : Nat)) t := fun t => by rw [qd_tup]; simp
  have dp := z.den_pos
  have bn := hz.bi
  have an := hz.an
  obtain ⟨Z, hZ⟩ : ∃ Z, Z = qd z := ⟨_, rfl⟩
  rw [← hZ] at i0 i1 ⊢
  unfold f__law_no_fraction
  rw [runB_e]
  unfold m__law_no_fraction
  rw [W_fin]
  have n3 : ent 3 [.ref 1, Z] = [some (.ref 1), some Z, none] := rfl
  rw [n3]
  refine ws_cons (N' := fun τ t => ∃ y : Nat, y < 5 ∧ τ = [some (.ref 1), some Z, some (.int (y : Nat))] ∧ DS ns t ∧ Fr s t) ?_ fun τ t hp => ?_
  · refine ws_set ?_
    obtain ⟨v, t, e, hv, D1, F1⟩ := e_draw (τ := [some (.ref 1), some Z, none]) (i := 0) (m := 5) (fe := eC (.int 5)) H rfl rfl (by decide) (by decide)
    exact W.of e ⟨v, hv, rfl, D1, F1⟩
  obtain ⟨y, hy, rfl, D1, F1⟩ := hp
  have et : ∀ c : Int, tBl (eBin oEq (eVar 2) (eC (.int c))) [some (.ref 1), some Z, some (.int (y : Nat))] t = .ok (decide ((y : Int) = c)) t := fun c => by
    rw [tBl_e, eBin_e, eVar_e rfl, ER.bind_ok, eC_e, ER.bind_ok]
    simp
  have neg : ∀ p : Int × Int, p.2.natAbs < 2 ^ 9000 → isF p = false → Pq E N p := fun p h1 h2 => ⟨h1, fun h => by rw [h2] at h; cases h⟩
  have le : (2 : Nat) ^ 1000 ≤ 2 ^ 9000 := Nat.pow_le_pow_right (by decide) (by decide)
  by_cases c0 : (y : Int) = 0
  · refine ws_take (by rw [et, decide_eq_true c0]) (ws_ret (W.of (a := frp (z.num, 0)) (s := t) (by simp [i0]; rfl) ⟨_, rfl, neg _ (by show (0 : Int).natAbs < _; exact Nat.lt_of_lt_of_le (by decide : 0 < 2 ^ 1) (Nat.pow_le_pow_right (by decide) (by decide))) rfl, D1, F1⟩))
  refine ws_skip (by rw [et, decide_eq_false c0]) ?_
  by_cases c1 : (y : Int) = 1
  · refine ws_take (by rw [et, decide_eq_true c1]) (ws_ret (W.of (a := frp (-z.num, -((z.den : Nat) : Int))) (s := t) (by simp [i0, i1]; rfl) ⟨_, rfl, neg _ (by show (-((z.den : Nat) : Int)).natAbs < _; rw [Int.natAbs_neg]; exact Nat.lt_of_lt_of_le bn le) ?_, D1, F1⟩))
    unfold isF
    rw [decide_eq_false (by show ¬ 1 ≤ -((z.den : Nat) : Int); omega)]
    rfl
  refine ws_skip (by rw [et, decide_eq_false c1]) ?_
  by_cases c2 : (y : Int) = 2
  · refine ws_take (by rw [et, decide_eq_true c2]) (ws_ret (W.of (a := frp (z.num, -((z.den : Nat) : Int))) (s := t) (by simp [i0, i1]; rfl) ⟨_, rfl, neg _ (by show (-((z.den : Nat) : Int)).natAbs < _; rw [Int.natAbs_neg]; exact Nat.lt_of_lt_of_le bn le) ?_, D1, F1⟩))
    unfold isF
    rw [decide_eq_false (by show ¬ 1 ≤ -((z.den : Nat) : Int); omega)]
    rfl
  refine ws_skip (by rw [et, decide_eq_false c2]) ?_
  have k1 : okMul z.num ((y : Int) - 1) = true := okMul_of (l := 10) an (by omega) (by decide)
  have k2 : okMul ((z.den : Nat) : Int) ((y : Int) - 1) = true := okMul_of (l := 10) bn (by omega) (by decide)
  refine ws_ret (W.of (a := frp (z.num * ((y : Int) - 1), ((z.den : Nat) : Int) * ((y : Int) - 1))) (s := t) (by simp [i0, i1, k1, k2]; rfl) ⟨_, rfl, neg _ ?_ ?_, D1, F1⟩)
  · show (((z.den : Nat) : Int) * ((y : Int) - 1)).natAbs < _
    exact Nat.lt_of_lt_of_le (mul_lt (l := 10) bn (by omega)) (Nat.pow_le_pow_right (by decide) (by decide))
  · unfold isF
    obtain ⟨m, hm⟩ : ∃ m : Nat, (y : Int) - 1 = (m : Int) ∧ 2 ≤ m := ⟨y - 1, by omega, by omega⟩
    rw [hm.1]
    have : decide (Nat.gcd (z.num * (m : Int)).natAbs (((z.den : Nat) : Int) * (m : Int)).natAbs = 1) = false := by
      refine decide_eq_false fun h => ?_
      rw [Int.natAbs_mul, Int.natAbs_mul, Int.natAbs_natCast, Nat.gcd_mul_right] at h
      have := Nat.eq_one_of_mul_eq_one_left h
      omega
    show (_ && decide (Nat.gcd (z.num * (m : Int)).natAbs (((z.den : Nat) : Int) * (m : Int)).natAbs = 1)) = false
    rw [this, Bool.and_false]
end

/-! k65: rows spoilt, all -/
section
variable {E N M : Nat} {ns : List Int} {s : Store}
def pD (ps : List (Int × Int)) : D := .tup (ps.map frp)
theorem pD_qp {xs : List Rat} : pD (xs.map qp) = .tup (xs.map qd) := by
  unfold pD
  rw [map_frp]
theorem w_spoilt {n : Nat} {x a : List Rat} (h : En E N) (dE : 12 ∣ E) (hM : M + 60 * (E / 12) ≤ N) (H : DS ns s) (lx : x.length = n) (la : a.length = n) (n1 : 1 ≤ n) (hn : n ≤ 20) (hx : ∀ z ∈ x, Rp E M z) (ha : ∀ z ∈ a, Rp E N z) :
    W (f__law_spoilt [.ref 1, .tup (a.map qd), .tup (x.map qd)] s) fun d t => ∃ r, ∃ Ls : List (List (Int × Int)), d = .ref r ∧ s.length ≤ r ∧ lstAt t r = some (Ls.map pD) ∧ (∀ ps ∈ Ls, Ln E N ps) ∧ DS ns t ∧ Fr s t := by
  have two := H.len
  have hxN : ∀ z ∈ x, Rp E N z := fun z hz => (hx z hz).le (by omega)
  obtain ⟨x', y, hxy⟩ : ∃ x' y, x = x' ++ [y] := by
    rcases List.eq_nil_or_concat x with q | ⟨L, b, q⟩
    · rw [q] at lx
      exact absurd lx (by show ¬ 0 = n; omega)
    · exact ⟨L, b, by rw [q, List.concat_eq_append]⟩
  have hy : y ∈ x := by rw [hxy]; exact List.mem_append_right _ (List.mem_singleton.mpr rfl)
  have lx' : x'.length = n - 1 := by rw [hxy, List.length_append] at lx; simp at lx; omega
  have atx := fun (k : Nat) (h : k < n) (t : Store) => r_at (x := x) (st := t) (k := k) (by omega)
  have c1 : ∀ t, dCut (.tup (x.map qd)) none (some (-1)) t = .ok (.tup (x'.map qd)) t := fun t => by
    show ER.ok (D.tup (HM.cutD (x.map qd) none (some (-1)))) t = _
    rw [cut_m1, List.length_map, lx, hxy, List.map_append, List.take_left' (by rw [List.length_map, lx'])]
  have c2 : ∀ t, oIx (.tup (x.map qd)) (.int (-1)) t = .ok (qd y) t := fun t => by
    rw [oIx_tup, hxy, List.map_append]
    show ofO t (atI (x'.map qd ++ [qd y]) (-1)) = _
    rw [atI_1]
    rfl
  have c3 : ∀ t, oAdd (.tup (x.map qd)) (.tup [qd y]) t = .ok (.tup ((x ++ [y]).map qd)) t := fun t => by
    rw [oAdd_tup, if_pos (by rw [List.length_map, lx]; show n + 1 ≤ _; omega), List.map_append]
    rfl
  have lxm : (x.map qd).length = n := by rw [List.length_map, lx]
  obtain ⟨A, hA⟩ : ∃ A, A = D.tup (a.map qd) := ⟨_, rfl⟩
  obtain ⟨X, hX⟩ : ∃ X, X = D.tup (x.map qd) := ⟨_, rfl⟩
  obtain ⟨X1, hX1⟩ : ∃ X, X = D.tup (x'.map qd) := ⟨_, rfl⟩
  obtain ⟨X2, hX2⟩ : ∃ X, X = D.tup ((x ++ [y]).map qd) := ⟨_, rfl⟩
  obtain ⟨Y, hY⟩ : ∃ Y, Y = qd y := ⟨_, rfl⟩
  have lX : ∀ t, fLen [X] t = .ok (.int (n : Nat)) t := fun t => by rw [hX, fLen_tup, lxm]
  rw [← hX] at atx
  rw [← hX, ← hX1] at c1
  rw [← hX, ← hY] at c2
  rw [← hX, ← hX2, ← hY] at c3
  rw [← hX, ← hA]
  unfold f__law_spoilt
  rw [runB_e]
  unfold m__law_spoilt
  rw [W_fin]
  have n7 : ent 7 [.ref 1, A, X] = [some (.ref 1), some A, some X, none, none, none, none] := rfl
  rw [n7]
  refine ws_cons (N' := fun τ t => ∃ k : Nat, k < n ∧ τ = [some (.ref 1), some A, some X, some (.int (k : Nat)), none, none, none] ∧ DS ns t ∧ Fr s t) ?_ fun τ t hp => ?_
  · refine ws_set ?_
    obtain ⟨v, t, e, hv, D1, F1⟩ := e_draw (τ := [some (.ref 1), some A, some X, none, none, none, none]) (i := 0) (m := n) (fe := eCB fLen (aCons (eVar 2) aNil)) H rfl (by rw [eCB_e, aCons_e, eVar_e rfl]; exact lX s) (by omega) (by omega)
    exact W.of e ⟨v, hv, rfl, D1, F1⟩
  obtain ⟨k, hk, rfl, D1, F1⟩ := hp
  refine ws_cons (N' := fun τ t => ∃ q, τ = [some (.ref 1), some A, some X, some (.int (k : Nat)), some (qd q), none, none] ∧ Rp E (60 * (E / 12)) q ∧ DS ns t ∧ Fr s t) ?_ fun τ u hp => ?_
  · refine ws_set ?_
    rw [call1 (eVar_e rfl)]
    refine (w_step D1).mono fun d t hp => ?_
    obtain ⟨q, rfl, hq, D2, F2⟩ := hp
    exact ⟨q, rfl, hq.up dE (by decide) (Nat.le_refl _), D2, F1.trans F2⟩
  clear D1 F1
  obtain ⟨q, rfl, hq, D1, F1⟩ := hp
  have hqN : Rp E N q := hq.le (by omega)
  have addN : ∀ z, Rp E M z → Rp E N (z + q) := fun z hz => (hz.add hq).le hM
  have qq := h.q hqN
  have qx := fun z (hz : z ∈ x) => h.q (hxN z hz)
  have xk : fnR x k ∈ x := fn_mem (by omega)
  obtain ⟨r, hr⟩ : ∃ r, r = u.length := ⟨_, rfl⟩
  have lr : s.length ≤ r := by rw [hr]; exact F1.len
  obtain ⟨T, hT⟩ : ∃ T : Sl, T = [some (.ref 1), some A, some X, some (.int (k : Nat)), some (qd q), some (.ref r), none] := ⟨_, rfl⟩
  obtain ⟨J, hJ⟩ : ∃ J : Sl → Store → Prop, J = fun τ t => ∃ Ls : List (List (Int × Int)), τ = T ∧ lstAt t r = some (Ls.map pD) ∧ Ls.length ≤ 20 ∧ (∀ ps ∈ Ls, Ln E N ps) ∧ DS ns t ∧ Fr s t := ⟨_, rfl⟩
  have grow : ∀ (k : Nat) t, (∃ Ls : List (List (Int × Int)), lstAt t r = some (Ls.map pD) ∧ Ls.length ≤ k ∧ (∀ ps ∈ Ls, Ln E N ps) ∧ DS ns t ∧ Fr s t) → k < 20 → ∀ ps t', Ln E N ps → DS ns t' → Fr t t' → ∃ xs, lstAt t' r = some xs ∧ xs.length < 16777216 ∧ (T = T ∧ ∃ Ls : List (List (Int × Int)), lstAt (t'.set r (.lst (xs ++ [pD ps]))) r = some (Ls.map pD) ∧ Ls.length ≤ k + 1 ∧ (∀ ps ∈ Ls, Ln E N ps) ∧ DS ns (t'.set r (.lst (xs ++ [pD ps]))) ∧ Fr s (t'.set r (.lst (xs ++ [pD ps])))) := by
    rintro k t ⟨Ls, g, l, o, D0, F0⟩ hk ps t' hps D2 F2
    have g2 := F2.lst g (by omega)
    refine ⟨_, g2, by rw [List.length_map]; omega, rfl, Ls ++ [ps], by rw [lstAt_set g2, List.map_append]; rfl, by rw [List.length_append]; simp; omega, fun q hq => ?_, D2.put2 (by omega) (by omega), (F0.trans F2).put2 lr⟩
    rcases List.mem_append.mp hq with q1 | q1
    · exact o q q1
    · rw [List.mem_singleton.mp q1]
      exact hps
  have L := fun (zs : List Rat) (hl : zs.length ≤ 100) (hz : ∀ z ∈ zs, Rp E N z) => Ln.of h hl hz
  refine ws_cons (N' := fun τ t => τ = T ∧ ∃ Ls : List (List (Int × Int)), lstAt t r = some (Ls.map pD) ∧ Ls.length ≤ 5 ∧ (∀ ps ∈ Ls, Ln E N ps) ∧ DS ns t ∧ Fr s t) ?_ fun τ t hp => ?_
  · refine ws_set ?_
    have e : eLst (aCons (eVar 2) (aCons (eSl (eVar 2) oNone (oSome (eUn oNeg (eC (.int 1))))) (aCons (eBin oAdd (eVar 2) (eTup (aCons (eBin oIx (eVar 2) (eUn oNeg (eC (.int 1)))) aNil))) (aCons (eTup aNil) (aCons (eVar 1) aNil))))) [some (.ref 1), some A, some X, some (.int (k : Nat)), some (qd q), none, none] u = .ok (.ref r) (u ++ [.lst [X, X1, X2, .tup [], A]]) := by
      rw [hr]
      simp [c1, c2, c3]
    refine W.of e ⟨by rw [hT]; rfl, [x.map qp, x'.map qp, (x ++ [y]).map qp, [], a.map qp], ?_, by show 5 ≤ 5; decide, ?_, D1.app, F1.trans .app⟩
    · rw [hr, lstAt_new]
      simp only [List.map_cons, List.map_nil, pD_qp]
      rw [hX, hX1, hX2, hA]
      rfl
    · intro ps hps
      simp only [List.mem_cons, List.not_mem_nil, or_false] at hps
      rcases hps with rfl | rfl | rfl | rfl | rfl
      · exact L _ (by omega) hxN
      · exact L _ (by omega) fun z hz => hxN z (by rw [hxy]; exact List.mem_append_left _ hz)
      · refine L _ (by rw [List.length_append]; simp; omega) fun z hz => ?_
        rcases List.mem_append.mp hz with q1 | q1
        · exact hxN z q1
        · rw [List.mem_singleton.mp q1]
          exact hxN y hy
      · exact ⟨by decide, nofun⟩
      · exact L _ (by omega) ha
  clear D1 F1 hr
  obtain ⟨hτ, I⟩ := hp
  rw [hτ]
  clear hτ τ
  have gI : ∀ {t : Store} {k : Nat}, (∃ Ls : List (List (Int × Int)), lstAt t r = some (Ls.map pD) ∧ Ls.length ≤ k ∧ (∀ ps ∈ Ls, Ln E N ps) ∧ DS ns t ∧ Fr s t) → ∃ Ls : List (List (Int × Int)), lstAt t r = some (Ls.map pD) ∧ DS ns t := fun ⟨Ls, g, _, _, D0, _⟩ => ⟨Ls, g, D0⟩
  have v0 : T[0]? = some (some (.ref 1)) := by rw [hT]; rfl
  have v2 : T[2]? = some (some X) := by rw [hT]; rfl
  have v3 : T[3]? = some (some (.int (k : Nat))) := by rw [hT]; rfl
  have v4 : T[4]? = some (some (qd q)) := by rw [hT]; rfl
  have v5 : T[5]? = some (some (.ref r)) := by rw [hT]; rfl
  have wp : ∀ z : Rat, ∃ τ1, gN 6 (qd z) (wipeD T [6]) = some τ1 ∧ τ1[6]? = some (some (qd z)) ∧ τ1[4]? = some (some (qd q)) := fun z => by rw [hT]; exact ⟨_, rfl, rfl, rfl⟩
  clear hT
  have ixk : ∀ t, eBin oIx (eVar 2) (eVar 3) T t = .ok (qd (fnR x k)) t := fun t => by
    rw [eBin_e, eVar_e v2, ER.bind_ok, eVar_e v3, ER.bind_ok]
    exact atx k hk t
  have wth : ∀ (d : D) t, f__law_with [X, .int (k : Nat), d] t = .ok (.tup ((x.map qd).take k ++ [d] ++ (x.map qd).drop (k + 1))) t := fun d t => by
    rw [hX]
    exact r_with (by omega)
  have pwith : ∀ p, D.tup ((x.map qd).take k ++ [frp p] ++ (x.map qd).drop (k + 1)) = pD ((x.map qp).take k ++ [p] ++ (x.map qp).drop (k + 1)) := fun p => by
    unfold pD
    rw [List.map_append, List.map_append, List.map_take, List.map_drop, map_frp]
    rfl
  have owith : ∀ p, Pq E N p → Ln E N ((x.map qp).take k ++ [p] ++ (x.map qp).drop (k + 1)) := fun p hp => by
    have o := L x (by omega) hxN
    refine ⟨?_, fun z hz => ?_⟩
    · rw [List.length_append, List.length_append, List.length_take, List.length_drop, List.length_map]
      simp
      omega
    · rcases List.mem_append.mp hz with q1 | q1
      · rcases List.mem_append.mp q1 with q2 | q2
        · exact o.p z (List.mem_of_mem_take q2)
        · rw [List.mem_singleton.mp q2]
          exact hp
      · exact o.p z (List.mem_of_mem_drop q1)
  -- no fraction
  refine ws_cons (N' := fun τ t => τ = T ∧ ∃ Ls : List (List (Int × Int)), lstAt t r = some (Ls.map pD) ∧ Ls.length ≤ 6 ∧ (∀ ps ∈ Ls, Ln E N ps) ∧ DS ns t ∧ Fr s t) ?_ fun τ t2 hp => ?_
  · obtain ⟨Ls, g, D0⟩ := gI I
    refine ws_app (m := r) (eVar_e v5) g ?_
    obtain ⟨_, t2, e, p, rfl, hp, D2, F2⟩ := (w_nofrac (E := E) (N := N) D0 (qx _ xk)).ex
    rw [call3 (eVar_e v2) (eVar_e v3) (by rw [call2 (eVar_e v0) (ixk _)]; exact e)]
    refine W.of (wth _ _) ?_
    rw [pwith]
    exact grow 5 t I (by decide) _ t2 (owith p hp) D2 F2
  clear I
  obtain ⟨hτ, I⟩ := hp
  rw [hτ]
  clear hτ τ
  -- one more or less
  refine ws_cons (N' := fun τ t => τ = T ∧ ∃ Ls : List (List (Int × Int)), lstAt t r = some (Ls.map pD) ∧ Ls.length ≤ 7 ∧ (∀ ps ∈ Ls, Ln E N ps) ∧ DS ns t ∧ Fr s t) ?_ fun τ t3 hp => ?_
  · obtain ⟨Ls, g, D0⟩ := gI I
    refine ws_app (m := r) (eVar_e v5) g ?_
    rw [call3 (eVar_e v2) (eVar_e v3) (by rw [call2 (ixk _) (eVar_e v4)]; exact r_lplusQ (qx _ xk) qq (by decide))]
    refine W.of (wth _ _) ?_
    rw [← frp_qp, pwith]
    exact grow 6 t2 I (by decide) _ t2 (owith _ (.of h (addN _ (hx _ xk)))) D0 .refl
  clear I
  obtain ⟨hτ, I⟩ := hp
  rw [hτ]
  clear hτ τ
  have eX : ∀ t, eVar 2 T t = .ok (.tup (x.map qd)) t := fun t => by rw [eVar_e v2, hX]
  -- the first parts
  refine ws_cons (N' := fun τ t => τ = T ∧ ∃ Ls : List (List (Int × Int)), lstAt t r = some (Ls.map pD) ∧ Ls.length ≤ 8 ∧ (∀ ps ∈ Ls, Ln E N ps) ∧ DS ns t ∧ Fr s t) ?_ fun τ t4 hp => ?_
  · obtain ⟨Ls, g, D0⟩ := gI I
    refine ws_app (m := r) (eVar_e v5) g ?_
    have e1 := e_slTo (τ := T) (s := t3) (eX t3) (e_succ (eVar_e v3))
    rw [← List.map_take] at e1
    have e2 := e_plusAll (b := 6) (c := 4) e1 (by rw [List.length_take]; omega) qq (fun z hz => qx z (List.mem_of_mem_take hz)) wp
    refine W.of (e_add e2 (e_slFrom (eX t3) (e_succ (eVar_e v3))) (by rw [List.length_map, List.length_map, List.length_take, List.length_drop, List.length_map]; omega)) ?_
    rw [← List.map_drop, ← List.map_append, ← pD_qp]
    refine grow 7 t3 I (by decide) _ t3 (L _ ?_ fun z hz => ?_) D0 .refl
    · rw [List.length_append, List.length_map, List.length_take, List.length_drop]
      omega
    · rcases List.mem_append.mp hz with q1 | q1
      · obtain ⟨z', hz', rfl⟩ := List.mem_map.mp q1
        exact addN _ (hx _ (List.mem_of_mem_take hz'))
      · exact hxN z (List.mem_of_mem_drop q1)
  clear I
  obtain ⟨hτ, I⟩ := hp
  rw [hτ]
  clear hτ τ
  -- the last parts
  refine ws_cons (N' := fun τ t => τ = T ∧ ∃ Ls : List (List (Int × Int)), lstAt t r = some (Ls.map pD) ∧ Ls.length ≤ 9 ∧ (∀ ps ∈ Ls, Ln E N ps) ∧ DS ns t ∧ Fr s t) ?_ fun τ t5 hp => ?_
  · obtain ⟨Ls, g, D0⟩ := gI I
    refine ws_app (m := r) (eVar_e v5) g ?_
    have e1 := e_slFrom (τ := T) (s := t4) (eX t4) (eVar_e v3)
    rw [← List.map_drop] at e1
    have e2 := e_plusAll (b := 6) (c := 4) e1 (by rw [List.length_drop]; omega) qq (fun z hz => qx z (List.mem_of_mem_drop hz)) wp
    refine W.of (e_add (e_slTo (eX t4) (eVar_e v3)) e2 (by rw [List.length_map, List.length_map, List.length_take, List.length_drop, List.length_map]; omega)) ?_
    rw [← List.map_take, ← List.map_append, ← pD_qp]
    refine grow 8 t4 I (by decide) _ t4 (L _ ?_ fun z hz => ?_) D0 .refl
    · rw [List.length_append, List.length_map, List.length_take, List.length_drop]
      omega
    · rcases List.mem_append.mp hz with q1 | q1
      · exact hxN z (List.mem_of_mem_take q1)
      · obtain ⟨z', hz', rfl⟩ := List.mem_map.mp q1
        exact addN _ (hx _ (List.mem_of_mem_drop hz'))
  clear I
  obtain ⟨hτ, Ls, g, _, o, D0, F0⟩ := hp
  rw [hτ]
  exact ws_ret (W.of (eVar_e v5) ⟨r, Ls, rfl, lr, g, o, D0, F0⟩)
end

/-! k65: judged, told -/
section
variable {E N n : Nat} {a w x : List Rat}
theorem isF_qp {x : Rat} : isF (qp x) = true := by
  unfold isF qp
  simp only [Bool.and_eq_true, decide_eq_true_eq]
  refine ⟨?_, ?_⟩
  · have := x.den_pos
    omega
  · rw [Int.natAbs_natCast]
    exact x.reduced
theorem jB_qp (lx : x.length = n) : jB n a w (x.map qp) = kkB n (fnR a) (fnR w) (fnR x) := by
  unfold jB
  rw [List.length_map, decide_eq_true lx, map_rp, Bool.true_and]
  have : (x.map qp).all isF = true := by
    rw [List.all_map, List.all_eq_true]
    exact fun z _ => isF_qp
  rw [this, Bool.true_and]
theorem Ln.rps {ps : List (Int × Int)} (L : Ln E N ps) : ps.all isF = true → ∀ z ∈ ps.map rp, Rp E N z := fun h z hz => by
  obtain ⟨p, hp, rfl⟩ := List.mem_map.mp hz
  exact (L.p p hp).r (List.all_eq_true.mp h p hp)
theorem w_judged {st : Store} {ps : List (Int × Int)} (Z : Sz E N n a w) (h0 : 0 < n) (L : Ln E N ps) : W (f__law_judged [.tup (a.map qd), .tup (w.map qd), pD ps] st) fun d t => d = .bl true ∧ Gr st t := by
  have j := w_judge (st := st) Z (fun _ => L.rps) L.l
  have b := fun t => r_nearestB (st := t) Z h0 (fun _ => L.rps) L.l fun p hp => (L.p p hp).b
  obtain ⟨X, hX⟩ : ∃ X, X = D.tup (a.map qd) := ⟨_, rfl⟩
  obtain ⟨Y, hY⟩ : ∃ Y, Y = D.tup (w.map qd) := ⟨_, rfl⟩
  unfold pD
  obtain ⟨V, hV⟩ : ∃ V, V = D.tup (ps.map frp) := ⟨_, rfl⟩
  obtain ⟨B, hB⟩ : ∃ B, B = jB n a w ps := ⟨_, rfl⟩
  rw [← hX, ← hY, ← hV, ← hB] at j b
  rw [← hX, ← hY, ← hV]
  unfold f__law_judged
  rw [runB_e]
  unfold m__law_judged
  rw [W_fin]
  have n4 : ent 4 [X, Y, V] = [some X, some Y, some V, none] := rfl
  rw [n4]
  refine ws_cons (N' := fun τ t => τ = [some X, some Y, some V, some (.bl B)] ∧ Gr st t) (ws_set ?_) fun τ t hp => ?_
  · rw [call3 (eVar_e rfl) (eVar_e rfl) (eVar_e rfl)]
    refine j.mono fun d t hp => ?_
    obtain ⟨rfl, G⟩ := hp
    exact ⟨rfl, G⟩
  obtain ⟨rfl, G⟩ := hp
  refine ws_ret (W.of (a := .bl true) (s := t) ?_ ⟨rfl, G⟩)
  have e : eCall 3 f__law_is_nearest (aCons (eVar 0) (aCons (eVar 1) (aCons (eVar 2) aNil))) [some X, some Y, some V, some (.bl B)] t = .ok (.bl B) t := by
    rw [call3 (eVar_e rfl) (eVar_e rfl) (eVar_e rfl)]
    exact b t
  generalize eCall 3 f__law_is_nearest (aCons (eVar 0) (aCons (eVar 1) (aCons (eVar 2) aNil))) = fe at e ⊢
  simp [e]
/-- two rows that are alike -/
theorem rows_eq {x y : List Rat} (lx : x.length = n) (ly : y.length = n) (h : ∀ k, k < n → fnR x k = fnR y k) : x = y := by
  refine List.ext_getElem (by omega) fun k h1 h2 => ?_
  have := h k (by omega)
  unfold fnR at this
  rwa [getD_at h1, getD_at h2] at this
theorem pav_eq (Z : Sz E N n a w) (lx : x.length = n) (K : KK n (fnR a) (fnR w) (fnR x)) : pav a w n = x :=
  rows_eq (pav_len Z) lx ((pav_kk Z).uniq Z.hw K)
/-- what is told has one denominator -/
theorem told_sz (Z : Sz E N n a w) (hE : E * 2 ^ 280 < 2 ^ 400) (hN : N * 2 ^ 294 < 2 ^ 450) : ∃ E' N', Sz E' N' n a w ∧ (∀ z ∈ pav a w n, Rp E' N' z) ∧ ∀ z, Rp E N z → Rp E' N' z := by
  have hS := stkOf_stk Z.hw n (Nat.le_refl _) (a := fnR a)
  obtain ⟨L, l0, l1, hL⟩ := hS.rp Z (Nat.le_refl _)
  have lb := hS.lenB
  have n20 := Z.n20
  have L2 : L ≤ 2 ^ 280 := Nat.le_trans l1 (Nat.le_trans (Nat.pow_le_pow_right (by decide) (show (stkOf (fnR a) (fnR w) n).length ≤ 20 by omega)) (by decide +kernel))
  have up : ∀ z, Rp E N z → Rp (E * L) (N * 2 ^ 14 * L) z := fun z hz => by
    refine hz.up ⟨L, rfl⟩ Z.e0 ?_
    rw [Nat.mul_div_cancel_left _ Z.e0]
    exact Nat.mul_le_mul_right _ (Nat.le_mul_of_pos_right _ (by decide))
  refine ⟨E * L, N * 2 ^ 14 * L, ⟨n20, Z.la, Z.lw, Nat.mul_pos Z.e0 l0, Nat.lt_of_le_of_lt (Nat.mul_le_mul_left _ L2) hE, ?_, fun z hz => up z (Z.a z hz), Z.w⟩, hL, up⟩
  refine Nat.lt_of_le_of_lt (Nat.mul_le_mul_left _ L2) ?_
  rw [Nat.mul_assoc]
  exact hN
theorem r_toldB {st : Store} (Z : Sz E N n a w) (h0 : 0 < n) (hE : E * 2 ^ 280 < 2 ^ 400) (hN : N * 2 ^ 294 < 2 ^ 450) : f__law_is_nearest [.tup (a.map qd), .tup (w.map qd), .tup ((pav a w n).map qd)] st = .ok (.bl true) st := by
  obtain ⟨E', N', Z', hp, _⟩ := told_sz Z hE hN
  have L : Ln E' N' ((pav a w n).map qp) := .of ⟨Z'.e0, Z'.e1, Z'.n1⟩ (by rw [pav_len Z]; have := Z.n20; omega) hp
  have := r_nearestB (st := st) Z' h0 (fun _ => L.rps) L.l fun p hp => (L.p p hp).b
  rw [map_frp, jB_qp (pav_len Z), kkB_iff.mpr (pav_kk Z)] at this
  exact this
theorem w_toldJ {st : Store} (Z : Sz E N n a w) (hE : E * 2 ^ 280 < 2 ^ 400) (hN : N * 2 ^ 294 < 2 ^ 450) : W (f_judge_rising [.tup (a.map qd), .tup (w.map qd), .tup ((pav a w n).map qd)] st) fun d t => d = .bl true ∧ Gr st t := by
  obtain ⟨E', N', Z', hp, _⟩ := told_sz Z hE hN
  have L : Ln E' N' ((pav a w n).map qp) := .of ⟨Z'.e0, Z'.e1, Z'.n1⟩ (by rw [pav_len Z]; have := Z.n20; omega) hp
  have := w_judge (st := st) Z' (fun _ => L.rps) L.l
  rw [map_frp, jB_qp (pav_len Z), kkB_iff.mpr (pav_kk Z)] at this
  exact this
theorem pl_row {xs : List Rat} : (D.tup (xs.map qd)).plain 60 = true := by
  rw [plain_tup, List.all_eq_true]
  intro d hd
  obtain ⟨z, _, rfl⟩ := List.mem_map.mp hd
  rfl
theorem tup_eq {st : Store} {X : D} {xs : List Rat} (h : X = .tup (xs.map qd)) : oEq X X st = .ok (.bl true) st ∧ oNe X X st = .ok (.bl false) st := by
  rw [h]
  have p := pl_row (xs := xs)
  constructor
  · rw [oEq_tup p p, decide_eq_true rfl]
  · rw [oNe_tup p p, decide_eq_true rfl]
    rfl
end

/-! k65: the right row -/
section
variable {E N M n : Nat} {a w x : List Rat} {ns : List Int} {s : Store} {τ : Sl}
theorem callK3 {f : FM} {fa fb fc : EM D} {a b c : D} (h1 : fa τ s = .ok a s) (h2 : fb τ s = .ok b s) (h3 : fc τ s = .ok c s) : eCallK 0 3 3 [0, 1, 2] f aNil (aCons fa (aCons fb (aCons fc aNil))) τ s = f [a, b, c] s := by
  simp [h1, h2, h3, arr]
theorem callK2 {f : FM} {fa fb : EM D} {a b : D} (h1 : fa τ s = .ok a s) (h2 : fb τ s = .ok b s) : eCallK 0 2 2 [0, 1] f aNil (aCons fa (aCons fb aNil)) τ s = f [a, b] s := by
  simp [h1, h2, arr]
theorem ws_no {g : EM Bool} {u w : SM} {N : Sl → Store → Prop} {R : D → Store → Prop} {B C : Sl → Store → Prop} (P : Store → Prop) (h : W (g τ s) fun b t => b = false ∧ P t) (k : ∀ t, P t → WS (w τ t) N R B C) : WS (sSeq (sIf g u sNil) w τ s) N R B C := by
  rw [sSeq_e, WS_seq]
  refine ws_ifd (fun b t => b = false ∧ P t) h (fun t hp => absurd hp.1 (by decide)) fun t hp => ?_
  rw [sNil_e, WS_nx]
  exact k t hp.2
structure Rt (E N M n : Nat) (a w x : List Rat) : Prop where
  Z : Sz E N n a w
  hE : E * 2 ^ 280 < 2 ^ 400
  hN : N * 2 ^ 294 < 2 ^ 450
  dE : 12 ∣ E
  hM : M + 60 * (E / 12) ≤ N
  lx : x.length = n
  hx : ∀ z ∈ x, Rp E M z
  h0 : 1 ≤ n
  wl : ∀ z ∈ w, Ld z
  K : KK n (fnR a) (fnR w) (fnR x)
theorem En.of (Z : Sz E N n a w) : En E N := ⟨Z.e0, Z.e1, Z.n1⟩
theorem w_right (R : Rt E N M n a w x) (H : DS ns s) : W (f__law_right [.ref 1, .tup (a.map qd), .tup (w.map qd), .tup (x.map qd)] s) fun d t => d = .bl true ∧ DS ns t ∧ Fr s t := by
  have Z := R.Z
  have n20 := Z.n20
  have h0 := R.h0
  have hxN : ∀ z ∈ x, Rp E N z := fun z hz => (R.hx z hz).le (by have := R.hM; omega)
  have Lx : Ln E N (x.map qp) := .of (.of Z) (by rw [R.lx]; omega) hxN
  have pe := pav_eq Z R.lx R.K
  have near := fun t => r_nearest (st := t) Z
  have tb := fun t => r_toldB (st := t) Z h0 R.hE R.hN
  have tj := fun t => w_toldJ (st := t) Z R.hE R.hN
  have sp := fun t (D : DS ns t) => w_spoilt (s := t) (.of Z) R.dE R.hM D R.lx Z.la h0 n20 R.hx Z.a
  have jd := fun t ps (L : Ln E N ps) => w_judged (st := t) Z h0 L
  have te := fun t => tup_eq (st := t) (X := .tup (x.map qd)) (xs := x) rfl
  have aw := fun (k : Nat) (h : k < n) (t : Store) => r_at (x := w) (st := t) (k := k) (by rw [Z.lw]; exact h)
  have wth := fun (k : Nat) (d : D) t => r_with (st := t) (xs := w.map qd) (k := k) (d := d) (by rw [List.length_map, Z.lw]; omega)
  -- the heavier loads
  have hv : ∀ (k : Nat) (u : Rat), k < n → Rp 12 60 u → 0 < u → ∃ w', D.tup ((w.map qd).take k ++ [qd (fnR w k + u)] ++ (w.map qd).drop (k + 1)) = .tup (w'.map qd) ∧ Sz E N n a w' := fun k u hk hu u0 => by
    refine ⟨w.take k ++ [fnR w k + u] ++ w.drop (k + 1), ?_, ⟨n20, Z.la, ?_, Z.e0, Z.e1, Z.n1, Z.a, fun z hz => ?_⟩⟩
    · rw [List.map_append, List.map_append, List.map_take, List.map_drop]
      rfl
    · have := Z.lw
      rw [List.length_append, List.length_append, List.length_take, List.length_drop, List.length_singleton]
      omega
    · rcases List.mem_append.mp hz with q1 | q1
      · rcases List.mem_append.mp q1 with q2 | q2
        · exact Z.w z (List.mem_of_mem_take q2)
        · rw [List.mem_singleton.mp q2]
          have o := R.wl _ (fn_mem (xs := w) (k := k) (by rw [Z.lw]; exact hk))
          have p := o.p
          exact ⟨by grind, (o.r.add hu).le (by decide)⟩
      · exact Z.w z (List.mem_of_mem_drop q1)
  rw [pe] at near tb tj
  obtain ⟨A, hA⟩ : ∃ A, A = D.tup (a.map qd) := ⟨_, rfl⟩
  obtain ⟨Wd, hW⟩ : ∃ A, A = D.tup (w.map qd) := ⟨_, rfl⟩
  obtain ⟨X, hX⟩ : ∃ A, A = D.tup (x.map qd) := ⟨_, rfl⟩
  have lX : ∀ t, fLen [X] t = .ok (.int (n : Nat)) t := fun t => by rw [hX, fLen_tup, List.length_map, R.lx]
  rw [← hA, ← hW, ← hX] at near tb tj
  rw [← hA, ← hX] at sp
  rw [← hA, ← hW] at jd
  rw [← hX] at te
  rw [← hW] at aw wth
  rw [← hA, ← hW, ← hX]
  unfold f__law_right
  rw [runB_e]
  unfold m__law_right
  rw [W_fin]
  have n8 : ent 8 [.ref 1, A, Wd, X] = [some (.ref 1), some A, some Wd, some X, none, none, none, none] := rfl
  rw [n8]
  refine ws_cons (N' := fun τ t => τ = [some (.ref 1), some A, some Wd, some X, some X, none, none, none] ∧ DS ns t ∧ Fr s t) (ws_set ?_) fun τ t hp => ?_
  · rw [call2 (eVar_e rfl) (eVar_e rfl)]
    refine (near s).mono fun d t hp => ?_
    obtain ⟨rfl, G⟩ := hp
    exact ⟨rfl, G.ds H, G.fr⟩
  obtain ⟨rfl, D1, F1⟩ := hp
  have e1 : tOr (HM.tNot (tVal (eCall 3 f__law_is_nearest (aCons (eVar 1) (aCons (eVar 2) (aCons (eVar 4) aNil)))))) (tBl (eBin oNe (eVar 4) (eVar 3))) [some (.ref 1), some A, some Wd, some X, some X, none, none, none] t = .ok false t := by
    rw [tOr_e, tNot_e, tVal_e, call3 (eVar_e rfl) (eVar_e rfl) (eVar_e rfl), tb t]
    show tBl (eBin oNe (eVar 4) (eVar 3)) [some (.ref 1), some A, some Wd, some X, some X, none, none, none] t = _
    rw [tBl_e, eBin_e, eVar_e rfl, ER.bind_ok, eVar_e rfl, ER.bind_ok, (te t).2]
    rfl
  refine ws_skip e1 ?_
  refine ws_no (fun u => DS ns u ∧ Fr s u) ?_ fun u hp => ?_
  · obtain ⟨d, u, e, rfl, G⟩ := (tj t).ex
    refine W.of (a := false) (s := u) ?_ ⟨rfl, G.ds D1, F1.trans G.fr⟩
    rw [tBl_e, eBin_e, callK3 (eVar_e rfl) (eVar_e rfl) (eVar_e rfl), e, ER.bind_ok, eC_e, ER.bind_ok]
    rfl
  clear D1 F1
  obtain ⟨D1, F1⟩ := hp
  -- the spoilt rows
  refine ws_cons (N' := fun τ t => (∃ d, τ = [some (.ref 1), some A, some Wd, some X, some X, d, none, none]) ∧ DS ns t ∧ Fr s t) ?_ fun τ v hp => ?_
  · obtain ⟨_, v, e, r, Ls, rfl, lr, g, o, D2, F2⟩ := (sp u D1).ex
    refine ws_forD (fun q t => q = .cell r (Ls.map pD) ∧ t = v) ?_ ?_
    · rw [iEx_e, call3 (eVar_e rfl) (eVar_e rfl) (eVar_e rfl), e, ER.bind_ok]
      have hq : dSq v (.ref r) = some (.cell r (Ls.map pD)) := by simp [dSq, g]
      rw [hq, ofQ_some, W_ok]
      exact ⟨rfl, rfl⟩
    rintro _ t ⟨rfl, ht⟩
    rw [ht]
    have two := D2.len
    refine ws_all pD (fun _ => true) (fun τ => ∃ d, τ = [some (.ref 1), some A, some Wd, some X, some X, d, none, none]) (fun t => lstAt t r = some (Ls.map pD) ∧ DS ns t ∧ Fr s t) (fun t hJ => by simp [Sq.chk, hJ.1]) Ls _ _ _ rfl ⟨_, rfl⟩ ⟨g, D2, F1.trans F2⟩ (fun ps hps τ t hI hJ => ?_) (fun τ t _ hI hJ => ⟨hI, hJ.2⟩) fun t h => absurd h (by simp)
    obtain ⟨d, rfl⟩ := hI
    obtain ⟨gt, D3, F3⟩ := hJ
    refine ⟨[some (.ref 1), some A, some Wd, some X, some X, some (pD ps), none, none], rfl, ?_⟩
    refine ws_ifd (fun b u => b = false ∧ Gr t u) ?_ (fun u hp => absurd hp.1 (by decide)) fun u hp => by rw [sNil_e, WS_nx]; exact ⟨rfl, ⟨_, rfl⟩, hp.2.lst gt, hp.2.ds D3, F3.trans hp.2.fr⟩
    obtain ⟨_, u, e, rfl, G⟩ := (jd t ps (o ps hps)).ex
    exact W.of (a := false) (s := u) (by rw [tNot_e, tVal_e, call3 (eVar_e rfl) (eVar_e rfl) (eVar_e rfl), e]; rfl) ⟨rfl, G⟩
  clear D1 F1
  obtain ⟨⟨d, rfl⟩, D1, F1⟩ := hp
  refine ws_cons (N' := fun τ t => ∃ k : Nat, k < n ∧ τ = [some (.ref 1), some A, some Wd, some X, some X, d, some (.int (k : Nat)), none] ∧ DS ns t ∧ Fr s t) ?_ fun τ t hp => ?_
  · refine ws_set ?_
    obtain ⟨k, t, e, hk, D2, F2⟩ := e_draw (τ := [some (.ref 1), some A, some Wd, some X, some X, d, none, none]) (i := 0) (m := n) (fe := eCB fLen (aCons (eVar 3) aNil)) D1 rfl (by rw [eCB_e, aCons_e, eVar_e rfl]; exact lX v) (by omega) (by omega)
    exact W.of e ⟨k, hk, rfl, D2, F1.trans F2⟩
  clear D1 F1
  obtain ⟨k, hk, rfl, D1, F1⟩ := hp
  refine ws_cons (N' := fun τ t => ∃ w', τ = [some (.ref 1), some A, some Wd, some X, some X, d, some (.int (k : Nat)), some (.tup (w'.map qd))] ∧ Sz E N n a w' ∧ DS ns t ∧ Fr s t) ?_ fun τ u hp => ?_
  · refine ws_set ?_
    obtain ⟨_, u, e, z, rfl, hz, z0, D2, F2⟩ := (e_up (τ := [some (.ref 1), some A, some Wd, some X, some X, d, some (.int (k : Nat)), none]) D1 rfl).ex
    have i2 : eBin oIx (eVar 2) (eVar 6) [some (.ref 1), some A, some Wd, some X, some X, d, some (.int (k : Nat)), none] t = .ok (qd (fnR w k)) t := by
      rw [eBin_e, eVar_e rfl, ER.bind_ok, eVar_e rfl, ER.bind_ok]
      exact aw k hk t
    have ow := R.wl _ (fn_mem (xs := w) (k := k) (by rw [Z.lw]; exact hk))
    rw [call3 (eVar_e rfl) (eVar_e rfl) (by rw [call2 i2 e]; exact r_lplusQ (k := 1000) (l := 1000) (ow.r.qb (by decide) (by decide) (by decide)) (q60 hz) (by decide))]
    obtain ⟨w', ew, Zw⟩ := hv k z hk hz z0
    refine W.of (wth k _ _) ?_
    rw [ew]
    exact ⟨w', rfl, Zw, D2, F1.trans F2⟩
  clear D1 F1
  obtain ⟨w', rfl, Zw, D1, F1⟩ := hp
  have jd' := fun t => w_judged (st := t) Zw h0 Lx
  have near' := fun t => r_nearest (st := t) Zw
  have tb' := fun t => r_toldB (st := t) Zw h0 R.hE R.hN
  rw [pD_qp, ← hX, ← hA] at jd'
  rw [← hA] at near' tb'
  obtain ⟨V, hV⟩ : ∃ A, A = D.tup (w'.map qd) := ⟨_, rfl⟩
  obtain ⟨Pv, hP⟩ : ∃ A, A = D.tup ((pav a w' n).map qd) := ⟨_, rfl⟩
  rw [← hV] at jd' near' tb' ⊢
  rw [← hP] at near' tb'
  refine ws_no (fun t => DS ns t ∧ Fr s t) ?_ fun t hp => ?_
  · obtain ⟨_, t, e, rfl, G⟩ := (jd' u).ex
    exact W.of (a := false) (s := t) (by rw [tNot_e, tVal_e, call3 (eVar_e rfl) (eVar_e rfl) (eVar_e rfl), e]; rfl) ⟨rfl, G.ds D1, F1.trans G.fr⟩
  clear D1 F1
  obtain ⟨D1, F1⟩ := hp
  refine ws_no (fun t => DS ns t ∧ Fr s t) ?_ fun t2 hp => ?_
  · obtain ⟨_, t2, e, rfl, G⟩ := (near' t).ex
    exact W.of (a := false) (s := t2) (by rw [tNot_e, tVal_e, call3 (eVar_e rfl) (eVar_e rfl) (by rw [call2 (eVar_e rfl) (eVar_e rfl)]; exact e), tb' t2]; rfl) ⟨rfl, G.ds D1, F1.trans G.fr⟩
  clear D1 F1
  obtain ⟨D1, F1⟩ := hp
  refine ws_ret ?_
  obtain ⟨_, t3, e, rfl, G⟩ := (near t2).ex
  refine W.of (a := .bl true) (s := t3) ?_ ⟨rfl, G.ds D1, F1.trans G.fr⟩
  rw [eBin_e, callK2 (eVar_e rfl) (eVar_e rfl), e, ER.bind_ok, eVar_e rfl, ER.bind_ok]
  exact (te t3).1
end

/-! k65: bad ones, free ones -/
section
variable {n : Nat} {a w x : List Rat} {ns : List Int} {s : Store} {τ : Sl}
theorem e_neg1 {t : Store} : eUn oNeg (eC (.int 1)) τ t = .ok (.int (-1)) t := rfl
theorem ld_sz {E N : Nat} (e : En E N) (hn : n ≤ 20) (la : a.length = n) (lw : w.length = n) (ha : ∀ z ∈ a, Rp E N z) (hw : ∀ z ∈ w, Ld z) : Sz E N n a w :=
  ⟨hn, la, lw, e.e0, e.e1, e.n1, ha, fun z hz => ⟨(hw z hz).p, (hw z hz).r.le (by decide)⟩⟩
theorem e_numbers {il iw id : Nat} {fb : EM D} {bad : Int} {t : Store} (H : DS ns t) (hb : fb τ s = .ok (.int bad) t) (F : Fr s t) (hl : τ[il]? = some (some (.tup (x.map qd)))) (hw : τ[iw]? = some (some (.tup (w.map qd)))) (hd : τ[id]? = some (some (.ref 1)))
    (lx : x.length = n) (lw : w.length = n) (hn : n ≤ 20) (ox : ∀ z ∈ x, Rp 12 2048 z) (ow : ∀ z ∈ w, Ld z) :
    W (eCall 3 f__law_answers_of (aCons (eVar il) (aCons (eVar iw) (aCons (eCall 3 f__law_led (aCons (eVar id) (aCons (eVar il) (aCons fb aNil)))) aNil))) τ s) fun d u => ∃ a : List Rat, d = .tup (a.map qd) ∧ a.length = n ∧ (∀ z ∈ a, Rp 720 (2 ^ 18) z) ∧ (bad = -1 → Up n (fnR x) → KK n (fnR a) (fnR w) (fnR x)) ∧ DS ns u ∧ Fr s u := by
  obtain ⟨_, t2, e, r, l, rfl, lr, g, ll, ol, ok, D2, F2⟩ := (w_led (bad := bad) H lx hn).ex
  have two := H.len
  rw [call3 (eVar_e hl) (eVar_e hw) (by rw [call3 (eVar_e hd) (eVar_e hl) hb]; exact e)]
  refine (w_answers D2 lx lw ll hn ox ow ol g (by omega)).mono fun d u hp => ?_
  obtain ⟨a, rfl, la, oa, rel, D3, F3⟩ := hp
  exact ⟨a, rfl, la, oa, fun hb up => kk_led rel up (ok hb), D3, (F.trans F2).trans F3⟩
theorem x720 (ox : ∀ z ∈ x, Rp 12 2048 z) : ∀ z ∈ x, Rp 720 (2 ^ 18) z := fun z hz => (ox z hz).up (by decide) (by decide) (by decide)
theorem en720 : En 720 (2 ^ 18) := ⟨by decide, by decide +kernel, by decide +kernel⟩
theorem w_bad (H : DS ns s) (h1 : 1 ≤ n) (hn : n ≤ 20) (lw : w.length = n) (ow : ∀ z ∈ w, Ld z) : W (f__law_bad_ones [.ref 1, .int (n : Nat), .tup (w.map qd)] s) fun d t => d = .bl true ∧ DS ns t ∧ Fr s t := by
  unfold f__law_bad_ones
  rw [runB_e]
  unfold m__law_bad_ones
  rw [W_fin]
  have n5 : ent 5 [.ref 1, .int (n : Nat), .tup (w.map qd)] = [some (.ref 1), some (.int (n : Nat)), some (.tup (w.map qd)), none, none] := rfl
  rw [n5]
  have jd : ∀ (a x : List Rat) (t : Store), a.length = n → x.length = n → (∀ z ∈ a, Rp 720 (2 ^ 18) z) → (∀ z ∈ x, Rp 12 2048 z) → W (f__law_judged [.tup (a.map qd), .tup (w.map qd), .tup (x.map qd)] t) fun d u => d = .bl true ∧ Gr t u := fun a x t la lx oa ox => by
    have := w_judged (st := t) (ps := x.map qp) (ld_sz en720 hn la lw oa ow) (by omega) (Ln.of en720 (by omega) (x720 ox))
    rw [pD_qp] at this
    exact this
  refine ws_cons (N' := fun τ t => ∃ x : List Rat, τ = [some (.ref 1), some (.int (n : Nat)), some (.tup (w.map qd)), some (.tup (x.map qd)), none] ∧ x.length = n ∧ (∀ z ∈ x, Rp 12 2048 z) ∧ DS ns t ∧ Fr s t) (ws_set ?_) fun τ t hp => ?_
  · rw [call3 (eVar_e rfl) (eVar_e rfl) e_neg1]
    refine (w_stairs H h1 hn).mono fun d t hp => ?_
    obtain ⟨x, rfl, lx, ox, _, D1, F1⟩ := hp
    exact ⟨x, rfl, lx, ox, D1, F1⟩
  obtain ⟨x, rfl, lx, ox, D1, F1⟩ := hp
  refine ws_cons (N' := fun τ t => ∃ a : List Rat, τ = [some (.ref 1), some (.int (n : Nat)), some (.tup (w.map qd)), some (.tup (x.map qd)), some (.tup (a.map qd))] ∧ a.length = n ∧ (∀ z ∈ a, Rp 720 (2 ^ 18) z) ∧ DS ns t ∧ Fr s t) (ws_set ?_) fun τ u hp => ?_
  · obtain ⟨v, u, e, hv, D2, F2⟩ := e_draw (τ := [some (.ref 1), some (.int (n : Nat)), some (.tup (w.map qd)), some (.tup (x.map qd)), none]) (i := 0) (m := n) (fe := eVar 1) D1 rfl (eVar_e rfl) (by omega) (by omega)
    refine (e_numbers D2 e F2 rfl rfl rfl lx lw hn ox ow).mono fun d u hp => ?_
    obtain ⟨a, rfl, la, oa, _, D3, F3⟩ := hp
    exact ⟨a, rfl, la, oa, D3, F1.trans F3⟩
  clear D1 F1
  obtain ⟨a, rfl, la, oa, D1, F1⟩ := hp
  refine ws_no (fun t => DS ns t ∧ Fr s t) ?_ fun t2 hp => ?_
  · obtain ⟨_, v, e, rfl, G⟩ := (jd a x u la lx oa ox).ex
    exact W.of (a := false) (s := v) (by rw [tNot_e, tVal_e, call3 (eVar_e rfl) (eVar_e rfl) (eVar_e rfl), e]; rfl) ⟨rfl, G.ds D1, F1.trans G.fr⟩
  clear D1 F1
  obtain ⟨D1, F1⟩ := hp
  refine ws_cons (N' := fun τ t => ∃ x a : List Rat, τ = [some (.ref 1), some (.int (n : Nat)), some (.tup (w.map qd)), some (.tup (x.map qd)), some (.tup (a.map qd))] ∧ x.length = n ∧ a.length = n ∧ (∀ z ∈ x, Rp 12 2048 z) ∧ (∀ z ∈ a, Rp 720 (2 ^ 18) z) ∧ DS ns t ∧ Fr s t) ?_ fun τ v hp => ?_
  · have et : tBl (eBin oGt (eVar 1) (eC (.int 1))) [some (.ref 1), some (.int (n : Nat)), some (.tup (w.map qd)), some (.tup (x.map qd)), some (.tup (a.map qd))] t2 = .ok (decide ((1 : Int) < n)) t2 := by
      rw [tBl_e, eBin_e, eVar_e rfl, ER.bind_ok, eC_e, ER.bind_ok]
      simp
    by_cases c : (1 : Int) < n
    · refine ws_if1 (by rw [et, decide_eq_true c]) ?_
      refine ws_cons (N' := fun τ t => ∃ x : List Rat, τ = [some (.ref 1), some (.int (n : Nat)), some (.tup (w.map qd)), some (.tup (x.map qd)), some (.tup (a.map qd))] ∧ x.length = n ∧ (∀ z ∈ x, Rp 12 2048 z) ∧ DS ns t ∧ Fr s t) (ws_set ?_) fun τ t hp => ?_
      · obtain ⟨v, u, e, hv, D2, F2⟩ := e_draw (τ := [some (.ref 1), some (.int (n : Nat)), some (.tup (w.map qd)), some (.tup (x.map qd)), some (.tup (a.map qd))]) (i := 0) (m := n - 1) (fe := eBin oSub (eVar 1) (eC (.int 1))) D1 rfl (by
          obtain ⟨m, hm⟩ : ∃ m, n = m + 1 := ⟨n - 1, by omega⟩
          have := e_pred (τ := [some (.ref 1), some (.int (n : Nat)), some (.tup (w.map qd)), some (.tup (x.map qd)), some (.tup (a.map qd))]) (st := t2) (j := 1) (k := m) (by rw [hm]; rfl)
          rw [this, show n - 1 = m by omega]) (by omega) (by omega)
        have e1 : eBin oAdd (eC (.int 1)) (eCall 2 f__law_draw (aCons (eVar 0) (aCons (eBin oSub (eVar 1) (eC (.int 1))) aNil))) [some (.ref 1), some (.int (n : Nat)), some (.tup (w.map qd)), some (.tup (x.map qd)), some (.tup (a.map qd))] t2 = .ok (.int (1 + (v : Int))) u := by
          rw [eBin_e, eC_e, ER.bind_ok, e, ER.bind_ok]
          simp
        rw [call3 (eVar_e rfl) (eVar_e rfl) e1]
        refine (w_stairs D2 h1 hn).mono fun d t hp => ?_
        obtain ⟨x, rfl, lx, ox, _, D3, F3⟩ := hp
        exact ⟨x, rfl, lx, ox, D3, (F1.trans F2).trans F3⟩
      clear D1 F1
      obtain ⟨x2, rfl, lx2, ox2, D1, F1⟩ := hp
      refine ws_set ((e_numbers D1 e_neg1 .refl rfl rfl rfl lx2 lw hn ox2 ow).mono fun d u hp => ?_)
      obtain ⟨a2, rfl, la2, oa2, _, D3, F3⟩ := hp
      exact ⟨x2, a2, rfl, lx2, la2, ox2, oa2, D3, F1.trans F3⟩
    · exact ws_if0n (by rw [et, decide_eq_false c]) ⟨x, a, rfl, lx, la, ox, oa, D1, F1⟩
  clear D1 F1
  obtain ⟨x2, a2, rfl, lx2, la2, ox2, oa2, D1, F1⟩ := hp
  refine ws_ret ?_
  rw [call3 (eVar_e rfl) (eVar_e rfl) (eVar_e rfl)]
  refine (jd a2 x2 v la2 lx2 oa2 ox2).mono fun d t hp => ?_
  obtain ⟨rfl, G⟩ := hp
  exact ⟨rfl, G.ds D1, F1.trans G.fr⟩
theorem w_freed {E N : Nat} (Z : Sz E N n a w) (dE : 12 ∣ E) (hM : 2048 * (E / 12) ≤ N) (hE : E * 2 ^ 280 < 2 ^ 400) (hN : N * 2 ^ 294 < 2 ^ 450) (h1 : 1 ≤ n) (H : DS ns s) : W (f__law_free [.ref 1, .tup (a.map qd), .tup (w.map qd)] s) fun d t => d = .bl true ∧ DS ns t ∧ Fr s t := by
  have n20 := Z.n20
  have near := fun t => r_nearest (st := t) Z
  have tb := fun t => r_toldB (st := t) Z h1 hE hN
  have tj := fun t => w_toldJ (st := t) Z hE hN
  obtain ⟨E', N', Z', op, lift⟩ := told_sz Z hE hN
  have kp := pav_kk Z
  have lp := pav_len Z
  obtain ⟨p, hp⟩ : ∃ p, p = pav a w n := ⟨_, rfl⟩
  rw [← hp] at near tb tj op kp lp
  have tE : ∀ {x : List Rat}, (∀ z ∈ x, Rp 12 2048 z) → ∀ z ∈ x, Rp E N z := fun h z hz => (h z hz).up dE (by decide) hM
  obtain ⟨A, hA⟩ : ∃ A, A = D.tup (a.map qd) := ⟨_, rfl⟩
  obtain ⟨Wd, hW⟩ : ∃ A, A = D.tup (w.map qd) := ⟨_, rfl⟩
  obtain ⟨Pp, hPp⟩ : ∃ A, A = D.tup (p.map qd) := ⟨_, rfl⟩
  have lA : ∀ t, fLen [A] t = .ok (.int (n : Nat)) t := fun t => by rw [hA, fLen_tup, List.length_map, Z.la]
  rw [← hA, ← hW, ← hPp] at tb tj
  rw [← hA, ← hW] at near
  rw [← hPp] at near
  rw [← hA, ← hW]
  unfold f__law_free
  rw [runB_e]
  unfold m__law_free
  rw [W_fin]
  have n8 : ent 8 [.ref 1, A, Wd] = [some (.ref 1), some A, some Wd, none, none, none, none, none] := rfl
  rw [n8]
  refine ws_cons (N' := fun τ t => τ = [some (.ref 1), some A, some Wd, some Pp, none, none, none, none] ∧ DS ns t ∧ Fr s t) (ws_set ?_) fun τ t hp => ?_
  · rw [call2 (eVar_e rfl) (eVar_e rfl)]
    refine (near s).mono fun d t hp => ?_
    obtain ⟨rfl, G⟩ := hp
    exact ⟨rfl, G.ds H, G.fr⟩
  obtain ⟨rfl, D1, F1⟩ := hp
  refine ws_no (fun t => DS ns t ∧ Fr s t) ?_ fun u hp => ?_
  · obtain ⟨_, u, e, rfl, G⟩ := (tj t).ex
    refine W.of (a := false) (s := u) ?_ ⟨rfl, G.ds D1, F1.trans G.fr⟩
    rw [tOr_e, tNot_e, tVal_e, call3 (eVar_e rfl) (eVar_e rfl) (eVar_e rfl), tb t]
    show tBl (eBin oIsNot (eCall 3 f_judge_rising (aCons (eVar 1) (aCons (eVar 2) (aCons (eVar 3) aNil)))) (eC (.bl true))) [some (.ref 1), some A, some Wd, some Pp, none, none, none, none] t = _
    rw [tBl_e, eBin_e, call3 (eVar_e rfl) (eVar_e rfl) (eVar_e rfl), e, ER.bind_ok, eC_e, ER.bind_ok]
    rfl
  clear D1 F1
  obtain ⟨D1, F1⟩ := hp
  refine ws_cons (N' := fun τ t => ∃ x : List Rat, τ = [some (.ref 1), some A, some Wd, some Pp, some (.tup (x.map qd)), none, none, none] ∧ x.length = n ∧ (∀ z ∈ x, Rp 12 2048 z) ∧ Up n (fnR x) ∧ DS ns t ∧ Fr s t) (ws_set ?_) fun τ t hp => ?_
  · rw [call3 (eVar_e rfl) (by rw [eCB_e, aCons_e, eVar_e rfl]; exact lA u) e_neg1]
    refine (w_stairs D1 h1 n20).mono fun d t hp => ?_
    obtain ⟨x, rfl, lx, ox, up, D2, F2⟩ := hp
    exact ⟨x, rfl, lx, ox, up rfl, D2, F1.trans F2⟩
  clear D1 F1
  obtain ⟨x, rfl, lx, ox, up, D1, F1⟩ := hp
  have oxE : ∀ z ∈ x, Rp E' N' z := fun z hz => lift z (tE ox z hz)
  have Y1 : Sy E' N' n w a x := ⟨n20, Z.lw, Z.la, lx, Z'.e0, Z'.e1, Z'.n1, Z.w, Z'.a, oxE⟩
  have Y2 : Sy E' N' n w a p := ⟨n20, Z.lw, Z.la, lp, Z'.e0, Z'.e1, Z'.n1, Z.w, Z'.a, op⟩
  have Y3 : Sy E' N' n w p x := ⟨n20, Z.lw, lp, lx, Z'.e0, Z'.e1, Z'.n1, Z.w, op, oxE⟩
  have sq1 := r_square (st := t) Y1
  have sq2 := r_square (st := t) Y2
  have sq3 := r_square (st := t) Y3
  have fr1 := r_is_far (st := t) Y1
  have fr2 := r_is_far (st := t) Y2
  have fr3 := r_is_far (st := t) Y3
  have q1 := Y1.dq (Nat.le_refl n)
  have q2 := Y2.dq (Nat.le_refl n)
  have q3 := Y3.dq (Nat.le_refl n)
  have far := kp.far up
  have pl := r_lplusQ (st := t) q2 q3 (by decide)
  have ls := r_llessQ (st := t) q1 (q2.add q3) (by decide)
  rw [decide_eq_false (Rat.not_lt.mpr far)] at ls
  -- the truth itself
  have Zt : Sz E N n x w := ⟨n20, lx, Z.lw, Z.e0, Z.e1, Z.n1, tE ox, Z.w⟩
  have kt : KK n (fnR x) (fnR w) (fnR x) := by
    have z : ∀ k, Sd (fnR x) (fnR w) (fnR x) k = 0 := fun k => by
      induction k with
      | zero => rfl
      | succ k ih =>
        rw [Sd, ih]
        grind
    exact ⟨up, fun k _ => by rw [z]; exact Rat.le_refl, fun k _ _ => z _⟩
  have near2 := fun t => r_nearest (st := t) Zt
  rw [pav_eq Zt lx kt] at near2
  have jd := fun t => w_judged (st := t) Zt h1 (Ln.of ⟨Z.e0, Z.e1, Z.n1⟩ (by omega) (tE ox))
  have te := fun t => (tup_eq (st := t) (X := .tup (x.map qd)) (xs := x) rfl).1
  rw [pD_qp] at jd
  obtain ⟨X, hX⟩ : ∃ A, A = D.tup (x.map qd) := ⟨_, rfl⟩
  obtain ⟨d1, hd1⟩ : ∃ A, A = Fd (fnR w) (fnR a) (fnR x) n := ⟨_, rfl⟩
  obtain ⟨d2, hd2⟩ : ∃ A, A = Fd (fnR w) (fnR a) (fnR p) n := ⟨_, rfl⟩
  obtain ⟨d3, hd3⟩ : ∃ A, A = Fd (fnR w) (fnR p) (fnR x) n := ⟨_, rfl⟩
  rw [← hW, ← hA, ← hX, ← hd1] at sq1 fr1
  rw [← hW, ← hA, ← hPp, ← hd2] at sq2 fr2
  rw [← hW, ← hPp, ← hX, ← hd3] at sq3 fr3
  rw [← hd2, ← hd3] at pl
  rw [← hd1, ← hd2, ← hd3] at ls
  rw [← hX, ← hW] at near2 jd
  rw [← hX] at te ⊢
  refine ws_cons (N' := fun τ u => τ = [some (.ref 1), some A, some Wd, some Pp, some X, some (qd d1), none, none] ∧ u = t) (ws_set (by rw [call3 (eVar_e rfl) (eVar_e rfl) (eVar_e rfl)]; exact W.of sq1 ⟨rfl, rfl⟩)) fun τ u hp => ?_
  obtain ⟨rfl, hu⟩ := hp
  rw [hu]
  clear hu u
  refine ws_cons (N' := fun τ u => τ = [some (.ref 1), some A, some Wd, some Pp, some X, some (qd d1), some (qd d2), none] ∧ u = t) (ws_set (by rw [call3 (eVar_e rfl) (eVar_e rfl) (eVar_e rfl)]; exact W.of sq2 ⟨rfl, rfl⟩)) fun τ u hp => ?_
  obtain ⟨rfl, hu⟩ := hp
  rw [hu]
  clear hu u
  refine ws_cons (N' := fun τ u => τ = [some (.ref 1), some A, some Wd, some Pp, some X, some (qd d1), some (qd d2), some (qd d3)] ∧ u = t) (ws_set (by rw [call3 (eVar_e rfl) (eVar_e rfl) (eVar_e rfl)]; exact W.of sq3 ⟨rfl, rfl⟩)) fun τ u hp => ?_
  obtain ⟨rfl, hu⟩ := hp
  rw [hu]
  clear hu u
  obtain ⟨T, hT⟩ : ∃ T : Sl, T = [some (.ref 1), some A, some Wd, some Pp, some X, some (qd d1), some (qd d2), some (qd d3)] := ⟨_, rfl⟩
  have v1 : T[1]? = some (some A) := by rw [hT]; rfl
  have v2 : T[2]? = some (some Wd) := by rw [hT]; rfl
  have v3 : T[3]? = some (some Pp) := by rw [hT]; rfl
  have v4 : T[4]? = some (some X) := by rw [hT]; rfl
  have v5 : T[5]? = some (some (qd d1)) := by rw [hT]; rfl
  have v6 : T[6]? = some (some (qd d2)) := by rw [hT]; rfl
  have v7 : T[7]? = some (some (qd d3)) := by rw [hT]; rfl
  rw [← hT]
  clear hT
  have f1 : HM.tNot (tVal (eCall 4 f__law_is_far (aCons (eVar 2) (aCons (eVar 1) (aCons (eVar 4) (aCons (eVar 5) aNil)))))) T t = .ok false t := by
    rw [tNot_e, tVal_e, call4 (eVar_e v2) (eVar_e v1) (eVar_e v4) (eVar_e v5), fr1]
    rfl
  have f2 : HM.tNot (tVal (eCall 4 f__law_is_far (aCons (eVar 2) (aCons (eVar 1) (aCons (eVar 3) (aCons (eVar 6) aNil)))))) T t = .ok false t := by
    rw [tNot_e, tVal_e, call4 (eVar_e v2) (eVar_e v1) (eVar_e v3) (eVar_e v6), fr2]
    rfl
  have f3 : HM.tNot (tVal (eCall 4 f__law_is_far (aCons (eVar 2) (aCons (eVar 3) (aCons (eVar 4) (aCons (eVar 7) aNil)))))) T t = .ok false t := by
    rw [tNot_e, tVal_e, call4 (eVar_e v2) (eVar_e v3) (eVar_e v4) (eVar_e v7), fr3]
    rfl
  have f4 : tVal (eCall 2 f__law_less (aCons (eVar 5) (aCons (eCall 2 f__law_plus (aCons (eVar 6) (aCons (eVar 7) aNil))) aNil))) T t = .ok false t := by
    rw [tVal_e, call2 (eVar_e v5) (by rw [call2 (eVar_e v6) (eVar_e v7)]; exact pl), ls]
    rfl
  refine ws_skip (by rw [tOr_e, f1]; exact f2) (ws_skip (by rw [tOr_e, f3]; exact f4) (ws_ret ?_))
  obtain ⟨_, u, e, rfl, G⟩ := (near2 t).ex
  obtain ⟨_, v, e2, rfl, G2⟩ := (jd u).ex
  refine W.of (a := .bl true) (s := v) ?_ ⟨rfl, G2.ds (G.ds D1), (F1.trans G.fr).trans G2.fr⟩
  have ea : eBin oEq (eCall 2 f_nearest_rising (aCons (eVar 4) (aCons (eVar 2) aNil))) (eVar 4) T t = .ok (.bl true) u := by
    rw [eBin_e, call2 (eVar_e v4) (eVar_e v2), e, ER.bind_ok, eVar_e v4, ER.bind_ok]
    exact te u
  have eb : eCall 3 f__law_judged (aCons (eVar 4) (aCons (eVar 2) (aCons (eVar 4) aNil))) T u = .ok (.bl true) v := by
    rw [call3 (eVar_e v4) (eVar_e v2) (eVar_e v4)]
    exact e2
  generalize eBin oEq (eCall 2 f_nearest_rising (aCons (eVar 4) (aCons (eVar 2) aNil))) (eVar 4) = fa at ea ⊢
  generalize eCall 3 f__law_judged (aCons (eVar 4) (aCons (eVar 2) (aCons (eVar 4) aNil))) = fb at eb ⊢
  simp [ea, eb]
end

/-! k65: the law -/
abbrev G0 : Nat := 1000000000000000000000000000003
abbrev DA : Nat := 720 * G0
abbrev NG : Nat := 10000000000000000000000000000000000001000
theorem pw40 : okPow 10 40 = true := by decide
theorem pw30 : okPow 10 30 = true := by decide
theorem daE : DA * 2 ^ 280 < 2 ^ 400 := by decide +kernel
theorem daN : (2 : Nat) ^ 150 * 2 ^ 294 < 2 ^ 450 := by decide +kernel
theorem da12 : 12 ∣ DA := ⟨60 * G0, by decide +kernel⟩
theorem da720 : 720 ∣ DA := ⟨G0, rfl⟩
theorem daM : 2 ^ 149 + 60 * (DA / 12) ≤ 2 ^ 150 := by decide +kernel
theorem daF : 2048 * (DA / 12) ≤ 2 ^ 150 := by decide +kernel
theorem enA : En DA (2 ^ 150) := ⟨by decide +kernel, by decide +kernel, by decide +kernel⟩
theorem rpX {z : Rat} (h : Rp 12 2048 z) : Rp DA (2 ^ 148) z := h.up da12 (by decide) (by decide +kernel)
theorem rpA {z : Rat} (h : Rp 720 (2 ^ 18) z) : Rp DA (2 ^ 148) z := h.up da720 (by decide) (by decide +kernel)
theorem rpG {z : Int} (h : z.natAbs ≤ NG) : Rp DA (2 ^ 148) (Rat.divInt z (G0 : Nat)) := by
  have h1 : Rp G0 NG (Rat.divInt z (G0 : Nat)) := by
    refine .divInt (D := G0) (by decide +kernel) (Nat.dvd_refl _) ?_
    rw [Nat.div_self (by decide +kernel), Nat.mul_one]
    exact h
  exact h1.up ⟨720, Nat.mul_comm _ _⟩ (by decide +kernel) (by decide +kernel)
theorem fn_map {f : Rat → Rat} {x : List Rat} {k : Nat} (h : k < x.length) : fnR (x.map f) k = f (fnR x k) := by
  unfold fnR
  rw [getD_at (by rw [List.length_map]; exact h), List.getElem_map, getD_at h]
theorem sd_shift {a w x a' x' : Nat → Rat} : ∀ k, (∀ j, j < k → a' j - x' j = a j - x j) → Sd a' w x' k = Sd a w x k
  | 0, _ => rfl
  | k + 1, h => by rw [Sd, Sd, sd_shift k fun j hj => h j (by omega), h k (by omega)]
theorem kk_shift {a w x : List Rat} {n : Nat} {g : Rat} (la : a.length = n) (lx : x.length = n) (K : KK n (fnR a) (fnR w) (fnR x)) : KK n (fnR (a.map fun z => z + g)) (fnR w) (fnR (x.map fun z => z + g)) := by
  have ex : ∀ k, k < n → fnR (x.map fun z => z + g) k = fnR x k + g := fun k hk => fn_map (by omega)
  have ea : ∀ k, k < n → fnR (a.map fun z => z + g) k = fnR a k + g := fun k hk => fn_map (by omega)
  have es : ∀ k, k ≤ n → Sd (fnR (a.map fun z => z + g)) (fnR w) (fnR (x.map fun z => z + g)) k = Sd (fnR a) (fnR w) (fnR x) k := fun k hk => sd_shift k fun j hj => by
    rw [ex j (by omega), ea j (by omega)]
    grind
  refine ⟨fun k hk => ?_, fun k hk => ?_, fun k hk p => ?_⟩
  · rw [ex k (by omega), ex (k + 1) hk]
    have := K.up k hk
    grind
  · rw [es (k + 1) (by omega)]
    exact K.nn k hk
  · rw [es (k + 1) (by omega)]
    refine K.z k hk ?_
    by_cases c : k + 1 = n
    · exact .inl c
    · refine .inr fun e => ?_
      rcases p with p | p
      · exact c p
      · rw [ex k (by omega), ex (k + 1) (by omega), e] at p
        exact p rfl
section
variable {ns : List Int} {s : Store} {τ : Sl}
theorem e_great (H : DS ns s) (h1 : τ[1]? = some (some (.ref 1))) : W (eCall 2 f__law_f (aCons (eBin oMul (eBin oAdd (eBin oPow (eC (.int 10)) (eC (.int 40))) (eCall 2 f__law_draw (aCons (eVar 1) (aCons (eC (.int 1000)) aNil)))) (eBin oIx (eLst (aCons (eC (.int 1)) (aCons (eUn oNeg (eC (.int 1))) aNil))) (eCall 2 f__law_draw (aCons (eVar 1) (aCons (eC (.int 2)) aNil))))) (aCons (eBin oAdd (eBin oPow (eC (.int 10)) (eC (.int 30))) (eC (.int 3))) aNil)) τ s) fun d t => ∃ g, d = qd g ∧ Rp DA (2 ^ 148) g ∧ DS ns t ∧ Fr s t := by
  obtain ⟨v, t1, e1, hv, D1, F1⟩ := e_draw (fe := eC (.int 1000)) H h1 rfl (m := 1000) (by decide) (by decide)
  have D2 : DS ns (t1 ++ [.lst [.int 1, .int (-1)]]) := D1.app
  obtain ⟨u, t3, e3, hu, D3, F3⟩ := e_draw (fe := eC (.int 2)) D2 h1 rfl (m := 2) (by decide) (by decide)
  have tl := D1.len
  have g3 : lstAt t3 t1.length = some [.int 1, .int (-1)] := F3.lst lstAt_new (by omega)
  obtain ⟨P, hP⟩ : ∃ P : Int, P = 10 ^ 40 := ⟨_, rfl⟩
  have e40 : ∀ t, eBin oPow (eC (.int 10)) (eC (.int 40)) τ t = .ok (.int P) t := fun t => by rw [hP]; simp [pw40]
  have e30 : ∀ t, eBin oAdd (eBin oPow (eC (.int 10)) (eC (.int 30))) (eC (.int 3)) τ t = .ok (.int ((G0 : Nat) : Int)) t := fun t => by
    simp [pw30]
  have ea : eBin oAdd (eBin oPow (eC (.int 10)) (eC (.int 40))) (eCall 2 f__law_draw (aCons (eVar 1) (aCons (eC (.int 1000)) aNil))) τ s = .ok (.int (P + (v : Int))) t1 := by
    rw [eBin_e, e40, ER.bind_ok, e1, ER.bind_ok]
    simp
  have el : eLst (aCons (eC (.int 1)) (aCons (eUn oNeg (eC (.int 1))) aNil)) τ t1 = .ok (.ref t1.length) (t1 ++ [.lst [.int 1, .int (-1)]]) := by simp
  obtain ⟨q, hq, q1⟩ : ∃ q : Int, oIx (.ref t1.length) (.int (u : Nat)) t3 = .ok (.int q) t3 ∧ (q = 1 ∨ q = -1) := by
    rcases (show u = 0 ∨ u = 1 by omega) with rfl | rfl
    · exact ⟨1, by rw [oIx_ref g3]; rfl, .inl rfl⟩
    · exact ⟨-1, by rw [oIx_ref g3]; rfl, .inr rfl⟩
  have ei : eBin oIx (eLst (aCons (eC (.int 1)) (aCons (eUn oNeg (eC (.int 1))) aNil))) (eCall 2 f__law_draw (aCons (eVar 1) (aCons (eC (.int 2)) aNil))) τ t1 = .ok (.int q) t3 := by
    rw [eBin_e, el, ER.bind_ok, e3, ER.bind_ok]
    exact hq
  have bz : ((P + (v : Int)) * q).natAbs ≤ NG := by
    rw [Int.natAbs_mul]
    have q2 : q.natAbs = 1 := by rcases q1 with rfl | rfl <;> rfl
    have p0 : P.natAbs = 10000000000000000000000000000000000000000 := by rw [hP]; rfl
    have := Int.natAbs_add_le P (v : Int)
    rw [q2, Nat.mul_one]
    refine Nat.le_trans this ?_
    rw [p0, Int.natAbs_natCast]
    exact Nat.add_le_add_left (show v ≤ 1000 by omega) 10000000000000000000000000000000000000000
  have k1 : okMul (P + (v : Int)) q = true := by
    refine okMul_of (k := 200) (l := 10) ?_ (by rcases q1 with rfl | rfl <;> decide) (by decide)
    have p0 : P.natAbs = 10000000000000000000000000000000000000000 := by rw [hP]; rfl
    refine Nat.lt_of_le_of_lt (Int.natAbs_add_le P (v : Int)) ?_
    rw [p0, Int.natAbs_natCast]
    exact Nat.lt_of_le_of_lt (Nat.add_le_add_left (show v ≤ 1000 by omega) _) (by decide +kernel)
  have em : eBin oMul (eBin oAdd (eBin oPow (eC (.int 10)) (eC (.int 40))) (eCall 2 f__law_draw (aCons (eVar 1) (aCons (eC (.int 1000)) aNil)))) (eBin oIx (eLst (aCons (eC (.int 1)) (aCons (eUn oNeg (eC (.int 1))) aNil))) (eCall 2 f__law_draw (aCons (eVar 1) (aCons (eC (.int 2)) aNil)))) τ s = .ok (.int ((P + (v : Int)) * q)) t3 := by
    rw [eBin_e, ea, ER.bind_ok, ei, ER.bind_ok, oMul_int k1]
  rw [call2 em (e30 t3)]
  exact W.of (r_fQ (k := 200) (by decide) (by rw [Int.natAbs_natCast]; decide +kernel) (by decide)) ⟨_, rfl, rpG bz, D3, (F1.trans .app).trans F3⟩
end
theorem law_holds : ∀ ns : List Int, ns.length ≤ 63 → ∃ st, f_law [.rol (ns.map D.int)] [] = .ok (.bl true) st := by
  intro ns hl
  obtain ⟨s0, e0, D0, n0⟩ := r_begin hl
  obtain ⟨C0, hC0⟩ : ∃ C : D, C = .rol (ns.map D.int) := ⟨_, rfl⟩
  rw [← hC0] at e0 ⊢
  have main : W (f_law [C0] []) fun d _ => d = .bl true := by
    unfold f_law
    rw [runB_e]
    unfold m_law
    rw [W_fin]
    have n9 : ent 9 [C0] = [some C0, none, none, none, none, none, none, none, none] := rfl
    rw [n9]
    refine ws_cons (N' := fun τ s => τ = [some C0, some (.ref 1), none, none, none, none, none, none, none] ∧ DS ns s) (ws_set (W.of (a := .ref 1) (s := s0) (by simp [e0]) ⟨rfl, D0⟩)) fun τ s hp => ?_
    clear D0
    obtain ⟨rfl, D0⟩ := hp
    refine ws_cons (N' := fun τ s => ∃ n : Nat, (1 ≤ n ∧ n ≤ 20) ∧ τ = [some C0, some (.ref 1), some (.int (n : Nat)), none, none, none, none, none, none] ∧ DS ns s) (ws_set ?_) fun τ s hp => ?_
    · obtain ⟨b, t, e, D1, F1⟩ := r_rare (many := 9) D0 (by decide) (by decide)
      have eb : tVal (eCall 2 f__law_rare (aCons (eVar 1) (aCons (eC (.int 9)) aNil))) [some C0, some (.ref 1), none, none, none, none, none, none, none] s = .ok b t := by
        rw [tVal_e, call2 (s1 := s) (s2 := s) (eVar_e rfl) (eC_e ..), e]
        rfl
      rw [eIf_e, eb, ER.bind_ok]
      cases b with
      | true =>
        rw [if_pos rfl]
        obtain ⟨v, u, e1, hv, D2, F2⟩ := e_draw (τ := [some C0, some (.ref 1), none, none, none, none, none, none, none]) (i := 1) (m := 3) (fe := eC (.int 3)) D1 rfl rfl (by decide) (by decide)
        refine W.of (a := .int ((18 + v : Nat) : Int)) (s := u) ?_ ⟨18 + v, by omega, rfl, D2⟩
        rw [eBin_e, eC_e, ER.bind_ok, e1, ER.bind_ok]
        simp
      | false =>
        rw [if_neg (by decide)]
        obtain ⟨v, u, e1, hv, D2, F2⟩ := e_draw (τ := [some C0, some (.ref 1), none, none, none, none, none, none, none]) (i := 1) (m := 7) (fe := eC (.int 7)) D1 rfl rfl (by decide) (by decide)
        refine W.of (a := .int ((1 + v : Nat) : Int)) (s := u) ?_ ⟨1 + v, by omega, rfl, D2⟩
        rw [eBin_e, eC_e, ER.bind_ok, e1, ER.bind_ok]
        simp
    clear D0
    obtain ⟨n, ⟨h1, hn⟩, rfl, D0⟩ := hp
    refine ws_cons (N' := fun τ s => ∃ w : List Rat, τ = [some C0, some (.ref 1), some (.int (n : Nat)), some (.tup (w.map qd)), none, none, none, none, none] ∧ w.length = n ∧ (∀ z ∈ w, Ld z) ∧ DS ns s) (ws_set ?_) fun τ s hp => ?_
    · rw [call2 (eVar_e rfl) (eVar_e rfl)]
      refine (w_loads D0 hn).mono fun d t hp => ?_
      obtain ⟨w, rfl, lw, ow, D1, _⟩ := hp
      exact ⟨w, rfl, lw, ow, D1⟩
    clear D0
    obtain ⟨w, rfl, lw, ow, D0⟩ := hp
    refine ws_cons (N' := fun τ s => ∃ x : List Rat, τ = [some C0, some (.ref 1), some (.int (n : Nat)), some (.tup (w.map qd)), some (.tup (x.map qd)), none, none, none, none] ∧ x.length = n ∧ (∀ z ∈ x, Rp 12 2048 z) ∧ Up n (fnR x) ∧ DS ns s) (ws_set ?_) fun τ s hp => ?_
    · rw [call3 (eVar_e rfl) (eVar_e rfl) e_neg1]
      refine (w_stairs D0 h1 hn).mono fun d t hp => ?_
      obtain ⟨x, rfl, lx, ox, up, D1, _⟩ := hp
      exact ⟨x, rfl, lx, ox, up rfl, D1⟩
    clear D0
    obtain ⟨x, rfl, lx, ox, up, D0⟩ := hp
    refine ws_cons (N' := fun τ s => ∃ a : List Rat, τ = [some C0, some (.ref 1), some (.int (n : Nat)), some (.tup (w.map qd)), some (.tup (x.map qd)), some (.tup (a.map qd)), none, none, none] ∧ a.length = n ∧ (∀ z ∈ a, Rp 720 (2 ^ 18) z) ∧ KK n (fnR a) (fnR w) (fnR x) ∧ DS ns s) (ws_set ((e_numbers D0 e_neg1 .refl rfl rfl rfl lx lw hn ox ow).mono fun d u hp => ?_)) fun τ s hp => ?_
    · obtain ⟨a, rfl, la, oa, K, D1, _⟩ := hp
      exact ⟨a, rfl, la, oa, K rfl up, D1⟩
    clear D0
    obtain ⟨a, rfl, la, oa, K, D0⟩ := hp
    refine ws_cons (N' := fun τ s => ∃ f : List Rat, τ = [some C0, some (.ref 1), some (.int (n : Nat)), some (.tup (w.map qd)), some (.tup (x.map qd)), some (.tup (a.map qd)), some (.tup (f.map qd)), none, none] ∧ f.length = n ∧ (∀ z ∈ f, Rp 12 2048 z) ∧ DS ns s) (ws_set ?_) fun τ s hp => ?_
    · rw [call2 (eVar_e rfl) (eVar_e rfl)]
      refine (w_free D0 h1 hn).mono fun d t hp => ?_
      obtain ⟨f, rfl, lf, of, D1, _⟩ := hp
      exact ⟨f, rfl, lf, of, D1⟩
    clear D0
    obtain ⟨f, rfl, lf, of, D0⟩ := hp
    -- great numbers
    refine ws_cons (N' := fun τ s => ∃ (x a f : List Rat) (g : Option D), τ = [some C0, some (.ref 1), some (.int (n : Nat)), some (.tup (w.map qd)), some (.tup (x.map qd)), some (.tup (a.map qd)), some (.tup (f.map qd)), g, none] ∧ x.length = n ∧ a.length = n ∧ f.length = n ∧ (∀ z ∈ x, Rp DA (2 ^ 149) z) ∧ (∀ z ∈ a, Rp DA (2 ^ 150) z) ∧ (∀ z ∈ f, Rp DA (2 ^ 150) z) ∧ KK n (fnR a) (fnR w) (fnR x) ∧ DS ns s) ?_ fun τ s hp => ?_
    · obtain ⟨b, t, e, D1, F1⟩ := r_rare (many := 7) D0 (by decide) (by decide)
      have eb : tVal (eCall 2 f__law_rare (aCons (eVar 1) (aCons (eC (.int 7)) aNil))) [some C0, some (.ref 1), some (.int (n : Nat)), some (.tup (w.map qd)), some (.tup (x.map qd)), some (.tup (a.map qd)), some (.tup (f.map qd)), none, none] s = .ok b t := by
        rw [tVal_e, call2 (s1 := s) (s2 := s) (eVar_e rfl) (eC_e ..), e]
        rfl
      refine ws_ifd (fun b' u => b' = b ∧ u = t) (W.of eb ⟨rfl, rfl⟩) (fun u hp => ?_) fun u hp => ?_
      · rw [hp.2]
        clear hp u
        refine ws_cons (N' := fun τ u => ∃ g, τ = [some C0, some (.ref 1), some (.int (n : Nat)), some (.tup (w.map qd)), some (.tup (x.map qd)), some (.tup (a.map qd)), some (.tup (f.map qd)), some (qd g), none] ∧ Rp DA (2 ^ 148) g ∧ DS ns u) (ws_set ((e_great D1 rfl).mono fun d u hp => ?_)) fun τ u hp => ?_
        · obtain ⟨g, rfl, hg, D2, _⟩ := hp
          exact ⟨g, rfl, hg, D2⟩
        obtain ⟨g, rfl, hg, D2⟩ := hp
        have en := enA
        have qg : QB 1000 g := en.q (hg.le (by decide +kernel))
        have up148 : ∀ {z}, Rp DA (2 ^ 148) z → Rp DA (2 ^ 149) (z + g) := fun h => (h.add hg).le (by decide +kernel)
        refine ws_cons (N' := fun τ v => τ = [some C0, some (.ref 1), some (.int (n : Nat)), some (.tup (w.map qd)), some (.tup ((x.map fun z => z + g).map qd)), some (.tup (a.map qd)), some (.tup (f.map qd)), some (qd g), none] ∧ v = u) (ws_set (W.of (e_plusAll (b := 8) (c := 7) (eVar_e rfl) (by omega) qg (fun z hz => en.q ((rpX (ox z hz)).le (by decide +kernel))) fun z => ⟨_, rfl, rfl, rfl⟩) ⟨rfl, rfl⟩)) fun τ v hp => ?_
        obtain ⟨rfl, hv⟩ := hp
        rw [hv]
        clear hv v
        refine ws_cons (N' := fun τ v => τ = [some C0, some (.ref 1), some (.int (n : Nat)), some (.tup (w.map qd)), some (.tup ((x.map fun z => z + g).map qd)), some (.tup ((a.map fun z => z + g).map qd)), some (.tup (f.map qd)), some (qd g), none] ∧ v = u) (ws_set (W.of (e_plusAll (b := 8) (c := 7) (eVar_e rfl) (by omega) qg (fun z hz => en.q ((rpA (oa z hz)).le (by decide +kernel))) fun z => ⟨_, rfl, rfl, rfl⟩) ⟨rfl, rfl⟩)) fun τ v hp => ?_
        obtain ⟨rfl, hv⟩ := hp
        rw [hv]
        clear hv v
        refine ws_set ?_
        obtain ⟨k, v, e, hk, D3, F3⟩ := e_draw (τ := [some C0, some (.ref 1), some (.int (n : Nat)), some (.tup (w.map qd)), some (.tup ((x.map fun z => z + g).map qd)), some (.tup ((a.map fun z => z + g).map qd)), some (.tup (f.map qd)), some (qd g), none]) (i := 1) (m := n) (fe := eVar 2) D2 rfl (eVar_e rfl) (by omega) (by omega)
        rw [call3 (eVar_e rfl) e (eVar_e rfl)]
        refine W.of (r_with (by rw [List.length_map]; omega)) ?_
        refine ⟨x.map fun z => z + g, a.map fun z => z + g, f.take k ++ [g] ++ f.drop (k + 1), some (qd g), ?_, by rw [List.length_map, lx], by rw [List.length_map, la], ?_, fun z hz => ?_, fun z hz => ?_, fun z hz => ?_, kk_shift la lx K, D3⟩
        · rw [show (f.take k ++ [g] ++ f.drop (k + 1)).map qd = (f.map qd).take k ++ [qd g] ++ (f.map qd).drop (k + 1) by rw [List.map_append, List.map_append, List.map_take, List.map_drop]; rfl]
          rfl
        · rw [List.length_append, List.length_append, List.length_take, List.length_drop, List.length_singleton]
          omega
        · obtain ⟨y, hy, rfl⟩ := List.mem_map.mp hz
          exact up148 (rpX (ox y hy))
        · obtain ⟨y, hy, rfl⟩ := List.mem_map.mp hz
          exact (up148 (rpA (oa y hy))).le (by decide +kernel)
        · rcases List.mem_append.mp hz with q1 | q1
          · rcases List.mem_append.mp q1 with q2 | q2
            · exact (rpX (of z (List.mem_of_mem_take q2))).le (by decide +kernel)
            · rw [List.mem_singleton.mp q2]
              exact hg.le (by decide +kernel)
          · exact (rpX (of z (List.mem_of_mem_drop q1))).le (by decide +kernel)
      · rw [hp.2, sNil_e, WS_nx]
        exact ⟨x, a, f, none, rfl, lx, la, lf, fun z hz => (rpX (ox z hz)).le (by decide +kernel), fun z hz => (rpA (oa z hz)).le (by decide +kernel), fun z hz => (rpX (of z hz)).le (by decide +kernel), K, D1⟩
    clear D0 K ox oa of up lx la lf x a f
    obtain ⟨x, a, f, g, rfl, lx, la, lf, ox, oa, of, K, D0⟩ := hp
    have Z : Sz DA (2 ^ 150) n a w := ld_sz enA hn la lw oa ow
    have Zf : Sz DA (2 ^ 150) n f w := ld_sz enA hn lf lw of ow
    have R : Rt DA (2 ^ 150) (2 ^ 149) n a w x := ⟨Z, daE, daN, da12, daM, lx, ox, h1, ow, K⟩
    have rt := fun t (D : DS ns t) => w_right (s := t) R D
    have bd := fun t (D : DS ns t) => w_bad (s := t) D h1 hn lw ow
    have fr := fun t (D : DS ns t) => w_freed (s := t) Zf da12 daF daE daN h1 D
    have nr := fun t => r_nearest (st := t) Z
    have te := fun t => (tup_eq (st := t) (X := .tup (x.map qd)) (xs := x) rfl).1
    rw [pav_eq Z lx K] at nr
    obtain ⟨A, hA⟩ : ∃ A, A = D.tup (a.map qd) := ⟨_, rfl⟩
    obtain ⟨Wd, hW⟩ : ∃ A, A = D.tup (w.map qd) := ⟨_, rfl⟩
    obtain ⟨X, hX⟩ : ∃ A, A = D.tup (x.map qd) := ⟨_, rfl⟩
    obtain ⟨Fd', hF⟩ : ∃ A, A = D.tup (f.map qd) := ⟨_, rfl⟩
    rw [← hA, ← hW, ← hX] at rt nr
    rw [← hW] at bd
    rw [← hW, ← hF] at fr
    rw [← hX] at te
    rw [← hA, ← hW, ← hX, ← hF]
    refine ws_no (fun t => DS ns t) ?_ fun t D1 => ?_
    · obtain ⟨_, t1, e1, rfl, D1, _⟩ := (rt s D0).ex
      obtain ⟨_, t2, e2, rfl, D2, _⟩ := (bd t1 D1).ex
      refine W.of (a := false) (s := t2) ?_ ⟨rfl, D2⟩
      rw [tOr_e, tNot_e, tVal_e, call4 (eVar_e rfl) (eVar_e rfl) (eVar_e rfl) (eVar_e rfl), e1]
      show HM.tNot (tVal (eCall 3 f__law_bad_ones (aCons (eVar 1) (aCons (eVar 2) (aCons (eVar 3) aNil))))) [some C0, some (.ref 1), some (.int (n : Nat)), some Wd, some X, some A, some Fd', g, none] t1 = _
      rw [tNot_e, tVal_e, call3 (eVar_e rfl) (eVar_e rfl) (eVar_e rfl), e2]
      rfl
    refine ws_ret ?_
    obtain ⟨_, t1, e1, rfl, D2, _⟩ := (fr t D1).ex
    obtain ⟨d2, t2, e2, hd, G⟩ := (nr t1).ex
    rw [hd] at e2
    clear hd d2
    refine W.of (a := .bl true) (s := t2) ?_ rfl
    have ea : eCall 3 f__law_free (aCons (eVar 1) (aCons (eVar 6) (aCons (eVar 3) aNil))) [some C0, some (.ref 1), some (.int (n : Nat)), some Wd, some X, some A, some Fd', g, none] t = .ok (.bl true) t1 := by
      rw [call3 (eVar_e rfl) (eVar_e rfl) (eVar_e rfl)]
      exact e1
    have eb : eBin oEq (eCall 2 f_nearest_rising (aCons (eVar 5) (aCons (eVar 3) aNil))) (eVar 4) [some C0, some (.ref 1), some (.int (n : Nat)), some Wd, some X, some A, some Fd', g, none] t1 = .ok (.bl true) t2 := by
      rw [eBin_e, call2 (eVar_e rfl) (eVar_e rfl), e2, ER.bind_ok, eVar_e rfl, ER.bind_ok]
      exact te t2
    generalize eCall 3 f__law_free (aCons (eVar 1) (aCons (eVar 6) (aCons (eVar 3) aNil))) = fa at ea ⊢
    generalize eBin oEq (eCall 2 f_nearest_rising (aCons (eVar 5) (aCons (eVar 3) aNil))) (eVar 4) = fb at eb ⊢
    simp [ea, eb]
  obtain ⟨d, st, e, rfl⟩ := main.ex
  exact ⟨st, e⟩

theorem facts {P : Program} {w : World} {K : PySem.W.Frag} {h : Heap} {mg : PySem.Str → Option Value} {f : Addr} (X : K.In h) (G : h.Ns mainGlobals mg) (hfa : mg ("law" : PySem.Str) = some (.ref f)) (c : SaysM fa fx fn K) :
    ∃ fd : FuncData, (∀ (s : Shared) (v : Value), BindsTo s fd ⟨[v], []⟩ [("script", v)]) ∧ ∀ base : Heap, K.In base → base.Ns mainGlobals mg → FnM P w K mg base 8 f fd ["script"] f_law := by
  obtain ⟨fd_ratio, F_ratio⟩ := c.def_ 0 rfl
  have gx_ratio := He.glo_ok X G (c.fact 0 (f := .glo "ratio") rfl)
  obtain ⟨fd_plus, F_plus⟩ := c.def_ 1 rfl
  have gx_plus := He.glo_ok X G (c.fact 1 (f := .glo "plus") rfl)
  obtain ⟨fd_minus, F_minus⟩ := c.def_ 2 rfl
  have gx_minus := He.glo_ok X G (c.fact 2 (f := .glo "minus") rfl)
  obtain ⟨fd_times, F_times⟩ := c.def_ 3 rfl
  have gx_times := He.glo_ok X G (c.fact 3 (f := .glo "times") rfl)
  obtain ⟨fd_over, F_over⟩ := c.def_ 4 rfl
  have gx_over := He.glo_ok X G (c.fact 4 (f := .glo "over") rfl)
  obtain ⟨fd_is_below, F_is_below⟩ := c.def_ 5 rfl
  have gx_is_below := He.glo_ok X G (c.fact 5 (f := .glo "is_below") rfl)
  obtain ⟨fd_is_fraction, F_is_fraction⟩ := c.def_ 6 rfl
  have gx_is_fraction := He.glo_ok X G (c.fact 6 (f := .glo "is_fraction") rfl)
  obtain ⟨fd_height_at, F_height_at⟩ := c.def_ 7 rfl
  have gx_height_at := He.glo_ok X G (c.fact 7 (f := .glo "height_at") rfl)
  obtain ⟨fd_pull_at, F_pull_at⟩ := c.def_ 8 rfl
  have gx_pull_at := He.glo_ok X G (c.fact 8 (f := .glo "pull_at") rfl)
  obtain ⟨fd_joined_bowl, F_joined_bowl⟩ := c.def_ 9 rfl
  have gx_joined_bowl := He.glo_ok X G (c.fact 9 (f := .glo "joined_bowl") rfl)
  obtain ⟨fd_is_ahead, F_is_ahead⟩ := c.def_ 10 rfl
  have gx_is_ahead := He.glo_ok X G (c.fact 10 (f := .glo "is_ahead") rfl)
  obtain ⟨fd_one_block, F_one_block⟩ := c.def_ 11 rfl
  have gx_one_block := He.glo_ok X G (c.fact 11 (f := .glo "one_block") rfl)
  obtain ⟨fd_pooled_blocks, F_pooled_blocks⟩ := c.def_ 12 rfl
  have gx_pooled_blocks := He.glo_ok X G (c.fact 12 (f := .glo "pooled_blocks") rfl)
  obtain ⟨fd_nearest_rising, F_nearest_rising⟩ := c.def_ 13 rfl
  have gx_nearest_rising := He.glo_ok X G (c.fact 13 (f := .glo "nearest_rising") rfl)
  obtain ⟨fd_is_rising, F_is_rising⟩ := c.def_ 14 rfl
  have gx_is_rising := He.glo_ok X G (c.fact 14 (f := .glo "is_rising") rfl)
  obtain ⟨fd_rises_behind, F_rises_behind⟩ := c.def_ 15 rfl
  have gx_rises_behind := He.glo_ok X G (c.fact 15 (f := .glo "rises_behind") rfl)
  obtain ⟨fd_pulls_up_to, F_pulls_up_to⟩ := c.def_ 16 rfl
  have gx_pulls_up_to := He.glo_ok X G (c.fact 16 (f := .glo "pulls_up_to") rfl)
  obtain ⟨fd_judge_rising, F_judge_rising⟩ := c.def_ 17 rfl
  have gx_judge_rising := He.glo_ok X G (c.fact 17 (f := .glo "judge_rising") rfl)
  obtain ⟨fd_square_distance, F_square_distance⟩ := c.def_ 18 rfl
  have gx_square_distance := He.glo_ok X G (c.fact 18 (f := .glo "square_distance") rfl)
  obtain ⟨fd__law_begin, F__law_begin⟩ := c.def_ 19 rfl
  have gx__law_begin := He.glo_ok X G (c.fact 19 (f := .glo "_law_begin") rfl)
  obtain ⟨fd__law_draw, F__law_draw⟩ := c.def_ 20 rfl
  have gx__law_draw := He.glo_ok X G (c.fact 20 (f := .glo "_law_draw") rfl)
  obtain ⟨fd__law_rare, F__law_rare⟩ := c.def_ 21 rfl
  have gx__law_rare := He.glo_ok X G (c.fact 21 (f := .glo "_law_rare") rfl)
  obtain ⟨fd__law_is_int, F__law_is_int⟩ := c.def_ 22 rfl
  have gx__law_is_int := He.glo_ok X G (c.fact 22 (f := .glo "_law_is_int") rfl)
  obtain ⟨fd__law_gcd, F__law_gcd⟩ := c.def_ 23 rfl
  have gx__law_gcd := He.glo_ok X G (c.fact 23 (f := .glo "_law_gcd") rfl)
  obtain ⟨fd__law_f, F__law_f⟩ := c.def_ 24 rfl
  have gx__law_f := He.glo_ok X G (c.fact 24 (f := .glo "_law_f") rfl)
  obtain ⟨fd__law_plus, F__law_plus⟩ := c.def_ 25 rfl
  have gx__law_plus := He.glo_ok X G (c.fact 25 (f := .glo "_law_plus") rfl)
  obtain ⟨fd__law_minus, F__law_minus⟩ := c.def_ 26 rfl
  have gx__law_minus := He.glo_ok X G (c.fact 26 (f := .glo "_law_minus") rfl)
  obtain ⟨fd__law_times, F__law_times⟩ := c.def_ 27 rfl
  have gx__law_times := He.glo_ok X G (c.fact 27 (f := .glo "_law_times") rfl)
  obtain ⟨fd__law_over, F__law_over⟩ := c.def_ 28 rfl
  have gx__law_over := He.glo_ok X G (c.fact 28 (f := .glo "_law_over") rfl)
  obtain ⟨fd__law_less, F__law_less⟩ := c.def_ 29 rfl
  have gx__law_less := He.glo_ok X G (c.fact 29 (f := .glo "_law_less") rfl)
  obtain ⟨fd__law_is_frac, F__law_is_frac⟩ := c.def_ 30 rfl
  have gx__law_is_frac := He.glo_ok X G (c.fact 30 (f := .glo "_law_is_frac") rfl)
  obtain ⟨fd__law_signed, F__law_signed⟩ := c.def_ 31 rfl
  have gx__law_signed := He.glo_ok X G (c.fact 31 (f := .glo "_law_signed") rfl)
  obtain ⟨fd__law_up, F__law_up⟩ := c.def_ 32 rfl
  have gx__law_up := He.glo_ok X G (c.fact 32 (f := .glo "_law_up") rfl)
  obtain ⟨fd__law_step, F__law_step⟩ := c.def_ 33 rfl
  have gx__law_step := He.glo_ok X G (c.fact 33 (f := .glo "_law_step") rfl)
  obtain ⟨fd__law_loads, F__law_loads⟩ := c.def_ 34 rfl
  have gx__law_loads := He.glo_ok X G (c.fact 34 (f := .glo "_law_loads") rfl)
  obtain ⟨fd__law_stairs, F__law_stairs⟩ := c.def_ 35 rfl
  have gx__law_stairs := He.glo_ok X G (c.fact 35 (f := .glo "_law_stairs") rfl)
  obtain ⟨fd__law_is_flat, F__law_is_flat⟩ := c.def_ 36 rfl
  have gx__law_is_flat := He.glo_ok X G (c.fact 36 (f := .glo "_law_is_flat") rfl)
  obtain ⟨fd__law_led, F__law_led⟩ := c.def_ 37 rfl
  have gx__law_led := He.glo_ok X G (c.fact 37 (f := .glo "_law_led") rfl)
  obtain ⟨fd__law_answers_of, F__law_answers_of⟩ := c.def_ 38 rfl
  have gx__law_answers_of := He.glo_ok X G (c.fact 38 (f := .glo "_law_answers_of") rfl)
  obtain ⟨fd__law_with, F__law_with⟩ := c.def_ 39 rfl
  have gx__law_with := He.glo_ok X G (c.fact 39 (f := .glo "_law_with") rfl)
  obtain ⟨fd__law_rises, F__law_rises⟩ := c.def_ 40 rfl
  have gx__law_rises := He.glo_ok X G (c.fact 40 (f := .glo "_law_rises") rfl)
  obtain ⟨fd__law_is_nearest, F__law_is_nearest⟩ := c.def_ 41 rfl
  have gx__law_is_nearest := He.glo_ok X G (c.fact 41 (f := .glo "_law_is_nearest") rfl)
  obtain ⟨fd__law_far, F__law_far⟩ := c.def_ 42 rfl
  have gx__law_far := He.glo_ok X G (c.fact 42 (f := .glo "_law_far") rfl)
  obtain ⟨fd__law_no_fraction, F__law_no_fraction⟩ := c.def_ 43 rfl
  have gx__law_no_fraction := He.glo_ok X G (c.fact 43 (f := .glo "_law_no_fraction") rfl)
  obtain ⟨fd__law_spoilt, F__law_spoilt⟩ := c.def_ 44 rfl
  have gx__law_spoilt := He.glo_ok X G (c.fact 44 (f := .glo "_law_spoilt") rfl)
  obtain ⟨fd__law_judged, F__law_judged⟩ := c.def_ 45 rfl
  have gx__law_judged := He.glo_ok X G (c.fact 45 (f := .glo "_law_judged") rfl)
  obtain ⟨fd__law_right, F__law_right⟩ := c.def_ 46 rfl
  have gx__law_right := He.glo_ok X G (c.fact 46 (f := .glo "_law_right") rfl)
  obtain ⟨fd__law_bad_ones, F__law_bad_ones⟩ := c.def_ 47 rfl
  have gx__law_bad_ones := He.glo_ok X G (c.fact 47 (f := .glo "_law_bad_ones") rfl)
  obtain ⟨fd__law_free_numbers, F__law_free_numbers⟩ := c.def_ 48 rfl
  have gx__law_free_numbers := He.glo_ok X G (c.fact 48 (f := .glo "_law_free_numbers") rfl)
  obtain ⟨fd__law_is_far, F__law_is_far⟩ := c.def_ 49 rfl
  have gx__law_is_far := He.glo_ok X G (c.fact 49 (f := .glo "_law_is_far") rfl)
  obtain ⟨fd__law_free, F__law_free⟩ := c.def_ 50 rfl
  have gx__law_free := He.glo_ok X G (c.fact 50 (f := .glo "_law_free") rfl)
  obtain ⟨fd_law, F_law⟩ := c.def_ 51 rfl
  have z_ZeroDivisionError := He.free_ok X G (c.fact 52 (f := .free "ZeroDivisionError") rfl)
  have z_zip := He.free_ok X G (c.fact 53 (f := .free "zip") rfl)
  have z_len := He.free_ok X G (c.fact 54 (f := .free "len") rfl)
  have z_range := He.free_ok X G (c.fact 55 (f := .free "range") rfl)
  have z_tuple := He.free_ok X G (c.fact 56 (f := .free "tuple") rfl)
  have z_int := He.free_ok X G (c.fact 57 (f := .free "int") rfl)
  have z_abs := He.free_ok X G (c.fact 58 (f := .free "abs") rfl)
  have z_isinstance := He.free_ok X G (c.fact 59 (f := .free "isinstance") rfl)
  have z_bool := He.free_ok X G (c.fact 60 (f := .free "bool") rfl)
  have z_all := He.free_ok X G (c.fact 61 (f := .free "all") rfl)
  have g_gcd := blt_ok X G (c.more 0 (f := .blt "gcd" "math.gcd") rfl)
  have k_ZERO := con_ok X G (c.more 1 (f := .con "ZERO" q_ZERO) rfl)
  have e := hfa.symm.trans (He.glo_ok X G (c.fact 51 (f := .glo "law") rfl))
  cases e
  refine ⟨fd_law, fun s v => FunD.bindsA (ps := ["script"]) F_law (fun _ _ _ _ _ _ us hl => match us, hl with | [_], _ => rfl) s [v] rfl, fun base _ _ => ?_⟩
  have c_ratio := (ok_ratio (P := P) (w := w) (base := base) F_ratio gx_ratio g_gcd z_ZeroDivisionError).le le_ratio
  have c_plus := (ok_plus (P := P) (w := w) (base := base) F_plus gx_plus c_ratio).le le_plus
  have c_minus := (ok_minus (P := P) (w := w) (base := base) F_minus gx_minus c_ratio).le le_minus
  have c_times := (ok_times (P := P) (w := w) (base := base) F_times gx_times c_ratio).le le_times
  have c_over := (ok_over (P := P) (w := w) (base := base) F_over gx_over c_ratio).le le_over
  have c_is_below := (ok_is_below (P := P) (w := w) (base := base) F_is_below gx_is_below ).le le_is_below
  have c_is_fraction := (ok_is_fraction (P := P) (w := w) (base := base) F_is_fraction gx_is_fraction g_gcd).le le_is_fraction
  have c_height_at := (ok_height_at (P := P) (w := w) (base := base) F_height_at gx_height_at c_minus c_times).le le_height_at
  have c_pull_at := (ok_pull_at (P := P) (w := w) (base := base) F_pull_at gx_pull_at c_times c_minus).le le_pull_at
  have c_joined_bowl := (ok_joined_bowl (P := P) (w := w) (base := base) F_joined_bowl gx_joined_bowl c_plus c_times c_over).le le_joined_bowl
  have c_is_ahead := (ok_is_ahead (P := P) (w := w) (base := base) F_is_ahead gx_is_ahead c_is_below).le le_is_ahead
  have c_one_block := (ok_one_block (P := P) (w := w) (base := base) F_one_block gx_one_block c_joined_bowl).le le_one_block
  have c_pooled_blocks := (ok_pooled_blocks (P := P) (w := w) (base := base) F_pooled_blocks gx_pooled_blocks c_is_ahead c_one_block z_zip z_len).le le_pooled_blocks
  have c_nearest_rising := (ok_nearest_rising (P := P) (w := w) (base := base) F_nearest_rising gx_nearest_rising c_pooled_blocks z_range z_tuple).le le_nearest_rising
  have c_is_rising := (ok_is_rising (P := P) (w := w) (base := base) F_is_rising gx_is_rising c_is_below z_range z_len).le le_is_rising
  have c_rises_behind := (ok_rises_behind (P := P) (w := w) (base := base) F_rises_behind gx_rises_behind z_len).le le_rises_behind
  have c_pulls_up_to := (ok_pulls_up_to (P := P) (w := w) (base := base) F_pulls_up_to gx_pulls_up_to c_plus c_pull_at k_ZERO z_zip).le le_pulls_up_to
  have c_judge_rising := (ok_judge_rising (P := P) (w := w) (base := base) F_judge_rising gx_judge_rising c_is_fraction c_is_rising c_pulls_up_to c_is_below c_rises_behind k_ZERO z_len z_range).le le_judge_rising
  have c_square_distance := (ok_square_distance (P := P) (w := w) (base := base) F_square_distance gx_square_distance c_plus c_height_at k_ZERO z_zip).le le_square_distance
  have c__law_begin := (ok__law_begin (P := P) (w := w) (base := base) F__law_begin gx__law_begin z_int).le le__law_begin
  have c__law_draw := (ok__law_draw (P := P) (w := w) (base := base) F__law_draw gx__law_draw z_int z_len z_abs).le le__law_draw
  have c__law_rare := (ok__law_rare (P := P) (w := w) (base := base) F__law_rare gx__law_rare c__law_draw).le le__law_rare
  have c__law_is_int := (ok__law_is_int (P := P) (w := w) (base := base) F__law_is_int gx__law_is_int z_int z_isinstance z_bool).le le__law_is_int
  have c__law_gcd := (ok__law_gcd (P := P) (w := w) (base := base) F__law_gcd gx__law_gcd z_abs z_int).le le__law_gcd
  have c__law_f := (ok__law_f (P := P) (w := w) (base := base) F__law_f gx__law_f c__law_gcd).le le__law_f
  have c__law_plus := (ok__law_plus (P := P) (w := w) (base := base) F__law_plus gx__law_plus c__law_f).le le__law_plus
  have c__law_minus := (ok__law_minus (P := P) (w := w) (base := base) F__law_minus gx__law_minus c__law_f).le le__law_minus
  have c__law_times := (ok__law_times (P := P) (w := w) (base := base) F__law_times gx__law_times c__law_f).le le__law_times
  have c__law_over := (ok__law_over (P := P) (w := w) (base := base) F__law_over gx__law_over c__law_f).le le__law_over
  have c__law_less := (ok__law_less (P := P) (w := w) (base := base) F__law_less gx__law_less ).le le__law_less
  have c__law_is_frac := (ok__law_is_frac (P := P) (w := w) (base := base) F__law_is_frac gx__law_is_frac c__law_is_int c__law_gcd z_tuple z_isinstance z_len).le le__law_is_frac
  have c__law_signed := (ok__law_signed (P := P) (w := w) (base := base) F__law_signed gx__law_signed c__law_draw c__law_f).le le__law_signed
  have c__law_up := (ok__law_up (P := P) (w := w) (base := base) F__law_up gx__law_up c__law_f c__law_draw).le le__law_up
  have c__law_step := (ok__law_step (P := P) (w := w) (base := base) F__law_step gx__law_step c__law_draw c__law_up c__law_minus).le le__law_step
  have c__law_loads := (ok__law_loads (P := P) (w := w) (base := base) F__law_loads gx__law_loads c__law_draw c__law_f z_range z_tuple).le le__law_loads
  have c__law_stairs := (ok__law_stairs (P := P) (w := w) (base := base) F__law_stairs gx__law_stairs c__law_signed c__law_draw c__law_up c__law_minus c__law_plus z_range z_tuple).le le__law_stairs
  have c__law_is_flat := (ok__law_is_flat (P := P) (w := w) (base := base) F__law_is_flat gx__law_is_flat z_len).le le__law_is_flat
  have c__law_led := (ok__law_led (P := P) (w := w) (base := base) F__law_led gx__law_led c__law_is_flat c__law_draw c__law_up c__law_minus c__law_step z_range z_len).le le__law_led
  have c__law_answers_of := (ok__law_answers_of (P := P) (w := w) (base := base) F__law_answers_of gx__law_answers_of c__law_minus c__law_plus c__law_over z_range z_len z_tuple).le le__law_answers_of
  have c__law_with := (ok__law_with (P := P) (w := w) (base := base) F__law_with gx__law_with ).le le__law_with
  have c__law_rises := (ok__law_rises (P := P) (w := w) (base := base) F__law_rises gx__law_rises c__law_less z_range z_len z_all).le le__law_rises
  have c__law_is_nearest := (ok__law_is_nearest (P := P) (w := w) (base := base) F__law_is_nearest gx__law_is_nearest c__law_is_frac c__law_rises c__law_plus c__law_times c__law_minus c__law_is_flat z_tuple z_isinstance z_len z_all z_range).le le__law_is_nearest
  have c__law_far := (ok__law_far (P := P) (w := w) (base := base) F__law_far gx__law_far c__law_minus c__law_plus c__law_times z_range z_len).le le__law_far
  have c__law_no_fraction := (ok__law_no_fraction (P := P) (w := w) (base := base) F__law_no_fraction gx__law_no_fraction c__law_draw).le le__law_no_fraction
  have c__law_spoilt := (ok__law_spoilt (P := P) (w := w) (base := base) F__law_spoilt gx__law_spoilt c__law_draw c__law_step c__law_with c__law_no_fraction c__law_plus z_len z_tuple).le le__law_spoilt
  have c__law_judged := (ok__law_judged (P := P) (w := w) (base := base) F__law_judged gx__law_judged c_judge_rising c__law_is_nearest z_bool z_isinstance).le le__law_judged
  have c__law_right := (ok__law_right (P := P) (w := w) (base := base) F__law_right gx__law_right c_nearest_rising c__law_is_nearest c_judge_rising c__law_spoilt c__law_judged c__law_draw c__law_with c__law_plus c__law_up F_judge_rising gx_judge_rising F_nearest_rising gx_nearest_rising z_len).le le__law_right
  have c__law_bad_ones := (ok__law_bad_ones (P := P) (w := w) (base := base) F__law_bad_ones gx__law_bad_ones c__law_stairs c__law_answers_of c__law_led c__law_draw c__law_judged).le le__law_bad_ones
  have c__law_free_numbers := (ok__law_free_numbers (P := P) (w := w) (base := base) F__law_free_numbers gx__law_free_numbers c__law_draw c__law_signed c__law_minus c__law_up z_range z_tuple).le le__law_free_numbers
  have c__law_is_far := (ok__law_is_far (P := P) (w := w) (base := base) F__law_is_far gx__law_is_far c__law_is_frac c__law_far).le le__law_is_far
  have c__law_free := (ok__law_free (P := P) (w := w) (base := base) F__law_free gx__law_free c_nearest_rising c__law_is_nearest c_judge_rising c__law_stairs c_square_distance c__law_is_far c__law_less c__law_plus c__law_judged z_len).le le__law_free
  exact (ok_law (P := P) (w := w) (base := base) F_law c__law_begin c__law_rare c__law_draw c__law_loads c__law_stairs c__law_answers_of c__law_led c__law_free_numbers c__law_f c__law_plus c__law_with c__law_right c__law_bad_ones c__law_free c_nearest_rising z_tuple).le le_law
end K65
open PySem PySem.W PySem.Calls PyProof.Rows
set_option maxHeartbeats 0 in
theorem PySem.Challenge.cw_closedratios_k65_whole_rising_holds : PySem.Challenge.rw_closedratios_k65_whole_rising.Holds := by
  w_on; o_law
  refine HandSHeadRun.head_imp (r := OpenLaw.row PySem.Challenge.rw_closedratios_k65_whole_rising) (q := view (OpenLaw.row PySem.Challenge.rw_closedratios_k65_whole_rising).prog [0, 58]) (H := K65.hk) (ob := K65.ob) (M := 6000) (loose := K65.nms) (d := HandSHeadRun.topDef (OpenLaw.row PySem.Challenge.rw_closedratios_k65_whole_rising).prog 58) (kwd := []) K65.ob_eq
    K65.run (by kernel_rfl) (by kernel_rfl) (by kernel_rfl) (by rfl) (by first | assumption | decide +kernel) (by decide +kernel) ⟨rfl, rfl, rfl, rfl, rfl, by decide +kernel⟩ ?hw ?hc
  case hw => w_witness2
  case hc =>
    refine L2.walk_ofE (l := PySem.Challenge.rw_closedratios_k65_whole_rising) (n := 63) (k := 8) (x := "script") (CX := L2.CX0) rfl (by decide) (by kernel_rfl) ⟨rfl, by decide, by decide⟩ ?F (fun _ _ _ _ z => z)
    intro w mg fa h Y G hmg0
    obtain ⟨K, KX, c⟩ := Y
    have hmg : mg ("law" : PySem.Str) = some (.ref fa) := by
      have e : (HandSHeadRun.topDef (OpenLaw.row PySem.Challenge.rw_closedratios_k65_whole_rising).prog 58).name = ("law" : PySem.Str) := by kernel_rfl
      rw [← e]
      exact hmg0
    obtain ⟨fd, hb, hF⟩ := K65.facts (P := (PySem.Challenge.rw_closedratios_k65_whole_rising).prog) (w := w) KX G hmg c
    exact ⟨K, fd, (fun vs H Q _ => HM.spM ⟨K, w⟩ 1 K65.f_law vs H Q fun _ _ _ => False), KX, hb, fun H a ns hl ho hS => HM.law_sp (n := 63) K65.law_holds H a ns hl ho hS, fun base h1 h2 => (hF base h1 h2).shut⟩
