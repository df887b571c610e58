import PyProof.Rows.All
import Wide.All
import OpenK.AllK
import Wide.FinOn
import HandS.ForMost
import HandS.ForExc
import HandS.Wide
import HandS.Gcd
import HandS.Flow
import HandS.IsInst
import HandS.Conv
import HandS.TupAny
import HandS.Zip
import HandS.CallSlots
import HandS.TupLe
import KE.KDictKeyed
import HandS.HeadHook1
import HandS.TupMul
import HandS.ExcBuiltin
import HandS.TryOnly
import HandS.Defaults
import HandS.HeadEnd
import HandS.HeadHook2
import KE.KStateDown
import Lean
import HandS.Head0
import HandS.Head1
import HandS.Head2
import HandS.Head3
import HandS.More
import HandS.Deep
import HandS.Text
import KE.KTupSum
import KE.KMathGC
import KE.KIndexOf
import HandS.Codes
import KE.GoesZip
import KE.GoesMore
import HandS.TupLen
import KE.DataCmp
import KE.SortData
import HandS.SortInts
import HandS.Style
import KE.KDictSum
import KE.DataMinMax
import KE.KDictPairs
import HandS.TupSets
import PySem.Challenge.RW_closedratios_k04_sides
set_option Elab.async false
set_option linter.all false
set_option maxRecDepth 100000
set_option maxHeartbeats 4000000
/-! HM: a layer of values over the hand layer. Part 1: values, stores, judgements. -/
namespace HM
open PySem PySem.Spec PyProof.Rows L2

/-! ### values -/
inductive D where
  | non | bl (b : Bool) | int (i : Int) | str (x : List Nat) | tup (xs : List D) | ref (n : Nat) | ty (n : String) | adr (a : Addr) (d : Option Addr) (f : Str) (x : D) | rol (xs : List D)
mutual
def D.dec : (a b : D) → Decidable (a = b)
  | .non, .non => Decidable.isTrue rfl
  | .bl a, .bl b => if h : a = b then Decidable.isTrue (h ▸ rfl) else Decidable.isFalse (fun e => h (D.bl.inj e))
  | .int a, .int b => if h : a = b then Decidable.isTrue (h ▸ rfl) else Decidable.isFalse (fun e => h (D.int.inj e))
  | .str a, .str b => if h : a = b then Decidable.isTrue (h ▸ rfl) else Decidable.isFalse (fun e => h (D.str.inj e))
  | .ref a, .ref b => if h : a = b then Decidable.isTrue (h ▸ rfl) else Decidable.isFalse (fun e => h (D.ref.inj e))
  | .ty a, .ty b => if h : a = b then Decidable.isTrue (h ▸ rfl) else Decidable.isFalse (fun e => h (D.ty.inj e))
  | .adr a d f x, .adr b e g y => match D.dec x y with
    | .isFalse h => Decidable.isFalse (fun z => h (D.adr.inj z).2.2.2)
    | .isTrue h => if h2 : a = b ∧ d = e ∧ f = g then Decidable.isTrue (by obtain ⟨h3, h4, h5⟩ := h2; rw [h, h3, h4, h5]) else Decidable.isFalse (fun z => h2 ⟨(D.adr.inj z).1, (D.adr.inj z).2.1, (D.adr.inj z).2.2.1⟩)
  | .tup a, .tup b => match D.decAll a b with
    | .isTrue h => Decidable.isTrue (h ▸ rfl)
    | .isFalse h => Decidable.isFalse (fun e => h (D.tup.inj e))
  | .rol a, .rol b => match D.decAll a b with
    | .isTrue h => Decidable.isTrue (h ▸ rfl)
    | .isFalse h => Decidable.isFalse (fun e => h (D.rol.inj e))
  | .non, .bl _ | .non, .int _ | .non, .str _ | .non, .tup _ | .non, .ref _ | .non, .ty _ | .non, .adr _ _ _ _ | .non, .rol _ => Decidable.isFalse nofun
  | .bl _, .non | .bl _, .int _ | .bl _, .str _ | .bl _, .tup _ | .bl _, .ref _ | .bl _, .ty _ | .bl _, .adr _ _ _ _ | .bl _, .rol _ => Decidable.isFalse nofun
  | .int _, .non | .int _, .bl _ | .int _, .str _ | .int _, .tup _ | .int _, .ref _ | .int _, .ty _ | .int _, .adr _ _ _ _ | .int _, .rol _ => Decidable.isFalse nofun
  | .str _, .non | .str _, .bl _ | .str _, .int _ | .str _, .tup _ | .str _, .ref _ | .str _, .ty _ | .str _, .adr _ _ _ _ | .str _, .rol _ => Decidable.isFalse nofun
  | .tup _, .non | .tup _, .bl _ | .tup _, .int _ | .tup _, .str _ | .tup _, .ref _ | .tup _, .ty _ | .tup _, .adr _ _ _ _ | .tup _, .rol _ => Decidable.isFalse nofun
  | .ref _, .non | .ref _, .bl _ | .ref _, .int _ | .ref _, .str _ | .ref _, .tup _ | .ref _, .ty _ | .ref _, .adr _ _ _ _ | .ref _, .rol _ => Decidable.isFalse nofun
  | .ty _, .non | .ty _, .bl _ | .ty _, .int _ | .ty _, .str _ | .ty _, .tup _ | .ty _, .ref _ | .ty _, .adr _ _ _ _ | .ty _, .rol _ => Decidable.isFalse nofun
  | .rol _, .non | .rol _, .bl _ | .rol _, .int _ | .rol _, .str _ | .rol _, .tup _ | .rol _, .ref _ | .rol _, .ty _ | .rol _, .adr _ _ _ _ => Decidable.isFalse nofun
  | .adr _ _ _ _, .non | .adr _ _ _ _, .bl _ | .adr _ _ _ _, .int _ | .adr _ _ _ _, .str _ | .adr _ _ _ _, .tup _ | .adr _ _ _ _, .ref _ | .adr _ _ _ _, .ty _ | .adr _ _ _ _, .rol _ => Decidable.isFalse nofun
def D.decAll : (a b : List D) → Decidable (a = b)
  | [], [] => Decidable.isTrue rfl
  | [], _ :: _ => Decidable.isFalse nofun
  | _ :: _, [] => Decidable.isFalse nofun
  | x :: xs, y :: ys => match D.dec x y with
    | .isFalse h => Decidable.isFalse (fun e => h (List.cons.inj e).1)
    | .isTrue h => match D.decAll xs ys with
      | .isTrue h2 => Decidable.isTrue (by rw [h, h2])
      | .isFalse h2 => Decidable.isFalse (fun e => h2 (List.cons.inj e).2)
end
instance : DecidableEq D := D.dec
instance : Inhabited D := ⟨.non⟩
/-- what stands in a cell of the store -/
inductive Cell where
  | lst (xs : List D) | dct (kvs : List (D × D))
  deriving DecidableEq, Inhabited
abbrev Store := List Cell
abbrev Sl := List (Option D)
/-- an exception: its class, its fields -/
structure Xc where
  cls : D
  fs : List (Str × D) := []
/-- what an evaluation gives -/
inductive ER (α : Type) where
  | ok (a : α) (st : Store) | exc (x : Xc) (st : Store) | bad
def ER.bind {α β : Type} (r : ER α) (k : α → Store → ER β) : ER β := match r with
  | .ok a st => k a st
  | .exc x st => .exc x st
  | .bad => .bad
@[simp] theorem ER.bind_ok {α β : Type} (a : α) (st : Store) (k : α → Store → ER β) : (ER.ok a st).bind k = k a st := rfl
@[simp] theorem ER.bind_exc {α β : Type} (x : Xc) (st : Store) (k : α → Store → ER β) : (ER.exc x st : ER α).bind k = .exc x st := rfl
@[simp] theorem ER.bind_bad {α β : Type} (k : α → Store → ER β) : (ER.bad : ER α).bind k = .bad := rfl
/-- what a statement gives -/
inductive SR where
  | nx (τ : Sl) (st : Store) | bk (τ : Sl) (st : Store) | ct (τ : Sl) (st : Store) | rt (d : D) (st : Store) | exc (x : Xc) (τ : Sl) (st : Store) | bad
abbrev EM (α : Type) := Sl → Store → ER α
abbrev SM := Sl → Store → SR

/-! ### how values stand for those of the layer -/
/-- a list that nobody writes -/
def FzL (K : PySem.W.Frag) (H : Hp) (a : Addr) (xs : List V) : Prop :=
  (∃ o, H a = some (.frz o (.lst xs))) ∨
    ∃ (o : Obj) (its : Array Value) (n : Nat), K.lookup a = some o ∧ o.cls = .type "list" ∧ o.dict = none ∧ o.data = .seq its n ∧ its.size ≤ sizeLine ∧ Vals xs its.toList
theorem FzL.sq {K : PySem.W.Frag} {H : Hp} {a : Addr} {xs : List V} (h : FzL K H a xs) : SqL K H a xs := by
  rcases h with ⟨o, h⟩ | h
  · exact .inl (.inr ⟨o, h⟩)
  · exact .inr h
theorem FzL.of {K : PySem.W.Frag} {H : Hp} {a : Addr} {xs : List V} (h : SqL K H a xs) (n : ∀ ys, H a ≠ some (.lst ys)) : FzL K H a xs := by
  rcases h with (h | h) | h
  · exact absurd h (n xs)
  · exact .inl h
  · exact .inr h
theorem FzL.new {K : PySem.W.Frag} {H : Hp} {p : Addr} {o : HO} (h : H p = none) {a : Addr} {vs : List V} (s : FzL K H a vs) : FzL K (upd H p o) a vs := by
  rcases s with ⟨ob, s⟩ | s
  · exact .inl ⟨ob, by rw [upd_ne (ne_of_none s h)]; exact s⟩
  · exact .inr s
/-- a tuple that has no dict of its own -/
def PlT (K : PySem.W.Frag) (H : Hp) (a : Addr) (xs : List V) : Prop :=
  (∃ o : Obj, o.dict = none ∧ H a = some (.frz o (.tup xs))) ∨
    ∃ (o : Obj) (its : Array Value) (n : Nat), K.lookup a = some o ∧ o.cls = .type "tuple" ∧ o.dict = none ∧ o.data = .seq its n ∧ its.size ≤ sizeLine ∧ Vals xs its.toList
theorem PlT.sq {K : PySem.W.Frag} {H : Hp} {a : Addr} {xs : List V} (h : PlT K H a xs) : SqT K H a xs := by
  rcases h with ⟨o, _, h⟩ | ⟨o, its, n, h1, h2, _, h3, h4, h5⟩
  · exact .inl (.inr ⟨o, h⟩)
  · exact .inr ⟨o, its, n, h1, h2, h3, h4, h5⟩
theorem PlT.new {K : PySem.W.Frag} {H : Hp} {p : Addr} {o : HO} (h : H p = none) {a : Addr} {vs : List V} (s : PlT K H a vs) : PlT K (upd H p o) a vs := by
  rcases s with ⟨ob, z, s⟩ | s
  · exact .inl ⟨ob, z, by rw [upd_ne (ne_of_none s h)]; exact s⟩
  · exact .inr s
theorem PlT.of {K : PySem.W.Frag} {H : Hp} {p : Addr} {o : Obj} {vs : List V} (h : o.dict = none) : PlT K (upd H p (.frz o (.tup vs))) p vs := .inl ⟨o, h, upd_same⟩
mutual
inductive RD (K : PySem.W.Frag) (m : List Addr) (H : Hp) : D → V → Prop
  | non : RD K m H .non .non
  | bl (b : Bool) : RD K m H (.bl b) (.bl b)
  | int (i : Int) : RD K m H (.int i) (.int i)
  | str (x : List Nat) : RD K m H (.str x) (.str ⟨x.toArray⟩)
  | ty (n : String) : RD K m H (.ty n) (.ty n)
  | adr (a : Addr) (f : Str) (x : D) : RD K m H (.adr a none f x) (.ref a)
  | adrF {a d : Addr} {f : Str} {x : D} {v : V} : H d = some (.xd [(f, v)]) → RD K m H x v → RD K m H (.adr a (some d) f x) (.ref a)
  | tup {a : Addr} {vs : List V} {ds : List D} : PlT K H a vs → RDs K m H ds vs → RD K m H (.tup ds) (.ref a)
  | rol {a : Addr} {vs : List V} {ds : List D} : FzL K H a vs → RDs K m H ds vs → RD K m H (.rol ds) (.ref a)
  | ref {n : Nat} {a : Addr} : m[n]? = some a → RD K m H (.ref n) (.ref a)
inductive RDs (K : PySem.W.Frag) (m : List Addr) (H : Hp) : List D → List V → Prop
  | nil : RDs K m H [] []
  | cons {d : D} {v : V} {ds : List D} {vs : List V} : RD K m H d v → RDs K m H ds vs → RDs K m H (d :: ds) (v :: vs)
end
/-- what values lean on is kept -/
structure Kp (K : PySem.W.Frag) (m : List Addr) (H : Hp) (m' : List Addr) (H' : Hp) : Prop where
  pre : ∀ (n : Nat) (a : Addr), m[n]? = some a → m'[n]? = some a
  tup : ∀ (a : Addr) (vs : List V), SqT K H a vs → SqT K H' a vs
  plt : ∀ (a : Addr) (vs : List V), PlT K H a vs → PlT K H' a vs
  fzl : ∀ (a : Addr) (vs : List V), FzL K H a vs → FzL K H' a vs
  xdk : ∀ (a : Addr) (fs : List (Str × V)), H a = some (.xd fs) → H' a = some (.xd fs)
/-- all that was is kept, but what the store may change -/
structure Ext (K : PySem.W.Frag) (m : List Addr) (H : Hp) (m' : List Addr) (H' : Hp) : Prop extends Kp K m H m' H' where
  frm : ∀ (a : Addr) (o : HO), a ∉ m → H a = some o → H' a = some o
  new : ∀ a : Addr, a ∈ m' → a ∉ m → H a = none
section
variable {K : PySem.W.Frag} {m m1 m2 m' : List Addr} {H H1 H2 H' : Hp}
theorem Ext.refl : Ext K m H m H := ⟨⟨fun _ _ h => h, fun _ _ h => h, fun _ _ h => h, fun _ _ h => h, fun _ _ h => h⟩, fun _ _ _ h => h, fun _ h n => absurd h n⟩
theorem Ext.mem (e : Ext K m H m1 H1) {a : Addr} (h : a ∈ m) : a ∈ m1 := by
  obtain ⟨n, q⟩ := List.getElem?_of_mem h
  exact List.mem_of_getElem? (e.pre n a q)
theorem Ext.trans (e : Ext K m H m1 H1) (f : Ext K m1 H1 m2 H2) : Ext K m H m2 H2 where
  pre := fun n a h => f.pre n a (e.pre n a h)
  tup := fun a vs h => f.tup a vs (e.tup a vs h)
  plt := fun a vs h => f.plt a vs (e.plt a vs h)
  fzl := fun a vs h => f.fzl a vs (e.fzl a vs h)
  xdk := fun a vs h => f.xdk a vs (e.xdk a vs h)
  frm := fun a o n h => by
    refine f.frm a o (fun q => ?_) (e.frm a o n h)
    rw [e.new a q n] at h
    cases h
  new := fun a h n => by
    by_cases q : a ∈ m1
    · exact e.new a q n
    · have z := f.new a h q
      cases r : H a with
      | none => rfl
      | some o =>
        rw [e.frm a o n r] at z
        cases z
mutual
theorem RD.kp (e : Kp K m H m' H') : ∀ {d : D} {v : V}, RD K m H d v → RD K m' H' d v
  | _, _, .non => .non
  | _, _, .bl b => .bl b
  | _, _, .int i => .int i
  | _, _, .str x => .str x
  | _, _, .ty n => .ty n
  | _, _, .adr a f x => .adr a f x
  | _, _, .adrF h r => .adrF (e.xdk _ _ h) (RD.kp e r)
  | _, _, .tup h r => .tup (e.plt _ _ h) (RDs.kp e r)
  | _, _, .rol h r => .rol (e.fzl _ _ h) (RDs.kp e r)
  | _, _, .ref h => .ref (e.pre _ _ h)
theorem RDs.kp (e : Kp K m H m' H') : ∀ {ds : List D} {vs : List V}, RDs K m H ds vs → RDs K m' H' ds vs
  | _, _, .nil => .nil
  | _, _, .cons h r => .cons (RD.kp e h) (RDs.kp e r)
end
theorem RD.mono (e : Ext K m H m' H') {d : D} {v : V} (r : RD K m H d v) : RD K m' H' d v := r.kp e.toKp
theorem RDs.mono (e : Ext K m H m' H') {ds : List D} {vs : List V} (r : RDs K m H ds vs) : RDs K m' H' ds vs := r.kp e.toKp
theorem RDs.len : ∀ {ds : List D} {vs : List V}, RDs K m H ds vs → ds.length = vs.length
  | _, _, .nil => rfl
  | _, _, .cons _ r => congrArg (· + 1) r.len
theorem RDs.get : ∀ {ds : List D} {vs : List V} {i : Nat} {d : D}, RDs K m H ds vs → ds[i]? = some d → ∃ v, vs[i]? = some v ∧ RD K m H d v
  | _, _, _, _, .nil, e => by simp at e
  | _, _, 0, _, .cons h _, e => by
    simp at e
    subst e
    exact ⟨_, rfl, h⟩
  | _, _, i + 1, d, .cons _ r, e => by
    obtain ⟨v, h1, h2⟩ := RDs.get (i := i) (d := d) r (by simpa using e)
    exact ⟨v, by simpa using h1, h2⟩
theorem RDs.append : ∀ {ds es : List D} {vs us : List V}, RDs K m H ds vs → RDs K m H es us → RDs K m H (ds ++ es) (vs ++ us)
  | _, _, _, _, .nil, s => s
  | _, _, _, _, .cons h r, s => .cons h (RDs.append r s)
theorem RDs.take : ∀ {ds : List D} {vs : List V} (n : Nat), RDs K m H ds vs → RDs K m H (ds.take n) (vs.take n)
  | _, _, 0, _ => .nil
  | _, _, _ + 1, .nil => .nil
  | _, _, n + 1, .cons h r => .cons h (RDs.take n r)
theorem RDs.drop : ∀ {ds : List D} {vs : List V} (n : Nat), RDs K m H ds vs → RDs K m H (ds.drop n) (vs.drop n)
  | _, _, 0, r => r
  | _, _, _ + 1, .nil => .nil
  | _, _, n + 1, .cons _ r => RDs.drop n r
theorem RDs.set {d : D} {v : V} (h : RD K m H d v) : ∀ {ds : List D} {vs : List V} (i : Nat), RDs K m H ds vs → RDs K m H (ds.set i d) (vs.set i v)
  | _, _, _, .nil => .nil
  | _, _, 0, .cons _ r => .cons h r
  | _, _, i + 1, .cons g r => .cons g (RDs.set h i r)
theorem RDs.erase : ∀ {ds : List D} {vs : List V} (i : Nat), RDs K m H ds vs → RDs K m H (ds.eraseIdx i) (vs.eraseIdx i)
  | _, _, _, .nil => .nil
  | _, _, 0, .cons _ r => r
  | _, _, i + 1, .cons g r => .cons g (RDs.erase i r)
theorem RDs.dropLast {ds : List D} {vs : List V} (r : RDs K m H ds vs) : RDs K m H ds.dropLast vs.dropLast := by
  rw [List.dropLast_eq_take, List.dropLast_eq_take, r.len]
  exact r.take _
theorem RDs.one {d : D} {vs : List V} (r : RDs K m H [d] vs) : ∃ v, vs = [v] ∧ RD K m H d v := by
  cases r with
  | cons h r =>
    cases r
    exact ⟨_, rfl, h⟩
theorem RDs.two {d e : D} {vs : List V} (r : RDs K m H [d, e] vs) : ∃ v u, vs = [v, u] ∧ RD K m H d v ∧ RD K m H e u := by
  cases r with
  | cons h r =>
    obtain ⟨u, rfl, h2⟩ := r.one
    exact ⟨_, _, rfl, h, h2⟩
theorem RDs.reverse {ds : List D} {vs : List V} (r : RDs K m H ds vs) : RDs K m H ds.reverse vs.reverse := by
  induction ds generalizing vs with
  | nil =>
    cases r
    exact .nil
  | cons d ds ih =>
    cases r with
    | cons h r =>
      rw [List.reverse_cons, List.reverse_cons]
      exact (ih r).append (.cons h .nil)
theorem RDs.ints : ∀ (ns : List Int), RDs K m H (ns.map D.int) (ns.map V.int)
  | [] => .nil
  | n :: r => .cons (.int n) (RDs.ints r)
/-- the known part and the world -/
structure KW where
  F : PySem.W.Frag
  w : World
instance : CoeOut KW PySem.W.Frag := ⟨KW.F⟩
@[reducible] def _root_.L2.Cx.kw (X : Cx) : KW := ⟨X.K, X.w⟩
/-- values without truth values and references, so deep -/
def D.plain : Nat → D → Bool
  | _, .non => true
  | _, .int _ => true
  | _, .str x => x.all fun c => decide (c < 1114112)
  | 0, .tup _ => false
  | n + 1, .tup xs => xs.all (D.plain n)
  | _, _ => false

mutual
def D.nk : D → NestedKey
  | .non => .none
  | .int i => .num i
  | .str x => .text ⟨x.toArray⟩
  | .tup xs => .tup (D.nks xs)
  | _ => .none
def D.nks : List D → List NestedKey
  | [] => []
  | d :: ds => D.nk d :: D.nks ds
end
def D.tupQ (d : D) : Bool := match d with
  | .tup _ => d.plain 8
  | _ => false
def keyD : Key → D
  | .inl i => .int i
  | .inr x => .str x.cps.toList
/-- a dict whose keys are tuples, at its address -/
def DObj (w : World) (a : Addr) (xs : List (NestedKey × Addr × V)) (h : Heap) : Prop :=
  (a == sysModules) = false ∧ xs.length ≤ sizeLine ∧ ∃ zs : List (NestedKey × Addr × Value), Paired (fun p q => p.1 = q.1 ∧ p.2.1 = q.2.1 ∧ RelV p.2.2 q.2.2) xs zs ∧
    ∃ o es ep, h.get? a = some o ∧ o.ExactDict ∧ o.data = .dict es ep ∧ es.toList = zs.map (fun x => (⟨NestedKey.hash w x.1, .ref x.2.1, x.2.2⟩ : DictEntry)) ∧ (zs.map (·.1)).Nodup
abbrev DRel1 (K : PySem.W.Frag) (m : List Addr) (H : Hp) : List (D × D) → List (Key × V) → Prop := Paired fun p q => p.1 = keyD q.1 ∧ RD K m H p.2 q.2
abbrev DRel2 (K : PySem.W.Frag) (m : List Addr) (H : Hp) : List (D × D) → List (NestedKey × Addr × V) → Prop := Paired fun p q => p.1.tupQ = true ∧ q.1 = p.1.nk ∧ RD K m H p.1 (.ref q.2.1) ∧ RD K m H p.2 q.2.2
theorem DRel1.kp {m m' : List Addr} {H H' : Hp} {kvs : List (D × D)} {us : List (Key × V)} (r : DRel1 K m H kvs us) (e : Kp K m H m' H') : DRel1 K m' H' kvs us := Paired.mapP r fun _ _ z => ⟨z.1, z.2.kp e⟩
theorem DRel2.kp {m m' : List Addr} {H H' : Hp} {kvs : List (D × D)} {us : List (NestedKey × Addr × V)} (r : DRel2 K m H kvs us) (e : Kp K m H m' H') : DRel2 K m' H' kvs us := Paired.mapP r fun _ _ z => ⟨z.1, z.2.1, z.2.2.1.kp e, z.2.2.2.kp e⟩
/-- a cell and what stands at its address -/
def RC (K : KW) (m : List Addr) (H : Hp) (a : Addr) : Cell → Prop
  | .lst ds => ∃ vs, H a = some (.lst vs) ∧ RDs K m H ds vs
  | .dct kvs => (∃ us, H a = some (.dK us) ∧ DRel1 K m H kvs us) ∨ ∃ xs, H a = some (.ext (DObj K.w a xs)) ∧ xs ≠ [] ∧ DRel2 K m H kvs xs
structure SS (K : KW) (m : List Addr) (st : Store) (H : Hp) : Prop where
  len : m.length = st.length
  nd : m.Nodup
  cel : ∀ (n : Nat) (c : Cell) (a : Addr), st[n]? = some c → m[n]? = some a → RC K m H a c
/-- the slots -/
structure SL (K : PySem.W.Frag) (m : List Addr) (H : Hp) (τ : Sl) (σ : L2.St) : Prop where
  len : τ.length = σ.length
  get : ∀ (i : Nat) (d : D), τ[i]? = some (some d) → ∃ v, σ[i]? = some (some v) ∧ RD K m H d v
theorem SL.mono {τ : Sl} {σ : L2.St} (s : SL K m H τ σ) (e : Ext K m H m' H') : SL K m' H' τ σ :=
  ⟨s.len, fun i d h => let ⟨v, h1, h2⟩ := s.get i d h; ⟨v, h1, h2.mono e⟩⟩
theorem SL.set {τ : Sl} {σ : L2.St} {d : D} {v : V} (s : SL K m H τ σ) (i : Nat) (r : RD K m H d v) : SL K m H (τ.set i (some d)) (σ.set i (some v)) := by
  refine ⟨by simpa using s.len, fun j e h => ?_⟩
  by_cases hj : i = j
  · subst hj
    by_cases hl : i < τ.length
    · rw [List.getElem?_set_self hl] at h
      simp only [Option.some.injEq] at h
      subst h
      exact ⟨v, by rw [List.getElem?_set_self (by rw [← s.len]; exact hl)], r⟩
    · rw [List.getElem?_eq_none (by simpa using hl)] at h
      cases h
  · rw [List.getElem?_set_ne hj] at h
    rw [List.getElem?_set_ne hj]
    exact s.get j e h
theorem SS.at {K : KW} {st : Store} {n : Nat} {c : Cell} (s : SS K m st H) (h : st[n]? = some c) : ∃ a, m[n]? = some a ∧ RC K m H a c := by
  have hl : n < m.length := by
    rw [s.len]
    exact (List.getElem?_eq_some_iff.mp h).1
  exact ⟨m[n], by simp, s.cel n c _ h (by simp)⟩
theorem sqT_new {p : Addr} {o : HO} (h : H p = none) {a : Addr} {vs : List V} (s : SqT K H a vs) : SqT K (upd H p o) a vs := by
  rcases s with (s | ⟨ob, s⟩) | s
  · exact .inl (.inl (by rw [upd_ne (ne_of_none s h)]; exact s))
  · exact .inl (.inr ⟨ob, by rw [upd_ne (ne_of_none s h)]; exact s⟩)
  · exact .inr s
theorem sqL_new {p : Addr} {o : HO} (h : H p = none) {a : Addr} {vs : List V} (s : SqL K H a vs) : SqL K (upd H p o) a vs := by
  rcases s with (s | ⟨ob, s⟩) | s
  · exact .inl (.inl (by rw [upd_ne (ne_of_none s h)]; exact s))
  · exact .inl (.inr ⟨ob, by rw [upd_ne (ne_of_none s h)]; exact s⟩)
  · exact .inr s
theorem sqL_ne {p a : Addr} {o : HO} {vs : List V} (h : a ≠ p) (s : SqL K H a vs) : SqL K (upd H p o) a vs := by
  rcases s with (s | ⟨ob, s⟩) | s
  · exact .inl (.inl (by rw [upd_ne h]; exact s))
  · exact .inl (.inr ⟨ob, by rw [upd_ne h]; exact s⟩)
  · exact .inr s
theorem RC.here {K : KW} {a : Addr} {c : Cell} (r : RC K m H a c) : ∃ o, H a = some o := by
  cases c with
  | lst ds =>
    obtain ⟨vs, h, _⟩ := r
    exact ⟨_, h⟩
  | dct kvs =>
    rcases r with ⟨us, h, _⟩ | ⟨xs, h, _⟩ <;> exact ⟨_, h⟩
/-- a new object that the store does not hold -/
theorem Ext.fresh {p : Addr} {o : HO} (h : H p = none) : Ext K m H m (upd H p o) :=
  ⟨⟨fun _ _ h => h, fun _ _ s => sqT_new h s, fun _ _ s => s.new h, fun _ _ s => s.new h, fun a fs q => by rw [upd_ne (ne_of_none q h)]; exact q⟩, fun a ob _ q => by rw [upd_ne (ne_of_none q h)]; exact q, fun _ q n => absurd q n⟩
theorem RC.fresh {K : KW} {p a : Addr} {o : HO} {c : Cell} (h : H p = none) (r : RC K m H a c) : RC K m (upd H p o) a c := by
  cases c with
  | lst ds =>
    obtain ⟨vs, q, r⟩ := r
    exact ⟨vs, by rw [upd_ne (ne_of_none q h)]; exact q, r.mono (Ext.fresh h)⟩
  | dct kvs =>
    rcases r with ⟨us, q, r⟩ | ⟨xs, q, r⟩
    · exact .inl ⟨us, by rw [upd_ne (ne_of_none q h)]; exact q, r.kp (Ext.fresh h).toKp⟩
    · exact .inr ⟨xs, by rw [upd_ne (ne_of_none q h)]; exact q, r.1, r.2.kp (Ext.fresh h).toKp⟩
theorem SS.fresh {K : KW} {p : Addr} {o : HO} {st : Store} (s : SS K m st H) (h : H p = none) : SS K m st (upd H p o) :=
  ⟨s.len, s.nd, fun n c a h1 h2 => (s.cel n c a h1 h2).fresh h⟩
/-- a new object of the store's -/
theorem Ext.app {p : Addr} {o : HO} (h : H p = none) : Ext K m H (m ++ [p]) (upd H p o) where
  pre := fun n a q => by
    rw [List.getElem?_append_left (List.getElem?_eq_some_iff.mp q).1]
    exact q
  tup := fun _ _ s => sqT_new h s
  plt := fun _ _ s => s.new h
  fzl := fun _ _ s => s.new h
  xdk := fun a fs q => by rw [upd_ne (ne_of_none q h)]; exact q
  frm := fun a ob _ q => by rw [upd_ne (ne_of_none q h)]; exact q
  new := fun a q n => by
    rcases List.mem_append.mp q with q | q
    · exact absurd q n
    · have e : a = p := by simpa using q
      rw [e]
      exact h
theorem Ext.grow {p : Addr} : (H p = none) → Ext K m H (m ++ [p]) H := fun h => {
  pre := fun n a q => by
    rw [List.getElem?_append_left (List.getElem?_eq_some_iff.mp q).1]
    exact q
  tup := fun _ _ s => s
  plt := fun _ _ s => s
  fzl := fun _ _ s => s
  xdk := fun _ _ s => s
  frm := fun a ob _ q => q
  new := fun a q n => by
    rcases List.mem_append.mp q with q | q
    · exact absurd q n
    · have e : a = p := by simpa using q
      rw [e]
      exact h }
theorem RC.kp {K : KW} {a : Addr} {c : Cell} (r : RC K m H a c) (e : Kp K m H m' H') (h : ∀ o, H a = some o → H' a = some o) : RC K m' H' a c := by
  cases c with
  | lst ds =>
    obtain ⟨vs, q, r⟩ := r
    exact ⟨vs, h _ q, r.kp e⟩
  | dct kvs =>
    rcases r with ⟨us, q, r⟩ | ⟨xs, q, r⟩
    · exact .inl ⟨us, h _ q, r.kp e⟩
    · exact .inr ⟨xs, h _ q, r.1, r.2.kp e⟩
theorem Kp.grow {p : Addr} : Kp K m H (m ++ [p]) H := ⟨fun n a q => by
    rw [List.getElem?_append_left (List.getElem?_eq_some_iff.mp q).1]
    exact q, fun _ _ s => s, fun _ _ s => s, fun _ _ s => s, fun _ _ s => s⟩
/-- an object that is there becomes the store's -/
theorem SS.grow {K : KW} {p : Addr} {c : Cell} {st : Store} (s : SS K m st H) (hp : p ∉ m) (r : RC K (m ++ [p]) H p c) : SS K (m ++ [p]) (st ++ [c]) H where
  len := by simp [s.len]
  nd := by
    rw [List.nodup_append]
    refine ⟨s.nd, by simp, fun a h1 b h2 e => ?_⟩
    have e2 : b = p := by simpa using h2
    rw [e, e2] at h1
    exact hp h1
  cel := fun n d a h1 h2 => by
    by_cases hn : n < st.length
    · rw [List.getElem?_append_left hn] at h1
      rw [List.getElem?_append_left (by rw [s.len]; exact hn)] at h2
      exact (s.cel n d a h1 h2).kp Kp.grow fun _ q => q
    · have hl : n < (st ++ [c]).length := (List.getElem?_eq_some_iff.mp h1).1
      have e : n = st.length := by
        rw [List.length_append, List.length_singleton] at hl
        omega
      subst e
      have e1 : c = d := by simpa using h1
      have e2 : p = a := by
        rw [← s.len] at h2
        simpa using h2
      rw [← e1, ← e2]
      exact r
theorem SS.notin {K : KW} {st : Store} {p : Addr} (s : SS K m st H) (h : H p = none) : p ∉ m := fun q => by
  obtain ⟨n, e⟩ := List.getElem?_of_mem q
  have hl : n < st.length := by
    rw [← s.len]
    exact (List.getElem?_eq_some_iff.mp e).1
  obtain ⟨o, z⟩ := (s.cel n st[n] p (by simp) e).here
  rw [h] at z
  cases z
/-- a list is written -/
theorem Kp.write {p : Addr} {xs : List V} {o : HO} (h : H p = some (.lst xs)) : Kp K m H m (upd H p o) where
  pre := fun _ _ q => q
  tup := fun a vs s => by
    rcases s with (s | ⟨ob, s⟩) | s
    · exact .inl (.inl (by rw [upd_ne (fun e => by rw [e, h] at s; cases s)]; exact s))
    · exact .inl (.inr ⟨ob, by rw [upd_ne (fun e => by rw [e, h] at s; cases s)]; exact s⟩)
    · exact .inr s
  plt := fun a vs s => by
    rcases s with ⟨ob, z, s⟩ | s
    · exact .inl ⟨ob, z, by rw [upd_ne (fun e => by rw [e, h] at s; cases s)]; exact s⟩
    · exact .inr s
  fzl := fun a vs s => by
    rcases s with ⟨ob, s⟩ | s
    · exact .inl ⟨ob, by rw [upd_ne (fun e => by rw [e, h] at s; cases s)]; exact s⟩
    · exact .inr s
  xdk := fun a fs s => by rw [upd_ne (fun e => by rw [e, h] at s; cases s)]; exact s
/-- a list that is not the store's is written -/
theorem SS.other {K : KW} {st : Store} {p : Addr} {xs : List V} {o : HO} (s : SS K m st H) (h : H p = some (.lst xs)) (hp : p ∉ m) : SS K m st (upd H p o) :=
  ⟨s.len, s.nd, fun n c a h1 h2 => (s.cel n c a h1 h2).kp (Kp.write h) fun ob q => by rw [upd_ne (fun e : a = p => hp (by rw [← e]; exact List.mem_of_getElem? h2))]; exact q⟩
/-- a list of the store's is written -/
theorem Ext.write {n : Nat} {p : Addr} {xs : List V} {o : HO} (h : H p = some (.lst xs)) (hn : m[n]? = some p) : Ext K m H m (upd H p o) :=
  { Kp.write h with
    frm := fun a ob q z => by rw [upd_ne (fun e : a = p => q (by rw [e]; exact List.mem_of_getElem? hn))]; exact z
    new := fun a q n => absurd q n }
theorem SS.write {K : KW} {st : Store} {n : Nat} {p : Addr} {xs ys : List V} {ds : List D} (s : SS K m st H) (h : H p = some (.lst xs)) (hn : m[n]? = some p) (r : RDs K m H ds ys) : SS K m (st.set n (.lst ds)) (upd H p (.lst ys)) where
  len := by rw [List.length_set]; exact s.len
  nd := s.nd
  cel := fun i c a h1 h2 => by
    by_cases hi : n = i
    · subst hi
      rw [hn] at h2
      cases h2
      have hl : n < st.length := by
        rw [← s.len]
        exact (List.getElem?_eq_some_iff.mp hn).1
      rw [List.getElem?_set_self hl] at h1
      cases h1
      exact ⟨ys, upd_same, r.kp (Kp.write h)⟩
    · rw [List.getElem?_set_ne hi] at h1
      refine (s.cel i c a h1 h2).kp (Kp.write h) fun ob q => ?_
      rw [upd_ne fun e => hi ?_]
      · exact q
      · subst e
        obtain ⟨l1, e1⟩ := List.getElem?_eq_some_iff.mp hn
        obtain ⟨l2, e2⟩ := List.getElem?_eq_some_iff.mp h2
        exact (List.getElem_inj s.nd).mp (e1.trans e2.symm)
/-- a thing of the store's is written -/
theorem Kp.writeM {p : Addr} {o : HO} (h : Mut (H p)) : Kp K m H m (upd H p o) where
  pre := fun _ _ q => q
  tup := fun a vs s => by
    rcases s with (s | ⟨ob, s⟩) | s
    · exact .inl (.inl (by rw [upd_ne (fun e => by rw [← e, s] at h; exact h)]; exact s))
    · exact .inl (.inr ⟨ob, by rw [upd_ne (fun e => by rw [← e, s] at h; exact h)]; exact s⟩)
    · exact .inr s
  plt := fun a vs s => by
    rcases s with ⟨ob, z, s⟩ | s
    · exact .inl ⟨ob, z, by rw [upd_ne (fun e => by rw [← e, s] at h; exact h)]; exact s⟩
    · exact .inr s
  fzl := fun a vs s => by
    rcases s with ⟨ob, s⟩ | s
    · exact .inl ⟨ob, by rw [upd_ne (fun e => by rw [← e, s] at h; exact h)]; exact s⟩
    · exact .inr s
  xdk := fun a fs s => by rw [upd_ne (fun e => by rw [← e, s] at h; exact h)]; exact s
theorem Ext.writeM {n : Nat} {p : Addr} {o : HO} (h : Mut (H p)) (hn : m[n]? = some p) : Ext K m H m (upd H p o) :=
  { Kp.writeM h with
    frm := fun a ob q z => by rw [upd_ne (fun e : a = p => q (by rw [e]; exact List.mem_of_getElem? hn))]; exact z
    new := fun a q n => absurd q n }
theorem SS.writeM {K : KW} {st : Store} {n : Nat} {p : Addr} {o : HO} {c : Cell} (s : SS K m st H) (h : Mut (H p)) (hn : m[n]? = some p) (r : RC K m (upd H p o) p c) : SS K m (st.set n c) (upd H p o) where
  len := by rw [List.length_set]; exact s.len
  nd := s.nd
  cel := fun i c' a h1 h2 => by
    by_cases hi : n = i
    · subst hi
      rw [hn] at h2
      cases h2
      have hl : n < st.length := by
        rw [← s.len]
        exact (List.getElem?_eq_some_iff.mp hn).1
      rw [List.getElem?_set_self hl] at h1
      cases h1
      exact r
    · rw [List.getElem?_set_ne hi] at h1
      refine (s.cel i c' a h1 h2).kp (Kp.writeM h) fun ob q => ?_
      rw [upd_ne fun e => hi ?_]
      · exact q
      · subst e
        obtain ⟨l1, e1⟩ := List.getElem?_eq_some_iff.mp hn
        obtain ⟨l2, e2⟩ := List.getElem?_eq_some_iff.mp h2
        exact (List.getElem_inj s.nd).mp (e1.trans e2.symm)
end
end HM

/-! HM, part 2: what an evaluation promises; expressions. -/
namespace HM
open PySem PySem.Spec PyProof.Rows L2

/-- an exception and how it flies: of a built-in class, of a class of the module's by its name -/
def XR (K : PySem.W.Frag) (m : List Addr) (H : Hp) (x : Xc) (c : Value) (d : Option Addr) : Prop := match x.cls with
  | .ty n => c = .type n ∧ x.fs = []
  | .adr _ _ n _ => c = .ref (He.ga K n) ∧ ((x.fs = [] ∧ d = none) ∨ ∃ f y da v, x.fs = [(f, y)] ∧ d = some da ∧ H da = some (.xd [(f, v)]) ∧ RD K m H y v)
  | _ => False
/-- behind an evaluation -/
def Pe {α β : Type} (K : KW) (E : XK) (R : List Addr → Hp → α → β → Prop) (m : List Addr) (H : Hp) (r : ER α) (Q : β → Hp → Prop) : Prop := match r with
  | .ok a st => ∀ m' H' b, Ext K m H m' H' → SS K m' st H' → R m' H' a b → Q b H'
  | .exc x st => ∀ m' H' c d, Ext K m H m' H' → SS K m' st H' → XR K m' H' x c d → E c d H'
  | .bad => False
section
variable {α β γ δ : Type} {K : KW} {E : XK} {R : List Addr → Hp → α → β → Prop} {S : List Addr → Hp → γ → δ → Prop} {m m1 : List Addr} {H H1 : Hp} {r : ER α} {Q : β → Hp → Prop}
theorem Pe.up (h : Pe K E R m H r Q) (e : Ext K m H m1 H1) : Pe K E R m1 H1 r Q := by
  cases r with
  | ok a st => exact fun m' H' b e' s q => h m' H' b (e.trans e') s q
  | exc x st => exact fun m' H' c d e' s q => h m' H' c d (e.trans e') s q
  | bad => exact h
theorem Pe.bind {k : α → Store → ER γ} {Q' : δ → Hp → Prop} (h : Pe K E S m H (r.bind k) Q')
    (hk : ∀ a st m' H' b, Ext K m H m' H' → SS K m' st H' → R m' H' a b → Pe K E S m' H' (k a st) Q' → Q b H') : Pe K E R m H r Q := by
  cases r with
  | ok a st => exact fun m' H' b e s q => hk a st m' H' b e s q (Pe.up h e)
  | exc x st => exact h
  | bad => exact h
theorem Pe.now {a : α} {st : Store} {b : β} (h : Pe K E R m H (.ok a st) Q) (s : SS K m st H) (q : R m H a b) : Q b H := h m H b .refl s q
theorem Pe.imp {Q' : β → Hp → Prop} (h : Pe K E R m H r Q) (hQ : ∀ b H, Q b H → Q' b H) : Pe K E R m H r Q' := by
  cases r with
  | ok a st => exact fun m' H' b e s q => hQ _ _ (h m' H' b e s q)
  | exc x st => exact h
  | bad => exact h
end
abbrev RB : List Addr → Hp → Bool → Bool → Prop := fun _ _ a b => a = b

/-! ### judgements -/
def wE (X : Cx) (e : Expr) : TE := fun σ H Q => ∀ (pins : List (Addr × Obj)) (s : Shared), Inv X pins σ H s → wpAny (model X.prog X.w) X.A (eval e X.env) (EP X pins σ Q) X.xe s
def wT (X : Cx) (e : Expr) : TT := fun σ H Q => ∀ (pins : List (Addr × Obj)) (s : Shared), Inv X pins σ H s → wpAny (model X.prog X.w) X.A (isTrue e X.env (eval e X.env)) (TP X pins σ Q) X.xe s
def wW (X : Cx) (e : Expr) : TT := fun σ H Q => ∀ (whole : Sem Value) (pins : List (Addr × Obj)) (s : Shared), Inv X pins σ H s → wpAny (model X.prog X.w) X.A (isTrue e X.env whole) (TP X pins σ Q) X.xe s
def wA (X : Cx) (es : List Expr) : TA := fun σ H Q => ∀ (pos : Pos) (pins : List (Addr × Obj)) (s : Shared), Inv X pins σ H s → wpAny (model X.prog X.w) X.A (spliced (backTo pos (starEach es X.env))) (AP X pins σ Q) X.xe s
theorem peW {X : Cx} {e : Expr} : PE X e (wE X e) := ⟨fun pins s σ H Q I h => h pins s I⟩
theorem ptW {X : Cx} {e : Expr} : PT X e (wT X e) := ⟨fun pins s σ H Q I h => h pins s I⟩
theorem pwW {X : Cx} {e : Expr} : PW X e (wW X e) := ⟨fun wh pins s σ H Q I h => h wh pins s I⟩
theorem paW {X : Cx} {es : List Expr} : PA X es (wA X es) := ⟨fun pos pins s σ H Q I h => h pos pins s I⟩
/-- an expression -/
structure Ex (X : Cx) (W : WX) (e : Expr) (f : EM D) : Prop where
  run : ∀ (m : List Addr) (τ : Sl) (st : Store) (σ : L2.St) (H : Hp) (Q : VK), SL X.K m H τ σ → SS X.kw m st H → Pe X.kw (fun c d H' => W c d σ H') (RD X.K) m H (f τ st) Q → wE X e σ H Q
/-- a test -/
structure Et (X : Cx) (W : WX) (e : Expr) (f : EM Bool) : Prop where
  run : ∀ (m : List Addr) (τ : Sl) (st : Store) (σ : L2.St) (H : Hp) (Q : Bool → Hp → Prop), SL X.K m H τ σ → SS X.kw m st H → Pe X.kw (fun c d H' => W c d σ H') RB m H (f τ st) Q → wT X e σ H Q
/-- a test whatever its whole is -/
structure Ew (X : Cx) (W : WX) (e : Expr) (f : EM Bool) : Prop where
  run : ∀ (m : List Addr) (τ : Sl) (st : Store) (σ : L2.St) (H : Hp) (Q : Bool → Hp → Prop), SL X.K m H τ σ → SS X.kw m st H → Pe X.kw (fun c d H' => W c d σ H') RB m H (f τ st) Q → wW X e σ H Q
/-- arguments -/
structure Ea (X : Cx) (W : WX) (es : List Expr) (f : EM (List D)) : Prop where
  run : ∀ (m : List Addr) (τ : Sl) (st : Store) (σ : L2.St) (H : Hp) (Q : List V → Hp → Prop), SL X.K m H τ σ → SS X.kw m st H → Pe X.kw (fun c d H' => W c d σ H') (RDs X.K) m H (f τ st) Q → wA X es σ H Q
section
variable {X : Cx} {W : WX} {e a b c : Expr} {es rest : List Expr} {pos : Pos} {f fa fb fc : EM D} {fs : EM (List D)} {g : EM Bool}
theorem Ex.le {f' : EM D} (h : Ex X W e f) (hl : ∀ (m : List Addr) (τ : Sl) (st : Store) (H : Hp) (E : XK) (Q : VK), SS X.kw m st H → Pe X.kw E (RD X.K) m H (f' τ st) Q → Pe X.kw E (RD X.K) m H (f τ st) Q) : Ex X W e f' :=
  ⟨fun m τ st σ H Q hL hS hP => h.run m τ st σ H Q hL hS (hl m τ st H _ Q hS hP)⟩

/-! ### names, constants -/
def eVar (i : Nat) : EM D := fun τ st => match τ[i]? with
  | some (some d) => .ok d st
  | _ => .bad
theorem ex_var {i : Nat} {x : Str} (hN : X.N[i]? = some x) (hv : Vis X.env.scope x) (hd : (x == ("__debug__" : Str)) = false := by decide) (hcd : (x == ("__classdict__" : Str)) = false := by decide) : Ex X W (.Name x pos) (eVar i) := by
  refine ⟨fun m τ st σ H Q hL hS hP pins s I => ?_⟩
  refine (pe_var hN hv hd hcd).run pins s σ H Q I ?_
  unfold eVar at hP
  split at hP
  · rename_i d hd
    obtain ⟨v, h1, h2⟩ := hL.get i d hd
    exact ⟨v, h1, hP.now hS h2⟩
  · exact hP.elim
theorem xv (i : Nat) {x : Str} (hN : X.N[i]? = some x := by rfl) (hv : Vis X.env.scope x := by first | exact Or.inl rfl | exact Or.inr (Or.inl rfl) | exact Or.inr (Or.inr rfl)) (hd : (x == ("__debug__" : Str)) = false := by decide)
    (hcd : (x == ("__classdict__" : Str)) = false := by decide) : Ex X W (.Name x pos) (eVar i) := ex_var hN hv hd hcd
def eC (d : D) : EM D := fun _ st => .ok d st
theorem ex_c {t : TE} {d : D} {v : V} (h : PE X e t) (ht : ∀ σ H Q, Q v H → t σ H Q) (r : ∀ m H, RD X.K m H d v) : Ex X W e (eC d) :=
  ⟨fun m τ st σ H Q hL hS hP pins s I => h.run pins s σ H Q I (ht _ _ _ (hP.now hS (r m H)))⟩
theorem ex_int {i j} : Ex X W (.Constant (.int i) j pos) (eC (.int i)) := ex_c pe_int (fun _ _ _ h => h) fun _ _ => .int i
theorem ex_bl {i j} : Ex X W (.Constant (.bool i) j pos) (eC (.bl i)) := ex_c pe_bl (fun _ _ _ h => h) fun _ _ => .bl i
theorem ex_non {j} : Ex X W (.Constant .none j pos) (eC .non) := ex_c pe_non (fun _ _ _ h => h) fun _ _ => .non
theorem ex_str {x : Str} {j} : Ex X W (.Constant (.str x) j pos) (eC (.str x.cps.toList)) := ex_c pe_str (fun _ _ _ h => h) fun _ _ => by
  have e : x = ⟨x.cps.toList.toArray⟩ := by simp
  exact e ▸ .str x.cps.toList
theorem ex_strc {x : Str} {j} (l : List Nat) (h : x.cps.toList = l) : Ex X W (.Constant (.str x) j pos) (eC (.str l)) := by
  subst h
  exact ex_str
/-- a module's constant -/
theorem ex_glob {x : Str} {v : V} {u : Value} {d : D} (hg : Gl X x) (hm : X.mg x = some u) (r : RelV v u) (rd : ∀ m H, RD X.K m H d v) (hd : (x == ("__debug__" : Str)) = false := by decide) : Ex X W (.Name x pos) (eC d) :=
  ex_c (pe_glob hg hm r hd) (fun _ _ _ h => h) rd
theorem ex_bltn {x : Str} {v : V} {u : Value} {d : D} (hg : Gl X x) (hm : X.mg x = none) (hv : bootBuiltins x = some u) (r : RelV v u) (rd : ∀ m H, RD X.K m H d v) (hn : x ≠ "__name__" := by decide) (hd : (x == ("__debug__" : Str)) = false := by decide) : Ex X W (.Name x pos) (eC d) :=
  ex_c (pe_bltn hg hm hv r hn hd) (fun _ _ _ h => h) rd

/-! ### operators -/
abbrev O1 := D → Store → ER D
abbrev O2 := D → D → Store → ER D
/-- a rule by values -/
def OpM (X : Cx) (W : WX) (f : Value → Value → Sem Value) (g : O2) : Prop :=
  ∀ (m : List Addr) (st : Store) (σ : L2.St) (H : Hp) (dx dy : D) (x y : V) (Q : VK), SS X.kw m st H → RD X.K m H dx x → RD X.K m H dy y → Pe X.kw (fun c d H' => W c d σ H') (RD X.K) m H (g dx dy st) Q →
    ∀ (pins : List (Addr × Obj)) (s : Shared) (v u : Value), Inv X pins σ H s → RelV x v → RelV y u → wpAny (model X.prog X.w) X.A (f v u) (EP X pins σ Q) X.xe s
theorem OpM.opr {F : Value → Value → Sem Value} {g : O2} (h : OpM X W F g) : OpR X F (fun x y H Q => ∀ (pins : List (Addr × Obj)) (s : Shared) (σ : L2.St) (v u : Value), Inv X pins σ H s → RelV x v → RelV y u → wpAny (model X.prog X.w) X.A (F v u) (EP X pins σ Q) X.xe s) :=
  fun pins s σ H x y v u Q I rx ry z => z pins s σ v u I rx ry
def eBin (g : O2) (fa fb : EM D) : EM D := fun τ st => (fa τ st).bind fun x s1 => (fb τ s1).bind fun y s2 => g x y s2
def wR2 (X : Cx) (f : Value → Value → Sem Value) (σ : L2.St) : R2 := fun x y H Q => ∀ (pins : List (Addr × Obj)) (s : Shared) (v u : Value), Inv X pins σ H s → RelV x v → RelV y u → wpAny (model X.prog X.w) X.A (f v u) (EP X pins σ Q) X.xe s
/-- two expressions in a row -/
theorem two {g : D → D → Store → ER α} {α' : Type} {RA : List Addr → Hp → α → α' → Prop} {Q : α' → Hp → Prop} (ha : Ex X W a fa) (hb : Ex X W b fb) {m : List Addr} {τ : Sl} {st : Store} {σ : L2.St} {H : Hp} (hL : SL X.K m H τ σ) (hS : SS X.kw m st H)
    (hP : Pe X.kw (fun c d H' => W c d σ H') RA m H ((fa τ st).bind fun x s1 => (fb τ s1).bind fun y s2 => g x y s2) Q) {R : V → V → Hp → Prop}
    (hk : ∀ (m2 : List Addr) (st2 : Store) (H2 : Hp) (dx dy : D) (x y : V), Ext X.K m H m2 H2 → SS X.kw m2 st2 H2 → RD X.K m2 H2 dx x → RD X.K m2 H2 dy y → Pe X.kw (fun c d H' => W c d σ H') RA m2 H2 (g dx dy st2) Q → R x y H2) :
    wE X a σ H fun x H1 => wE X b σ H1 fun y H2 => R x y H2 :=
  ha.run m τ st σ H _ hL hS (hP.bind fun dx s1 m1 H1 x e1 hS1 r1 hP1 => hb.run m1 τ s1 σ H1 _ (hL.mono e1) hS1 (hP1.bind fun dy s2 m2 H2 y e2 hS2 r2 hP2 => hk m2 s2 H2 dx dy x y (e1.trans e2) hS2 (r1.mono e2) r2 hP2))
theorem ex_op {op : Operator} {g : O2} (ho : OpM X W (binaryOp op) g) (ha : Ex X W a fa) (hb : Ex X W b fb) : Ex X W (.BinOp a op b pos) (eBin g fa fb) := by
  refine ⟨fun m τ st σ H Q hL hS hP pins s I => ?_⟩
  refine wpAny_BinOp (binT peW peW I (R := fun x y H2 => wR2 X (binaryOp op) σ x y H2 Q) (two ha hb hL hS hP fun m2 st2 H2 dx dy x y e2 hS2 r1 r2 hP2 pins s v u I rx ry => ho m2 st2 σ H2 dx dy x y Q hS2 r1 r2 hP2 pins s v u I rx ry) fun v u s2 x y H2 I2 rx ry q => q pins s2 v u I2 rx ry)
end
end HM

/-! HM, part P: new tuples as frozen ones, that have no dict of their own. -/
namespace HM
open PySem PySem.Spec PyProof.Rows L2
/-- a new tuple -/
abbrev TNew (Q : VK) (H : Hp) (xs : List V) : Prop := ∀ (p : Addr) (o : Obj), o.dict = none → H p = none → Q (.ref p) (upd H p (.frz o (.tup xs)))
section
variable {X : Cx} {es : List Expr} {e : Expr} {t : TA} {pos : Pos}
def tTupF (t : TA) : TE := fun σ H Q => t σ H fun xs H1 => xs.length ≤ sizeLine ∧ TNew Q H1 xs
theorem pe_tupF {x1} (h : PA X es t) : PE X (.Tuple es x1 pos) (tTupF t) := by
  refine ⟨fun pins s σ H Q I hq => ?_⟩
  refine wpAny_Tuple_spliced (thn (h.run pos pins s σ H _ I hq) fun us s1 ⟨xs, H1, I1, r, z, q⟩ => ⟨by rw [← r.length]; exact z, ?_⟩)
  have hf : H1 s1.heap.objs.size = none := I1.hok.fresh (Nat.le_refl _)
  refine ⟨.ref s1.heap.objs.size, upd H1 s1.heap.objs.size (.frz { cls := .type "tuple", data := .seq us.toArray } (.tup xs)), I1.laid (t' := s1.toks) (fun b u e => Heap.get?_push_of_some _ e) (Nat.le_refl _) ?_, rfl, q _ _ rfl hf⟩
  exact ⟨Heap.get?_push_size _ rfl, z, us, r, ⟨_, Heap.get?_push_size _ rfl, rfl, _, rfl⟩⟩
theorem call_tuple_ofF : CallR X (.type "tuple") (fun xs H Q => ∃ p ys, xs = [.ref p] ∧ ((SqL X.K H p ys ∧ TNew Q H ys) ∨ (SqT X.K H p ys ∧ Q (.ref p) H))) := by
  intro pins s σ H xs us Q I r h
  obtain ⟨p, ys, rfl, h⟩ := h
  obtain ⟨u, rfl, rx⟩ := vals1 r
  cases rx
  rcases h with ⟨hq, q⟩ | ⟨hq, q⟩
  · obtain ⟨its, r', pl, hz⟩ := I.list hq
    have hlen := r'.length
    refine call_tuple_list pl.isList (fun h' kp => ?_) (by simp only [List.size_toArray] <;> omega)
    have I1 : Inv X pins σ H { s with heap := h' } := I.kept (t' := s.toks) kp
    have I2 : Inv X pins σ (upd H h'.objs.size (.frz { cls := .type "tuple", data := .seq its.toArray } (.tup ys))) { s with heap := h'.push { cls := .type "tuple", data := .seq its.toArray } } :=
      I1.laid (t' := s.toks) (fun b o e => Heap.get?_push_of_some _ e) (Nat.le_refl _) ⟨Heap.get?_push_size _ rfl, (show ObjOk X.prog X.w _ _ _ (.tup ys) from ⟨hz, its, r', IsTup.new _ _⟩)⟩
    exact ⟨.ref h'.objs.size, _, I2, rfl, q _ _ rfl (I1.hok.fresh (Nat.le_refl _))⟩
  · obtain ⟨its, r', pl, hz⟩ := I.tuple hq
    exact call_tuple_same pl ⟨.ref p, H, I, rfl, q⟩
def rCatF (K : PySem.W.Frag) : R2 := fun x y H Q => ∃ a b xs ys, x = .ref a ∧ y = .ref b ∧ SqT K H a xs ∧ SqT K H b ys ∧ xs.length + ys.length ≤ sizeLine ∧
  (xs = [] → Q (.ref b) H) ∧ (xs ≠ [] → ys = [] → Q (.ref a) H) ∧ (xs ≠ [] → ys ≠ [] → TNew Q H (xs ++ ys))
theorem op_catF : OpR X (binaryOp .Add) (rCatF X.K) := by
  intro pins s σ H x y v u Q I rx ry h
  obtain ⟨a, b, xs, ys, rfl, rfl, ha, hb, hz, q0, q1, q2⟩ := h
  cases rx
  cases ry
  obtain ⟨its, r1, p1, _⟩ := I.tuple ha
  obtain ⟨its2, r2, p2, _⟩ := I.tuple hb
  by_cases hx : xs = []
  · subst hx
    cases r1
    exact cat_tup0 p1 p2 ⟨.ref b, H, I, rfl, q0 rfl⟩
  · refine HT.cat_tup p1 p2 (fun z => hx (r1.nil_iff.mp z)) (fun z => ⟨.ref a, H, I, rfl, q1 hx (r2.nil_iff.mp z)⟩) (fun z => ?_) (by rw [← r1.length, ← r2.length]; exact hz)
    refine ⟨.ref s.heap.objs.size, _, I.laid (t' := s.toks) (o := .frz { cls := .type "tuple", data := .seq (its ++ its2).toArray } (.tup (xs ++ ys))) (fun b ob q => Heap.get?_push_of_some _ q) (Nat.le_refl _) ⟨Heap.get?_push_size _ rfl, ?_⟩, rfl, q2 hx (fun w => z (r2.nil_iff.mpr w)) _ _ rfl (I.hok.fresh (Nat.le_refl _))⟩
    exact ⟨by rw [List.length_append]; exact hz, _, r1.append r2, IsTup.new _ _⟩
def rSlF (K : PySem.W.Frag) : V → Option Int → Option Int → Hp → VK → Prop := fun x lo hi H Q => ∃ a xs, x = .ref a ∧ SqT K H a xs ∧
  ¬ (HT.sIx xs.length 0 lo = 0 ∧ HT.sIx xs.length xs.length hi = xs.length) ∧ TNew Q H (cutV xs lo hi)
theorem sl_tupF : SlR X (rSlF X.K) := by
  intro pins s σ H x v vl vu lo hi sl Q I rx hs pl pu h
  obtain ⟨a, xs, rfl, hx, hw, q⟩ := h
  cases rx
  obtain ⟨its, r, ht, hz⟩ := I.tuple hx
  have hlen : its.toArray.size = xs.length := by rw [List.size_toArray]; exact r.length.symm
  refine ⟨"tuple", _, PyProof.Rows.slot_tuple_getitem.lookup, ht.typeIs, ?_⟩
  refine HT.getItem_tuple_cut ht hs pl pu (by rw [hlen]; exact hw) ?_ (by rw [hlen]; exact hz)
  rw [hlen]
  refine ⟨.ref s.heap.objs.size, _, I.laid (t' := s.toks) (o := .frz _ (.tup (cutV xs lo hi))) (fun b ob q => Heap.get?_push_of_some _ q) (Nat.le_refl _) ⟨Heap.get?_push_size _ rfl, ?_⟩, rfl, q _ _ ?_ (I.hok.fresh (Nat.le_refl _))⟩
  · exact ⟨Nat.le_trans (cutV_length xs lo hi) hz, _, (r.drop (HT.sIx xs.length 0 lo)).take (HT.sIx xs.length xs.length hi - HT.sIx xs.length 0 lo), IsTup.new _ _⟩
  · rfl
def tTupRgF (te : L2.St → Hp → (Int → Int → Hp → Prop) → Prop) : TE := fun σ H Q => te σ H fun a b H1 => RgOk a b ∧ TNew Q H1 (rgV a b)
theorem pe_tupRgF {p pos : Pos} {te : L2.St → Hp → (Int → Int → Hp → Prop) → Prop} (hc : X.calm = true) (hg : Gl X "tuple") (hm : X.mg "tuple" = none) (he : PRg X e te) (na : starEach [e] X.env = (false, eval e X.env) :: starEach [] X.env := by rfl) : PE X (.Call (.Name "tuple" p) [e] [] pos) (tTupRgF te) := by
  refine ⟨fun pins s σ H Q I h => ?_⟩
  refine Call_ (ld_blt I hg hm boot_tuple (PyProof.Rows.callWith_type1 (args_cons (thn (he pins s σ H _ I h) fun x s1 ⟨r, a, b, t, u, v, H1, ex, hr, I1, ok, q⟩ => args_nil ?_) na) na))
  subst ex
  obtain ⟨b1, b2, b3, b4, b5⟩ := ok
  refine call_tuple_range (n := (b - a).toNat) (I1.ok.hd hc) hr (small_one b1 b2 b3 b4) (rangeSize_nat a b) b5 fun h' tk acc hk hi => ?_
  have I2 : Inv X pins σ H1 { s1 with heap := h', toks := tk } := I1.kept hk
  refine ⟨.ref h'.objs.size, upd H1 h'.objs.size (.frz { cls := .type "tuple", data := .seq acc } (.tup (rgV a b))), I2.laid (t' := tk) (fun c o e => Heap.get?_push_of_some _ e) (Nat.le_refl _) ⟨Heap.get?_push_size _ rfl, (show ObjOk X.prog X.w _ _ _ (.tup (rgV a b)) from ⟨?_, acc.toList, vals_rg hi, ?_⟩)⟩, rfl, q _ _ rfl (I2.hok.fresh (Nat.le_refl _))⟩
  · rw [rgV_length, sizeLine_eq]; omega
  · rw [Array.toArray_toList]; exact IsTup.new _ _
def rRepF (K : PySem.W.Frag) : R2 := fun x y H Q => ∃ l k xs, x = .ref l ∧ y = .int k ∧ SqT K H l xs ∧ xs ≠ [] ∧ 2 ≤ k ∧ k ≤ 1000 ∧ xs.length ≤ 1000 ∧ TNew Q H (List.replicate k.toNat xs).flatten
theorem op_repF : OpR X (binaryOp .Mult) (rRepF X.K) := by
  intro pins s σ H x y v u Q I rx ry h
  obtain ⟨l, k, xs, rfl, rfl, hT, hne, h1, h2, hz, q⟩ := h
  cases rx
  obtain ⟨t, rfl⟩ := ry
  obtain ⟨its, r, ⟨⟨cls, dd, data, sl⟩, ho, hc, n, hd⟩, hs⟩ := I.tuple hT
  simp only at hc hd
  subst hc hd
  have hle : its.length = xs.length := r.length.symm
  have hn : its ≠ [] := fun e => hne (by
    rw [e] at hle
    exact List.eq_nil_of_length_eq_zero hle.symm)
  have hi : its.toArray.isEmpty = false := by
    cases its with
    | nil => exact absurd rfl hn
    | cons a b => rfl
  have hsz0 : its.toArray.size = xs.length := by rw [List.size_toArray, hle]
  have hm : ((its.toArray.size : Nat) : Int) * k ≤ 1000000 := by
    rw [hsz0]
    have a1 : ((xs.length : Nat) : Int) * k ≤ 1000 * k := Int.mul_le_mul_of_nonneg_right (by omega) (by omega)
    omega
  have flen : (List.replicate k.toNat its).flatten.length ≤ sizeLine := by
    rw [PyProof.Rows.lm_len_rep_flat, hle, sizeLine_eq]
    have a1 : k.toNat * xs.length ≤ 1000 * 1000 := Nat.mul_le_mul (by omega) hz
    omega
  have c0 : (decide (k < -(2 ^ 63)) || decide (k ≥ 2 ^ 63)) = false := by
    rw [decide_eq_false (by omega), decide_eq_false (by omega)] <;> rfl
  have c1 : (its.toArray.isEmpty || k == 1) = false := by
    rw [hi, Bool.false_or]
    exact beq_eq_false_iff_ne.mpr (by omega)
  have c2 : (decide (k ≤ 0) || its.toArray.isEmpty) = false := by
    rw [hi, Bool.or_false]
    exact decide_eq_false (by omega)
  have c4 : Builtin.Tuple.tupleTooMany (((its.toArray.size : Nat) : Int) * k) = false := by
    unfold Builtin.Tuple.tupleTooMany
    rw [sizeLine_eq]
    exact decide_eq_false (by omega)
  refine wpAny_binaryOp_repeat_ref (T := "tuple") (U := "int") (by decide) ⟨_, ho, rfl⟩ (fun s' => typeIs_int s' k t) noFill_tuple_mul F.fills_int_mul F.slot_int_rmul repeat_tuple F.slot_int_index.lookup
    (call_meets F.slot_int_rmul (typeIs_int s k t) F.entry_int_rmul (F.args_int_rmul_2 _ _) (int_rmul_tuple k t l its.toArray n dd sl)
      ⟨ho, rfl, ⟨_, ho, rfl⟩, call_meets F.slot_tuple_mul ⟨_, ho, rfl⟩ F.entry_tuple_mul (F.args_tuple_mul_2 _ _) (tuple_mulW l its.toArray n dd sl k t c0 c1 c2 (by omega) c4 (by rw [size_rep, List.size_toArray]; exact flen)) ⟨ho, ?_⟩⟩)
  rw [size_rep]
  refine ⟨.ref s.heap.objs.size, _, I.laid (t' := s.toks) (o := .frz _ (.tup (List.replicate k.toNat xs).flatten)) (fun b ob q => Heap.get?_push_of_some _ q) (Nat.le_refl _) ⟨Heap.get?_push_size _ rfl, ?_⟩, rfl, q _ _ ?_ (I.hok.fresh (Nat.le_refl _))⟩
  · exact ⟨by rw [PyProof.Rows.lm_len_rep_flat, sizeLine_eq]; have a1 : k.toNat * xs.length ≤ 1000 * 1000 := Nat.mul_le_mul (by omega) hz; omega, _, r.rep k.toNat, IsTup.new _ _⟩
  · rfl
end
/-! ### methods of frozen tuples -/
/-- the value is of that builtin type -/
def tyP (K : PySem.W.Frag) (T : String) (x : V) (H : Hp) : Prop := tyV K T x H ∨ (T = "tuple" ∧ ∃ (p : Addr) (o : Obj) (vs : List V), x = .ref p ∧ H p = some (.frz o (.tup vs)) ∧ o.dict = none)
section
variable {X : Cx} {pins : List (Addr × Obj)} {σ : L2.St} {H : Hp} {s : Shared}
theorem tyP_is {T : String} {x : V} {v : Value} (I : Inv X pins σ H s) (r : RelV x v) (ty : tyP X.K T x H) : s.TypeIs v T ∧ ∀ a, v = .ref a → ∃ ob, s.heap.get? a = some ob ∧ ob.dict = none := by
  rcases ty with ty | ⟨rfl, p, o, vs, rfl, hp, hd⟩
  · exact tyV_is I r ty
  · cases r
    obtain ⟨e, z, its, rv, ob, e2, hc, n, hdd⟩ := I.hok p _ hp
    rw [e] at e2
    cases e2
    exact ⟨⟨o, e, hc⟩, fun a ea => by cases ea; exact ⟨o, e, hd⟩⟩
end
section
variable {X : Cx} {o e : Expr} {es : List Expr} {to : TE} {t : TA} {name : Str} {apos cpos : Pos} {T id : String} {r : V → List V → Hp → VK → Prop}
def tBM0P (K : PySem.W.Frag) (T : String) (r : V → List V → Hp → VK → Prop) (to : TE) : TE := fun σ H Q => to σ H fun x H1 => tyP K T x H1 ∧ r x [] H1 Q
def tBMP (K : PySem.W.Frag) (T : String) (r : V → List V → Hp → VK → Prop) (to : TE) (t : TA) : TE := fun σ H Q => to σ H fun x H1 => tyP K T x H1 ∧ t σ H1 fun xs H2 => r x xs H2 Q
theorem pe_bm0P (pa : PlainAttrs T) (slot : Slot T name id) (hty : typeOf (.builtin id) = pure (.type "method_descriptor")) (hm : MtR X id r) (ho : PE X o to)
    (hbase : attributeBase o name X.env (eval o X.env) = eval o X.env := by rfl) (hline : (apos.endLine == cpos.line) = true := by rfl) : PE X (.Call (.Attribute o name apos) [] [] cpos) (tBM0P X.K T r to) := by
  refine ⟨fun pins s σ H Q I h => ?_⟩
  refine wpAny_Call_method0_late hbase hline (thn (ho.run pins s σ H _ I h) fun v s1 ⟨x, H1, I1, r1, ty, q1⟩ => ?_)
  obtain ⟨h1, h2⟩ := tyP_is I1 r1 ty
  exact ⟨T, id, pa, slot, hty, h1, h2, Calls.callWith_builtin rfl (PySem.evalArgs_none (hm pins s1 σ H1 x [] v [] Q I1 r1 .nil q1))⟩
theorem pe_bmP (pa : PlainAttrs T) (slot : Slot T name id) (hty : typeOf (.builtin id) = pure (.type "method_descriptor")) (hm : MtR X id r) (ho : PE X o to) (ha : PA X (e :: es) t)
    (hbase : attributeBase o name X.env (eval o X.env) = eval o X.env := by rfl)
    (hfew : ((backTo cpos (starEach (e :: es) X.env)).all (fun x => !x.1) && (backToKw cpos (keywordEach [] X.env)).all (fun x => x.1.isSome)
      && decide ((e :: es).length + ([] : List Keyword).length + (if ([] : List Keyword).isEmpty then 0 else 1) < 30)) = true := by rfl)
    (hline : (apos.endLine == cpos.line) = true := by rfl) (hs : starEach (e :: es) X.env = (false, eval e X.env) :: starEach es X.env := by rfl) (hplain : (backTo cpos (starEach es X.env)).any (·.1) = false := by rfl) :
    PE X (.Call (.Attribute o name apos) (e :: es) [] cpos) (tBMP X.K T r to t) := by
  refine ⟨fun pins s σ H Q I h => ?_⟩
  refine wpAny_Call_method_late hbase hfew hline rfl (thn (ho.run pins s σ H _ I h) fun v s1 ⟨x, H1, I1, r1, ty, q1⟩ => ?_)
  obtain ⟨h1, h2⟩ := tyP_is I1 r1 ty
  refine ⟨T, id, pa, slot, hty, h1, h2, ?_⟩
  have hA := ha.run cpos pins s1 σ H1 _ I1 q1
  rw [hs] at hA ⊢
  refine Calls.callWith_builtin (by show (false || (backTo cpos (starEach es X.env)).any (·.1)) = false; rw [hplain] <;> rfl) (Calls.evalArgs_plain ?_)
  exact thn hA fun us s2 ⟨vs, H2, I2, r2, q2⟩ => hm pins s2 σ H2 x vs v us Q I2 r1 r2 q2
end
end HM

/-! HM, part 3: operators by values. -/
namespace HM
open PySem PySem.Spec PyProof.Rows L2
section
variable {X : Cx} {W : WX}
theorem opm_of {f : Value → Value → Sem Value} {r : R2} {g : O2} (hr : OpR X f r) (h : ∀ (m : List Addr) (st : Store) (H : Hp) (dx dy : D) (x y : V) (E : XK) (Q : VK), SS X.kw m st H → RD X.K m H dx x → RD X.K m H dy y → Pe X.kw E (RD X.K) m H (g dx dy st) Q → r x y H Q) : OpM X W f g :=
  fun m st σ H dx dy x y Q hS r1 r2 hP pins s v u I rx ry => hr pins s σ H x y v u Q I rx ry (h m st H dx dy x y _ Q hS r1 r2 hP)
end
section
variable {K : KW} {E : XK} {m : List Addr} {st : Store} {H : Hp} {Q : VK}
/-- a new tuple -/
theorem Pe.tup {ds : List D} {vs : List V} (h : Pe K E (RD K) m H (.ok (.tup ds) st) Q) (s : SS K m st H) (r : RDs K m H ds vs) : TNew Q H vs := fun p o ho hp =>
  h m _ _ (Ext.fresh hp) (s.fresh hp) (.tup (PlT.of ho) (r.mono (Ext.fresh hp)))
/-- a new list of the store's -/
theorem SS.app {c : Cell} {p : Addr} {o : HO} (s : SS K m st H) (hp : H p = none) (r : RC K (m ++ [p]) (upd H p o) p c) : SS K (m ++ [p]) (st ++ [c]) (upd H p o) :=
  (s.fresh hp).grow (s.notin hp) r
theorem Pe.lst {ds : List D} {vs : List V} (h : Pe K E (RD K) m H (.ok (.ref st.length) (st ++ [.lst ds])) Q) (s : SS K m st H) (r : RDs K m H ds vs) : ∀ p, H p = none → Q (.ref p) (upd H p (.lst vs)) := fun p hp => by
  refine h (m ++ [p]) _ _ (Ext.app hp) (s.app hp ⟨vs, upd_same, r.mono (Ext.app hp)⟩) (.ref ?_)
  rw [← s.len]
  simp
end
/-- the items of a list -/
def lstAt (st : Store) (n : Nat) : Option (List D) := match st[n]? with
  | some (.lst xs) => some xs
  | _ => none
@[simp] theorem lstAt_app {st : Store} {xs : List D} : lstAt (st ++ [.lst xs]) st.length = some xs := by simp [lstAt]
theorem lstAt_left {st more : Store} {n : Nat} (h : n < st.length) : lstAt (st ++ more) n = lstAt st n := by
  unfold lstAt
  rw [List.getElem?_append_left h]
theorem SS.list {K : KW} {m : List Addr} {st : Store} {H : Hp} {n : Nat} {xs : List D} {a : Addr} (s : SS K m st H) (h : lstAt st n = some xs) (e : m[n]? = some a) : ∃ vs, H a = some (.lst vs) ∧ RDs K m H xs vs := by
  unfold lstAt at h
  split at h
  · rename_i ys q
    cases h
    exact s.cel n _ a q e
  · cases h
theorem lstAt_lt {st : Store} {n : Nat} {xs : List D} (h : lstAt st n = some xs) : n < st.length := by
  unfold lstAt at h
  split at h
  · rename_i q
    exact (List.getElem?_eq_some_iff.mp q).1
  · cases h

/-! ### arithmetic -/
def oAdd : O2 := fun x y st => match x, y with
  | .int i, .int j => .ok (.int (i + j)) st
  | .str a, .str b => if a.length + b.length ≤ 16777216 then .ok (.str (a ++ b)) st else .bad
  | .tup a, .tup b => if a.length + b.length ≤ 16777216 then .ok (.tup (a ++ b)) st else .bad
  | .ref a, .ref b => match lstAt st a, lstAt st b with
    | some xs, some ys => if xs.length + ys.length ≤ 16777216 then .ok (.ref st.length) (st ++ [.lst (xs ++ ys)]) else .bad
    | _, _ => .bad
  | _, _ => .bad
def oInt (g : Int → Int → Int) : O2 := fun x y st => match x, y with
  | .int i, .int j => .ok (.int (g i j)) st
  | _, _ => .bad
def oIntC (C : Int → Int → Bool) (g : Int → Int → Int) : O2 := fun x y st => match x, y with
  | .int i, .int j => if C i j then .ok (.int (g i j)) st else .bad
  | _, _ => .bad
abbrev oSub : O2 := oInt fun i j => i - j
def oIAdd : O2 := fun x y st => match x, y with
  | .int i, .int j => .ok (.int (i + j)) st
  | .str a, .str b => if a.length + b.length ≤ 16777216 then .ok (.str (a ++ b)) st else .bad
  | _, _ => .bad
def okMul (i j : Int) : Bool := decide ((i.natAbs < 18446744073709551616 ∨ j.natAbs < 18446744073709551616) ∨ i.natAbs.log2 + j.natAbs.log2 < 1000000)
def okDiv (_ j : Int) : Bool := decide (j ≠ 0 ∧ j.natAbs.log2 < 9000)
def okMod (_ j : Int) : Bool := decide (j ≠ 0)
def okPow (i j : Int) : Bool := decide (0 ≤ j ∧ j ≤ 1000000 ∧ i.natAbs < 18446744073709551616)
def okShr (_ j : Int) : Bool := decide (0 ≤ j)
abbrev oMulI : O2 := oIntC okMul fun i j => i * j
abbrev oDiv : O2 := oIntC okDiv fun i j => i.fdiv j
abbrev oMod : O2 := oIntC okMod fun i j => i.fmod j
abbrev oPow : O2 := oIntC okPow fun i j => i ^ j.toNat
abbrev oShl : O2 := oIntC okPow fun i j => i * 2 ^ j.toNat
abbrev oShr : O2 := oIntC okShr fun i j => i / 2 ^ j.toNat
abbrev oAnd : O2 := oInt Builtin.bitAnd
section
variable {X : Cx} {W : WX}
theorem line_of {n : Nat} (h : n ≤ 16777216) : n ≤ sizeLine := by
  rw [PySem.sizeLine_eq]
  exact h
theorem op_add_all : OpR X (binaryOp .Add) (fun x y H Q => (rI0 (fun i j => .int (i + j)) x y H Q ∨ (∃ i j, x = .str i ∧ y = .str j ∧ i.length + j.length ≤ sizeLine ∧ Q (.str (i ++ j)) H)) ∨ (rCatF X.K x y H Q ∨ rCat x y H Q)) :=
  (op_add.or op_add_str).or (op_catF.or op_cat)
theorem m_add : OpM X W (binaryOp .Add) oAdd := opm_of op_add_all fun m st H dx dy x y E Q hS r1 r2 hP => by
  unfold oAdd at hP
  split at hP
  · cases r1
    cases r2
    exact .inl (.inl ⟨_, _, rfl, rfl, hP.now hS (.int _)⟩)
  · split at hP
    · rename_i hl
      cases r1
      cases r2
      refine .inl (.inr ⟨_, _, rfl, rfl, line_of hl, ?_⟩)
      have q := hP.now hS (.str _)
      have e : ∀ a b : List Nat, (⟨(a ++ b).toArray⟩ : PySem.Str) = (⟨a.toArray⟩ : PySem.Str) ++ (⟨b.toArray⟩ : PySem.Str) := fun a b => by
        show (⟨(a ++ b).toArray⟩ : PySem.Str) = ⟨a.toArray ++ b.toArray⟩
        simp
      rw [e] at q
      exact q
    · exact hP.elim
  · split at hP
    · rename_i a b hl
      cases r1 with
      | tup s1 h1 =>
        rename_i va
        cases r2 with
        | tup s2 h2 =>
          rename_i vb
          refine .inr (.inl ⟨_, _, _, _, rfl, rfl, s1.sq, s2.sq, line_of (by rw [← h1.len, ← h2.len]; exact hl), fun e => ?_, fun _ e => ?_, fun _ _ => ?_⟩)
          · subst e
            cases h1
            exact hP.now hS (.tup s2 h2)
          · subst e
            cases h2
            rw [List.append_nil] at hP
            exact hP.now hS (.tup s1 h1)
          · exact hP.tup hS (h1.append h2)
    · exact hP.elim
  · rename_i a b
    split at hP
    · rename_i xs ys ex ey
      split at hP
      · rename_i hl
        cases r1 with
        | ref e1 =>
          cases r2 with
          | ref e2 =>
            obtain ⟨va, ha, ra⟩ := hS.list ex e1
            obtain ⟨vb, hb, rb⟩ := hS.list ey e2
            exact .inr (.inr ⟨_, _, va, vb, rfl, rfl, ha, hb, line_of (by rw [← ra.len, ← rb.len]; exact hl), hP.lst hS (ra.append rb)⟩)
      · exact hP.elim
    · exact hP.elim
  · exact hP.elim
theorem m_int {f : Value → Value → Sem Value} {g : Int → Int → Int} (h : OpR X f (rI0 fun i j => .int (g i j))) : OpM X W f (oInt g) := opm_of h fun m st H dx dy x y E Q hS r1 r2 hP => by
  unfold oInt at hP
  split at hP
  · cases r1
    cases r2
    exact ⟨_, _, rfl, rfl, hP.now hS (.int _)⟩
  · exact hP.elim
theorem m_intC {f : Value → Value → Sem Value} {C : Int → Int → Bool} {C' : Int → Int → Prop} {g : Int → Int → Int} (h : OpR X f (rI C' fun i j => .int (g i j))) (hC : ∀ i j, C i j = true → C' i j) : OpM X W f (oIntC C g) := opm_of h fun m st H dx dy x y E Q hS r1 r2 hP => by
  unfold oIntC at hP
  split at hP
  · split at hP
    · rename_i hc
      cases r1
      cases r2
      exact ⟨_, _, rfl, rfl, hC _ _ hc, hP.now hS (.int _)⟩
    · exact hP.elim
  · exact hP.elim
theorem m_sub : OpM X W (binaryOp .Sub) oSub := m_int op_sub
theorem op_mulAny : OpR X (binaryOp .Mult) (rI IntMulOk fun i j => .int (i * j)) := opI fun _ _ _ _ _ _ _ hc q => mul_int q hc
theorem m_mulI : OpM X W (binaryOp .Mult) oMulI := m_intC op_mulAny fun i j h => by
  have q : (i.natAbs < 18446744073709551616 ∨ j.natAbs < 18446744073709551616) ∨ i.natAbs.log2 + j.natAbs.log2 < 1000000 := of_decide_eq_true h
  rcases q with (q | q) | q
  · exact CMul.ok (.inl (by omega))
  · exact CMul.ok (.inr (by omega))
  · exact CMulW.ok q
theorem op_fdivAny : OpR X (binaryOp .FloorDiv) (rI (fun _ j => j ≠ 0 ∧ j.natAbs.log2 < 9000) fun i j => .int (i.fdiv j)) := opI fun _ _ _ _ _ _ _ hc q => floordiv_int hc.1 q (.inl (PyProof.noPylong_of_log2 hc.2))
theorem m_div : OpM X W (binaryOp .FloorDiv) oDiv := m_intC op_fdivAny fun i j h => of_decide_eq_true h
theorem m_mod : OpM X W (binaryOp .Mod) oMod := m_intC op_modN fun i j h => of_decide_eq_true h
theorem ok_pow {i j : Int} (h : okPow i j = true) : CPow i j := by
  have q : 0 ≤ j ∧ j ≤ 1000000 ∧ i.natAbs < 18446744073709551616 := of_decide_eq_true h
  exact q
theorem m_pow : OpM X W (binaryOp .Pow) oPow := m_intC op_pow fun i j h => ok_pow h
theorem m_shl : OpM X W (binaryOp .LShift) oShl := m_intC op_shl fun i j h => ok_pow h
theorem m_shr : OpM X W (binaryOp .RShift) oShr := m_intC op_shr fun i j h => of_decide_eq_true h
theorem m_and : OpM X W (binaryOp .BitAnd) oAnd := m_int op_and
/-- in place -/
theorem mi_add : OpM X W (inplaceOp .Add) oIAdd := opm_of (iop_add.or iop_add_str) fun m st H dx dy x y E Q hS r1 r2 hP => by
  unfold oIAdd at hP
  split at hP
  · cases r1
    cases r2
    exact .inl ⟨_, _, rfl, rfl, hP.now hS (.int _)⟩
  · split at hP
    · rename_i hl
      cases r1
      cases r2
      refine .inr ⟨_, _, rfl, rfl, line_of hl, ?_⟩
      have q := hP.now hS (.str _)
      have e : ∀ a b : List Nat, (⟨(a ++ b).toArray⟩ : PySem.Str) = (⟨a.toArray⟩ : PySem.Str) ++ (⟨b.toArray⟩ : PySem.Str) := fun a b => by
        show (⟨(a ++ b).toArray⟩ : PySem.Str) = ⟨a.toArray ++ b.toArray⟩
        simp
      rw [e] at q
      exact q
    · exact hP.elim
  · exact hP.elim
theorem mi_sub : OpM X W (inplaceOp .Sub) oSub := m_int iop_sub
end

/-! ### == by what is data -/
def D.toP : Nat → D → PyData
  | _, .int i => .int i
  | _, .str x => .str ⟨x.toArray⟩
  | n + 1, .tup xs => .tuple (xs.map (D.toP n))
  | _, .bl b => .bool b
  | _, _ => .none
theorem plain_all {K : PySem.W.Frag} {m : List Addr} {H : Hp} {n : Nat} (ih : ∀ (d : D) (v : V), d.plain n = true → RD K m H d v → Dp K H v (d.toP n) ∧ (d.toP n).canLay0 = true ∧ (d.toP n).depth ≤ n) : ∀ (ds : List D) (vs : List V), ds.all (D.plain n) = true → RDs K m H ds vs →
    DpAll K H vs (ds.map (D.toP n)) ∧ PyData.canLayAll0 (ds.map (D.toP n)) = true ∧ PyData.depthAll (ds.map (D.toP n)) ≤ n
  | [], _, _, r => by
    cases r
    exact ⟨.nil, by simp [PyData.canLayAll0], by simp [PyData.depthAll]⟩
  | d :: ds, _, h, r => by
    cases r with
    | cons r1 r2 =>
      rw [List.all_cons, Bool.and_eq_true] at h
      obtain ⟨a1, a2, a3⟩ := ih d _ h.1 r1
      obtain ⟨b1, b2, b3⟩ := plain_all ih ds _ h.2 r2
      refine ⟨.cons a1 b1, ?_, ?_⟩
      · simp only [List.map_cons, PyData.canLayAll0, a2, b2, Bool.and_self]
      · simp only [List.map_cons, PyData.depthAll]
        omega
theorem str_ok {x : List Nat} {n : Nat} (h : (x.all fun c => decide (c < 1114112)) = true) : ((D.str x).toP n).canLay0 = true := by
  have e : (D.str x).toP n = .str ⟨x.toArray⟩ := by cases n <;> rfl
  rw [e]
  simp only [PyData.canLay0, PyData.strOk]
  simpa using h
theorem plain_dp {K : PySem.W.Frag} {m : List Addr} {H : Hp} : ∀ (n : Nat) (d : D) (v : V), d.plain n = true → RD K m H d v → Dp K H v (d.toP n) ∧ (d.toP n).canLay0 = true ∧ (d.toP n).depth ≤ n := by
  intro n
  induction n with
  | zero =>
    intro d v h r
    cases r <;> simp [D.plain] at h
    · exact ⟨.non, by simp [D.toP, PyData.canLay0], by simp [D.toP, PyData.depth]⟩
    · exact ⟨.int _, by simp [D.toP, PyData.canLay0], by simp [D.toP, PyData.depth]⟩
    · exact ⟨.str _, str_ok (by simpa using h), by simp [D.toP, PyData.depth]⟩
  | succ n ih =>
    intro d v h r
    cases r with
    | non => exact ⟨.non, by simp [D.toP, PyData.canLay0], by simp [D.toP, PyData.depth]⟩
    | int i => exact ⟨.int _, by simp [D.toP, PyData.canLay0], by simp [D.toP, PyData.depth]⟩
    | str x => exact ⟨.str _, str_ok h, by simp [D.toP, PyData.depth]⟩
    | tup s rs =>
      rename_i a vs ds
      obtain ⟨b1, b2, b3⟩ := plain_all ih ds vs h rs
      refine ⟨.tup s.sq b1, by simpa only [D.toP, PyData.canLay0] using b2, ?_⟩
      simp only [D.toP, PyData.depth]
      omega
    | _ => simp [D.plain] at h
theorem eqvAll_map {n : Nat} (ih : ∀ x y : D, x.plain n = true → y.plain n = true → PyData.eqv (x.toP n) (y.toP n) = decide (x = y)) : ∀ xs ys : List D, xs.all (D.plain n) = true → ys.all (D.plain n) = true → PyData.eqvAll (xs.map (D.toP n)) (ys.map (D.toP n)) = decide (xs = ys)
  | [], [], _, _ => by simp [PyData.eqvAll]
  | [], _ :: _, _, _ => by simp [PyData.eqvAll]
  | _ :: _, [], _, _ => by simp [PyData.eqvAll]
  | x :: xs, y :: ys, h1, h2 => by
    rw [List.all_cons, Bool.and_eq_true] at h1 h2
    simp only [List.map_cons, PyData.eqvAll, ih x y h1.1 h2.1, eqvAll_map ih xs ys h1.2 h2.2, List.cons.injEq, Bool.decide_and]
theorem eqv_plain : ∀ (n : Nat) (x y : D), x.plain n = true → y.plain n = true → PyData.eqv (x.toP n) (y.toP n) = decide (x = y) := by
  intro n
  induction n with
  | zero =>
    intro x y h1 h2
    cases x <;> simp [D.plain] at h1 <;> cases y <;> simp [D.plain] at h2 <;> simp [D.toP, PyData.eqv]
    all_goals first | rfl | (rw [Bool.eq_iff_iff]; simp)
  | succ n ih =>
    intro x y h1 h2
    cases x <;> simp only [D.plain, Bool.false_eq_true] at h1 <;> cases y <;> simp only [D.plain, Bool.false_eq_true] at h2 <;> first
      | (simp only [D.toP, PyData.eqv, D.tup.injEq]; exact eqvAll_map ih _ _ h1 h2)
      | (simp only [D.toP, PyData.eqv]; first | rfl | (rw [Bool.eq_iff_iff]; simp))
/-- a value as data that == compares: one by itself, or a list -/
def D.pd (st : Store) (d : D) : Option (D ⊕ List D) := match d with
  | .ref n => match lstAt st n with
    | some xs => if xs.all (D.plain 59) then some (.inr xs) else none
    | none => none
  | .rol xs => if xs.all (D.plain 59) then some (.inr xs) else none
  | d => if d.plain 60 then some (.inl d) else none
def pdP : D ⊕ List D → PyData
  | .inl d => d.toP 60
  | .inr xs => .list (xs.map (D.toP 59))
theorem pd_dp {K : KW} {m : List Addr} {st : Store} {H : Hp} {d : D} {v : V} {p : D ⊕ List D} (s : SS K m st H) (h : d.pd st = some p) (r : RD K m H d v) : Dp K H v (pdP p) ∧ SeqAt.shaped (pdP p) = true := by
  have fin : ∀ {q : PyData}, q.canLay0 = true → q.depth ≤ 60 → SeqAt.shaped q = true := fun {q} h1 h2 => by
    unfold SeqAt.shaped
    rw [h1, Bool.true_and, decide_eq_true_eq]
    omega
  have one : ∀ {d : D}, RD K m H d v → d.plain 60 = true → Dp K H v (d.toP 60) ∧ SeqAt.shaped (d.toP 60) = true := fun {d} r h => by
    obtain ⟨a, b, c⟩ := plain_dp 60 d v h r
    exact ⟨a, fin b c⟩
  have lst : ∀ {xs : List D} {vs : List V} {a : Addr}, SqL K H a vs → RDs K m H xs vs → xs.all (D.plain 59) = true → Dp K H (.ref a) (.list (xs.map (D.toP 59))) ∧ SeqAt.shaped (.list (xs.map (D.toP 59))) = true := fun {xs vs a} hl rs h => by
    obtain ⟨a, b, c⟩ := plain_all (plain_dp 59) xs vs h rs
    refine ⟨.lst hl a, fin (by simpa only [PyData.canLay0] using b) ?_⟩
    simp only [PyData.depth]
    omega
  unfold D.pd at h
  split at h
  · split at h
    · split at h
      · rename_i n _ xs e ha
        cases h
        cases r with
        | ref q =>
          obtain ⟨vs, h1, h2⟩ := s.list e q
          exact lst (SqL.of h1) h2 ha
      · cases h
    · cases h
  · split at h
    · rename_i ha
      cases h
      cases r with
      | rol q rs => exact lst q.sq rs ha
    · cases h
  · split at h
    · rename_i ha
      cases h
      exact one r ha
    · cases h
theorem pd_ok {st : Store} {d : D} {p : D ⊕ List D} (h : d.pd st = some p) : (∃ e : D, p = .inl e ∧ e.plain 60 = true) ∨ ∃ xs : List D, p = .inr xs ∧ xs.all (D.plain 59) = true := by
  unfold D.pd at h
  split at h
  · split at h
    · split at h
      · cases h
        exact .inr ⟨_, rfl, by assumption⟩
      · cases h
    · cases h
  · split at h
    · cases h
      exact .inr ⟨_, rfl, by assumption⟩
    · cases h
  · split at h
    · cases h
      exact .inl ⟨_, rfl, by assumption⟩
    · cases h
theorem pd_eqv {st st' : Store} {d e : D} {p q : D ⊕ List D} (h : d.pd st = some p) (h' : e.pd st' = some q) : PyData.eqv (pdP p) (pdP q) = decide (p = q) := by
  rcases pd_ok h with ⟨x, rfl, hx⟩ | ⟨xs, rfl, hx⟩
  · rcases pd_ok h' with ⟨y, rfl, hy⟩ | ⟨ys, rfl, hy⟩
    · show PyData.eqv (x.toP 60) (y.toP 60) = _
      rw [eqv_plain 60 x y hx hy]
      simp
    · show PyData.eqv (x.toP 60) _ = _
      cases x <;> simp [D.plain] at hx <;> simp [D.toP, pdP, PyData.eqv]
  · rcases pd_ok h' with ⟨y, rfl, hy⟩ | ⟨ys, rfl, hy⟩
    · show PyData.eqv _ (y.toP 60) = _
      cases y <;> simp [D.plain] at hy <;> simp [D.toP, pdP, PyData.eqv]
    · show PyData.eqvAll (xs.map (D.toP 59)) (ys.map (D.toP 59)) = _
      rw [eqvAll_map (eqv_plain 59) xs ys hx hy]
      simp
def dEq (x y : D) (st : Store) : Option Bool := match x, y with
  | .str a, .str b => some (decide (a = b))
  | .bl a, .bl b => some (decide (a = b))
  | .int a, .int b => some (decide (a = b))
  | .bl a, .int b => some (decide ((if a then 1 else 0) = b))
  | .int a, .bl b => some (decide (a = (if b then 1 else 0)))
  | x, y => match x.pd st, y.pd st with
    | some p, some q => some (decide (p = q))
    | _, _ => none
def oEq : O2 := fun x y st => match dEq x y st with
  | some b => .ok (.bl b) st
  | none => .bad
def oNe : O2 := fun x y st => match dEq x y st with
  | some b => .ok (.bl !b) st
  | none => .bad
section
variable {X : Cx} {W : WX}
theorem m_eqB {op : CmpOp} {neg : Bool → Bool} {r1 r2 : R2} (h1 : OpR X (compareOp op) r1) (h2 : OpR X (compareOp op) r2) (s1 : ∀ x y H Q, scal x y = true → Q (.bl (neg (decide (x = y)))) H → r1 x y H Q)
    (s2 : ∀ x y H Q d e, Dp X.K H x d → Dp X.K H y e → SeqAt.shaped d = true → SeqAt.shaped e = true → Q (.bl (neg (PyData.eqv d e))) H → r2 x y H Q) : OpM X W (compareOp op) (fun x y st => match dEq x y st with
    | some b => .ok (.bl (neg b)) st
    | none => .bad) := opm_of (h1.or h2) fun m st H dx dy x y E Q hS ra rb hP => by
  split at hP
  · rename_i b hb
    have q := hP.now hS (.bl _)
    unfold dEq at hb
    split at hb
    · cases ra
      cases rb
      cases hb
      refine .inl (s1 _ _ _ _ rfl ?_)
      simpa using q
    · cases ra
      cases rb
      cases hb
      refine .inl (s1 _ _ _ _ rfl ?_)
      simpa using q
    · cases ra
      cases rb
      cases hb
      refine .inl (s1 _ _ _ _ rfl ?_)
      simpa using q
    · cases ra
      cases rb
      cases hb
      refine .inr (s2 _ _ _ _ _ _ (.bl _) (.int _) rfl rfl ?_)
      simpa [PyData.eqv, Bool.beq_eq_decide_eq] using q
    · cases ra
      cases rb
      cases hb
      refine .inr (s2 _ _ _ _ _ _ (.int _) (.bl _) rfl rfl ?_)
      simpa [PyData.eqv, Bool.beq_eq_decide_eq] using q
    · split at hb
      · rename_i p q' e1 e2
        cases hb
        obtain ⟨a1, a2⟩ := pd_dp hS e1 ra
        obtain ⟨b1, b2⟩ := pd_dp hS e2 rb
        refine .inr (s2 _ _ _ _ _ _ a1 b1 a2 b2 ?_)
        rw [pd_eqv e1 e2]
        exact q
      · cases hb
  · exact hP.elim
theorem m_eq (hu : X.A.units + 64 < cLine) : OpM X W (compareOp .Eq) oEq := m_eqB (neg := id) op_eq (op_eqD hu) (fun x y H Q h q => ⟨h, q⟩) fun x y H Q d e h1 h2 h3 h4 q => ⟨d, e, h1, h2, h3, h4, q⟩
theorem m_ne (hu : X.A.units + 64 < cLine) : OpM X W (compareOp .NotEq) oNe := m_eqB (neg := Bool.not) op_ne (op_neD hu) (fun x y H Q h q => ⟨h, q⟩) fun x y H Q d e h1 h2 h3 h4 q => ⟨d, e, h1, h2, h3, h4, q⟩
/-! ### order of ints, is -/
def oCmp (g : Int → Int → Bool) : O2 := fun x y st => match x, y with
  | .int i, .int j => .ok (.bl (g i j)) st
  | _, _ => .bad
theorem m_cmp {f : Value → Value → Sem Value} {g : Int → Int → Bool} (h : OpR X f (rI0 fun i j => .bl (g i j))) : OpM X W f (oCmp g) := opm_of h fun m st H dx dy x y E Q hS r1 r2 hP => by
  unfold oCmp at hP
  split at hP
  · cases r1
    cases r2
    exact ⟨_, _, rfl, rfl, hP.now hS (.bl _)⟩
  · exact hP.elim
abbrev oLtI : O2 := oCmp fun i j => decide (i < j)
abbrev oLe : O2 := oCmp fun i j => decide (i ≤ j)
abbrev oGt : O2 := oCmp fun i j => decide (j < i)
abbrev oGe : O2 := oCmp fun i j => decide (j ≤ i)
theorem m_ltI : OpM X W (compareOp .Lt) oLtI := m_cmp op_lt
theorem m_le : OpM X W (compareOp .LtE) oLe := m_cmp op_le
theorem m_gt : OpM X W (compareOp .Gt) oGt := m_cmp op_gt
theorem m_ge : OpM X W (compareOp .GtE) oGe := m_cmp op_ge
def dIs (x y : D) : Option Bool := match x, y with
  | .non, .non => some true
  | .bl _, .non | .int _, .non | .str _, .non | .tup _, .non | .ref _, .non | .rol _, .non => some false
  | .bl a, .bl b => some (decide (a = b))
  | _, _ => none
def oIs : O2 := fun x y st => match dIs x y with
  | some b => .ok (.bl b) st
  | none => .bad
def oIsNot : O2 := fun x y st => match dIs x y with
  | some b => .ok (.bl !b) st
  | none => .bad
theorem m_isB {op : CmpOp} {neg : Bool → Bool} {r1 r2 : R2} (h1 : OpR X (compareOp op) r1) (h2 : OpR X (compareOp op) r2) (s1 : ∀ x H (Q : VK), Q (.bl (neg (decide (x = .non)))) H → r1 x .non H Q)
    (s2 : ∀ a b H (Q : VK), Q (.bl (neg (decide (a = b)))) H → r2 (.bl a) (.bl b) H Q) : OpM X W (compareOp op) (fun x y st => match dIs x y with
    | some b => .ok (.bl (neg b)) st
    | none => .bad) := opm_of (h1.or h2) fun m st H dx dy x y E Q hS ra rb hP => by
  split at hP
  · rename_i b hb
    have q := hP.now hS (.bl _)
    unfold dIs at hb
    split at hb <;> cases hb <;> cases ra <;> cases rb <;> first | exact .inl (s1 _ _ _ q) | exact .inr (s2 _ _ _ _ q)
  · exact hP.elim
theorem m_is : OpM X W (compareOp .Is) oIs := m_isB (neg := id) op_isN op_is_bl (fun x H Q q => ⟨rfl, q⟩) fun a b H Q q => ⟨_, _, rfl, rfl, q⟩
theorem m_isnot : OpM X W (compareOp .IsNot) oIsNot := m_isB (neg := Bool.not) op_notN op_isnot_bl (fun x H Q q => ⟨rfl, q⟩) fun a b H Q q => ⟨_, _, rfl, rfl, q⟩
end
end HM

/-! HM, part 4: expressions. -/
namespace HM
open PySem PySem.Spec PyProof.Rows L2
section
variable {X : Cx} {W : WX} {e a b c : Expr} {es rest : List Expr} {pos : Pos} {f fa fb fc : EM D} {fs : EM (List D)} {g ga gb : EM Bool}

/-! ### unary, comparisons -/
def eUn (o : O1) (fa : EM D) : EM D := fun τ st => (fa τ st).bind o
def UnM (X : Cx) (W : WX) (F : Value → Sem Value) (g : O1) : Prop :=
  ∀ (m : List Addr) (st : Store) (σ : L2.St) (H : Hp) (dx : D) (x : V) (Q : VK), SS X.kw m st H → RD X.K m H dx x → Pe X.kw (fun c d H' => W c d σ H') (RD X.K) m H (g dx st) Q →
    ∀ (pins : List (Addr × Obj)) (s : Shared) (v : Value), Inv X pins σ H s → RelV x v → wpAny (model X.prog X.w) X.A (F v) (EP X pins σ Q) X.xe s
theorem ex_un {op : UnaryOp} {o : O1} (ho : UnM X W (unaryOp op) o) (ha : Ex X W a fa) : Ex X W (.UnaryOp op a pos) (eUn o fa) := by
  refine ⟨fun m τ st σ H Q hL hS hP pins s I => ?_⟩
  refine UnaryOp_ (thn (ha.run m τ st σ H (fun x H1 => ∀ (pins : List (Addr × Obj)) (s : Shared) (v : Value), Inv X pins σ H1 s → RelV x v → wpAny (model X.prog X.w) X.A (unaryOp op v) (EP X pins σ Q) X.xe s) hL hS (hP.bind fun dx s1 m1 H1 x e1 hS1 r1 hP1 pins s v I rx => ho m1 s1 σ H1 dx x Q hS1 r1 hP1 pins s v I rx) pins s I) fun v s1 ⟨x, H1, I1, r1, q1⟩ => q1 pins s1 v I1 r1)
def oNeg : O1 := fun x st => match x with
  | .int i => .ok (.int (-i)) st
  | _ => .bad
theorem m_neg : UnM X W (unaryOp .USub) oNeg := fun m st σ H dx x Q hS r hP pins s v I rx => by
  unfold oNeg at hP
  split at hP
  · cases r
    exact un_neg pins s σ H _ v Q I rx ⟨_, rfl, hP.now hS (.int _)⟩
  · exact hP.elim
theorem ex_cmp {op : CmpOp} {o : O2} (ho : OpM X W (compareOp op) o) (ha : Ex X W a fa) (hb : Ex X W b fb) (hm : behindInMarks op b = false) : Ex X W (.Compare a [op] [b] pos) (eBin o fa fb) := by
  refine ⟨fun m τ st σ H Q hL hS hP pins s I => ?_⟩
  exact wpAny_Compare1 (binT peW peW I (R := fun x y H2 => wR2 X (compareOp op) σ x y H2 Q) (two ha hb hL hS hP fun m2 st2 H2 dx dy x y e2 hS2 r1 r2 hP2 pins s v u I rx ry => ho m2 st2 σ H2 dx dy x y Q hS2 r1 r2 hP2 pins s v u I rx ry) fun v u s2 x y H2 I2 rx ry q => q pins s2 v u I2 rx ry) hm
/-- a bool as a test -/
def dBl (x : D) (st : Store) : ER Bool := match x with
  | .bl b => .ok b st
  | _ => .bad
def tBl (fa : EM D) : EM Bool := fun τ st => (fa τ st).bind dBl
theorem bl_post {K : KW} {E : XK} {m : List Addr} {H : Hp} {dx : D} {s1 : Store} {x : V} {Q : Bool → Hp → Prop} (hS : SS K m s1 H) (r : RD K m H dx x) (hP : Pe K E RB m H (dBl dx s1) Q) : ∃ k, x = .bl k ∧ Q k H := by
  unfold dBl at hP
  split at hP
  · cases r
    exact ⟨_, rfl, hP.now hS rfl⟩
  · exact hP.elim
theorem et_cmp {op : CmpOp} {o : O2} (ho : OpM X W (compareOp op) o) (ha : Ex X W a fa) (hb : Ex X W b fb) (hm : behindInMarks op b = false) : Et X W (.Compare a [op] [b] pos) (tBl (eBin o fa fb)) := by
  refine ⟨fun m τ st σ H Q hL hS hP pins s I => ?_⟩
  have q : wE X (.Compare a [op] [b] pos) σ H fun x H1 => ∃ k, x = .bl k ∧ Q k H1 := (ex_cmp ho ha hb hm).run m τ st σ H _ hL hS (hP.bind fun dx s1 m1 H1 x e1 hS1 r1 hP1 => bl_post hS1 r1 hP1)
  refine wpAny_isTrue_Compare1 (binT peW peW I (R := fun x y H2 => wR2 X (compareOp op) σ x y H2 fun x H1 => ∃ k, x = .bl k ∧ Q k H1) ?_ fun v u s2 x y H2 I2 rx ry q => thn (q pins s2 v u I2 rx ry) fun c s3 ⟨x, H1, I1, r1, q1⟩ => ?_) hm
  · have hP' : Pe X.kw (fun c d H' => W c d σ H') (RD X.K) m H (eBin o fa fb τ st) fun x H1 => ∃ k, x = .bl k ∧ Q k H1 := hP.bind fun dx s1 m1 H1 x e1 hS1 r1 hP1 => bl_post hS1 r1 hP1
    exact two ha hb hL hS hP' fun m2 st2 H2 dx dy x y e2 hS2 r1 r2 hP2 pins s v u I rx ry => ho m2 st2 σ H2 dx dy x y _ hS2 r1 r2 hP2 pins s v u I rx ry
  · obtain ⟨k, rfl, q1⟩ := q1
    cases r1
    exact wpAny_truthy_bool ⟨H1, I1, q1⟩
/-- a chain of two comparisons -/
def eChain (o o' : O2) (fa fb fc : EM D) : EM D := fun τ st => (fa τ st).bind fun x s1 => (fb τ s1).bind fun y s2 => (o x y s2).bind fun z s3 => match z with
  | .bl true => (fc τ s3).bind fun w s4 => o' y w s4
  | .bl false => .ok (.bl false) s3
  | _ => .bad
theorem chain_read {op op' : CmpOp} {o o' : O2} (ho : OpM X W (compareOp op) o) (ho' : OpM X W (compareOp op') o') (ha : Ex X W a fa) (hb : Ex X W b fb) (hc : Ex X W c fc) {m : List Addr} {τ : Sl} {st : Store} {σ : L2.St} {H : Hp} {Q : VK} (hL : SL X.K m H τ σ) (hS : SS X.kw m st H)
    (hP : Pe X.kw (fun c d H' => W c d σ H') (RD X.K) m H (eChain o o' fa fb fc τ st) Q) : tChain (fun x y H Q => wR2 X (compareOp op) σ x y H Q) (fun x y H Q => wR2 X (compareOp op') σ x y H Q) (wE X a) (wE X b) (wE X c) σ H Q := by
  refine two ha hb hL hS hP fun m2 st2 H2 dx dy x y e2 hS2 r1 r2 hP2 pins s v u I rx ry => ?_
  refine ho m2 st2 σ H2 dx dy x y _ hS2 r1 r2 (hP2.bind fun dz s3 m3 H3 z e3 hS3 r3 hP3 => ?_) pins s v u I rx ry
  split at hP3
  · cases r3
    refine ⟨true, rfl, ?_⟩
    rw [if_pos rfl]
    exact hc.run m3 τ s3 σ H3 _ (hL.mono (e2.trans e3)) hS3 (hP3.bind fun dw s4 m4 H4 w e4 hS4 r4 hP4 pins s v u I rx ry => ho' m4 s4 σ H4 dy dw y w Q hS4 ((r2.mono e3).mono e4) r4 hP4 pins s v u I rx ry)
  · cases r3
    refine ⟨false, rfl, ?_⟩
    rw [if_neg Bool.false_ne_true]
    exact hP3.now hS3 (.bl _)
  · exact hP3.elim
/-- a rule of the layer's whose premises may speak of the slots at hand -/
theorem oprS {F : Value → Value → Sem Value} {σ : L2.St} : ∀ (pins : List (Addr × Obj)) (s : Shared) (H : Hp) (x y : V) (v u : Value) (Q : VK), Inv X pins σ H s → RelV x v → RelV y u → wR2 X F σ x y H Q → wpAny (model X.prog X.w) X.A (F v u) (EP X pins σ Q) X.xe s :=
  fun pins s H x y v u Q I rx ry q => q pins s v u I rx ry
theorem ex_chain {op op' : CmpOp} {o o' : O2} (ho : OpM X W (compareOp op) o) (ho' : OpM X W (compareOp op') o') (ha : Ex X W a fa) (hb : Ex X W b fb) (hc : Ex X W c fc) (hm : lastMarks [op, op'] [b, c] = false := by with_unfolding_all rfl) : Ex X W (.Compare a [op, op'] [b, c] pos) (eChain o o' fa fb fc) := by
  refine ⟨fun m τ st σ H Q hL hS hP pins s I => ?_⟩
  have h := chain_read ho ho' ha hb hc hL hS hP
  refine Compare_chain (thn (peW.run pins s σ H _ I h) fun v s1 ⟨x, H1, I1, r1, q1⟩ => chain_link (thn (peW.run pins s1 σ H1 _ I1 q1) fun u s2 ⟨y, H2, I2, r2, q2⟩ =>
    thn (q2 pins s2 v u I2 r1 r2) fun d s3 ⟨z, H3, I3, r3, k, e, q3⟩ => ?_)) hm
  subst e
  cases r3
  refine wpAny_truthy_bool ?_
  cases k with
  | false => exact ite_ff ⟨.bl false, H3, I3, rfl, q3⟩
  | true => exact ite_tt (chain_last (thn (peW.run pins s3 σ H3 _ I3 q3) fun w' s4 ⟨z', H4, I4, r4, q4⟩ => q4 pins s4 u w' I4 r2 r4))
theorem et_chain {op op' : CmpOp} {o o' : O2} (ho : OpM X W (compareOp op) o) (ho' : OpM X W (compareOp op') o') (ha : Ex X W a fa) (hb : Ex X W b fb) (hc : Ex X W c fc) (hm : lastMarks [op, op'] [b, c] = false := by with_unfolding_all rfl) : Et X W (.Compare a [op, op'] [b, c] pos) (tBl (eChain o o' fa fb fc)) := by
  refine ⟨fun m τ st σ H Q hL hS hP pins s I => ?_⟩
  have hP' : Pe X.kw (fun c d H' => W c d σ H') (RD X.K) m H (eChain o o' fa fb fc τ st) fun x H1 => ∃ k, x = .bl k ∧ Q k H1 := hP.bind fun dx s1 m1 H1 x e1 hS1 r1 hP1 => bl_post hS1 r1 hP1
  have h := chain_read ho ho' ha hb hc hL hS hP'
  refine isTrue_chain (thn (peW.run pins s σ H _ I h) fun v s1 ⟨x, H1, I1, r1, q1⟩ => test_link (thn (peW.run pins s1 σ H1 _ I1 q1) fun u s2 ⟨y, H2, I2, r2, q2⟩ =>
    thn (q2 pins s2 v u I2 r1 r2) fun d s3 ⟨z, H3, I3, r3, k, e, q3⟩ => ?_)) hm
  subst e
  cases r3
  refine wpAny_truthy_bool ?_
  cases k with
  | false =>
    obtain ⟨k', e', q'⟩ := q3
    cases e'
    exact ite_ff ⟨H3, I3, q'⟩
  | true =>
    refine ite_tt (test_last (thn (peW.run pins s3 σ H3 _ I3 q3) fun w' s4 ⟨z', H4, I4, r4, q4⟩ => thn (q4 pins s4 u w' I4 r2 r4) fun d' s5 ⟨z2, H5, I5, r5, k2, e2, q5⟩ => ?_))
    subst e2
    cases r5
    exact wpAny_truthy_bool ⟨H5, I5, q5⟩

/-! ### tests -/
/-- a value's truth -/
def dTru (st : Store) : D → Option Bool
  | .non => some false
  | .bl b => some b
  | .int i => some (i != 0)
  | .str x => if x.length ≤ 16777216 then some (!x.isEmpty) else none
  | .tup xs => some (!xs.isEmpty)
  | .rol xs => some (!xs.isEmpty)
  | .ref n => (lstAt st n).map fun xs => !xs.isEmpty
  | _ => none
def tVal (fa : EM D) : EM Bool := fun τ st => (fa τ st).bind fun x s1 => match dTru s1 x with
  | some b => .ok b s1
  | none => .bad
theorem empty_of {K : PySem.W.Frag} {m : List Addr} {H : Hp} {ds : List D} {vs : List V} (r : RDs K m H ds vs) : ds.isEmpty = vs.isEmpty := by
  cases r <;> rfl
theorem tru_read {K : KW} {m : List Addr} {st : Store} {H : Hp} {d : D} {v : V} {b : Bool} (s : SS K m st H) (h : dTru st d = some b) (r : RD K m H d v) : TruV K v H b := by
  cases r with
  | non =>
    cases h
    exact rfl
  | bl b =>
    cases h
    exact rfl
  | int i =>
    cases h
    exact rfl
  | str x =>
    have h : (if x.length ≤ 16777216 then some (!x.isEmpty) else none) = some b := h
    split at h
    · rename_i hl
      cases h
      refine ⟨line_of (by simpa [PySem.Str.length] using hl), ?_⟩
      cases x with
      | nil => rfl
      | cons c x =>
        have e : ((⟨(c :: x).toArray⟩ : PySem.Str).length : Int) ≠ 0 := by
          show (((c :: x).toArray.size : Nat) : Int) ≠ 0
          rw [List.size_toArray, List.length_cons]
          omega
        simp [PySem.Str.length]
        omega
    · cases h
  | tup q rs =>
    cases h
    exact .inr (.inl ⟨_, q.sq, by rw [empty_of rs]⟩)
  | rol q rs =>
    cases h
    exact .inl ⟨_, q.sq, by rw [empty_of rs]⟩
  | ref q =>
    unfold dTru at h
    simp only [Option.map_eq_some_iff] at h
    obtain ⟨xs, e, rfl⟩ := h
    obtain ⟨vs, h1, h2⟩ := s.list e q
    exact .inl ⟨vs, SqL.of h1, by rw [empty_of h2]⟩
  | _ => cases h
theorem et_val (ha : Ex X W a fa) (he : ∀ whole, isTrue a X.env whole = (do let v ← whole; standAt a.pos; holding [v] (truthy v)) := by intro _; rfl) : Et X W a (tVal fa) := by
  refine ⟨fun m τ st σ H Q hL hS hP pins s I => ?_⟩
  refine isTrue_plain (thn (ha.run m τ st σ H (fun x H' => ∃ k, TruV X.K x H' k ∧ Q k H') hL hS (hP.bind fun dx s1 m1 H1 x e1 hS1 r1 hP1 => ?_) pins s I) fun v s1 ⟨x, H1, I1, r1, q1⟩ => tru_ok pins s1 σ H1 x v Q I1 r1 q1) (he _)
  split at hP1
  · rename_i k hk
    exact ⟨k, tru_read hS1 hk r1, hP1.now hS1 rfl⟩
  · exact hP1.elim
def tAnd (ga gb : EM Bool) : EM Bool := fun τ st => (ga τ st).bind fun x s1 => if x then gb τ s1 else .ok false s1
def tOr (ga gb : EM Bool) : EM Bool := fun τ st => (ga τ st).bind fun x s1 => if x then .ok true s1 else gb τ s1
def tNot (ga : EM Bool) : EM Bool := fun τ st => (ga τ st).bind fun x s1 => .ok (!x) s1
theorem Ew.et (h : Ew X W e g) : Et X W e g := ⟨fun m τ st σ H Q hL hS hP pins s I => h.run m τ st σ H Q hL hS hP _ pins s I⟩
theorem ew_and1 (ha : Et X W a ga) : Ew X W (.BoolOp .And [a] pos) ga := ⟨fun m τ st σ H Q hL hS hP wh pins s I => (pw_and1 ptW).run wh pins s σ H Q I (ha.run m τ st σ H Q hL hS hP)⟩
theorem ew_or1 (ha : Et X W a ga) : Ew X W (.BoolOp .Or [a] pos) ga := ⟨fun m τ st σ H Q hL hS hP wh pins s I => (pw_or1 ptW).run wh pins s σ H Q I (ha.run m τ st σ H Q hL hS hP)⟩
theorem ew_and (ha : Et X W a ga) (hb : Ew X W (.BoolOp .And (b :: rest) pos) gb) : Ew X W (.BoolOp .And (a :: b :: rest) pos) (tAnd ga gb) := by
  refine ⟨fun m τ st σ H Q hL hS hP wh pins s I => (pw_and ptW pwW).run wh pins s σ H Q I ?_⟩
  refine ha.run m τ st σ H _ hL hS (hP.bind fun dx s1 m1 H1 x e1 hS1 r1 hP1 => ?_)
  subst r1
  cases dx with
  | true => exact iteT (hb.run m1 τ s1 σ H1 Q (hL.mono e1) hS1 hP1)
  | false => exact iteF (hP1.now hS1 rfl)
theorem ew_or (ha : Et X W a ga) (hb : Ew X W (.BoolOp .Or (b :: rest) pos) gb) : Ew X W (.BoolOp .Or (a :: b :: rest) pos) (tOr ga gb) := by
  refine ⟨fun m τ st σ H Q hL hS hP wh pins s I => (pw_or ptW pwW).run wh pins s σ H Q I ?_⟩
  refine ha.run m τ st σ H _ hL hS (hP.bind fun dx s1 m1 H1 x e1 hS1 r1 hP1 => ?_)
  subst r1
  cases dx with
  | true => exact iteT (hP1.now hS1 rfl)
  | false => exact iteF (hb.run m1 τ s1 σ H1 Q (hL.mono e1) hS1 hP1)
theorem et_not (ha : Et X W a ga) : Et X W (.UnaryOp .Not a pos) (tNot ga) := by
  refine ⟨fun m τ st σ H Q hL hS hP pins s I => (pt_not ptW).run pins s σ H Q I ?_⟩
  refine ha.run m τ st σ H _ hL hS (hP.bind fun dx s1 m1 H1 x e1 hS1 r1 hP1 => ?_)
  subst r1
  exact hP1.now hS1 rfl
/-! ### and, or, not as values -/
def eAnd (fa fb : EM D) : EM D := fun τ st => (fa τ st).bind fun x s1 => match dTru s1 x with
  | some true => fb τ s1
  | some false => .ok x s1
  | none => .bad
def eOr (fa fb : EM D) : EM D := fun τ st => (fa τ st).bind fun x s1 => match dTru s1 x with
  | some true => .ok x s1
  | some false => fb τ s1
  | none => .bad
def eNot (fa : EM D) : EM D := fun τ st => (fa τ st).bind fun x s1 => match dTru s1 x with
  | some b => .ok (.bl !b) s1
  | none => .bad
theorem ex_one {op} (h : Ex X W a fa) : Ex X W (.BoolOp op [a] pos) fa := ⟨fun m τ st σ H Q hL hS hP pins s I => BoolOp_one (h.run m τ st σ H Q hL hS hP pins s I)⟩
theorem ex_and (ha : Ex X W a fa) (hb : Ex X W (.BoolOp .And (b :: rest) pos) fb) : Ex X W (.BoolOp .And (a :: b :: rest) pos) (eAnd fa fb) := by
  refine ⟨fun m τ st σ H Q hL hS hP pins s I => (pe_andT peW peW).run pins s σ H Q I ?_⟩
  refine ha.run m τ st σ H _ hL hS (hP.bind fun dx s1 m1 H1 x e1 hS1 r1 hP1 => ?_)
  split at hP1
  · rename_i hk
    exact ⟨true, tru_read hS1 hk r1, iteT (hb.run m1 τ s1 σ H1 Q (hL.mono e1) hS1 hP1)⟩
  · rename_i hk
    exact ⟨false, tru_read hS1 hk r1, iteF (hP1.now hS1 r1)⟩
  · exact hP1.elim
theorem ex_or (ha : Ex X W a fa) (hb : Ex X W (.BoolOp .Or (b :: rest) pos) fb) : Ex X W (.BoolOp .Or (a :: b :: rest) pos) (eOr fa fb) := by
  refine ⟨fun m τ st σ H Q hL hS hP pins s I => (pe_orT peW peW).run pins s σ H Q I ?_⟩
  refine ha.run m τ st σ H _ hL hS (hP.bind fun dx s1 m1 H1 x e1 hS1 r1 hP1 => ?_)
  split at hP1
  · rename_i hk
    exact ⟨true, tru_read hS1 hk r1, iteT (hP1.now hS1 r1)⟩
  · rename_i hk
    exact ⟨false, tru_read hS1 hk r1, iteF (hb.run m1 τ s1 σ H1 Q (hL.mono e1) hS1 hP1)⟩
  · exact hP1.elim
theorem ex_not (ha : Ex X W a fa) : Ex X W (.UnaryOp .Not a pos) (eNot fa) := by
  refine ⟨fun m τ st σ H Q hL hS hP pins s I => (pe_notT peW).run pins s σ H Q I ?_⟩
  refine ha.run m τ st σ H _ hL hS (hP.bind fun dx s1 m1 H1 x e1 hS1 r1 hP1 => ?_)
  split at hP1
  · rename_i k hk
    exact ⟨k, tru_read hS1 hk r1, hP1.now hS1 (.bl _)⟩
  · exact hP1.elim
def eIf (g : EM Bool) (fa fb : EM D) : EM D := fun τ st => (g τ st).bind fun x s1 => if x then fa τ s1 else fb τ s1
theorem ex_if {c : Expr} (hc : Et X W c g) (ha : Ex X W a fa) (hb : Ex X W b fb) : Ex X W (.IfExp c a b pos) (eIf g fa fb) := by
  refine ⟨fun m τ st σ H Q hL hS hP pins s I => (pe_ifExp ptW peW peW).run pins s σ H Q I ?_⟩
  refine hc.run m τ st σ H _ hL hS (hP.bind fun dx s1 m1 H1 x e1 hS1 r1 hP1 => ?_)
  subst r1
  cases dx with
  | true => exact iteT (ha.run m1 τ s1 σ H1 Q (hL.mono e1) hS1 hP1)
  | false => exact iteF (hb.run m1 τ s1 σ H1 Q (hL.mono e1) hS1 hP1)

/-! ### arguments, displays -/
def aNil : EM (List D) := fun _ st => .ok [] st
def aCons (f : EM D) (fs : EM (List D)) : EM (List D) := fun τ st => (f τ st).bind fun x s1 => (fs τ s1).bind fun xs s2 => .ok (x :: xs) s2
theorem ea_nil : Ea X W [] aNil := ⟨fun m τ st σ H Q hL hS hP pos pins s I => pa_nil.run pos pins s σ H Q I (hP.now hS .nil)⟩
theorem ea_cons (ha : Ex X W e f) (hr : Ea X W es fs) (hs : starEach (e :: es) X.env = (false, eval e X.env) :: starEach es X.env := by rfl) : Ea X W (e :: es) (aCons f fs) := by
  refine ⟨fun m τ st σ H Q hL hS hP pos pins s I => (pa_cons peW paW hs).run pos pins s σ H Q I ?_⟩
  refine ha.run m τ st σ H _ hL hS (hP.bind fun dx s1 m1 H1 x e1 hS1 r1 hP1 => ?_)
  exact hr.run m1 τ s1 σ H1 _ (hL.mono e1) hS1 (hP1.bind fun ds s2 m2 H2 xs e2 hS2 r2 hP2 => hP2.now hS2 (.cons (r1.mono e2) r2))
def eTup (fs : EM (List D)) : EM D := fun τ st => (fs τ st).bind fun xs s1 => if xs.length ≤ 16777216 then .ok (.tup xs) s1 else .bad
def eLst (fs : EM (List D)) : EM D := fun τ st => (fs τ st).bind fun xs s1 => if xs.length ≤ 16777216 then .ok (.ref s1.length) (s1 ++ [.lst xs]) else .bad
theorem ex_tup {x1} (h : Ea X W es fs) : Ex X W (.Tuple es x1 pos) (eTup fs) := by
  refine ⟨fun m τ st σ H Q hL hS hP pins s I => (pe_tupF paW).run pins s σ H Q I ?_⟩
  refine h.run m τ st σ H _ hL hS (hP.bind fun ds s1 m1 H1 vs e1 hS1 r1 hP1 => ?_)
  split at hP1
  · rename_i hl
    exact ⟨line_of (by rw [← r1.len]; exact hl), hP1.tup hS1 r1⟩
  · exact hP1.elim
theorem ex_lst (h : Ea X W es fs) : Ex X W (.List es pos) (eLst fs) := by
  refine ⟨fun m τ st σ H Q hL hS hP pins s I => (pe_lst paW).run pins s σ H Q I ?_⟩
  refine h.run m τ st σ H _ hL hS (hP.bind fun ds s1 m1 H1 vs e1 hS1 r1 hP1 => ?_)
  split at hP1
  · rename_i hl
    exact ⟨line_of (by rw [← r1.len]; exact hl), hP1.lst hS1 r1⟩
  · exact hP1.elim

/-! ### subscripts -/
def IxM (X : Cx) (W : WX) (g : O2) : Prop :=
  ∃ r : R2, IxR X r ∧ ∀ (m : List Addr) (st : Store) (H : Hp) (dx dy : D) (x y : V) (E : XK) (Q : VK), SS X.kw m st H → RD X.K m H dx x → RD X.K m H dy y → Pe X.kw E (RD X.K) m H (g dx dy st) Q → r x y H Q
theorem ex_ix {o : O2} (ho : IxM X W o) (ha : Ex X W a fa) (hb : Ex X W b fb) (hs : PlainIx b := by exact fun _ _ => rfl) : Ex X W (.Subscript a b pos) (eBin o fa fb) := by
  obtain ⟨r, hr, h⟩ := ho
  refine ⟨fun m τ st σ H Q hL hS hP pins s I => (pe_ix hr peW peW hs).run pins s σ H Q I ?_⟩
  exact two ha hb hL hS hP fun m2 st2 H2 dx dy x y e2 hS2 r1 r2 hP2 => h m2 st2 H2 dx dy x y _ Q hS2 r1 r2 hP2
def oIxS : O2 := fun x y st => match x, y with
  | .tup xs, .int i => match atI xs i with
    | some d => .ok d st
    | none => .bad
  | .rol xs, .int i => match atI xs i with
    | some d => .ok d st
    | none => .bad
  | .ref n, .int i => match lstAt st n with
    | some xs => match atI xs i with
      | some d => .ok d st
      | none => .bad
    | none => .bad
  | .str x, .int i => if x.length ≤ 16777216 then match atI x i with
      | some c => .ok (.str [c]) st
      | none => .bad
    else .bad
  | _, _ => .bad
theorem atI_rds {K : PySem.W.Frag} {m : List Addr} {H : Hp} {ds : List D} {vs : List V} {i : Int} {d : D} (r : RDs K m H ds vs) (h : atI ds i = some d) : ∃ v, atI vs i = some v ∧ RD K m H d v := by
  unfold atI at h ⊢
  rw [← r.len]
  cases e : ixN ds.length i with
  | none =>
    rw [e] at h
    cases h
  | some j =>
    rw [e] at h
    exact r.get h
theorem m_ixS : IxM X W oIxS := ⟨_, ix_seq, fun m st H dx dy x y E Q hS r1 r2 hP => by
  unfold oIxS at hP
  split at hP
  · split at hP
    · rename_i d e
      cases r1 with
      | tup q rs =>
        cases r2
        obtain ⟨v, h1, h2⟩ := atI_rds rs e
        exact .inr (.inl ⟨_, _, _, v, rfl, rfl, q.sq, h1, hP.now hS h2⟩)
    · exact hP.elim
  · split at hP
    · rename_i d e
      cases r1 with
      | rol q rs =>
        cases r2
        obtain ⟨v, h1, h2⟩ := atI_rds rs e
        exact .inl ⟨_, _, _, v, rfl, rfl, q.sq, h1, hP.now hS h2⟩
    · exact hP.elim
  · split at hP
    · split at hP
      · rename_i ex _ _ e
        cases r1 with
        | ref q =>
          cases r2
          obtain ⟨vs, h1, h2⟩ := hS.list ex q
          obtain ⟨v, h3, h4⟩ := atI_rds h2 e
          exact .inl ⟨_, _, _, v, rfl, rfl, SqL.of h1, h3, hP.now hS h4⟩
      · exact hP.elim
    · exact hP.elim
  · split at hP
    · split at hP
      · rename_i hl _ c e
        cases r1
        cases r2
        exact .inr (.inr ⟨_, _, c, rfl, rfl, line_of (by simpa [PySem.Str.length] using hl), by simpa using e, hP.now hS (.str [c])⟩)
      · exact hP.elim
    · exact hP.elim
  · exact hP.elim⟩
end
end HM

/-! HM, part 5: calls, what is walked, comprehensions. -/
namespace HM
open PySem PySem.Spec PyProof.Rows L2

/-! ### defs -/
abbrev FM := List D → Store → ER D
/-- a def's promise by its mirror -/
def spM (K : KW) (n : Nat) (mf : FM) : Sp := fun vs H Q E => ∃ (m : List Addr) (st : Store) (ds : List D), ds.length = n ∧ SS K m st H ∧ RDs K m H ds vs ∧ Pe K E (RD K) m H (mf ds st) Q
/-- the def f keeps the mirror -/
abbrev FnM (P : Program) (w : World) (K : PySem.W.Frag) (mg : Str → Option Value) (base : Heap) (k : Nat) (f : Addr) (fd : FuncData) (ps : List Str) (mf : FM) : Prop :=
  FnOk P w K mg base (L2.CX P w) k f fd ps (spM ⟨K, w⟩ ps.length mf)
section
variable {X : Cx} {W : WX} {e a b c : Expr} {es rest : List Expr} {pos p : Pos} {f fa fb fc : EM D} {fs : EM (List D)} {g ga gb : EM Bool}
def eCall (n : Nat) (mf : FM) (fs : EM (List D)) : EM D := fun τ st => (fs τ st).bind fun ds s1 => if ds.length = n then mf ds s1 else .bad
theorem ex_call {k : Nat} {fa : Addr} {fd : FuncData} {ps : List Str} {mf : FM} {x : Str} (tk : Takes X W) (F : FnM X.prog X.w X.K X.mg X.base k fa fd ps mf) (hr : Room k X.A) (hg : Gl X x) (hm : X.mg x = some (.ref fa)) (hk : PySem.W.keepIn X.K (.ref fa) = true) (hb : Binds X.K fd ps [])
    (ha : Ea X W (e :: es) fs) (hdb : (x == ("__debug__" : Str)) = false := by decide) (he : starEach (e :: es) X.env = (false, eval e X.env) :: starEach es X.env := by rfl) (hpl : (backTo pos (starEach es X.env)).any (·.1) = false := by rfl) :
    Ex X W (.Call (.Name x p) (e :: es) [] pos) (eCall ps.length mf fs) := by
  refine ⟨fun m τ st σ H Q hL hS hP pins s I => ?_⟩
  refine wpAny_Call_Name_kw (ld_glob I hg hm ?_ hdb)
  have q : wA X (e :: es) σ H fun vs H1 => spM X.kw ps.length mf (vs ++ []) H1 Q (WE W σ) := ha.run m τ st σ H _ hL hS (hP.bind fun ds s1 m1 H1 vs e1 hS1 r1 hP1 => by
    split at hP1
    · rename_i hl
      rw [List.append_nil]
      exact ⟨m1, s1, ds, hl, hS1, r1, hP1⟩
    · exact hP1.elim)
  refine PySem.W.callWith_K (h₀ := X.base) I.ok.mod.kin hk (thn (q pos pins s I) fun us s1 ⟨vs, H1, I1, r, q⟩ => ⟨I1.kIn, ?_⟩) he hpl
  exact run_fnSD (E := WE W) F hr hb .nil (passAt tk σ) I1 r q
theorem ex_call0 {k : Nat} {fa : Addr} {fd : FuncData} {ps : List Str} {mf : FM} {x : Str} (tk : Takes X W) (F : FnM X.prog X.w X.K X.mg X.base k fa fd ps mf) (hr : Room k X.A) (hg : Gl X x) (hm : X.mg x = some (.ref fa)) (hk : PySem.W.keepIn X.K (.ref fa) = true) (hb : Binds X.K fd ps [])
    (hdb : (x == ("__debug__" : Str)) = false := by decide) : Ex X W (.Call (.Name x p) [] [] pos) (eCall ps.length mf aNil) := by
  refine ⟨fun m τ st σ H Q hL hS hP pins s I => ?_⟩
  refine wpAny_Call_Name_kw (ld_glob I hg hm ?_ hdb)
  refine PySem.W.callWith_K0 I.kIn hk (run_fnSD (E := WE W) (us := []) (vs := []) F hr hb .nil (passAt tk σ) I .nil ?_)
  have hP : Pe X.kw (fun c d H' => W c d σ H') (RD X.K) m H (if ([] : List D).length = ps.length then mf [] st else .bad) Q := hP
  split at hP
  · rename_i hl
    exact ⟨m, st, [], hl, hS, .nil, hP⟩
  · exact hP.elim

/-! ### built-ins by values -/
def CallM (X : Cx) (fv : Value) (g : FM) : Prop :=
  ∃ r, CallR X fv r ∧ ∀ (m : List Addr) (st : Store) (H : Hp) (ds : List D) (vs : List V) (E : XK) (Q : VK), SS X.kw m st H → RDs X.K m H ds vs → Pe X.kw E (RD X.K) m H (g ds st) Q → r vs H Q
def eCB (mf : FM) (fs : EM (List D)) : EM D := fun τ st => (fs τ st).bind mf
theorem ex_callB {x : Str} {id : String} {mf : FM} (hc : CallM X (.builtin id) mf) (hg : Gl X x) (hm : X.mg x = none) (hv : bootBuiltins x = some (.builtin id)) (ha : Ea X W (e :: es) fs) (hn : x ≠ "__name__" := by decide) (hdb : (x == ("__debug__" : Str)) = false := by decide)
    (he : starEach (e :: es) X.env = (false, eval e X.env) :: starEach es X.env := by rfl) (hpl : (backTo pos (starEach es X.env)).any (·.1) = false := by rfl) : Ex X W (.Call (.Name x p) (e :: es) [] pos) (eCB mf fs) := by
  obtain ⟨r, hr, h⟩ := hc
  refine ⟨fun m τ st σ H Q hL hS hP pins s I => (pe_callB hr hg hm hv paW hn hdb he hpl).run pins s σ H Q I ?_⟩
  exact ha.run m τ st σ H _ hL hS (hP.bind fun ds s1 m1 H1 vs e1 hS1 r1 hP1 => h m1 s1 H1 ds vs _ Q hS1 r1 hP1)
theorem ex_callT {x : Str} {T : String} {mf : FM} (hc : CallM X (.type T) mf) (hg : Gl X x) (hm : X.mg x = none) (hv : bootBuiltins x = some (.type T)) (ha : Ea X W (e :: es) fs) (hn : x ≠ "__name__" := by decide) (hdb : (x == ("__debug__" : Str)) = false := by decide)
    (he : starEach (e :: es) X.env = (false, eval e X.env) :: starEach es X.env := by rfl) (hpl : (backTo pos (starEach es X.env)).any (·.1) = false := by rfl) : Ex X W (.Call (.Name x p) (e :: es) [] pos) (eCB mf fs) := by
  obtain ⟨r, hr, h⟩ := hc
  refine ⟨fun m τ st σ H Q hL hS hP pins s I => (pe_callTy hr hg hm hv paW hn hdb he hpl).run pins s σ H Q I ?_⟩
  exact ha.run m τ st σ H _ hL hS (hP.bind fun ds s1 m1 H1 vs e1 hS1 r1 hP1 => h m1 s1 H1 ds vs _ Q hS1 r1 hP1)
theorem ex_callF {x : Str} {id : String} {mf : FM} (hc : CallM X (.builtin id) mf) (hg : Gl X x) (hm : X.mg x = some (.builtin id)) (ha : Ea X W (e :: es) fs) (hdb : (x == ("__debug__" : Str)) = false := by decide)
    (he : starEach (e :: es) X.env = (false, eval e X.env) :: starEach es X.env := by rfl) (hpl : (backTo pos (starEach es X.env)).any (·.1) = false := by rfl) : Ex X W (.Call (.Name x p) (e :: es) [] pos) (eCB mf fs) := by
  obtain ⟨r, hr, h⟩ := hc
  refine ⟨fun m τ st σ H Q hL hS hP pins s I => (pe_callBfun hr hg hm paW hdb he hpl).run pins s σ H Q I ?_⟩
  exact ha.run m τ st σ H _ hL hS (hP.bind fun ds s1 m1 H1 vs e1 hS1 r1 hP1 => h m1 s1 H1 ds vs _ Q hS1 r1 hP1)
/-- the items of what is a list or a tuple -/
def dSeq (st : Store) : D → Option (List D)
  | .tup xs => some xs
  | .rol xs => some xs
  | .ref n => lstAt st n
  | _ => none
def SqV (K : PySem.W.Frag) (m : List Addr) (H : Hp) (ds : List D) (v : V) : Prop := ∃ a vs, v = .ref a ∧ (SqL K H a vs ∨ PlT K H a vs) ∧ RDs K m H ds vs
theorem dSeq_read {K : KW} {m : List Addr} {st : Store} {H : Hp} {d : D} {v : V} {xs : List D} (s : SS K m st H) (h : dSeq st d = some xs) (r : RD K m H d v) : SqV K m H xs v := by
  cases r with
  | tup q rs =>
    cases h
    exact ⟨_, _, rfl, .inr q, rs⟩
  | rol q rs =>
    cases h
    exact ⟨_, _, rfl, .inl q.sq, rs⟩
  | ref q =>
    obtain ⟨vs, h1, h2⟩ := s.list h q
    exact ⟨_, vs, rfl, .inl (SqL.of h1), h2⟩
  | _ => cases h
def fLenS : FM := fun ds st => match ds with
  | [.str x] => if x.length ≤ 16777216 then .ok (.int x.length) st else .bad
  | [d] => match dSeq st d with
    | some xs => .ok (.int xs.length) st
    | none => .bad
  | _ => .bad
theorem c_lenS : CallM X (.builtin "len") fLenS := ⟨_, call_len_seq.or call_len_str, fun m st H ds vs E Q hS r hP => by
  unfold fLenS at hP
  split at hP
  · split at hP
    · rename_i x hl
      obtain ⟨v, rfl, r1⟩ := r.one
      cases r1
      refine .inr ⟨_, rfl, line_of (by simpa [PySem.Str.length] using hl), ?_⟩
      have e : (((⟨x.toArray⟩ : PySem.Str).length : Nat) : Int) = (x.length : Int) := by simp [PySem.Str.length]
      rw [e]
      exact hP.now hS (.int _)
    · exact hP.elim
  · split at hP
    · rename_i xs hx
      obtain ⟨v, rfl, r1⟩ := r.one
      obtain ⟨a, vs, rfl, q, rs⟩ := dSeq_read hS hx r1
      refine .inl ⟨a, vs, rfl, q.imp id PlT.sq, ?_⟩
      rw [← rs.len]
      exact hP.now hS (.int _)
    · exact hP.elim
  · exact hP.elim⟩
def fInt : FM := fun ds st => match ds with
  | [.int i] => .ok (.int i) st
  | [.bl b] => .ok (.int (if b then 1 else 0)) st
  | _ => .bad
theorem c_int : CallM X (.type "int") fInt := ⟨_, call_int1, fun m st H ds vs E Q hS r hP => by
  unfold fInt at hP
  split at hP
  · obtain ⟨v, rfl, r1⟩ := r.one
    cases r1
    exact .inl ⟨_, rfl, hP.now hS (.int _)⟩
  · obtain ⟨v, rfl, r1⟩ := r.one
    cases r1
    exact .inr ⟨_, rfl, hP.now hS (.int _)⟩
  · exact hP.elim⟩
def fAbs : FM := fun ds st => match ds with
  | [.int i] => .ok (.int (i.natAbs : Nat)) st
  | _ => .bad
theorem c_abs : CallM X (.builtin "abs") fAbs := ⟨_, call_abs, fun m st H ds vs E Q hS r hP => by
  unfold fAbs at hP
  split at hP
  · rename_i i
    obtain ⟨v, rfl, r1⟩ := r.one
    cases r1
    refine ⟨_, rfl, ?_⟩
    have e : (if i < 0 then -i else i) = ((i.natAbs : Nat) : Int) := by split <;> omega
    rw [e]
    exact hP.now hS (.int _)
  · exact hP.elim⟩
def fGcd : FM := fun ds st => match ds with
  | [.int i, .int j] => .ok (.int (Nat.gcd i.natAbs j.natAbs : Nat)) st
  | _ => .bad
theorem c_gcd : CallM X (.builtin "math.gcd") fGcd := ⟨_, cr_gcd, fun m st H ds vs E Q hS r hP => by
  unfold fGcd at hP
  split at hP
  · obtain ⟨v, u, rfl, r1, r2⟩ := r.two
    cases r1
    cases r2
    exact ⟨_, _, rfl, hP.now hS (.int _)⟩
  · exact hP.elim⟩
def fTuple : FM := fun ds st => match ds with
  | [d] => match dSeq st d with
    | some xs => .ok (.tup xs) st
    | none => .bad
  | _ => .bad
theorem c_tuple : CallM X (.type "tuple") fTuple := ⟨_, call_tuple_ofF, fun m st H ds vs E Q hS r hP => by
  unfold fTuple at hP
  split at hP
  · split at hP
    · rename_i xs hx
      obtain ⟨v, rfl, r1⟩ := r.one
      obtain ⟨a, vs, rfl, q, rs⟩ := dSeq_read hS hx r1
      rcases q with q | q
      · exact ⟨a, vs, rfl, .inl ⟨q, hP.tup hS rs⟩⟩
      · exact ⟨a, vs, rfl, .inr ⟨q.sq, hP.now hS (.tup q rs)⟩⟩
    · exact hP.elim
  · exact hP.elim⟩
def fList : FM := fun ds st => match ds with
  | [d] => match dSeq st d with
    | some xs => .ok (.ref st.length) (st ++ [.lst xs])
    | none => .bad
  | _ => .bad
theorem c_list : CallM X (.type "list") fList := ⟨_, call_list_of, fun m st H ds vs E Q hS r hP => by
  unfold fList at hP
  split at hP
  · split at hP
    · rename_i xs hx
      obtain ⟨v, rfl, r1⟩ := r.one
      obtain ⟨a, vs, rfl, q, rs⟩ := dSeq_read hS hx r1
      exact ⟨a, vs, rfl, q.imp id PlT.sq, hP.lst hS rs⟩
    · exact hP.elim
  · exact hP.elim⟩
def fMin2 : FM := fun ds st => match ds with
  | [.int i, .int j] => .ok (.int (if j < i then j else i)) st
  | _ => .bad
theorem c_min2 (hc : X.calm = true) : CallM X (.builtin "min") fMin2 := ⟨_, call_min2 hc, fun m st H ds vs E Q hS r hP => by
  unfold fMin2 at hP
  split at hP
  · obtain ⟨v, u, rfl, r1, r2⟩ := r.two
    cases r1
    cases r2
    exact ⟨_, _, rfl, hP.now hS (.int _)⟩
  · exact hP.elim⟩
def fMax2 : FM := fun ds st => match ds with
  | [.int i, .int j] => .ok (.int (if j > i then j else i)) st
  | _ => .bad
theorem c_max2 (hc : X.calm = true) : CallM X (.builtin "max") fMax2 := ⟨_, call_max2 hc, fun m st H ds vs E Q hS r hP => by
  unfold fMax2 at hP
  split at hP
  · obtain ⟨v, u, rfl, r1, r2⟩ := r.two
    cases r1
    cases r2
    exact ⟨_, _, rfl, hP.now hS (.int _)⟩
  · exact hP.elim⟩
/-! ### isinstance -/
def dTy (st : Store) : D → Option String
  | .non => some "NoneType"
  | .bl _ => some "bool"
  | .int _ => some "int"
  | .str _ => some "str"
  | .tup _ => some "tuple"
  | .rol _ => some "list"
  | .ref n => (lstAt st n).map fun _ => "list"
  | _ => none
def isiT (a b : String) : Option Bool :=
  if (["NoneType", "bool", "int", "str", "tuple", "list"].contains a && ["bool", "int", "str", "tuple", "list"].contains b) = true then some (decide (a = b) || (decide (a = "bool") && decide (b = "int"))) else none
theorem isiT_ok {a b : String} {r : Bool} (h : isiT a b = some r) : kitB a b = some r := by
  have all : (["NoneType", "bool", "int", "str", "tuple", "list"].all fun a => ["bool", "int", "str", "tuple", "list"].all fun b => decide (kitB a b = some (decide (a = b) || (decide (a = "bool") && decide (b = "int"))))) = true := by decide +kernel
  unfold isiT at h
  split at h
  · rename_i c
    rw [Bool.and_eq_true] at c
    have z := List.all_eq_true.mp (List.all_eq_true.mp all a (List.contains_iff_mem.mp c.1)) b (List.contains_iff_mem.mp c.2)
    rw [of_decide_eq_true z]
    exact h
  · cases h
theorem ty_read {K : KW} {m : List Addr} {st : Store} {H : Hp} {d : D} {v : V} {t : String} (s : SS K m st H) (h : dTy st d = some t) (r : RD K m H d v) : TyX K H v (.type t) := by
  cases r with
  | non => cases h; exact .base .non
  | bl b => cases h; exact .base (.bl b)
  | int i => cases h; exact .base (.int i)
  | str x => cases h; exact .base (.str _)
  | tup q rs =>
    cases h
    rcases q with ⟨o, _, q⟩ | ⟨o, its, n, q1, q2, _⟩
    · exact .fTuple q
    · exact .kTuple q1 q2
  | rol q rs =>
    cases h
    rcases q with ⟨o, q⟩ | ⟨o, its, n, q1, q2, _⟩
    · exact .base (.frz q)
    · exact .kList q1 q2
  | ref q =>
    have h : (lstAt st _).map (fun _ => "list") = some t := h
    simp only [Option.map_eq_some_iff] at h
    obtain ⟨xs, e, rfl⟩ := h
    obtain ⟨vs, h1, h2⟩ := s.list e q
    exact .base (.lst h1)
  | _ => cases h
def fIsi : FM := fun ds st => match ds with
  | [d, .ty c] => match dTy st d with
    | some t => match isiT t c with
      | some b => .ok (.bl b) st
      | none => .bad
    | none => .bad
  | _ => .bad
theorem c_isi : CallM X (.builtin "isinstance") fIsi := ⟨_, call_isi, fun m st H ds vs E Q hS r hP => by
  unfold fIsi at hP
  split at hP
  · split at hP
    · rename_i t ht
      split at hP
      · rename_i b hb
        obtain ⟨v, u, rfl, r1, r2⟩ := r.two
        cases r2
        exact ⟨_, _, _, _, b, rfl, by constructor, ty_read hS ht r1, kit_ty (isiT_ok hb), hP.now hS (.bl _)⟩
      · exact hP.elim
    · exact hP.elim
  · exact hP.elim⟩

/-! ### fresh lists, sequences as arguments -/
/-- an expression that makes a list that nobody else has -/
structure El (X : Cx) (W : WX) (e : Expr) (f : EM (List D)) : Prop where
  run : ∀ (m : List Addr) (τ : Sl) (st : Store) (σ : L2.St) (H : Hp) (Q : VK), SL X.K m H τ σ → SS X.kw m st H →
    Pe X.kw (fun c d H' => W c d σ H') (fun m' H' ds v => ∃ a vs, v = .ref a ∧ H' a = some (.lst vs) ∧ a ∉ m' ∧ H a = none ∧ RDs X.K m' H' ds vs) m H (f τ st) Q → wE X e σ H Q
def eEl (f : EM (List D)) : EM D := fun τ st => (f τ st).bind fun ds s1 => .ok (.ref s1.length) (s1 ++ [.lst ds])
theorem Ext.back {K : KW} {m m1 : List Addr} {H H1 : Hp} {s1 : Store} {a : Addr} (e : Ext K m H m1 H1) (s : SS K m1 s1 H1) (h : H1 a = none) : H a = none := by
  cases q : H a with
  | none => rfl
  | some o =>
    by_cases hm : a ∈ m
    · exact absurd (e.mem hm) (s.notin h)
    · rw [e.frm a o hm q] at h
      cases h
theorem Ext.own {K : PySem.W.Frag} {m m1 : List Addr} {H H1 : Hp} {a : Addr} (e : Ext K m H m1 H1) (h : H a = none) : Ext K m H (m1 ++ [a]) H1 where
  pre := fun n b q => by
    have z := e.pre n b q
    rw [List.getElem?_append_left (List.getElem?_eq_some_iff.mp z).1]
    exact z
  tup := e.tup
  plt := e.plt
  fzl := e.fzl
  xdk := e.xdk
  frm := e.frm
  new := fun b q n => by
    rcases List.mem_append.mp q with q | q
    · exact e.new b q n
    · have z : b = a := by simpa using q
      rw [z]
      exact h
theorem ex_el {fl : EM (List D)} (h : El X W e fl) : Ex X W e (eEl fl) := by
  refine ⟨fun m τ st σ H Q hL hS hP => h.run m τ st σ H Q hL hS ?_⟩
  unfold eEl at hP
  cases hq : fl τ st with
  | ok ds s1 =>
    rw [hq] at hP
    intro m1 H1 v e1 hS1 ⟨a, vs, e, ha, na, hn, rs⟩
    subst e
    refine hP (m1 ++ [a]) H1 (.ref a) (e1.own hn) (hS1.grow na ⟨vs, ha, rs.kp Kp.grow⟩) (.ref ?_)
    rw [← hS1.len]
    simp
  | exc x st' =>
    rw [hq] at hP
    exact hP
  | bad =>
    rw [hq] at hP
    exact hP.elim
/-- the items of an expression's list or tuple -/
structure Es (X : Cx) (W : WX) (e : Expr) (f : EM (List D)) : Prop where
  run : ∀ (m : List Addr) (τ : Sl) (st : Store) (σ : L2.St) (H : Hp) (Q : VK), SL X.K m H τ σ → SS X.kw m st H → Pe X.kw (fun c d H' => W c d σ H') (SqV X.K) m H (f τ st) Q → wE X e σ H Q
theorem es_el {fl : EM (List D)} (h : El X W e fl) : Es X W e fl := by
  refine ⟨fun m τ st σ H Q hL hS hP => h.run m τ st σ H Q hL hS ?_⟩
  cases hq : fl τ st with
  | ok ds s1 =>
    rw [hq] at hP
    intro m1 H1 v e1 hS1 ⟨a, vs, e, ha, na, hn, rs⟩
    exact hP m1 H1 v e1 hS1 ⟨a, vs, e, .inl (SqL.of ha), rs⟩
  | exc x st' =>
    rw [hq] at hP
    exact hP
  | bad =>
    rw [hq] at hP
    exact hP.elim
def sEx (f : EM D) : EM (List D) := fun τ st => (f τ st).bind fun d s1 => match dSeq s1 d with
  | some xs => .ok xs s1
  | none => .bad
theorem es_ex (h : Ex X W e f) : Es X W e (sEx f) := by
  refine ⟨fun m τ st σ H Q hL hS hP => h.run m τ st σ H Q hL hS (hP.bind fun d s1 m1 H1 v e1 hS1 r1 hP1 => ?_)⟩
  split at hP1
  · rename_i xs hx
    exact hP1.now hS1 (dSeq_read hS1 hx r1)
  · exact hP1.elim
/-- a built-in of one argument, by its items -/
abbrev SM1 := List D → Store → ER D
def CallS (X : Cx) (fv : Value) (g : SM1) : Prop :=
  ∃ r, CallR X fv r ∧ ∀ (m : List Addr) (st : Store) (H : Hp) (ds : List D) (v : V) (E : XK) (Q : VK), SS X.kw m st H → SqV X.K m H ds v → Pe X.kw E (RD X.K) m H (g ds st) Q → r [v] H Q
def eCS (g : SM1) (f : EM (List D)) : EM D := fun τ st => (f τ st).bind g
theorem ex_callBs {x : Str} {id : String} {g : SM1} {fl : EM (List D)} (hc : CallS X (.builtin id) g) (hg : Gl X x) (hm : X.mg x = none) (hv : bootBuiltins x = some (.builtin id)) (ha : Es X W e fl) (hn : x ≠ "__name__" := by decide) (hdb : (x == ("__debug__" : Str)) = false := by decide)
    (he : starEach [e] X.env = (false, eval e X.env) :: starEach [] X.env := by rfl) (hpl : (backTo pos (starEach [] X.env)).any (·.1) = false := by rfl) : Ex X W (.Call (.Name x p) [e] [] pos) (eCS g fl) := by
  obtain ⟨r, hr, h⟩ := hc
  refine ⟨fun m τ st σ H Q hL hS hP pins s I => (pe_callB hr hg hm hv (pa_cons peW pa_nil he) hn hdb he hpl).run pins s σ H Q I ?_⟩
  exact ha.run m τ st σ H _ hL hS (hP.bind fun ds s1 m1 H1 v e1 hS1 r1 hP1 => h m1 s1 H1 ds v _ Q hS1 r1 hP1)
theorem ex_callTs {x : Str} {T : String} {g : SM1} {fl : EM (List D)} (hc : CallS X (.type T) g) (hg : Gl X x) (hm : X.mg x = none) (hv : bootBuiltins x = some (.type T)) (ha : Es X W e fl) (hn : x ≠ "__name__" := by decide) (hdb : (x == ("__debug__" : Str)) = false := by decide)
    (he : starEach [e] X.env = (false, eval e X.env) :: starEach [] X.env := by rfl) (hpl : (backTo pos (starEach [] X.env)).any (·.1) = false := by rfl) : Ex X W (.Call (.Name x p) [e] [] pos) (eCS g fl) := by
  obtain ⟨r, hr, h⟩ := hc
  refine ⟨fun m τ st σ H Q hL hS hP pins s I => (pe_callTy hr hg hm hv (pa_cons peW pa_nil he) hn hdb he hpl).run pins s σ H Q I ?_⟩
  exact ha.run m τ st σ H _ hL hS (hP.bind fun ds s1 m1 H1 v e1 hS1 r1 hP1 => h m1 s1 H1 ds v _ Q hS1 r1 hP1)
def gTuple : SM1 := fun xs st => .ok (.tup xs) st
theorem s_tuple : CallS X (.type "tuple") gTuple := ⟨_, call_tuple_ofF, fun m st H ds v E Q hS r hP => by
  obtain ⟨a, vs, rfl, q, rs⟩ := r
  rcases q with q | q
  · exact ⟨a, vs, rfl, .inl ⟨q, hP.tup hS rs⟩⟩
  · exact ⟨a, vs, rfl, .inr ⟨q.sq, hP.now hS (.tup q rs)⟩⟩⟩
def gLen : SM1 := fun xs st => .ok (.int xs.length) st
theorem s_len : CallS X (.builtin "len") gLen := ⟨_, call_len_seq, fun m st H ds v E Q hS r hP => by
  obtain ⟨a, vs, rfl, q, rs⟩ := r
  refine ⟨a, vs, rfl, q.imp id PlT.sq, ?_⟩
  rw [← rs.len]
  exact hP.now hS (.int _)⟩

/-! ### targets -/
def wG (X : Cx) (tg : Expr) : TG := fun v σ H Q => ∀ (pins : List (Addr × Obj)) (s : Shared) (u : Value), Inv X pins σ H s → RelV v u → wpAny (model X.prog X.w) X.A (assign tg X.env u) (fun _ s' => ∃ σ' H', Inv X pins σ' H' s' ∧ Q σ' H') X.xe s
theorem pgW {X : Cx} {tg : Expr} : PG X tg (wG X tg) := ⟨fun pins s σ H v u Q I r h => h pins s u I r⟩
/-- a target: the slots at ix are set -/
structure Eg (X : Cx) (tg : Expr) (ix : List Nat) (set : D → Sl → Option Sl) : Prop where
  run : ∀ (m : List Addr) (τ τ' : Sl) (st : Store) (σ : L2.St) (H : Hp) (d : D) (v : V) (Q : L2.St → Hp → Prop), SL X.K m H τ σ → SS X.kw m st H → RD X.K m H d v → set d τ = some τ' →
    (∀ σ', σ'.length = σ.length → (∀ j, j ∉ ix → σ'[j]? = σ[j]?) → SL X.K m H τ' σ' → Q σ' H) → wG X tg v σ H Q
def gN (i : Nat) : D → Sl → Option Sl := fun d τ => some (τ.set i (some d))
theorem eg_name {i : Nat} {x : Str} (hN : X.N.Nodup) (hi : X.N[i]? = some x := by rfl) (hx : Loc X.env.scope x := by first | exact Or.inl rfl | exact Or.inr rfl) (hf : X.fn x = true ∨ X.env.scope.names.lookup x = some .local := by first | exact .inl rfl | exact .inr rfl) : Eg X (.Name x pos) [i] (gN i) := by
  refine ⟨fun m τ τ' st σ H d v Q hL hS r e k pins s u I ru => (pg_name hN hi hx hf).run pins s σ H v u Q I ru ?_⟩
  cases e
  exact k _ (by simp) (fun j hj => List.getElem?_set_ne (fun z => hj (by simp [z]))) (hL.set i r)
/-- several names, one after another -/
structure Egs (X : Cx) (ts : List Expr) (ix : List Nat) (set : List D → Sl → Option Sl) : Prop where
  run : ∃ t : TGs, PGs X ts t ∧ ∀ (m : List Addr) (τ τ' : Sl) (σ : L2.St) (H : Hp) (ds : List D) (vs : List V) (Q : L2.St → Hp → Prop), SL X.K m H τ σ → RDs X.K m H ds vs → set ds τ = some τ' →
    (∀ σ', σ'.length = σ.length → (∀ j, j ∉ ix → σ'[j]? = σ[j]?) → SL X.K m H τ' σ' → Q σ' H) → t vs σ H Q
def gNil0 : List D → Sl → Option Sl := fun ds τ => match ds with
  | [] => some τ
  | _ => none
theorem egs_nil : Egs X [] [] gNil0 := ⟨_, pgs_nil, fun m τ τ' σ H ds vs Q hL r e k => by
    cases r with
    | nil =>
      cases e
      exact ⟨rfl, k σ rfl (fun _ _ => rfl) hL⟩
    | cons _ _ => cases e⟩
def gCs (i : Nat) (set : List D → Sl → Option Sl) : List D → Sl → Option Sl := fun ds τ => match ds with
  | d :: r => set r (τ.set i (some d))
  | [] => none
theorem egs_cons {i : Nat} {ix : List Nat} {x : Str} {ts : List Expr} {set : List D → Sl → Option Sl} (hN : X.N.Nodup) (hr : Egs X ts ix set) (hi : X.N[i]? = some x := by rfl) (hx : Loc X.env.scope x := by first | exact Or.inl rfl | exact Or.inr rfl) (hf : X.fn x = true ∨ X.env.scope.names.lookup x = some .local := by first | exact .inl rfl | exact .inr rfl)
    (hs : (assignEach (.Name x pos :: ts) X.env).map (·.2) = assign (.Name x pos) X.env :: (assignEach ts X.env).map (·.2) := by rfl) : Egs X (.Name x pos :: ts) (i :: ix) (gCs i set) := by
  obtain ⟨t, ht, h⟩ := hr
  refine ⟨_, pgs_cons (pg_name hN hi hx hf) ht hs, fun m τ τ' σ H ds vs Q hL r e k => ?_⟩
  cases r with
  | nil => cases e
  | cons r1 r2 =>
    refine ⟨_, _, rfl, h m _ τ' _ H _ _ Q (hL.set i r1) r2 e fun σ' l q s => k σ' (by rw [l, List.length_set]) (fun j hj => ?_) s⟩
    rw [q j fun z => hj (List.mem_cons_of_mem _ z)]
    exact List.getElem?_set_ne (fun z => hj (by simp [z]))
def gT (n : Nat) (set : List D → Sl → Option Sl) : D → Sl → Option Sl := fun d τ => match d with
  | .tup ds => if ds.length = n then set ds τ else none
  | _ => none
theorem eg_tup {ts : List Expr} {kk : Nat} {ix : List Nat} {set : List D → Sl → Option Sl} {n : Nat} (hc : X.calm = true) (h : Egs X ts ix set) (hn : (assignEach ts X.env).length = n := by rfl) (hst : (assignEach ts X.env).findIdx? (·.1) = none := by rfl) : Eg X (.Tuple ts kk pos) ix (gT n set) := by
  obtain ⟨t, ht, h⟩ := h
  refine ⟨fun m τ τ' st σ H d v Q hL hS r e k pins s u I ru => (pg_tup hc ht hn hst).run pins s σ H v u Q I ru ?_⟩
  unfold gT at e
  split at e
  · split at e
    · rename_i hl
      cases r with
      | tup q rs => exact ⟨_, _, rfl, q.sq, by rw [← rs.len]; exact hl, h m τ τ' σ H _ _ Q hL rs e k⟩
    · cases e
  · cases e

/-! ### what is walked -/
inductive Sq where
  /-- items that stay -/
  | fix (xs : List D)
  /-- the items of a list of the store's, which must stay as long as it is walked -/
  | cell (n : Nat) (xs : List D)
  /-- pairs of the items of two lists of the store's -/
  | two (n k : Nat) (xs ys : List D)
  /-- pairs of the items of a list of the store's (the first one if l, otherwise the second one) and of a tuple -/
  | mix (l : Bool) (n : Nat) (xs ys : List D)
/-- pairs -/
def zipD (xs ys : List D) : List D := (List.zip xs ys).map fun p => .tup [p.1, p.2]
def Sq.items : Sq → List D
  | .fix xs => xs
  | .cell _ xs => xs
  | .two _ _ xs ys => zipD xs ys
  | .mix _ _ xs ys => zipD xs ys
def Sq.chk (q : Sq) (st : Store) : Bool := match q with
  | .fix _ => true
  | .cell n xs => decide (lstAt st n = some xs)
  | .two n k xs ys => decide (lstAt st n = some xs) && decide (lstAt st k = some ys)
  | .mix l n xs ys => decide (lstAt st n = some (if l then xs else ys))
def JOk (K : KW) (m0 : List Addr) (H0 : Hp) (q : Sq) (J : It) : Prop :=
  ∀ (m : List Addr) (H : Hp) (st : Store), Ext K m0 H0 m H → SS K m st H → q.chk st = true →
    (∀ (i : Nat) (d : D), q.items[i]? = some d → J.go i H ∧ ∀ x H', J.yld i H x H' → Ext K m H m H' ∧ SS K m st H' ∧ RD K m H' d x) ∧ J.stop q.items.length H
def wI (X : Cx) (tg iter : Expr) : TI := fun σ H R => ∀ (pins : List (Addr × Obj)) (s : Shared), Inv X pins σ H s → wpAny (model X.prog X.w) X.A (eval iter X.env) (fun v s1 => wpAny (model X.prog X.w) X.A (pyIter v) (PIE X pins σ tg R) X.xe s1) X.xe s
theorem piW {X : Cx} {tg iter : Expr} : PI X tg iter (wI X tg iter) := ⟨fun pins s σ H R I h => h pins s I⟩
structure Ei (X : Cx) (W : WX) (tg iter : Expr) (f : EM Sq) : Prop where
  run : ∀ (m : List Addr) (τ : Sl) (st : Store) (σ : L2.St) (H : Hp) (R : It → Hp → Prop), SL X.K m H τ σ → SS X.kw m st H → Pe X.kw (fun c d H' => W c d σ H') (JOk X.kw) m H (f τ st) R → wI X tg iter σ H R
theorem j_list {K : KW} {m0 : List Addr} {H0 : Hp} {a : Addr} {q : Sq} (h : ∀ (m : List Addr) (H : Hp) (st : Store), Ext K m0 H0 m H → SS K m st H → q.chk st = true → ∃ vs, SqL K H a vs ∧ RDs K m H q.items vs) : JOk K m0 H0 q (Itl K a) := fun m H st e s hc => by
  obtain ⟨vs, hq, rs⟩ := h m H st e s hc
  refine ⟨fun i d hd => ?_, ⟨vs, hq, by rw [rs.len]; exact Nat.le_refl _⟩⟩
  obtain ⟨v, hv, r⟩ := rs.get hd
  refine ⟨⟨vs, v, hq, hv⟩, fun x H' hy => ?_⟩
  obtain ⟨rfl, y⟩ := hy
  have z := y vs hq
  rw [hv] at z
  cases z
  exact ⟨.refl, s, r⟩
theorem j_tup {K : KW} {m0 : List Addr} {H0 : Hp} {a : Addr} {vs : List V} {xs : List D} (hq : SqT K H0 a vs) (rs : RDs K m0 H0 xs vs) : JOk K m0 H0 (.fix xs) (Itt K a) := fun m H st e s _ => by
  have hq' := e.tup a vs hq
  have rs' := rs.mono e
  refine ⟨fun i d hd => ?_, ⟨vs, hq', by show vs.length ≤ xs.length; rw [← rs.len]; exact Nat.le_refl _⟩⟩
  obtain ⟨v, hv, r⟩ := rs'.get (show xs[i]? = some d from hd)
  refine ⟨⟨vs, v, hq', hv⟩, fun x H' hy => ?_⟩
  obtain ⟨rfl, y⟩ := hy
  have z := y vs hq'
  rw [hv] at z
  cases z
  exact ⟨.refl, s, r⟩
def dSq (st : Store) : D → Option Sq
  | .tup xs => some (.fix xs)
  | .rol xs => some (.fix xs)
  | .ref n => (lstAt st n).map (.cell n)
  | .str x => some (.fix (x.map fun c => .str [c]))
  | _ => none
def iEx (f : EM D) : EM Sq := fun τ st => (f τ st).bind fun d s1 => match dSq s1 d with
  | some q => .ok q s1
  | none => .bad
theorem j_str {K : KW} {m0 : List Addr} {H0 : Hp} (x : List Nat) : JOk K m0 H0 (.fix (x.map fun c => .str [c])) (Its ⟨x.toArray⟩) := fun m H st e s _ => by
  refine ⟨fun i d hd => ?_, ?_⟩
  · have hd : (x.map fun c => D.str [c])[i]? = some d := hd
    rw [List.getElem?_map] at hd
    cases hx : x[i]? with
    | none =>
      rw [hx] at hd
      cases hd
    | some c =>
      rw [hx] at hd
      cases hd
      refine ⟨(List.getElem?_eq_some_iff.mp hx).1, fun y H' hy => ?_⟩
      obtain ⟨e, c', h1, h2⟩ := hy
      subst e
      have h3 : x[i]? = some c' := by simpa using h1
      rw [hx] at h3
      cases h3
      subst h2
      exact ⟨.refl, s, .str [c]⟩
  · show (⟨x.toArray⟩ : PySem.Str).cps.size ≤ (x.map fun c => D.str [c]).length
    simp
theorem ei_ex {tg : Expr} (h : Ex X W e f) : Ei X W tg e (iEx f) := by
  refine ⟨fun m τ st σ H R hL hS hP pins s I => ?_⟩
  unfold iEx at hP
  have hrun := h.run m τ st σ H
  cases hq : f τ st with
  | bad =>
    rw [hq] at hP
    exact hP.elim
  | exc x s1 =>
    rw [hq] at hP
    refine (pi_list (tg := tg) peW).run pins s σ H R I (hrun _ hL hS ?_)
    rw [hq]
    exact hP
  | ok d s1 =>
    rw [hq] at hP
    have hP : Pe X.kw (fun c d H' => W c d σ H') (JOk X.kw) m H (match dSq s1 d with
      | some q => .ok q s1
      | none => .bad) R := hP
    cases hd : dSq s1 d with
    | none =>
      rw [hd] at hP
      exact hP.elim
    | some q =>
      rw [hd] at hP
      cases d with
      | tup xs =>
        cases hd
        refine (pi_tup (tg := tg) peW).run pins s σ H R I (hrun _ hL hS ?_)
        rw [hq]
        intro m1 H1 v e1 hS1 r1
        cases r1 with
        | tup sq rs => exact ⟨_, rfl, ⟨_, sq.sq⟩, hP m1 H1 _ e1 hS1 (j_tup sq.sq rs)⟩
      | rol xs =>
        cases hd
        refine (pi_list (tg := tg) peW).run pins s σ H R I (hrun _ hL hS ?_)
        rw [hq]
        intro m1 H1 v e1 hS1 r1
        cases r1 with
        | rol sq rs => exact ⟨_, rfl, ⟨_, sq.sq⟩, hP m1 H1 _ e1 hS1 (j_list fun m H st e s _ => ⟨_, (e.fzl _ _ sq).sq, rs.mono e⟩)⟩
      | ref n =>
        have hd : (lstAt s1 n).map (Sq.cell n) = some q := hd
        simp only [Option.map_eq_some_iff] at hd
        obtain ⟨xs, hx, rfl⟩ := hd
        refine (pi_list (tg := tg) peW).run pins s σ H R I (hrun _ hL hS ?_)
        rw [hq]
        intro m1 H1 v e1 hS1 r1
        cases r1 with
        | ref z =>
          obtain ⟨vs, h1, h2⟩ := hS1.list hx z
          refine ⟨_, rfl, ⟨vs, SqL.of h1⟩, hP m1 H1 _ e1 hS1 (j_list fun m H st e s hc => ?_)⟩
          obtain ⟨us, h3, h4⟩ := s.list (of_decide_eq_true hc) (e.pre _ _ z)
          exact ⟨us, SqL.of h3, h4⟩
      | str x =>
        cases hd
        refine (pi_str (tg := tg) peW).run pins s σ H R I (hrun _ hL hS ?_)
        rw [hq]
        intro m1 H1 v e1 hS1 r1
        cases r1
        exact ⟨_, rfl, hP m1 H1 _ e1 hS1 (j_str x)⟩
      | _ => cases hd
def iEl (f : EM (List D)) : EM Sq := fun τ st => (f τ st).bind fun xs s1 => .ok (.fix xs) s1
theorem ei_el {tg : Expr} {fl : EM (List D)} (h : El X W e fl) : Ei X W tg e (iEl fl) := by
  refine ⟨fun m τ st σ H R hL hS hP pins s I => (pi_list (tg := tg) peW).run pins s σ H R I (h.run m τ st σ H _ hL hS ?_)⟩
  unfold iEl at hP
  cases hq : fl τ st with
  | ok ds s1 =>
    rw [hq] at hP
    intro m1 H1 v e1 hS1 ⟨a, vs, e, ha, na, hn, rs⟩
    exact ⟨a, e, ⟨vs, SqL.of ha⟩, hP m1 H1 _ e1 hS1 (j_list fun m H st e s _ => ⟨vs, SqL.of (e.frm _ _ na ha), rs.mono e⟩)⟩
  | exc x st' =>
    rw [hq] at hP
    exact hP
  | bad =>
    rw [hq] at hP
    exact hP.elim
/-- lo, lo + 1, .. below hi -/
def rng (lo hi : Int) : List D := (List.range (hi - lo).toNat).map fun k => D.int (lo + (k : Nat))
theorem j_rng {K : KW} {m0 : List Addr} {H0 : Hp} (lo hi : Int) : JOk K m0 H0 (.fix (rng lo hi)) (Itr lo (hi - lo).toNat) := fun m H st e s _ => by
  refine ⟨fun i d hd => ?_, ?_⟩
  · have hd : (rng lo hi)[i]? = some d := hd
    unfold rng at hd
    rw [List.getElem?_map] at hd
    cases hx : (List.range (hi - lo).toNat)[i]? with
    | none =>
      rw [hx] at hd
      cases hd
    | some k =>
      rw [hx] at hd
      cases hd
      obtain ⟨h1, h2⟩ := List.getElem?_eq_some_iff.mp hx
      rw [List.length_range] at h1
      rw [List.getElem_range] at h2
      subst h2
      refine ⟨h1, fun y H' hy => ?_⟩
      obtain ⟨rfl, rfl⟩ := hy
      exact ⟨.refl, s, .int _⟩
  · show (hi - lo).toNat ≤ (rng lo hi).length
    simp [rng]
def okRng (j : Int) : Bool := decide (j.natAbs < 4611686018427387904)
theorem okRng_ok {j : Int} (h : okRng j = true) : -(2 ^ 62) ≤ j ∧ j < 2 ^ 62 := by
  have q : j.natAbs < 4611686018427387904 := of_decide_eq_true h
  have q' : -4611686018427387904 ≤ j ∧ j < 4611686018427387904 := by omega
  exact q'
def iRg1 (f : EM D) : EM Sq := fun τ st => (f τ st).bind fun d s1 => match d with
  | .int j => if okRng j then .ok (.fix (rng 0 j)) s1 else .bad
  | _ => .bad
def iRg2 (fa fb : EM D) : EM Sq := fun τ st => (fa τ st).bind fun d s1 => (fb τ s1).bind fun e s2 => match d, e with
  | .int i, .int j => if okRng i && okRng j then .ok (.fix (rng i j)) s2 else .bad
  | _, _ => .bad
theorem ei_range1 {tg : Expr} (hg : Gl X "range") (hm : X.mg "range" = none) (ha : Ex X W a fa) (hs : starEach [a] X.env = [(false, eval a X.env)] := by rfl) : Ei X W tg (.Call (.Name "range" p) [a] [] pos) (iRg1 fa) := by
  refine ⟨fun m τ st σ H R hL hS hP pins s I => (pi_range1 (tg := tg) hg hm (pa_cons peW pa_nil (by rw [hs]; rfl)) hs).run pins s σ H R I (ha.run m τ st σ H _ hL hS (hP.bind fun d s1 m1 H1 v e1 hS1 r1 hP1 => ?_))⟩
  split at hP1
  · split at hP1
    · rename_i j hj
      cases r1
      obtain ⟨q1, q2⟩ := okRng_ok hj
      refine ⟨j, rfl, q1, q2, hP1.now hS1 ?_⟩
      have z := j_rng (K := X.kw) (m0 := m1) (H0 := H1) 0 j
      rw [Int.sub_zero] at z
      exact z
    · exact hP1.elim
  · exact hP1.elim
theorem ei_range2 {tg : Expr} (hg : Gl X "range") (hm : X.mg "range" = none) (ha : Ex X W a fa) (hb : Ex X W b fb) (hs : starEach [a, b] X.env = [(false, eval a X.env), (false, eval b X.env)] := by rfl) (hs2 : starEach [b] X.env = [(false, eval b X.env)] := by rfl) :
    Ei X W tg (.Call (.Name "range" p) [a, b] [] pos) (iRg2 fa fb) := by
  refine ⟨fun m τ st σ H R hL hS hP pins s I => (pi_range2 (tg := tg) hg hm (pa_cons peW (pa_cons peW pa_nil (by rw [hs2]; rfl)) (by rw [hs, hs2])) hs hs2).run pins s σ H R I ?_⟩
  refine two ha hb hL hS hP fun m2 st2 H2 dx dy x y e2 hS2 r1 r2 hP2 => ?_
  split at hP2
  · split at hP2
    · rename_i i j hij
      cases r1
      cases r2
      rw [Bool.and_eq_true] at hij
      obtain ⟨q1, q2⟩ := okRng_ok hij.1
      obtain ⟨q3, q4⟩ := okRng_ok hij.2
      exact ⟨i, j, rfl, ⟨q1, q2, q3, q4⟩, hP2.now hS2 (j_rng i j)⟩
    · exact hP2.elim
  · exact hP2.elim

/-! ### comprehensions -/
def wipeD (τ : Sl) : List Nat → Sl
  | [] => τ
  | v :: vs => (wipeD τ vs).set v none
theorem wipeD_some {τ : Sl} {i : Nat} {d : D} : ∀ {vs : List Nat}, (wipeD τ vs)[i]? = some (some d) → τ[i]? = some (some d) ∧ i ∉ vs
  | [], h => ⟨h, by simp⟩
  | v :: vs, h => by
    unfold wipeD at h
    by_cases hi : v = i
    · subst hi
      by_cases hv : v < (wipeD τ vs).length
      · rw [List.getElem?_set_self hv] at h
        cases h
      · rw [List.getElem?_eq_none (by simpa using hv)] at h
        cases h
    · rw [List.getElem?_set_ne hi] at h
      obtain ⟨h1, h2⟩ := wipeD_some h
      exact ⟨h1, by simp only [List.mem_cons, not_or]; exact ⟨fun e => hi e.symm, h2⟩⟩
theorem wipeD_len (τ : Sl) : ∀ vs : List Nat, (wipeD τ vs).length = τ.length
  | [] => rfl
  | v :: vs => by unfold wipeD; rw [List.length_set, wipeD_len τ vs]
theorem SL.wipe {K : PySem.W.Frag} {m : List Addr} {H : Hp} {τ : Sl} {σ : L2.St} (s : SL K m H τ σ) (vs : List Nat) : SL K m H (wipeD τ vs) (L2.wipe σ vs) :=
  ⟨by rw [wipeD_len, wipe_length, s.len], fun i d h => by
    obtain ⟨h1, h2⟩ := wipeD_some h
    obtain ⟨v, h3, h4⟩ := s.get i d h1
    exact ⟨v, by rw [wipe_out h2]; exact h3, h4⟩⟩
theorem wipe_same {σ σ' : L2.St} {vs : List Nat} (hl : σ'.length = σ.length) (h : ∀ j, j ∉ vs → σ'[j]? = σ[j]?) : L2.wipe σ' vs = L2.wipe σ vs := by
  apply List.ext_getElem?
  intro i
  by_cases hi : i ∈ vs
  · have z : ∀ (τ : L2.St) (us : List Nat), i ∈ us → (L2.wipe τ us)[i]? = if i < τ.length then some none else none := by
      intro τ us
      induction us with
      | nil => intro q; cases q
      | cons u us ih =>
        intro q
        unfold L2.wipe
        by_cases hu : u = i
        · subst hu
          split
          · rename_i hlt
            rw [List.getElem?_set_self (by rw [wipe_length]; exact hlt)]
          · rename_i hlt
            exact List.getElem?_eq_none (by rw [List.length_set, wipe_length]; omega)
        · rw [List.getElem?_set_ne hu]
          exact ih ((List.mem_cons.mp q).resolve_left fun e => hu e.symm)
    rw [z σ' vs hi, z σ vs hi, hl]
  · rw [wipe_out hi, wipe_out hi, h i hi]
/-- no exception leaves here -/
def _root_.HM.ER.bindN {α β : Type} (r : ER α) (k : α → Store → ER β) : ER β := match r with
  | .ok a st => k a st
  | _ => .bad
@[simp] theorem _root_.HM.ER.bindN_ok {α β : Type} (a : α) (st : Store) (k : α → Store → ER β) : (ER.ok a st).bindN k = k a st := rfl
theorem Pe.bindN {α β γ δ : Type} {K : KW} {E E' : XK} {R : List Addr → Hp → α → β → Prop} {S : List Addr → Hp → γ → δ → Prop} {m : List Addr} {H : Hp} {r : ER α} {Q : β → Hp → Prop} {k : α → Store → ER γ} {Q' : δ → Hp → Prop} (h : Pe K E S m H (r.bindN k) Q')
    (hk : ∀ a st m' H' b, Ext K m H m' H' → SS K m' st H' → R m' H' a b → Pe K E S m' H' (k a st) Q' → Q b H') : Pe K E' R m H r Q := by
  cases r with
  | ok a st => exact fun m' H' b e s q => hk a st m' H' b e s q (Pe.up h e)
  | exc x st => exact h.elim
  | bad => exact h
/-- .. read from an earlier heap -/
theorem Pe.from {α β γ δ : Type} {K : KW} {E E' : XK} {R : List Addr → Hp → α → β → Prop} {S : List Addr → Hp → γ → δ → Prop} {m m1 : List Addr} {H H1 : Hp} {r : ER α} {Q : β → Hp → Prop} {k : α → Store → ER γ} {Q' : δ → Hp → Prop} (h : Pe K E S m1 H1 (r.bindN k) Q')
    (hk : ∀ a st m' H' b, Ext K m H m' H' → SS K m' st H' → R m' H' a b → Pe K E S m1 H1 (k a st) Q' → Q b H') : Pe K E' R m H r Q := by
  cases r with
  | ok a st => exact fun m' H' b e s q => hk a st m' H' b e s q h
  | exc x st => exact h.elim
  | bad => exact h
/-- the turns of a comprehension -/
def compL (q : Sq) (set : D → Sl → Option Sl) (ft : EM Bool) (fe : EM D) (τ : Sl) : List D → List D → Store → ER (List D)
  | [], acc => fun st => if q.chk st then .ok acc st else .bad
  | d :: ds, acc => fun st => if q.chk st then match set d τ with
    | some τ1 => (ft τ1 st).bindN fun b s1 => if b then (fe τ1 s1).bindN fun x s2 => compL q set ft fe τ ds (acc ++ [x]) s2 else compL q set ft fe τ ds acc s1
    | none => .bad
  else .bad
def lComp (own : List Nat) (fi : EM Sq) (set : D → Sl → Option Sl) (ft : EM Bool) (fe : EM D) : EM (List D) := fun τ st => (fi τ st).bind fun q s1 =>
  if q.items.length ≤ 16777216 then compL q set ft fe (wipeD τ own) q.items [] s1 else .bad
/-- tests of a comprehension -/
def wTs (X : Cx) (ifs : List Expr) : TT := fun σ H Q => ∀ (pins : List (Addr × Obj)) (s : Shared), Inv X pins σ H s → wpAny (model X.prog X.w) X.A (forIn ifs true fun c r => if r = true then do let ok ← isTrue c X.env (eval c X.env); pure (ForInStep.yield ok) else pure (ForInStep.yield r)) (TP X pins σ Q) X.xe s
theorem ptsW {X : Cx} {ifs : List Expr} : PTs X ifs (wTs X ifs) := ⟨fun pins s σ H Q I h => h pins s I⟩
structure Ets (X : Cx) (W : WX) (ifs : List Expr) (f : EM Bool) : Prop where
  run : ∀ (m : List Addr) (τ : Sl) (st : Store) (σ : L2.St) (H : Hp) (Q : Bool → Hp → Prop), SL X.K m H τ σ → SS X.kw m st H → Pe X.kw (fun c d H' => W c d σ H') RB m H (f τ st) Q → wTs X ifs σ H Q
def tYes : EM Bool := fun _ st => .ok true st
theorem ets_nil : Ets X W [] tYes := ⟨fun m τ st σ H Q hL hS hP pins s I => pts_nil.run pins s σ H Q I (hP.now hS rfl)⟩
theorem ets_one (h : Et X W e g) : Ets X W [e] g := ⟨fun m τ st σ H Q hL hS hP pins s I => (pts_one ptW).run pins s σ H Q I (h.run m τ st σ H Q hL hS hP)⟩
abbrev W0 : WX := fun _ _ _ _ => False
/-- the context of a block, whatever it starts at -/
abbrev Blk (X : Cx) (scope : Scope) (P : Cx → Prop) : Prop := ∀ (s : Shared) (H : Hp) (C : Addr) (cl : List (Str × Addr)) (fp : List Addr), P (X.blk s H scope (compEnvC scope cl C X.env) fp)
abbrev BEx (X : Cx) (scope : Scope) (elt : Expr) (fe : EM D) : Prop := ∀ (s : Shared) (H : Hp) (C : Addr) (cl : List (Str × Addr)) (fp : List Addr), Ex (X.blk s H scope (compEnvC scope cl C X.env) fp) W0 elt fe
abbrev BEt (X : Cx) (scope : Scope) (ifs : List Expr) (ft : EM Bool) : Prop := ∀ (s : Shared) (H : Hp) (C : Addr) (cl : List (Str × Addr)) (fp : List Addr), Ets (X.blk s H scope (compEnvC scope cl C X.env) fp) W0 ifs ft
abbrev BEg (X : Cx) (scope : Scope) (tg : Expr) (ix : List Nat) (set : D → Sl → Option Sl) : Prop := ∀ (s : Shared) (H : Hp) (C : Addr) (cl : List (Str × Addr)) (fp : List Addr), Eg (X.blk s H scope (compEnvC scope cl C X.env) fp) tg ix set
def gAll (X : Cx) (scope : Scope) (tg : Expr) : TG := fun v σ H Q => Blk X scope fun Y => wG Y tg v σ H Q
def tAll (X : Cx) (scope : Scope) (ifs : List Expr) : TT := fun σ H Q => Blk X scope fun Y => wTs Y ifs σ H Q
def eAll (X : Cx) (scope : Scope) (e : Expr) : TE := fun σ H Q => Blk X scope fun Y => wE Y e σ H Q
/-- one turn after another -/
theorem comp_read {tg elt : Expr} {ifs : List Expr} {scope : Scope} {ix own : List Nat} {set : D → Sl → Option Sl} {ft : EM Bool} {fe : EM D} (hown : ∀ i ∈ ix, i ∈ own) (hg : BEg X scope tg ix set) (ht : BEt X scope ifs ft) (he : BEx X scope elt fe)
    {m0 : List Addr} {τ : Sl} {σ : L2.St} {H0 H1 : Hp} {st0 : Store} {m1 : List Addr} {q : Sq} {J : It} {Q : VK} {E : XK} (e1 : Ext X.K m0 H0 m1 H1) (hL : SL X.K m1 H1 τ σ) (hS : SS X.kw m1 st0 H1) (hJ : JOk X.kw m1 H1 q J) (hz : q.items.length ≤ 16777216)
    (hP : Pe X.kw E (fun m' H' ds v => ∃ a vs, v = .ref a ∧ H' a = some (.lst vs) ∧ a ∉ m' ∧ H0 a = none ∧ RDs X.K m' H' ds vs) m1 H1 (compL q set ft fe (wipeD τ own) q.items [] st0) Q) (D' : Addr) (hD : H1 D' = none) :
    ∃ W : Nat → Nat → Hp → Prop, (∃ m, W 0 m (upd H1 D' (.lst []))) ∧ ∀ i m H, W i m H →
      (J.stop i H ∧ Q (.ref D') H) ∨ (J.go i H ∧ ∃ Nx : Hp → Prop, (∀ H', Nx H' → ∃ m', m' < m ∧ W (i + 1) m' H') ∧ ∀ x H', J.yld i H x H' → gAll X scope tg x (L2.wipe σ own) H' fun σ2 H2 => L2.wipe σ2 own = L2.wipe σ own ∧ tAll X scope ifs σ2 H2 fun b H3 =>
        if b = true then eAll X scope elt σ2 H3 fun y H4 => ∃ acc, H4 D' = some (.lst acc) ∧ acc.length < sizeLine ∧ Nx (upd H4 D' (.lst (acc ++ [y]))) else Nx H3) := by
  have hD0 : H0 D' = none := e1.back hS hD
  have hn : D' ∉ m1 := hS.notin hD
  obtain ⟨Z, hZ⟩ : ∃ Z : Nat → Hp → Prop, Z = fun i H => i ≤ q.items.length ∧ ∃ (m : List Addr) (st : Store) (acc : List D) (vs : List V), Ext X.K m1 H1 m H ∧ D' ∉ m ∧ SS X.kw m st H ∧ H D' = some (.lst vs) ∧ RDs X.K m H acc vs ∧ acc.length ≤ i ∧
    Pe X.kw E (fun m' H' ds v => ∃ a vs, v = .ref a ∧ H' a = some (.lst vs) ∧ a ∉ m' ∧ H0 a = none ∧ RDs X.K m' H' ds vs) m1 H1 (compL q set ft fe (wipeD τ own) (q.items.drop i) acc st) Q := ⟨_, rfl⟩
  refine ⟨fun i k H => k = q.items.length - i ∧ Z i H, ⟨_, rfl, ?_⟩, ?_⟩
  · rw [hZ]
    refine ⟨Nat.zero_le _, m1, st0, [], [], Ext.fresh hD, hn, hS.fresh hD, upd_same, .nil, Nat.le_refl _, ?_⟩
    rw [List.drop_zero]
    exact hP
  · rintro i k H ⟨rfl, hZi⟩
    rw [hZ] at hZi
    obtain ⟨hi, m, st, acc, vs, e, hm, s, hd, rs, hacc, hP⟩ := hZi
    by_cases hlt : i < q.items.length
    · rw [List.drop_eq_getElem_cons hlt] at hP
      unfold compL at hP
      split at hP
      · rename_i hc
        obtain ⟨hgo, _⟩ := hJ m H st e s hc
        obtain ⟨go, yl⟩ := hgo i q.items[i] (by simp [hlt])
        split at hP
        · rename_i τ1 hset
          refine .inr ⟨go, Z (i + 1), fun H' h => ⟨q.items.length - (i + 1), by omega, rfl, h⟩, fun x H' hy s0 H0' C cl fp => ?_⟩
          obtain ⟨e2, s2, r2⟩ := yl x H' hy
          refine (hg s0 H0' C cl fp).run m _ τ1 st _ H' _ x _ ((hL.mono (e.trans e2)).wipe own) s2 r2 hset fun σ2 l1 l2 hL2 => ?_
          have l3 : σ2.length = σ.length := by rw [l1, wipe_length]
          have l4 : ∀ j, j ∉ own → σ2[j]? = σ[j]? := fun j hj => by rw [l2 j fun z => hj (hown j z), wipe_out hj]
          refine ⟨wipe_same l3 l4, fun s0 H0' C cl fp => ?_⟩
          have keep : ∀ {m' : List Addr} {H' : Hp}, Ext X.K m H m' H' → H' D' = some (.lst vs) ∧ D' ∉ m' := fun {m' H'} e => by
            refine ⟨e.frm D' _ hm hd, fun z => ?_⟩
            have q := e.new D' z hm
            rw [hd] at q
            cases q
          refine (ht s0 H0' C cl fp).run m τ1 st σ2 H' _ hL2 s2 (Pe.from (m := m) (H := H') hP fun b s3 m3 H3 b' e3 hS3 r3 hP3 => ?_)
          subst r3
          cases b with
          | false =>
            refine iteF ?_
            rw [hZ]
            obtain ⟨k1, k2⟩ := keep (e2.trans e3)
            exact ⟨by omega, m3, s3, acc, vs, e.trans (e2.trans e3), k2, hS3, k1, rs.mono (e2.trans e3), by omega, hP3⟩
          | true =>
            refine iteT fun s0 H0' C cl fp => (he s0 H0' C cl fp).run m3 τ1 s3 σ2 H3 _ (hL2.mono e3) hS3 (Pe.from (m := m3) (H := H3) (k := fun x s2 => compL q set ft fe (wipeD τ own) (List.drop (i + 1) q.items) (acc ++ [x]) s2) hP3 fun y s4 m4 H4 y' e4 hS4 r4 hP4 => ?_)
            obtain ⟨k1, k2⟩ := keep ((e2.trans e3).trans e4)
            have rs4 := rs.mono ((e2.trans e3).trans e4)
            have hz' : vs.length < sizeLine := by
              rw [← rs.len, PySem.sizeLine_eq]
              omega
            have e5 : Ext X.K m1 H1 m4 H4 := e.trans ((e2.trans e3).trans e4)
            have e6 : Ext X.K m1 H1 m4 (upd H4 D' (.lst (vs ++ [y']))) := {
              pre := e5.pre
              tup := fun a us h => (Kp.write (K := X.K) (m := m4) k1).tup a us (e5.tup a us h)
              plt := fun a us h => (Kp.write (K := X.K) (m := m4) k1).plt a us (e5.plt a us h)
              fzl := fun a us h => (Kp.write (K := X.K) (m := m4) k1).fzl a us (e5.fzl a us h)
              xdk := fun a us h => (Kp.write (K := X.K) (m := m4) k1).xdk a us (e5.xdk a us h)
              frm := fun a o q h => by
                rw [upd_ne (ne_of_none h hD)]
                exact e5.frm a o q h
              new := e5.new }
            refine ⟨vs, k1, hz', ?_⟩
            rw [hZ]
            refine ⟨by omega, m4, s4, acc ++ [y], vs ++ [y'], e6, k2, hS4.other k1 k2, upd_same, (rs4.append (.cons r4 .nil)).kp (Kp.write k1), by rw [List.length_append, List.length_singleton]; omega, ?_⟩
            exact hP4
        · exact hP.elim
      · exact hP.elim
    · have e0 : i = q.items.length := by omega
      subst e0
      rw [List.drop_length] at hP
      unfold compL at hP
      split at hP
      · rename_i hc
        obtain ⟨_, stop⟩ := hJ m H st e s hc
        exact .inl ⟨stop, hP m H (.ref D') e s ⟨D', vs, rfl, hd, hm, hD0, rs⟩⟩
      · exact hP.elim
end
end HM

/-! HM, part 6: list comprehensions, statements. -/
namespace HM
open PySem PySem.Spec PyProof.Rows L2
section
variable {X : Cx} {W : WX} {e a b c : Expr} {es rest : List Expr} {pos p : Pos} {f fa fb fc : EM D} {fs : EM (List D)} {g ga gb : EM Bool}
theorem comp_post {tg elt iter : Expr} {ifs : List Expr} {scope : Scope} {own : List (Str × Nat)} {ix : List Nat} {set : D → Sl → Option Sl} {ft : EM Bool} {fe : EM D} {fi : EM Sq} (hi : Ei X W tg iter fi) (hown : ∀ i ∈ ix, i ∈ own.map (·.2))
    (hg : BEg X scope tg ix set) (ht : BEt X scope ifs ft) (he : BEx X scope elt fe) {m : List Addr} {τ : Sl} {st : Store} {σ : L2.St} {H : Hp} {Q : VK} (hL : SL X.K m H τ σ) (hS : SS X.kw m st H)
    (hP : Pe X.kw (fun c d H' => W c d σ H') (fun m' H' ds v => ∃ a vs, v = .ref a ∧ H' a = some (.lst vs) ∧ a ∉ m' ∧ H a = none ∧ RDs X.K m' H' ds vs) m H (lComp (own.map (·.2)) fi set ft fe τ st) Q) :
    tLc (wI X tg iter) (gAll X scope tg) (tAll X scope ifs) (eAll X scope elt) (own.map (·.2)) σ H Q := by
  unfold lComp at hP
  refine hi.run m τ st σ H _ hL hS ?_
  cases hq : fi τ st with
  | bad =>
    rw [hq] at hP
    exact hP.elim
  | exc x s1 =>
    rw [hq] at hP
    exact hP
  | ok q s1 =>
    rw [hq] at hP
    intro m1 H1 J e1 hS1 hJ D' hD
    have hP : Pe X.kw (fun c d H' => W c d σ H') (fun m' H' ds v => ∃ a vs, v = .ref a ∧ H' a = some (.lst vs) ∧ a ∉ m' ∧ H a = none ∧ RDs X.K m' H' ds vs) m H (if q.items.length ≤ 16777216 then compL q set ft fe (wipeD τ (own.map (·.2))) q.items [] s1 else .bad) Q := hP
    split at hP
    · rename_i hz
      exact comp_read (E := fun c d H' => W c d σ H') hown hg ht he e1 (hL.mono e1) hS1 hJ hz (hP.up e1) D' hD
    · exact hP.elim
theorem el_comp {tg elt iter : Expr} {ifs : List Expr} {scope : Scope} {own : List (Str × Nat)} {ix : List Nat} {set : D → Sl → Option Sl} {ft : EM Bool} {fe : EM D} {fi : EM Sq} (hc : X.calm = true) (hN : X.N.Nodup) (hi : Ei X W tg iter fi) (ok : BlkOk X.N X.env.scope scope own)
    (hg : BEg X scope tg ix set) (ht : BEt X scope ifs ft) (he : BEx X scope elt fe) (hown : ∀ i ∈ ix, i ∈ own.map (·.2) := by decide) (hs : ∀ x, foldedSetIterable iter X.env x = pure x := by intro _; rfl) :
    El X W (.ListComp elt [⟨tg, iter, ifs, 0⟩] scope pos) (lComp (own.map (·.2)) fi set ft fe) := by
  refine ⟨fun m τ st σ H Q hL hS hP pins s I => ?_⟩
  refine (pe_lc (g := gAll X scope tg) (tt := tAll X scope ifs) (te := eAll X scope elt) hc hN piW ok ?_ ?_ ?_ hs).run pins s σ H Q I (comp_post hi hown hg ht he hL hS hP)
  · exact fun s H C cl fp => ⟨fun pins s' σ H' v u Q I r h => h s H C cl fp pins s' u I r⟩
  · exact fun s H C cl fp => ⟨fun pins s' σ H' Q I h => h s H C cl fp pins s' I⟩
  · exact fun s H C cl fp => ⟨fun pins s' σ H' Q I h => h s H C cl fp pins s' I⟩
end

/-! ### statements -/
/-- behind a statement -/
def Ps (K : KW) (W : WX) (m : List Addr) (H : Hp) (r : SR) (D : Ends) : Prop := match r with
  | .nx τ st => ∀ m' H' σ, Ext K m H m' H' → SS K m' st H' → SL K m' H' τ σ → D.nx σ H'
  | .bk τ st => ∀ m' H' σ, Ext K m H m' H' → SS K m' st H' → SL K m' H' τ σ → D.bk σ H'
  | .ct τ st => ∀ m' H' σ, Ext K m H m' H' → SS K m' st H' → SL K m' H' τ σ → D.ct σ H'
  | .rt d st => ∀ m' H' v, Ext K m H m' H' → SS K m' st H' → RD K m' H' d v → D.rt v H'
  | .exc x τ st => ∀ m' H' σ c d, Ext K m H m' H' → SS K m' st H' → SL K m' H' τ σ → XR K m' H' x c d → W c d σ H'
  | .bad => False
theorem Ps.up {K : KW} {W : WX} {m m1 : List Addr} {H H1 : Hp} {r : SR} {D : Ends} (h : Ps K W m H r D) (e : Ext K m H m1 H1) : Ps K W m1 H1 r D := by
  cases r with
  | nx τ st => exact fun m' H' σ e' => h m' H' σ (e.trans e')
  | bk τ st => exact fun m' H' σ e' => h m' H' σ (e.trans e')
  | ct τ st => exact fun m' H' σ e' => h m' H' σ (e.trans e')
  | rt d st => exact fun m' H' σ e' => h m' H' σ (e.trans e')
  | exc x τ st => exact fun m' H' σ c d e' => h m' H' σ c d (e.trans e')
  | bad => exact h
def wS (X : Cx) (st : Stmt) : TS := fun D σ H => ∀ (pins : List (Addr × Obj)) (s : Shared), Inv X pins σ H s → wpAny (model X.prog X.w) X.A (exec st X.env) (SP X pins D) X.xe s
def wSs (X : Cx) (st : List Stmt) : TS := fun D σ H => ∀ (pins : List (Addr × Obj)) (s : Shared), Inv X pins σ H s → wpAny (model X.prog X.w) X.A (execs st X.env) (SP X pins D) X.xe s
theorem psW {X : Cx} {st : Stmt} : PS X st (wS X st) := ⟨fun pins s σ H D I h => h pins s I⟩
theorem pssW {X : Cx} {st : List Stmt} : PSs X st (wSs X st) := ⟨fun pins s σ H D I h => h pins s I⟩
structure Sx (X : Cx) (W : WX) (st : Stmt) (f : SM) : Prop where
  run : ∀ (m : List Addr) (τ : Sl) (s : Store) (σ : L2.St) (H : Hp) (D : Ends), SL X.K m H τ σ → SS X.kw m s H → Ps X.kw W m H (f τ s) D → wS X st D σ H
structure Sxs (X : Cx) (W : WX) (st : List Stmt) (f : SM) : Prop where
  run : ∀ (m : List Addr) (τ : Sl) (s : Store) (σ : L2.St) (H : Hp) (D : Ends), SL X.K m H τ σ → SS X.kw m s H → Ps X.kw W m H (f τ s) D → wSs X st D σ H
/-- an expression, then the rest of a statement -/
def bindE {α : Type} (r : ER α) (τ : Sl) (k : α → Store → SR) : SR := match r with
  | .ok a st => k a st
  | .exc x st => .exc x τ st
  | .bad => .bad
@[simp] theorem bindE_ok {α : Type} (a : α) (st : Store) (τ : Sl) (k : α → Store → SR) : bindE (.ok a st) τ k = k a st := rfl
@[simp] theorem bindE_exc {α : Type} (x : Xc) (st : Store) (τ : Sl) (k : α → Store → SR) : bindE (.exc x st : ER α) τ k = .exc x τ st := rfl
@[simp] theorem bindE_bad {α : Type} (τ : Sl) (k : α → Store → SR) : bindE (.bad : ER α) τ k = .bad := rfl
theorem Ps.bind {α β : Type} {K : KW} {W : WX} {R : List Addr → Hp → α → β → Prop} {m : List Addr} {H : Hp} {r : ER α} {τ : Sl} {σ : L2.St} {k : α → Store → SR} {D : Ends} {Q : β → Hp → Prop} (hL : SL K m H τ σ) (h : Ps K W m H (bindE r τ k) D)
    (hk : ∀ a st m' H' b, Ext K m H m' H' → SS K m' st H' → R m' H' a b → Ps K W m' H' (k a st) D → Q b H') : Pe K (fun c d H' => W c d σ H') R m H r Q := by
  cases r with
  | ok a st => exact fun m' H' b e s q => hk a st m' H' b e s q (Ps.up h e)
  | exc x st => exact fun m' H' c d e s q => h m' H' σ c d e s (hL.mono e) q
  | bad => exact h
def sSeq (f g : SM) : SM := fun τ st => match f τ st with
  | .nx τ1 s1 => g τ1 s1
  | r => r
def sNil : SM := fun τ st => .nx τ st
section
variable {X : Cx} {W : WX} {e a b c : Expr} {es rest : List Expr} {pos p : Pos} {fa fb fc fe : EM D} {fs : EM (List D)} {g ga gb : EM Bool} {s1 : Stmt} {ss body : List Stmt} {f h k : SM}
theorem sx_nil : Sxs X W [] sNil := ⟨fun m τ s σ H D hL hS hP pins sh I => pss_nil.run pins sh σ H D I (hP m H σ .refl hS hL)⟩
theorem sx_cons (h1 : Sx X W s1 f) (h2 : Sxs X W ss h) : Sxs X W (s1 :: ss) (sSeq f h) := by
  refine ⟨fun m τ s σ H D hL hS hP pins sh I => (pss_cons psW pssW).run pins sh σ H D I (h1.run m τ s σ H _ hL hS ?_)⟩
  unfold sSeq at hP
  cases hq : f τ s with
  | nx τ1 s1 =>
    rw [hq] at hP
    exact fun m1 H1 σ1 e1 hS1 hL1 => h2.run m1 τ1 s1 σ1 H1 D hL1 hS1 (hP.up e1)
  | bk τ1 s1 =>
    rw [hq] at hP
    exact hP
  | ct τ1 s1 =>
    rw [hq] at hP
    exact hP
  | rt d s1 =>
    rw [hq] at hP
    exact hP
  | exc x τ1 s1 =>
    rw [hq] at hP
    exact hP
  | bad =>
    rw [hq] at hP
    exact hP
theorem sx_one (h1 : Sx X W s1 f) : Sxs X W [s1] f := by
  refine ⟨fun m τ s σ H D hL hS hP pins sh I => (pss_one psW).run pins sh σ H D I (h1.run m τ s σ H _ hL hS hP)⟩
theorem sx_pass : Sx X W (.Pass pos) sNil := ⟨fun m τ s σ H D hL hS hP pins sh I => ps_pass.run pins sh σ H D I (hP m H σ .refl hS hL)⟩
def sBrk : SM := fun τ st => .bk τ st
def sCnt : SM := fun τ st => .ct τ st
theorem sx_break : Sx X W (.Break pos) sBrk := ⟨fun m τ s σ H D hL hS hP pins sh I => ps_break.run pins sh σ H D I (hP m H σ .refl hS hL)⟩
theorem sx_continue : Sx X W (.Continue pos) sCnt := ⟨fun m τ s σ H D hL hS hP pins sh I => ps_continue.run pins sh σ H D I (hP m H σ .refl hS hL)⟩
def sRet (fe : EM D) : SM := fun τ st => bindE (fe τ st) τ fun d s1 => .rt d s1
theorem sx_ret (he : Ex X W e fe) : Sx X W (.Return (some e) pos) (sRet fe) := by
  refine ⟨fun m τ s σ H D hL hS hP pins sh I => (ps_ret peW).run pins sh σ H D I ?_⟩
  exact he.run m τ s σ H _ hL hS (hP.bind hL fun d s1 m1 H1 v e1 hS1 r1 hP1 => hP1 m1 H1 v .refl hS1 r1)
def sRetN : SM := fun _ st => .rt .non st
theorem sx_retN : Sx X W (.Return none pos) sRetN := ⟨fun m τ s σ H D hL hS hP pins sh I => ps_retN.run pins sh σ H D I (hP m H .non .refl hS .non)⟩
def sExpr (fe : EM D) : SM := fun τ st => bindE (fe τ st) τ fun _ s1 => .nx τ s1
theorem sx_expr (he : Ex X W e fe) (hs : swapsWith e none pos.line X.env = pure false := by rfl) : Sx X W (.Expr e pos) (sExpr fe) := by
  refine ⟨fun m τ s σ H D hL hS hP pins sh I => (ps_expr peW hs).run pins sh σ H D I ?_⟩
  exact he.run m τ s σ H _ hL hS (hP.bind hL fun d s1 m1 H1 v e1 hS1 r1 hP1 => hP1 m1 H1 σ .refl hS1 (hL.mono e1))
def sIf (g : EM Bool) (f h : SM) : SM := fun τ st => bindE (g τ st) τ fun b s1 => if b then f τ s1 else h τ s1
theorem sx_if {sa sb : List Stmt} (hc : Et X W c g) (ha : Sxs X W sa f) (hb : Sxs X W sb h) : Sx X W (.If c sa sb pos) (sIf g f h) := by
  refine ⟨fun m τ s σ H D hL hS hP pins sh I => (ps_if ptW pssW pssW).run pins sh σ H D I ?_⟩
  refine hc.run m τ s σ H _ hL hS (hP.bind hL fun d s1 m1 H1 v e1 hS1 r1 hP1 => ?_)
  subst r1
  cases d with
  | true => exact iteT (ha.run m1 τ s1 σ H1 D (hL.mono e1) hS1 hP1)
  | false => exact iteF (hb.run m1 τ s1 σ H1 D (hL.mono e1) hS1 hP1)
/-- name = e -/
def sSet (i : Nat) (fe : EM D) : SM := fun τ st => bindE (fe τ st) τ fun d s1 => .nx (τ.set i (some d)) s1
theorem sx_set {i : Nat} {x : Str} {pos' : Pos} (hN : X.N.Nodup) (he : Ex X W e fe) (hi : X.N[i]? = some x := by rfl) (hx : Loc X.env.scope x := by first | exact Or.inl rfl | exact Or.inr rfl) (hs : swapsWith e (some (.Name x pos')) pos.line X.env = pure false := by rfl)
    (hf : X.fn x = true ∨ X.env.scope.names.lookup x = some .local := by first | exact .inl rfl | exact .inr rfl) : Sx X W (.Assign [.Name x pos'] e pos) (sSet i fe) := by
  refine ⟨fun m τ s σ H D hL hS hP pins sh I => (ps_set hN hi hx peW hs hf).run pins sh σ H D I ?_⟩
  exact he.run m τ s σ H _ hL hS (hP.bind hL fun d s1 m1 H1 v e1 hS1 r1 hP1 => hP1 m1 H1 _ .refl hS1 ((hL.mono e1).set i r1))
/-- target = e -/
def sAsg (set : D → Sl → Option Sl) (fe : EM D) : SM := fun τ st => bindE (fe τ st) τ fun d s1 => match set d τ with
  | some τ1 => .nx τ1 s1
  | none => .bad
theorem sx_asg {tg : Expr} {ix : List Nat} {set : D → Sl → Option Sl} (he : Ex X W e fe) (hg : Eg X tg ix set) (hs : swapsWithSole [tg] e pos.line X.env = pure false := by rfl) (hw : swappedStores [tg] e X.env = pure none := by rfl) (h1 : (assignEach [tg] X.env).map (·.2) = [assign tg X.env] := by rfl) : Sx X W (.Assign [tg] e pos) (sAsg set fe) := by
  refine ⟨fun m τ s σ H D hL hS hP pins sh I => (ps_asg peW pgW hs hw h1).run pins sh σ H D I ?_⟩
  refine he.run m τ s σ H _ hL hS (hP.bind hL fun d s1 m1 H1 v e1 hS1 r1 hP1 => ?_)
  split at hP1
  · rename_i τ1 hset
    exact hg.run m1 τ τ1 s1 σ H1 d v _ (hL.mono e1) hS1 r1 hset fun σ2 _ _ hL2 => hP1 m1 H1 σ2 .refl hS1 hL2
  · exact hP1.elim
/-- name op= e -/
def sAug (i : Nat) (o : O2) (fe : EM D) : SM := fun τ st => match τ[i]? with
  | some (some x) => bindE (fe τ st) τ fun y s1 => bindE (o x y s1) τ fun z s2 => .nx (τ.set i (some z)) s2
  | _ => .bad
theorem sx_aug {i : Nat} {x : Str} {pos' : Pos} {op : Operator} {o : O2} (hN : X.N.Nodup) (he : Ex X W e fe) (ho : OpM X W (inplaceOp op) o) (hi : X.N[i]? = some x := by rfl) (hx : Loc X.env.scope x := by first | exact Or.inl rfl | exact Or.inr rfl)
    (hf : X.fn x = true ∨ X.env.scope.names.lookup x = some .local := by first | exact .inl rfl | exact .inr rfl) : Sx X W (.AugAssign (.Name x pos') op e pos) (sAug i o fe) := by
  refine ⟨fun m τ s σ H D hL hS hP pins sh I => ?_⟩
  unfold sAug at hP
  split at hP
  · rename_i d0 hd0
    obtain ⟨v0, h1, h2⟩ := hL.get i d0 hd0
    obtain ⟨mm, hn, hl⟩ := I.loc
    have vis : Vis X.env.scope x := by
      rcases hx with k | k
      · exact .inl k
      · exact .inr (.inl k)
    obtain ⟨u0, r0, l⟩ := hl i x v0 hi h1 vis
    refine wpAny_AugAssign_Name ?_
    have go : wpAny (model X.prog X.w) X.A (eval e X.env) (fun w s₂ => wpAny (model X.prog X.w) X.A (inplaceOp op u0 w) (fun r s₃ => wpAny (model X.prog X.w) X.A (storeName X.env x r) (fun _ => SP X pins D .next) X.xe s₃) X.xe s₂) X.xe sh := by
      refine thn (he.run m τ s σ H (fun y H1 => wR2 X (inplaceOp op) σ v0 y H1 fun z H2 => D.nx (σ.set i (some z)) H2) hL hS (hP.bind hL fun dy s1 m1 H1 y e1 hS1 r1 hP1 pins s v u I rx ry => ?_) pins sh I) fun w s1 ⟨y, H1, I1, r1, q1⟩ => ?_
      · exact ho m1 s1 σ H1 d0 dy v0 y _ hS1 (h2.mono e1) r1 (hP1.bind (hL.mono e1) fun dz s2 m2 H2 z e2 hS2 r2 hP2 => hP2 m2 H2 _ .refl hS2 (((hL.mono e1).mono e2).set i r2)) pins s v u I rx ry
      · refine thn (q1 pins s1 u0 w I1 r0 r1) fun z s2 ⟨zv, H2, I2, r2, q2⟩ => ?_
        exact store_ok I2 hN hi hx r2 (fun s3 I3 => ⟨_, H2, I3, q2⟩) hf
    rcases l with ⟨hk, hm⟩ | ⟨hk, c, hc, hcell⟩
    · exact wpAny_loadName_local I.ok.kind hk hn hm go
    · rcases hk with hk | hk
      · exact wpAny_loadName_cell I.ok.kind hk hc hcell go
      · rcases hx with k | k
        · have : X.env.scope.names.lookup x = some .free := hk
          rw [k] at this
          cases this
        · have : X.env.scope.names.lookup x = some .free := hk
          rw [k] at this
          cases this
  · exact hP.elim
/-- o[i] = e (a list) -/
def oSetS : D → D → D → Store → Option Store := fun o i v st => match o, i with
  | .ref n, .int k => match lstAt st n with
    | some xs => match ixN xs.length k with
      | some j => some (st.set n (.lst (xs.set j v)))
      | none => none
    | none => none
  | _, _ => none
/-- the order: the value, then the object, then the index -/
def sSubS (fo fi fe : EM D) : SM := fun τ st => bindE (fe τ st) τ fun v s1 => bindE (fo τ s1) τ fun o s2 => bindE (fi τ s2) τ fun i s3 => match oSetS o i v s3 with
  | some s4 => .nx τ s4
  | none => .bad
theorem set_readS {K : KW} {m : List Addr} {st st' : Store} {H : Hp} {o i v : D} {vo vi vv : V} (hS : SS K m st H) (ro : RD K m H o vo) (ri : RD K m H i vi) (rv : RD K m H v vv) (h : oSetS o i v st = some st') :
    ∃ p xs k j, vo = .ref p ∧ vi = .int k ∧ H p = some (.lst xs) ∧ ixN xs.length k = some j ∧ Ext K m H m (upd H p (.lst (xs.set j vv))) ∧ SS K m st' (upd H p (.lst (xs.set j vv))) := by
  unfold oSetS at h
  split at h
  · split at h
    · rename_i xs hx
      split at h
      · rename_i j hj
        cases h
        cases ro with
        | ref q =>
          cases ri
          obtain ⟨vs, h1, h2⟩ := hS.list hx q
          exact ⟨_, vs, _, j, rfl, rfl, h1, by rw [← h2.len]; exact hj, Ext.write h1 q, hS.write h1 q (h2.set rv j)⟩
      · cases h
    · cases h
  · cases h
theorem sx_subS {o i : Expr} {p' : Pos} {fo fi : EM D} (he : Ex X W e fe) (ho : Ex X W o fo) (hi : Ex X W i fi)
    (ha : ∀ v, assign (.Subscript o i p') X.env v = (do
      let ov ← holding [v] (eval o X.env)
      let iv ← holding [v, ov] (eval i X.env)
      standAt p'
      holding [v, ov, iv] (setItem ov iv v)
      release [v, ov, iv] []) := by intro _; rfl)
    (hs : swapsWithSole [.Subscript o i p'] e pos.line X.env = pure false := by rfl) (hw : swappedStores [.Subscript o i p'] e X.env = pure none := by rfl) (h1 : (assignEach [.Subscript o i p'] X.env).map (·.2) = [assign (.Subscript o i p') X.env] := by rfl) : Sx X W (.Assign [.Subscript o i p'] e pos) (sSubS fo fi fe) := by
  refine ⟨fun m τ s σ H D hL hS hP pins sh I => (ps_asg peW (pg_sub peW peW set_list ha) hs hw h1).run pins sh σ H D I ?_⟩
  refine he.run m τ s σ H _ hL hS (hP.bind hL fun v s1 m1 H1 vv e1 hS1 r1 hP1 => ?_)
  refine ho.run m1 τ s1 σ H1 _ (hL.mono e1) hS1 (hP1.bind (hL.mono e1) fun o s2 m2 H2 vo e2 hS2 r2 hP2 => ?_)
  refine hi.run m2 τ s2 σ H2 _ ((hL.mono e1).mono e2) hS2 (hP2.bind ((hL.mono e1).mono e2) fun i s3 m3 H3 vi e3 hS3 r3 hP3 => ?_)
  split at hP3
  · rename_i s4 h4
    obtain ⟨p, xs, k, j, q1, q2, q3, q4, q5, q6⟩ := set_readS hS3 (r2.mono e3) r3 ((r1.mono e2).mono e3) h4
    exact ⟨p, xs, k, j, q1, q2, q3, q4, hP3 m3 _ σ q5 q6 ((((hL.mono e1).mono e2).mono e3).mono q5)⟩
  · exact hP3.elim
/-- o[i] op= e -/
def oGetLS : O2 := fun x i st => match x, i with
  | .ref n, .int k => match lstAt st n with
    | some xs => match atI xs k with
      | some d => .ok d st
      | none => .bad
    | none => .bad
  | _, _ => .bad
def sAugSS (o : O2) (fo fi fe : EM D) : SM := fun τ st => bindE (fo τ st) τ fun x s1 => bindE (fi τ s1) τ fun i s2 => bindE (oGetLS x i s2) τ fun y s3 => bindE (fe τ s3) τ fun z s4 => bindE (o y z s4) τ fun v s5 => match oSetS x i v s5 with
  | some s6 => .nx τ s6
  | none => .bad
theorem get_list : PGet X (rIxL X.K) := by
  intro pins s σ H x y v u Q I rx ry h
  obtain ⟨p, xs, i, z, rfl, rfl, hq, he, q⟩ := h
  cases rx
  obtain ⟨t, rfl⟩ := ry
  obtain ⟨its, r, pl, hz⟩ := I.list hq
  obtain ⟨j, h1, h2, h3, h4, h5⟩ := atI_get he
  obtain ⟨w, ew, rw'⟩ := r.get h2
  have hl := r.length
  have hn := line63
  have fin : EP X pins σ Q w s := ⟨z, H, I, rw', q⟩
  by_cases h0 : 0 ≤ i
  · have hj : i.toNat = j := by
      rw [seqIndex_of h0 h5] at h1
      exact Option.some.inj h1
    exact wpAny_getItem_list pl.isList h0 (by omega) (by rw [hj]; simpa using ew) fin
  · have hj : (i + (its.toArray.size : Int)).toNat = j := by
      rw [seqIndex_neg (by omega) h4] at h1
      rw [List.size_toArray, ← hl]
      exact Option.some.inj h1
    exact wpAny_getItem_list_neg pl.isList (by omega) (by rw [List.size_toArray] <;> omega) (by omega) (by rw [hj]; simpa using ew) fin
theorem getL_readS {K : KW} {E : XK} {m : List Addr} {st : Store} {H : Hp} {x i : D} {vx vi : V} {Q : VK} (hS : SS K m st H) (rx : RD K m H x vx) (ri : RD K m H i vi) (h : Pe K E (RD K) m H (oGetLS x i st) Q) : rIxL K vx vi H Q := by
  unfold oGetLS at h
  split at h
  · split at h
    · split at h
      · rename_i xs hx _ d hd
        cases rx with
        | ref q =>
          cases ri
          obtain ⟨vs, h1, h2⟩ := hS.list hx q
          obtain ⟨v, h3, h4⟩ := atI_rds h2 hd
          exact ⟨_, vs, _, v, rfl, rfl, SqL.of h1, h3, h.now hS h4⟩
      · exact h.elim
    · exact h.elim
  · exact h.elim
theorem sx_augSS {o i : Expr} {p' : Pos} {fo fi : EM D} {op : Operator} {op2 : O2} (ho : Ex X W o fo) (hi : Ex X W i fi) (he : Ex X W e fe) (hop : OpM X W (inplaceOp op) op2)
    (ha : ∀ ov iv new, augStore i ov iv new = (do holding [new, ov, iv] (setItem ov iv new); release [new, ov, iv] []; pure .next) := by intros; rfl) : Sx X W (.AugAssign (.Subscript o i p') op e pos) (sAugSS op2 fo fi fe) := by
  refine ⟨fun m τ s σ H D hL hS hP pins sh I => ?_⟩
  have read : wE X o σ H fun vo H1 => wE X i σ H1 fun vi H2 => rIxL X.K vo vi H2 fun vy H3 => wE X e σ H3 fun vz H4 => wR2 X (inplaceOp op) σ vy vz H4 fun vv H5 => rSetL vo vi vv H5 fun H6 => D.nx σ H6 := by
    refine ho.run m τ s σ H _ hL hS (hP.bind hL fun dx s1 m1 H1 vx e1 hS1 r1 hP1 => ?_)
    have hL1 := hL.mono e1
    refine hi.run m1 τ s1 σ H1 _ hL1 hS1 (hP1.bind hL1 fun di s2 m2 H2 vi e2 hS2 r2 hP2 => ?_)
    have hL2 := hL1.mono e2
    refine getL_readS hS2 (r1.mono e2) r2 (hP2.bind hL2 fun dy s3 m3 H3 vy e3 hS3 r3 hP3 => ?_)
    have hL3 := hL2.mono e3
    refine he.run m3 τ s3 σ H3 _ hL3 hS3 (hP3.bind hL3 fun dz s4 m4 H4 vz e4 hS4 r4 hP4 => ?_)
    have hL4 := hL3.mono e4
    intro pins s v u I rv ru
    refine hop m4 s4 σ H4 dy dz vy vz _ hS4 (r3.mono e4) r4 (hP4.bind hL4 fun dv s5 m5 H5 vv e5 hS5 r5 hP5 => ?_) pins s v u I rv ru
    have hL5 := hL4.mono e5
    split at hP5
    · rename_i s6 h6
      have e25 := ((e3.trans e4).trans e5)
      obtain ⟨p, xs, k, j, q1, q2, q3, q4, q5, q6⟩ := set_readS hS5 ((r1.mono e2).mono e25) (r2.mono e25) r5 h6
      exact ⟨p, xs, k, j, q1, q2, q3, q4, hP5 m5 _ σ q5 q6 (hL5.mono q5)⟩
    · exact hP5.elim
  refine wpAny_AugAssign_SubscriptAny (thn (read pins sh I) fun ov s1 ⟨x1, H1, I1, r1, q1⟩ => ?_) ha
  refine thn (q1 pins s1 I1) fun iv s2 ⟨x2, H2, I2, r2, q2⟩ => ?_
  refine thn (get_list pins s2 σ H2 x1 x2 ov iv _ I2 r1 r2 q2) fun old s3 ⟨x3, H3, I3, r3, q3⟩ => ?_
  refine thn (q3 pins s3 I3) fun v s4 ⟨x4, H4, I4, r4, q4⟩ => ?_
  refine thn (q4 pins s4 old v I4 r3 r4) fun new s5 ⟨x5, H5, I5, r5, q5⟩ => ?_
  exact thn (set_list pins s5 σ H5 x1 x2 x5 ov iv new _ I5 r1 r2 r5 q5) fun _ s6 ⟨H6, I6, q6⟩ => ⟨σ, H6, I6, q6⟩
/-! ### loops -/
def forL (q : Sq) (set : D → Sl → Option Sl) (body : SM) : List D → SM
  | [], τ, st => if q.chk st then .nx τ st else .bad
  | d :: ds, τ, st => if q.chk st then match set d τ with
    | some τ1 => match body τ1 st with
      | .nx τ2 s2 => forL q set body ds τ2 s2
      | .ct τ2 s2 => forL q set body ds τ2 s2
      | .bk τ2 s2 => .nx τ2 s2
      | r => r
    | none => .bad
  else .bad
def sFor (fi : EM Sq) (set : D → Sl → Option Sl) (body : SM) : SM := fun τ st => bindE (fi τ st) τ fun q s1 => forL q set body q.items τ s1
theorem sx_for {tg iter : Expr} {ix : List Nat} {set : D → Sl → Option Sl} {fi : EM Sq} (hp : PassesOwn (model X.prog X.w) X.A X.env X.xe) (hc : X.calm = true) (hi : Ei X W tg iter fi) (hg : Eg X tg ix set) (hb : Sxs X W body f) (hs : ∀ x, foldedSetIterable iter X.env x = pure x := by intro _; rfl) : Sx X W (.For tg iter body [] pos) (sFor fi set f) := by
  refine ⟨fun m τ s σ H D hL hS hP pins sh I => (ps_for hp hc piW pgW pssW hs).run pins sh σ H D I ?_⟩
  refine hi.run m τ s σ H _ hL hS (hP.bind hL fun q s1 m1 H1 J e1 hS1 hJ hP1 => ?_)
  refine ⟨fun i k σ H => k = q.items.length - i ∧ i ≤ q.items.length ∧ ∃ (m : List Addr) (τ : Sl) (st : Store), Ext X.K m1 H1 m H ∧ SS X.kw m st H ∧ SL X.K m H τ σ ∧ Ps X.kw W m H (forL q set f (q.items.drop i) τ st) D, ⟨_, rfl, Nat.zero_le _, m1, τ, s1, .refl, hS1, hL.mono e1, by rw [List.drop_zero]; exact hP1⟩, ?_⟩
  rintro i k σ H ⟨rfl, hi, m, τ, st, e, hS, hL, hP⟩
  by_cases hlt : i < q.items.length
  · rw [List.drop_eq_getElem_cons hlt] at hP
    unfold forL at hP
    split at hP
    · rename_i hc
      obtain ⟨hgo, _⟩ := hJ m H st e hS hc
      obtain ⟨go, yl⟩ := hgo i q.items[i] (by simp [hlt])
      split at hP
      · rename_i τ1 hset
        refine .inr ⟨go, fun σ' H' => i + 1 ≤ q.items.length ∧ ∃ (m : List Addr) (τ : Sl) (st : Store), Ext X.K m1 H1 m H' ∧ SS X.kw m st H' ∧ SL X.K m H' τ σ' ∧ Ps X.kw W m H' (forL q set f (q.items.drop (i + 1)) τ st) D, fun σ' H' h => ⟨q.items.length - (i + 1), by omega, rfl, h⟩, fun x H' hy => ?_⟩
        obtain ⟨e2, s2, r2⟩ := yl x H' hy
        refine hg.run m τ τ1 st σ H' _ x _ (hL.mono e2) s2 r2 hset fun σ2 _ _ hL2 => ?_
        refine hb.run m τ1 st σ2 H' _ hL2 s2 ?_
        have hP := hP.up e2
        cases hq : f τ1 st with
        | nx τ2 s3 =>
          rw [hq] at hP
          exact fun m3 H3 σ3 e3 hS3 hL3 => ⟨by omega, m3, τ2, s3, e.trans (e2.trans e3), hS3, hL3, hP.up e3⟩
        | ct τ2 s3 =>
          rw [hq] at hP
          exact fun m3 H3 σ3 e3 hS3 hL3 => ⟨by omega, m3, τ2, s3, e.trans (e2.trans e3), hS3, hL3, hP.up e3⟩
        | bk τ2 s3 =>
          rw [hq] at hP
          exact hP
        | rt d s3 =>
          rw [hq] at hP
          exact hP
        | exc x τ2 s3 =>
          rw [hq] at hP
          exact hP
        | bad =>
          rw [hq] at hP
          exact hP
      · exact hP.elim
    · exact hP.elim
  · have e0 : i = q.items.length := by omega
    subst e0
    rw [List.drop_length] at hP
    unfold forL at hP
    split at hP
    · rename_i hc
      obtain ⟨_, stop⟩ := hJ m H st e hS hc
      exact .inl ⟨stop, hP m H σ .refl hS hL⟩
    · exact hP.elim
/-- more turns than any loop here takes -/
@[irreducible] def big : Nat := 2 ^ 20000
theorem le_big {k n : Nat} (hk : k ≤ 20000) (h : n ≤ 2 ^ k) : n ≤ big := by
  unfold big
  exact Nat.le_trans h (Nat.pow_le_pow_right (by decide) hk)
/-- while, at most n turns -/
def whileN (g : EM Bool) (body : SM) : Nat → SM
  | 0, _, _ => .bad
  | n + 1, τ, st => bindE (g τ st) τ fun b s1 => if b then match body τ s1 with
      | .nx τ2 s2 => whileN g body n τ2 s2
      | .ct τ2 s2 => whileN g body n τ2 s2
      | .bk τ2 s2 => .nx τ2 s2
      | r => r
    else .nx τ s1
theorem sx_while {c : Expr} (n : Nat) (hp : PassesOwn (model X.prog X.w) X.A X.env X.xe) (hc : Et X W c g) (hb : Sxs X W body f) : Sx X W (.While c body [] pos) (whileN g f n) := by
  refine ⟨fun m τ s σ H D hL hS hP pins sh I => (ps_while hp ptW pssW).run pins sh σ H D I ?_⟩
  refine ⟨fun k σ H => ∃ (m : List Addr) (τ : Sl) (st : Store), SS X.kw m st H ∧ SL X.K m H τ σ ∧ Ps X.kw W m H (whileN g f k τ st) D, ⟨n, m, τ, s, hS, hL, hP⟩, ?_⟩
  rintro k σ H ⟨m, τ, st, hS, hL, hP⟩
  cases k with
  | zero => exact hP.elim
  | succ k =>
    refine hc.run m τ st σ H _ hL hS (hP.bind hL fun b s1 m1 H1 b' e1 hS1 r1 hP1 => ?_)
    subst r1
    cases b with
    | false => exact iteF (hP1 m1 H1 σ .refl hS1 (hL.mono e1))
    | true =>
      refine iteT ⟨fun σ' H' => ∃ (m : List Addr) (τ : Sl) (st : Store), SS X.kw m st H' ∧ SL X.K m H' τ σ' ∧ Ps X.kw W m H' (whileN g f k τ st) D, fun σ' H' h => ⟨k, Nat.lt_succ_self k, h⟩, ?_⟩
      refine hb.run m1 τ s1 σ H1 _ (hL.mono e1) hS1 ?_
      have hP1 : Ps X.kw W m1 H1 (match f τ s1 with
        | .nx τ2 s2 => whileN g f k τ2 s2
        | .ct τ2 s2 => whileN g f k τ2 s2
        | .bk τ2 s2 => .nx τ2 s2
        | r => r) D := hP1
      cases hq : f τ s1 with
      | nx τ2 s3 =>
        rw [hq] at hP1
        exact fun m3 H3 σ3 e3 hS3 hL3 => ⟨m3, τ2, s3, hS3, hL3, hP1.up e3⟩
      | ct τ2 s3 =>
        rw [hq] at hP1
        exact fun m3 H3 σ3 e3 hS3 hL3 => ⟨m3, τ2, s3, hS3, hL3, hP1.up e3⟩
      | bk τ2 s3 =>
        rw [hq] at hP1
        exact hP1
      | rt d s3 =>
        rw [hq] at hP1
        exact hP1
      | exc x τ2 s3 =>
        rw [hq] at hP1
        exact hP1
      | bad =>
        rw [hq] at hP1
        exact hP1
end
end HM

/-! HM, part 7: raise, try; defs; the law's end. -/
namespace HM
open PySem PySem.Spec PyProof.Rows L2
section
variable {X : Cx} {W : WX} {e a b c : Expr} {es rest : List Expr} {pos p : Pos} {fa fb fc fe : EM D} {fs : EM (List D)} {g ga gb : EM Bool} {s1 : Stmt} {ss body suite : List Stmt} {f h k : SM}
def sRaise (x : Xc) : SM := fun τ st => .exc x τ st
theorem sx_raiseB {T N I : String} {x : Str} {m : Str} {j : Nat} {p2 pos' : Pos} (hc : X.calm = true) (tk : Takes X W) (F : ExcB T N I) (hg : Gl X x) (hm : X.mg x = none) (hv : bootBuiltins x = some (.type T)) (hn : x ≠ "__name__" := by decide) (hdb : (x == ("__debug__" : Str)) = false := by decide) :
    Sx X W (.Raise (some (.Call (.Name x p) [.Constant (.str m) j p2] [] pos)) none pos') (sRaise ⟨.ty T, []⟩) :=
  ⟨fun m τ s σ H D hL hS hP pins sh I => (ps_raiseB hc tk F hg hm hv hn hdb).run pins sh σ H D I (hP m H σ _ _ .refl hS hL ⟨rfl, rfl⟩)⟩
def sTry (f : SM) (mt : D → Option Bool) (h : SM) : SM := fun τ st => match f τ st with
  | .exc x τ1 s1 => match mt x.cls with
    | some true => h τ1 s1
    | some false => .exc x τ1 s1
    | none => .bad
  | r => r
theorem sx_try {x : Str} {c : Value} {b₀ : Stmt} {np pos' : Pos} {mt : D → Option Bool} (hs : X.stack = X.env :: X.outer) (hf : X.env.frame = some X.env.locals) (hc : Names X x c) (tk : Takes X W) (hmt : ∀ (m : List Addr) (H : Hp) (y : Xc) (cls : Value) (d : Option Addr) (b : Bool), XR X.K m H y cls d → mt y.cls = some b → PySem.W.exmOne X.K cls c = some b)
    (hb : ∀ (W : WX) (pn : List (Addr × Obj)) (xe : Value → Shared → Prop), Takes (X.tr pn xe) W → PassesOwn (model X.prog X.w) X.A X.env xe → Sxs (X.tr pn xe) W body f)
    (hsu : ∀ (a : Addr) (oe : Obj) (pn : List (Addr × Obj)), Sxs (X.suite a ((a, oe) :: pn)) (fun _ _ _ _ => False) (b₀ :: suite) h)
    (hno : ∀ τ st x τ1 s1, h τ st ≠ .exc x τ1 s1) : Sx X W (.Try body [.ExceptHandler (some (.Name x np)) none (b₀ :: suite) pos'] [] [] pos) (sTry f mt h) := by
  refine ⟨fun m τ s σ H D hL hS hP pins sh I => ?_⟩
  refine (ps_try_only (tb := fun W => fun D σ H => ∀ (pn : List (Addr × Obj)) (xe : Value → Shared → Prop), Takes (X.tr pn xe) W → PassesOwn (model X.prog X.w) X.A X.env xe → wSs (X.tr pn xe) body D σ H)
    (ts := fun a cls d => fun D σ H => ∀ (oe : Obj) (pn : List (Addr × Obj)), wSs (X.suite a ((a, oe) :: pn)) (b₀ :: suite) D σ H) hs hf hc tk (fun W pn xe t1 t2 => ⟨fun pins s σ H D I h => h pn xe t1 t2 pins s I⟩) (fun a oe cls d pn _ _ => ⟨fun pins s σ H D I h => h oe pn pins s I⟩)).run pins sh σ H D I ?_
  intro pn xe t1 t2
  refine (hb _ pn xe t1 t2).run m τ s σ H D hL hS ?_
  unfold sTry at hP
  cases hq : f τ s with
  | exc y τ1 s1 =>
    rw [hq] at hP
    intro m1 H1 σ1 cls d e1 hS1 hL1 hX
    have hP : Ps X.kw W m H (match mt y.cls with
      | some true => h τ1 s1
      | some false => .exc y τ1 s1
      | none => .bad) D := hP
    cases hm : mt y.cls with
    | none =>
      rw [hm] at hP
      exact hP.elim
    | some b =>
      rw [hm] at hP
      refine ⟨b, hmt m1 H1 y cls d b hX hm, fun hb' a na oe pn => ?_, fun hb' => ?_⟩
      · subst hb'
        refine (hsu a oe pn).run m1 τ1 s1 σ1 H1 D hL1 hS1 ?_
        have hP := hP.up e1
        cases hh : h τ1 s1 with
        | exc x τ2 s2 => exact absurd hh (hno _ _ _ _ _)
        | nx _ _ =>
          have hP : Ps X.kw W m1 H1 (h τ1 s1) D := hP
          rw [hh] at hP
          exact hP
        | bk _ _ =>
          have hP : Ps X.kw W m1 H1 (h τ1 s1) D := hP
          rw [hh] at hP
          exact hP
        | ct _ _ =>
          have hP : Ps X.kw W m1 H1 (h τ1 s1) D := hP
          rw [hh] at hP
          exact hP
        | rt _ _ =>
          have hP : Ps X.kw W m1 H1 (h τ1 s1) D := hP
          rw [hh] at hP
          exact hP
        | bad =>
          have hP : Ps X.kw W m1 H1 (h τ1 s1) D := hP
          rw [hh] at hP
          exact hP
      · subst hb'
        exact hP m1 H1 σ1 cls d e1 hS1 hL1 hX
  | nx _ _ =>
    rw [hq] at hP
    exact hP
  | bk _ _ =>
    rw [hq] at hP
    exact hP
  | ct _ _ =>
    rw [hq] at hP
    exact hP
  | rt _ _ =>
    rw [hq] at hP
    exact hP
  | bad =>
    rw [hq] at hP
    exact hP
end

/-- does a built-in class catch -/
def mtB (T : String) : D → Option Bool
  | .ty n => if n = T then some true else none
  | _ => none
theorem mtB_of {K : PySem.W.Frag} {T : String} (h : PySem.W.exmOne K (.type T) (.type T) = some true) (m : List Addr) (H : Hp) (y : Xc) (cls : Value) (d : Option Addr) (b : Bool) (hx : XR K m H y cls d) (hm : mtB T y.cls = some b) : PySem.W.exmOne K cls (.type T) = some b := by
  unfold mtB at hm
  split at hm
  · rename_i n e
    split at hm
    · rename_i hn
      subst hn
      cases hm
      unfold XR at hx
      rw [e] at hx
      obtain ⟨rfl, _⟩ := hx
      exact h
    · cases hm
  · cases hm
theorem mtB_ZeroDivisionError {K : PySem.W.Frag} : ∀ (m : List Addr) (H : Hp) (y : Xc) (cls : Value) (d : Option Addr) (b : Bool), XR K m H y cls d → mtB "ZeroDivisionError" y.cls = some b → PySem.W.exmOne K cls (.type "ZeroDivisionError") = some b := mtB_of (by kernel_rfl)
/-! ### defs -/
/-- the slots at a def's entry -/
def ent (n : Nat) (ds : List D) : Sl := ds.map some ++ List.replicate (n - ds.length) none
def runB (n : Nat) (fb : SM) : FM := fun ds st => match fb (ent n ds) st with
  | .nx _ s => .ok .non s
  | .rt d s => .ok d s
  | .exc x _ s => .exc x s
  | _ => .bad
theorem SL.start {K : PySem.W.Frag} {m : List Addr} {H : Hp} {N : List Str} {ds : List D} {vs : List V} (r : RDs K m H ds vs) : SL K m H (ent N.length ds) (L2.start N vs) where
  len := by simp [ent, L2.start, r.len]
  get := fun i d h => by
    unfold ent at h
    by_cases hi : i < ds.length
    · rw [List.getElem?_append_left (by simpa using hi), List.getElem?_map] at h
      cases hd : ds[i]? with
      | none =>
        rw [hd] at h
        cases h
      | some d' =>
        rw [hd] at h
        simp only [Option.map_some, Option.some.injEq] at h
        subst h
        obtain ⟨v, h1, h2⟩ := r.get hd
        refine ⟨v, ?_, h2⟩
        unfold L2.start
        rw [List.getElem?_append_left (by simpa [← r.len] using hi), List.getElem?_map, h1]
        rfl
    · rw [List.getElem?_append_right (by simpa using hi)] at h
      have z := List.mem_of_getElem? h
      have z2 := List.eq_of_mem_replicate z
      cases z2
section
variable {P : Program} {w : World} {K : PySem.W.Frag} {mg : Str → Option Value} {base : Heap} {x qual : Str} {params : Arguments} {body : List Stmt} {scope : Scope} {dvs : List V} {kws : List (Str × V)} {f : Addr} {fd : FuncData} {N ps : List Str} {k : Nat} {fb : SM}
/-- the context of a def's body -/
abbrev Cd (P : Program) (w : World) (K : PySem.W.Frag) (mg : Str → Option Value) (base : Heap) (N : List Str) (qual : Str) (scope : Scope) (f : Addr) (k : Nat) (B : Cx → WX → Prop) : Prop :=
  ∀ (cdv : Value) (A : Around) (outer : List Env) (s : Shared) (H : Hp) (E : XK), Room k (A.deeper (envOfC qual scope s.heap.objs.size f cdv)) → B (cxOf (L2.CX P w) P w K mg base N qual scope f cdv A outer s H E) (fun c d _ H => E c d H)
theorem fn_def (F : FunD K x qual params body scope dvs kws f fd) (S : FnScope N ps scope)
    (hb : ∀ (cdv : Value) (A : Around) (outer : List Env) (s : Shared) (H : Hp) (E : XK), Room k (A.deeper (envOfC qual scope s.heap.objs.size f cdv)) → Takes (cxOf (L2.CX P w) P w K mg base N qual scope f cdv A outer s H E) (fun c d _ H => E c d H) →
      PassesOwn (model P w) (A.deeper (envOfC qual scope s.heap.objs.size f cdv)) (envOfC qual scope s.heap.objs.size f cdv) (cxOf (L2.CX P w) P w K mg base N qual scope f cdv A outer s H E).xe →
      Sxs (cxOf (L2.CX P w) P w K mg base N qual scope f cdv A outer s H E) (fun c d _ H => E c d H) body fb) : FnM P w K mg base (k + 1) f fd ps (runB N.length fb) := by
  refine F.ok S (fun vs H Q E ⟨m, st, ds, hl, hS, r, _⟩ => by rw [← r.len, hl]) (fun cdv A outer s H vs Q E hr ⟨m, st, ds, hl, hS, r, hP⟩ => ?_)
  refine ⟨_, pssW, (hb cdv A outer s H E hr (takes_of rfl rfl rfl rfl) (passes_of rfl)).run m (ent N.length ds) st (L2.start N vs) H _ (SL.start r) hS ?_⟩
  unfold runB at hP
  cases hq : fb (ent N.length ds) st with
  | nx τ s1 =>
    rw [hq] at hP
    exact fun m1 H1 σ e1 hS1 hL1 => hP m1 H1 .non e1 hS1 .non
  | rt d s1 =>
    rw [hq] at hP
    exact hP
  | exc x τ s1 =>
    rw [hq] at hP
    exact fun m1 H1 σ c d e1 hS1 hL1 hX => hP m1 H1 c d e1 hS1 hX
  | bk τ s1 =>
    rw [hq] at hP
    exact hP.elim
  | ct τ s1 =>
    rw [hq] at hP
    exact hP.elim
  | bad =>
    rw [hq] at hP
    exact hP.elim
end

/-! ### what a def leaves behind may be forgotten -/
mutual
def D.lo (k : Nat) : D → Bool
  | .ref n => decide (n < k)
  | .tup xs => D.loAll k xs
  | .rol xs => D.loAll k xs
  | .adr _ (some _) _ x => D.lo k x
  | _ => true
def D.loAll (k : Nat) : List D → Bool
  | [] => true
  | d :: ds => D.lo k d && D.loAll k ds
end
def Cell.lo (k : Nat) : Cell → Bool
  | .lst xs => D.loAll k xs
  | .dct kvs => kvs.all fun p => p.1.lo k && p.2.lo k
section
variable {K : PySem.W.Frag} {m : List Addr} {H : Hp}
mutual
theorem RD.take {k : Nat} : ∀ {d : D} {v : V}, RD K m H d v → d.lo k = true → RD K (m.take k) H d v
  | _, _, .non, _ => .non
  | _, _, .bl b, _ => .bl b
  | _, _, .int i, _ => .int i
  | _, _, .str x, _ => .str x
  | _, _, .ty n, _ => .ty n
  | _, _, .adr a f x, _ => .adr a f x
  | _, _, .adrF h r, q => .adrF h (RD.take r (by simpa only [D.lo] using q))
  | _, _, .tup h r, q => .tup h (RDs.takeA r (by simpa only [D.lo] using q))
  | _, _, .rol h r, q => .rol h (RDs.takeA r (by simpa only [D.lo] using q))
  | _, _, .ref (n := n) h, q => .ref (by
    have z : n < k := of_decide_eq_true (by simpa only [D.lo] using q)
    rw [List.getElem?_take_of_lt z]
    exact h)
theorem RDs.takeA {k : Nat} : ∀ {ds : List D} {vs : List V}, RDs K m H ds vs → D.loAll k ds = true → RDs K (m.take k) H ds vs
  | _, _, .nil, _ => .nil
  | _, _, .cons h r, q => by
    simp only [D.loAll, Bool.and_eq_true] at q
    exact .cons (RD.take h q.1) (RDs.takeA r q.2)
end
mutual
theorem RD.is_lo {k : Nat} (hk : m.length ≤ k) : ∀ {d : D} {v : V}, RD K m H d v → d.lo k = true
  | _, _, .non => rfl
  | _, _, .bl b => rfl
  | _, _, .int i => rfl
  | _, _, .str x => rfl
  | _, _, .ty n => rfl
  | _, _, .adr a f x => rfl
  | _, _, .adrF h r => by simpa only [D.lo] using RD.is_lo hk r
  | _, _, .tup h r => by simpa only [D.lo] using RDs.is_lo hk r
  | _, _, .rol h r => by simpa only [D.lo] using RDs.is_lo hk r
  | _, _, .ref h => by
    simp only [D.lo, decide_eq_true_eq]
    exact Nat.lt_of_lt_of_le (List.getElem?_eq_some_iff.mp h).1 hk
theorem RDs.is_lo {k : Nat} (hk : m.length ≤ k) : ∀ {ds : List D} {vs : List V}, RDs K m H ds vs → D.loAll k ds = true
  | _, _, .nil => rfl
  | _, _, .cons h r => by simp only [D.loAll, RD.is_lo hk h, RDs.is_lo hk r, Bool.and_self]
end
theorem RC.is_lo {K : KW} {k : Nat} {a : Addr} {c : Cell} (hk : m.length ≤ k) (r : RC K m H a c) : c.lo k = true := by
  cases c with
  | lst ds =>
    obtain ⟨vs, _, r⟩ := r
    exact r.is_lo hk
  | dct kvs =>
    have f1 : ∀ {kvs us}, DRel1 K m H kvs us → (kvs.all fun p => p.1.lo k && p.2.lo k) = true := fun {kvs us} r => by
      induction r with
      | nil => rfl
      | @cons p q ps qs h t ih =>
        obtain ⟨h1, h2⟩ := h
        have z : p.1.lo k = true := by rw [h1]; cases q.1 <;> rfl
        rw [List.all_cons, ih, z, h2.is_lo hk]
        rfl
    have f2 : ∀ {kvs us}, DRel2 K m H kvs us → (kvs.all fun p => p.1.lo k && p.2.lo k) = true := fun {kvs us} r => by
      induction r with
      | nil => rfl
      | @cons p q ps qs h t ih =>
        rw [List.all_cons, ih, h.2.2.1.is_lo hk, h.2.2.2.is_lo hk]
        rfl
    rcases r with ⟨us, _, r⟩ | ⟨xs, _, r⟩
    · exact f1 r
    · exact f2 r.2
theorem RC.take {K : KW} {k : Nat} {a : Addr} {c : Cell} (r : RC K m H a c) (h : c.lo k = true) : RC K (m.take k) H a c := by
  cases c with
  | lst ds =>
    obtain ⟨vs, q, r⟩ := r
    exact ⟨vs, q, r.takeA h⟩
  | dct kvs =>
    have f1 : ∀ {kvs us}, DRel1 K m H kvs us → (kvs.all fun p => p.1.lo k && p.2.lo k) = true → DRel1 K (m.take k) H kvs us := fun {kvs us} r => by
      induction r with
      | nil => exact fun _ => .nil
      | @cons p q ps qs h t ih =>
        intro z
        rw [List.all_cons, Bool.and_eq_true, Bool.and_eq_true] at z
        exact .cons ⟨h.1, h.2.take z.1.2⟩ (ih z.2)
    have f2 : ∀ {kvs us}, DRel2 K m H kvs us → (kvs.all fun p => p.1.lo k && p.2.lo k) = true → DRel2 K (m.take k) H kvs us := fun {kvs us} r => by
      induction r with
      | nil => exact fun _ => .nil
      | @cons p q ps qs h t ih =>
        intro z
        rw [List.all_cons, Bool.and_eq_true, Bool.and_eq_true] at z
        exact .cons ⟨h.1, h.2.1, h.2.2.1.take z.1.1, h.2.2.2.take z.1.2⟩ (ih z.2)
    rcases r with ⟨us, q, r⟩ | ⟨xs, q, r⟩
    · exact .inl ⟨us, q, f1 r h⟩
    · exact .inr ⟨xs, q, r.1, f2 r.2 h⟩
/-- r' says no more than r, or the same with a shorter store -/
inductive Le (st : Store) : ER D → ER D → Prop
  | bad (r : ER D) : Le st r .bad
  | refl (r : ER D) : Le st r r
  | gc {v : D} {s1 : Store} (k : Nat) (hk : st.length ≤ k) (hv : v.lo k = true) (hc : ∀ (i : Nat) (c : Cell), i < k → s1[i]? = some c → st[i]? = some c ∨ c.lo k = true) : Le st (.ok v s1) (.ok v (s1.take k))
theorem Le.pe {K : KW} {E : XK} {st : Store} {r r' : ER D} {Q : VK} (l : Le st r r') (s : SS K m st H) (h : Pe K E (RD K) m H r' Q) : Pe K E (RD K) m H r Q := by
  cases l with
  | bad r => exact h.elim
  | refl r => exact h
  | @gc v s1 k hk hv hc =>
    intro m1 H1 b e1 hS1 r1
    refine h (m1.take k) H1 b ⟨⟨fun n a q => ?_, e1.tup, e1.plt, e1.fzl, e1.xdk⟩, e1.frm, fun a q n => e1.new a (List.mem_of_mem_take q) n⟩ ⟨?_, ?_, fun n c a q1 q2 => ?_⟩ (r1.take hv)
    · have hl : n < m.length := (List.getElem?_eq_some_iff.mp q).1
      rw [s.len] at hl
      rw [List.getElem?_take_of_lt (Nat.lt_of_lt_of_le hl hk)]
      exact e1.pre n a q
    · rw [List.length_take, List.length_take, hS1.len]
    · exact hS1.nd.sublist (List.take_sublist _ _)
    · have hn : n < k := by
        have z := (List.getElem?_eq_some_iff.mp q1).1
        rw [List.length_take] at z
        omega
      rw [List.getElem?_take_of_lt hn] at q1 q2
      refine (hS1.cel n c a q1 q2).take ?_
      rcases hc n c hn q1 with z | z
      · obtain ⟨a0, _, r0⟩ := s.at z
        exact r0.is_lo (by rw [s.len]; exact hk)
      · exact z
theorem FnM.le {P : Program} {w : World} {mg : Str → Option Value} {base : Heap} {k : Nat} {f : Addr} {fd : FuncData} {ps : List Str} {mf sf : FM} (F : FnM P w K mg base k f fd ps mf) (h : ∀ ds st, Le st (mf ds st) (sf ds st)) : FnM P w K mg base k f fd ps sf :=
  FnOk.imp F fun vs H Q E ⟨m, st, ds, hl, hS, r, hP⟩ => ⟨m, st, ds, hl, hS, r, (h ds st).pe hS hP⟩
/-- a value without the store, the store but for what was laid on it -/
theorem Le.app {st more : Store} {v : D} (hv : v.lo st.length = true) : Le st (.ok v (st ++ more)) (.ok v st) := by
  have z := Le.gc (st := st) (v := v) (s1 := st ++ more) st.length (Nat.le_refl _) hv fun i c hi h => by
    rw [List.getElem?_append_left hi] at h
    exact .inl h
  rw [List.take_left] at z
  exact z
end

/-! ### the law -/
theorem law_sp {K : KW} {mf : FM} {n : Nat} (h : ∀ ns : List Int, ns.length ≤ n → ∃ st, mf [.rol (ns.map D.int)] [] = .ok (.bl true) st) (H : Hp) (a : Addr) (ns : List Int) (hl : ns.length ≤ n) (ho : Only H) (hS : SqL K H a (ns.map V.int)) :
    spM K 1 mf [V.ref a] H (fun v _ => v = .bl true) (fun _ _ _ => False) := by
  obtain ⟨st, e⟩ := h ns hl
  refine ⟨[], [], [.rol (ns.map D.int)], rfl, ⟨rfl, .nil, fun n c a q => by simp at q⟩, .cons (.rol (FzL.of hS fun ys z => ?_) (RDs.ints ns)) .nil, ?_⟩
  · rcases ho a with q | ⟨o, xs, q⟩
    · rw [q] at z
      cases z
    · rw [q] at z
      cases z
  · rw [e]
    intro m' H' b _ _ r
    cases r
    rfl
end HM

/-! HM, part 8: defs as they are called; what a text is put together of. -/
namespace HM
open PySem PySem.Spec PyProof.Rows L2
section
variable {X : Cx} {W : WX} {e a b c : Expr} {es rest : List Expr} {pos p : Pos} {fa fb fc fe : EM D} {fs : EM (List D)} {g ga gb : EM Bool} {s1 : Stmt} {ss body suite : List Stmt} {f h k : SM}
/-- a name = [..] on one line -/
theorem sx_setLc {i : Nat} {y : Str} {py spos : Pos} {tg elt iter : Expr} {ifs : List Expr} {scope : Scope} {own : List (Str × Nat)} {ix : List Nat} {set : D → Sl → Option Sl} {ft : EM Bool} {fe : EM D} {fi : EM Sq} (hc : X.calm = true) (hN : X.N.Nodup) (hi : Ei X W tg iter fi) (ok : BlkOk X.N X.env.scope scope own)
    (hg : BEg X scope tg ix set) (ht : BEt X scope ifs ft) (he : BEx X scope elt fe) (hy : X.N[i]? = some y := by rfl) (hyl : X.env.scope.names.lookup y = some .local := by rfl)
    (hsw : swapsWith (.ListComp elt [⟨tg, iter, ifs, 0⟩] scope pos) (some (.Name y py)) spos.line X.env = pure true := by exact sw_true rfl rfl rfl (by decide +kernel)) (hown : ∀ i ∈ ix, i ∈ own.map (·.2) := by decide) (hs : ∀ x, foldedSetIterable iter X.env x = pure x := by intro _; rfl) :
    Sx X W (.Assign [.Name y py] (.ListComp elt [⟨tg, iter, ifs, 0⟩] scope pos) spos) (sSet i (eEl (lComp (own.map (·.2)) fi set ft fe))) := by
  refine ⟨fun m τ st σ H D hL hS hP pins s I => ?_⟩
  refine (ps_setLc (g := gAll X scope tg) (tt := tAll X scope ifs) (te := eAll X scope elt) hc hN hy hyl hsw piW ok ?_ ?_ ?_ hs).run pins s σ H D I (comp_post hi hown hg ht he hL hS ?_)
  · exact fun s H C cl fp => ⟨fun pins s' σ H' v u Q I r h => h s H C cl fp pins s' u I r⟩
  · exact fun s H C cl fp => ⟨fun pins s' σ H' Q I h => h s H C cl fp pins s' I⟩
  · exact fun s H C cl fp => ⟨fun pins s' σ H' Q I h => h s H C cl fp pins s' I⟩
  · unfold sSet eEl at hP
    cases hq : lComp (own.map (·.2)) fi set ft fe τ st with
    | ok ds s1 =>
      rw [hq] at hP
      intro m1 H1 v e1 hS1 ⟨a, vs, e, ha, na, hn, rs⟩
      subst e
      have e2 := e1.own hn
      have r2 : RD X.K (m1 ++ [a]) H1 (.ref s1.length) (.ref a) := .ref (by
        rw [← hS1.len]
        simp)
      exact hP (m1 ++ [a]) H1 _ e2 (hS1.grow na ⟨vs, ha, rs.kp Kp.grow⟩) ((hL.mono e2).set i r2)
    | exc x st' =>
      rw [hq] at hP
      exact fun m' H' c d e s q => hP m' H' σ c d e s (hL.mono e) q
    | bad =>
      rw [hq] at hP
      exact hP.elim

/-! ### defs by name -/
structure Cal (P : Program) (w : World) (K : PySem.W.Frag) (mg : Str → Option Value) (base : Heap) (x : Str) (k : Nat) (ps : List Str) (mf : FM) : Prop where
  ex : ∃ (f : Addr) (fd : FuncData), FnM P w K mg base k f fd ps mf ∧ mg x = some (.ref f) ∧ PySem.W.keepIn K (.ref f) = true ∧ Binds K fd ps [] ∧ ∃ oc od osl, K.lookup f = some ⟨oc, od, .func fd, osl⟩
theorem Cal.le {P : Program} {w : World} {K : PySem.W.Frag} {mg : Str → Option Value} {base : Heap} {x : Str} {k : Nat} {ps : List Str} {mf sf : FM} (c : Cal P w K mg base x k ps mf) (h : ∀ ds st, Le st (mf ds st) (sf ds st)) : Cal P w K mg base x k ps sf := by
  obtain ⟨f, fd, F, r⟩ := c.ex
  exact ⟨f, fd, F.le h, r⟩
theorem Cal.mono {P : Program} {w : World} {K : PySem.W.Frag} {mg : Str → Option Value} {base : Heap} {x : Str} {j k : Nat} {ps : List Str} {mf : FM} (c : Cal P w K mg base x j ps mf) (h : j ≤ k) : Cal P w K mg base x k ps mf := by
  obtain ⟨f, fd, F, r⟩ := c.ex
  exact ⟨f, fd, FnOk.mono F h, r⟩
theorem ex_c1 {P : Program} {w : World} {K : PySem.W.Frag} {mg : Str → Option Value} {base : Heap} {A : Around} {j k : Nat} {ps : List Str} {mf : FM} {x : Str} (c : Cal P w K mg base x j ps mf) (tk : Takes X W) (hr : Room k A) (hj : j ≤ k) (ha : Ea X W (e :: es) fs)
    (h1 : X.prog = P := by rfl) (h2 : X.w = w := by rfl) (h3 : X.K = K := by rfl) (h4 : X.mg = mg := by rfl) (h5 : X.base = base := by rfl) (h6 : X.A = A := by rfl) (hg : Gl X x := by rfl) (hdb : (x == ("__debug__" : Str)) = false := by decide) (he : starEach (e :: es) X.env = (false, eval e X.env) :: starEach es X.env := by rfl)
    (hpl : (backTo pos (starEach es X.env)).any (·.1) = false := by rfl) : Ex X W (.Call (.Name x p) (e :: es) [] pos) (eCall ps.length mf fs) := by
  subst h1 h2 h3 h4 h5 h6
  obtain ⟨f, fd, F, hm, hk, hb, _⟩ := c.ex
  exact ex_call tk F (hr.mono hj) hg hm hk hb ha hdb he hpl
theorem ex_c0 {P : Program} {w : World} {K : PySem.W.Frag} {mg : Str → Option Value} {base : Heap} {A : Around} {j k : Nat} {ps : List Str} {mf : FM} {x : Str} (c : Cal P w K mg base x j ps mf) (tk : Takes X W) (hr : Room k A) (hj : j ≤ k)
    (h1 : X.prog = P := by rfl) (h2 : X.w = w := by rfl) (h3 : X.K = K := by rfl) (h4 : X.mg = mg := by rfl) (h5 : X.base = base := by rfl) (h6 : X.A = A := by rfl) (hg : Gl X x := by rfl) (hdb : (x == ("__debug__" : Str)) = false := by decide) : Ex X W (.Call (.Name x p) [] [] pos) (eCall ps.length mf aNil) := by
  subst h1 h2 h3 h4 h5 h6
  obtain ⟨f, fd, F, hm, hk, hb, _⟩ := c.ex
  exact ex_call0 tk F (hr.mono hj) hg hm hk hb hdb
/-- in a comprehension nothing is let out -/
theorem tk0 : Takes X (fun _ _ _ _ => False) := takes0
end
/-- a def of the text -/
abbrev FnP (K : PySem.W.Frag) (x : Str) (st : Stmt) (f : Addr) (fd : FuncData) : Prop := FunD K x x (defArgs st) (defBody st) (defScope st) [] [] f fd
section
variable {P : Program} {w : World} {K : PySem.W.Frag} {mg : Str → Option Value} {base : Heap}
theorem cal_mk {x : Str} {st : Stmt} {f : Addr} {fd : FuncData} {N ps : List Str} {k : Nat} {fb : SM} (F : FnP K x st f fd) (S : FnScope N ps (defScope st)) (gx : mg x = some (.ref f))
    (bn : ∀ (kV doc pm : Value) (an : Option Addr) (cdv ct : Value) (us : List Value), us.length = ps.length → bindArgs (PySem.W.fnOf x x (defArgs st) (defBody st) (defScope st) .none kV doc pm an cdv ct) ⟨us, []⟩ = pure (ps.zip us))
    (hb : ∀ (cdv : Value) (A : Around) (outer : List Env) (s : Shared) (H : Hp) (E : XK), Room k (A.deeper (envOfC x (defScope st) s.heap.objs.size f cdv)) → Takes (cxOf (L2.CX P w) P w K mg base N x (defScope st) f cdv A outer s H E) (fun c d _ H => E c d H) →
      PassesOwn (model P w) (A.deeper (envOfC x (defScope st) s.heap.objs.size f cdv)) (envOfC x (defScope st) s.heap.objs.size f cdv) (cxOf (L2.CX P w) P w K mg base N x (defScope st) f cdv A outer s H E).xe →
      Sxs (cxOf (L2.CX P w) P w K mg base N x (defScope st) f cdv A outer s H E) (fun c d _ H => E c d H) (defBody st) fb) : Cal P w K mg base x (k + 1) ps (runB N.length fb) :=
  ⟨f, fd, fn_def F S hb, gx, F.kp, F.bindsN bn, let ⟨oc, od, _, _, _, _, _, _, _, osl, e, lk, _⟩ := F.ex; ⟨oc, od, osl, e ▸ lk⟩⟩
end
/-! ### what the built-in names hold -/
theorem bt_len : bootBuiltins "len" = some (.builtin "len") := by decide +kernel
theorem bt_abs : bootBuiltins "abs" = some (.builtin "abs") := by decide +kernel
theorem bt_isinstance : bootBuiltins "isinstance" = some (.builtin "isinstance") := by decide +kernel
theorem bt_min : bootBuiltins "min" = some (.builtin "min") := by decide +kernel
theorem bt_max : bootBuiltins "max" = some (.builtin "max") := by decide +kernel
theorem bt_sum : bootBuiltins "sum" = some (.builtin "sum") := by decide +kernel
theorem bt_all : bootBuiltins "all" = some (.builtin "all") := by decide +kernel
theorem bt_any : bootBuiltins "any" = some (.builtin "any") := by decide +kernel
theorem bt_sorted : bootBuiltins "sorted" = some (.builtin "sorted") := by decide +kernel
theorem bt_int : bootBuiltins "int" = some (.type "int") := by decide +kernel
theorem bt_bool : bootBuiltins "bool" = some (.type "bool") := by decide +kernel
theorem bt_str : bootBuiltins "str" = some (.type "str") := by decide +kernel
theorem bt_tuple : bootBuiltins "tuple" = some (.type "tuple") := by decide +kernel
theorem bt_list : bootBuiltins "list" = some (.type "list") := by decide +kernel
end HM

/-! HM, part 9: what the top leaves. -/
namespace HM
open PySem PySem.Spec PyProof.Rows L2
mutual
def conB (K : PySem.W.Frag) : D → Value → Bool
  | .non, .none => true
  | .bl a, .bool b => a == b
  | .int i, .int j _ => decide (i = j)
  | .str x, .str y _ => decide (y.cps.toList = x)
  | .tup ds, .ref a => match K.lookup a with
    | some ⟨.type c, od, .seq its _, _⟩ => decide (c = "tuple") && (od.isNone && (decide (its.size ≤ sizeLine) && conAll K ds its.toList))
    | _ => false
  | _, _ => false
def conAll (K : PySem.W.Frag) : List D → List Value → Bool
  | [], [] => true
  | d :: ds, u :: us => conB K d u && conAll K ds us
  | _, _ => false
end
mutual
theorem conB_ok {K : PySem.W.Frag} : ∀ (d : D) (u : Value), conB K d u = true → ∃ v, RelV v u ∧ ∀ m H, RD K m H d v
  | .non, u, h => by
    cases u <;> simp [conB] at h
    exact ⟨.non, rfl, fun _ _ => .non⟩
  | .bl a, u, h => by
    cases u <;> simp [conB] at h
    subst h
    exact ⟨.bl _, rfl, fun _ _ => .bl _⟩
  | .int i, u, h => by
    cases u <;> simp [conB] at h
    subst h
    exact ⟨.int _, ⟨_, rfl⟩, fun _ _ => .int _⟩
  | .str x, u, h => by
    cases u <;> simp [conB] at h
    rename_i y t
    subst h
    refine ⟨.str y, ⟨_, rfl⟩, fun _ _ => ?_⟩
    have e : (⟨y.cps.toList.toArray⟩ : PySem.Str) = y := by simp
    have z := RD.str (K := K) (m := ‹_›) (H := ‹_›) y.cps.toList
    rw [e] at z
    exact z
  | .tup ds, u, h => by
    cases u with
    | ref a =>
      have h1 : (match K.lookup a with
        | some ⟨.type c, od, .seq its _, _⟩ => decide (c = "tuple") && (od.isNone && (decide (its.size ≤ sizeLine) && conAll K ds its.toList))
        | _ => false) = true := by
        simpa only [conB] using h
      split at h1
      · rename_i c od its n osl e
        simp only [Bool.and_eq_true, decide_eq_true_eq] at h1
        obtain ⟨h2, h5, h3, h4⟩ := h1
        subst h2
        have hod : od = none := by simpa using h5
        obtain ⟨vs, r, q⟩ := conAll_ok ds its.toList h4
        exact ⟨.ref a, rfl, fun m H => .tup (.inr ⟨_, its, n, e, rfl, hod, rfl, h3, r⟩) (q m H)⟩
      · cases h1
    | _ => simp [conB] at h
  | .ref _, u, h => by simp [conB] at h
  | .ty _, u, h => by simp [conB] at h
  | .adr _ _ _ _, u, h => by simp [conB] at h
  | .rol _, u, h => by simp [conB] at h
theorem conAll_ok {K : PySem.W.Frag} : ∀ (ds : List D) (us : List Value), conAll K ds us = true → ∃ vs, Vals vs us ∧ ∀ m H, RDs K m H ds vs
  | [], [], _ => ⟨[], .nil, fun _ _ => .nil⟩
  | [], _ :: _, h => by simp [conAll] at h
  | _ :: _, [], h => by simp [conAll] at h
  | d :: ds, u :: us, h => by
    simp only [conAll, Bool.and_eq_true] at h
    obtain ⟨v, r1, q1⟩ := conB_ok d u h.1
    obtain ⟨vs, r2, q2⟩ := conAll_ok ds us h.2
    exact ⟨v :: vs, .cons r1 r2, fun m H => .cons (q1 m H) (q2 m H)⟩
end
/-- a module's name holds a constant -/
structure Con (K : PySem.W.Frag) (mg : Str → Option Value) (x : Str) (d : D) : Prop where
  ex : ∃ u v, mg x = some u ∧ RelV v u ∧ ∀ m H, RD K m H d v
theorem ex_con {X : Cx} {W : WX} {x : Str} {d : D} {pos : Pos} (c : Con X.K X.mg x d) (hg : Gl X x := by rfl) (hd : (x == ("__debug__" : Str)) = false := by decide) : Ex X W (.Name x pos) (eC d) := by
  obtain ⟨u, v, hm, r, rd⟩ := c.ex
  exact ex_glob hg hm r rd hd
/-- further facts of the top -/
inductive Fx where
  /-- a built-in function by a name of the module's -/
  | blt (x : Str) (id : String)
  /-- a constant -/
  | con (x : Str) (d : D)
def Fx.ok (K : PySem.W.Frag) : Fx → Bool
  | .blt x id => (match PySem.W.nsIn K mainGlobals x with
    | some (some (.builtin j)) => decide (j = id)
    | _ => false)
  | .con x d => (match PySem.W.nsIn K mainGlobals x with
    | some (some u) => conB K d u
    | _ => false)
section
variable {K : PySem.W.Frag} {h : Heap} {mg : Str → Option Value}
theorem blt_ok (X : K.In h) (G : h.Ns mainGlobals mg) {x : Str} {id : String} (c : (Fx.blt x id).ok K = true) : mg x = some (.builtin id) := by
  have c : (match PySem.W.nsIn K mainGlobals x with
    | some (some (.builtin j)) => decide (j = id)
    | _ => false) = true := c
  split at c
  · rename_i j e
    rw [PySem.W.mg_of X G e, of_decide_eq_true c]
  · cases c
theorem con_ok (X : K.In h) (G : h.Ns mainGlobals mg) {x : Str} {d : D} (c : (Fx.con x d).ok K = true) : Con K mg x d := by
  have c : (match PySem.W.nsIn K mainGlobals x with
    | some (some u) => conB K d u
    | _ => false) = true := c
  split at c
  · rename_i u e
    obtain ⟨v, r, q⟩ := conB_ok d u c
    exact ⟨u, v, PySem.W.mg_of X G e, r, q⟩
  · cases c
end
/-! ### the Hook -/
def obsM (fa : List He.Fa) (fx : List Fx) (fn : List He.DefD) (K : PySem.W.Frag) : He.AlD := (((fa.all fun f => f.ok K) && fx.all fun f => f.ok K) && fn.all fun d => d.ok K, fn.map fun d => He.fnW K d.at_)
def SaysM (fa : List He.Fa) (fx : List Fx) (fn : List He.DefD) (K : PySem.W.Frag) : Prop := obsM fa fx fn K = He.valD fn
def obsMG (n : Nat) (fa : List He.Fa) (fx : List Fx) (fn : List He.DefD) (g : Addr → Option Obj) : He.AlD := obsM fa fx fn (He.frG g (He.asD g n))
def hookM (n : Nat) (fa : List He.Fa) (fx : List Fx) (fn : List He.DefD) : PySem.W.Hook where
  α := He.AlD
  obs := fun s => obsMG n fa fx fn s.heap.get?
  val := fun _ => He.valD fn
  says := fun _ h => ∃ K : PySem.W.Frag, K.In h ∧ SaysM fa fx fn K
  of := fun _ _ e => ⟨_, He.frG_in, e⟩
  keeps := fun _ _ _ ⟨K, hK, c⟩ k => ⟨K, PySem.W.Frag.In.keeps hK k, c⟩
theorem obsMG_eq {n : Nat} {fa : List He.Fa} {fx : List Fx} {fn : List He.DefD} {g : Addr → Option Obj} {s : Shared} (h : ∀ a, g a = s.heap.get? a) : obsMG n fa fx fn g = (hookM n fa fx fn).obs s := by
  have e : g = s.heap.get? := funext h
  rw [e] <;> rfl
section
variable {fa : List He.Fa} {fx : List Fx} {fn : List He.DefD} {K : PySem.W.Frag}
theorem SaysM.fact (c : SaysM fa fx fn K) (i : Nat) {f : He.Fa} (h : fa[i]? = some f := by rfl) : f.ok K = true := by
  have c1 := (He.ba (He.ba (show (((fa.all fun f => f.ok K) && fx.all fun f => f.ok K) && fn.all fun d => d.ok K) = true from congrArg (fun z : He.AlD => z.1) c)).1).1
  exact List.all_eq_true.mp c1 f (List.mem_of_getElem? h)
theorem SaysM.more (c : SaysM fa fx fn K) (i : Nat) {f : Fx} (h : fx[i]? = some f := by rfl) : f.ok K = true := by
  have c1 := (He.ba (He.ba (show (((fa.all fun f => f.ok K) && fx.all fun f => f.ok K) && fn.all fun d => d.ok K) = true from congrArg (fun z : He.AlD => z.1) c)).1).2
  exact List.all_eq_true.mp c1 f (List.mem_of_getElem? h)
theorem SaysM.def_ (c : SaysM fa fx fn K) (i : Nat) {d : He.DefD} (h : fn[i]? = some d := by rfl) : ∃ fd, FunD K d.name d.qual d.params d.body d.scope (d.dvs K) (d.kws K) (He.fAd K d.at_) fd := by
  have c2 := (He.ba (show (((fa.all fun f => f.ok K) && fx.all fun f => f.ok K) && fn.all fun d => d.ok K) = true from congrArg (fun z : He.AlD => z.1) c)).2
  have e : fn.map (fun d => He.fnW K d.at_) = fn.map He.DefD.val := congrArg (fun z : He.AlD => z.2) c
  have e2 : (fn.map fun d => He.fnW K d.at_)[i]? = (fn.map He.DefD.val)[i]? := by rw [e]
  rw [List.getElem?_map, List.getElem?_map, h] at e2
  exact He.DefD.funD (Option.some.inj e2) (List.all_eq_true.mp c2 d (List.mem_of_getElem? h))
end
/-! ### the law's end -/
/-- where nothing may be let out -/
theorem FnM.shut {P : Program} {w : World} {K : PySem.W.Frag} {mg : Str → Option Value} {base : Heap} {k : Nat} {f : Addr} {fd : FuncData} {ps : List Str} {mf : FM} (F : FnM P w K mg base k f fd ps mf) :
    FnOk P w K mg base CX0 k f fd ps (fun vs H Q _ => spM ⟨K, w⟩ ps.length mf vs H Q fun _ _ _ => False) where
  len := fun vs H Q E h => F.len vs H Q _ h
  run := fun A outer s H args us vs Q E hr e0 hb hv h => by
    refine codeAny_mono (F.run A outer s H args us vs Q _ hr e0 hb hv h) fun r s' hq => ?_
    cases r with
    | error e =>
      obtain ⟨_, _, _, _, _, _, _, _, _, _, _, _, z⟩ := (hq : L2.CX P w outer H s (fun _ _ _ => False) e s')
      exact z.elim
    | ok fl => cases fl <;> exact hq
end HM

/-! HM, part 10: methods of lists and texts, in, slices, sums. -/
namespace HM
open PySem PySem.Spec PyProof.Rows L2
section
variable {X : Cx} {W : WX} {e o a b c : Expr} {es : List Expr} {pos p : Pos} {f fo fa fb : EM D} {fs : EM (List D)}
theorem _root_.L2.Room.units65 {k : Nat} {A : Around} (r : Room k A) : A.units + 65 < cLine := by have := r.un; omega
theorem below_line {n : Nat} (h : n < 16777216) : n < sizeLine := by
  rw [PySem.sizeLine_eq]
  exact h
/-! ### methods -/
abbrev MM := D → FM
def MethM (X : Cx) (id : String) (g : MM) : Prop :=
  ∃ r, MtR X id r ∧ ∀ (m : List Addr) (st : Store) (H : Hp) (d : D) (v : V) (ds : List D) (vs : List V) (E : XK) (Q : VK), SS X.kw m st H → RD X.K m H d v → RDs X.K m H ds vs → Pe X.kw E (RD X.K) m H (g d ds st) Q → r v vs H Q
def okT (T : String) (st : Store) (d : D) : Bool := match d with
  | .str _ => decide (T = "str")
  | .tup _ => decide (T = "tuple")
  | .rol _ => decide (T = "list")
  | .ref n => decide (T = "list") && (lstAt st n).isSome
  | _ => false
theorem okT_ty {K : KW} {m : List Addr} {st : Store} {H : Hp} {d : D} {v : V} {T : String} (s : SS K m st H) (h : okT T st d = true) (r : RD K m H d v) : tyP K T v H := by
  cases r with
  | str x =>
    have q : T = "str" := of_decide_eq_true h
    exact .inl q
  | tup q rs =>
    have q0 : T = "tuple" := of_decide_eq_true h
    rcases q with ⟨o, hd, q⟩ | ⟨o, its, n, q1, q2, q3, _⟩
    · exact .inr ⟨q0, _, o, _, rfl, q, hd⟩
    · exact .inl (.inr (.inl ⟨q0, o, q1, q2, q3⟩))
  | rol q rs => exact .inl (.inl ⟨of_decide_eq_true h, _, q.sq⟩)
  | ref q =>
    have h : (decide (T = "list") && (lstAt st _).isSome) = true := h
    rw [Bool.and_eq_true] at h
    obtain ⟨xs, e⟩ := Option.isSome_iff_exists.mp h.2
    obtain ⟨vs, h1, h2⟩ := s.list e q
    exact .inl (.inl ⟨of_decide_eq_true h.1, _, SqL.of h1⟩)
  | _ => cases h
def eM (T : String) (g : MM) (fo : EM D) (fs : EM (List D)) : EM D := fun τ st => (fo τ st).bind fun d s1 => if okT T s1 d then (fs τ s1).bind fun ds s2 => g d ds s2 else .bad
theorem ex_m {name : Str} {apos cpos : Pos} {T id : String} {g : MM} (pa : PlainAttrs T) (slot : Slot T name id) (hty : typeOf (.builtin id) = pure (.type "method_descriptor")) (hm : MethM X id g) (ho : Ex X W o fo) (ha : Ea X W (e :: es) fs)
    (hbase : attributeBase o name X.env (eval o X.env) = eval o X.env := by rfl)
    (hfew : ((backTo cpos (starEach (e :: es) X.env)).all (fun x => !x.1) && (backToKw cpos (keywordEach [] X.env)).all (fun x => x.1.isSome)
      && decide ((e :: es).length + ([] : List Keyword).length + (if ([] : List Keyword).isEmpty then 0 else 1) < 30)) = true := by rfl)
    (hline : (apos.endLine == cpos.line) = true := by rfl) (hs : starEach (e :: es) X.env = (false, eval e X.env) :: starEach es X.env := by rfl) (hplain : (backTo cpos (starEach es X.env)).any (·.1) = false := by rfl) :
    Ex X W (.Call (.Attribute o name apos) (e :: es) [] cpos) (eM T g fo fs) := by
  obtain ⟨r, hr, h⟩ := hm
  refine ⟨fun m τ st σ H Q hL hS hP pins s I => (pe_bmP pa slot hty hr peW paW hbase hfew hline hs hplain).run pins s σ H Q I ?_⟩
  refine ho.run m τ st σ H _ hL hS (hP.bind fun d s1 m1 H1 v e1 hS1 r1 hP1 => ?_)
  split at hP1
  · rename_i hk
    exact ⟨okT_ty hS1 hk r1, ha.run m1 τ s1 σ H1 _ (hL.mono e1) hS1 (hP1.bind fun ds s2 m2 H2 vs e2 hS2 r2 hP2 => h m2 s2 H2 d v ds vs _ Q hS2 (r1.mono e2) r2 hP2)⟩
  · exact hP1.elim
theorem ex_m0 {name : Str} {apos cpos : Pos} {T id : String} {g : MM} (pa : PlainAttrs T) (slot : Slot T name id) (hty : typeOf (.builtin id) = pure (.type "method_descriptor")) (hm : MethM X id g) (ho : Ex X W o fo)
    (hbase : attributeBase o name X.env (eval o X.env) = eval o X.env := by rfl) (hline : (apos.endLine == cpos.line) = true := by rfl) :
    Ex X W (.Call (.Attribute o name apos) [] [] cpos) (eM T g fo aNil) := by
  obtain ⟨r, hr, h⟩ := hm
  refine ⟨fun m τ st σ H Q hL hS hP pins s I => (pe_bm0P pa slot hty hr peW hbase hline).run pins s σ H Q I ?_⟩
  refine ho.run m τ st σ H _ hL hS (hP.bind fun d s1 m1 H1 v e1 hS1 r1 hP1 => ?_)
  split at hP1
  · rename_i hk
    exact ⟨okT_ty hS1 hk r1, h m1 s1 H1 d v [] [] _ Q hS1 r1 .nil hP1⟩
  · exact hP1.elim
def mAppend : MM := fun d ds st => match d, ds with
  | .ref n, [x] => match lstAt st n with
    | some xs => if xs.length < 16777216 then .ok .non (st.set n (.lst (xs ++ [x]))) else .bad
    | none => .bad
  | _, _ => .bad
theorem me_append : MethM X "list.append" mAppend := ⟨_, mt_append, fun m st H d v ds vs E Q hS r rs hP => by
  unfold mAppend at hP
  split at hP
  · split at hP
    · rename_i xs hx
      split at hP
      · rename_i hl
        cases r with
        | ref q =>
          obtain ⟨us, h1, h2⟩ := hS.list hx q
          obtain ⟨u, rfl, ru⟩ := rs.one
          exact ⟨_, us, u, rfl, rfl, h1, below_line (by rw [← h2.len]; exact hl), hP m _ _ (Ext.write h1 q) (hS.write h1 q (h2.append (.cons ru .nil))) .non⟩
      · exact hP.elim
    · exact hP.elim
  · exact hP.elim⟩
def mExtend : MM := fun d ds st => match d, ds with
  | .ref n, [.ref k] => match lstAt st n, lstAt st k with
    | some xs, some ys => if xs.length + ys.length ≤ 16777216 then .ok .non (st.set n (.lst (xs ++ ys))) else .bad
    | _, _ => .bad
  | _, _ => .bad
theorem me_extend : MethM X "list.extend" mExtend := ⟨_, mt_extend, fun m st H d v ds vs E Q hS r rs hP => by
  unfold mExtend at hP
  split at hP
  · split at hP
    · rename_i xs ys hx hy
      split at hP
      · rename_i hl
        obtain ⟨u, rfl, ru⟩ := rs.one
        cases r with
        | ref q =>
          cases ru with
          | ref q' =>
            obtain ⟨us, h1, h2⟩ := hS.list hx q
            obtain ⟨ws, h3, h4⟩ := hS.list hy q'
            exact ⟨_, _, us, ws, rfl, rfl, h1, h3, line_of (by rw [← h2.len, ← h4.len]; exact hl), hP m _ _ (Ext.write h1 q) (hS.write h1 q (h2.append h4)) .non⟩
      · exact hP.elim
    · exact hP.elim
  · exact hP.elim⟩
def mPop : MM := fun d ds st => match d, ds with
  | .ref n, [] => match lstAt st n with
    | some xs => match xs[xs.length - 1]? with
      | some y => .ok y (st.set n (.lst xs.dropLast))
      | none => .bad
    | none => .bad
  | _, _ => .bad
theorem me_pop : MethM X "list.pop" mPop := ⟨_, mt_pop, fun m st H d v ds vs E Q hS r rs hP => by
  unfold mPop at hP
  split at hP
  · split at hP
    · rename_i xs hx
      split at hP
      · rename_i y hy
        cases r with
        | ref q =>
          obtain ⟨us, h1, h2⟩ := hS.list hx q
          cases rs
          rw [h2.len] at hy
          obtain ⟨u, hu, ru⟩ := h2.get hy
          have e := Ext.write (K := X.K) (o := .lst us.dropLast) h1 q
          exact ⟨_, us, u, rfl, rfl, h1, hu, hP m _ _ e (hS.write h1 q h2.dropLast) (ru.mono e)⟩
      · exact hP.elim
    · exact hP.elim
  · exact hP.elim⟩
def okIx (i : Int) : Bool := decide (i.natAbs < 9223372036854775808)
theorem okIx_ok {i : Int} (h : okIx i = true) : -(2 ^ 63) ≤ i ∧ i < 2 ^ 63 := by
  have q : i.natAbs < 9223372036854775808 := of_decide_eq_true h
  have q' : -9223372036854775808 ≤ i ∧ i < 9223372036854775808 := by omega
  exact q'
def mPopAt : MM := fun d ds st => match d, ds with
  | .ref n, [.int i] => match lstAt st n with
    | some xs => match seqIndex? i xs.length with
      | some k => match xs[k]? with
        | some y => if okIx i then .ok y (st.set n (.lst (xs.eraseIdx k))) else .bad
        | none => .bad
      | none => .bad
    | none => .bad
  | _, _ => .bad
theorem me_popAt : MethM X "list.pop" mPopAt := ⟨_, mt_popAt, fun m st H d v ds vs E Q hS r rs hP => by
  unfold mPopAt at hP
  split at hP
  · split at hP
    · rename_i xs hx
      split at hP
      · rename_i k hk
        split at hP
        · rename_i y hy
          split at hP
          · rename_i hi
            obtain ⟨w, rfl, rw'⟩ := rs.one
            cases rw'
            cases r with
            | ref q =>
              obtain ⟨us, h1, h2⟩ := hS.list hx q
              obtain ⟨u, hu, ru⟩ := h2.get hy
              have e := Ext.write (K := X.K) (o := .lst (us.eraseIdx k)) h1 q
              exact ⟨_, us, _, k, u, rfl, rfl, h1, (okIx_ok hi).1, (okIx_ok hi).2, by rw [← h2.len]; exact hk, hu, hP m _ _ e (hS.write h1 q (h2.erase k)) (ru.mono e)⟩
          · exact hP.elim
        · exact hP.elim
      · exact hP.elim
    · exact hP.elim
  · exact hP.elim⟩
def mInsert : MM := fun d ds st => match d, ds with
  | .ref n, [.int i, y] => match lstAt st n with
    | some xs => if decide (0 ≤ i) && okIx i && decide (xs.length < 16777216) then .ok .non (st.set n (.lst (xs.take i.toNat ++ [y] ++ xs.drop i.toNat))) else .bad
    | none => .bad
  | _, _ => .bad
theorem me_insert : MethM X "list.insert" mInsert := ⟨_, mt_insert, fun m st H d v ds vs E Q hS r rs hP => by
  unfold mInsert at hP
  split at hP
  · split at hP
    · rename_i xs hx
      split at hP
      · rename_i hc
        simp only [Bool.and_eq_true, decide_eq_true_eq] at hc
        obtain ⟨w, u, rfl, rw', ru⟩ := rs.two
        cases rw'
        cases r with
        | ref q =>
          obtain ⟨us, h1, h2⟩ := hS.list hx q
          exact ⟨_, us, _, u, rfl, rfl, h1, below_line (by rw [← h2.len]; exact hc.2), hc.1.1, (okIx_ok hc.1.2).2, hP m _ _ (Ext.write h1 q) (hS.write h1 q (((h2.take _).append (.cons ru .nil)).append (h2.drop _))) .non⟩
      · exact hP.elim
    · exact hP.elim
  · exact hP.elim⟩
/-! ### in -/
def D.flat : D → Bool
  | .non => true
  | .bl _ => true
  | .int _ => true
  | .str _ => true
  | _ => false
def eqF : D → D → Bool
  | .non, .non => true
  | .bl a, .bl b => a == b
  | .bl a, .int b => (if a then 1 else 0) == b
  | .int a, .bl b => a == (if b then 1 else 0)
  | .int a, .int b => decide (a = b)
  | .str a, .str b => decide (a = b)
  | _, _ => false
theorem flat_V {K : PySem.W.Frag} {m : List Addr} {H : Hp} {d : D} {v : V} (r : RD K m H d v) (h : d.flat = true) : flatV v = true := by
  cases r <;> first | rfl | cases h
theorem flats_V {K : PySem.W.Frag} {m : List Addr} {H : Hp} : ∀ {ds : List D} {vs : List V}, RDs K m H ds vs → ds.all D.flat = true → vs.all flatV = true
  | [], _, .nil, _ => rfl
  | d :: ds, _, .cons r rs, h => by
    rw [List.all_cons, Bool.and_eq_true] at h ⊢
    exact ⟨flat_V r h.1, flats_V rs h.2⟩
theorem eqF_V {K : PySem.W.Frag} {m : List Addr} {H : Hp} {d e : D} {v u : V} (r : RD K m H d v) (r' : RD K m H e u) (h : d.flat = true) (h' : e.flat = true) : eqV v u = eqF d e := by
  cases r with
  | non => cases r' <;> first | rfl | cases h'
  | bl b => cases r' <;> first | rfl | cases h'
  | int i =>
    cases r' with
    | int j =>
      show (i == j) = decide (i = j)
      rw [Bool.eq_iff_iff]
      simp
    | _ => first | rfl | cases h'
  | str x =>
    cases r' with
    | str y =>
      show ((⟨x.toArray⟩ : Str) == (⟨y.toArray⟩ : Str)) = decide (x = y)
      rw [Bool.eq_iff_iff]
      simp
    | _ => first | rfl | cases h'
  | _ => cases h
theorem inV_D {K : PySem.W.Frag} {m : List Addr} {H : Hp} {d : D} {v : V} (r : RD K m H d v) (h : d.flat = true) : ∀ {ds : List D} {vs : List V}, RDs K m H ds vs → ds.all D.flat = true → inV v vs = ds.any fun y => eqF y d
  | [], _, .nil, _ => rfl
  | e :: ds, _, .cons r' rs, h' => by
    rw [List.all_cons, Bool.and_eq_true] at h'
    have := inV_D r h rs h'.2
    unfold inV at this ⊢
    rw [List.any_cons, List.any_cons, this, eqF_V r' r h'.1 h]
def rInT (K : PySem.W.Frag) (neg : Bool) : R2 := fun x y H Q => ∃ d ds, Dp K H x d ∧ Dp K H y (.tuple ds) ∧ SeqAt.shaped d = true ∧ SeqAt.shaped (.tuple ds) = true ∧ Q (.bl (if neg then !(ds.any fun z => PyData.eqv z d) else ds.any fun z => PyData.eqv z d)) H
theorem op_inT (hu : X.A.units + 65 < cLine) : OpR X (compareOp .In) (rInT X.K false) := by
  intro pins s σ H x y v u Q I rx ry h
  obtain ⟨d, ds, hd, he, sd, se, q⟩ := h
  obtain ⟨as, r1⟩ := Dp.reads I d x v hd rx
  obtain ⟨bs, r2⟩ := Dp.reads I (.tuple ds) y u he ry
  exact SeqAt.in_tuple_reads r2 r1 (SeqAt.canLay_of_shaped se) (SeqAt.canLay_of_shaped sd) (room_in_shaped sd hu) ⟨.bl _, H, I, rfl, q⟩
theorem op_notInT (hu : X.A.units + 65 < cLine) : OpR X (compareOp .NotIn) (rInT X.K true) := by
  intro pins s σ H x y v u Q I rx ry h
  obtain ⟨d, ds, hd, he, sd, se, q⟩ := h
  obtain ⟨as, r1⟩ := Dp.reads I d x v hd rx
  obtain ⟨bs, r2⟩ := Dp.reads I (.tuple ds) y u he ry
  exact SeqAt.notIn_tuple_reads r2 r1 (SeqAt.canLay_of_shaped se) (SeqAt.canLay_of_shaped sd) (room_in_shaped sd hu) ⟨.bl _, H, I, rfl, q⟩
/-- is it among flat ones, one sign in a text, among data of any depth -/
def dInS (x y : D) (st : Store) : Option Bool := match x, y with
  | .str [c], .str z => some (decide (c ∈ z))
  | x, y => match dSeq st y with
    | some ys => if x.flat && ys.all D.flat then some (ys.any fun y => eqF y x) else if x.plain 59 && ys.all (D.plain 59) then some (decide (x ∈ ys)) else none
    | none => none
def oInS : O2 := fun x y st => match dInS x y st with
  | some b => .ok (.bl b) st
  | none => .bad
def oNotInS : O2 := fun x y st => match dInS x y st with
  | some b => .ok (.bl !b) st
  | none => .bad
theorem any_plain {n : Nat} {x : D} (hx : x.plain n = true) : ∀ {ys : List D}, ys.all (D.plain n) = true → ((ys.map (D.toP n)).any fun z => PyData.eqv z (x.toP n)) = decide (x ∈ ys)
  | [], _ => by simp
  | y :: ys, h => by
    rw [List.all_cons, Bool.and_eq_true] at h
    rw [List.map_cons, List.any_cons, any_plain hx h.2, eqv_plain n y x h.1 hx]
    simp [List.mem_cons, eq_comm]
theorem m_inB {op : CmpOp} {neg : Bool} {r1 r2 r3 r4 : R2} (h1 : OpR X (compareOp op) r1) (h2 : OpR X (compareOp op) r2) (h3 : OpR X (compareOp op) r3) (h4 : OpR X (compareOp op) r4)
    (s1 : ∀ (c : Nat) (z : Str) H Q, Q (.bl (if neg then !decide (c ∈ z.cps.toList) else decide (c ∈ z.cps.toList))) H → r1 (.str ⟨#[c]⟩) (.str z) H Q)
    (s2 : ∀ x y H Q, rIn X.K neg x y H Q → r2 x y H Q)
    (s3 : ∀ x y H Q d ds, Dp X.K H x d → Dp X.K H y (.list ds) → SeqAt.shaped d = true → SeqAt.shaped (.list ds) = true → Q (.bl (if neg then !(ds.any fun z => PyData.eqv z d) else ds.any fun z => PyData.eqv z d)) H → r3 x y H Q)
    (s4 : ∀ x y H Q d ds, Dp X.K H x d → Dp X.K H y (.tuple ds) → SeqAt.shaped d = true → SeqAt.shaped (.tuple ds) = true → Q (.bl (if neg then !(ds.any fun z => PyData.eqv z d) else ds.any fun z => PyData.eqv z d)) H → r4 x y H Q) :
    OpM X W (compareOp op) (fun x y st => match dInS x y st with
    | some b => .ok (.bl (if neg then !b else b)) st
    | none => .bad) := opm_of ((h1.or h2).or (h3.or h4)) fun m st H dx dy x y E Q hS ra rb hP => by
  have fin : ∀ {q : PyData}, q.canLay0 = true → q.depth ≤ 60 → SeqAt.shaped q = true := fun {q} h1 h2 => by
    unfold SeqAt.shaped
    rw [h1, Bool.true_and, decide_eq_true_eq]
    omega
  split at hP
  · rename_i b hb
    unfold dInS at hb
    split at hb
    · cases hb
      cases ra
      cases rb
      exact .inl (.inl (s1 _ _ _ _ (hP.now hS (.bl _))))
    · split at hb
      · rename_i ys hy
        split at hb
        · rename_i hf
          cases hb
          rw [Bool.and_eq_true] at hf
          obtain ⟨p, vs, rfl, q, rs⟩ := dSeq_read hS hy rb
          refine .inl (.inr (s2 _ _ _ _ ⟨p, vs, rfl, q.imp id PlT.sq, flat_V ra hf.1, flats_V rs hf.2, ?_⟩))
          rw [inV_D ra hf.1 rs hf.2]
          exact hP.now hS (.bl _)
        · split at hb
          · rename_i hf
            cases hb
            rw [Bool.and_eq_true] at hf
            obtain ⟨p, vs, rfl, q, rs⟩ := dSeq_read hS hy rb
            obtain ⟨a1, a2, a3⟩ := plain_dp 59 dx x hf.1 ra
            obtain ⟨b1, b2, b3⟩ := plain_all (plain_dp 59) ys vs hf.2 rs
            have e := any_plain hf.1 hf.2
            rcases q with q | q
            · refine .inr (.inl (s3 _ _ _ _ _ _ a1 (.lst q b1) (fin a2 (by omega)) (fin (by simpa only [PyData.canLay0] using b2) (by simp only [PyData.depth]; omega)) ?_))
              rw [e]
              exact hP.now hS (.bl _)
            · refine .inr (.inr (s4 _ _ _ _ _ _ a1 (.tup q.sq b1) (fin a2 (by omega)) (fin (by simpa only [PyData.canLay0] using b2) (by simp only [PyData.depth]; omega)) ?_))
              rw [e]
              exact hP.now hS (.bl _)
          · cases hb
      · cases hb
  · exact hP.elim
theorem m_inS (hu : X.A.units + 65 < cLine) : OpM X W (compareOp .In) oInS := m_inB (neg := false) op_in_sign op_in_seq (op_inD hu) (op_inT hu)
  (fun c z H Q h => ⟨c, z, rfl, rfl, h⟩) (fun x y H Q h => h) (fun x y H Q d ds h1 h2 h3 h4 q => ⟨d, ds, h1, h2, h3, h4, q⟩) (fun x y H Q d ds h1 h2 h3 h4 q => ⟨d, ds, h1, h2, h3, h4, q⟩)
theorem m_notinS (hu : X.A.units + 65 < cLine) : OpM X W (compareOp .NotIn) oNotInS := m_inB (neg := true) op_notIn_sign op_notIn_seq (op_notInD hu) (op_notInT hu)
  (fun c z H Q h => ⟨c, z, rfl, rfl, h⟩) (fun x y H Q h => h) (fun x y H Q d ds h1 h2 h3 h4 q => ⟨d, ds, h1, h2, h3, h4, q⟩) (fun x y H Q d ds h1 h2 h3 h4 q => ⟨d, ds, h1, h2, h3, h4, q⟩)
end
end HM

/-! HM, part 11: slices, sums, all and any, join, texts repeated, lcm. -/
namespace HM
open PySem PySem.Spec PyProof.Rows L2
section
variable {prog : Program} {w : World} {A : Around} {E : Value → Shared → Prop} {s : Shared}
theorem get_whole {t sl : Addr} {items : Array Value} {vl vu : Value} {lo hi : Option Int} {Q : Value → Shared → Prop} (ht : IsTup s.heap t items) (hs : s.heap.IsSliceOf sl vl vu .none) (pl : IsPart vl lo) (pu : IsPart vu hi)
    (h1 : HT.sIx items.size 0 lo = 0) (h2 : HT.sIx items.size items.size hi = items.size) (q : Q (.ref t) s) : wpAny (model prog w) A (getItem (.ref t) (.ref sl)) Q E s := by
  obtain ⟨ob, o1, o2, o3⟩ := id hs
  unfold getItem
  try with_reducible refine wpAny_holding ?_
  try refine wpAny_bind (wpAny_pure ?_)
  refine wpAny_bind (wpAny_sequenceKey ht.typeIs (by decide) ?_)
  refine wpAny_bind (wpAny_callSpecial?_slot (name := Str.ofString "__getitem__") ht.typeIs PyProof.Rows.slot_tuple_getitem (wpAny_call_entry PyProof.Rows.slot_tuple_getitem ht.typeIs entry_tuple_getitem ?_ (args_tuple_getitem _ _)))
  show wpAny _ _ (Builtin.Tuple.tupleItemsOf (.ref t) >>= _) _ _ s
  refine wpAny_bind (tupleItemsOf_ ht (wpAny_bind (wpAny_typeOf (T := "slice") ⟨ob, o1, o2⟩ ?_)))
  rw [if_pos (by decide)]
  refine wpAny_bind (HT.sliceApplied_gen hs pl pu ?_)
  have yes : (((HT.sIx items.size 0 lo : Nat) : Int) == 0 && (1 : Int) == 1 && (HT.sIx items.size items.size hi - HT.sIx items.size 0 lo) == items.size) = true := by
    rw [h1, h2]
    simp
  show wpAny _ _ (if (((HT.sIx items.size 0 lo : Nat) : Int) == 0 && (1 : Int) == 1 && (HT.sIx items.size items.size hi - HT.sIx items.size 0 lo) == items.size) = true then _ else _) _ _ s
  rw [if_pos yes]
  unfold Builtin.Tuple.tupleIsExact
  refine wpAny_bind (wpAny_bind (wpAny_typeOf ht.typeIs ?_))
  refine wpAny_pure ?_
  rw [if_pos (by decide)]
  first
    | exact wpAny_pure ⟨_, rfl, wpAny_pure q⟩
    | exact wpAny_bind (wpAny_rule (wpAny_pure ⟨_, rfl, wpAny_pure q⟩))
end
section
variable {X : Cx}
/-- the whole of a tuple is the tuple -/
def rSlW (K : PySem.W.Frag) : V → Option Int → Option Int → Hp → VK → Prop := fun x lo hi H Q => ∃ a xs, x = .ref a ∧ SqT K H a xs ∧ HT.sIx xs.length 0 lo = 0 ∧ HT.sIx xs.length xs.length hi = xs.length ∧ Q (.ref a) H
theorem sl_whole : SlR X (rSlW X.K) := by
  intro pins s σ H x v vl vu lo hi sl Q I rx hs pl pu h
  obtain ⟨a, xs, rfl, hx, h1, h2, q⟩ := h
  cases rx
  obtain ⟨its, r, ht, hz⟩ := I.tuple hx
  have e : its.toArray.size = xs.length := by rw [List.size_toArray, ← r.length]
  exact ⟨"tuple", _, PyProof.Rows.slot_tuple_getitem.lookup, ht.typeIs, get_whole ht hs pl pu (by rw [e]; exact h1) (by rw [e]; exact h2) ⟨.ref a, H, I, rfl, q⟩⟩
end
section
variable {X : Cx} {W : WX} {e o a b c : Expr} {es : List Expr} {pos p p2 : Pos} {f fo fa fb : EM D} {fs : EM (List D)}
/-! ### slices -/
def cutD {α : Type} (xs : List α) (lo hi : Option Int) : List α := (xs.drop (HT.sIx xs.length 0 lo)).take (HT.sIx xs.length xs.length hi - HT.sIx xs.length 0 lo)
theorem RDs.cut {K : PySem.W.Frag} {m : List Addr} {H : Hp} {ds : List D} {vs : List V} (r : RDs K m H ds vs) (lo hi : Option Int) : RDs K m H (cutD ds lo hi) (cutV vs lo hi) := by
  unfold cutD cutV
  rw [r.len]
  exact (r.drop _).take _
/-- a part of a slice -/
structure Eo (X : Cx) (W : WX) (e : Option Expr) (f : EM (Option Int)) : Prop where
  run : ∃ t : TO, PO X e t ∧ ∀ (m : List Addr) (τ : Sl) (st : Store) (σ : L2.St) (H : Hp) (Q : Option Int → Hp → Prop), SL X.K m H τ σ → SS X.kw m st H → Pe X.kw (fun c d H' => W c d σ H') (fun _ _ a b => a = b) m H (f τ st) Q → t σ H Q
def oNone : EM (Option Int) := fun _ st => .ok none st
def oSome (f : EM D) : EM (Option Int) := fun τ st => (f τ st).bind fun d s1 => match d with
  | .int i => .ok (some i) s1
  | _ => .bad
theorem eo_none : Eo X W none oNone := ⟨_, po_none, fun m τ st σ H Q hL hS hP => hP.now hS rfl⟩
theorem eo_some (h : Ex X W e f) : Eo X W (some e) (oSome f) := ⟨_, po_some peW, fun m τ st σ H Q hL hS hP => h.run m τ st σ H _ hL hS (hP.bind fun d s1 m1 H1 v e1 hS1 r1 hP1 => by
  split at hP1
  · cases r1
    exact ⟨_, rfl, hP1.now hS1 rfl⟩
  · exact hP1.elim)⟩
def dCut (d : D) (lo hi : Option Int) (st : Store) : ER D := match d with
  | .str z => if z.length ≤ 16777216 then .ok (.str (cutD z lo hi)) st else .bad
  | .tup xs => .ok (.tup (cutD xs lo hi)) st
  | .rol xs => .ok (.ref st.length) (st ++ [.lst (cutD xs lo hi)])
  | .ref n => match lstAt st n with
    | some xs => .ok (.ref st.length) (st ++ [.lst (cutD xs lo hi)])
    | none => .bad
  | _ => .bad
def eSl (f : EM D) (fl fh : EM (Option Int)) : EM D := fun τ st => (f τ st).bind fun d s1 => (fl τ s1).bind fun l s2 => (fh τ s2).bind fun h s3 => dCut d l h s3
theorem sl_all : SlR X (fun x lo hi H Q => rSlL X.K x lo hi H Q ∨ (rSlF X.K x lo hi H Q ∨ rSlW X.K x lo hi H Q) ∨ rSlS x lo hi H Q) := sl_list.or ((sl_tupF.or sl_whole).or sl_str)
theorem cutS_D (z : List Nat) (lo hi : Option Int) : cutS ⟨z.toArray⟩ lo hi = ⟨(cutD z lo hi).toArray⟩ := by
  unfold cutS cutD
  simp [PySem.Str.length]
theorem ex_sl {lo hi : Option Expr} {fl fh : EM (Option Int)} (he : Ex X W e f) (hl : Eo X W lo fl) (hh : Eo X W hi fh) : Ex X W (.Subscript e (.Slice lo hi none p2) pos) (eSl f fl fh) := by
  obtain ⟨tl, pl, hl⟩ := hl
  obtain ⟨th, ph, hh⟩ := hh
  refine ⟨fun m τ st σ H Q hL hS hP pins s I => (pe_slice sl_all peW pl ph).run pins s σ H Q I ?_⟩
  refine he.run m τ st σ H _ hL hS (hP.bind fun d s1 m1 H1 v e1 hS1 r1 hP1 => ?_)
  refine hl m1 τ s1 σ H1 _ (hL.mono e1) hS1 (hP1.bind fun l s2 m2 H2 l' e2 hS2 r2 hP2 => ?_)
  subst r2
  refine hh m2 τ s2 σ H2 _ ((hL.mono e1).mono e2) hS2 (hP2.bind fun h s3 m3 H3 h' e3 hS3 r3 hP3 => ?_)
  subst r3
  have r1 := (r1.mono e2).mono e3
  unfold dCut at hP3
  split at hP3
  · split at hP3
    · rename_i hz
      cases r1
      refine .inr (.inr ⟨_, rfl, line_of (by simpa [PySem.Str.length] using hz), ?_⟩)
      rw [cutS_D]
      exact hP3.now hS3 (.str _)
    · exact hP3.elim
  · rename_i ds _
    cases r1 with
    | @tup a vs _ q rs =>
      by_cases hw : HT.sIx vs.length 0 l = 0 ∧ HT.sIx vs.length vs.length h = vs.length
      · refine .inr (.inl (.inr ⟨_, _, rfl, q.sq, hw.1, hw.2, hP3.now hS3 ?_⟩))
        have e : cutD ds l h = ds := by
          unfold cutD
          rw [rs.len, hw.1, hw.2, List.drop_zero, Nat.sub_zero, ← rs.len]
          exact List.take_length
        rw [e]
        exact .tup q rs
      · exact .inr (.inl (.inl ⟨_, _, rfl, q.sq, hw, hP3.tup hS3 (rs.cut _ _)⟩))
  · cases r1 with
    | rol q rs => exact .inl ⟨_, _, rfl, q.sq, hP3.lst hS3 (rs.cut _ _)⟩
  · split at hP3
    · rename_i xs hx
      cases r1 with
      | ref q =>
        obtain ⟨vs, h1, h2⟩ := hS3.list hx q
        exact .inl ⟨_, vs, rfl, SqL.of h1, hP3.lst hS3 (h2.cut _ _)⟩
    · exact hP3.elim
  · exact hP3.elim
/-! ### sums -/
def intsD : List D → Option (List Int)
  | [] => some []
  | .int i :: ds => (intsD ds).map (i :: ·)
  | _ => none
theorem intsD_V {K : PySem.W.Frag} {m : List Addr} {H : Hp} : ∀ {ds : List D} {vs : List V} {ns : List Int}, RDs K m H ds vs → intsD ds = some ns → vs = ns.map V.int
  | [], _, _, .nil, h => by
    cases h
    rfl
  | d :: ds, _, ns, .cons r rs, h => by
    unfold intsD at h
    split at h
    · rename_i e
      cases e
    · rename_i i ds' e
      cases e
      cases r
      cases hz : intsD ds with
      | none =>
        rw [hz] at h
        cases h
      | some ks =>
        rw [hz] at h
        cases h
        rw [intsD_V rs hz]
        rfl
    · cases h
theorem intsD_map : ∀ ns : List Int, intsD (ns.map D.int) = some ns
  | [] => rfl
  | n :: ns => by
    rw [List.map_cons, intsD, intsD_map ns]
    rfl
def rSumT (K : PySem.W.Frag) : List V → Hp → VK → Prop := fun vs H Q => ∃ (a : Addr) (ns : List Int), vs = [V.ref a] ∧ SqT K H a (ns.map V.int) ∧ Q (.int ns.sum) H
theorem cr_sumT (hc : X.calm = true) : CallR X (.builtin "sum") (rSumT X.K) := by
  intro pins s σ H vs us Q I r h
  obtain ⟨a, ns, rfl, hs, q⟩ := h
  obtain ⟨its, rv, hl, _⟩ := I.tuple hs
  rw [Vals.ref1 r]
  have hi := rv.ints
  obtain ⟨xs, e⟩ := hi.allInts.items
  have hn : numsOf (intItems xs).toList = ns := by rw [← e]; exact hi.numsOf
  rw [nums_intItems] at hn
  obtain ⟨ob, ho, hcl, n, hd⟩ := hl
  have ht : s.heap.IsTuple a (intItems xs) := by
    rw [← e]
    exact ⟨ob, ho, hcl, n, hd⟩
  refine PySem.W.ktm_sumG (I.ok.hd hc) ht fun h' tk t' hk => ⟨.int _, H, I.kept hk, ⟨_, rfl⟩, ?_⟩
  rw [preSum_eq, List.take_of_length_le (by simp), hn]
  exact q
def gSum : SM1 := fun xs st => match intsD xs with
  | some ns => .ok (.int ns.sum) st
  | none => .bad
theorem s_sum (hc : X.calm = true) : CallS X (.builtin "sum") gSum := ⟨_, (cr_sum hc).or (cr_sumT hc), fun m st H ds v E Q hS r hP => by
  obtain ⟨a, vs, rfl, q, rs⟩ := r
  unfold gSum at hP
  split at hP
  · rename_i ns hn
    have e := intsD_V rs hn
    subst e
    rcases q with q | q
    · exact .inl ⟨a, ns, rfl, q, hP.now hS (.int _)⟩
    · exact .inr ⟨a, ns, rfl, q.sq, hP.now hS (.int _)⟩
  · exact hP.elim⟩
/-! ### of lists alone -/
def SqVL (K : PySem.W.Frag) (m : List Addr) (H : Hp) (ds : List D) (v : V) : Prop := ∃ a vs, v = .ref a ∧ SqL K H a vs ∧ RDs K m H ds vs
structure Esl (X : Cx) (W : WX) (e : Expr) (f : EM (List D)) : Prop where
  run : ∀ (m : List Addr) (τ : Sl) (st : Store) (σ : L2.St) (H : Hp) (Q : VK), SL X.K m H τ σ → SS X.kw m st H → Pe X.kw (fun c d H' => W c d σ H') (SqVL X.K) m H (f τ st) Q → wE X e σ H Q
theorem esl_el {fl : EM (List D)} (h : El X W e fl) : Esl X W e fl := by
  refine ⟨fun m τ st σ H Q hL hS hP => h.run m τ st σ H Q hL hS ?_⟩
  cases hq : fl τ st with
  | ok ds s1 =>
    rw [hq] at hP
    intro m1 H1 v e1 hS1 ⟨a, vs, e, ha, na, hn, rs⟩
    exact hP m1 H1 v e1 hS1 ⟨a, vs, e, SqL.of ha, rs⟩
  | exc x st' =>
    rw [hq] at hP
    exact hP
  | bad =>
    rw [hq] at hP
    exact hP.elim
def dSeqL (st : Store) : D → Option (List D)
  | .rol xs => some xs
  | .ref n => lstAt st n
  | _ => none
def sExL (f : EM D) : EM (List D) := fun τ st => (f τ st).bind fun d s1 => match dSeqL s1 d with
  | some xs => .ok xs s1
  | none => .bad
theorem esl_ex (h : Ex X W e f) : Esl X W e (sExL f) := by
  refine ⟨fun m τ st σ H Q hL hS hP => h.run m τ st σ H Q hL hS (hP.bind fun d s1 m1 H1 v e1 hS1 r1 hP1 => ?_)⟩
  split at hP1
  · rename_i xs hx
    cases r1 with
    | rol q rs =>
      cases hx
      exact hP1.now hS1 ⟨_, _, rfl, q.sq, rs⟩
    | ref q =>
      obtain ⟨vs, h1, h2⟩ := hS1.list hx q
      exact hP1.now hS1 ⟨_, vs, rfl, SqL.of h1, h2⟩
    | _ => cases hx
  · exact hP1.elim
def CallL (X : Cx) (fv : Value) (g : SM1) : Prop :=
  ∃ r, CallR X fv r ∧ ∀ (m : List Addr) (st : Store) (H : Hp) (ds : List D) (v : V) (E : XK) (Q : VK), SS X.kw m st H → SqVL X.K m H ds v → Pe X.kw E (RD X.K) m H (g ds st) Q → r [v] H Q
theorem ex_callBl {x : Str} {id : String} {g : SM1} {fl : EM (List D)} (hc : CallL X (.builtin id) g) (hg : Gl X x) (hm : X.mg x = none) (hv : bootBuiltins x = some (.builtin id)) (ha : Esl X W e fl) (hn : x ≠ "__name__" := by decide) (hdb : (x == ("__debug__" : Str)) = false := by decide)
    (he : starEach [e] X.env = (false, eval e X.env) :: starEach [] X.env := by rfl) (hpl : (backTo pos (starEach [] X.env)).any (·.1) = false := by rfl) : Ex X W (.Call (.Name x p) [e] [] pos) (eCS g fl) := by
  obtain ⟨r, hr, h⟩ := hc
  refine ⟨fun m τ st σ H Q hL hS hP pins s I => (pe_callB hr hg hm hv (pa_cons peW pa_nil he) hn hdb he hpl).run pins s σ H Q I ?_⟩
  exact ha.run m τ st σ H _ hL hS (hP.bind fun ds s1 m1 H1 v e1 hS1 r1 hP1 => h m1 s1 H1 ds v _ Q hS1 r1 hP1)
def blsD : List D → Option (List Bool)
  | [] => some []
  | .bl i :: ds => (blsD ds).map (i :: ·)
  | _ => none
theorem blsD_V {K : PySem.W.Frag} {m : List Addr} {H : Hp} : ∀ {ds : List D} {vs : List V} {ns : List Bool}, RDs K m H ds vs → blsD ds = some ns → vs = ns.map V.bl
  | [], _, _, .nil, h => by
    cases h
    rfl
  | d :: ds, _, ns, .cons r rs, h => by
    unfold blsD at h
    split at h
    · rename_i e
      cases e
    · rename_i i ds' e
      cases e
      cases r
      cases hz : blsD ds with
      | none =>
        rw [hz] at h
        cases h
      | some ks =>
        rw [hz] at h
        cases h
        rw [blsD_V rs hz]
        rfl
    · cases h
theorem blsD_map : ∀ ns : List Bool, blsD (ns.map D.bl) = some ns
  | [] => rfl
  | n :: ns => by
    rw [List.map_cons, blsD, blsD_map ns]
    rfl
def gAllB : SM1 := fun xs st => match blsD xs with
  | some bs => .ok (.bl (bs.all id)) st
  | none => .bad
def gAnyB : SM1 := fun xs st => match blsD xs with
  | some bs => .ok (.bl (bs.any id)) st
  | none => .bad
theorem s_all (hc : X.calm = true) : CallL X (.builtin "all") gAllB := ⟨_, cr_all hc, fun m st H ds v E Q hS r hP => by
  obtain ⟨a, vs, rfl, q, rs⟩ := r
  unfold gAllB at hP
  split at hP
  · rename_i ns hn
    have e := blsD_V rs hn
    subst e
    exact ⟨a, ns, rfl, q, hP.now hS (.bl _)⟩
  · exact hP.elim⟩
theorem s_any (hc : X.calm = true) : CallL X (.builtin "any") gAnyB := ⟨_, cr_any hc, fun m st H ds v E Q hS r hP => by
  obtain ⟨a, vs, rfl, q, rs⟩ := r
  unfold gAnyB at hP
  split at hP
  · rename_i ns hn
    have e := blsD_V rs hn
    subst e
    exact ⟨a, ns, rfl, q, hP.now hS (.bl _)⟩
  · exact hP.elim⟩
def maxI : List Int → Option Int
  | [] => none
  | n :: ns => some (ns.foldl max n)
def minI : List Int → Option Int
  | [] => none
  | n :: ns => some (ns.foldl min n)
theorem foldl_max_ge : ∀ (ns : List Int) (n : Int), n ≤ ns.foldl max n ∧ (∀ y ∈ ns, y ≤ ns.foldl max n) ∧ (ns.foldl max n = n ∨ ns.foldl max n ∈ ns)
  | [], n => ⟨Int.le_refl _, by simp, .inl rfl⟩
  | k :: ns, n => by
    obtain ⟨h1, h2, h3⟩ := foldl_max_ge ns (max n k)
    rw [List.foldl_cons]
    refine ⟨Int.le_trans (Int.le_max_left n k) h1, fun y hy => ?_, ?_⟩
    · rcases List.mem_cons.mp hy with rfl | hy
      · exact Int.le_trans (Int.le_max_right n y) h1
      · exact h2 y hy
    · rcases h3 with h3 | h3
      · rw [h3]
        rcases Int.le_total n k with h | h
        · rw [Int.max_eq_right h]
          exact .inr (List.mem_cons_self ..)
        · rw [Int.max_eq_left h]
          exact .inl rfl
      · exact .inr (List.mem_cons_of_mem _ h3)
theorem foldl_min_le : ∀ (ns : List Int) (n : Int), ns.foldl min n ≤ n ∧ (∀ y ∈ ns, ns.foldl min n ≤ y) ∧ (ns.foldl min n = n ∨ ns.foldl min n ∈ ns)
  | [], n => ⟨Int.le_refl _, by simp, .inl rfl⟩
  | k :: ns, n => by
    obtain ⟨h1, h2, h3⟩ := foldl_min_le ns (min n k)
    rw [List.foldl_cons]
    refine ⟨Int.le_trans h1 (Int.min_le_left n k), fun y hy => ?_, ?_⟩
    · rcases List.mem_cons.mp hy with rfl | hy
      · exact Int.le_trans h1 (Int.min_le_right n y)
      · exact h2 y hy
    · rcases h3 with h3 | h3
      · rw [h3]
        rcases Int.le_total n k with h | h
        · rw [Int.min_eq_left h]
          exact .inl rfl
        · rw [Int.min_eq_right h]
          exact .inr (List.mem_cons_self ..)
      · exact .inr (List.mem_cons_of_mem _ h3)
def gMax : SM1 := fun xs st => match (intsD xs).bind maxI with
  | some n => .ok (.int n) st
  | none => .bad
def gMin : SM1 := fun xs st => match (intsD xs).bind minI with
  | some n => .ok (.int n) st
  | none => .bad
theorem s_max (hc : X.calm = true) : CallL X (.builtin "max") gMax := ⟨_, cr_max hc, fun m st H ds v E Q hS r hP => by
  obtain ⟨a, vs, rfl, q, rs⟩ := r
  unfold gMax at hP
  split at hP
  · rename_i k hk
    cases hn : intsD ds with
    | none =>
      rw [hn] at hk
      cases hk
    | some ns =>
      rw [hn] at hk
      have e := intsD_V rs hn
      subst e
      cases ns with
      | nil => cases hk
      | cons n ns =>
        have hk : some (ns.foldl max n) = some k := hk
        cases hk
        obtain ⟨h1, h2, h3⟩ := foldl_max_ge ns n
        refine ⟨a, n :: ns, rfl, q, by simp, fun mm hm hy => ?_⟩
        have e : mm = ns.foldl max n := by
          refine Int.le_antisymm ?_ ?_
          · rcases List.mem_cons.mp hm with rfl | hm
            · exact h1
            · exact h2 mm hm
          · rcases h3 with h3 | h3
            · rw [h3]
              exact hy n (List.mem_cons_self ..)
            · exact hy _ (List.mem_cons_of_mem _ h3)
        subst e
        exact hP.now hS (.int _)
  · exact hP.elim⟩
theorem s_min (hc : X.calm = true) : CallL X (.builtin "min") gMin := ⟨_, cr_min hc, fun m st H ds v E Q hS r hP => by
  obtain ⟨a, vs, rfl, q, rs⟩ := r
  unfold gMin at hP
  split at hP
  · rename_i k hk
    cases hn : intsD ds with
    | none =>
      rw [hn] at hk
      cases hk
    | some ns =>
      rw [hn] at hk
      have e := intsD_V rs hn
      subst e
      cases ns with
      | nil => cases hk
      | cons n ns =>
        have hk : some (ns.foldl min n) = some k := hk
        cases hk
        obtain ⟨h1, h2, h3⟩ := foldl_min_le ns n
        refine ⟨a, n :: ns, rfl, q, by simp, fun mm hm hy => ?_⟩
        have e : mm = ns.foldl min n := by
          refine Int.le_antisymm ?_ ?_
          · rcases h3 with h3 | h3
            · rw [h3]
              exact hy n (List.mem_cons_self ..)
            · exact hy _ (List.mem_cons_of_mem _ h3)
          · rcases List.mem_cons.mp hm with rfl | hm
            · exact h1
            · exact h2 mm hm
        subst e
        exact hP.now hS (.int _)
  · exact hP.elim⟩
/-! ### lcm -/
def rLcm : List V → Hp → VK → Prop := fun vs H Q => ∃ a b : Int, vs = [.int a, .int b] ∧ a.natAbs < 2 ^ 9000 ∧ b.natAbs < 2 ^ 9000 ∧ Q (.int ((Nat.lcm a.natAbs b.natAbs : Nat) : Int)) H
theorem log_of {n k : Nat} (h : n < 2 ^ k) (hk : 0 < k) : n.log2 < k := by
  by_cases z : n = 0
  · subst z
    rw [Nat.log2_zero]
    exact hk
  · exact (Nat.log2_lt z).mpr h
theorem cr_lcm : CallR X (.builtin "math.lcm") rLcm := by
  intro pins s σ H vs us Q I r h
  obtain ⟨a, b, rfl, h1, h2, q⟩ := h
  obtain ⟨t, u, rfl⟩ := Vals.int2 r
  have h0 : (1 : Nat) < 2 ^ 9000 := Nat.one_lt_two_pow (by decide)
  have l1 : (max 1 a.natAbs).log2 < 9000 := log_of (Nat.max_lt.mpr ⟨h0, h1⟩) (by decide)
  have l2 : (max a.natAbs b.natAbs).log2 < 9000 := log_of (Nat.max_lt.mpr ⟨h1, h2⟩) (by decide)
  have l3 : ((((Nat.lcm 1 a.natAbs).lcm b.natAbs : Nat) : Int)).natAbs.log2 < bitsLine := by
    rw [Int.natAbs_natCast, PySem.W.mc_lcm_one]
    have := PySem.W.mc_lcm_le a.natAbs b.natAbs
    have h3 : a.natAbs * b.natAbs < 2 ^ 18000 := by
      rw [show (18000 : Nat) = 9000 + 9000 from rfl, Nat.pow_add]
      exact Nat.mul_lt_mul'' h1 h2
    exact Nat.lt_trans (log_of (Nat.lt_of_le_of_lt this h3) (by decide)) (by decide)
  have g := (PySem.W.mg_run_lcm a t b u (by omega) (by omega) l3).meets
  refine PySem.call_function_meets PySem.W.MGF.kind_lcm PySem.W.MGF.plain_lcm PySem.W.MGF.entry_lcm (PySem.W.MGF.args_lcm _ _) g ?_
  rw [PySem.W.mc_lcm_one]
  exact ⟨.int _, H, I.tok _, ⟨_, rfl⟩, q⟩
def fLcm : FM := fun ds st => match ds with
  | [.int i, .int j] => if decide (i.natAbs < 2 ^ 9000) && decide (j.natAbs < 2 ^ 9000) then .ok (.int (Nat.lcm i.natAbs j.natAbs : Nat)) st else .bad
  | _ => .bad
theorem c_lcm : CallM X (.builtin "math.lcm") fLcm := ⟨_, cr_lcm, fun m st H ds vs E Q hS r hP => by
  unfold fLcm at hP
  split at hP
  · split at hP
    · rename_i hc
      rw [Bool.and_eq_true, decide_eq_true_eq, decide_eq_true_eq] at hc
      obtain ⟨v, u, rfl, r1, r2⟩ := r.two
      cases r1
      cases r2
      exact ⟨_, _, rfl, hc.1, hc.2, hP.now hS (.int _)⟩
    · exact hP.elim
  · exact hP.elim⟩
/-! ### texts: join, repeated -/
def strsD : List D → Option (List (List Nat))
  | [] => some []
  | .str x :: ds => (strsD ds).map (x :: ·)
  | _ => none
theorem strsD_V {K : PySem.W.Frag} {m : List Addr} {H : Hp} : ∀ {ds : List D} {vs : List V} {ns : List (List Nat)}, RDs K m H ds vs → strsD ds = some ns → vs = (ns.map fun x => (⟨x.toArray⟩ : Str)).map V.str
  | [], _, _, .nil, h => by
    cases h
    rfl
  | d :: ds, _, ns, .cons r rs, h => by
    unfold strsD at h
    split at h
    · rename_i e
      cases e
    · rename_i i ds' e
      cases e
      cases r
      cases hz : strsD ds with
      | none =>
        rw [hz] at h
        cases h
      | some ks =>
        rw [hz] at h
        cases h
        rw [strsD_V rs hz]
        rfl
    · cases h
theorem strsD_map : ∀ ns : List (List Nat), strsD (ns.map D.str) = some ns
  | [] => rfl
  | n :: ns => by
    rw [List.map_cons, strsD, strsD_map ns]
    rfl
end
end HM

/-! HM, part 12: texts joined, things repeated. -/
namespace HM
open PySem PySem.Spec PyProof.Rows L2 SX
section
variable {X : Cx} {W : WX} {e o a b c : Expr} {es : List Expr} {pos p p2 : Pos} {f fo fa fb : EM D} {fs : EM (List D)}
def joinD (a : List Nat) : List (List Nat) → List Nat
  | [] => []
  | [p] => p
  | p :: q :: r => p ++ (a ++ joinD a (q :: r))
theorem joinD_eq (a : List Nat) : ∀ ys : List (List Nat), TL.joinL a ys = joinD a ys
  | [] => rfl
  | [_] => rfl
  | p :: q :: r => by
    show p ++ (a ++ TL.joinL a (q :: r)) = p ++ (a ++ joinD a (q :: r))
    rw [joinD_eq a (q :: r)]
def mJoin : MM := fun d ds st => match d, ds with
  | .str a, [y] => match (dSeq st y).bind strsD with
    | some ys => if (ys.map List.length).sum + ys.length * a.length ≤ 16777216 then .ok (.str (joinD a ys)) st else .bad
    | none => .bad
  | _, _ => .bad
theorem me_join : MethM X "str.join" mJoin := ⟨_, mt_join, fun m st H d v ds vs E Q hS r rs hP => by
  unfold mJoin at hP
  split at hP
  · rename_i a y
    split at hP
    · rename_i ys hy
      split at hP
      · rename_i hl
        cases hq : dSeq st y with
        | none =>
          rw [hq] at hy
          cases hy
        | some zs =>
          rw [hq] at hy
          obtain ⟨u, rfl, ru⟩ := rs.one
          cases r
          obtain ⟨p, us, rfl, q, rs'⟩ := dSeq_read hS hq ru
          have e := strsD_V rs' hy
          subst e
          refine ⟨⟨a.toArray⟩, p, ys.map S, rfl, rfl, q.imp id PlT.sq, ?_, ?_⟩
          · rw [List.map_map, List.length_map]
            have e : (ys.map ((fun x : Str => x.length) ∘ S)) = ys.map List.length := List.map_congr_left fun x _ => S_len x
            rw [e]
            have e2 : (⟨a.toArray⟩ : Str).length = a.length := S_len a
            rw [e2]
            exact hl
          · have e := join_S a ys
            rw [joinD_eq] at e
            rw [e]
            exact hP.now hS (.str _)
      · exact hP.elim
    · exact hP.elim
  · exact hP.elim⟩
/-! ### * -/
def repD {α : Type} (k : Nat) (xs : List α) : List α := (List.replicate k xs).flatten
theorem foldl_app (x : Array Nat) : ∀ (k : Nat) (acc : Array Nat), (List.replicate k x).foldl (· ++ ·) acc = acc ++ ((List.replicate k x.toList).flatten).toArray
  | 0, acc => by simp
  | k + 1, acc => by
    rw [List.replicate_succ, List.foldl_cons, foldl_app x k, List.replicate_succ, List.flatten_cons]
    apply Array.ext'
    simp
theorem repD_len {α : Type} (k : Nat) (xs : List α) : (repD k xs).length = xs.length * k := by
  unfold repD
  induction k with
  | zero => simp
  | succ k ih =>
    rw [List.replicate_succ, List.flatten_cons, List.length_append, ih, Nat.mul_succ, Nat.add_comm]
theorem op_repS : OpR X (binaryOp .Mult) (fun x y H Q => ∃ (z : List Nat) (k : Int), x = .str (S z) ∧ y = .int k ∧ 2 ≤ k ∧ k ≤ 16777216 ∧ z.length * k.toNat ≤ 16777216 ∧ Q (.str (S (repD k.toNat z))) H) := by
  intro pins s σ H x y v u Q I rx ry h
  obtain ⟨z, k, rfl, rfl, h2, hz, hl, q⟩ := h
  obtain ⟨t, rfl⟩ := rx
  obtain ⟨t', rfl⟩ := ry
  have e1 : (S z).length = z.length := S_len z
  refine PySem.P.mul_str ?_ (fun _ h0 => ?_) (fun _ _ => ?_) ?_
  · have a1 : ¬ k < -(2 ^ 63 : Int) := by omega
    have a2 : ¬ k ≥ 2 ^ 63 := by
      have : (16777216 : Int) < 2 ^ 63 := by decide
      omega
    rw [decide_eq_false a1, decide_eq_false a2]
    rfl
  · rw [e1]
    have h3 : z.length ≤ 16777216 := by
      have : z.length * 1 ≤ z.length * k.toNat := Nat.mul_le_mul_left _ (by omega)
      omega
    have h4 : (16777216 : Int) ≤ (2 ^ 63 - 1) / k := by
      refine (Int.le_ediv_iff_mul_le (by omega)).mpr ?_
      have : (16777216 : Int) * k ≤ 16777216 * 16777216 := Int.mul_le_mul_of_nonneg_left (by omega) (by decide)
      have : (16777216 : Int) * 16777216 ≤ 2 ^ 63 - 1 := by decide
      omega
    omega
  · rw [e1]
    show decide (z.length * k.toNat > 2 ^ 24) = false
    exact decide_eq_false (by
      have : (2 : Nat) ^ 24 = 16777216 := rfl
      omega)
  · have n1 : ¬ k < 1 := by omega
    rw [if_neg n1]
    have a1 : (k == 1) = false := beq_false_of_ne (by omega)
    rw [a1, e1, Bool.false_or]
    by_cases h0 : z = []
    · subst h0
      have e : (S (repD k.toNat ([] : List Nat))) = S [] := by
        have := repD_len k.toNat ([] : List Nat)
        rw [List.length_nil, Nat.zero_mul] at this
        rw [List.length_eq_zero_iff.mp this]
      rw [e] at q
      rw [if_pos (show (([] : List Nat).length == 0) = true from rfl)]
      exact ⟨.str _, H, I, ⟨_, rfl⟩, q⟩
    · have zl : 0 < z.length := List.length_pos_iff.mpr h0
      have a2 : (z.length == 0) = false := beq_false_of_ne (by omega)
      rw [a2, if_neg Bool.false_ne_true]
      have e : (⟨(List.replicate k.toNat (S z).cps).foldl (· ++ ·) #[]⟩ : Str) = S (repD k.toNat z) := by
        rw [foldl_app]
        simp [repD]
      rw [e]
      refine ⟨?_, .str _, H, I.tok _, ⟨_, rfl⟩, q⟩
      rw [S_len, repD_len, PySem.sizeLine_eq]
      exact hl
def oMul : O2 := fun x y st => match x, y with
  | .int i, .int j => if okMul i j then .ok (.int (i * j)) st else .bad
  | .str z, .int k => if decide (2 ≤ k) && decide (k ≤ 16777216) && decide (z.length * k.toNat ≤ 16777216) then .ok (.str (repD k.toNat z)) st else .bad
  | .ref n, .int k => match lstAt st n with
    | some xs => if okIx k && decide (xs.length * k.toNat ≤ 16777216) then .ok (.ref st.length) (st ++ [.lst (repD k.toNat xs)]) else .bad
    | none => .bad
  | .tup xs, .int k => if decide (2 ≤ k) && decide (k ≤ 1000) && !xs.isEmpty && decide (xs.length ≤ 1000) then .ok (.tup (repD k.toNat xs)) st else .bad
  | _, _ => .bad
theorem RDs.rep {K : PySem.W.Frag} {m : List Addr} {H : Hp} {ds : List D} {vs : List V} (r : RDs K m H ds vs) : ∀ k : Nat, RDs K m H (repD k ds) (repD k vs)
  | 0 => .nil
  | k + 1 => by
    have := RDs.rep r k
    unfold repD at this ⊢
    rw [List.replicate_succ, List.replicate_succ, List.flatten_cons, List.flatten_cons]
    exact r.append this
theorem op_mulAll : OpR X (binaryOp .Mult) (fun x y H Q => ((rI IntMulOk fun i j => .int (i * j)) x y H Q ∨ (∃ (z : List Nat) (k : Int), x = .str (S z) ∧ y = .int k ∧ 2 ≤ k ∧ k ≤ 16777216 ∧ z.length * k.toNat ≤ 16777216 ∧ Q (.str (S (repD k.toNat z))) H)) ∨ (rRep x y H Q ∨ rRepF X.K x y H Q)) :=
  (op_mulAny.or op_repS).or (op_rep.or op_repF)
theorem m_mul : OpM X W (binaryOp .Mult) oMul := opm_of op_mulAll fun m st H dx dy x y E Q hS r1 r2 hP => by
  unfold oMul at hP
  split at hP
  · rename_i i j
    split at hP
    · rename_i hc
      cases r1
      cases r2
      have q : (i.natAbs < 18446744073709551616 ∨ j.natAbs < 18446744073709551616) ∨ i.natAbs.log2 + j.natAbs.log2 < 1000000 := of_decide_eq_true hc
      refine .inl (.inl ⟨_, _, rfl, rfl, ?_, hP.now hS (.int _)⟩)
      rcases q with (q | q) | q
      · exact CMul.ok (.inl (by omega))
      · exact CMul.ok (.inr (by omega))
      · exact CMulW.ok q
    · exact hP.elim
  · split at hP
    · rename_i hc
      simp only [Bool.and_eq_true, decide_eq_true_eq] at hc
      cases r1
      cases r2
      exact .inl (.inr ⟨_, _, rfl, rfl, hc.1.1, hc.1.2, hc.2, hP.now hS (.str _)⟩)
    · exact hP.elim
  · split at hP
    · rename_i xs hx
      split at hP
      · rename_i hc
        rw [Bool.and_eq_true, decide_eq_true_eq] at hc
        cases r1 with
        | ref q =>
          cases r2
          obtain ⟨vs, h1, h2⟩ := hS.list hx q
          exact .inr (.inl ⟨_, _, vs, rfl, rfl, h1, (okIx_ok hc.1).1, (okIx_ok hc.1).2, line_of (by rw [← h2.len]; exact hc.2), hP.lst hS (h2.rep _)⟩)
      · exact hP.elim
    · exact hP.elim
  · split at hP
    · rename_i hc
      simp only [Bool.and_eq_true, decide_eq_true_eq, Bool.not_eq_true', List.isEmpty_eq_false_iff] at hc
      cases r1 with
      | tup q rs =>
        cases r2
        refine .inr (.inr ⟨_, _, _, rfl, rfl, q.sq, fun e => hc.1.2 ?_, hc.1.1.1, hc.1.1.2, by rw [← rs.len]; exact hc.2, hP.tup hS (rs.rep _)⟩)
        subst e
        cases rs
        rfl
    · exact hP.elim
  · exact hP.elim
end
end HM

/-! HM: calls of defs with keywords. -/
namespace HM
open PySem PySem.Spec PyProof.Rows L2
section
variable {X : Cx} {W : WX} {e a b c : Expr} {es rest : List Expr} {pos p : Pos} {f fa fb fc : EM D} {fs fk : EM (List D)} {kws : List Keyword}
def wK (X : Cx) (kws : List Keyword) : TA := fun σ H Q => ∀ (pos : Pos) (pins : List (Addr × Obj)) (s : Shared), Inv X pins σ H s → wpAny (model X.prog X.w) X.A (evalAll ((backToKw pos (keywordEach kws X.env)).map (·.2))) (AP X pins σ Q) X.xe s
theorem pkW {X : Cx} {kws : List Keyword} : PK X kws (wK X kws) := ⟨fun pos pins s σ H Q I h => h pos pins s I⟩
/-- the values of keywords -/
structure Ek (X : Cx) (W : WX) (kws : List Keyword) (f : EM (List D)) : Prop where
  run : ∀ (m : List Addr) (τ : Sl) (st : Store) (σ : L2.St) (H : Hp) (Q : List V → Hp → Prop), SL X.K m H τ σ → SS X.kw m st H → Pe X.kw (fun c d H' => W c d σ H') (RDs X.K) m H (f τ st) Q → wK X kws σ H Q
theorem ek_nil : Ek X W [] aNil := ⟨fun m τ st σ H Q hL hS hP pos pins s I => pk_nil.run pos pins s σ H Q I (hP.now hS .nil)⟩
theorem ek_cons {nm : Option Str} {kpos : Pos} (ha : Ex X W e f) (hr : Ek X W kws fs) : Ek X W (⟨nm, e, kpos⟩ :: kws) (aCons f fs) := by
  refine ⟨fun m τ st σ H Q hL hS hP pos pins s I => (pk_cons peW pkW).run pos pins s σ H Q I ?_⟩
  refine ha.run m τ st σ H _ hL hS (hP.bind fun dx s1 m1 H1 x e1 hS1 r1 hP1 => ?_)
  exact hr.run m1 τ s1 σ H1 _ (hL.mono e1) hS1 (hP1.bind fun ds s2 m2 H2 xs e2 hS2 r2 hP2 => hP2.now hS2 (.cons (r1.mono e2) r2))
/-- those at the places -/
def arr {α : Type} (is : List Nat) (l : List α) : List α := is.filterMap (fun i => l[i]?)
theorem Vals.arr {xs : List V} {us : List Value} (r : Vals xs us) : ∀ is : List Nat, Vals (arr is xs) (arr is us)
  | [] => .nil
  | i :: is => by
    have ih := Vals.arr r is
    unfold HM.arr at ih ⊢
    rw [List.filterMap_cons, List.filterMap_cons]
    cases h : xs[i]? with
    | none => rw [r.none_of h]; exact ih
    | some x =>
      obtain ⟨u, h1, h2⟩ := r.get h
      rw [h1]
      exact .cons h2 ih
theorem RDs.arr {K : PySem.W.Frag} {m : List Addr} {H : Hp} {ds : List D} {vs : List V} (r : RDs K m H ds vs) : ∀ is : List Nat, RDs K m H (arr is ds) (arr is vs)
  | [] => .nil
  | i :: is => by
    have ih := RDs.arr r is
    unfold HM.arr at ih ⊢
    rw [List.filterMap_cons, List.filterMap_cons]
    cases h : ds[i]? with
    | none =>
      have : vs[i]? = none := by
        rw [List.getElem?_eq_none_iff] at h ⊢
        rw [← r.len]; exact h
      rw [this]; exact ih
    | some x =>
      obtain ⟨u, h1, h2⟩ := r.get h
      rw [h1]
      exact .cons h2 ih
def eCallK (n k np : Nat) (is : List Nat) (mf : FM) (fs fk : EM (List D)) : EM D := fun τ st => (fs τ st).bind fun ds s1 => (fk τ s1).bind fun es s2 => if ds.length = n ∧ es.length = k ∧ (arr is (ds ++ es)).length = np then mf (arr is (ds ++ es)) s2 else .bad
theorem ex_ck {P : Program} {w : World} {K : PySem.W.Frag} {mg : Str → Option Value} {base : Heap} {A : Around} {j k n : Nat} {ps ks : List Str} {is : List Nat} {mf : FM} {x : Str} {st : Stmt} {fa : Addr} {fd : FuncData} (c : Cal P w K mg base x j ps mf) (F : FnP K x st fa fd) (gx : mg x = some (.ref fa))
    (bn : ∀ (kV doc pm : Value) (an : Option Addr) (cdv ct : Value) (us ws : List Value), us.length = n → ws.length = ks.length → bindArgs (PySem.W.fnOf x x (defArgs st) (defBody st) (defScope st) .none kV doc pm an cdv ct) ⟨us, ks.zip ws⟩ = pure (ps.zip (arr is (us ++ ws))))
    (tk : Takes X W) (hr : Room k A) (hj : j ≤ k) (ha : Ea X W (e :: es) fs) (hkw : Ek X W kws fk)
    (hall : (backToKw pos (keywordEach kws X.env)).all (·.1.isSome) = true := by rfl) (hks : (backToKw pos (keywordEach kws X.env)).filterMap (·.1) = ks := by rfl)
    (hpl : ((backTo pos (starEach (e :: es) X.env)).any (·.1) || (backToKw pos (keywordEach kws X.env)).any (·.1.isNone)) = false := by rfl)
    (h1 : X.prog = P := by rfl) (h2 : X.w = w := by rfl) (h3 : X.K = K := by rfl) (h4 : X.mg = mg := by rfl) (h5 : X.base = base := by rfl) (h6 : X.A = A := by rfl) (hg : Gl X x := by rfl) (hdb : (x == ("__debug__" : Str)) = false := by decide) (he : starEach (e :: es) X.env = (false, eval e X.env) :: starEach es X.env := by rfl) :
    Ex X W (.Call (.Name x p) (e :: es) kws pos) (eCallK n ks.length ps.length is mf fs fk) := by
  subst h1 h2 h3 h4 h5 h6
  obtain ⟨f, fd', G, hm, hk, hb, oc, od, osl, lk⟩ := c.ex
  have e1 : f = fa := by
    rw [hm] at gx
    exact Value.ref.inj (Option.some.inj gx)
  subst e1
  obtain ⟨oc2, od2, dV, kV, doc, pm, an, cdv, ct, osl2, e2, lk2, hcd, hD, hK⟩ := F.ex
  rw [lk] at lk2
  have e3 : fd' = fd := by
    have := Option.some.inj lk2
    injection this with _ _ q _
    injection q
  subst e3
  have hdV : dV = .none := by
    rcases hD with ⟨_, q⟩ | ⟨q, _⟩
    · exact q
    · exact absurd rfl q
  have kb : KBn X.K fd' ps n ks (fun us ws => HM.arr is (us ++ ws)) (fun vs zs => HM.arr is (vs ++ zs)) :=
    ⟨fun s us ws _ l1 l2 => .of_eq (by rw [e2, hdV]; exact bn kV doc pm an cdv ct us ws l1 l2), fun r1 r2 => HM.Vals.arr (r1.append r2) is⟩
  refine ⟨fun m τ st σ H Q hL hS hP pins s I => ?_⟩
  refine wpAny_Call_Name_kw (ld_glob I hg hm ?_ hdb)
  have q : wA X (e :: es) σ H fun vs H1 => wK X kws σ H1 fun zs H2 => vs.length = n ∧ zs.length = ks.length ∧ spM X.kw ps.length mf (HM.arr is (vs ++ zs)) H2 Q (WE W σ) :=
    ha.run m τ st σ H _ hL hS (hP.bind fun ds s1 m1 H1 vs e1 hS1 r1 hP1 => hkw.run m1 τ s1 σ H1 _ (hL.mono e1) hS1 (hP1.bind fun es s2 m2 H2 xs e2 hS2 r2 hP2 => by
      split at hP2
      · rename_i hl
        exact ⟨by rw [← r1.len]; exact hl.1, by rw [← r2.len]; exact hl.2.1, m2, s2, _, hl.2.2, hS2, RDs.arr ((r1.mono e2).append r2) is, hP2⟩
      · exact hP2.elim))
  refine PySem.W.callWith_KW (h₀ := X.base) I.ok.mod.kin hk hall (thn (q pos pins s I) fun us s1 ⟨vs, H1, I1, r, q1⟩ => ?_) hpl he
  refine thn (q1 pos pins s1 I1) fun ws s2 ⟨zs, H2, I2, rz, l1, l2, q2⟩ => ⟨I2.kIn, ?_⟩
  rw [hks]
  have r2 := kb.rel r rz
  refine wpAny_call (codeAny_mono (G.run X.A X.stack s2 H2 ⟨us, ks.zip ws⟩ _ _ Q (WE W σ) (hr.mono hj) I2.env0 (kb.to s2 us ws I2.kIn (r.length.symm.trans l1) (rz.length.symm.trans l2)) r2 q2) fun r s' hq => ?_)
  cases r with
  | error e => exact passAt tk σ pins H2 s2 e s' I2 hq
  | ok fl =>
    cases fl with
    | ret u => exact I2.after hq
    | next => exact False.elim hq
    | brk => exact False.elim hq
    | cont => exact False.elim hq
theorem ex_ck0 {P : Program} {w : World} {K : PySem.W.Frag} {mg : Str → Option Value} {base : Heap} {A : Around} {j k : Nat} {ps ks : List Str} {is : List Nat} {mf : FM} {x : Str} {st : Stmt} {fa : Addr} {fd : FuncData} (c : Cal P w K mg base x j ps mf) (F : FnP K x st fa fd) (gx : mg x = some (.ref fa))
    (bn : ∀ (kV doc pm : Value) (an : Option Addr) (cdv ct : Value) (us ws : List Value), us.length = 0 → ws.length = ks.length → bindArgs (PySem.W.fnOf x x (defArgs st) (defBody st) (defScope st) .none kV doc pm an cdv ct) ⟨us, ks.zip ws⟩ = pure (ps.zip (arr is (us ++ ws))))
    (tk : Takes X W) (hr : Room k A) (hj : j ≤ k) (hkw : Ek X W kws fk)
    (hall : (backToKw pos (keywordEach kws X.env)).all (·.1.isSome) = true := by rfl) (hks : (backToKw pos (keywordEach kws X.env)).filterMap (·.1) = ks := by rfl)
    (hpl : ((backTo pos (starEach [] X.env)).any (·.1) || (backToKw pos (keywordEach kws X.env)).any (·.1.isNone)) = false := by rfl)
    (h1 : X.prog = P := by rfl) (h2 : X.w = w := by rfl) (h3 : X.K = K := by rfl) (h4 : X.mg = mg := by rfl) (h5 : X.base = base := by rfl) (h6 : X.A = A := by rfl) (hg : Gl X x := by rfl) (hdb : (x == ("__debug__" : Str)) = false := by decide) :
    Ex X W (.Call (.Name x p) [] kws pos) (eCallK 0 ks.length ps.length is mf aNil fk) := by
  subst h1 h2 h3 h4 h5 h6
  obtain ⟨f, fd', G, hm, hk, hb, oc, od, osl, lk⟩ := c.ex
  have e1 : f = fa := by
    rw [hm] at gx
    exact Value.ref.inj (Option.some.inj gx)
  subst e1
  obtain ⟨oc2, od2, dV, kV, doc, pm, an, cdv, ct, osl2, e2, lk2, hcd, hD, hK⟩ := F.ex
  rw [lk] at lk2
  have e3 : fd' = fd := by
    have := Option.some.inj lk2
    injection this with _ _ q _
    injection q
  subst e3
  have hdV : dV = .none := by
    rcases hD with ⟨_, q⟩ | ⟨q, _⟩
    · exact q
    · exact absurd rfl q
  have kb : KBn X.K fd' ps 0 ks (fun us ws => HM.arr is (us ++ ws)) (fun vs zs => HM.arr is (vs ++ zs)) :=
    ⟨fun s us ws _ l1 l2 => .of_eq (by rw [e2, hdV]; exact bn kV doc pm an cdv ct us ws l1 l2), fun r1 r2 => HM.Vals.arr (r1.append r2) is⟩
  refine ⟨fun m τ st σ H Q hL hS hP pins s I => ?_⟩
  refine wpAny_Call_Name_kw (ld_glob I hg hm ?_ hdb)
  have q : wK X kws σ H fun zs H2 => zs.length = ks.length ∧ spM X.kw ps.length mf (HM.arr is zs) H2 Q (WE W σ) := by
    have hP : Pe X.kw (fun c d H' => W c d σ H') (RD X.K) m H ((fk τ st).bind fun es s2 => if ([] : List D).length = 0 ∧ es.length = ks.length ∧ (HM.arr is ([] ++ es)).length = ps.length then mf (HM.arr is ([] ++ es)) s2 else .bad) Q := hP
    exact hkw.run m τ st σ H _ hL hS (hP.bind fun es s2 m2 H2 xs e2 hS2 r2 hP2 => by
      split at hP2
      · rename_i hl
        exact ⟨by rw [← r2.len]; exact hl.2.1, m2, s2, _, hl.2.2, hS2, RDs.arr r2 is, hP2⟩
      · exact hP2.elim)
  refine PySem.W.callWith_KW0 (h₀ := X.base) I.ok.mod.kin hk hall (thn (q pos pins s I) fun ws s2 ⟨zs, H2, I2, rz, l2, q2⟩ => ⟨I2.kIn, ?_⟩) hpl
  rw [hks]
  have r2 : Vals (HM.arr is zs) (HM.arr is ([] ++ ws)) := HM.Vals.arr rz is
  refine wpAny_call (codeAny_mono (G.run X.A X.stack s2 H2 ⟨[], ks.zip ws⟩ _ _ Q (WE W σ) (hr.mono hj) I2.env0 (kb.to s2 [] ws I2.kIn rfl (rz.length.symm.trans l2)) r2 q2) fun r s' hq => ?_)
  cases r with
  | error e => exact passAt tk σ pins H2 s2 e s' I2 hq
  | ok fl =>
    cases fl with
    | ret u => exact I2.after hq
    | next => exact False.elim hq
    | brk => exact False.elim hq
    | cont => exact False.elim hq
end
end HM

/-! HM, part Z: zip of a list and a tuple, either way round. -/
namespace HM
open PySem PySem.Spec PyProof.Rows L2
/-- true: a list, false: a tuple -/
def kCls : Bool → String
  | true => "list_iterator"
  | false => "tuple_iterator"
def kIter (k : Bool) (h : Heap) (it l : Addr) (i : Nat) : Prop := ∃ o, h.get? it = some o ∧ o.cls = .type (kCls k) ∧ o.data = .fields #[.ref l, .int i 0]
def kSeq : Bool → Heap → Addr → Array Value → Prop
  | true => fun h l xs => h.IsList l xs
  | false => fun h l xs => h.IsTuple l xs
def kSq : Bool → PySem.W.Frag → Hp → Addr → List V → Prop
  | true => SqL
  | false => SqT
section
variable {prog : Program} {w : World} {A : Around} {E : Value → Shared → Prop} {s : Shared}
theorem draws_k {k : Bool} (hh : A.handled = none) {it l : Addr} (ne : l ≠ it) (items : Array Value) :
    Draws prog w A it [it, l] items.size (fun i v => items[i]? = some v) (fun i h => kIter k h it l i ∧ kSeq k h l items) := by
  cases k with
  | true => exact Draws.list hh it l ne items
  | false => exact Draws.tuple hh it l ne items
abbrev zk1 (c1 : String) (h : Heap) (l1 : Addr) : Heap := h.push { cls := .type c1, data := .fields #[.ref l1, .int 0 0] }
abbrev zk2 (c1 c2 : String) (h : Heap) (l1 l2 : Addr) : Heap := (zk1 c1 h l1).push { cls := .type c2, data := .fields #[.ref l2, .int 0 0] }
abbrev zk3 (c1 c2 : String) (h : Heap) (l1 l2 : Addr) : Heap := (zk2 c1 c2 h l1 l2).push { cls := .type "tuple", data := .seq #[.ref h.objs.size, .ref (zk1 c1 h l1).objs.size] }
abbrev zk4 (c1 c2 : String) (h : Heap) (l1 l2 : Addr) : Heap := (zk3 c1 c2 h l1 l2).push { cls := .type "tuple", data := .seq #[.none, .none] }
abbrev zk5 (c1 c2 : String) (h : Heap) (l1 l2 : Addr) : Heap := (zk4 c1 c2 h l1 l2).push { cls := .type "zip", data := .fields #[.none, .bool false, .bool false, .ref (zk2 c1 c2 h l1 l2).objs.size, .ref (zk3 c1 c2 h l1 l2).objs.size] }
/-- what zip.__new__ makes -/
def NewK (c1 c2 : String) (G : Heap → Prop) (l1 l2 : Addr) : Prop :=
  Meets (Builtin.«zip.__new__» ⟨[.type "zip", .ref l1, .ref l2], []⟩) fun _ R s => G s.heap ∧ R (.ok (.ret (.ref (zk4 c1 c2 s.heap l1 l2).objs.size))) { s with heap := zk5 c1 c2 s.heap l1 l2 }
theorem new_lt (l1 l2 : Addr) (xs ys : Array Value) : NewK "list_iterator" "tuple_iterator" (fun h => h.IsList l1 xs ∧ h.IsTuple l2 ys) l1 l2 :=
  .of_wp fun prog w A R s h => by
    obtain ⟨hp, g, d, tk, os⟩ := s
    obtain ⟨⟨q1, q2⟩, h⟩ := h
    have hsub := sub_zip
    have a1 : Heap.IsList (Shared.heap ⟨hp, g, d, tk, os⟩) l1 xs := q1
    have a2 : Heap.IsTuple (Shared.heap ⟨zk1 "list_iterator" hp l1, g, d, tk, os⟩) l2 ys := Heap.IsTuple.push q2 _
    wp_walk using wpAny_pyIter_list a1, wpAny_pyIter_tuple a2
    exact ⟨_, rfl, h⟩
theorem new_tl (l1 l2 : Addr) (xs ys : Array Value) : NewK "tuple_iterator" "list_iterator" (fun h => h.IsTuple l1 xs ∧ h.IsList l2 ys) l1 l2 :=
  .of_wp fun prog w A R s h => by
    obtain ⟨hp, g, d, tk, os⟩ := s
    obtain ⟨⟨q1, q2⟩, h⟩ := h
    have hsub := sub_zip
    have a1 : Heap.IsTuple (Shared.heap ⟨hp, g, d, tk, os⟩) l1 xs := q1
    have a2 : Heap.IsList (Shared.heap ⟨zk1 "tuple_iterator" hp l1, g, d, tk, os⟩) l2 ys := Heap.IsList.push q2 _
    wp_walk using wpAny_pyIter_tuple a1, wpAny_pyIter_list a2
    exact ⟨_, rfl, h⟩
end
section
variable {prog : Program} {w : World} {A : Around} {E : Value → Shared → Prop} {s : Shared}
/-- what stands behind a call of zip -/
structure ZipMade (k1 k2 : Bool) (h h' : Heap) (l1 l2 : Addr) : Prop where
  z : IsZip h' (h.objs.size + 4) (h.objs.size + 2) (h.objs.size + 3) .none
  i : IsTupOf2 h' (h.objs.size + 2) (.ref h.objs.size) (.ref (h.objs.size + 1))
  o : IsTupOf2 h' (h.objs.size + 3) .none .none
  i1 : kIter k1 h' h.objs.size l1 0
  i2 : kIter k2 h' (h.objs.size + 1) l2 0
  keep : ∀ c o, h.get? c = some o → h'.get? c = some o
theorem call_zk {k1 k2 : Bool} {G : Heap → Prop} {l1 l2 : Addr} {Q : Value → Shared → Prop} (M : NewK (kCls k1) (kCls k2) G l1 l2) (g : G s.heap)
    (h : ∀ h', ZipMade k1 k2 s.heap h' l1 l2 → Q (.ref (s.heap.objs.size + 4)) { s with heap := h' }) : wpAny (model prog w) A (call (.type "zip") [.ref l1, .ref l2]) Q E s := by
  have no : (some "zip.__new__" != some "object.__new__") = true := by decide
  have oi := fun obj => F.args_object_init_3 obj (.ref l1) (.ref l2)
  refine callType_new F.called_zip no (F.typeCall_zip_2 _ _) (F.newCall_zip_2 _ _) oi F.entry_zip_new M ⟨g, ?_⟩
  obtain ⟨n, en⟩ : ∃ n, n = s.heap.objs.size := ⟨_, rfl⟩
  have s1 : (zk1 (kCls k1) s.heap l1).objs.size = n + 1 := by rw [Heap.size_push, en]
  have s2 : (zk2 (kCls k1) (kCls k2) s.heap l1 l2).objs.size = n + 2 := by rw [Heap.size_push, s1]
  have s3 : (zk3 (kCls k1) (kCls k2) s.heap l1 l2).objs.size = n + 3 := by rw [Heap.size_push, s2]
  have s4 : (zk4 (kCls k1) (kCls k2) s.heap l1 l2).objs.size = n + 4 := by rw [Heap.size_push, s3]
  have up : ∀ {h0 : Heap} {o0 : Obj} {c : Addr} {o : Obj}, h0.get? c = some o → (h0.push o0).get? c = some o := fun e => Heap.get?_push_of_some _ e
  have b5 : (zk5 (kCls k1) (kCls k2) s.heap l1 l2).get? (zk4 (kCls k1) (kCls k2) s.heap l1 l2).objs.size = some _ := Heap.get?_push_size _ rfl
  have b4 : (zk5 (kCls k1) (kCls k2) s.heap l1 l2).get? (zk3 (kCls k1) (kCls k2) s.heap l1 l2).objs.size = some _ := up (Heap.get?_push_size _ rfl)
  have b3 : (zk5 (kCls k1) (kCls k2) s.heap l1 l2).get? (zk2 (kCls k1) (kCls k2) s.heap l1 l2).objs.size = some _ := up (up (Heap.get?_push_size _ rfl))
  have b2 : (zk5 (kCls k1) (kCls k2) s.heap l1 l2).get? (zk1 (kCls k1) s.heap l1).objs.size = some _ := up (up (up (Heap.get?_push_size _ rfl)))
  have b1 : (zk5 (kCls k1) (kCls k2) s.heap l1 l2).get? s.heap.objs.size = some _ := up (up (up (up (Heap.get?_push_size _ rfl))))
  show _ ∧ _
  rw [s2, s3, s4] at b5
  rw [s1, s2] at b3
  rw [s3] at b4
  rw [s1] at b2
  rw [s4]
  refine ⟨⟨_, b5, rfl⟩, ?_⟩
  rw [en] at b2 b3 b4 b5 ⊢
  exact h _ ⟨b5, b3, b4, ⟨_, b1, rfl, rfl⟩, ⟨_, b2, rfl, rfl⟩, fun c o e => up (up (up (up (up e))))⟩
end
/-- pairs of the items at a and at b -/
def ItK (k1 k2 : Bool) (K : PySem.W.Frag) (a b : Addr) : It where
  go := fun i H => ∃ (xs ys : List V) (x y : V), (kSq k1 K H a xs ∧ kSq k2 K H b ys) ∧ xs[i]? = some x ∧ ys[i]? = some y
  yld := fun i H v H' => ∃ (T : Addr) (x y : V), (v = .ref T ∧ H T = none ∧ ∃ o : Obj, o.dict = none ∧ H' = upd H T (.frz o (.tup [x, y]))) ∧ (∀ xs, kSq k1 K H a xs → xs[i]? = some x) ∧ (∀ ys, kSq k2 K H b ys → ys[i]? = some y)
  stop := fun i H => ∃ xs ys : List V, (kSq k1 K H a xs ∧ kSq k2 K H b ys) ∧ (i = xs.length ∧ i ≤ ys.length ∨ i = ys.length ∧ i ≤ xs.length)
section
variable {P : Program} {w : World} {K : PySem.W.Frag}
theorem inv_k {X : Cx} {pins : List (Addr × Obj)} {σ : L2.St} {H : Hp} {s : Shared} {k : Bool} {a : Addr} {xs : List V} (I : Inv X pins σ H s) (h : kSq k X.K H a xs) : ∃ its : List Value, Vals xs its ∧ kSeq k s.heap a its.toArray ∧ a < s.heap.objs.size := by
  cases k with
  | true =>
    obtain ⟨its, r, p, _⟩ := I.list h
    exact ⟨its, r, p.isList, p.lt⟩
  | false =>
    obtain ⟨its, r, p, _⟩ := I.tuple h
    obtain ⟨o, e, _⟩ := id p
    exact ⟨its, r, p, Heap.lt_size e⟩
theorem inj_k {X : Cx} {pins : List (Addr × Obj)} {σ : L2.St} {H : Hp} {s : Shared} {k : Bool} {a : Addr} {xs ys : List V} (I : Inv X pins σ H s) (h : kSq k X.K H a xs) (h2 : kSq k X.K H a ys) : xs = ys := by
  cases k with
  | true => exact I.list_inj h h2
  | false => exact I.tuple_inj h h2
theorem sep_k {z TI TO i1 i2 a b : Addr} (D : ZipApart z TI TO i1 i2 a b) : ZipSep2 z TI TO i1 i2 [i1, a] [i2, b] where
  TIz := D.TIz
  TOz := D.TOz
  TITO := D.TITO
  TIi1 := D.TIi1
  mem1 := by simp
  zf1 := by simp [D.i1z.symm, D.l1z.symm]
  Tf1 := by simp [D.TOi1, D.l1TO.symm]
  TIi2 := D.TIi2
  mem2 := by simp
  zf2 := by simp [D.i2z.symm, D.l2z.symm]
  Tf2 := by simp [D.TOi2, D.l2TO.symm]
  sep1_2 := by simp [D.i12, D.l2i1.symm]
  sep2_1 := by simp [D.i12.symm, D.l1i2.symm]
theorem turn_k {k1 k2 : Bool} {elts : List Expr} {kk : Nat} {tpos : Pos} {a b z TI TO i1 i2 : Addr} (D : ZipApart z TI TO i1 i2 a b) :
    Turn P w K (.Tuple elts kk tpos) (ItK k1 k2 K a b) [z, TI, TO, i1, i2] z fun i h => (IsZip h z TI TO .none ∧ IsTupOf2 h TI (.ref i1) (.ref i2) ∧ ∃ x y, IsTupOf2 h TO x y) ∧ kIter k1 h i1 a i ∧ kIter k2 h i2 b i := by
  have keepI : ∀ {k : Bool} {h h' : Heap} {it l : Addr} {i : Nat}, kIter k h it l i → (∀ o, h.get? it = some o → h'.get? it = some o) → kIter k h' it l i := fun st q => by
    obtain ⟨o, e, c⟩ := st
    exact ⟨o, q o e, c⟩
  refine ⟨by simp, ?_, ?_, ?_, ?_, fun A i s Q E st h => wpAny_pyIter_zip st.1.1 h⟩
  · rintro i h ⟨⟨hz, ht, x, y, ho⟩, ⟨o1, g1, _, d1⟩, o2, g2, _, d2⟩ c hc
    simp only [List.mem_cons, List.not_mem_nil, or_false] at hc
    rcases hc with rfl | rfl | rfl | rfl | rfl
    · exact ⟨_, hz, fun v q => nomatch q⟩
    · exact ⟨_, ht, fun v q => nomatch q⟩
    · exact ⟨_, ho, fun v q => nomatch q⟩
    · exact ⟨o1, g1, fun v q => by rw [d1] at q; exact nomatch q⟩
    · exact ⟨o2, g2, fun v q => by rw [d2] at q; exact nomatch q⟩
  · rintro i h h' ⟨⟨hz, ht, x, y, ho⟩, j1, j2⟩ q
    exact ⟨⟨q z (by simp) _ hz, q TI (by simp) _ ht, x, y, q TO (by simp) _ ho⟩, keepI j1 (q i1 (by simp)), keepI j2 (q i2 (by simp))⟩
  · intro X hP hw hK hc i pins s σ H E I hf st hg
    subst hP hw hK
    obtain ⟨⟨hz, ht, x0, y0, ho⟩, j1, j2⟩ := st
    obtain ⟨xs, ys, x, y, ⟨hx, hy⟩, ex, ey⟩ := hg
    obtain ⟨its, rv, p1, _⟩ := inv_k I hx
    obtain ⟨its2, rv2, p2, _⟩ := inv_k I hy
    obtain ⟨u, hu, ru⟩ := rv.get ex
    obtain ⟨u2, hu2, ru2⟩ := rv2.get ey
    have hh : X.A.in1.handled = none := I.ok.hd hc
    have d1 := draws_k (prog := X.prog) (w := X.w) (k := k1) hh D.l1i1 its.toArray
    have d2 := draws_k (prog := X.prog) (w := X.w) (k := k2) hh D.l2i2 its2.toArray
    have n1 : i < its.toArray.size := by have := (List.getElem?_eq_some_iff.mp hu).1; simpa using this
    have n2 : i < its2.toArray.size := by have := (List.getElem?_eq_some_iff.mp hu2).1; simpa using this
    have zl : z < s.heap.objs.size := Heap.lt_size hz
    refine wpAny_pyNext_zipD2_item (sep_k D) d1 d2 hz ht ho ⟨j1, p1⟩ ⟨j2, p2⟩ n1 n2 ?_
    intro v1 v2 h' tk e1 e2 z' o' q1 q2 hT hsz hk
    have e1 : u = v1 := by simpa [hu] using e1
    have e2 : u2 = v2 := by simpa [hu2] using e2
    subst e1 e2
    refine ⟨_, rfl, wpAny_letOwnedTupleGo_zip (s := { s with heap := h', toks := tk }) z' ?_⟩
    intro h'' z'' sb
    have T2 := (sb.2 _ (Nat.ne_of_gt zl)).trans hT
    have nw : ObjOk X.prog X.w (upd H s.heap.objs.size (.frz { cls := .type "tuple", data := .seq #[u, u2] } (.tup [x, y]))) h'' s.heap.objs.size (.frz { cls := .type "tuple", data := .seq #[u, u2] } (.tup [x, y])) := by
      refine ⟨T2, ?_, [u, u2], .cons ru (.cons ru2 .nil), _, T2, rfl, _, rfl⟩
      show 2 ≤ sizeLine
      decide
    have other : ∀ (c : Addr) (o : Obj), c ∉ [z, TI, TO, i1, i2] → s.heap.get? c = some o → h''.get? c = some o := fun c o hb q => by
      simp only [List.mem_cons, List.not_mem_nil, or_false, not_or] at hb
      exact (sb.2 c hb.1).trans (hk c o hb.1 hb.2.2.1 hb.2.2.2.1 hb.2.2.2.2 q)
    have I1 : Inv X pins σ (upd H s.heap.objs.size (.frz { cls := .type "tuple", data := .seq #[u, u2] } (.tup [x, y]))) { s with heap := h'', toks := tk } := I.turnedNew (t' := tk) (ch := [z, TI, TO, i1, i2]) other hf (Nat.le_refl _) nw
    refine ⟨.ref s.heap.objs.size, _, I1, rfl, ⟨_, x, y, ⟨rfl, I.hok.fresh (Nat.le_refl _), _, rfl, rfl⟩, fun l hl => by rw [inj_k I hl hx]; exact ex, fun l hl => by rw [inj_k I hl hy]; exact ey⟩, ⟨⟨z'', ?_, u, u2, ?_⟩, ?_, ?_⟩, ?_⟩
    · exact (sb.2 _ D.TIz).trans (hk _ _ D.TIz D.TITO D.TIi1 D.TIi2 ht)
    · exact (sb.2 _ D.TOz).trans o'
    · exact keepI q1.1 fun o e => (sb.2 _ D.i1z).trans e
    · exact keepI q2.1 fun o e => (sb.2 _ D.i2z).trans e
    · intro c hm
      have lt : c < s.heap.objs.size := by
        obtain ⟨o1, g1, _⟩ := j1
        obtain ⟨o2, g2, _⟩ := j2
        have hm := hm
        simp only [List.mem_cons, List.not_mem_nil, or_false] at hm
        rcases hm with rfl | rfl | rfl | rfl | rfl
        · exact zl
        · exact Heap.lt_size ht
        · exact Heap.lt_size ho
        · exact Heap.lt_size g1
        · exact Heap.lt_size g2
      rw [upd_ne (Nat.ne_of_lt lt)]
      exact (hf c hm).1
  · intro X hP hw hK hc i pins s σ H E I hf st hg
    subst hP hw hK
    obtain ⟨⟨hz, ht, x0, y0, ho⟩, j1, j2⟩ := st
    obtain ⟨xs, ys, ⟨hx, hy⟩, he⟩ := hg
    obtain ⟨its, rv, p1, _⟩ := inv_k I hx
    obtain ⟨its2, rv2, p2, _⟩ := inv_k I hy
    have m1 := rv.length
    have m2 := rv2.length
    have hh : X.A.in1.handled = none := I.ok.hd hc
    have d1 := draws_k (prog := X.prog) (w := X.w) (k := k1) hh D.l1i1 its.toArray
    have d2 := draws_k (prog := X.prog) (w := X.w) (k := k2) hh D.l2i2 its2.toArray
    refine wpAny_pyNext_zipD2_end (sep_k D) d1 d2 hz ht ho ⟨j1, p1⟩ ⟨j2, p2⟩ (by simp; omega) (by simp; omega) (by simp; omega) ?_
    intro h' tk hk
    refine ⟨rfl, I.turnedL (t' := tk) (ch := [z, TI, TO, i1, i2]) ?_ hf⟩
    intro c o hb q
    simp only [List.mem_cons, List.not_mem_nil, or_false, not_or] at hb
    exact hk c o hb.1 hb.2.2.1 hb.2.2.2.1 hb.2.2.2.2 q
end
section
variable {prog : Program} {w : World} {A : Around} {E : Value → Shared → Prop} {s : Shared}
theorem new_ll (l1 l2 : Addr) (xs ys : Array Value) : NewK "list_iterator" "list_iterator" (fun h => h.IsList l1 xs ∧ h.IsList l2 ys) l1 l2 :=
  .of_wp fun prog w A R s h => by
    obtain ⟨hp, g, d, tk, os⟩ := s
    obtain ⟨⟨q1, q2⟩, h⟩ := h
    have hsub := sub_zip
    have a1 : Heap.IsList (Shared.heap ⟨hp, g, d, tk, os⟩) l1 xs := q1
    have a2 : Heap.IsList (Shared.heap ⟨zk1 "list_iterator" hp l1, g, d, tk, os⟩) l2 ys := Heap.IsList.push q2 _
    wp_walk using wpAny_pyIter_list a1, wpAny_pyIter_list a2
    exact ⟨_, rfl, h⟩
theorem new_tt (l1 l2 : Addr) (xs ys : Array Value) : NewK "tuple_iterator" "tuple_iterator" (fun h => h.IsTuple l1 xs ∧ h.IsTuple l2 ys) l1 l2 :=
  .of_wp fun prog w A R s h => by
    obtain ⟨hp, g, d, tk, os⟩ := s
    obtain ⟨⟨q1, q2⟩, h⟩ := h
    have hsub := sub_zip
    have a1 : Heap.IsTuple (Shared.heap ⟨hp, g, d, tk, os⟩) l1 xs := q1
    have a2 : Heap.IsTuple (Shared.heap ⟨zk1 "tuple_iterator" hp l1, g, d, tk, os⟩) l2 ys := Heap.IsTuple.push q2 _
    wp_walk using wpAny_pyIter_tuple a1, wpAny_pyIter_tuple a2
    exact ⟨_, rfl, h⟩
theorem new_k (k1 k2 : Bool) (l1 l2 : Addr) (xs ys : Array Value) : NewK (kCls k1) (kCls k2) (fun h => kSeq k1 h l1 xs ∧ kSeq k2 h l2 ys) l1 l2 := by
  cases k1 <;> cases k2
  · exact new_tt l1 l2 xs ys
  · exact new_tl l1 l2 xs ys
  · exact new_lt l1 l2 xs ys
  · exact new_ll l1 l2 xs ys
end
def iZk (K : PySem.W.Frag) (ta : TA) : TI := fun σ H R => ta σ H fun vs H1 => ∃ (a b : Addr) (k1 k2 : Bool) (xs ys : List V), vs = [.ref a, .ref b] ∧ (kSq k1 K H1 a xs ∧ kSq k2 K H1 b ys) ∧ R (ItK k1 k2 K a b) H1
theorem pi_zk {X : Cx} {e e2 : Expr} {ta : TA} {p pos tpos : Pos} {elts : List Expr} {kk : Nat} (hg : Gl X "zip") (hm : X.mg "zip" = none) (ha : PA X [e, e2] ta)
    (hs : starEach [e, e2] X.env = (false, eval e X.env) :: starEach [e2] X.env := by rfl)
    (hpl : (backTo pos (starEach [e2] X.env)).any (·.1) = false := by rfl) : PI X (.Tuple elts kk tpos) (.Call (.Name "zip" p) [e, e2] [] pos) (iZk X.K ta) := by
  refine ⟨?_⟩
  intro pins s σ H R I h
  refine Call_ (ld_blt I hg hm PyProof.Rows.boot_zip ?_)
  refine PyProof.Rows.callWith_type1 (thn (ha.run pos pins s σ H _ I h) ?_) hs hpl
  rintro us s1 ⟨vs, H1, I1, r1, a, b, k1, k2, xs, ys, rfl, ⟨hx, hy⟩, q⟩
  cases r1 with
  | cons r rr =>
  cases rr with
  | cons r' rr =>
  cases rr
  cases r
  cases r'
  obtain ⟨its, rv, p1, la⟩ := inv_k I1 hx
  obtain ⟨its2, rv2, p2, lb⟩ := inv_k I1 hy
  refine call_zk (new_k k1 k2 a b its.toArray its2.toArray) ⟨p1, p2⟩ ?_
  intro h' Z
  refine wpAny_pyIter_zip Z.z ?_
  have I2 : Inv X pins σ H1 { s1 with heap := h' } := I1.kept (t' := s1.toks) Z.keep
  obtain ⟨n, en⟩ : ∃ n, n = s1.heap.objs.size := ⟨_, rfl⟩
  have T := turn_k (P := X.prog) (w := X.w) (K := X.K) (k1 := k1) (k2 := k2) (elts := elts) (kk := kk) (tpos := tpos) (PySem.W.ktu_apart s1.heap.objs.size a b la lb)
  refine ⟨s1.heap.objs.size + 4, _, _, _, H1, rfl, I2, T, ⟨⟨Z.z, Z.i, _, _, Z.o⟩, Z.i1, Z.i2⟩, ?_, q⟩
  intro c hm
  simp only [List.mem_cons, List.not_mem_nil, or_false] at hm
  have le : s1.heap.objs.size ≤ c := by
    rcases hm with rfl | rfl | rfl | rfl | rfl
    · exact Nat.le_add_right _ _
    · exact Nat.le_add_right _ _
    · exact Nat.le_add_right _ _
    · exact Nat.le_refl _
    · exact Nat.le_add_right _ _
  exact I1.fpOk le (I1.hok.fresh le)
theorem zipD_at {xs ys : List D} {i : Nat} {d : D} (h : (zipD xs ys)[i]? = some d) : ∃ x y, xs[i]? = some x ∧ ys[i]? = some y ∧ d = .tup [x, y] := by
  unfold zipD at h
  rw [List.getElem?_map] at h
  cases hz : (List.zip xs ys)[i]? with
  | none =>
    rw [hz] at h
    cases h
  | some q =>
    rw [hz] at h
    cases h
    obtain ⟨h1, h2⟩ := List.getElem?_zip_eq_some.mp hz
    exact ⟨_, _, h1, h2, rfl⟩
theorem zipD_len (xs ys : List D) : (zipD xs ys).length = min xs.length ys.length := by
  unfold zipD
  rw [List.length_map, List.length_zip]
theorem j_zk {K : KW} {m0 : List Addr} {H0 : Hp} {k1 k2 : Bool} {a b : Addr} {q : Sq} {xs ys : List D} (hi : q.items = zipD xs ys)
    (h : ∀ (m : List Addr) (H : Hp) (st : Store), Ext K m0 H0 m H → SS K m st H → q.chk st = true → ∃ vs us, (kSq k1 K H a vs ∧ kSq k2 K H b us) ∧ RDs K m H xs vs ∧ RDs K m H ys us) : JOk K m0 H0 q (ItK k1 k2 K a b) := by
  intro m H st e s hc
  obtain ⟨vs, us, ⟨q1, q2⟩, r1, r2⟩ := h m H st e s hc
  refine ⟨?_, vs, us, ⟨q1, q2⟩, ?_⟩
  · intro i d hd
    rw [hi] at hd
    obtain ⟨x, y, hx, hy, rfl⟩ := zipD_at hd
    obtain ⟨v, hv, rv⟩ := r1.get hx
    obtain ⟨u, hu, ru⟩ := r2.get hy
    refine ⟨⟨vs, us, v, u, ⟨q1, q2⟩, hv, hu⟩, ?_⟩
    rintro z H' ⟨T, v', u', ⟨rfl, hT, ob, hob, rfl⟩, g1, g2⟩
    have z1 := g1 vs q1
    have z2 := g2 us q2
    rw [hv] at z1
    rw [hu] at z2
    cases z1
    cases z2
    have f := Ext.fresh (K := K) (m := m) (H := H) (o := .frz ob (.tup [v, u])) hT
    exact ⟨f, s.fresh hT, .tup (PlT.of hob) (.cons (rv.mono f) (.cons (ru.mono f) .nil))⟩
  · rw [hi, zipD_len, r1.len, r2.len]
    omega
end HM

/-! HM, part 13: max and min of tuples, index. -/
namespace HM
open PySem PySem.Spec PyProof.Rows L2
section
variable {prog : Program} {w : World} {A : Around} {E : Value → Shared → Prop} {s : Shared}
/-- the greatest of a tuple's ints -/
theorem tup_max {t : Addr} {xs : Array (Int × Tok)} {Q : Value → Shared → Prop} (hh : A.handled = none) (ht : s.heap.IsTuple t (intItems xs)) (hne : 0 < xs.size)
    (h : ∀ v h' tk, (intItems xs)[argBest (fun i j => decide (numAt xs i > numAt xs j)) (xs.size - 1)]? = some v → (∀ b o, s.heap.get? b = some o → h'.get? b = some o) → Q v { s with heap := h', toks := tk }) :
    wpAny (model prog w) A (call (.builtin "max") [.ref t]) Q E s := by
  obtain ⟨ob, o1, _, _, _⟩ := id ht
  have sz : (intItems xs).size = xs.size := by simp [intItems]
  refine call_max_walk (wpAny_pyIter_tuple ht ?_)
  refine ⟨_, [_, t], [_], _, _, _, _, rfl, Walks.tuple (A := A.in1) hh s.heap.objs.size t (Nat.ne_of_lt (Heap.lt_size o1)) (intItems xs), ⟨⟨_, Heap.get?_push_size _ rfl, rfl, rfl⟩, ht.push _⟩, fun b hb => ?_, by omega, CmpOf.ints_gt (numAt xs) (fun _ _ => intItems_at), fun v h' tk hP hk => ?_⟩
  · rcases List.mem_cons.mp hb with rfl | hb
    · exact Heap.lt_size (Heap.get?_push_size _ rfl)
    · rw [List.mem_singleton.mp hb]
      exact Heap.lt_size (Heap.get?_push_of_some _ o1)
  · rw [sz] at hP
    exact h v h' tk hP fun b o e => hk b o (fun hm => absurd (Heap.lt_size e) (by rw [List.mem_singleton.mp hm]; exact Nat.lt_irrefl _)) (Heap.get?_push_of_some _ e)
theorem tup_min {t : Addr} {xs : Array (Int × Tok)} {Q : Value → Shared → Prop} (hh : A.handled = none) (ht : s.heap.IsTuple t (intItems xs)) (hne : 0 < xs.size)
    (h : ∀ v h' tk, (intItems xs)[argBest (fun i j => decide (numAt xs i < numAt xs j)) (xs.size - 1)]? = some v → (∀ b o, s.heap.get? b = some o → h'.get? b = some o) → Q v { s with heap := h', toks := tk }) :
    wpAny (model prog w) A (call (.builtin "min") [.ref t]) Q E s := by
  obtain ⟨ob, o1, _, _, _⟩ := id ht
  have sz : (intItems xs).size = xs.size := by simp [intItems]
  refine call_min_walk (wpAny_pyIter_tuple ht ?_)
  refine ⟨_, [_, t], [_], _, _, _, _, rfl, Walks.tuple (A := A.in1) hh s.heap.objs.size t (Nat.ne_of_lt (Heap.lt_size o1)) (intItems xs), ⟨⟨_, Heap.get?_push_size _ rfl, rfl, rfl⟩, ht.push _⟩, fun b hb => ?_, by omega, CmpOf.ints_lt (numAt xs) (fun _ _ => intItems_at), fun v h' tk hP hk => ?_⟩
  · rcases List.mem_cons.mp hb with rfl | hb
    · exact Heap.lt_size (Heap.get?_push_size _ rfl)
    · rw [List.mem_singleton.mp hb]
      exact Heap.lt_size (Heap.get?_push_of_some _ o1)
  · rw [sz] at hP
    exact h v h' tk hP fun b o e => hk b o (fun hm => absurd (Heap.lt_size e) (by rw [List.mem_singleton.mp hm]; exact Nat.lt_irrefl _)) (Heap.get?_push_of_some _ e)
end
section
variable {X : Cx} {W : WX} {e : Expr} {pos p : Pos}
def rMaxT (K : PySem.W.Frag) : List V → Hp → VK → Prop := fun vs H Q => ∃ (a : Addr) (ns : List Int), vs = [V.ref a] ∧ SqT K H a (ns.map V.int) ∧ 0 < ns.length ∧ ∀ m, m ∈ ns → (∀ y, y ∈ ns → y ≤ m) → Q (.int m) H
def rMinT (K : PySem.W.Frag) : List V → Hp → VK → Prop := fun vs H Q => ∃ (a : Addr) (ns : List Int), vs = [V.ref a] ∧ SqT K H a (ns.map V.int) ∧ 0 < ns.length ∧ ∀ m, m ∈ ns → (∀ y, y ∈ ns → m ≤ y) → Q (.int m) H
theorem cr_maxT (hc : X.calm = true) : CallR X (.builtin "max") (rMaxT X.K) := by
  intro pins s σ H vs us Q I r h
  obtain ⟨a, ns, rfl, hs, hne, q⟩ := h
  obtain ⟨its, rv, hl, _⟩ := I.tuple hs
  rw [Vals.ref1 r]
  have hi := rv.ints
  obtain ⟨xs, e⟩ := hi.allInts.items
  have hn : numsOf (intItems xs).toList = ns := by rw [← e]; exact hi.numsOf
  rw [nums_intItems] at hn
  subst hn
  obtain ⟨ob, ho, hcl, n, hd⟩ := hl
  have ht : s.heap.IsTuple a (intItems xs) := by
    rw [← e]
    exact ⟨ob, ho, hcl, n, hd⟩
  have hsz : 0 < xs.size := by simpa using hne
  refine tup_max (I.ok.hd hc) ht hsz fun v h' tk hv hk => ?_
  obtain ⟨t, rfl⟩ := intItems_at hv
  obtain ⟨h1, h2⟩ := argBest_gt (numAt xs) (xs.size - 1)
  refine ⟨.int _, H, I.kept hk, ⟨_, rfl⟩, q _ ?_ fun y hy => ?_⟩
  · rw [numAt_eq]
    exact PySem.getD_mem (by rw [List.length_map, Array.length_toList]; omega)
  · obtain ⟨j, hj, rfl⟩ := mem_getD hy
    rw [List.length_map, Array.length_toList] at hj
    rw [← numAt_eq]
    exact h2 j (by omega)
theorem cr_minT (hc : X.calm = true) : CallR X (.builtin "min") (rMinT X.K) := by
  intro pins s σ H vs us Q I r h
  obtain ⟨a, ns, rfl, hs, hne, q⟩ := h
  obtain ⟨its, rv, hl, _⟩ := I.tuple hs
  rw [Vals.ref1 r]
  have hi := rv.ints
  obtain ⟨xs, e⟩ := hi.allInts.items
  have hn : numsOf (intItems xs).toList = ns := by rw [← e]; exact hi.numsOf
  rw [nums_intItems] at hn
  subst hn
  obtain ⟨ob, ho, hcl, n, hd⟩ := hl
  have ht : s.heap.IsTuple a (intItems xs) := by
    rw [← e]
    exact ⟨ob, ho, hcl, n, hd⟩
  have hsz : 0 < xs.size := by simpa using hne
  refine tup_min (I.ok.hd hc) ht hsz fun v h' tk hv hk => ?_
  obtain ⟨t, rfl⟩ := intItems_at hv
  obtain ⟨h1, h2⟩ := argBest_lt (numAt xs) (xs.size - 1)
  refine ⟨.int _, H, I.kept hk, ⟨_, rfl⟩, q _ ?_ fun y hy => ?_⟩
  · rw [numAt_eq]
    exact PySem.getD_mem (by rw [List.length_map, Array.length_toList]; omega)
  · obtain ⟨j, hj, rfl⟩ := mem_getD hy
    rw [List.length_map, Array.length_toList] at hj
    rw [← numAt_eq]
    exact h2 j (by omega)
theorem max_uniq {ns : List Int} {k m : Int} (hk : maxI ns = some k) (hm : m ∈ ns) (hy : ∀ y ∈ ns, y ≤ m) : m = k := by
  cases ns with
  | nil => cases hk
  | cons n ns =>
    have hk : some (ns.foldl max n) = some k := hk
    cases hk
    obtain ⟨h1, h2, h3⟩ := foldl_max_ge ns n
    refine Int.le_antisymm ?_ ?_
    · rcases List.mem_cons.mp hm with rfl | hm
      · exact h1
      · exact h2 m hm
    · rcases h3 with h3 | h3
      · rw [h3]
        exact hy n (List.mem_cons_self ..)
      · exact hy _ (List.mem_cons_of_mem _ h3)
theorem min_uniq {ns : List Int} {k m : Int} (hk : minI ns = some k) (hm : m ∈ ns) (hy : ∀ y ∈ ns, m ≤ y) : m = k := by
  cases ns with
  | nil => cases hk
  | cons n ns =>
    have hk : some (ns.foldl min n) = some k := hk
    cases hk
    obtain ⟨h1, h2, h3⟩ := foldl_min_le ns n
    refine Int.le_antisymm ?_ ?_
    · rcases h3 with h3 | h3
      · rw [h3]
        exact hy n (List.mem_cons_self ..)
      · exact hy _ (List.mem_cons_of_mem _ h3)
    · rcases List.mem_cons.mp hm with rfl | hm
      · exact h1
      · exact h2 m hm
theorem maxI_pos {ns : List Int} {k : Int} (hk : maxI ns = some k) : 0 < ns.length := by
  cases ns with
  | nil => cases hk
  | cons n ns => simp
theorem minI_pos {ns : List Int} {k : Int} (hk : minI ns = some k) : 0 < ns.length := by
  cases ns with
  | nil => cases hk
  | cons n ns => simp
theorem sv_max (hc : X.calm = true) : CallS X (.builtin "max") gMax := ⟨_, (cr_max hc).or (cr_maxT hc), fun m st H ds v E Q hS r hP => by
  obtain ⟨a, vs, rfl, q, rs⟩ := r
  unfold gMax at hP
  split at hP
  · rename_i k hk
    cases hn : intsD ds with
    | none =>
      rw [hn] at hk
      cases hk
    | some ns =>
      rw [hn] at hk
      have hk : maxI ns = some k := hk
      have e := intsD_V rs hn
      subst e
      have fin : ∀ mm, mm ∈ ns → (∀ y, y ∈ ns → y ≤ mm) → Q (.int mm) H := fun mm hm hy => by
        rw [max_uniq hk hm hy]
        exact hP.now hS (.int _)
      rcases q with q | q
      · exact .inl ⟨a, ns, rfl, q, maxI_pos hk, fin⟩
      · exact .inr ⟨a, ns, rfl, q.sq, maxI_pos hk, fin⟩
  · exact hP.elim⟩
theorem sv_min (hc : X.calm = true) : CallS X (.builtin "min") gMin := ⟨_, (cr_min hc).or (cr_minT hc), fun m st H ds v E Q hS r hP => by
  obtain ⟨a, vs, rfl, q, rs⟩ := r
  unfold gMin at hP
  split at hP
  · rename_i k hk
    cases hn : intsD ds with
    | none =>
      rw [hn] at hk
      cases hk
    | some ns =>
      rw [hn] at hk
      have hk : minI ns = some k := hk
      have e := intsD_V rs hn
      subst e
      have fin : ∀ mm, mm ∈ ns → (∀ y, y ∈ ns → mm ≤ y) → Q (.int mm) H := fun mm hm hy => by
        rw [min_uniq hk hm hy]
        exact hP.now hS (.int _)
      rcases q with q | q
      · exact .inl ⟨a, ns, rfl, q, minI_pos hk, fin⟩
      · exact .inr ⟨a, ns, rfl, q.sq, minI_pos hk, fin⟩
  · exact hP.elim⟩
end
/-! ### tuple(range(..)), list(range(..)) -/
section
variable {X : Cx} {W : WX} {e a b : Expr} {pos p p2 : Pos} {fa fb : EM D}
def okLen (j : Int) : Bool := decide (j.toNat ≤ 16777216) && decide (0 ≤ j)
theorem rng_rds {K : PySem.W.Frag} {m : List Addr} {H : Hp} {i j : Int} : RDs K m H (rng i j) (rgV i j) := by
  have e1 : rng i j = ((List.range (j - i).toNat).map fun k : Nat => i + (k : Int)).map D.int := by
    unfold rng
    rw [List.map_map]
    rfl
  have e2 : rgV i j = ((List.range (j - i).toNat).map fun k : Nat => i + (k : Int)).map V.int := by
    unfold rgV
    rw [List.map_map]
    rfl
  rw [e1, e2]
  exact RDs.ints _
theorem rg_ok {i j : Int} (hi : okLen i = true) (hj : okLen j = true) : RgOk i j := by
  unfold okLen at hi hj
  rw [Bool.and_eq_true, decide_eq_true_eq, decide_eq_true_eq] at hi hj
  exact RgOk.of_le hi.2 (by omega) (by omega) hj.2
def kTup (i j : Int) (st : Store) : ER D := if okLen i && okLen j then .ok (.tup (rng i j)) st else .bad
def kLst (i j : Int) (st : Store) : ER D := if okLen i && okLen j then .ok (.ref st.length) (st ++ [.lst (rng i j)]) else .bad
def eRg1 (k : Int → Int → Store → ER D) (fa : EM D) : EM D := fun τ st => (fa τ st).bind fun d s1 => match d with
  | .int j => k 0 j s1
  | _ => .bad
def eRg2 (k : Int → Int → Store → ER D) (fa fb : EM D) : EM D := fun τ st => (fa τ st).bind fun d s1 => (fb τ s1).bind fun e s2 => match d, e with
  | .int i, .int j => k i j s2
  | _, _ => .bad
theorem kTup_ok {K : KW} {E : XK} {m : List Addr} {st : Store} {H : Hp} {Q : VK} {i j : Int} (hS : SS K m st H) (hP : Pe K E (RD K) m H (kTup i j st) Q) : RgOk i j ∧ TNew Q H (rgV i j) := by
  unfold kTup at hP
  split at hP
  · rename_i hc
    rw [Bool.and_eq_true] at hc
    exact ⟨rg_ok hc.1 hc.2, hP.tup hS rng_rds⟩
  · exact hP.elim
theorem kLst_ok {K : KW} {E : XK} {m : List Addr} {st : Store} {H : Hp} {Q : VK} {i j : Int} (hS : SS K m st H) (hP : Pe K E (RD K) m H (kLst i j st) Q) : RgOk i j ∧ ∀ q, H q = none → Q (.ref q) (upd H q (.lst (rgV i j))) := by
  unfold kLst at hP
  split at hP
  · rename_i hc
    rw [Bool.and_eq_true] at hc
    exact ⟨rg_ok hc.1 hc.2, hP.lst hS rng_rds⟩
  · exact hP.elim
theorem ex_tupRg1 (hc : X.calm = true) (hg : Gl X "tuple") (hm : X.mg "tuple" = none) (hg2 : Gl X "range") (hm2 : X.mg "range" = none) (ha : Ex X W a fa) (na : starEach [.Call (.Name "range" p2) [a] [] pos] X.env = (false, eval (.Call (.Name "range" p2) [a] [] pos) X.env) :: starEach [] X.env := by rfl) (nb : starEach [a] X.env = (false, eval a X.env) :: starEach [] X.env := by rfl) {pos2 : Pos} :
    Ex X W (.Call (.Name "tuple" p) [.Call (.Name "range" p2) [a] [] pos] [] pos2) (eRg1 kTup fa) := by
  refine ⟨fun m τ st σ H Q hL hS hP pins s I => (pe_tupRgF hc hg hm (prg_1 hg2 hm2 peW nb) na).run pins s σ H Q I ?_⟩
  refine ha.run m τ st σ H _ hL hS (hP.bind fun d s1 m1 H1 v e1 hS1 r1 hP1 => ?_)
  split at hP1
  · cases r1
    exact ⟨_, rfl, kTup_ok hS1 hP1⟩
  · exact hP1.elim
theorem ex_lstRg1 (hc : X.calm = true) (hg : Gl X "list") (hm : X.mg "list" = none) (hg2 : Gl X "range") (hm2 : X.mg "range" = none) (ha : Ex X W a fa) (na : starEach [.Call (.Name "range" p2) [a] [] pos] X.env = (false, eval (.Call (.Name "range" p2) [a] [] pos) X.env) :: starEach [] X.env := by rfl) (nb : starEach [a] X.env = (false, eval a X.env) :: starEach [] X.env := by rfl) {pos2 : Pos} :
    Ex X W (.Call (.Name "list" p) [.Call (.Name "range" p2) [a] [] pos] [] pos2) (eRg1 kLst fa) := by
  refine ⟨fun m τ st σ H Q hL hS hP pins s I => (pe_listRg hc hg hm (prg_1 hg2 hm2 peW nb) na).run pins s σ H Q I ?_⟩
  refine ha.run m τ st σ H _ hL hS (hP.bind fun d s1 m1 H1 v e1 hS1 r1 hP1 => ?_)
  split at hP1
  · cases r1
    exact ⟨_, rfl, kLst_ok hS1 hP1⟩
  · exact hP1.elim
end
/-! ### zip of two -/
section
variable {X : Cx} {W : WX} {a b : Expr} {pos p tpos : Pos} {fa fb : EM D}
def zip2 (d e : D) (st : Store) : ER Sq := match d, e with
  | .tup xs, .tup ys => .ok (.fix (zipD xs ys)) st
  | .ref n, .ref k => match lstAt st n, lstAt st k with
    | some xs, some ys => .ok (.two n k xs ys) st
    | _, _ => .bad
  | .ref n, .tup ys => match lstAt st n with
    | some xs => .ok (.mix true n xs ys) st
    | none => .bad
  | .tup xs, .ref n => match lstAt st n with
    | some ys => .ok (.mix false n xs ys) st
    | none => .bad
  | _, _ => .bad
def iZip (fa fb : EM D) : EM Sq := fun τ st => (fa τ st).bind fun d s1 => (fb τ s1).bind fun e s2 => zip2 d e s2
theorem ei_zip {elts : List Expr} {kk : Nat} (hg : Gl X "zip") (hm : X.mg "zip" = none) (ha : Ex X W a fa) (hb : Ex X W b fb)
    (hs : starEach [a, b] X.env = (false, eval a X.env) :: starEach [b] X.env := by rfl) (hs2 : starEach [b] X.env = (false, eval b X.env) :: starEach [] X.env := by rfl) (hpl : (backTo pos (starEach [b] X.env)).any (·.1) = false := by rfl) :
    Ei X W (.Tuple elts kk tpos) (.Call (.Name "zip" p) [a, b] [] pos) (iZip fa fb) := by
  refine ⟨fun m τ st σ H R hL hS hP pins s I => (pi_zk (elts := elts) (kk := kk) (tpos := tpos) hg hm (pa_cons peW (pa_cons peW pa_nil hs2) hs) hs hpl).run pins s σ H R I ?_⟩
  refine two ha hb hL hS hP fun m2 st2 H2 dx dy x y e2 hS2 r1 r2 hP2 => ?_
  unfold zip2 at hP2
  split at hP2
  · cases r1 with
    | tup q rs =>
      cases r2 with
      | tup q2 rs2 => exact ⟨_, _, false, false, _, _, rfl, ⟨q.sq, q2.sq⟩, hP2.now hS2 (j_zk rfl fun m H st e s _ => ⟨_, _, ⟨e.tup _ _ q.sq, e.tup _ _ q2.sq⟩, rs.mono e, rs2.mono e⟩)⟩
  · split at hP2
    · rename_i xs ys hx hy
      cases r1 with
      | ref q =>
        cases r2 with
        | ref q2 =>
          obtain ⟨vs, h1, _⟩ := hS2.list hx q
          obtain ⟨us, h2, _⟩ := hS2.list hy q2
          refine ⟨_, _, true, true, vs, us, rfl, ⟨SqL.of h1, SqL.of h2⟩, hP2.now hS2 (j_zk rfl fun m H st e s hc => ?_)⟩
          have hc : (decide (lstAt st _ = some xs) && decide (lstAt st _ = some ys)) = true := hc
          rw [Bool.and_eq_true, decide_eq_true_eq, decide_eq_true_eq] at hc
          obtain ⟨vs, h1, r1⟩ := s.list hc.1 (e.pre _ _ q)
          obtain ⟨us, h2, r2⟩ := s.list hc.2 (e.pre _ _ q2)
          exact ⟨vs, us, ⟨SqL.of h1, SqL.of h2⟩, r1, r2⟩
    · exact hP2.elim
  · split at hP2
    · rename_i xs hx
      cases r1 with
      | ref q =>
        cases r2 with
        | tup q2 rs2 =>
          obtain ⟨vs, h1, _⟩ := hS2.list hx q
          refine ⟨_, _, true, false, vs, _, rfl, ⟨SqL.of h1, q2.sq⟩, hP2.now hS2 (j_zk rfl fun m H st e s hc => ?_)⟩
          have hc : decide (lstAt st _ = some xs) = true := hc
          rw [decide_eq_true_eq] at hc
          obtain ⟨vs, h1, r1⟩ := s.list hc (e.pre _ _ q)
          exact ⟨vs, _, ⟨SqL.of h1, e.tup _ _ q2.sq⟩, r1, rs2.mono e⟩
    · exact hP2.elim
  · split at hP2
    · rename_i ys hy
      cases r1 with
      | tup q rs =>
        cases r2 with
        | ref q2 =>
          obtain ⟨us, h2, _⟩ := hS2.list hy q2
          refine ⟨_, _, false, true, _, us, rfl, ⟨q.sq, SqL.of h2⟩, hP2.now hS2 (j_zk rfl fun m H st e s hc => ?_)⟩
          have hc : decide (lstAt st _ = some ys) = true := hc
          rw [decide_eq_true_eq] at hc
          obtain ⟨us, h2, r2⟩ := s.list hc (e.pre _ _ q2)
          exact ⟨_, us, ⟨e.tup _ _ q.sq, SqL.of h2⟩, rs.mono e, r2⟩
    · exact hP2.elim
  · exact hP2.elim
end
end HM

/-! HM, part D: dicts. -/
namespace HM
open PySem PySem.Spec PyProof.Rows L2

/-! ### keys -/
mutual
inductive NV (K : PySem.W.Frag) (H : Hp) : NestedKey → V → Prop
  | non : NV K H .none .non
  | int (i : Int) : NV K H (.num i) (.int i)
  | str (x : PySem.Str) : NV K H (.text x) (.str x)
  | tup {a : Addr} {vs : List V} {ks : List NestedKey} : SqT K H a vs → NVs K H ks vs → NV K H (.tup ks) (.ref a)
inductive NVs (K : PySem.W.Frag) (H : Hp) : List NestedKey → List V → Prop
  | nil : NVs K H [] []
  | cons {k : NestedKey} {v : V} {ks : List NestedKey} {vs : List V} : NV K H k v → NVs K H ks vs → NVs K H (k :: ks) (v :: vs)
end
section
variable {X : Cx} {pins : List (Addr × Obj)} {σ : L2.St} {H : Hp} {s : Shared}
mutual
theorem nv_is (I : Inv X pins σ H s) : ∀ {k : NestedKey} {v : V} {u : Value}, NV X.K H k v → RelV v u → NestedIs s.heap k u
  | _, _, _, .non, r => by
    cases (show _ = Value.none from r)
    exact .none
  | _, _, _, .int i, r => by
    obtain ⟨t, rfl⟩ := r
    exact .int i t
  | _, _, _, .str x, r => by
    obtain ⟨t, rfl⟩ := r
    exact .text x t
  | _, _, _, .tup q n, r => by
    cases (show _ = Value.ref _ from r)
    obtain ⟨its, rs, ⟨o, e, c, k, d⟩, _⟩ := I.tuple q
    exact .tup e c d (by simpa using nvs_is I n rs)
theorem nvs_is (I : Inv X pins σ H s) : ∀ {ks : List NestedKey} {vs : List V} {us : List Value}, NVs X.K H ks vs → Vals vs us → NestedAll s.heap ks us
  | _, _, _, .nil, r => by
    cases r
    exact .nil
  | _, _, _, .cons h t, r => by
    cases r with
    | cons r1 r2 => exact .cons (nv_is I h r1) (nvs_is I t r2)
end
end
section
variable {K : PySem.W.Frag} {m : List Addr} {H : Hp}
theorem nvs_of {n : Nat} (ih : ∀ (d : D) (v : V), d.plain n = true → RD K m H d v → NV K H d.nk v ∧ d.nk.depth ≤ n) : ∀ (ds : List D) (vs : List V), ds.all (D.plain n) = true → RDs K m H ds vs → NVs K H (D.nks ds) vs ∧ NestedKey.depthAll (D.nks ds) ≤ n
  | [], _, _, r => by
    cases r
    exact ⟨.nil, Nat.zero_le _⟩
  | d :: ds, _, h, r => by
    cases r with
    | cons r1 r2 =>
      rw [List.all_cons, Bool.and_eq_true] at h
      obtain ⟨a1, a2⟩ := ih d _ h.1 r1
      obtain ⟨b1, b2⟩ := nvs_of ih ds _ h.2 r2
      refine ⟨.cons a1 b1, ?_⟩
      simp only [D.nks, NestedKey.depthAll]
      omega
theorem nv_of : ∀ (n : Nat) (d : D) (v : V), d.plain n = true → RD K m H d v → NV K H d.nk v ∧ d.nk.depth ≤ n := by
  intro n
  induction n with
  | zero =>
    intro d v h r
    cases r <;> simp [D.plain] at h
    · exact ⟨.non, Nat.zero_le _⟩
    · exact ⟨.int _, Nat.zero_le _⟩
    · exact ⟨.str _, Nat.zero_le _⟩
  | succ n ih =>
    intro d v h r
    cases r with
    | non => exact ⟨.non, Nat.zero_le _⟩
    | int i => exact ⟨.int _, Nat.zero_le _⟩
    | str x => exact ⟨.str _, Nat.zero_le _⟩
    | tup s rs =>
      rename_i a vs ds
      obtain ⟨b1, b2⟩ := nvs_of ih ds vs h rs
      refine ⟨.tup s.sq b1, ?_⟩
      simp only [D.nk, NestedKey.depth]
      omega
    | _ => simp [D.plain] at h
end
theorem nks_inj {n : Nat} (ih : ∀ x y : D, x.plain n = true → y.plain n = true → x.nk = y.nk → x = y) : ∀ xs ys : List D, xs.all (D.plain n) = true → ys.all (D.plain n) = true → D.nks xs = D.nks ys → xs = ys
  | [], [], _, _, _ => rfl
  | [], _ :: _, _, _, h => by simp [D.nks] at h
  | _ :: _, [], _, _, h => by simp [D.nks] at h
  | x :: xs, y :: ys, h1, h2, h => by
    rw [List.all_cons, Bool.and_eq_true] at h1 h2
    simp only [D.nks, List.cons.injEq] at h
    rw [ih x y h1.1 h2.1 h.1, nks_inj ih xs ys h1.2 h2.2 h.2]
theorem nk_inj : ∀ (n : Nat) (x y : D), x.plain n = true → y.plain n = true → x.nk = y.nk → x = y := by
  intro n
  induction n with
  | zero => intro x y h1 h2 h; cases x <;> simp [D.plain] at h1 <;> cases y <;> simp [D.plain] at h2 <;> simp [D.nk] at h <;> first | rfl | rw [h]
  | succ n ih =>
    intro x y h1 h2 h
    cases x <;> simp only [D.plain, Bool.false_eq_true] at h1 <;> cases y <;> simp only [D.plain, Bool.false_eq_true] at h2 <;> simp [D.nk] at h <;> first
      | rfl
      | rw [h]
      | rw [nks_inj ih _ _ h1 h2 h]
/-! ### a dict's cell -/
def dctAt (st : Store) (n : Nat) : Option (List (D × D)) := match st[n]? with
  | some (.dct kvs) => some kvs
  | _ => none
theorem dct_lst {st : Store} {n : Nat} {xs : List D} (h : lstAt st n = some xs) : dctAt st n = none := by
  unfold lstAt at h
  unfold dctAt
  split at h
  · rename_i e
    rw [e]
  · cases h
theorem lst_dct {st : Store} {n : Nat} {kvs : List (D × D)} (h : dctAt st n = some kvs) : lstAt st n = none := by
  unfold dctAt at h
  unfold lstAt
  split at h
  · rename_i e
    rw [e]
  · cases h
theorem SS.dict {K : KW} {m : List Addr} {st : Store} {H : Hp} {n : Nat} {kvs : List (D × D)} {a : Addr} (s : SS K m st H) (h : dctAt st n = some kvs) (e : m[n]? = some a) : RC K m H a (.dct kvs) := by
  unfold dctAt at h
  split at h
  · rename_i q
    cases h
    exact s.cel n _ a q e
  · cases h
def D.flatK (d : D) : Bool := match d with
  | .int _ => true
  | .str _ => true
  | _ => false
def keyFit (kvs : List (D × D)) (k : D) : Bool := (k.flatK && kvs.all fun p => p.1.flatK) || (k.tupQ && kvs.all fun p => p.1.tupQ)
def dGet (kvs : List (D × D)) (k : D) : Option D := (kvs.find? fun p => decide (p.1 = k)).map (·.2)
def dPut (kvs : List (D × D)) (k v : D) : List (D × D) := if (dGet kvs k).isSome then kvs.map (fun p => if p.1 = k then (p.1, v) else p) else kvs ++ [(k, v)]
/-- what the dict at a holds at y -/
def DG (K : KW) (H : Hp) (a : Addr) (y : V) (o : Option V) : Prop :=
  (∃ us k, H a = some (.dK us) ∧ y = kV k ∧ o = valV us k) ∨
  (∃ k b, H a = some (.dK []) ∧ y = .ref b ∧ NV K H k (.ref b) ∧ k.depth ≤ 8 ∧ o = none) ∨
  (∃ xs k b, H a = some (.ext (DObj K.w a xs)) ∧ y = .ref b ∧ NV K H k (.ref b) ∧ k.depth ≤ 8 ∧ (∀ x ∈ xs, NV K H x.1 (.ref x.2.1) ∧ x.1.depth ≤ 8) ∧ o = (xs.find? fun x => decide (x.1 = k)).map (·.2.2))
theorem keyD_inj {a b : Key} (h : keyD a = keyD b) : a = b := by
  cases a <;> cases b <;> simp [keyD] at h
  · rw [h]
  · rename_i x y
    have : x = y := by
      cases x; cases y
      simp only [PySem.Str.mk.injEq]
      exact h
    rw [this]
theorem flatK_of {K : PySem.W.Frag} {m : List Addr} {H : Hp} {k : D} {v : V} (h : k.flatK = true) (r : RD K m H k v) : ∃ q : Key, k = keyD q ∧ v = kV q := by
  cases r with
  | int i => exact ⟨.inl i, rfl, rfl⟩
  | str x => exact ⟨.inr ⟨x.toArray⟩, by simp [keyD], rfl⟩
  | _ => cases h
theorem tupQ_of {K : PySem.W.Frag} {m : List Addr} {H : Hp} {k : D} {v : V} (h : k.tupQ = true) (r : RD K m H k v) : ∃ b, v = .ref b ∧ NV K H k.nk (.ref b) ∧ k.nk.depth ≤ 8 := by
  cases r with
  | tup s rs =>
    obtain ⟨z1, z2⟩ := nv_of 8 _ _ h (.tup s rs)
    exact ⟨_, rfl, z1, z2⟩
  | _ => cases h
/-- a found value and its value -/
def OptR (K : PySem.W.Frag) (m : List Addr) (H : Hp) (o : Option D) (u : Option V) : Prop := match o, u with
  | none, none => True
  | some d, some v => RD K m H d v
  | _, _ => False
section
variable {K : PySem.W.Frag} {m : List Addr} {H : Hp}
theorem get1 {kvs : List (D × D)} {us : List (Key × V)} (r : DRel1 K m H kvs us) (k : Key) : OptR K m H (dGet kvs (keyD k)) (valV us k) := by
  unfold dGet valV
  induction r with
  | nil => exact True.intro
  | @cons p q ps qs h t ih =>
    obtain ⟨h1, h2⟩ := h
    by_cases e : q.1 = k
    · rw [List.find?_cons_of_pos (by simp [h1, e]), List.find?_cons_of_pos (by simp [e])]
      exact h2
    · rw [List.find?_cons_of_neg (by simp only [h1, decide_eq_true_eq]; exact fun z => e (keyD_inj z)), List.find?_cons_of_neg (by simpa using e)]
      exact ih
theorem tupQ_plain {d : D} (h : d.tupQ = true) : d.plain 8 = true := by
  cases d <;> first | exact h | cases h
theorem get2 {kvs : List (D × D)} {xs : List (NestedKey × Addr × V)} (r : DRel2 K m H kvs xs) {k : D} (hk : k.tupQ = true) : OptR K m H (dGet kvs k) ((xs.find? fun x => decide (x.1 = k.nk)).map (·.2.2)) := by
  unfold dGet
  induction r with
  | nil => exact True.intro
  | @cons p q ps qs h t ih =>
    obtain ⟨h1, h2, h3, h4⟩ := h
    by_cases e : p.1 = k
    · rw [List.find?_cons_of_pos (by simp [e]), List.find?_cons_of_pos (by simp [h2, e])]
      exact h4
    · rw [List.find?_cons_of_neg (by simpa using e), List.find?_cons_of_neg (by simp only [h2, decide_eq_true_eq]; exact fun z => e (nk_inj 8 _ _ (tupQ_plain h1) (tupQ_plain hk) z))]
      exact ih
theorem keys2 {kvs : List (D × D)} {xs : List (NestedKey × Addr × V)} (r : DRel2 K m H kvs xs) : ∀ x ∈ xs, NV K H x.1 (.ref x.2.1) ∧ x.1.depth ≤ 8 := by
  induction r with
  | nil => exact fun _ h => nomatch h
  | @cons p q ps qs h t ih =>
    intro x hx
    obtain ⟨h1, h2, h3, h4⟩ := h
    rcases List.mem_cons.mp hx with rfl | hx
    · obtain ⟨b, e, z1, z2⟩ := tupQ_of h1 h3
      cases e
      rw [h2]
      exact ⟨z1, z2⟩
    · exact ih x hx
theorem not_both {d : D} (h1 : d.flatK = true) (h2 : d.tupQ = true) : False := by cases d <;> simp [D.flatK, D.tupQ] at h1 h2
end
theorem dg_of {K : KW} {m : List Addr} {H : Hp} {a : Addr} {kvs : List (D × D)} {k : D} {v : V} (c : RC K m H a (.dct kvs)) (r : RD K m H k v) (f : keyFit kvs k = true) : ∃ o, DG K H a v o ∧ OptR K m H (dGet kvs k) o := by
  unfold keyFit at f
  rw [Bool.or_eq_true, Bool.and_eq_true, Bool.and_eq_true] at f
  rcases c with ⟨us, e, q⟩ | ⟨xs, e, ne, q⟩
  · rcases f with ⟨f1, _⟩ | ⟨f1, f2⟩
    · obtain ⟨y, rfl, rfl⟩ := flatK_of f1 r
      exact ⟨_, .inl ⟨us, y, e, rfl, rfl⟩, get1 q y⟩
    · cases q with
      | nil =>
        obtain ⟨b, rfl, z1, z2⟩ := tupQ_of f1 r
        exact ⟨none, .inr (.inl ⟨_, b, e, rfl, z1, z2, rfl⟩), True.intro⟩
      | @cons p u ps us h t =>
        rw [List.all_cons, Bool.and_eq_true] at f2
        obtain ⟨h1, _⟩ := h
        rw [h1] at f2
        cases hu : u.1 <;> rw [hu] at f2 <;> exact absurd f2.1 (by simp [keyD, D.tupQ])
  · rcases f with ⟨f1, f2⟩ | ⟨f1, _⟩
    · cases q with
      | nil => exact absurd rfl ne
      | @cons p u ps us h t =>
        rw [List.all_cons, Bool.and_eq_true] at f2
        exact (not_both f2.1 h.1).elim
    · obtain ⟨b, rfl, z1, z2⟩ := tupQ_of f1 r
      exact ⟨_, .inr (.inr ⟨xs, _, b, e, rfl, z1, z2, keys2 q, rfl⟩), get2 q f1⟩

/-! ### the operations -/
theorem paired_find {k : NestedKey} : ∀ {xs : List (NestedKey × Addr × V)} {zs : List (NestedKey × Addr × Value)}, Paired (fun p q => p.1 = q.1 ∧ p.2.1 = q.2.1 ∧ RelV p.2.2 q.2.2) xs zs → RelO ((xs.find? fun x => decide (x.1 = k)).map (·.2.2)) ((atKey zs k).map (·.2))
  | _, _, .nil => True.intro
  | _, _, .cons (a := p) (b := q) h t => by
    have ih := paired_find (k := k) t
    unfold atKey at ih ⊢
    by_cases e : p.1 = k
    · rw [List.find?_cons_of_pos (by simp [e]), List.find?_cons_of_pos (by simp [← h.1, e])]
      exact h.2.2
    · rw [List.find?_cons_of_neg (by simpa using e), List.find?_cons_of_neg (by simpa [← h.1] using e)]
      exact ih
theorem paired_is {P : Program} {w : World} {h : Heap} : ∀ {xs : List (NestedKey × Addr × V)} {zs : List (NestedKey × Addr × Value)}, Paired (fun p q => p.1 = q.1 ∧ p.2.1 = q.2.1 ∧ RelV p.2.2 q.2.2) xs zs → (∀ x ∈ xs, (nestedKind P w).is h x.1 x.2.1) → ∀ z ∈ zs, (nestedKind P w).is h z.1 z.2.1
  | _, _, .nil, _ => fun _ h => nomatch h
  | _, _, .cons (a := p) (b := q) r t, hs => fun z hz => by
    rcases List.mem_cons.mp hz with rfl | hz
    · rw [← r.1, ← r.2.1]
      exact hs p (List.mem_cons_self ..)
    · exact paired_is t (fun x hx => hs x (List.mem_cons_of_mem _ hx)) z hz
section
variable {X : Cx} {pins : List (Addr × Obj)} {σ : L2.St} {H : Hp} {s : Shared} {a : Addr} {y v : V} {u r : Value} {o : Option V} {A : Around} {E : Value → Shared → Prop}
/-- a dict of tuple keys, as the library tells it -/
theorem dobj_at {xs : List (NestedKey × Addr × V)} (I : Inv X pins σ H s) (e : H a = some (.ext (DObj X.kw.w a xs))) (hx : ∀ x ∈ xs, NV X.K H x.1 (.ref x.2.1) ∧ x.1.depth ≤ 8) :
    (a == sysModules) = false ∧ xs.length ≤ sizeLine ∧ ∃ zs, Paired (fun p q => p.1 = q.1 ∧ p.2.1 = q.2.1 ∧ RelV p.2.2 q.2.2) xs zs ∧ s.heap.DictOfH (nestedKind X.prog X.w) a zs := by
  obtain ⟨⟨hd, hz, zs, rel, ob, es, ep, h1, h2, h3, h4, h5⟩, _, _⟩ := (show ObjOk X.prog X.w H s.heap a (.ext (DObj X.w a xs)) from I.hok a _ e)
  exact ⟨hd, hz, zs, rel, ob, es, ep, h1, h2, h3, h4, paired_is rel fun x hm => ⟨nv_is I (hx x hm).1 rfl, (hx x hm).2⟩, h5⟩
theorem dk_empty_at (I : Inv X pins σ H s) (e : H a = some (.dK [])) : (a == sysModules) = false ∧ s.heap.DictOfH (nestedKind X.prog X.w) a [] := by
  obtain ⟨_, hd, vs, rel, dd⟩ := dk_of I.hok e
  cases rel
  obtain ⟨ob, es, ep, h1, h2, h3, _, h5, _⟩ := dd
  have z : es.toList = [] := by
    generalize es.toList = l at h5
    cases h5
    rfl
  exact ⟨hd, ob, es, ep, h1, h2, h3, by rw [z]; rfl, (fun _ h => nomatch h), by simp⟩
theorem nroom (hu : A.units + 10 < cLine) : (nestedKind X.prog X.w).room A.in1 := by
  show A.units + 1 + 8 < cLine
  omega
/-- d[y], there -/
theorem dg_getItem {Q : Value → Shared → Prop} (hu : A.units + 10 < cLine) (I : Inv X pins σ H s) (g : DG X.kw H a y (some v)) (ry : RelV y u) (h : ∀ w' s', Inv X pins σ H s' → RelV v w' → Q w' s') :
    wpAny (model X.prog X.w) A (getItem (.ref a) u) Q E s := by
  rcases g with ⟨us, k, e, ey, l⟩ | ⟨k, b, e, ey, n, dp, l⟩ | ⟨xs, k, b, e, ey, n, dp, hx, l⟩
  · exact d_getItem (by omega) I (.inl ⟨us, k, .inl e, ey, l⟩) ry h
  · cases l
  · subst ey
    cases (show u = Value.ref b from ry)
    obtain ⟨hd, hz, zs, rel, dd⟩ := dobj_at I e hx
    obtain ⟨w', hw, rw'⟩ := RelO.some_of (v := v) (o := (atKey zs k).map (·.2)) (by rw [l]; exact paired_find rel)
    obtain ⟨p, hp, hp2⟩ := Option.map_eq_some_iff.mp hw
    refine wpAny_getItem_heap (nroom hu) ⟨nv_is I n rfl, dp⟩ dd hp ?_
    rw [hp2]
    exact h w' _ (I.tok _) rw'
theorem dg_in {Q : Value → Shared → Prop} (hu : A.units + 10 < cLine) (I : Inv X pins σ H s) (g : DG X.kw H a y o) (ry : RelV y u) (h : ∀ s', Inv X pins σ H s' → Q (.bool o.isSome) s') :
    wpAny (model X.prog X.w) A (compareOp .In u (.ref a)) Q E s := by
  rcases g with ⟨us, k, e, ey, l⟩ | ⟨k, b, e, ey, n, dp, l⟩ | ⟨xs, k, b, e, ey, n, dp, hx, l⟩
  · exact d_in (by omega) I (.inl ⟨us, k, .inl e, ey, l⟩) ry h
  · subst ey l
    cases (show u = Value.ref b from ry)
    obtain ⟨hd, dd⟩ := dk_empty_at I e
    exact wpAny_in_heap (nroom hu) ⟨nv_is I n rfl, dp⟩ hd dd (h _ (I.tok _))
  · subst ey
    cases (show u = Value.ref b from ry)
    obtain ⟨hd, hz, zs, rel, dd⟩ := dobj_at I e hx
    refine wpAny_in_heap (nroom hu) ⟨nv_is I n rfl, dp⟩ hd dd ?_
    have q := (paired_find (k := k) rel).isSome_eq
    rw [Option.isSome_map (x := atKey zs k)] at q
    rw [← q, ← l]
    exact h _ (I.tok _)
theorem dg_notIn {Q : Value → Shared → Prop} (hu : A.units + 10 < cLine) (I : Inv X pins σ H s) (g : DG X.kw H a y o) (ry : RelV y u) (h : ∀ s', Inv X pins σ H s' → Q (.bool (!o.isSome)) s') :
    wpAny (model X.prog X.w) A (compareOp .NotIn u (.ref a)) Q E s := by
  rcases g with ⟨us, k, e, ey, l⟩ | ⟨k, b, e, ey, n, dp, l⟩ | ⟨xs, k, b, e, ey, n, dp, hx, l⟩
  · exact d_notIn (by omega) I (.inl ⟨us, k, .inl e, ey, l⟩) ry h
  · subst ey l
    cases (show u = Value.ref b from ry)
    obtain ⟨hd, dd⟩ := dk_empty_at I e
    exact wpAny_notIn_heap (nroom hu) ⟨nv_is I n rfl, dp⟩ hd dd (h _ (I.tok _))
  · subst ey
    cases (show u = Value.ref b from ry)
    obtain ⟨hd, hz, zs, rel, dd⟩ := dobj_at I e hx
    refine wpAny_notIn_heap (nroom hu) ⟨nv_is I n rfl, dp⟩ hd dd ?_
    have q := (paired_find (k := k) rel).isSome_eq
    rw [Option.isSome_map (x := atKey zs k)] at q
    rw [← q, ← l]
    exact h _ (I.tok _)
/-- d.get(y), d.get(y, x) -/
theorem dg_get1 {Q : Value → Shared → Prop} (hu : A.units + 10 < cLine) (I : Inv X pins σ H s) (g : DG X.kw H a y o) (ry : RelV y u) (h : ∀ w' s', Inv X pins σ H s' → RelV (o.getD .non) w' → Q w' s') :
    wpAny (model X.prog X.w) A (call (.builtin "dict.get") [.ref a, u]) Q E s := by
  rcases g with ⟨us, k, e, ey, l⟩ | ⟨k, b, e, ey, n, dp, l⟩ | ⟨xs, k, b, e, ey, n, dp, hx, l⟩
  · exact d_get1 (by omega) I (.inl ⟨us, k, .inl e, ey, l⟩) ry h
  · subst ey l
    cases (show u = Value.ref b from ry)
    obtain ⟨hd, dd⟩ := dk_empty_at I e
    exact call_meetsIn PySem.F.slot_dict_get dd.typeIs PySem.F.entry_dict_get (PySem.F.args_dict_get_2 _ _) (meetsH_dict_get (nestedKind X.prog X.w) a b hd) ⟨nroom hu, k, [], ⟨nv_is I n rfl, dp⟩, dd, h _ _ (I.tok _) rfl⟩
  · subst ey
    cases (show u = Value.ref b from ry)
    obtain ⟨hd, hz, zs, rel, dd⟩ := dobj_at I e hx
    refine call_meetsIn PySem.F.slot_dict_get dd.typeIs PySem.F.entry_dict_get (PySem.F.args_dict_get_2 _ _) (meetsH_dict_get (nestedKind X.prog X.w) a b hd) ⟨nroom hu, k, zs, ⟨nv_is I n rfl, dp⟩, dd, h _ _ (I.tok _) ?_⟩
    rw [l]
    exact (paired_find (k := k) rel).getD rfl
theorem dg_get2 {d : V} {Q : Value → Shared → Prop} (hu : A.units + 10 < cLine) (I : Inv X pins σ H s) (g : DG X.kw H a y o) (ry : RelV y u) (rd : RelV d r) (h : ∀ w' s', Inv X pins σ H s' → RelV (o.getD d) w' → Q w' s') :
    wpAny (model X.prog X.w) A (call (.builtin "dict.get") [.ref a, u, r]) Q E s := by
  rcases g with ⟨us, k, e, ey, l⟩ | ⟨k, b, e, ey, n, dp, l⟩ | ⟨xs, k, b, e, ey, n, dp, hx, l⟩
  · exact d_get2 (by omega) I (.inl ⟨us, k, .inl e, ey, l⟩) ry rd h
  · subst ey l
    cases (show u = Value.ref b from ry)
    obtain ⟨hd, dd⟩ := dk_empty_at I e
    exact call_meetsIn PySem.F.slot_dict_get dd.typeIs PySem.F.entry_dict_get (PySem.F.args_dict_get_3 _ _ _) (meetsH_dict_get_default (nestedKind X.prog X.w) a b hd r) ⟨nroom hu, k, [], ⟨nv_is I n rfl, dp⟩, dd, h _ _ (I.tok _) rd⟩
  · subst ey
    cases (show u = Value.ref b from ry)
    obtain ⟨hd, hz, zs, rel, dd⟩ := dobj_at I e hx
    refine call_meetsIn PySem.F.slot_dict_get dd.typeIs PySem.F.entry_dict_get (PySem.F.args_dict_get_3 _ _ _) (meetsH_dict_get_default (nestedKind X.prog X.w) a b hd r) ⟨nroom hu, k, zs, ⟨nv_is I n rfl, dp⟩, dd, h _ _ (I.tok _) ?_⟩
    rw [l]
    exact (paired_find (k := k) rel).getD rd
end
/-! ### d[y] = v -/
def putX (xs : List (NestedKey × Addr × V)) (k : NestedKey) (b : Addr) (v : V) : List (NestedKey × Addr × V) := if (xs.any fun x => decide (x.1 = k)) then xs.map (fun x => if x.1 = k then (x.1, x.2.1, v) else x) else xs ++ [(k, b, v)]
theorem paired_any {k : NestedKey} : ∀ {xs : List (NestedKey × Addr × V)} {zs : List (NestedKey × Addr × Value)}, Paired (fun p q => p.1 = q.1 ∧ p.2.1 = q.2.1 ∧ RelV p.2.2 q.2.2) xs zs → (xs.any fun x => decide (x.1 = k)) = (atKey zs k).isSome
  | _, _, .nil => rfl
  | _, _, .cons (a := p) (b := q) h t => by
    have ih := paired_any (k := k) t
    unfold atKey at ih ⊢
    rw [List.any_cons, ih]
    by_cases e : p.1 = k
    · rw [List.find?_cons_of_pos (by simp [← h.1, e])]
      simp [e]
    · rw [List.find?_cons_of_neg (by simpa [← h.1] using e)]
      simp [e]
theorem paired_map {k : NestedKey} {v : V} {r : Value} (rv : RelV v r) : ∀ {xs : List (NestedKey × Addr × V)} {zs : List (NestedKey × Addr × Value)}, Paired (fun p q => p.1 = q.1 ∧ p.2.1 = q.2.1 ∧ RelV p.2.2 q.2.2) xs zs → Paired (fun p q => p.1 = q.1 ∧ p.2.1 = q.2.1 ∧ RelV p.2.2 q.2.2) (xs.map (fun x => if x.1 = k then (x.1, x.2.1, v) else x)) (zs.map (putAt k r))
  | _, _, .nil => .nil
  | _, _, .cons (a := p) (b := q) h t => by
    refine .cons ?_ (paired_map rv t)
    unfold putAt
    simp only []
    by_cases e : p.1 = k
    · rw [if_pos e, if_pos (by rw [← h.1]; exact e)]
      exact ⟨h.1, h.2.1, rv⟩
    · rw [if_neg e, if_neg (by rw [← h.1]; exact e)]
      exact h
theorem paired_put {k : NestedKey} {b : Addr} {v : V} {r : Value} (rv : RelV v r) {xs : List (NestedKey × Addr × V)} {zs : List (NestedKey × Addr × Value)} (rel : Paired (fun p q => p.1 = q.1 ∧ p.2.1 = q.2.1 ∧ RelV p.2.2 q.2.2) xs zs) :
    Paired (fun p q => p.1 = q.1 ∧ p.2.1 = q.2.1 ∧ RelV p.2.2 q.2.2) (putX xs k b v) (storedH zs k b r) := by
  unfold putX storedH
  rw [paired_any rel]
  by_cases e : (atKey zs k).isSome = true
  · rw [if_pos e, if_pos e]
    exact paired_map rv rel
  · rw [if_neg e, if_neg e]
    exact Paired.snoc rel ⟨rfl, rfl, rv⟩
theorem putX_len {xs : List (NestedKey × Addr × V)} {k : NestedKey} {b : Addr} {v : V} : (putX xs k b v).length ≤ xs.length + 1 := by
  unfold putX
  split <;> simp
/-- the heap behind a[y] = v -/
def DP (K : KW) (H : Hp) (a : Addr) (y v : V) (H' : Hp) : Prop :=
  (∃ us k, H a = some (.dK us) ∧ y = kV k ∧ us.length < sizeLine ∧ H' = upd H a (.dK (putK us k v))) ∨
  (∃ k b, H a = some (.dK []) ∧ y = .ref b ∧ NV K H k (.ref b) ∧ k.depth ≤ 8 ∧ H' = upd H a (.ext (DObj K.w a [(k, b, v)]))) ∨
  (∃ xs k b, H a = some (.ext (DObj K.w a xs)) ∧ y = .ref b ∧ NV K H k (.ref b) ∧ k.depth ≤ 8 ∧ (∀ x ∈ xs, NV K H x.1 (.ref x.2.1) ∧ x.1.depth ≤ 8) ∧ xs.length < sizeLine ∧ H' = upd H a (.ext (DObj K.w a (putX xs k b v))))
theorem dobj_ok {P : Program} {w : World} {a : Addr} {xs : List (NestedKey × Addr × V)} {H' : Hp} {h' : Heap} {zs : List (NestedKey × Addr × Value)} (hd : (a == sysModules) = false) (hz : xs.length ≤ sizeLine) (rel : Paired (fun p q => p.1 = q.1 ∧ p.2.1 = q.2.1 ∧ RelV p.2.2 q.2.2) xs zs)
    (dd : h'.DictOfH (nestedKind P w) a zs) : ObjOk P w H' h' a (.ext (DObj w a xs)) := by
  obtain ⟨ob, es, ep, h1, h2, h3, h4, _, h5⟩ := dd
  refine ⟨⟨hd, hz, zs, rel, ob, es, ep, h1, h2, h3, h4, h5⟩, ⟨ob, h1⟩, fun g1 g2 ⟨_, _, zs', rel', ob', es', ep', h1', r'⟩ st => ⟨hd, hz, zs', rel', ob', es', ep', st _ h1', r'⟩⟩
section
variable {X : Cx} {pins : List (Addr × Obj)} {σ : L2.St} {H H' : Hp} {s : Shared} {a : Addr} {y v : V} {u r : Value} {A : Around} {E : Value → Shared → Prop}
theorem dg_set {Q : Unit → Shared → Prop} (hu : A.units + 10 < cLine) (I : Inv X pins σ H s) (g : DP X.kw H a y v H') (ry : RelV y u) (rv : RelV v r) (h : ∀ s', Inv X pins σ H' s' → Q () s') :
    wpAny (model X.prog X.w) A (setItem (.ref a) u r) Q E s := by
  rcases g with ⟨us, k, e, ey, l, eH⟩ | ⟨k, b, e, ey, n, dp, eH⟩ | ⟨xs, k, b, e, ey, n, dp, hx, l, eH⟩
  · exact d_setItem (by omega) I (.inl ⟨us, k, e, ey, l, eH⟩) ry rv h
  · subst ey eH
    cases (show u = Value.ref b from ry)
    obtain ⟨hd, dd⟩ := dk_empty_at I e
    refine wpAny_setItem_heap (hsz := Nat.zero_le _) (nroom hu) ⟨nv_is I n rfl, dp⟩ dd fun h' dd' hs => h _ ?_
    have he : ∃ q, h'.get? a = some q := let ⟨q, _, _, hq, _⟩ := dd'; ⟨q, hq⟩
    refine d_write I (by rw [e]; exact True.intro) hs he (dobj_ok hd (by rw [PySem.sizeLine_eq]; show 1 ≤ _; omega) ?_ dd')
    exact .cons ⟨rfl, rfl, rv⟩ .nil
  · subst ey eH
    cases (show u = Value.ref b from ry)
    obtain ⟨hd, hz, zs, rel, dd⟩ := dobj_at I e hx
    refine wpAny_setItem_heap (hsz := by rw [← Paired.length rel]; exact hz) (nroom hu) ⟨nv_is I n rfl, dp⟩ dd fun h' dd' hs => h _ ?_
    have he : ∃ q, h'.get? a = some q := let ⟨q, _, _, hq, _⟩ := dd'; ⟨q, hq⟩
    exact d_write I (by rw [e]; exact True.intro) hs he (dobj_ok hd (by have := putX_len (xs := xs) (k := k) (b := b) (v := v); omega) (paired_put rv rel) dd')
end

/-! ### the store's side -/
theorem dp_of {K : KW} {m : List Addr} {st : Store} {H : Hp} {n : Nat} {kvs : List (D × D)} {k d : D} {y v : V} {a : Addr} (hS : SS K m st H) (hk : dctAt st n = some kvs) (hn : m[n]? = some a) (rk : RD K m H k y) (rv : RD K m H d v) (f : keyFit kvs k = true) (hl : kvs.length < 16777216) :
    ∃ H', DP K H a y v H' ∧ Ext K m H m H' ∧ SS K m (st.set n (.dct (dPut kvs k d))) H' := by
  have c := hS.dict hk hn
  have f' := f
  unfold keyFit at f'
  rw [Bool.or_eq_true, Bool.and_eq_true, Bool.and_eq_true] at f'
  rcases c with ⟨us, e, q⟩ | ⟨xs, e, ne, q⟩
  · have mu : Mut (H a) := by rw [e]; exact True.intro
    rcases f' with ⟨f1, _⟩ | ⟨f1, f2⟩
    · obtain ⟨w, rfl, rfl⟩ := flatK_of f1 rk
      refine ⟨_, .inl ⟨us, w, e, rfl, below_line (by rw [← Paired.length q]; exact hl), rfl⟩, Ext.writeM mu hn, hS.writeM mu hn (.inl ⟨_, upd_same, ?_⟩)⟩
      have kp : ∀ o : HO, Kp K m H m (upd H a o) := fun _ => Kp.writeM mu
      unfold dPut putK
      have ea : (dGet kvs (keyD w)).isSome = (us.any fun kv => decide (kv.1 = w)) := by
        have z := get1 q w
        rw [valV_any]
        cases h1 : dGet kvs (keyD w) <;> cases h2 : valV us w <;> rw [h1, h2] at z <;> first | rfl | exact z.elim
      rw [ea]
      split
      · have go : ∀ {kvs us}, DRel1 K m H kvs us → Paired (fun (p : D × D) (q : Key × V) => p.1 = keyD q.1 ∧ RD K m H p.2 q.2) (kvs.map fun p => if p.1 = keyD w then (p.1, d) else p) (us.map fun kv => if kv.1 = w then (kv.1, v) else kv) := fun {kvs us} r => by
          induction r with
          | nil => exact .nil
          | @cons p u ps us h t ih =>
            refine .cons ?_ ih
            simp only []
            by_cases e : u.1 = w
            · rw [if_pos e, if_pos (by rw [h.1, e])]
              exact ⟨h.1, rv⟩
            · rw [if_neg e, if_neg (by rw [h.1]; exact fun z => e (keyD_inj z))]
              exact h
        exact DRel1.kp (go q) (kp _)
      · exact DRel1.kp (Paired.snoc q ⟨rfl, rv⟩) (kp _)
    · have hnil : kvs = [] ∧ us = [] := by
        cases q with
        | nil => exact ⟨rfl, rfl⟩
        | @cons p u ps us h t =>
          rw [List.all_cons, Bool.and_eq_true] at f2
          obtain ⟨h1, _⟩ := h
          rw [h1] at f2
          cases hu : u.1 <;> rw [hu] at f2 <;> exact absurd f2.1 (by simp [keyD, D.tupQ])
      obtain ⟨rfl, rfl⟩ := hnil
      obtain ⟨b, rfl, z1, z2⟩ := tupQ_of f1 rk
      refine ⟨_, .inr (.inl ⟨k.nk, b, e, rfl, z1, z2, rfl⟩), Ext.writeM mu hn, hS.writeM mu hn (.inr ⟨_, upd_same, by simp, ?_⟩)⟩
      have kp : ∀ o : HO, Kp K m H m (upd H a o) := fun _ => Kp.writeM mu
      have e0 : dPut [] k d = [(k, d)] := rfl
      rw [e0]
      exact .cons ⟨f1, rfl, rk.kp (kp _), rv.kp (kp _)⟩ .nil
  · have mu : Mut (H a) := by rw [e]; exact True.intro
    rcases f' with ⟨f1, f2⟩ | ⟨f1, _⟩
    · cases q with
      | nil => exact absurd rfl ne
      | @cons p u ps us h t =>
        rw [List.all_cons, Bool.and_eq_true] at f2
        exact (not_both f2.1 h.1).elim
    · obtain ⟨b, rfl, z1, z2⟩ := tupQ_of f1 rk
      refine ⟨_, .inr (.inr ⟨xs, k.nk, b, e, rfl, z1, z2, keys2 q, below_line (by rw [← Paired.length q]; exact hl), rfl⟩), Ext.writeM mu hn, hS.writeM mu hn (.inr ⟨_, upd_same, ?_, ?_⟩)⟩
      · unfold putX
        split
        · intro z
          exact ne (List.map_eq_nil_iff.mp z)
        · simp
      · have kp : ∀ o : HO, Kp K m H m (upd H a o) := fun _ => Kp.writeM mu
        unfold dPut putX
        have ea : (dGet kvs k).isSome = (xs.any fun x => decide (x.1 = k.nk)) := by
          have z := get2 q f1
          have z2 : (xs.any fun x => decide (x.1 = k.nk)) = ((xs.find? fun x => decide (x.1 = k.nk)).map (·.2.2)).isSome := by
            rw [Option.isSome_map, Bool.eq_iff_iff, List.find?_isSome]
            simp
          rw [z2]
          cases h1 : dGet kvs k <;> cases h2 : (xs.find? fun x => decide (x.1 = k.nk)).map (·.2.2) <;> rw [h1, h2] at z <;> first | rfl | exact z.elim
        rw [ea]
        split
        · have go : ∀ {kvs xs}, DRel2 K m H kvs xs → DRel2 K m H (kvs.map fun p => if p.1 = k then (p.1, d) else p) (xs.map fun x => if x.1 = k.nk then (x.1, x.2.1, v) else x) := fun {kvs xs} r => by
            induction r with
            | nil => exact .nil
            | @cons p u ps us h t ih =>
              refine .cons ?_ ih
              simp only []
              by_cases e : p.1 = k
              · rw [if_pos e, if_pos (by rw [h.2.1, e])]
                exact ⟨h.1, h.2.1, h.2.2.1, rv⟩
              · rw [if_neg e, if_neg (by rw [h.2.1]; exact fun z => e (nk_inj 8 _ _ (tupQ_plain h.1) (tupQ_plain f1) z))]
                exact h
          exact DRel2.kp (go q) (kp _)
        · exact DRel2.kp (Paired.snoc q ⟨f1, rfl, rk, rv⟩) (kp _)
/-! ### {}, d[k], k in d, d[k] = v, len(d) -/
section
variable {X : Cx} {W : WX} {e o a b c : Expr} {es : List Expr} {pos p : Pos} {f fo fa fb fe fi : EM D} {fs : EM (List D)}
def eDct : EM D := fun _ st => .ok (.ref st.length) (st ++ [.dct []])
theorem ex_dct : Ex X W (.Dict [] [] pos) eDct := ⟨fun m τ st σ H Q hL hS hP pins s I => pe_dnewK.run pins s σ H Q I fun p hp => by
  refine hP (m ++ [p]) _ _ (Ext.app hp) (hS.app hp (.inl ⟨[], upd_same, .nil⟩)) (.ref ?_)
  rw [← hS.len]
  simp⟩
def rDG (K : KW) : R2 := fun x y H Q => ∃ a v, x = .ref a ∧ DG K H a y (some v) ∧ Q v H
theorem dg_typeIs {pins : List (Addr × Obj)} {σ : L2.St} {H : Hp} {s : Shared} {a : Addr} {y : V} {o : Option V} (I : Inv X pins σ H s) (g : DG X.kw H a y o) : s.TypeIs (.ref a) "dict" := by
  rcases g with ⟨us, k, e, ey, l⟩ | ⟨k, b, e, ey, n, dp, l⟩ | ⟨xs, k, b, e, ey, n, dp, hx, l⟩
  · obtain ⟨_, _, vs, _, dd⟩ := dk_of I.hok e
    exact dd.typeIs
  · exact (dk_empty_at I e).2.typeIs
  · obtain ⟨_, _, zs, _, dd⟩ := dobj_at I e hx
    exact dd.typeIs
theorem ix_dg (hu : X.A.units + 10 < cLine) : IxR X (rDG X.kw) := by
  intro value slice pins s σ H x y v u Q I rx ry h hs
  obtain ⟨a, z, rfl, g, q⟩ := h
  cases (show v = Value.ref a from rx)
  exact tail_any (dg_typeIs I g) PySem.F.slot_dict_getitem.lookup (dg_getItem hu I g ry fun w' s' I' rw' => ⟨z, H, I', rw', q⟩) hs
theorem get_dg (hu : X.A.units + 10 < cLine) : PGet X (rDG X.kw) := by
  intro pins s σ H x y v u Q I rx ry h
  obtain ⟨a, z, rfl, g, q⟩ := h
  cases (show v = Value.ref a from rx)
  exact dg_getItem hu I g ry fun w' s' I' rw' => ⟨z, H, I', rw', q⟩
def oIx : O2 := fun x y st => match x with
  | .ref n => match dctAt st n with
    | some kvs => if keyFit kvs y then match dGet kvs y with
        | some d => .ok d st
        | none => .bad
      else .bad
    | none => oIxS x y st
  | _ => oIxS x y st
theorem dg_some {m : List Addr} {st : Store} {H : Hp} {n : Nat} {kvs : List (D × D)} {dy d : D} {vx vy : V} {E : XK} {Q : VK} (hS : SS X.kw m st H) (hk : dctAt st n = some kvs) (rx : RD X.K m H (.ref n) vx) (ry : RD X.K m H dy vy) (f : keyFit kvs dy = true) (hd : dGet kvs dy = some d)
    (hP : Pe X.kw E (RD X.K) m H (.ok d st) Q) : rDG X.kw vx vy H Q := by
  cases rx with
  | ref q =>
    obtain ⟨o, g, r⟩ := dg_of (hS.dict hk q) ry f
    rw [hd] at r
    cases o with
    | none => exact r.elim
    | some v => exact ⟨_, v, rfl, g, hP.now hS r⟩
theorem m_ix (hu : X.A.units + 65 < cLine) : IxM X W oIx := by
  obtain ⟨r, hr, h⟩ := m_ixS (X := X) (W := W)
  refine ⟨_, hr.or (ix_dg (by omega)), fun m st H dx dy x y E Q hS r1 r2 hP => ?_⟩
  unfold oIx at hP
  split at hP
  · split at hP
    · rename_i kvs hk
      split at hP
      · rename_i f
        split at hP
        · rename_i d hd
          exact .inr (dg_some hS hk r1 r2 f hd hP)
        · exact hP.elim
      · exact hP.elim
    · exact .inl (h m st H _ dy x y E Q hS r1 r2 hP)
  · exact .inl (h m st H dx dy x y E Q hS r1 r2 hP)
/-! in -/
def dIn (x y : D) (st : Store) : Option Bool := match y with
  | .ref n => match dctAt st n with
    | some kvs => if keyFit kvs x then some (dGet kvs x).isSome else none
    | none => dInS x y st
  | _ => dInS x y st
def oIn : O2 := fun x y st => match dIn x y st with
  | some b => .ok (.bl b) st
  | none => .bad
def oNotIn : O2 := fun x y st => match dIn x y st with
  | some b => .ok (.bl !b) st
  | none => .bad
theorem optR_some {K : PySem.W.Frag} {m : List Addr} {H : Hp} {o : Option D} {u : Option V} (r : OptR K m H o u) : o.isSome = u.isSome := by
  cases o <;> cases u <;> first | rfl | exact r.elim
theorem m_in (hu : X.A.units + 65 < cLine) : OpM X W (compareOp .In) oIn := fun m st σ H dx dy x y Q hS r1 r2 hP pins s v u I rx ry => by
  have old := fun hP => m_inS (W := W) hu m st σ H dx dy x y Q hS r1 r2 hP pins s v u I rx ry
  unfold oIn dIn at hP
  unfold oInS at old
  cases dy with
  | ref n =>
    simp only at hP
    cases hk : dctAt st n with
    | some kvs =>
      rw [hk] at hP
      simp only at hP
      by_cases f : keyFit kvs dx = true
      · rw [if_pos f] at hP
        cases r2 with
        | ref q =>
          obtain ⟨o, g, r⟩ := dg_of (hS.dict hk q) r1 f
          cases (show u = Value.ref _ from ry)
          refine dg_in (by omega) I g rx fun s' I' => ⟨.bl o.isSome, H, I', rfl, ?_⟩
          rw [← optR_some r]
          exact hP.now hS (.bl _)
      · rw [if_neg f] at hP
        exact hP.elim
    | none =>
      rw [hk] at hP
      exact old hP
  | _ => exact old hP
theorem m_notin (hu : X.A.units + 65 < cLine) : OpM X W (compareOp .NotIn) oNotIn := fun m st σ H dx dy x y Q hS r1 r2 hP pins s v u I rx ry => by
  have old := fun hP => m_notinS (W := W) hu m st σ H dx dy x y Q hS r1 r2 hP pins s v u I rx ry
  unfold oNotIn dIn at hP
  unfold oNotInS at old
  cases dy with
  | ref n =>
    simp only at hP
    cases hk : dctAt st n with
    | some kvs =>
      rw [hk] at hP
      simp only at hP
      by_cases f : keyFit kvs dx = true
      · rw [if_pos f] at hP
        cases r2 with
        | ref q =>
          obtain ⟨o, g, r⟩ := dg_of (hS.dict hk q) r1 f
          cases (show u = Value.ref _ from ry)
          refine dg_notIn (by omega) I g rx fun s' I' => ⟨.bl (!o.isSome), H, I', rfl, ?_⟩
          rw [← optR_some r]
          exact hP.now hS (.bl _)
      · rw [if_neg f] at hP
        exact hP.elim
    | none =>
      rw [hk] at hP
      exact old hP
  | _ => exact old hP
/-! o[i] = v -/
def rSet (K : KW) : V → V → V → Hp → (Hp → Prop) → Prop := fun o i v H Q => rSetL o i v H Q ∨ ∃ a H', o = .ref a ∧ DP K H a i v H' ∧ Q H'
theorem set_any (hu : X.A.units + 10 < cLine) : PSet X (rSet X.kw) := by
  intro pins s σ H o i v ov iv u Q I ro ri rv h
  rcases h with h | ⟨a, H', rfl, g, q⟩
  · exact set_list pins s σ H o i v ov iv u Q I ro ri rv h
  · cases (show ov = Value.ref a from ro)
    exact dg_set hu I g ri rv fun s' I' => ⟨H', I', q⟩
def oSet : D → D → D → Store → Option Store := fun o i v st => match o with
  | .ref n => match dctAt st n with
    | some kvs => if keyFit kvs i && decide (kvs.length < 16777216) then some (st.set n (.dct (dPut kvs i v))) else none
    | none => oSetS o i v st
  | _ => oSetS o i v st
theorem set_read {K : KW} {m : List Addr} {st st' : Store} {H : Hp} {o i v : D} {vo vi vv : V} (hS : SS K m st H) (ro : RD K m H o vo) (ri : RD K m H i vi) (rv : RD K m H v vv) (h : oSet o i v st = some st') :
    ∃ H', Ext K m H m H' ∧ SS K m st' H' ∧ ∀ Q : Hp → Prop, Q H' → rSet K vo vi vv H Q := by
  have old : oSetS o i v st = some st' → ∃ H', Ext K m H m H' ∧ SS K m st' H' ∧ ∀ Q : Hp → Prop, Q H' → rSet K vo vi vv H Q := fun h => by
    obtain ⟨p, xs, k, j, q1, q2, q3, q4, q5, q6⟩ := set_readS hS ro ri rv h
    exact ⟨_, q5, q6, fun Q q => .inl ⟨p, xs, k, j, q1, q2, q3, q4, q⟩⟩
  unfold oSet at h
  cases o with
  | ref n =>
    simp only at h
    cases hk : dctAt st n with
    | some kvs =>
      rw [hk] at h
      simp only at h
      by_cases f : (keyFit kvs i && decide (kvs.length < 16777216)) = true
      · rw [if_pos f] at h
        cases h
        rw [Bool.and_eq_true, decide_eq_true_eq] at f
        cases ro with
        | ref q =>
          obtain ⟨H', g, e, s⟩ := dp_of hS hk q ri rv f.1 f.2
          exact ⟨H', e, s, fun Q z => .inr ⟨_, H', rfl, g, z⟩⟩
      · rw [if_neg f] at h
        cases h
    | none =>
      rw [hk] at h
      exact old h
  | _ => exact old h
def sSub (fo fi fe : EM D) : SM := fun τ st => bindE (fe τ st) τ fun v s1 => bindE (fo τ s1) τ fun o s2 => bindE (fi τ s2) τ fun i s3 => match oSet o i v s3 with
  | some s4 => .nx τ s4
  | none => .bad
theorem sx_sub {o i : Expr} {p' : Pos} {fo fi : EM D} (hu : X.A.units + 65 < cLine) (he : Ex X W e fe) (ho : Ex X W o fo) (hi : Ex X W i fi)
    (ha : ∀ v, assign (.Subscript o i p') X.env v = (do
      let ov ← holding [v] (eval o X.env)
      let iv ← holding [v, ov] (eval i X.env)
      standAt p'
      holding [v, ov, iv] (setItem ov iv v)
      release [v, ov, iv] []) := by intro _; rfl)
    (hs : swapsWithSole [.Subscript o i p'] e pos.line X.env = pure false := by rfl) (hw : swappedStores [.Subscript o i p'] e X.env = pure none := by rfl) (h1 : (assignEach [.Subscript o i p'] X.env).map (·.2) = [assign (.Subscript o i p') X.env] := by rfl) : Sx X W (.Assign [.Subscript o i p'] e pos) (sSub fo fi fe) := by
  refine ⟨fun m τ s σ H D hL hS hP pins sh I => (ps_asg peW (pg_sub peW peW (set_any (by omega)) ha) hs hw h1).run pins sh σ H D I ?_⟩
  refine he.run m τ s σ H _ hL hS (hP.bind hL fun v s1 m1 H1 vv e1 hS1 r1 hP1 => ?_)
  refine ho.run m1 τ s1 σ H1 _ (hL.mono e1) hS1 (hP1.bind (hL.mono e1) fun o s2 m2 H2 vo e2 hS2 r2 hP2 => ?_)
  refine hi.run m2 τ s2 σ H2 _ ((hL.mono e1).mono e2) hS2 (hP2.bind ((hL.mono e1).mono e2) fun i s3 m3 H3 vi e3 hS3 r3 hP3 => ?_)
  split at hP3
  · rename_i s4 h4
    obtain ⟨H4, q5, q6, q7⟩ := set_read hS3 (r2.mono e3) r3 ((r1.mono e2).mono e3) h4
    exact q7 _ (hP3 m3 _ σ q5 q6 ((((hL.mono e1).mono e2).mono e3).mono q5))
  · exact hP3.elim
/-! o[i] op= e -/
def oGetL : O2 := fun x i st => match x with
  | .ref n => match dctAt st n with
    | some kvs => if keyFit kvs i then match dGet kvs i with
        | some d => .ok d st
        | none => .bad
      else .bad
    | none => oGetLS x i st
  | _ => oGetLS x i st
def sAugS (o : O2) (fo fi fe : EM D) : SM := fun τ st => bindE (fo τ st) τ fun x s1 => bindE (fi τ s1) τ fun i s2 => bindE (oGetL x i s2) τ fun y s3 => bindE (fe τ s3) τ fun z s4 => bindE (o y z s4) τ fun v s5 => match oSet x i v s5 with
  | some s6 => .nx τ s6
  | none => .bad
def rGet (K : KW) : R2 := fun x y H Q => rIxL K x y H Q ∨ rDG K x y H Q
theorem get_any (hu : X.A.units + 10 < cLine) : PGet X (rGet X.kw) := by
  intro pins s σ H x y v u Q I rx ry h
  rcases h with h | h
  · exact get_list pins s σ H x y v u Q I rx ry h
  · exact get_dg hu pins s σ H x y v u Q I rx ry h
theorem getL_read {m : List Addr} {st : Store} {H : Hp} {x i : D} {vx vi : V} {E : XK} {Q : VK} (hS : SS X.kw m st H) (rx : RD X.K m H x vx) (ri : RD X.K m H i vi) (h : Pe X.kw E (RD X.K) m H (oGetL x i st) Q) : rGet X.kw vx vi H Q := by
  unfold oGetL at h
  split at h
  · split at h
    · rename_i kvs hk
      split at h
      · rename_i f
        split at h
        · rename_i d hd
          exact .inr (dg_some hS hk rx ri f hd h)
        · exact h.elim
      · exact h.elim
    · exact .inl (getL_readS hS rx ri h)
  · exact .inl (getL_readS hS rx ri h)
end
section
variable {X : Cx} {W : WX} {e o a b c : Expr} {es : List Expr} {pos p : Pos} {f fo fa fb fe fi : EM D} {fs : EM (List D)}
theorem sx_augS {o i : Expr} {p' : Pos} {fo fi : EM D} {op : Operator} {op2 : O2} (hu : X.A.units + 65 < cLine) (ho : Ex X W o fo) (hi : Ex X W i fi) (he : Ex X W e fe) (hop : OpM X W (inplaceOp op) op2)
    (ha : ∀ ov iv new, augStore i ov iv new = (do holding [new, ov, iv] (setItem ov iv new); release [new, ov, iv] []; pure .next) := by intros; rfl) : Sx X W (.AugAssign (.Subscript o i p') op e pos) (sAugS op2 fo fi fe) := by
  refine ⟨fun m τ s σ H D hL hS hP pins sh I => ?_⟩
  have read : wE X o σ H fun vo H1 => wE X i σ H1 fun vi H2 => rGet X.kw vo vi H2 fun vy H3 => wE X e σ H3 fun vz H4 => wR2 X (inplaceOp op) σ vy vz H4 fun vv H5 => rSet X.kw vo vi vv H5 fun H6 => D.nx σ H6 := by
    refine ho.run m τ s σ H _ hL hS (hP.bind hL fun dx s1 m1 H1 vx e1 hS1 r1 hP1 => ?_)
    have hL1 := hL.mono e1
    refine hi.run m1 τ s1 σ H1 _ hL1 hS1 (hP1.bind hL1 fun di s2 m2 H2 vi e2 hS2 r2 hP2 => ?_)
    have hL2 := hL1.mono e2
    refine getL_read hS2 (r1.mono e2) r2 (hP2.bind hL2 fun dy s3 m3 H3 vy e3 hS3 r3 hP3 => ?_)
    have hL3 := hL2.mono e3
    refine he.run m3 τ s3 σ H3 _ hL3 hS3 (hP3.bind hL3 fun dz s4 m4 H4 vz e4 hS4 r4 hP4 => ?_)
    have hL4 := hL3.mono e4
    intro pins s v u I rv ru
    refine hop m4 s4 σ H4 dy dz vy vz _ hS4 (r3.mono e4) r4 (hP4.bind hL4 fun dv s5 m5 H5 vv e5 hS5 r5 hP5 => ?_) pins s v u I rv ru
    have hL5 := hL4.mono e5
    split at hP5
    · rename_i s6 h6
      have e25 := ((e3.trans e4).trans e5)
      obtain ⟨H6, q5, q6, q7⟩ := set_read hS5 ((r1.mono e2).mono e25) (r2.mono e25) r5 h6
      exact q7 _ (hP5 m5 _ σ q5 q6 (hL5.mono q5))
    · exact hP5.elim
  refine wpAny_AugAssign_SubscriptAny (thn (read pins sh I) fun ov s1 ⟨x1, H1, I1, r1, q1⟩ => ?_) ha
  refine thn (q1 pins s1 I1) fun iv s2 ⟨x2, H2, I2, r2, q2⟩ => ?_
  refine thn (get_any (by omega) pins s2 σ H2 x1 x2 ov iv _ I2 r1 r2 q2) fun old s3 ⟨x3, H3, I3, r3, q3⟩ => ?_
  refine thn (q3 pins s3 I3) fun v s4 ⟨x4, H4, I4, r4, q4⟩ => ?_
  refine thn (q4 pins s4 old v I4 r3 r4) fun new s5 ⟨x5, H5, I5, r5, q5⟩ => ?_
  exact thn (set_any (by omega) pins s5 σ H5 x1 x2 x5 ov iv new _ I5 r1 r2 r5 q5) fun _ s6 ⟨H6, I6, q6⟩ => ⟨σ, H6, I6, q6⟩
/-! len -/
/-- it is a dict with so many entries -/
def IsDG (K : KW) (H : Hp) (a : Addr) (n : Nat) : Prop := (∃ us, H a = some (.dK us) ∧ us.length = n) ∨ ∃ xs, H a = some (.ext (DObj K.w a xs)) ∧ (∀ x ∈ xs, NV K H x.1 (.ref x.2.1) ∧ x.1.depth ≤ 8) ∧ xs.length = n
theorem isDG_of {K : KW} {m : List Addr} {st : Store} {H : Hp} {n : Nat} {kvs : List (D × D)} {v : V} (hS : SS K m st H) (hk : dctAt st n = some kvs) (r : RD K m H (.ref n) v) : ∃ a, v = .ref a ∧ IsDG K H a kvs.length := by
  cases r with
  | ref q =>
    rcases hS.dict hk q with ⟨us, e, r⟩ | ⟨xs, e, ne, r⟩
    · exact ⟨_, rfl, .inl ⟨us, e, (Paired.length r).symm⟩⟩
    · exact ⟨_, rfl, .inr ⟨xs, e, keys2 r, (Paired.length r).symm⟩⟩
theorem call_len_dg : CallR X (.builtin "len") (fun xs H Q => ∃ a n, xs = [.ref a] ∧ IsDG X.kw H a n ∧ Q (.int (n : Nat)) H) := by
  intro pins s σ H xs us Q I r h
  obtain ⟨a, n, rfl, g, q⟩ := h
  obtain ⟨u, rfl, rx⟩ := vals1 r
  cases (show u = Value.ref a from rx)
  rcases g with ⟨us, e, rfl⟩ | ⟨xs, e, hx, rfl⟩
  · exact d_len I (.inl e) fun t s' I' => ⟨.int us.length, H, I', ⟨t, rfl⟩, q⟩
  · obtain ⟨hd, hz, zs, rel, dd⟩ := dobj_at I e hx
    have hl : xs.length = zs.length := Paired.length rel
    refine call_len_dictH hd dd (by rw [← hl]; rw [sizeLine_eq] at hz; omega) ?_
    rw [hl] at q
    exact ⟨.int zs.length, H, I.tok _, ⟨_, rfl⟩, q⟩
def fLen : FM := fun ds st => match ds with
  | [.ref n] => match dctAt st n with
    | some kvs => .ok (.int kvs.length) st
    | none => fLenS ds st
  | _ => fLenS ds st
theorem c_len : CallM X (.builtin "len") fLen := by
  obtain ⟨r, hr, h⟩ := c_lenS (X := X)
  refine ⟨_, hr.or call_len_dg, fun m st H ds vs E Q hS rs hP => ?_⟩
  unfold fLen at hP
  split at hP
  · split at hP
    · rename_i kvs hk
      obtain ⟨v, rfl, r1⟩ := rs.one
      obtain ⟨a, rfl, g⟩ := isDG_of hS hk r1
      exact .inr ⟨a, _, rfl, g, hP.now hS (.int _)⟩
    · exact .inl (h m st H _ vs E Q hS rs hP)
  · exact .inl (h m st H _ vs E Q hS rs hP)
/-! d.get(k), d.get(k, x) -/
theorem isDG_at {pins : List (Addr × Obj)} {σ : L2.St} {H : Hp} {s : Shared} {a : Addr} {n : Nat} (I : Inv X pins σ H s) (g : IsDG X.kw H a n) : s.TypeIs (.ref a) "dict" ∧ ∀ b, Value.ref a = .ref b → ∃ ob, s.heap.get? b = some ob ∧ ob.dict = none := by
  rcases g with ⟨us, e, rfl⟩ | ⟨xs, e, hx, rfl⟩
  · obtain ⟨_, hd, vs, _, dd⟩ := dk_of I.hok e
    refine ⟨dd.typeIs, fun b q => ?_⟩
    cases q
    obtain ⟨ob, _, _, h1, h2, _⟩ := dd
    exact ⟨ob, h1, h2.2.1⟩
  · obtain ⟨_, _, zs, _, dd⟩ := dobj_at I e hx
    refine ⟨dd.typeIs, fun b q => ?_⟩
    cases q
    obtain ⟨ob, _, _, h1, h2, _⟩ := dd
    exact ⟨ob, h1, h2.2.1⟩
def isDct (st : Store) (d : D) : Bool := match d with
  | .ref n => (dctAt st n).isSome
  | _ => false
def oDGet (d k x : D) (st : Store) : ER D := match d with
  | .ref n => match dctAt st n with
    | some kvs => if keyFit kvs k then .ok ((dGet kvs k).getD x) st else .bad
    | none => .bad
  | _ => .bad
def eGet2 (fo fa fb : EM D) : EM D := fun τ st => (fo τ st).bind fun d s1 => if isDct s1 d then (fa τ s1).bind fun k s2 => (fb τ s2).bind fun x s3 => oDGet d k x s3 else .bad
def eGet1 (fo fa : EM D) : EM D := fun τ st => (fo τ st).bind fun d s1 => if isDct s1 d then (fa τ s1).bind fun k s2 => oDGet d k .non s2 else .bad
theorem isDct_of {m : List Addr} {st : Store} {H : Hp} {d : D} {v : V} (hS : SS X.kw m st H) (h : isDct st d = true) (r : RD X.K m H d v) : ∃ a n, v = .ref a ∧ IsDG X.kw H a n := by
  unfold isDct at h
  split at h
  · obtain ⟨kvs, hk⟩ := Option.isSome_iff_exists.mp h
    obtain ⟨a, e, g⟩ := isDG_of hS hk r
    exact ⟨a, _, e, g⟩
  · cases h
theorem oDGet_of {m : List Addr} {st : Store} {H : Hp} {d k x : D} {v y z : V} {E : XK} {Q : VK} (hS : SS X.kw m st H) (r : RD X.K m H d v) (rk : RD X.K m H k y) (rx : RD X.K m H x z) (hP : Pe X.kw E (RD X.K) m H (oDGet d k x st) Q) : ∃ a o, v = .ref a ∧ DG X.kw H a y o ∧ Q (o.getD z) H := by
  unfold oDGet at hP
  split at hP
  · split at hP
    · rename_i kvs hk
      split at hP
      · rename_i f
        cases r with
        | ref q =>
          obtain ⟨o, g, ro⟩ := dg_of (hS.dict hk q) rk f
          refine ⟨_, o, rfl, g, hP.now hS ?_⟩
          cases h1 : dGet kvs k <;> cases h2 : o <;> rw [h1, h2] at ro <;> first | exact rx | exact ro | exact ro.elim
      · exact hP.elim
    · exact hP.elim
  · exact hP.elim
theorem ex_get2 {apos cpos : Pos} (hu : X.A.units + 65 < cLine) (ho : Ex X W o fo) (ha : Ex X W a fa) (hb : Ex X W b fb) (m : M2 X o "get" apos a b cpos) : Ex X W (.Call (.Attribute o "get" apos) [a, b] [] cpos) (eGet2 fo fa fb) := by
  refine ⟨fun m0 τ st σ H Q hL hS hP pins s I => ?_⟩
  have read : wE X o σ H fun vo H1 => ∃ p n, vo = .ref p ∧ IsDG X.kw H1 p n ∧ wE X a σ H1 fun y H2 => wE X b σ H2 fun z H3 => ∃ q, DG X.kw H3 p y q ∧ Q (q.getD z) H3 := by
    refine ho.run m0 τ st σ H _ hL hS (hP.bind fun d s1 m1 H1 v e1 hS1 r1 hP1 => ?_)
    split at hP1
    · rename_i hk
      obtain ⟨p, n, rfl, g⟩ := isDct_of hS1 hk r1
      refine ⟨p, n, rfl, g, ha.run m1 τ s1 σ H1 _ (hL.mono e1) hS1 (hP1.bind fun k s2 m2 H2 y e2 hS2 r2 hP2 => ?_)⟩
      refine hb.run m2 τ s2 σ H2 _ ((hL.mono e1).mono e2) hS2 (hP2.bind fun x s3 m3 H3 z e3 hS3 r3 hP3 => ?_)
      obtain ⟨p', q, e, g', hq⟩ := oDGet_of hS3 ((r1.mono e2).mono e3) (r2.mono e3) r3 hP3
      cases e
      exact ⟨q, g', hq⟩
    · exact hP1.elim
  refine wpAny_Call_method m.base m.few m.line PySem.F.plainAttrs_dict PySem.F.slot_dict_get PySem.F.type_dict_get (thn (read pins s I) fun u s1 ⟨x, H1, I1, rx, p, n, ex, g, q1⟩ => ?_)
  subst ex
  obtain rfl : u = Value.ref p := rx
  obtain ⟨t1, t2⟩ := isDG_at I1 g
  refine ⟨t1, t2, ?_⟩
  rw [m.trees]
  refine Calls.callWith_builtin rfl (Calls.evalArgs_plain (Calls.spliced_cons (thn (q1 pins s1 I1) fun iv s2 ⟨y, H2, I2, ry, q2⟩ =>
    Calls.spliced_cons (thn (q2 pins s2 I2) fun fv s3 ⟨z, H3, I3, rz, ov, g3, q3⟩ => Calls.spliced_nil ?_))))
  exact dg_get2 (by omega) I3 g3 ry rz fun w' s4 I4 rw' => ⟨_, H3, I4, rw', q3⟩
theorem ex_get1 {apos cpos : Pos} (hu : X.A.units + 65 < cLine) (ho : Ex X W o fo) (ha : Ex X W a fa) (m : M1 X o "get" apos a cpos) : Ex X W (.Call (.Attribute o "get" apos) [a] [] cpos) (eGet1 fo fa) := by
  refine ⟨fun m0 τ st σ H Q hL hS hP pins s I => ?_⟩
  have read : wE X o σ H fun vo H1 => ∃ p n, vo = .ref p ∧ IsDG X.kw H1 p n ∧ wE X a σ H1 fun y H2 => ∃ q, DG X.kw H2 p y q ∧ Q (q.getD .non) H2 := by
    refine ho.run m0 τ st σ H _ hL hS (hP.bind fun d s1 m1 H1 v e1 hS1 r1 hP1 => ?_)
    split at hP1
    · rename_i hk
      obtain ⟨p, n, rfl, g⟩ := isDct_of hS1 hk r1
      refine ⟨p, n, rfl, g, ha.run m1 τ s1 σ H1 _ (hL.mono e1) hS1 (hP1.bind fun k s2 m2 H2 y e2 hS2 r2 hP2 => ?_)⟩
      obtain ⟨p', q, e, g', hq⟩ := oDGet_of hS2 (r1.mono e2) r2 .non hP2
      cases e
      exact ⟨q, g', hq⟩
    · exact hP1.elim
  refine wpAny_Call_method m.base m.few m.line PySem.F.plainAttrs_dict PySem.F.slot_dict_get PySem.F.type_dict_get (thn (read pins s I) fun u s1 ⟨x, H1, I1, rx, p, n, ex, g, q1⟩ => ?_)
  subst ex
  obtain rfl : u = Value.ref p := rx
  obtain ⟨t1, t2⟩ := isDG_at I1 g
  refine ⟨t1, t2, ?_⟩
  rw [m.trees]
  refine Calls.callWith_builtin rfl (Calls.evalArgs_plain (Calls.spliced_cons (thn (q1 pins s1 I1) fun iv s2 ⟨y, H2, I2, ry, ov, g3, q3⟩ => Calls.spliced_nil ?_)))
  exact dg_get1 (by omega) I2 g3 ry fun w' s4 I4 rw' => ⟨_, H2, I4, rw', q3⟩
end
end HM

/-! HM, part O: sorting tuples of which some are empty. -/
namespace HM
open PySem PySem.Calls PySem.Spec PyProof.Rows PySem.W PySem.SeqAt
section
variable {prog : Program} {w : World} {A : Around} {E : Value → Shared → Prop} {s : Shared}
theorem call_tuple_lt {Q : Value → Shared → Prop} {l b : Addr} {items items2 : Array Value} {e r : Nat → Bool} (hl : s.heap.IsTuple l items) (hb : s.heap.IsTuple b items2)
    (he : ∀ j (h1 : j < items.size) (h2 : j < items2.size), EqAt A.in1 s items[j] items2[j] (e j)) (hr : ∀ j (h1 : j < items.size) (h2 : j < items2.size), e j = false → RcLt A.in1 s items[j] items2[j] (r j))
    (h : Q (.bool (firstLt e r (decide (items.size < items2.size)) (List.range (min items.size items2.size)))) s) : wpAny (model prog w) A (call (.builtin "tuple.__lt__") [.ref l, .ref b]) Q E s := by
  obtain ⟨⟨cls, dd, data, sl⟩, ho, hc, n, hd⟩ := id hl
  obtain ⟨⟨cls2, dd2, data2, sl2⟩, ho2, hc2, n2, hd2⟩ := id hb
  simp only at hc hd hc2 hd2
  subst hc hd hc2 hd2
  exact call_meets PySem.F.slot_tuple_lt ⟨_, ho, rfl⟩ PySem.F.entry_tuple_lt (PySem.F.args_tuple_lt_2 _ _) (PySem.SeqAt.tuple_ltAt l b items items2 n n2 dd dd2 sl sl2 e r) ⟨ho, ho2, he, hr, h⟩
theorem oneLt_tup {xs ys : List PyData} {a b : Value} {as bs : List Addr} {Q : Bool → Shared → Prop} (f : Bool) (ra : PySem.Reads s.heap a (.tuple xs) as) (rb : PySem.Reads s.heap b (.tuple ys) bs) (h : alike (.tuple xs) (.tuple ys) = true)
    (hu : A.units + min (PyData.tuple xs).depth (PyData.tuple ys).depth < cLine) (hq : Q (dataLt (.tuple xs) (.tuple ys)) s) : wpAny (model prog w) A (oneLt' f a b) Q E s := by
  cases f with
  | false =>
    rw [oneLt'_eq]
    simp only [Bool.false_eq_true, if_false]
    exact wpAny_bind (rcLt_alike _ _ A s a b as bs ra rb h (by simp) hu prog w E _ (wpAny_truthy_bool hq))
  | true =>
    have hal : alikeAll xs ys = true := by simpa [alike] using h
    cases ra with
    | @tuple l o vs n _ as₁ h1 h2 h3 h4 =>
      cases rb with
      | @tuple l' o' vs' n' _ bs₁ k1 k2 k3 k4 =>
        have n1 : vs.size = xs.length := by simpa using ReadsAll.length _ _ _ h4
        have n2 : vs'.size = ys.length := by simpa using ReadsAll.length _ _ _ k4
        rw [dataLt_tuple, ← firstLt_toks xs ys hal, ← n1, ← n2] at hq
        rw [oneLt'_eq]
        simp only [if_true]
        refine wpAny_bind (wpAny_cRoomFor (room_here hu) ?_)
        refine wpAny_bind (wpAny_callSpecialIfBound?_slot (T := "tuple") ⟨_, h1, h2⟩ PySem.F.slot_tuple_lt (call_tuple_lt (e := pairEq xs ys) (r := fun j => dataLt (xs.getD j .none) (ys.getD j .none)) ⟨_, h1, h2, _, h3⟩ ⟨_, k1, k2, _, k3⟩ (fun j j1 j2 => ?_) (fun j j1 j2 hj => ?_) ?_))
        · have := eqAt_alikeAll xs ys A.in1 s vs.toList vs'.toList _ _ h4 k4 hal (room_in hu) j (by simpa using j1) (by simpa using j2)
          simpa using this
        · have := rcLt_alikeAll xs ys A.in1 s vs.toList vs'.toList _ _ h4 k4 hal (room_in hu) j (by simpa using j1) (by simpa using j2) hj
          simpa using this
        · exact wpAny_truthy_bool hq
/-- the firsts of tuples -/
theorem firsts_tup : ∀ {vs : List Value} {ds : List PyData} {Q : List (Option Value) → Shared → Prop}, EachIs (fun v d => ∃ as, PySem.Reads s.heap v d as) vs ds → (∀ d, d ∈ ds → ∃ r, d = PyData.tuple r) →
    (∀ fs : List (Option Value), fs.length = vs.length → (∀ i : Nat, (fs[i]?.bind id).isSome = true ↔ ∃ (x : PyData) (r : List PyData), ds[i]? = some (PyData.tuple (x :: r))) → Q fs s) → wpAny (model prog w) A (vs.mapM firstOfTuple') Q E s
  | [], [], Q, .nil, _, h => by
    rw [List.mapM_nil]
    exact wpAny_pure (h [] rfl fun i => by simp)
  | v :: vs, d :: ds, Q, .cons ⟨as, r⟩ t, ht, h => by
    obtain ⟨xs, rfl⟩ := ht d (List.mem_cons_self ..)
    rw [List.mapM_cons]
    cases r with
    | @tuple a o its n _ _ ho hc hd hr =>
      refine wpAny_bind ?_
      rw [kas_first_eq]
      refine wpAny_bind (Looks.here (show Looks (model prog w) s.heap (typeOf (.ref a)) o.cls from (Looks.ld ho).andThen .now) ?_)
      rw [hc, if_neg (by first | decide | simp)]
      refine wpAny_bind (listItems_at ho hd (wpAny_pure ?_))
      refine wpAny_bind (firsts_tup t (fun d hd => ht d (List.mem_cons_of_mem _ hd)) fun fs h1 h2 => wpAny_pure (h _ (by simp [h1]) fun i => ?_))
      cases i with
      | zero =>
        have hl := SeqAt.ReadsAll.length _ _ _ hr
        cases xs with
        | nil =>
          have : its.size = 0 := by simpa using hl
          simp [this]
        | cons x r =>
          have : 0 < its.size := by
            have : its.size = r.length + 1 := by simpa using hl
            omega
          simp [this]
      | succ i => simpa using h2 i
theorem fst_of {fs : List (Option Value)} (h : fs.all (·.isSome) = false) : ∃ i, (fs[i]?.bind id).isSome = false ∧ i < fs.length := by
  induction fs with
  | nil => simp at h
  | cons f fs ih =>
    cases hf : f.isSome with
    | false => exact ⟨0, by simpa using hf, by simp⟩
    | true =>
      rw [List.all_cons, hf, Bool.true_and] at h
      obtain ⟨i, h1, h2⟩ := ih h
      exact ⟨i + 1, by simpa using h1, by simpa using h2⟩
/-- tuples of which some are empty -/
theorem SortsAt_tups {vs : List Value} {ds : List PyData} (e : EachIs (fun v d => ∃ as, PySem.Reads s.heap v d as) vs ds) (hal : AllAlike ds) (hk : ∀ d, d ∈ ds → ∃ r, d = .tuple r) (h0 : PyData.tuple [] ∈ ds) (hu : ∀ d, d ∈ ds → A.units + d.depth < cLine) : SortsAt prog w A s (dataKind s.heap ds) vs := by
  have room : ∀ {d d' : PyData}, d ∈ ds → A.units + min d.depth d'.depth < cLine := fun {d d'} hd => Nat.lt_of_le_of_lt (Nat.add_le_add_left (Nat.min_le_left _ _) _) (hu d hd)
  have lt : ∀ (f : Bool) (E : Value → Shared → Prop) (x y : Value) (a b : (dataKind s.heap ds).α) (Q : Bool → Shared → Prop), (dataKind s.heap ds).keyOf x = some a → (dataKind s.heap ds).keyOf y = some b → Q ((dataKind s.heap ds).blt a b) s → wpAny (model prog w) A (oneLt' f x y) Q E s := fun f E x y a b Q ha hb hq => by
    obtain ⟨d, as, hd, ra, rfl⟩ := dataKind_inv ha
    obtain ⟨d', as', hd', rb, rfl⟩ := dataKind_inv hb
    obtain ⟨r1, rfl⟩ := hk d hd
    obtain ⟨r2, rfl⟩ := hk d' hd'
    exact oneLt_tup f ra rb (hal _ hd _ hd') (room hd) hq
  refine ⟨fun v hv => ?_, ?_⟩
  · obtain ⟨d, hd, as, r⟩ := e.left v hv
    exact ⟨_, dataKind_some hal hd r⟩
  · cases ds with
    | nil => cases h0
    | cons d₀ ds₀ =>
      obtain ⟨r₀, rfl⟩ := hk d₀ (List.mem_cons_self ..)
      have kinds : ∀ (E : Value → Shared → Prop) {Q : SortKind → Shared → Prop}, Q (if r₀ = [] then oneType' else general') s → wpAny (model prog w) A (keyKind' vs.toArray) Q E s := fun E Q hq => by
        rw [keyKind'_eq, List.mapM_toArray, map_eq_pure_bind]
        refine wpAny_bind (wpAny_bind (firsts_tup e hk fun fs h1 h2 => wpAny_pure ?_))
        have hz : fs.all (·.isSome) = false := by
          obtain ⟨i, hi⟩ := List.getElem?_of_mem h0
          cases hq : fs.all (·.isSome) with
          | false => rfl
          | true =>
            rw [List.all_eq_true] at hq
            have hn : ¬ (fs[i]?.bind id).isSome = true := by
              rw [h2 i, hi]
              rintro ⟨x, r, h⟩
              cases h
            have hil : i < fs.length := by
              rw [h1, e.length]
              exact (List.getElem?_eq_some_iff.mp hi).1
            have := hq fs[i] (List.getElem_mem hil)
            rw [List.getElem?_eq_getElem hil] at hn
            exact absurd this hn
        rw [if_neg (by simpa using hz)]
        have hf := h2 0
        simp only [List.getElem?_cons_zero, Option.some.injEq, PyData.tuple.injEq] at hf
        cases r₀ with
        | cons x r =>
          have hf : (fs[0]?.bind id).isSome = true := hf.mpr ⟨x, r, rfl⟩
          rw [if_pos (by simpa using hf)]
          rw [if_neg (by simp)] at hq
          exact wpAny_pure hq
        | nil =>
          have hf : ¬ (fs[0]?.bind id).isSome = true := fun h => by
            obtain ⟨x, r, h⟩ := hf.mp h
            cases h
          rw [if_neg (by simpa using hf)]
          rw [if_pos rfl] at hq
          rw [oneTypeOnly'_eq, List.mapM_toArray, map_eq_pure_bind]
          refine wpAny_bind (wpAny_bind (wpAny_bind (kas_mapM (r := Value.type "tuple") _ (fun v hv Q' hq => ?_) (wpAny_pure ?_))))
          · obtain ⟨d, hd, as, r⟩ := e.left v hv
            obtain ⟨xs, rfl⟩ := hk d hd
            exact (looks_reads r).here hq
          · have hall : ((List.map (fun _ => Value.type "tuple") vs).toArray.all fun x => x == Value.type "tuple") = true := by
              simp only [List.all_toArray, List.all_map, List.all_eq_true]
              intro _ _
              rfl
            cases vs with
            | nil => cases e
            | cons v vs =>
              have h0 : (List.map (fun _ => Value.type "tuple") (v :: vs)).toArray[0]? = some (Value.type "tuple") := by simp
              rw [h0]
              simp only [hall, if_true]
              exact wpAny_pure (wpAny_pure hq)
      by_cases hr : r₀ = []
      · rw [if_pos hr] at kinds
        exact ⟨oneType', fun E x y a b Q ha hb hq => by rw [keyLt'_oneType]; exact lt true E x y a b Q ha hb hq, fun _ E Q hq => kinds E hq⟩
      · rw [if_neg hr] at kinds
        exact ⟨general', fun E x y a b Q ha hb hq => lt false E x y a b Q ha hb hq, fun _ E Q hq => kinds E hq⟩
/-- what can be sorted: data of one kind, or tuples -/
def Sortable2 (ds : List PyData) : Prop := Sortable ds ∨ ((∀ d, d ∈ ds → ∃ r, d = PyData.tuple r) ∧ PyData.tuple [] ∈ ds)
theorem SortsAt_data2 {vs : List Value} {ds : List PyData} (e : EachIs (fun v d => ∃ as, PySem.Reads s.heap v d as) vs ds) (hal : AllAlike ds) (hk : Sortable2 ds) (hu : ∀ d, d ∈ ds → A.units + d.depth < cLine) : SortsAt prog w A s (dataKind s.heap ds) vs := by
  rcases hk with hk | ⟨hk, h0⟩
  · exact SortsAt.data e hal hk hu
  · exact SortsAt_tups e hal hk h0 hu
theorem bound_map2 {β : Type} {bs : List β} {enc : β → PyData} (hu : ∀ b, b ∈ bs → A.units + 2 + (enc b).depth < cLine) : ∀ d, d ∈ bs.map enc → A.in1.in1.units + d.depth < cLine := by
  intro d hd
  obtain ⟨b, hb, rfl⟩ := List.mem_map.mp hd
  exact hu b hb
/-- sorted(xs) -/
theorem sorted_data2 {β : Type} {R : Value → β → Prop} {enc : β → PyData} {bs : List β} {vs : List Value} {l : Addr} {Q : Value → Shared → Prop} (hl : s.heap.IsList l vs.toArray) (e : EachIs R vs bs) (er : EachIs (fun v b => ∃ as, PySem.Reads s.heap v (enc b) as) vs bs) (hal : AllAlike (bs.map enc)) (hk : Sortable2 (bs.map enc)) (hL : bs.length ≤ sizeLine)
    (hu : ∀ b, b ∈ bs → A.units + 2 + (enc b).depth < cLine) (h : ∀ out, out.length = bs.length → EachIs R out (bs.mergeSort (dataLe false enc)) → Q (.ref (s.heap.objs.size + 1)) { s with heap := PyProof.Rows.sortedAll s.heap vs (List.toArray out) }) :
    wpAny (model prog w) A (call (.builtin "sorted") [.ref l]) Q E s := by
  have er' : EachIs (fun v b => ∃ as, PySem.Reads (sortingHeap (copyHeap s.heap vs) (s.heap.objs.size + 1) vs) v (enc b) as) vs bs := er.mono fun _ _ ⟨as, r⟩ => ⟨as, PyProof.Rows.Reads.keeps (fun _ _ => sorting_copy_old) r⟩
  exact sorted_vals hl (SortsAt_data2 (s := { s with heap := sortingHeap (copyHeap s.heap vs) (s.heap.objs.size + 1) vs }) (each_map (R := fun v d => ∃ as, PySem.Reads (sortingHeap (copyHeap s.heap vs) (s.heap.objs.size + 1) vs) v d as) enc er') hal hk (bound_map2 hu)) (by rw [e.length]; exact hL)
    (h _ (by rw [sortVals_length false rfl]; exact e.length) (sortVals_data false e er' hal))
end
end HM

/-! HM, part E: order, sorted, places. -/
namespace HM
open PySem PySem.Spec PyProof.Rows L2
section
variable {X : Cx} {W : WX} {e o a b c : Expr} {es : List Expr} {pos p : Pos} {f fo fa fb : EM D} {fs : EM (List D)}
/-! ### < -/
def D.isTup (d : D) : Bool := match d with
  | .tup _ => true
  | _ => false
def dLt (x y : D) : Option Bool := if x.isTup && x.plain 60 && y.plain 60 && PySem.W.alike (x.toP 60) (y.toP 60) then some (PySem.W.dataLt (x.toP 60) (y.toP 60)) else none
def oLt : O2 := fun x y st => match x, y with
  | .int i, .int j => .ok (.bl (decide (i < j))) st
  | x, y => match dLt x y with
    | some b => .ok (.bl b) st
    | none => .bad
theorem toP_tup {x : D} (h : x.isTup = true) : x.toP 60 ≠ .none := by
  cases x <;> simp [D.isTup] at h <;> simp [D.toP]
theorem m_lt (hu : X.A.units + 65 < cLine) : OpM X W (compareOp .Lt) oLt := fun m st σ H dx dy x y Q hS r1 r2 hP pins s v u I rx ry => by
  unfold oLt at hP
  split at hP
  · exact m_ltI (W := W) m st σ H _ _ x y Q hS r1 r2 hP pins s v u I rx ry
  · split at hP
    · rename_i b hb
      unfold dLt at hb
      split at hb
      · rename_i hc
        cases hb
        simp only [Bool.and_eq_true] at hc
        obtain ⟨⟨⟨h1, h2⟩, h3⟩, h4⟩ := hc
        obtain ⟨a1, a2, a3⟩ := plain_dp 60 dx x h2 r1
        obtain ⟨b1, b2, b3⟩ := plain_dp 60 dy y h3 r2
        obtain ⟨as, ra⟩ := Dp.reads I _ x v a1 rx
        obtain ⟨bs, rb⟩ := Dp.reads I _ y u b1 ry
        exact PySem.W.lt_data ra rb h4 (toP_tup h1) (by omega) ⟨.bl _, H, I, rfl, hP.now hS (.bl _)⟩
      · cases hb
    · exact hP.elim
end

/-! ### sorted -/
section
open PySem.W PySem.Calls
variable {prog : Program} {w : World} {A : Around} {E : Value → Shared → Prop} {s : Shared}
theorem collect_tup {l : Addr} {vs : List Value} {Q : List Value → Shared → Prop} (hl : PyProof.Rows.IsTup s.heap l vs.toArray)
    (h : Q vs { s with heap := (s.heap.push (seqObj "list" #[] 0)).update s.heap.objs.size (Obj.mapSeq (· ++ vs.toArray)) }) (hsz : vs.length ≤ sizeLine) :
    wpAny (model prog w) A (collect (.ref l)) Q E s := by
  obtain ⟨o, ho, hc, n, hd⟩ := id hl
  unfold collect
  refine wpAny_bind (wpAny_runValue (codeAny_builtin entry_proto_collect' ?_))
  show wpAny _ _ (do again (.builtin "list.__iadd__" ⟨[← newList [], .ref l], []⟩)) _ _ s
  refine wpAny_bind (wpAny_newList (wpAny_pure ⟨Code.quiet_builtin _ (by decide +kernel), codeAny_builtin entry_list_iadd' ?_⟩))
  show wpAny _ _ (Builtin.List.listExtendWith (.ref s.heap.objs.size) (.ref l) (.ref s.heap.objs.size)) _ _ { s with heap := s.heap.push (seqObj "list" #[] 0) }
  unfold Builtin.List.listExtendWith
  have ho' : (s.heap.push (seqObj "list" #[] 0)).get? l = some o := Heap.get?_push_of_some _ ho
  refine wpAny_bind (wpAny_typeOf (T := "tuple") ⟨o, ho', hc⟩ ?_)
  have ht : (Value.type "tuple" == Value.type "tuple") = true := by rfl
  rw [if_pos (by rw [ht]; simp)]
  refine wpAny_bind (listItems_at ho' hd ?_)
  refine wpAny_bind (listItems_at (xs := #[]) (n := 0) (Heap.get?_push_size _ rfl) rfl ?_)
  rw [if_neg (by simp)]
  refine wpAny_bind (listUpdate_at (xs := #[]) (n := 0) (Heap.get?_push_size _ rfl) rfl ?_ (Nat.zero_le _) (by show (#[] ++ vs.toArray).size ≤ sizeLine + 1; simp only [Array.size_append, List.size_toArray, List.length_nil]; omega))
  refine wpAny_pure ?_
  show wpAny (model prog w) A (do
      let o ← load s.heap.objs.size
      match o.data with
      | .seq xs _ => pure xs.toList
      | _ => unsupported "internal:collect") Q E { s with heap := (s.heap.push (seqObj "list" #[] 0)).update s.heap.objs.size (Obj.mapSeq (· ++ vs.toArray)) }
  refine wpAny_bind (wpAny_load (get?_update_seq (Heap.get?_push_size _ rfl) _) ?_)
  show wpAny _ _ (pure ((#[] : Array Value) ++ vs.toArray).toList) Q E _
  rw [show ((#[] : Array Value) ++ vs.toArray).toList = vs by simp]
  exact wpAny_pure h
theorem sorted_of_sortT {l : Addr} {vs : List Value} {kw : List (PySem.Str × Value)} {Q : Value → Shared → Prop} (hl : PyProof.Rows.IsTup s.heap l vs.toArray) (hL : vs.length ≤ sizeLine) (ha1 : argsOk "sorted" ⟨[.ref l], kw⟩) (ha2 : ∀ x, argsOk "list.sort" ⟨[.ref x], kw⟩)
    (body : ∀ E' : Value → Shared → Prop, wpAny (model prog w) A.in1.in1 (Builtin.«list.sort» ⟨[.ref (s.heap.objs.size + 1)], kw⟩) (fun f s' => f = .done (.ret .none) ∧ Q (.ref (s.heap.objs.size + 1)) s') E' { s with heap := copyHeap s.heap vs }) :
    wpAny (model prog w) A (call (.builtin "sorted") [.ref l] kw) Q E s := by
  refine call_function_entry_kw kind_sorted plain_sorted entry_sorted ha1 ?_
  unfold Builtin.«sorted»
  refine wpAny_bind (m := checkCount "sorted" 1 1 _) (wpAny_pure ?_)
  refine wpAny_bind (collect_tup hl ?_ hL)
  refine wpAny_bind (wpAny_newList ?_ hL)
  have hsz : ((s.heap.push (seqObj "list" #[] 0)).update s.heap.objs.size (Obj.mapSeq (· ++ vs.toArray))).objs.size = s.heap.objs.size + 1 := by
    rw [Heap.size_update, size_push']
  show wpAny _ _ _ _ _ { s with heap := copyHeap s.heap vs }
  rw [hsz]
  refine wpAny_bind (wpAny_holding (wpAny_call_entry_kw slot_list_sort ⟨_, copyHeap_at s.heap vs, rfl⟩ entry_list_sort ?body (ha2 _)))
  case body =>
    show wpAny (model prog w) A.in1.in1 (Builtin.«list.sort» ⟨[.ref (s.heap.objs.size + 1)], kw⟩) _ _ _
    refine wpAny_mono (body _) (fun f s' hf => ?_) fun _ _ e => e
    obtain ⟨rfl, hq⟩ := hf
    exact ⟨_, rfl, wpAny_pure ⟨_, rfl, hq⟩⟩
theorem bound_mapT {β : Type} {bs : List β} {enc : β → PyData} (hu : ∀ b, b ∈ bs → A.units + 2 + (enc b).depth < cLine) : ∀ d, d ∈ bs.map enc → A.in1.in1.units + d.depth < cLine := by
  intro d hd
  obtain ⟨b, hb, rfl⟩ := List.mem_map.mp hd
  exact hu b hb
theorem sorted_dataT {β : Type} {R : Value → β → Prop} {enc : β → PyData} {bs : List β} {vs : List Value} {l : Addr} {Q : Value → Shared → Prop} (hl : PyProof.Rows.IsTup s.heap l vs.toArray) (e : EachIs R vs bs) (er : EachIs (fun v b => ∃ as, PySem.Reads s.heap v (enc b) as) vs bs) (hal : AllAlike (bs.map enc)) (hk : Sortable2 (bs.map enc)) (hL : bs.length ≤ sizeLine)
    (hu : ∀ b, b ∈ bs → A.units + 2 + (enc b).depth < cLine) (h : ∀ out, out.length = bs.length → EachIs R out (bs.mergeSort (dataLe false enc)) → Q (.ref (s.heap.objs.size + 1)) { s with heap := sortedAll s.heap vs (List.toArray out) }) :
    wpAny (model prog w) A (call (.builtin "sorted") [.ref l]) Q E s := by
  have er' : EachIs (fun v b => ∃ as, PySem.Reads (sortingHeap (copyHeap s.heap vs) (s.heap.objs.size + 1) vs) v (enc b) as) vs bs := er.mono fun _ _ ⟨as, r⟩ => ⟨as, PyProof.Rows.Reads.keeps (fun _ _ => sorting_copy_old) r⟩
  have hL' : vs.length ≤ sizeLine := by rw [e.length]; exact hL
  exact sorted_of_sortT hl hL' (args_sorted1 _) (fun _ => args_list_sort _) fun _ => list_sort_vals (s := { s with heap := copyHeap s.heap vs }) (copyHeap_at s.heap vs)
    (SortsAt_data2 (s := { s with heap := sortingHeap (copyHeap s.heap vs) (s.heap.objs.size + 1) vs }) (each_map (R := fun v d => ∃ as, PySem.Reads (sortingHeap (copyHeap s.heap vs) (s.heap.objs.size + 1) vs) v d as) enc er') hal hk (bound_mapT hu)) hL'
    ⟨rfl, h _ (by rw [sortVals_length false rfl]; exact e.length) (sortVals_data false e er' hal)⟩
end

section
open PySem.W
variable {X : Cx} {W : WX} {e o a b c : Expr} {es : List Expr} {pos p : Pos} {f fo fa fb : EM D} {fs : EM (List D)}
def rSortedD (K : PySem.W.Frag) : List V → Hp → VK → Prop := fun xs H Q => ∃ (a : Addr) (bs : List (D × V)), xs = [.ref a] ∧ (SqL K H a (bs.map (·.2)) ∨ SqT K H a (bs.map (·.2))) ∧ (∀ b ∈ bs, Dp K H b.2 (b.1.toP 60) ∧ (b.1.toP 60).depth ≤ 60) ∧
  AllAlike (bs.map fun b => b.1.toP 60) ∧ Sortable2 (bs.map fun b => b.1.toP 60) ∧ ∀ p, H p = none → Q (.ref p) (upd H p (.lst ((bs.mergeSort (dataLe false fun b => b.1.toP 60)).map (·.2))))
theorem each_of {β : Type} {R : Value → β → Prop} {f : β → V} : ∀ {bs : List β} {us : List Value}, Vals (bs.map f) us → (∀ b ∈ bs, ∀ u, RelV (f b) u → R u b) → EachIs R us bs
  | [], _, r, _ => by
    cases r
    exact .nil
  | b :: bs, _, r, h => by
    cases r with
    | cons r1 r2 => exact .cons (h b (List.mem_cons_self ..) _ r1) (each_of r2 fun b hb => h b (List.mem_cons_of_mem _ hb))
theorem vals_of_each {β : Type} {f : β → V} : ∀ {bs : List β} {us : List Value}, EachIs (fun u b => RelV (f b) u) us bs → Vals (bs.map f) us
  | _, _, .nil => .nil
  | _, _, .cons h t => .cons h (vals_of_each t)
theorem cr_sortedD (hu : X.A.units + 65 < cLine) : CallR X (.builtin "sorted") (rSortedD X.K) := by
  intro pins s σ H vs us Q I r h
  obtain ⟨a, bs, rfl, hs, hb, hal, hk, q⟩ := h
  rw [Vals.ref1 r]
  have main : ∀ its : List Value, Vals (bs.map (·.2)) its → (bs.map (·.2)).length ≤ sizeLine → (∀ Q : Value → Shared → Prop, (∀ out, out.length = bs.length → EachIs (fun u (b : D × V) => RelV b.2 u) out (bs.mergeSort (dataLe false fun b => b.1.toP 60)) → Q (.ref (s.heap.objs.size + 1)) { s with heap := PyProof.Rows.sortedAll s.heap its (List.toArray out) }) →
      wpAny (model X.prog X.w) X.A (call (.builtin "sorted") [.ref a]) Q X.xe s) → wpAny (model X.prog X.w) X.A (call (.builtin "sorted") [.ref a]) (EP X pins σ Q) X.xe s := fun its rv hz go => by
    refine go _ fun out h1 h2 => ?_
    obtain ⟨ep, he'⟩ := PyProof.Rows.sortedAll_at s.heap its out.toArray
    have rv' := vals_of_each (f := fun b : D × V => b.2) h2
    have hlen : ((bs.mergeSort (dataLe false fun b => b.1.toP 60)).map (·.2)).length ≤ sizeLine := by
      rw [List.length_map, List.length_mergeSort]
      rwa [List.length_map] at hz
    exact ⟨.ref _, upd H (s.heap.objs.size + 1) (.lst ((bs.mergeSort (dataLe false fun b => b.1.toP 60)).map (·.2))), I.laid (t' := s.toks) (fun _ _ => PyProof.Rows.sortedAll_old) (Nat.le_succ _) ⟨hlen, out, ep, rv', he'⟩, rfl, q _ (I.hok.fresh (Nat.le_succ _))⟩
  have ee : ∀ its : List Value, Vals (bs.map (·.2)) its → EachIs (fun u (b : D × V) => RelV b.2 u) its bs := fun its rv => each_of (f := fun b : D × V => b.2) rv fun b _ u h => h
  have er : ∀ its : List Value, Vals (bs.map (·.2)) its → EachIs (fun v (b : D × V) => ∃ as, PySem.Reads s.heap v (b.1.toP 60) as) its bs := fun its rv => each_of (f := fun b : D × V => b.2) rv fun b hm u h => Dp.reads I _ _ _ (hb b hm).1 h
  have hd : ∀ b, b ∈ bs → X.A.units + 2 + (b.1.toP 60).depth < cLine := fun b hm => by
    have := (hb b hm).2
    omega
  rcases hs with hs | hs
  · obtain ⟨its, rv, hl, hz⟩ := I.list hs
    exact main its rv hz fun Q hQ => sorted_data2 (enc := fun b : D × V => b.1.toP 60) hl.isList (ee its rv) (er its rv) hal hk (by rwa [List.length_map] at hz) hd hQ
  · obtain ⟨its, rv, hl, hz⟩ := I.tuple hs
    exact main its rv hz fun Q hQ => sorted_dataT (enc := fun b : D × V => b.1.toP 60) hl (ee its rv) (er its rv) hal hk (by rwa [List.length_map] at hz) hd hQ
def sortLeD (a b : D) : Bool := !dataLt (b.toP 60) (a.toP 60)
def sortD (xs : List D) : List D := xs.mergeSort sortLeD
def D.neTup (d : D) : Bool := match d with
  | .tup (_ :: _) => true
  | _ => false
def D.atom (d : D) : Bool := match d with
  | .int _ => true
  | .str _ => true
  | _ => false
def sortable (xs : List D) : Bool := (xs.all (D.plain 60)) && (xs.all fun x => xs.all fun y => alike (x.toP 60) (y.toP 60)) && (xs.all D.neTup || xs.all D.atom || (xs.all D.isTup && xs.any fun x => decide (x = .tup [])))
def gSorted : SM1 := fun xs st => if sortable xs then .ok (.ref st.length) (st ++ [.lst (sortD xs)]) else .bad
theorem rds_zip {K : PySem.W.Frag} {m : List Addr} {H : Hp} : ∀ {ds : List D} {vs : List V}, RDs K m H ds vs → (ds.zip vs).map (·.1) = ds ∧ (ds.zip vs).map (·.2) = vs ∧ ∀ b ∈ ds.zip vs, RD K m H b.1 b.2
  | _, _, .nil => ⟨rfl, rfl, fun _ h => nomatch h⟩
  | _, _, .cons h t => by
    obtain ⟨a1, a2, a3⟩ := rds_zip t
    refine ⟨by simp [a1], by simp [a2], fun b hb => ?_⟩
    rw [List.zip_cons_cons] at hb
    rcases List.mem_cons.mp hb with rfl | hb
    · exact h
    · exact a3 b hb
theorem rds_of {K : PySem.W.Frag} {m : List Addr} {H : Hp} : ∀ {bs : List (D × V)}, (∀ b ∈ bs, RD K m H b.1 b.2) → RDs K m H (bs.map (·.1)) (bs.map (·.2))
  | [], _ => .nil
  | b :: bs, h => .cons (h b (List.mem_cons_self ..)) (rds_of fun b hb => h b (List.mem_cons_of_mem _ hb))
theorem s_sorted (hu : X.A.units + 65 < cLine) : CallS X (.builtin "sorted") gSorted := ⟨_, cr_sortedD hu, fun m st H ds v E Q hS r hP => by
  unfold gSorted at hP
  split at hP
  · rename_i hc
    unfold sortable at hc
    simp only [Bool.and_eq_true, Bool.or_eq_true, List.all_eq_true] at hc
    obtain ⟨⟨h1, h2⟩, h3⟩ := hc
    obtain ⟨a, vs, rfl, q, rs⟩ := r
    obtain ⟨z1, z2, z3⟩ := rds_zip rs
    have hmem : ∀ b ∈ ds.zip vs, b.1 ∈ ds := fun b hb => by
      rw [← z1]
      exact List.mem_map_of_mem hb
    have hmap : (ds.zip vs).map (fun b => b.1.toP 60) = ds.map (D.toP 60) := by
      conv => rhs; rw [← z1]
      rw [List.map_map]
      rfl
    refine ⟨a, ds.zip vs, rfl, by rw [z2]; exact q.imp id PlT.sq, fun b hb => ?_, ?_, ?_, ?_⟩
    · obtain ⟨a1, a2, a3⟩ := plain_dp 60 b.1 b.2 (h1 _ (hmem b hb)) (z3 b hb)
      exact ⟨a1, a3⟩
    · rw [hmap]
      intro d hd d' hd'
      obtain ⟨x, hx, rfl⟩ := List.mem_map.mp hd
      obtain ⟨y, hy, rfl⟩ := List.mem_map.mp hd'
      exact h2 x hx y hy
    · rw [hmap]
      rcases h3 with (h3 | h3) | ⟨h3, h4⟩
      · refine .inl (.inl fun d hd => ?_)
        obtain ⟨x, hx, rfl⟩ := List.mem_map.mp hd
        have := h3 x hx
        unfold D.neTup at this
        split at this
        · exact ⟨_, _, rfl⟩
        · cases this
      · refine .inl (.inr fun d hd => ?_)
        obtain ⟨x, hx, rfl⟩ := List.mem_map.mp hd
        have := h3 x hx
        unfold D.atom at this
        split at this
        · exact ⟨nofun, fun _ => nofun⟩
        · exact ⟨nofun, fun _ => nofun⟩
        · cases this
      · refine .inr ⟨fun d hd => ?_, ?_⟩
        · obtain ⟨x, hx, rfl⟩ := List.mem_map.mp hd
          have := h3 x hx
          unfold D.isTup at this
          split at this
          · exact ⟨_, rfl⟩
          · cases this
        · rw [List.any_eq_true] at h4
          obtain ⟨x, hx, e⟩ := h4
          have e := of_decide_eq_true e
          subst e
          exact List.mem_map.mpr ⟨_, hx, rfl⟩
    · have e : (ds.zip vs).mergeSort (dataLe false fun b => b.1.toP 60) = (ds.zip vs).mergeSort (fun b c => sortLeD b.1 c.1) := rfl
      have e2 : ((ds.zip vs).mergeSort (fun b c => sortLeD b.1 c.1)).map (·.1) = sortD ds := by
        refine (sort_maps (s := sortLeD) (Prod.fst : D × V → D) (fun _ _ _ _ => rfl)).trans ?_
        show ((ds.zip vs).map fun b => b.1).mergeSort sortLeD = sortD ds
        rw [z1]
        rfl
      rw [e]
      have z4 : ∀ b ∈ (ds.zip vs).mergeSort (fun b c => sortLeD b.1 c.1), RD X.K m H b.1 b.2 := fun b hb => z3 b (List.mem_mergeSort.mp hb)
      have z5 := rds_of z4
      rw [e2] at z5
      exact hP.lst hS z5
  · exact hP.elim⟩
end
end HM

/-! HM, part Q: the keys of a dict; sorted of a dict. -/
namespace HM
open PySem PySem.Calls PySem.Spec PyProof.Rows L2 PySem.W
/-- the keys of the dict at a -/
def DKeys (K : KW) (H : Hp) (a : Addr) (vs : List V) : Prop :=
  (∃ us, H a = some (.dK us) ∧ vs = us.map fun u => kV u.1) ∨ ∃ xs, H a = some (.ext (DObj K.w a xs)) ∧ vs = xs.map fun x => V.ref x.2.1
theorem rd_key {K : PySem.W.Frag} {m : List Addr} {H : Hp} (k : Key) : RD K m H (keyD k) (kV k) := by
  cases k with
  | inl i => exact .int i
  | inr x =>
    have e : x = ⟨x.cps.toList.toArray⟩ := by simp
    exact e ▸ .str x.cps.toList
theorem keys_rd1 {K : PySem.W.Frag} {m : List Addr} {H : Hp} : ∀ {kvs : List (D × D)} {us : List (Key × V)}, DRel1 K m H kvs us → RDs K m H (kvs.map (·.1)) (us.map fun u => kV u.1)
  | _, _, .nil => .nil
  | _, _, .cons h t => by
    rw [List.map_cons, List.map_cons, h.1]
    exact .cons (rd_key _) (keys_rd1 t)
theorem keys_rd2 {K : PySem.W.Frag} {m : List Addr} {H : Hp} : ∀ {kvs : List (D × D)} {xs : List (NestedKey × Addr × V)}, DRel2 K m H kvs xs → RDs K m H (kvs.map (·.1)) (xs.map fun x => V.ref x.2.1)
  | _, _, .nil => .nil
  | _, _, .cons h t => .cons h.2.2.1 (keys_rd2 t)
theorem dkeys_of {K : KW} {m : List Addr} {st : Store} {H : Hp} {n : Nat} {kvs : List (D × D)} {v : V} (hS : SS K m st H) (hk : dctAt st n = some kvs) (r : RD K m H (.ref n) v) : ∃ a vs, v = .ref a ∧ DKeys K H a vs ∧ RDs K m H (kvs.map (·.1)) vs := by
  cases r with
  | ref h =>
    rename_i a
    rcases hS.dict hk h with ⟨us, e, rel⟩ | ⟨xs, e, _, rel⟩
    · exact ⟨a, _, rfl, .inl ⟨us, e, rfl⟩, keys_rd1 rel⟩
    · exact ⟨a, _, rfl, .inr ⟨xs, e, rfl⟩, keys_rd2 rel⟩
theorem paired_at {α β : Type} {F : α → β → Prop} : ∀ {l₁ : List α} {l₂ : List β}, Paired F l₁ l₂ → ∀ {j : Nat} {a : α}, l₁[j]? = some a → ∃ b, l₂[j]? = some b ∧ F a b
  | _, _, .nil, _, _, h => by simp at h
  | _, _, .cons r t, 0, _, h => by
    simp at h
    subst h
    exact ⟨_, rfl, r⟩
  | _, _, .cons r t, j + 1, _, h => by
    obtain ⟨b, e, f⟩ := paired_at t (j := j) (by simpa using h)
    exact ⟨b, by simpa using e, f⟩
section
variable {X : Cx} {pins : List (Addr × Obj)} {σ : L2.St} {H : Hp} {s : Shared} {a : Addr} {vs : List V}
theorem collect_keys {T : List Value → Shared → Prop} {E : Value → Shared → Prop} {A : Around} (hh : A.handled = none) (I : Inv X pins σ H s) (c : DKeys X.kw H a vs)
    (h : ∀ (h' : Heap) (tk : Nat) (acc : List Value), (∀ b o, s.heap.get? b = some o → h'.get? b = some o) → Vals vs acc → vs.length ≤ sizeLine → T acc { s with heap := h', toks := tk }) : wpAny (model X.prog X.w) A (collect (.ref a)) T E s := by
  rcases c with ⟨us, e, rfl⟩ | ⟨xs, e, rfl⟩
  · obtain ⟨z, lo, ws, rk, hd⟩ := (show ObjOk X.prog X.w H s.heap a (.dK us) from I.hok a _ e)
    obtain ⟨ep, hat⟩ := hd.dictAt
    have hl : us.length = ws.length := Paired.length rk
    refine PySem.W.kdu_collect (A := A) (PySem.W.kdl_dict (knd := mixKind X.prog X.w) (kvs := ws) (ep := ep) lo) hh hat (by rw [← hl]; exact z) fun h' tk acc hk hacc => ?_
    have el : acc.toList.length = acc.size := by simp
    refine h h' tk acc.toList hk ?_ (by rw [List.length_map]; exact z)
    refine vals_of_at (by rw [List.length_map, el, hacc.1, hl]) fun j x w h1 h2 => ?_
    obtain ⟨k, y, hky, hi⟩ := hacc.2 j w (by rw [← Array.getElem?_toList]; exact h2)
    have e1 : (us.map (·.1))[j]? = some k := by
      rw [KV.keys rk, List.getElem?_map, hky] <;> rfl
    have e2 : (us.map fun kv => kV kv.1)[j]? = some (kV k) := by
      have e3 : (us.map fun kv => kV kv.1) = (us.map (·.1)).map kV := by rw [List.map_map] <;> rfl
      rw [e3, List.getElem?_map, e1] <;> rfl
    rw [e2] at h1
    cases h1
    exact keyIs_rel hi
  · obtain ⟨⟨lo, hz, zs, rel, ob, es, ep, ho, hx, hdt, he, _⟩, _, _⟩ := (show ObjOk X.prog X.w H s.heap a (.ext (DObj X.w a xs)) from I.hok a _ e)
    have l0 : xs.length = zs.length := Paired.length rel
    have l1 : es.size = zs.length := by
      rw [← Array.length_toList, he, List.length_map]
    refine PySem.W.kdu_collect (A := A) (kdl_raw lo hx hdt) hh ho (by omega) fun h' tk acc hk hacc => ?_
    have el : acc.toList.length = acc.size := by simp
    refine h h' tk acc.toList hk ?_ (by rw [List.length_map]; exact hz)
    refine vals_of_at (by rw [List.length_map, el, hacc.1, l1, l0]) fun j x w h1 h2 => ?_
    obtain ⟨en, hen, hv⟩ := hacc.2 j w (by rw [← Array.getElem?_toList]; exact h2)
    rw [List.getElem?_map] at h1
    cases hx : xs[j]? with
    | none => rw [hx] at h1; cases h1
    | some y =>
      rw [hx] at h1
      cases h1
      obtain ⟨q, hq, e1, e2, e3⟩ := paired_at rel hx
      have qe : es.toList[j]? = some (⟨NestedKey.hash X.w q.1, .ref q.2.1, q.2.2⟩ : DictEntry) := by
        rw [he, List.getElem?_map, hq] <;> rfl
      rw [Array.getElem?_toList, hen] at qe
      cases qe
      rw [hv]
      exact congrArg Value.ref e2.symm
theorem sorted_keys {β : Type} {R : Value → β → Prop} {enc : β → PyData} {bs : List β} {A : Around} {E : Value → Shared → Prop} {Q : Value → Shared → Prop}
    (coll : ∀ T : List Value → Shared → Prop, (∀ (h' : Heap) (tk : Nat) (acc : List Value), (∀ b o, s.heap.get? b = some o → h'.get? b = some o) → EachIs R acc bs → EachIs (fun v b => ∃ as, PySem.Reads h' v (enc b) as) acc bs → T acc { s with heap := h', toks := tk }) → wpAny (model X.prog X.w) A.in1 (collect (.ref a)) T E s)
    (hal : AllAlike (bs.map enc)) (hk : Sortable2 (bs.map enc)) (hL : bs.length ≤ sizeLine) (hu : ∀ b, b ∈ bs → A.units + 2 + (enc b).depth < cLine)
    (h : ∀ (h' : Heap) (tk : Nat) (acc out : List Value), (∀ b o, s.heap.get? b = some o → h'.get? b = some o) → out.length = bs.length → EachIs R out (bs.mergeSort (dataLe false enc)) → Q (.ref h'.objs.size) { s with heap := PyProof.Rows.sortedHeap (h'.push (seqObj "list" acc.toArray 0)) h'.objs.size acc out.toArray, toks := tk }) :
    wpAny (model X.prog X.w) A (call (.builtin "sorted") [.ref a]) Q E s := by
  refine Calls.call_function_entry PyProof.Rows.kind_sorted PyProof.Rows.plain_sorted PyProof.Rows.entry_sorted (PyProof.Rows.args_sorted1 _) ?_
  unfold Builtin.«sorted»
  refine wpAny_bind (m := checkCount "sorted" 1 1 _) (wpAny_pure ?_)
  refine wpAny_bind (coll _ fun h' tk acc hk' e er => ?_)
  have hl : acc.length ≤ sizeLine := by rw [e.length]; exact hL
  refine wpAny_bind (wpAny_newList ?_ hl)
  have hoL : (h'.push (seqObj "list" acc.toArray 0)).get? h'.objs.size = some (seqObj "list" acc.toArray 0) := Heap.get?_push_size _ rfl
  show wpAny _ _ _ _ _ { s with heap := h'.push (seqObj "list" acc.toArray 0), toks := tk }
  have er2 : EachIs (fun v b => ∃ as, PySem.Reads (sortingHeap (h'.push (seqObj "list" acc.toArray 0)) h'.objs.size acc) v (enc b) as) acc bs := er.mono fun _ _ ⟨as, r⟩ => ⟨as, PyProof.Rows.Reads.keeps (fun b o hb => sortingHeap_old (Nat.ne_of_lt (Heap.lt_size hb)) (Heap.get?_push_of_some _ hb)) r⟩
  refine wpAny_bind (wpAny_holding (wpAny_call_entry PyProof.Rows.slot_list_sort ⟨_, hoL, rfl⟩ PyProof.Rows.entry_list_sort
    (list_sort_vals (s := { s with heap := h'.push (seqObj "list" acc.toArray 0), toks := tk }) hoL
      (SortsAt_data2 (s := { s with heap := sortingHeap (h'.push (seqObj "list" acc.toArray 0)) h'.objs.size acc, toks := tk }) (each_map (R := fun v d => ∃ as, PySem.Reads (sortingHeap (h'.push (seqObj "list" acc.toArray 0)) h'.objs.size acc) v d as) enc er2) hal hk (bound_map2 hu)) hl ⟨_, rfl, wpAny_pure ⟨_, rfl, ?_⟩⟩)
    (PyProof.Rows.args_list_sort _)))
  exact h h' tk acc _ hk' (by rw [sortVals_length false rfl]; exact e.length) (sortVals_data false e er2 hal)
end
section
variable {X : Cx}
def rSortedK (K : KW) : List V → Hp → VK → Prop := fun xs H Q => ∃ (a : Addr) (bs : List (D × V)), xs = [.ref a] ∧ DKeys K H a (bs.map (·.2)) ∧ (∀ b ∈ bs, Dp K H b.2 (b.1.toP 60) ∧ (b.1.toP 60).depth ≤ 60) ∧
  AllAlike (bs.map fun b => b.1.toP 60) ∧ Sortable2 (bs.map fun b => b.1.toP 60) ∧ ∀ p, H p = none → Q (.ref p) (upd H p (.lst ((bs.mergeSort (dataLe false fun b => b.1.toP 60)).map (·.2))))
theorem cr_sortedK (hc : X.calm = true) (hu : X.A.units + 65 < cLine) : CallR X (.builtin "sorted") (rSortedK X.kw) := by
  intro pins s σ H vs us Q I r h
  obtain ⟨a, bs, rfl, hd, hb, hal, hk, q⟩ := h
  rw [Vals.ref1 r]
  have hz : bs.length ≤ sizeLine := by
    have hm : ∀ {vs : List V}, DKeys X.kw H a vs → vs.length ≤ sizeLine := fun c => by
      rcases c with ⟨us, e, rfl⟩ | ⟨xs, e, rfl⟩
      · obtain ⟨z, _⟩ := (show ObjOk X.prog X.w H s.heap a (.dK us) from I.hok a _ e)
        rw [List.length_map]
        exact z
      · obtain ⟨⟨_, z, _⟩, _, _⟩ := (show ObjOk X.prog X.w H s.heap a (.ext (DObj X.w a xs)) from I.hok a _ e)
        rw [List.length_map]
        exact z
    have := hm hd
    rwa [List.length_map] at this
  refine sorted_keys (X := X) (R := fun u (b : D × V) => RelV b.2 u) (enc := fun b : D × V => b.1.toP 60) (bs := bs) (fun T hT => ?_) hal hk hz (fun b hm => by
    have := (hb b hm).2
    omega) fun h' tk acc out hk' h1 h2 => ?_
  · refine collect_keys (A := X.A.in1) (I.ok.hd hc) I hd fun h' tk acc hk' rv _ => ?_
    refine hT h' tk acc hk' (each_of (f := fun b : D × V => b.2) rv fun b _ u h => h) (each_of (f := fun b : D × V => b.2) rv fun b hm u h => ?_)
    obtain ⟨as, r⟩ := Dp.reads I _ _ _ (hb b hm).1 h
    exact ⟨as, PyProof.Rows.Reads.keeps hk' r⟩
  · have hoL : (h'.push (seqObj "list" acc.toArray 0)).get? h'.objs.size = some (seqObj "list" acc.toArray 0) := Heap.get?_push_size _ rfl
    obtain ⟨ep, he'⟩ := PyProof.Rows.sortedHeap_at (vs := acc) (out := out.toArray) hoL
    have I1 : Inv X pins σ H { s with heap := h', toks := tk } := I.kept hk'
    have rv' := vals_of_each (f := fun b : D × V => b.2) h2
    have hlen : ((bs.mergeSort (dataLe false fun b => b.1.toP 60)).map (·.2)).length ≤ sizeLine := by
      rw [List.length_map, List.length_mergeSort]
      exact hz
    refine ⟨.ref h'.objs.size, upd H h'.objs.size (.lst ((bs.mergeSort (dataLe false fun b => b.1.toP 60)).map (·.2))), I1.laid (t' := tk) (fun b u e => ?_) (Nat.le_refl _) ⟨hlen, out, ep, rv', he'⟩, rfl, q _ (I1.hok.fresh (Nat.le_refl _))⟩
    have hb : b < h'.objs.size := Heap.lt_size e
    rw [PyProof.Rows.sortedHeap_old (Nat.ne_of_lt hb) (by rw [size_push']; exact Nat.lt_succ_of_lt hb)]
    exact Heap.get?_push_of_some _ e
/-- sorted(x), x a list, a tuple or a dict -/
def fSorted : FM := fun ds st => match ds with
  | [d] => match dSeq st d with
    | some xs => gSorted xs st
    | none => match d with
      | .ref n => match dctAt st n with
        | some kvs => gSorted (kvs.map (·.1)) st
        | none => .bad
      | _ => .bad
  | _ => .bad
/-- what sorting asks, of any row of values -/
theorem sorted_ask {K : KW} {m : List Addr} {st : Store} {H : Hp} {ds : List D} {vs : List V} {E : XK} {Q : VK} (hS : SS K m st H) (rs : RDs K m H ds vs) (hP : Pe K E (RD K) m H (gSorted ds st) Q) :
    ∃ bs : List (D × V), bs.map (·.2) = vs ∧ (∀ b ∈ bs, Dp K H b.2 (b.1.toP 60) ∧ (b.1.toP 60).depth ≤ 60) ∧ AllAlike (bs.map fun b => b.1.toP 60) ∧ Sortable2 (bs.map fun b => b.1.toP 60) ∧ ∀ p, H p = none → Q (.ref p) (upd H p (.lst ((bs.mergeSort (dataLe false fun b => b.1.toP 60)).map (·.2)))) := by
  unfold gSorted at hP
  split at hP
  · rename_i hc
    unfold sortable at hc
    simp only [Bool.and_eq_true, Bool.or_eq_true, List.all_eq_true] at hc
    obtain ⟨⟨h1, h2⟩, h3⟩ := hc
    obtain ⟨z1, z2, z3⟩ := rds_zip rs
    have hmem : ∀ b ∈ ds.zip vs, b.1 ∈ ds := fun b hb => by
      rw [← z1]
      exact List.mem_map_of_mem hb
    have hmap : (ds.zip vs).map (fun b => b.1.toP 60) = ds.map (D.toP 60) := by
      conv => rhs; rw [← z1]
      rw [List.map_map]
      rfl
    refine ⟨ds.zip vs, z2, fun b hb => ?_, ?_, ?_, ?_⟩
    · obtain ⟨a1, a2, a3⟩ := plain_dp 60 b.1 b.2 (h1 _ (hmem b hb)) (z3 b hb)
      exact ⟨a1, a3⟩
    · rw [hmap]
      intro d hd d' hd'
      obtain ⟨x, hx, rfl⟩ := List.mem_map.mp hd
      obtain ⟨y, hy, rfl⟩ := List.mem_map.mp hd'
      exact h2 x hx y hy
    · rw [hmap]
      rcases h3 with (h3 | h3) | ⟨h3, h4⟩
      · refine .inl (.inl fun d hd => ?_)
        obtain ⟨x, hx, rfl⟩ := List.mem_map.mp hd
        have := h3 x hx
        unfold D.neTup at this
        split at this
        · exact ⟨_, _, rfl⟩
        · cases this
      · refine .inl (.inr fun d hd => ?_)
        obtain ⟨x, hx, rfl⟩ := List.mem_map.mp hd
        have := h3 x hx
        unfold D.atom at this
        split at this
        · exact ⟨nofun, fun _ => nofun⟩
        · exact ⟨nofun, fun _ => nofun⟩
        · cases this
      · refine .inr ⟨fun d hd => ?_, ?_⟩
        · obtain ⟨x, hx, rfl⟩ := List.mem_map.mp hd
          have := h3 x hx
          unfold D.isTup at this
          split at this
          · exact ⟨_, rfl⟩
          · cases this
        · rw [List.any_eq_true] at h4
          obtain ⟨x, hx, e⟩ := h4
          have e := of_decide_eq_true e
          subst e
          exact List.mem_map.mpr ⟨_, hx, rfl⟩
    · have e : (ds.zip vs).mergeSort (dataLe false fun b => b.1.toP 60) = (ds.zip vs).mergeSort (fun b c => sortLeD b.1 c.1) := rfl
      have e2 : ((ds.zip vs).mergeSort (fun b c => sortLeD b.1 c.1)).map (·.1) = sortD ds := by
        refine (sort_maps (s := sortLeD) (Prod.fst : D × V → D) (fun _ _ _ _ => rfl)).trans ?_
        show ((ds.zip vs).map fun b => b.1).mergeSort sortLeD = sortD ds
        rw [z1]
        rfl
      rw [e]
      have z4 : ∀ b ∈ (ds.zip vs).mergeSort (fun b c => sortLeD b.1 c.1), RD K m H b.1 b.2 := fun b hb => z3 b (List.mem_mergeSort.mp hb)
      have z5 := rds_of z4
      rw [e2] at z5
      exact hP.lst hS z5
  · exact hP.elim
theorem c_sorted (hc : X.calm = true) (hu : X.A.units + 65 < cLine) : CallM X (.builtin "sorted") fSorted :=
  ⟨fun vs H Q => rSortedD X.K vs H Q ∨ rSortedK X.kw vs H Q, fun pins s σ H vs us Q I r h => h.elim (fun h => cr_sortedD hu pins s σ H vs us Q I r h) (fun h => cr_sortedK hc hu pins s σ H vs us Q I r h), fun m st H ds vs E Q hS r hP => by
    unfold fSorted at hP
    split at hP
    · rename_i d
      obtain ⟨v, rfl, rv⟩ := r.one
      split at hP
      · rename_i xs hx
        obtain ⟨a, ws, rfl, hq, rs⟩ := dSeq_read hS hx rv
        obtain ⟨bs, e, h1, h2, h3, h4⟩ := sorted_ask hS rs hP
        exact .inl ⟨a, bs, rfl, by rw [e]; exact hq.imp id PlT.sq, h1, h2, h3, h4⟩
      · split at hP
        · rename_i n
          split at hP
          · rename_i kvs hk
            obtain ⟨a, ws, rfl, hd, rs⟩ := dkeys_of hS hk rv
            obtain ⟨bs, e, h1, h2, h3, h4⟩ := sorted_ask hS rs hP
            exact .inr ⟨a, bs, rfl, by rw [e]; exact hd, h1, h2, h3, h4⟩
          · exact hP.elim
        · exact hP.elim
    · exact hP.elim⟩
end
end HM

/-! HM, part DD: a dict of one pair. -/
namespace HM
open PySem PySem.Spec PyProof.Rows L2
section
variable {X : Cx} {W : WX} {a b : Expr} {pos : Pos} {fa fb : EM D} {A : Around} {E : Value → Shared → Prop} {s : Shared}
theorem wpAny_Dict_one {prog : Program} {w : World} {env : Env} {k v : Expr} {Q : Value → Shared → Prop}
    (h : wpAny (model prog w) A (eval k env) (fun kv s1 => wpAny (model prog w) A (eval v env) (fun vv s2 => wpAny (model prog w) A (dictSet s.heap.objs.size kv vv) (fun _ s3 => Q (.ref s.heap.objs.size) s3) E s2) E s1) E { s with heap := s.heap.push { cls := .type "dict", data := .dict #[] } }) :
    wpAny (model prog w) A (eval (.Dict [some k] [v] pos) env) Q E s := by
  rw [arm_eval_Dict, zip_pairTrees [some k] [v] env pos rfl rfl, dictDisplay_pairs _ (by simp [pairTrees]) (by simp [pairTrees])]
  refine wpAny_bind (wpAny_standAt (wpAny_bind ?_))
  unfold subDict
  refine wpAny_bind (wpAny_alloc (wpAny_bind (wpAny_holding ?_)))
  rw [if_pos (by simp [pairTrees])]
  refine wpAny_bind (pairTrees_cons_walk (wpAny_mono h (fun kv s1 h1 => wpAny_mono h1 (fun vv s2 h2 => pairTrees_nil_walk ?_) fun _ _ e => e) fun _ _ e => e))
  refine wpAny_holding ?_
  rw [List.forIn_cons]
  refine wpAny_bind (wpAny_bind (wpAny_bind (wpAny_mono h2 (fun _ s3 h3 => wpAny_pure ?_) fun _ _ e => e)))
  show wpAny _ _ (forIn [] PUnit.unit _) _ _ _
  rw [List.forIn_nil]
  exact wpAny_pure (wpAny_pure (wpAny_pure (wpAny_pure h3)))
end
section
variable {X : Cx} {pins : List (Addr × Obj)} {σ : L2.St} {H : Hp} {s : Shared} {p : Addr} {A : Around} {E : Value → Shared → Prop} {K : KW} {m m2 : List Addr} {st : Store}
/-- the first pair of a dict -/
theorem dictSet_first {k d : D} {y v : V} {u r : Value} {Q : Unit → Shared → Prop} (hu : A.units + 10 < cLine) (I : Inv X pins σ H s) (e : H p = some (.dK [])) (f : (k.flatK || k.tupQ) = true) (rk : RD X.K m H k y) (rv : RD X.K m H d v) (ru : RelV y u) (rr : RelV v r)
    (h : ∀ (o : HO) (s' : Shared), Inv X pins σ (upd H p o) s' → (∀ m', (∀ (n : Nat) (a : Addr), m[n]? = some a → m'[n]? = some a) → RC X.kw m' (upd H p o) p (.dct [(k, d)])) → Q () s') : wpAny (model X.prog X.w) A (dictSet p u r) Q E s := by
  have mu : Mut (H p) := by rw [e]; exact True.intro
  have kp : ∀ (o : HO) (m' : List Addr), (∀ (n : Nat) (a : Addr), m[n]? = some a → m'[n]? = some a) → Kp X.K m H m' (upd H p o) := fun o m' hm => by
    have z : Kp X.K m H m (upd H p o) := Kp.writeM mu
    exact ⟨fun n a q => hm n a q, z.tup, z.plt, z.fzl, z.xdk⟩
  rw [Bool.or_eq_true] at f
  rcases f with f | f
  · obtain ⟨q, rfl, rfl⟩ := flatK_of f rk
    obtain ⟨z, hd, vs0, r0, dd⟩ := dk_of I.hok e
    cases r0
    refine wpAny_dictSet_pairs (hsz := Nat.zero_le _) (kV_is ru) dd fun h' dd' hs => h (.dK (putK [] q v)) _ ?_ fun m' hm => .inl ⟨_, upd_same, .cons ⟨rfl, rv.kp (kp _ m' hm)⟩ .nil⟩
    have he : ∃ q, h'.get? p = some q := let ⟨q, _, _, hq, _⟩ := dd'; ⟨q, hq⟩
    refine d_write I mu hs he (dk_new (by rw [PySem.sizeLine_eq]; show 1 ≤ _; omega) hd ?_ dd')
    exact .cons ⟨rfl, rr⟩ .nil
  · obtain ⟨b, rfl, z1, z2⟩ := tupQ_of f rk
    cases (show u = Value.ref b from ru)
    obtain ⟨hd, dd⟩ := dk_empty_at I e
    refine wpAny_dictSet_heap (knd := nestedKind X.prog X.w) (hsz := Nat.zero_le _) ?_ ⟨nv_is I z1 rfl, z2⟩ dd fun h' dd' hs => h (.ext (DObj X.w p [(k.nk, b, v)])) _ ?_ fun m' hm => .inr ⟨_, upd_same, by simp, .cons ⟨f, rfl, rk.kp (kp _ m' hm), rv.kp (kp _ m' hm)⟩ .nil⟩
    · show A.units + 8 < cLine
      omega
    have he : ∃ q, h'.get? p = some q := let ⟨q, _, _, hq, _⟩ := dd'; ⟨q, hq⟩
    exact d_write I mu hs he (dobj_ok hd (by rw [PySem.sizeLine_eq]; show 1 ≤ _; omega) (.cons ⟨rfl, rfl, rr⟩ .nil) dd')
/-- an object that the store does not hold is written and becomes the store's -/
theorem Ext.ownW {H0 : Hp} {o : HO} (e : Ext K.F m H0 m2 H) (h0 : H0 p = none) (hp : p ∉ m2) (mu : Mut (H p)) : Ext K.F m H0 (m2 ++ [p]) (upd H p o) where
  pre := fun n a q => by
    have := e.pre n a q
    rw [List.getElem?_append_left (List.getElem?_eq_some_iff.mp this).1]
    exact this
  tup := fun a vs q => (Kp.writeM (K := K.F) (m := m2) mu).tup a vs (e.tup a vs q)
  plt := fun a vs q => (Kp.writeM (K := K.F) (m := m2) mu).plt a vs (e.plt a vs q)
  fzl := fun a vs q => (Kp.writeM (K := K.F) (m := m2) mu).fzl a vs (e.fzl a vs q)
  xdk := fun a vs q => (Kp.writeM (K := K.F) (m := m2) mu).xdk a vs (e.xdk a vs q)
  frm := fun a ob n q => by
    have : a ≠ p := fun z => by rw [z, h0] at q; cases q
    rw [upd_ne this]
    exact e.frm a ob n q
  new := fun a q n => by
    rcases List.mem_append.mp q with q | q
    · exact e.new a q n
    · have z : a = p := by simpa using q
      rw [z]
      exact h0
theorem SS.ownW {o : HO} {c : Cell} (hS : SS K m st H) (hp : p ∉ m) (mu : Mut (H p)) (r : RC K (m ++ [p]) (upd H p o) p c) : SS K (m ++ [p]) (st ++ [c]) (upd H p o) := by
  have s1 : SS K m st (upd H p o) := ⟨hS.len, hS.nd, fun n c a h1 h2 => (hS.cel n c a h1 h2).kp (Kp.writeM mu) fun ob q => by
    have : a ≠ p := fun z => by rw [z] at h2; exact hp (List.mem_of_getElem? h2)
    rw [upd_ne this]
    exact q⟩
  exact s1.grow hp r
end
section
variable {X : Cx} {W : WX} {a b : Expr} {pos : Pos} {fa fb : EM D}
def eDct1 (fk fv : EM D) : EM D := fun τ st => (fk τ st).bind fun k s1 => (fv τ s1).bind fun v s2 => if k.flatK || k.tupQ then .ok (.ref s2.length) (s2 ++ [.dct [(k, v)]]) else .bad
theorem ex_dct1 (hu : X.A.units + 65 < cLine) (hk : Ex X W a fa) (hv : Ex X W b fb) : Ex X W (.Dict [some a] [b] pos) (eDct1 fa fb) := by
  refine ⟨fun m τ st σ H Q hL hS hP pins s I => wpAny_Dict_one ?_⟩
  have hn := I.hok.fresh (Nat.le_refl s.heap.objs.size)
  obtain ⟨p, hp⟩ : ∃ p, p = s.heap.objs.size := ⟨_, rfl⟩
  have I1 := I.laid (a := s.heap.objs.size) (o := .dK []) (h' := s.heap.push { cls := .type "dict", data := .dict #[] }) (t' := s.toks) (fun _ _ q => Heap.get?_push_of_some _ q) (Nat.le_refl _) (dk_empty s.heap I.big)
  rw [← hp] at I1 hn ⊢
  have e0 : Ext X.K m H m (upd H p (.dK [])) := Ext.fresh hn
  have np := hS.notin hn
  unfold eDct1 at hP
  cases h1 : fa τ st with
  | bad => rw [h1] at hP; exact hP.elim
  | exc x s1 =>
    rw [h1] at hP
    refine wpAny_mono (hk.run m τ st σ _ (fun _ _ => False) (hL.mono e0) (hS.fresh hn) ?_ pins _ I1) (fun _ _ h => ?_) fun _ _ h => h
    · rw [h1]
      exact fun m' H' c d e q r => hP m' H' c d (e0.trans e) q r
    · obtain ⟨_, _, _, _, f⟩ := h
      exact f.elim
  | ok k s1 =>
    rw [h1, ER.bind_ok] at hP
    have J1 : ∀ {m1 : List Addr} {H1 : Hp}, Ext X.K m (upd H p (.dK [])) m1 H1 → H1 p = some (.dK []) ∧ p ∉ m1 := fun e => by
      refine ⟨e.frm p _ np upd_same, fun q => ?_⟩
      have := e.new p q np
      rw [upd_same] at this
      cases this
    refine wpAny_mono (hk.run m τ st σ _ (fun y H1 => ∃ m1, Ext X.K m (upd H p (.dK [])) m1 H1 ∧ SS X.kw m1 s1 H1 ∧ RD X.K m1 H1 k y) (hL.mono e0) (hS.fresh hn) ?_ pins _ I1) (fun u t1 hh => ?_) fun _ _ h => h
    · rw [h1]
      exact fun m' H' y e q r => ⟨m', e, q, r⟩
    obtain ⟨y, H1, I2, ru, m1, e1, hS1, rk⟩ := hh
    cases h2 : fb τ s1 with
    | bad => rw [h2] at hP; exact hP.elim
    | exc x s2 =>
      rw [h2] at hP
      refine wpAny_mono (hv.run m1 τ s1 σ H1 (fun _ _ => False) (hL.mono (e0.trans e1)) hS1 ?_ pins _ I2) (fun _ _ h => ?_) fun _ _ h => h
      · rw [h2]
        exact fun m' H' c d e q r => hP m' H' c d ((e0.trans e1).trans e) q r
      · obtain ⟨_, _, _, _, f⟩ := h
        exact f.elim
    | ok v s2 =>
      rw [h2, ER.bind_ok] at hP
      refine wpAny_mono (hv.run m1 τ s1 σ H1 (fun z H2 => ∃ m2, Ext X.K m1 H1 m2 H2 ∧ SS X.kw m2 s2 H2 ∧ RD X.K m2 H2 v z) (hL.mono (e0.trans e1)) hS1 ?_ pins _ I2) (fun w t2 hh => ?_) fun _ _ h => h
      · rw [h2]
        exact fun m' H' y e q r => ⟨m', e, q, r⟩
      obtain ⟨z, H2, I3, rw', m2, e2, hS2, rv⟩ := hh
      obtain ⟨q2, n2⟩ := J1 (e1.trans e2)
      have rk2 := rk.mono e2
      split at hP
      · rename_i hf
        have mu : Mut (H2 p) := by rw [q2]; exact True.intro
        refine dictSet_first (by omega) I3 q2 hf rk2 rv ru rw' fun o t3 I4 rc => ?_
        have pre : ∀ (n : Nat) (a : Addr), m2[n]? = some a → (m2 ++ [p])[n]? = some a := fun n a q => by
          rw [List.getElem?_append_left (List.getElem?_eq_some_iff.mp q).1]
          exact q
        have hS3 := SS.ownW hS2 n2 mu (rc _ pre)
        refine ⟨.ref p, _, I4, rfl, hP _ _ _ (Ext.ownW (K := X.kw) ((e0.trans e1).trans e2) hn n2 mu) hS3 (.ref ?_)⟩
        rw [← hS2.len]
        simp
      · exact hP.elim
end
end HM

/-! HM, part M: min of tuples. -/
namespace HM
open PySem PySem.Spec PyProof.Rows L2
section
open PySem.W PySem.Calls
variable {prog : Program} {w : World} {A : Around} {E : Value → Shared → Prop} {s : Shared}
theorem min_list_ix {l : Addr} {vs : Array Value} {ys : List PyData} {as : List Addr} {Q : Value → Shared → Prop} (hh : A.handled = none) (hl : s.heap.IsList l vs) (hr : ReadsAll s.heap vs.toList ys as) (hn : vs.size = ys.length) (h0 : 0 < ys.length) (ha : AlikeAll ys) (hu : A.units + 1 + PyData.depthAll ys < cLine)
    (h : ∀ v h' tk, vs[argBest (fun i j => PySem.W.dataLt (ys.getD i .none) (ys.getD j .none)) (ys.length - 1)]? = some v → (∀ b o, s.heap.get? b = some o → h'.get? b = some o) → Q v { s with heap := h', toks := tk }) :
    wpAny (model prog w) A (call (.builtin "min") [.ref l]) Q E s := by
  refine call_min_walkH (iter_listW (A := A.in1) hh hl fun s₂ e W st hfp hw hk => ?_)
  refine ⟨_, _, _, _, _, _, _, s.heap, _, rfl, W, st, hfp, by omega, hw, hk, cmpIn_lt (A := A.in1) hr ha (by show A.units + 1 + _ < _; exact hu), fun v s' hP m => ?_⟩
  obtain ⟨h', tk, rfl, hk'⟩ := moved_old e rfl m
  rw [hn] at hP
  exact h v h' tk hP hk'
theorem min_tuple_ix {l : Addr} {vs : Array Value} {ys : List PyData} {as : List Addr} {Q : Value → Shared → Prop} (hh : A.handled = none) (hl : s.heap.IsTuple l vs) (hr : ReadsAll s.heap vs.toList ys as) (hn : vs.size = ys.length) (h0 : 0 < ys.length) (ha : AlikeAll ys) (hu : A.units + 1 + PyData.depthAll ys < cLine)
    (h : ∀ v h' tk, vs[argBest (fun i j => PySem.W.dataLt (ys.getD i .none) (ys.getD j .none)) (ys.length - 1)]? = some v → (∀ b o, s.heap.get? b = some o → h'.get? b = some o) → Q v { s with heap := h', toks := tk }) :
    wpAny (model prog w) A (call (.builtin "min") [.ref l]) Q E s := by
  refine call_min_walkH (iter_tupleW (A := A.in1) hh hl fun s₂ e W st hfp hw hk => ?_)
  refine ⟨_, _, _, _, _, _, _, s.heap, _, rfl, W, st, hfp, by omega, hw, hk, cmpIn_lt (A := A.in1) hr ha (by show A.units + 1 + _ < _; exact hu), fun v s' hP m => ?_⟩
  obtain ⟨h', tk, rfl, hk'⟩ := moved_old e rfl m
  rw [hn] at hP
  exact h v h' tk hP hk'
end
section
open PySem.W PySem.Calls
variable {X : Cx} {W : WX} {e o a b c : Expr} {es : List Expr} {pos p : Pos} {f fo fa fb : EM D} {fs : EM (List D)}
/-- the place of the first of the least -/
def minIx (ds : List D) : Nat := argBest (fun i j => PySem.W.dataLt ((ds.getD i .non).toP 60) ((ds.getD j .non).toP 60)) (ds.length - 1)
def minable (xs : List D) : Bool := xs.all D.isTup && xs.all (D.plain 60) && xs.all fun x => xs.all fun y => PySem.W.alike (x.toP 60) (y.toP 60)
def gMinT : SM1 := fun xs st => match (intsD xs).bind minI with
  | some n => .ok (.int n) st
  | none => match minable xs, xs[minIx xs]? with
    | true, some d => .ok d st
    | _, _ => .bad
def rMinD (K : PySem.W.Frag) : List V → Hp → VK → Prop := fun xs H Q => ∃ (a : Addr) (bs : List (D × V)), xs = [.ref a] ∧ (SqL K H a (bs.map (·.2)) ∨ SqT K H a (bs.map (·.2))) ∧ (∀ b ∈ bs, Dp K H b.2 (b.1.toP 60) ∧ (b.1.toP 60).depth ≤ 60) ∧
  AlikeAll (bs.map fun b => b.1.toP 60) ∧ 0 < bs.length ∧ ∀ b, bs[minIx (bs.map (·.1))]? = some b → Q b.2 H
theorem depthAll_le {n : Nat} : ∀ {ys : List PyData}, (∀ y ∈ ys, y.depth ≤ n) → PyData.depthAll ys ≤ n
  | [], _ => by simp [PyData.depthAll]
  | y :: ys, h => by
    have h1 := h y (List.mem_cons_self ..)
    have h2 := depthAll_le (ys := ys) fun z hz => h z (List.mem_cons_of_mem _ hz)
    simp only [PyData.depthAll]
    omega
theorem cr_minD (hc : X.calm = true) (hu : X.A.units + 65 < cLine) : CallR X (.builtin "min") (rMinD X.K) := by
  intro pins s σ H vs us Q I r h
  obtain ⟨a, bs, rfl, hs, hb, hal, h0, q⟩ := h
  rw [Vals.ref1 r]
  have ee : ∀ its : List Value, Vals (bs.map (·.2)) its → EachIs (fun u (b : D × V) => RelV b.2 u) its bs := fun its rv => each_of (f := fun b : D × V => b.2) rv fun b _ u h => h
  have er : ∀ its : List Value, Vals (bs.map (·.2)) its → EachIs (fun v (b : D × V) => ∃ as, PySem.Reads s.heap v (b.1.toP 60) as) its bs := fun its rv => each_of (f := fun b : D × V => b.2) rv fun b hm u h => Dp.reads I _ _ _ (hb b hm).1 h
  have hd : PyData.depthAll (bs.map fun b => b.1.toP 60) ≤ 60 := depthAll_le fun y hy => by
    obtain ⟨b, hb', rfl⟩ := List.mem_map.mp hy
    exact (hb b hb').2
  have ix : argBest (fun i j => PySem.W.dataLt ((bs.map fun b => b.1.toP 60).getD i .none) ((bs.map fun b => b.1.toP 60).getD j .none)) ((bs.map fun b => b.1.toP 60).length - 1) = minIx (bs.map (·.1)) := by
    unfold minIx
    have g : ∀ i, (bs.map fun b => b.1.toP 60).getD i .none = ((bs.map (·.1)).getD i D.non).toP 60 := fun i => by
      simp only [List.getD_eq_getElem?_getD, List.getElem?_map]
      cases bs[i]? <;> simp [D.toP]
    simp only [g, List.length_map]
  have fin : ∀ its : List Value, Vals (bs.map (·.2)) its → ∀ v h' tk, its.toArray[minIx (bs.map (·.1))]? = some v → (∀ b o, s.heap.get? b = some o → h'.get? b = some o) → EP X pins σ Q v { s with heap := h', toks := tk } := fun its rv v h' tk hv hk => by
    have hv' : its[minIx (bs.map (·.1))]? = some v := by simpa using hv
    have len := EachIs.length (ee its rv)
    have hi := (List.getElem?_eq_some_iff.mp hv').1
    have hb' : bs[minIx (bs.map (·.1))]? = some bs[minIx (bs.map (·.1))] := List.getElem?_eq_getElem (by omega)
    obtain ⟨u, hu', ru⟩ := rv.get (i := minIx (bs.map (·.1))) (x := (bs[minIx (bs.map (·.1))]'(by omega)).2) (by rw [List.getElem?_map, hb']; rfl)
    rw [hv'] at hu'
    cases hu'
    exact ⟨_, H, I.kept hk, ru, q _ hb'⟩
  have sz : ∀ its : List Value, Vals (bs.map (·.2)) its → its.toArray.size = (bs.map fun b => b.1.toP 60).length := fun its rv => by
    have len := EachIs.length (ee its rv)
    simp
    omega
  have l0 : 0 < (bs.map fun b => b.1.toP 60).length := by rw [List.length_map]; exact h0
  rcases hs with hs | hs
  · obtain ⟨its, rv, hl, hz⟩ := I.list hs
    obtain ⟨as, ra⟩ := PySem.W.each_readsAll (fun b : D × V => b.1.toP 60) (er its rv)
    refine min_list_ix (vs := its.toArray) (I.ok.hd hc) hl.isList (by simpa using ra) (sz its rv) l0 hal (by omega) fun v h' tk hv hk => ?_
    rw [ix] at hv
    exact fin its rv v h' tk hv hk
  · obtain ⟨its, rv, hl, hz⟩ := I.tuple hs
    obtain ⟨as, ra⟩ := PySem.W.each_readsAll (fun b : D × V => b.1.toP 60) (er its rv)
    obtain ⟨ob, ho, hcl, n, hd'⟩ := hl
    refine min_tuple_ix (vs := its.toArray) (I.ok.hd hc) ⟨ob, ho, hcl, n, hd'⟩ (by simpa using ra) (sz its rv) l0 hal (by omega) fun v h' tk hv hk => ?_
    rw [ix] at hv
    exact fin its rv v h' tk hv hk
theorem sv_minD (hc : X.calm = true) (hu : X.A.units + 65 < cLine) : CallS X (.builtin "min") gMinT := ⟨_, ((cr_min hc).or (cr_minT hc)).or (cr_minD hc hu), fun m st H ds v E Q hS r hP => by
  obtain ⟨a, vs, rfl, q, rs⟩ := r
  unfold gMinT at hP
  split at hP
  · rename_i k hk
    cases hn : intsD ds with
    | none =>
      rw [hn] at hk
      cases hk
    | some ns =>
      rw [hn] at hk
      have hk : minI ns = some k := hk
      have e := intsD_V rs hn
      subst e
      have fin : ∀ mm, mm ∈ ns → (∀ y, y ∈ ns → mm ≤ y) → Q (.int mm) H := fun mm hm hy => by
        rw [min_uniq hk hm hy]
        exact hP.now hS (.int _)
      rcases q with q | q
      · exact .inl (.inl ⟨a, ns, rfl, q, minI_pos hk, fin⟩)
      · exact .inl (.inr ⟨a, ns, rfl, q.sq, minI_pos hk, fin⟩)
  · split at hP
    · rename_i d hm hd
      unfold minable at hm
      simp only [Bool.and_eq_true, List.all_eq_true] at hm
      obtain ⟨⟨h0, h1⟩, h2⟩ := hm
      obtain ⟨z1, z2, z3⟩ := rds_zip rs
      have hmem : ∀ b ∈ ds.zip vs, b.1 ∈ ds := fun b hb => by
        rw [← z1]
        exact List.mem_map_of_mem hb
      have hmap : (ds.zip vs).map (fun b => b.1.toP 60) = ds.map (D.toP 60) := by
        conv => rhs; rw [← z1]
        rw [List.map_map]
        rfl
      refine .inr ⟨a, ds.zip vs, rfl, by rw [z2]; exact q.imp id PlT.sq, fun b hb => ?_, ?_, ?_, fun b hb => ?_⟩
      · obtain ⟨a1, a2, a3⟩ := plain_dp 60 b.1 b.2 (h1 _ (hmem b hb)) (z3 b hb)
        exact ⟨a1, a3⟩
      · rw [hmap]
        refine ⟨fun d hd d' hd' => ?_, fun d hd => ?_⟩
        · obtain ⟨x, hx, rfl⟩ := List.mem_map.mp hd
          obtain ⟨y, hy, rfl⟩ := List.mem_map.mp hd'
          exact h2 x hx y hy
        · obtain ⟨x, hx, rfl⟩ := List.mem_map.mp hd
          exact toP_tup (h0 x hx)
      · have : (ds.zip vs).length = ds.length := by rw [← z1, List.length_map, z1]
        rw [this]
        have := (List.getElem?_eq_some_iff.mp hd).1
        omega
      · rw [z1] at hb
        have e : b.1 = d := by
          have : ((ds.zip vs).map (·.1))[minIx ds]? = some b.1 := by rw [List.getElem?_map, hb]; rfl
          rw [z1, hd] at this
          exact (Option.some.inj this).symm
        have rb := z3 b (List.mem_of_getElem? hb)
        rw [e] at rb
        exact hP.now hS rb
    · exact hP.elim⟩
/-! ### index -/
def mIndexT : MM := fun d ds st => match d, ds with
  | .tup xs, [.int k] => match intsD xs with
    | some ns => if k ∈ ns then .ok (.int (ns.idxOf k : Nat)) st else .bad
    | none => .bad
  | _, _ => .bad
theorem me_indexT : MethM X "tuple.index" mIndexT := ⟨fun v vs H Q => ∃ (p : Addr) (ns : List Int) (k : Int), v = .ref p ∧ vs = [.int k] ∧ SqT X.K H p (ns.map V.int) ∧ k ∈ ns ∧ Q (.int (ns.idxOf k : Nat)) H,
  fun pins s σ H x xs v us Q I r rs h => by
    obtain ⟨p, ns, k, rfl, rfl, hq, hk, q⟩ := h
    cases r
    obtain ⟨u, rfl, ru⟩ := vals1 rs
    obtain ⟨t, rfl⟩ := ru
    obtain ⟨its, rv, ⟨ob, ho, hc, n, hd⟩, hz⟩ := I.tuple hq
    exact PySem.SeqAt.tuple_index_ints (vs := its) ⟨ob, ho, hc, n, hd⟩ rv.ints hk ⟨.int _, H, I.tok _, ⟨_, rfl⟩, q⟩,
  fun m st H d v ds vs E Q hS r rs hP => by
    unfold mIndexT at hP
    split at hP
    · split at hP
      · rename_i ns hn
        split at hP
        · rename_i hk
          cases r with
          | tup q r2 =>
            obtain ⟨w, rfl, rw'⟩ := rs.one
            cases rw'
            have e := intsD_V r2 hn
            subst e
            exact ⟨_, ns, _, rfl, rfl, q.sq, hk, hP.now hS (.int _)⟩
        · exact hP.elim
      · exact hP.elim
    · exact hP.elim⟩
def mIndexL : MM := fun d ds st => match d, ds with
  | .ref n, [.int k] => match (lstAt st n).bind intsD with
    | some ns => if k ∈ ns then .ok (.int (ns.idxOf k : Nat)) st else .bad
    | none => .bad
  | _, _ => .bad
theorem me_indexL : MethM X "list.index" mIndexL := ⟨fun v vs H Q => ∃ (p : Addr) (ns : List Int) (k : Int), v = .ref p ∧ vs = [.int k] ∧ SqL X.K H p (ns.map V.int) ∧ k ∈ ns ∧ Q (.int (ns.idxOf k : Nat)) H,
  fun pins s σ H x xs v us Q I r rs h => by
    obtain ⟨p, ns, k, rfl, rfl, hq, hk, q⟩ := h
    cases r
    obtain ⟨u, rfl, ru⟩ := vals1 rs
    obtain ⟨t, rfl⟩ := ru
    obtain ⟨its, rv, hl, hz⟩ := I.list hq
    exact PySem.SeqAt.list_index_ints (vs := its) hl.isList rv.ints (by rw [← List.length_map (f := V.int)]; exact hz) hk ⟨.int _, H, I.tok _, ⟨_, rfl⟩, q⟩,
  fun m st H d v ds vs E Q hS r rs hP => by
    unfold mIndexL at hP
    split at hP
    · split at hP
      · rename_i ns hn
        split at hP
        · rename_i hk
          cases r with
          | ref q =>
            obtain ⟨w, rfl, rw'⟩ := rs.one
            cases rw'
            obtain ⟨xs, hx, hn⟩ := Option.bind_eq_some_iff.mp hn
            obtain ⟨us, h1, h2⟩ := hS.list hx q
            have e := intsD_V h2 hn
            subst e
            exact ⟨_, ns, _, rfl, rfl, SqL.of h1, hk, hP.now hS (.int _)⟩
        · exact hP.elim
      · exact hP.elim
    · exact hP.elim⟩
end
end HM

/-! HM, part S: how mirrors are computed (simp). -/
namespace HM
open PySem PySem.Spec PyProof.Rows L2
section
variable {α β : Type} {τ : Sl} {st : Store} {f g h fa fb fc fe fo fi : EM D} {fs : EM (List D)} {ga gb : EM Bool} {i n : Nat} {d : D} {u v : SM}
@[simp] theorem eVar_e (hh : τ[i]? = some (some d)) : eVar i τ st = .ok d st := by unfold eVar; rw [hh]
@[simp] theorem eC_e : eC d τ st = .ok d st := rfl
@[simp] theorem eBin_e {o : O2} : eBin o fa fb τ st = (fa τ st).bind fun x s1 => (fb τ s1).bind fun y s2 => o x y s2 := rfl
@[simp] theorem eUn_e {o : O1} : eUn o fa τ st = (fa τ st).bind o := rfl
@[simp] theorem tBl_e : tBl fa τ st = (fa τ st).bind dBl := rfl
@[simp] theorem dBl_e {b : Bool} : dBl (.bl b) st = .ok b st := rfl
def oTru (d : D) (st : Store) : ER Bool := match dTru st d with
  | some b => .ok b st
  | none => .bad
@[simp] theorem tVal_e : tVal fa τ st = (fa τ st).bind oTru := rfl
@[simp] theorem oTru_bl {b : Bool} : oTru (.bl b) st = .ok b st := rfl
@[simp] theorem oTru_int {k : Int} : oTru (.int k) st = .ok (k != 0) st := rfl
@[simp] theorem oTru_non : oTru .non st = .ok false st := rfl
@[simp] theorem oTru_tup {xs : List D} : oTru (.tup xs) st = .ok (!xs.isEmpty) st := rfl
@[simp] theorem tAnd_e : HM.tAnd ga gb τ st = (ga τ st).bind fun x s1 => if x then gb τ s1 else .ok false s1 := rfl
@[simp] theorem tOr_e : HM.tOr ga gb τ st = (ga τ st).bind fun x s1 => if x then .ok true s1 else gb τ s1 := rfl
@[simp] theorem tNot_e : HM.tNot ga τ st = (ga τ st).bind fun x s1 => .ok (!x) s1 := rfl
@[simp] theorem tYes_e : HM.tYes τ st = .ok true st := rfl
def oAndV (k : Store → ER D) (d : D) (st : Store) : ER D := match dTru st d with
  | some true => k st
  | some false => .ok d st
  | none => .bad
def oOrV (k : Store → ER D) (d : D) (st : Store) : ER D := match dTru st d with
  | some true => .ok d st
  | some false => k st
  | none => .bad
def oNotV (d : D) (st : Store) : ER D := match dTru st d with
  | some b => .ok (.bl !b) st
  | none => .bad
@[simp] theorem eAnd_e : eAnd fa fb τ st = (fa τ st).bind (oAndV (fb τ)) := rfl
@[simp] theorem eOr_e : eOr fa fb τ st = (fa τ st).bind (oOrV (fb τ)) := rfl
@[simp] theorem eNot_e : eNot fa τ st = (fa τ st).bind oNotV := rfl
@[simp] theorem oAndV_bl {k : Store → ER D} {b : Bool} : oAndV k (.bl b) st = if b then k st else .ok (.bl false) st := by cases b <;> rfl
@[simp] theorem oOrV_bl {k : Store → ER D} {b : Bool} : oOrV k (.bl b) st = if b then .ok (.bl true) st else k st := by cases b <;> rfl
@[simp] theorem oNotV_bl {b : Bool} : oNotV (.bl b) st = .ok (.bl !b) st := rfl
@[simp] theorem eIf_e : eIf ga fa fb τ st = (ga τ st).bind fun x s1 => if x then fa τ s1 else fb τ s1 := rfl
@[simp] theorem aNil_e : aNil τ st = .ok [] st := rfl
@[simp] theorem aCons_e : aCons f fs τ st = (f τ st).bind fun x s1 => (fs τ s1).bind fun xs s2 => .ok (x :: xs) s2 := rfl
@[simp] theorem eTup_e : eTup fs τ st = (fs τ st).bind fun xs s1 => if xs.length ≤ 16777216 then .ok (.tup xs) s1 else .bad := rfl
@[simp] theorem eLst_e : eLst fs τ st = (fs τ st).bind fun xs s1 => if xs.length ≤ 16777216 then .ok (.ref s1.length) (s1 ++ [.lst xs]) else .bad := rfl
@[simp] theorem eCall_e {mf : FM} : eCall n mf fs τ st = (fs τ st).bind fun ds s1 => if ds.length = n then mf ds s1 else .bad := rfl
@[simp] theorem eCB_e {mf : FM} : eCB mf fs τ st = (fs τ st).bind mf := rfl
@[simp] theorem eCS_e {g : SM1} : eCS g fs τ st = (fs τ st).bind g := rfl
@[simp] theorem eEl_e : eEl fs τ st = (fs τ st).bind fun ds s1 => .ok (.ref s1.length) (s1 ++ [.lst ds]) := rfl
def oSeq (d : D) (st : Store) : ER (List D) := match dSeq st d with
  | some xs => .ok xs st
  | none => .bad
@[simp] theorem sEx_e : sEx f τ st = (f τ st).bind oSeq := rfl
@[simp] theorem oSeq_tup {xs : List D} : oSeq (.tup xs) st = .ok xs st := rfl
@[simp] theorem oSeq_rol {xs : List D} : oSeq (.rol xs) st = .ok xs st := rfl
@[simp] theorem eChain_e {o o' : O2} : eChain o o' fa fb fc τ st = (fa τ st).bind fun x s1 => (fb τ s1).bind fun y s2 => (o x y s2).bind fun z s3 => match z with
  | .bl true => (fc τ s3).bind fun w s4 => o' y w s4
  | .bl false => .ok (.bl false) s3
  | _ => .bad := rfl
/-! values -/
@[simp] theorem oAdd_int {i j : Int} : oAdd (.int i) (.int j) st = .ok (.int (i + j)) st := rfl
@[simp] theorem oIAdd_int {i j : Int} : oIAdd (.int i) (.int j) st = .ok (.int (i + j)) st := rfl
@[simp] theorem oAdd_str {a b : List Nat} : oAdd (.str a) (.str b) st = if a.length + b.length ≤ 16777216 then .ok (.str (a ++ b)) st else .bad := rfl
@[simp] theorem oAdd_tup {a b : List D} : oAdd (.tup a) (.tup b) st = if a.length + b.length ≤ 16777216 then .ok (.tup (a ++ b)) st else .bad := rfl
@[simp] theorem oInt_e {i j : Int} {k : Int → Int → Int} : oInt k (.int i) (.int j) st = .ok (.int (k i j)) st := rfl
@[simp] theorem oIntC_e {i j : Int} {C : Int → Int → Bool} {k : Int → Int → Int} (hc : C i j = true) : oIntC C k (.int i) (.int j) st = .ok (.int (k i j)) st := by
  show (if C i j = true then _ else _) = _
  rw [if_pos hc]
@[simp] theorem oCmp_e {i j : Int} {k : Int → Int → Bool} : oCmp k (.int i) (.int j) st = .ok (.bl (k i j)) st := rfl
@[simp] theorem oNeg_e {i : Int} : oNeg (.int i) st = .ok (.int (-i)) st := rfl
@[simp] theorem oEq_int {i j : Int} : oEq (.int i) (.int j) st = .ok (.bl (decide (i = j))) st := rfl
@[simp] theorem oNe_int {i j : Int} : oNe (.int i) (.int j) st = .ok (.bl !(decide (i = j))) st := rfl
@[simp] theorem oEq_str {a b : List Nat} : oEq (.str a) (.str b) st = .ok (.bl (decide (a = b))) st := rfl
@[simp] theorem oNe_str {a b : List Nat} : oNe (.str a) (.str b) st = .ok (.bl !(decide (a = b))) st := rfl
@[simp] theorem oEq_bl {a b : Bool} : oEq (.bl a) (.bl b) st = .ok (.bl (decide (a = b))) st := rfl
@[simp] theorem oNe_bl {a b : Bool} : oNe (.bl a) (.bl b) st = .ok (.bl !(decide (a = b))) st := rfl
@[simp] theorem oEq_tup {a b : List D} (ha : (D.tup a).plain 60 = true) (hb : (D.tup b).plain 60 = true) : oEq (.tup a) (.tup b) st = .ok (.bl (decide (a = b))) st := by
  simp [oEq, dEq, D.pd, ha, hb]
@[simp] theorem oNe_tup {a b : List D} (ha : (D.tup a).plain 60 = true) (hb : (D.tup b).plain 60 = true) : oNe (.tup a) (.tup b) st = .ok (.bl !(decide (a = b))) st := by
  simp [oNe, dEq, D.pd, ha, hb]
@[simp] theorem plain_tup {n : Nat} {xs : List D} : (D.tup xs).plain (n + 1) = xs.all (D.plain n) := rfl
@[simp] theorem plain_int {n : Nat} {k : Int} : (D.int k).plain n = true := by cases n <;> rfl
@[simp] theorem plain_non {n : Nat} : D.non.plain n = true := by cases n <;> rfl
@[simp] theorem plain_str {n : Nat} {x : List Nat} : (D.str x).plain n = x.all fun c => decide (c < 1114112) := by cases n <;> rfl
@[simp] theorem oIs_bl {a b : Bool} : oIs (.bl a) (.bl b) st = .ok (.bl (decide (a = b))) st := rfl
@[simp] theorem oIsNot_bl {a b : Bool} : oIsNot (.bl a) (.bl b) st = .ok (.bl !(decide (a = b))) st := rfl
@[simp] theorem oIs_non : oIs .non .non st = .ok (.bl true) st := rfl
@[simp] theorem oIs_int {i : Int} : oIs (.int i) .non st = .ok (.bl false) st := rfl
@[simp] theorem oIs_tup {xs : List D} : oIs (.tup xs) .non st = .ok (.bl false) st := rfl
@[simp] theorem oIsNot_non : oIsNot .non .non st = .ok (.bl false) st := rfl
@[simp] theorem oIsNot_int {i : Int} : oIsNot (.int i) .non st = .ok (.bl true) st := rfl
@[simp] theorem oIsNot_tup {xs : List D} : oIsNot (.tup xs) .non st = .ok (.bl true) st := rfl
def ofO (st : Store) : Option D → ER D
  | some d => .ok d st
  | none => .bad
@[simp] theorem ofO_some : ofO st (some d) = .ok d st := rfl
@[simp] theorem oIx_tup {xs : List D} {k : Int} : oIx (.tup xs) (.int k) st = ofO st (atI xs k) := by
  unfold oIx oIxS ofO
  simp only <;> (split <;> simp_all)
theorem oIx_ref {xs : List D} {m : Nat} {k : Int} (hh : lstAt st m = some xs) : oIx (.ref m) (.int k) st = ofO st (atI xs k) := by
  unfold oIx oIxS ofO
  simp only [dct_lst hh, hh] <;> (split <;> simp_all)
/-- d[k] -/
theorem oIx_dct {kvs : List (D × D)} {m : Nat} {k d : D} (hh : dctAt st m = some kvs) (hf : keyFit kvs k = true) (hg : dGet kvs k = some d) : oIx (.ref m) k st = .ok d st := by
  unfold oIx
  simp only [hh, hf, hg, if_true]
@[simp] theorem oLt_int {i j : Int} : oLt (.int i) (.int j) st = .ok (.bl (decide (i < j))) st := rfl
@[simp] theorem eDct_e : eDct τ st = .ok (.ref st.length) (st ++ [.dct []]) := rfl
@[simp] theorem atI_0 {α : Type} {x : α} {xs : List α} : atI (x :: xs) 0 = some x := by simp [atI, ixN]
@[simp] theorem atI_1 {α : Type} {x y : α} {xs : List α} : atI (x :: y :: xs) 1 = some y := atI_nat (j := 1) rfl
@[simp] theorem atI_2 {α : Type} {x y z : α} {xs : List α} : atI (x :: y :: z :: xs) 2 = some z := atI_nat (j := 2) rfl
@[simp] theorem atI_3 {α : Type} {x y z w : α} {xs : List α} : atI (x :: y :: z :: w :: xs) 3 = some w := atI_nat (j := 3) rfl
/-! built-ins -/
@[simp] theorem fInt_int {i : Int} : fInt [.int i] st = .ok (.int i) st := rfl
@[simp] theorem fInt_bl {b : Bool} : fInt [.bl b] st = .ok (.int (if b then 1 else 0)) st := rfl
@[simp] theorem fAbs_e {i : Int} : fAbs [.int i] st = .ok (.int (i.natAbs : Nat)) st := rfl
@[simp] theorem fGcd_e {i j : Int} : fGcd [.int i, .int j] st = .ok (.int (Nat.gcd i.natAbs j.natAbs : Nat)) st := rfl
@[simp] theorem fLen_tup {xs : List D} : fLen [.tup xs] st = .ok (.int xs.length) st := rfl
@[simp] theorem fLen_rol {xs : List D} : fLen [.rol xs] st = .ok (.int xs.length) st := rfl
theorem fLen_ref {xs : List D} {m : Nat} (hh : lstAt st m = some xs) : fLen [.ref m] st = .ok (.int xs.length) st := by simp [fLen, fLenS, dSeq, hh, dct_lst hh]
theorem fLen_dct {kvs : List (D × D)} {m : Nat} (hh : dctAt st m = some kvs) : fLen [.ref m] st = .ok (.int kvs.length) st := by simp [fLen, hh]
@[simp] theorem fTuple_tup {xs : List D} : fTuple [.tup xs] st = .ok (.tup xs) st := rfl
theorem fTuple_ref {xs : List D} {m : Nat} (hh : lstAt st m = some xs) : fTuple [.ref m] st = .ok (.tup xs) st := by simp [fTuple, dSeq, hh]
@[simp] theorem gTuple_e {xs : List D} : gTuple xs st = .ok (.tup xs) st := rfl
@[simp] theorem gLen_e {xs : List D} : gLen xs st = .ok (.int xs.length) st := rfl
@[simp] theorem fMin2_e {i j : Int} : fMin2 [.int i, .int j] st = .ok (.int (if j < i then j else i)) st := rfl
@[simp] theorem fMax2_e {i j : Int} : fMax2 [.int i, .int j] st = .ok (.int (if j > i then j else i)) st := rfl
theorem fIsi_e {t c : String} {b : Bool} (h1 : dTy st d = some t) (h2 : isiT t c = some b) : fIsi [d, .ty c] st = .ok (.bl b) st := by simp [fIsi, h1, h2]
theorem isi1 : isiT "int" "int" = some true := by decide +kernel
theorem isi2 : isiT "int" "bool" = some false := by decide +kernel
theorem isi3 : isiT "bool" "int" = some true := by decide +kernel
theorem isi4 : isiT "bool" "bool" = some true := by decide +kernel
theorem isi5 : isiT "tuple" "tuple" = some true := by decide +kernel
theorem isi6 : isiT "tuple" "int" = some false := by decide +kernel
theorem isi7 : isiT "str" "str" = some true := by decide +kernel
theorem isi8 : isiT "str" "int" = some false := by decide +kernel
theorem isi9 : isiT "NoneType" "int" = some false := by decide +kernel
@[simp] theorem fIsi_ii {i : Int} : fIsi [.int i, .ty "int"] st = .ok (.bl true) st := fIsi_e rfl isi1
@[simp] theorem fIsi_ib {i : Int} : fIsi [.int i, .ty "bool"] st = .ok (.bl false) st := fIsi_e rfl isi2
@[simp] theorem fIsi_bi {i : Bool} : fIsi [.bl i, .ty "int"] st = .ok (.bl true) st := fIsi_e rfl isi3
@[simp] theorem fIsi_bb {i : Bool} : fIsi [.bl i, .ty "bool"] st = .ok (.bl true) st := fIsi_e rfl isi4
@[simp] theorem fIsi_tt {xs : List D} : fIsi [.tup xs, .ty "tuple"] st = .ok (.bl true) st := fIsi_e rfl isi5
@[simp] theorem fIsi_ti {xs : List D} : fIsi [.tup xs, .ty "int"] st = .ok (.bl false) st := fIsi_e rfl isi6
@[simp] theorem fIsi_ss {x : List Nat} : fIsi [.str x, .ty "str"] st = .ok (.bl true) st := fIsi_e rfl isi7
@[simp] theorem fIsi_si {x : List Nat} : fIsi [.str x, .ty "int"] st = .ok (.bl false) st := fIsi_e rfl isi8
@[simp] theorem fIsi_ni : fIsi [.non, .ty "int"] st = .ok (.bl false) st := fIsi_e rfl isi9
/-! statements -/
def SR.seq (r : SR) (k : SM) : SR := match r with
  | .nx τ s => k τ s
  | r => r
@[simp] theorem seq_nx {k : SM} : (SR.nx τ st).seq k = k τ st := rfl
@[simp] theorem seq_rt {k : SM} : (SR.rt d st).seq k = .rt d st := rfl
@[simp] theorem seq_bad {k : SM} : SR.bad.seq k = .bad := rfl
@[simp] theorem seq_exc {x : Xc} {k : SM} : (SR.exc x τ st).seq k = .exc x τ st := rfl
@[simp] theorem seq_bk {k : SM} : (SR.bk τ st).seq k = .bk τ st := rfl
@[simp] theorem seq_ct {k : SM} : (SR.ct τ st).seq k = .ct τ st := rfl
@[simp] theorem sSeq_e : sSeq u v τ st = (u τ st).seq v := by
  unfold sSeq SR.seq
  rfl
@[simp] theorem sNil_e : sNil τ st = .nx τ st := rfl
@[simp] theorem sIf_e : sIf ga u v τ st = bindE (ga τ st) τ fun b s1 => if b then u τ s1 else v τ s1 := rfl
@[simp] theorem sSet_e : sSet i fe τ st = bindE (fe τ st) τ fun d s1 => .nx (τ.set i (some d)) s1 := rfl
@[simp] theorem sRet_e : sRet fe τ st = bindE (fe τ st) τ fun d s1 => .rt d s1 := rfl
@[simp] theorem sRetN_e : sRetN τ st = .rt .non st := rfl
@[simp] theorem sExpr_e : sExpr fe τ st = bindE (fe τ st) τ fun _ s1 => .nx τ s1 := rfl
@[simp] theorem sRaise_e {x : Xc} : sRaise x τ st = .exc x τ st := rfl
@[simp] theorem sBrk_e : sBrk τ st = .bk τ st := rfl
@[simp] theorem sCnt_e : sCnt τ st = .ct τ st := rfl
@[simp] theorem bindE_bind {r : ER α} {k : α → Store → ER β} {k' : β → Store → SR} : bindE (r.bind k) τ k' = bindE r τ fun a s => bindE (k a s) τ k' := by cases r <;> rfl
@[simp] theorem bind_bind {γ : Type} {r : ER α} {k : α → Store → ER β} {k' : β → Store → ER γ} : (r.bind k).bind k' = r.bind fun a s => (k a s).bind k' := by cases r <;> rfl
@[simp] theorem bind_ite {c : Prop} [Decidable c] {r r' : ER α} {k : α → Store → ER β} : (if c then r else r').bind k = if c then r.bind k else r'.bind k := by split <;> rfl
@[simp] theorem bindE_ite {c : Prop} [Decidable c] {r r' : ER α} {k : α → Store → SR} : bindE (if c then r else r') τ k = if c then bindE r τ k else bindE r' τ k := by split <;> rfl
def SR.fin : SR → ER D
  | .nx _ s => .ok .non s
  | .rt d s => .ok d s
  | .exc x _ s => .exc x s
  | _ => .bad
@[simp] theorem fin_nx : (SR.nx τ st).fin = .ok .non st := rfl
@[simp] theorem fin_rt : (SR.rt d st).fin = .ok d st := rfl
@[simp] theorem fin_exc {x : Xc} : (SR.exc x τ st).fin = .exc x st := rfl
@[simp] theorem fin_bad : SR.bad.fin = .bad := rfl
theorem runB_e {ds : List D} : runB n u ds st = (u (ent n ds) st).fin := rfl
@[simp] theorem fin_ite {c : Prop} [Decidable c] {r r' : SR} : (if c then r else r').fin = if c then r.fin else r'.fin := by split <;> rfl
@[simp] theorem seq_ite {c : Prop} [Decidable c] {r r' : SR} {k : SM} : (if c then r else r').seq k = if c then r.seq k else r'.seq k := by split <;> rfl
@[simp] theorem ent_0 : ent n [] = List.replicate n none := by simp [ent]
@[simp] theorem ent_cons {x : D} {xs : List D} : ent (n + 1) (x :: xs) = some x :: ent n xs := by
  simp [ent]
end
end HM

/-! HM, part T: lists written to, loops, the draws' store. -/
namespace HM
open PySem PySem.Spec PyProof.Rows L2
section
variable {α β : Type} {τ : Sl} {st : Store} {f g h fa fb fc fe fo fi : EM D} {fs : EM (List D)} {ga gb : EM Bool} {i n m : Nat} {d v : D} {xs ys : List D} {u w : SM}
theorem lstAt_set (hh : lstAt st n = some xs) : lstAt (st.set n (.lst ys)) n = some ys := by
  have : n < st.length := by
    unfold lstAt at hh
    split at hh
    · rename_i e
      exact (List.getElem?_eq_some_iff.mp e).1
    · cases hh
  simp [lstAt, this]
theorem lstAt_ne {c : Cell} (hh : m ≠ n) : lstAt (st.set n c) m = lstAt st m := by
  unfold lstAt
  rw [List.getElem?_set_ne (Ne.symm hh)]
theorem oSet_ref {k : Int} {j : Nat} (hh : lstAt st m = some xs) (hj : ixN xs.length k = some j) : oSet (.ref m) (.int k) v st = some (st.set m (.lst (xs.set j v))) := by
  simp [oSet, oSetS, dct_lst hh, hh, hj]
theorem oSet_dct {kvs : List (D × D)} {k : D} (hh : dctAt st m = some kvs) (hf : keyFit kvs k = true) (hl : kvs.length < 16777216) : oSet (.ref m) k v st = some (st.set m (.dct (dPut kvs k v))) := by
  simp [oSet, hh, hf, hl]
theorem oGetL_ref {k : Int} (hh : lstAt st m = some xs) : oGetL (.ref m) (.int k) st = ofO st (atI xs k) := by
  unfold oGetL oGetLS ofO
  simp only [dct_lst hh, hh] <;> (split <;> simp_all)
def ofS (τ : Sl) : Option Store → SR
  | some s => .nx τ s
  | none => .bad
@[simp] theorem ofS_some : ofS τ (some st) = .nx τ st := rfl
@[simp] theorem sSub_e : sSub fo fi fe τ st = bindE (fe τ st) τ fun v s1 => bindE (fo τ s1) τ fun o s2 => bindE (fi τ s2) τ fun i s3 => ofS τ (oSet o i v s3) := by
  unfold sSub ofS
  rfl
@[simp] theorem sAugS_e {o : O2} : sAugS o fo fi fe τ st = bindE (fo τ st) τ fun x s1 => bindE (fi τ s1) τ fun i s2 => bindE (oGetL x i s2) τ fun y s3 => bindE (fe τ s3) τ fun z s4 => bindE (o y z s4) τ fun v s5 => ofS τ (oSet x i v s5) := by
  unfold sAugS ofS
  rfl
theorem sAug_e {o : O2} (hh : τ[i]? = some (some d)) : sAug i o fe τ st = bindE (fe τ st) τ fun y s1 => bindE (o d y s1) τ fun z s2 => .nx (τ.set i (some z)) s2 := by
  unfold sAug
  rw [hh]
def ofA (set : D → Sl → Option Sl) (τ : Sl) (d : D) (st : Store) : SR := match set d τ with
  | some τ1 => .nx τ1 st
  | none => .bad
@[simp] theorem sAsg_e {set : D → Sl → Option Sl} : sAsg set fe τ st = bindE (fe τ st) τ (ofA set τ) := rfl
@[simp] theorem okMul_l {i j : Int} (hh : i.natAbs < 18446744073709551616) : okMul i j = true := decide_eq_true (.inl (.inl hh))
@[simp] theorem okMul_r {i j : Int} (hh : j.natAbs < 18446744073709551616) : okMul i j = true := decide_eq_true (.inl (.inr hh))
theorem okMod_of {i j : Int} (hh : j ≠ 0) : okMod i j = true := decide_eq_true hh
theorem okDiv_of {i j : Int} (hh : j ≠ 0) (h2 : j.natAbs.log2 < 9000) : okDiv i j = true := decide_eq_true ⟨hh, h2⟩
theorem log2_le {x k : Nat} (h : x < 2 ^ k) : x.log2 ≤ k := by
  by_cases z : x = 0
  · subst z
    exact Nat.zero_le _
  · exact Nat.le_of_lt ((Nat.log2_lt z).mpr h)
/-! for loops -/
theorem sFor_e {fi : EM Sq} {set : D → Sl → Option Sl} : sFor fi set u τ st = bindE (fi τ st) τ fun q s1 => forL q set u q.items τ s1 := rfl
def ofQ (st : Store) : Option Sq → ER Sq
  | some q => .ok q st
  | none => .bad
@[simp] theorem ofQ_some {q : Sq} : ofQ st (some q) = .ok q st := rfl
@[simp] theorem iEx_e : iEx f τ st = (f τ st).bind fun d s1 => ofQ s1 (dSq s1 d) := by
  unfold iEx ofQ
  rfl
@[simp] theorem dSq_tup : dSq st (.tup xs) = some (.fix xs) := rfl
@[simp] theorem dSq_rol : dSq st (.rol xs) = some (.fix xs) := rfl
theorem dSq_ref (hh : lstAt st n = some xs) : dSq st (.ref n) = some (.cell n xs) := by simp [dSq, hh]
@[simp] theorem items_fix : (Sq.fix xs).items = xs := rfl
@[simp] theorem items_cell : (Sq.cell n xs).items = xs := rfl
@[simp] theorem iEl_e : iEl fs τ st = (fs τ st).bind fun xs s1 => .ok (.fix xs) s1 := rfl
def rg1 (d : D) (st : Store) : ER Sq := match d with
  | .int j => if okRng j then .ok (.fix (rng 0 j)) st else .bad
  | _ => .bad
def rg2 (d e : D) (st : Store) : ER Sq := match d, e with
  | .int i, .int j => if okRng i && okRng j then .ok (.fix (rng i j)) st else .bad
  | _, _ => .bad
@[simp] theorem iRg1_e : iRg1 f τ st = (f τ st).bind rg1 := rfl
@[simp] theorem iRg2_e : iRg2 fa fb τ st = (fa τ st).bind fun d s1 => (fb τ s1).bind fun e s2 => rg2 d e s2 := rfl
theorem okRng_of {j : Int} (hh : j.natAbs < 4611686018427387904) : okRng j = true := decide_eq_true hh
theorem rg1_int {j : Int} (hh : j.natAbs < 4611686018427387904) : rg1 (.int j) st = .ok (.fix (rng 0 j)) st := by simp [rg1, okRng_of hh]
theorem rg2_int {i j : Int} (hi : i.natAbs < 4611686018427387904) (hh : j.natAbs < 4611686018427387904) : rg2 (.int i) (.int j) st = .ok (.fix (rng i j)) st := by simp [rg2, okRng_of hh, okRng_of hi]
/-- a loop, by an invariant -/
theorem for_inv {set : D → Sl → Option Sl} {q : Sq} (P : Nat → Sl → Store → Prop) (hc : ∀ k τ st, P k τ st → q.chk st = true) :
    ∀ (xs : List D) (k : Nat) (τ : Sl) (st : Store), P k τ st →
    (∀ i d τ st, xs[i]? = some d → P (k + i) τ st → ∃ τ1, set d τ = some τ1 ∧ ∃ τ2 s2, (u τ1 st = .nx τ2 s2 ∨ u τ1 st = .ct τ2 s2) ∧ P (k + i + 1) τ2 s2) →
    ∃ τ' st', forL q set u xs τ st = .nx τ' st' ∧ P (k + xs.length) τ' st'
  | [], k, τ, st, h0, _ => ⟨τ, st, by
      unfold forL
      rw [if_pos (hc _ _ _ h0)], h0⟩
  | d :: ds, k, τ, st, h0, hs => by
    obtain ⟨τ1, e1, τ2, s2, e2, h2⟩ := hs 0 d τ st rfl h0
    obtain ⟨τ', st', e3, h3⟩ := for_inv (q := q) P hc ds (k + 1) τ2 s2 h2 fun i d τ st hi hp => by
      have := hs (i + 1) d τ st hi (by rwa [show k + (i + 1) = k + 1 + i by omega])
      rwa [show k + (i + 1) + 1 = k + 1 + i + 1 by omega] at this
    refine ⟨τ', st', ?_, ?_⟩
    · unfold forL
      rw [if_pos (hc _ _ _ h0), e1]
      rcases e2 with e2 | e2 <;> simp only [e2, e3]
    · rw [List.length_cons]
      rwa [show k + (ds.length + 1) = k + 1 + ds.length by omega]
/-! comprehensions -/
def lc1 (own : List Nat) (set : D → Sl → Option Sl) (ft : EM Bool) (fe : EM D) (τ : Sl) (q : Sq) (st : Store) : ER (List D) := if q.items.length ≤ 16777216 then compL q set ft fe (wipeD τ own) q.items [] st else .bad
theorem lComp_e {own : List Nat} {fi : EM Sq} {set : D → Sl → Option Sl} {ft : EM Bool} : lComp own fi set ft fe τ st = (fi τ st).bind (lc1 own set ft fe τ) := rfl
/-- a comprehension without tests -/
theorem comp_inv {set : D → Sl → Option Sl} {q : Sq} (P : List D → Store → Prop) (hc : ∀ acc st, P acc st → q.chk st = true) :
    ∀ (xs acc : List D) (st : Store), P acc st →
    (∀ i d acc' st, xs[i]? = some d → acc'.length = acc.length + i → P acc' st → ∃ τ1, set d τ = some τ1 ∧ ∃ x s2, fe τ1 st = .ok x s2 ∧ P (acc' ++ [x]) s2) →
    ∃ ys st', compL q set tYes fe τ xs acc st = .ok ys st' ∧ P ys st' ∧ ys.length = acc.length + xs.length
  | [], acc, st, h0, _ => ⟨acc, st, by
      unfold compL
      rw [if_pos (hc _ _ h0)], h0, rfl⟩
  | d :: ds, acc, st, h0, hs => by
    obtain ⟨τ1, e1, x, s2, e2, h2⟩ := hs 0 d acc st rfl rfl h0
    obtain ⟨ys, st', e3, h3, h4⟩ := comp_inv (q := q) P hc ds (acc ++ [x]) s2 h2 fun i d acc' st hi ha hp => hs (i + 1) d acc' st hi (by simp at ha; omega) hp
    refine ⟨ys, st', ?_, h3, by simp at h4; simp; omega⟩
    unfold compL
    rw [if_pos (hc _ _ h0), e1]
    simp only [tYes, ER.bindN_ok, if_true, e2]
    exact e3
end
/-! the draws' store: cell 0 holds the script's numbers, cell 1 the place -/
structure DS (ns : List Int) (st : Store) : Prop where
  c0 : lstAt st 0 = some (ns.map D.int)
  c1 : ∃ p h q : Int, 0 ≤ p ∧ lstAt st 1 = some [.ref 0, .int p, .int h, .int q]
/-- what a draw may change -/
structure Fr (a b : Store) : Prop where
  len : a.length ≤ b.length
  at' : ∀ n, n ≠ 1 → n < a.length → b[n]? = a[n]?
theorem Fr.refl {a : Store} : Fr a a := ⟨Nat.le_refl _, fun _ _ _ => rfl⟩
theorem Fr.trans {a b c : Store} (x : Fr a b) (y : Fr b c) : Fr a c := ⟨Nat.le_trans x.len y.len, fun n h1 h2 => (y.at' n h1 (Nat.lt_of_lt_of_le h2 x.len)).trans (x.at' n h1 h2)⟩
theorem Fr.lst {a b : Store} {n : Nat} {xs : List D} (x : Fr a b) (h : lstAt a n = some xs) (hn : n ≠ 1) : lstAt b n = some xs := by
  have := x.at' n hn (lstAt_lt h)
  unfold lstAt at h ⊢
  rwa [this]
theorem Fr.app {a : Store} {c : Cell} : Fr a (a ++ [c]) := ⟨by simp, fun n _ h => by rw [List.getElem?_append_left h]⟩
theorem DS.app {ns : List Int} {st : Store} {c : Cell} (h : DS ns st) : DS ns (st ++ [c]) := by
  obtain ⟨c0, p, hh, q, hp, c1⟩ := h
  exact ⟨by rw [lstAt_left (lstAt_lt c0)]; exact c0, p, hh, q, hp, by rw [lstAt_left (lstAt_lt c1)]; exact c1⟩
end HM

/-! HM, part U: how the mirrors of parts 10 to 12 are computed. -/
namespace HM
open PySem PySem.Spec PyProof.Rows L2
section
variable {τ : Sl} {st : Store} {f g fo fi : EM D} {fs : EM (List D)} {fl fh : EM (Option Int)} {i n m : Nat} {d v x : D} {xs ys : List D}
@[simp] theorem eM_e {T : String} {g : MM} : eM T g fo fs τ st = (fo τ st).bind fun d s1 => if okT T s1 d then (fs τ s1).bind fun ds s2 => g d ds s2 else .bad := rfl
theorem okT_ref (hh : lstAt st n = some xs) : okT "list" st (.ref n) = true := by simp [okT, hh]
@[simp] theorem okT_str {z : List Nat} : okT "str" st (.str z) = true := rfl
theorem mAppend_ref (hh : lstAt st n = some xs) (hl : xs.length < 16777216) : mAppend (.ref n) [x] st = .ok .non (st.set n (.lst (xs ++ [x]))) := by simp [mAppend, hh, hl]
theorem mInsert_ref {k : Nat} (hh : lstAt st n = some xs) (hl : xs.length < 16777216) (hk : k < 9223372036854775808) : mInsert (.ref n) [.int k, x] st = .ok .non (st.set n (.lst (xs.take k ++ [x] ++ xs.drop k))) := by
  have h2 : okIx (k : Int) = true := decide_eq_true (by omega)
  simp [mInsert, hh, hl, h2]
theorem mExtend_ref (hh : lstAt st n = some xs) (h2 : lstAt st m = some ys) (hl : xs.length + ys.length ≤ 16777216) : mExtend (.ref n) [.ref m] st = .ok .non (st.set n (.lst (xs ++ ys))) := by simp [mExtend, hh, h2, hl]
theorem mPop_ref (hh : lstAt st n = some (xs ++ [x])) : mPop (.ref n) [] st = .ok x (st.set n (.lst xs)) := by simp [mPop, hh]
theorem mJoin_tup {a : List Nat} {ys : List (List Nat)} (hl : (ys.map List.length).sum + ys.length * a.length ≤ 16777216) : mJoin (.str a) [.tup (ys.map D.str)] st = .ok (.str (joinD a ys)) st := by
  simp [mJoin, dSeq, strsD_map, hl]
theorem mJoin_ref {a : List Nat} {ys : List (List Nat)} (hh : lstAt st n = some (ys.map D.str)) (hl : (ys.map List.length).sum + ys.length * a.length ≤ 16777216) : mJoin (.str a) [.ref n] st = .ok (.str (joinD a ys)) st := by
  simp [mJoin, dSeq, hh, strsD_map, hl]
def ofB (st : Store) : Option Bool → ER D
  | some b => .ok (.bl b) st
  | none => .bad
@[simp] theorem ofB_some {b : Bool} : ofB st (some b) = .ok (.bl b) st := rfl
@[simp] theorem oIn_e : oIn x v st = ofB st (dIn x v st) := by
  unfold oIn ofB
  rfl
@[simp] theorem oNotIn_e : oNotIn x v st = ofB st ((dIn x v st).map fun b => !b) := by
  unfold oNotIn ofB
  cases dIn x v st <;> rfl
@[simp] theorem dIn_sign {c : Nat} {z : List Nat} : dIn (.str [c]) (.str z) st = some (decide (c ∈ z)) := rfl
theorem dIn_S (hy : dSeq st v = some ys) : dIn x v st = dInS x v st := by
  unfold dIn
  cases v with
  | ref n => simp only [dct_lst (show lstAt st n = some ys from hy)]
  | _ => rfl
theorem dIn_dct {kvs : List (D × D)} (hh : dctAt st n = some kvs) (hf : keyFit kvs x = true) : dIn x (.ref n) st = some (dGet kvs x).isSome := by
  unfold dIn
  simp only [hh, hf, if_true]
theorem dIn_flat (hy : dSeq st v = some ys) (h1 : x.flat = true) (h2 : ys.all D.flat = true) : dIn x v st = some (ys.any fun y => eqF y x) := by
  rw [dIn_S hy]
  unfold dInS
  split
  · rename_i c z
    cases hy
  · simp [hy, h1, h2]
@[simp] theorem dSeq_tup : dSeq st (.tup xs) = some xs := rfl
@[simp] theorem dSeq_rol : dSeq st (.rol xs) = some xs := rfl
theorem dSeq_ref (hh : lstAt st n = some xs) : dSeq st (.ref n) = some xs := hh
@[simp] theorem flat_int {k : Int} : (D.int k).flat = true := rfl
@[simp] theorem flat_str {k : List Nat} : (D.str k).flat = true := rfl
@[simp] theorem flat_bl {k : Bool} : (D.bl k).flat = true := rfl
@[simp] theorem flat_non : D.non.flat = true := rfl
@[simp] theorem eqF_int {a b : Int} : eqF (.int a) (.int b) = decide (a = b) := rfl
@[simp] theorem eqF_str {a b : List Nat} : eqF (.str a) (.str b) = decide (a = b) := rfl
@[simp] theorem dIn_tup {k : Int} : dIn (.int k) (.tup ys) st = if ys.all D.flat then some (ys.any fun y => eqF y (.int k)) else if ys.all (D.plain 59) then some (decide (D.int k ∈ ys)) else none := by
  simp [dIn, dInS, dSeq] <;> rfl
@[simp] theorem eSl_e : eSl f fl fh τ st = (f τ st).bind fun d s1 => (fl τ s1).bind fun l s2 => (fh τ s2).bind fun h s3 => dCut d l h s3 := rfl
@[simp] theorem oNone_e : oNone τ st = .ok none st := rfl
def ofI (d : D) (st : Store) : ER (Option Int) := match d with
  | .int i => .ok (some i) st
  | _ => .bad
@[simp] theorem ofI_int {k : Int} : ofI (.int k) st = .ok (some k) st := rfl
@[simp] theorem oSome_e : oSome f τ st = (f τ st).bind ofI := rfl
theorem sIx_n {n d k : Nat} : HT.sIx n d (some (k : Int)) = min k n := HT.sIx_nat n d k
@[simp] theorem sIx_0 {n d : Nat} : HT.sIx n d none = d := rfl
theorem dCut_str {z : List Nat} {lo hi : Option Int} (hz : z.length ≤ 16777216) : dCut (.str z) lo hi st = .ok (.str (cutD z lo hi)) st := by simp [dCut, hz]
theorem dCut_ref {lo hi : Option Int} (hh : lstAt st n = some xs) : dCut (.ref n) lo hi st = .ok (.ref st.length) (st ++ [.lst (cutD xs lo hi)]) := by simp [dCut, hh]
theorem cutD_nn {α : Type} {zs : List α} {a b : Nat} : cutD zs (some (a : Int)) (some (b : Int)) = (zs.drop (min a zs.length)).take (min b zs.length - min a zs.length) := by
  unfold cutD
  rw [sIx_n, sIx_n]
theorem cutD_to {α : Type} {zs : List α} {b : Nat} : cutD zs none (some (b : Int)) = zs.take b := by
  unfold cutD
  rw [sIx_n, sIx_0, List.drop_zero, Nat.sub_zero]
  exact PySem.W.kmk_take_min ..
theorem cutD_from {α : Type} {zs : List α} {a : Nat} : cutD zs (some (a : Int)) none = zs.drop a := by
  unfold cutD
  rw [sIx_n, sIx_0]
  rw [show zs.drop (min a zs.length) = zs.drop a from PySem.W.kmk_drop_min ..]
  refine List.take_of_length_le ?_
  rw [List.length_drop]
  omega
theorem gSum_ints {ns : List Int} : gSum (ns.map D.int) st = .ok (.int ns.sum) st := by simp [gSum, intsD_map]
theorem gAllB_bls {bs : List Bool} : gAllB (bs.map D.bl) st = .ok (.bl (bs.all id)) st := by simp [gAllB, blsD_map]
theorem gAnyB_bls {bs : List Bool} : gAnyB (bs.map D.bl) st = .ok (.bl (bs.any id)) st := by simp [gAnyB, blsD_map]
@[simp] theorem oMul_int {a b : Int} (hc : okMul a b = true) : oMul (.int a) (.int b) st = .ok (.int (a * b)) st := by simp [oMul, hc]
theorem oMul_str {z : List Nat} {k : Int} (h2 : 2 ≤ k) (hz : k ≤ 16777216) (hl : z.length * k.toNat ≤ 16777216) : oMul (.str z) (.int k) st = .ok (.str (repD k.toNat z)) st := by
  simp [oMul, h2, hz, hl]
theorem fLcm_W {a b : Int} (ha : a.natAbs < 2 ^ 9000) (hb : b.natAbs < 2 ^ 9000) : fLcm [.int a, .int b] st = .ok (.int (Nat.lcm a.natAbs b.natAbs : Nat)) st := by
  unfold fLcm
  simp only [decide_eq_true ha, decide_eq_true hb, Bool.and_self, if_true]
theorem fLcm_e {a b : Int} (ha : a.natAbs < 18446744073709551616) (hb : b.natAbs < 18446744073709551616) : fLcm [.int a, .int b] st = .ok (.int (Nat.lcm a.natAbs b.natAbs : Nat)) st :=
  fLcm_W (Nat.lt_of_lt_of_le ha (Nat.pow_le_pow_right (n := 2) (i := 64) (by decide) (by decide))) (Nat.lt_of_lt_of_le hb (Nat.pow_le_pow_right (n := 2) (i := 64) (by decide) (by decide)))
theorem fList_tup : fList [.tup xs] st = .ok (.ref st.length) (st ++ [.lst xs]) := rfl
theorem fList_ref (hh : lstAt st n = some xs) : fList [.ref n] st = .ok (.ref st.length) (st ++ [.lst xs]) := by simp [fList, dSeq, hh]
theorem sExL_e : sExL f τ st = (f τ st).bind fun d s1 => match dSeqL s1 d with
  | some xs => .ok xs s1
  | none => .bad := rfl
theorem oAdd_ref (hh : lstAt st n = some xs) (h2 : lstAt st m = some ys) (hl : xs.length + ys.length ≤ 16777216) : oAdd (.ref n) (.ref m) st = .ok (.ref st.length) (st ++ [.lst (xs ++ ys)]) := by simp [oAdd, hh, h2, hl]
theorem oIx_str {z : List Nat} {k : Nat} {c : Nat} (hz : z.length ≤ 16777216) (hk : z[k]? = some c) : oIx (.str z) (.int k) st = .ok (.str [c]) st := by
  have := atI_nat (xs := z) (j := k) (v := c) hk
  simp [oIx, oIxS, hz, this]
theorem fLen_str {z : List Nat} (hz : z.length ≤ 16777216) : fLen [.str z] st = .ok (.int z.length) st := by simp [fLen, fLenS, hz]
end
/-- a while loop, by an invariant with a measure -/
theorem while_inv {g : EM Bool} {u : SM} (P : Nat → Sl → Store → Prop) (Done : Sl → Store → Prop)
    (hs : ∀ n τ st, P n τ st → (∃ s1, g τ st = .ok false s1 ∧ Done τ s1) ∨ (∃ s1, g τ st = .ok true s1 ∧ ∃ τ2 s2, (u τ s1 = .nx τ2 s2 ∨ u τ s1 = .ct τ2 s2) ∧ ∃ m, m < n ∧ P m τ2 s2)) :
    ∀ (k n : Nat) (τ : Sl) (st : Store), n < k → P n τ st → ∃ τ' st', whileN g u k τ st = .nx τ' st' ∧ Done τ' st'
  | 0, _, _, _, h, _ => absurd h (Nat.not_lt_zero _)
  | k + 1, n, τ, st, h, hp => by
    unfold whileN
    rcases hs n τ st hp with ⟨s1, e, hd⟩ | ⟨s1, e, τ2, s2, e2, m, hm, hp2⟩
    · rw [e, bindE_ok, if_neg Bool.false_ne_true]
      exact ⟨τ, s1, rfl, hd⟩
    · rw [e, bindE_ok, if_pos rfl]
      obtain ⟨τ', st', e3, hd⟩ := while_inv P Done hs k m τ2 s2 (by omega) hp2
      refine ⟨τ', st', ?_, hd⟩
      rcases e2 with e2 | e2 <;> simp only [e2] <;> exact e3
/-- a comprehension that reads alone -/
theorem comp_map {α : Type} {q : Sq} {set : D → Sl → Option Sl} {fe : EM D} {τ : Sl} {st : Store} (hq : q.chk st = true) (g h : α → D) : ∀ (xs : List α) (acc : List D), (∀ a ∈ xs, ∃ τ1, set (g a) τ = some τ1 ∧ fe τ1 st = .ok (h a) st) → compL q set tYes fe τ (xs.map g) acc st = .ok (acc ++ xs.map h) st
  | [], acc, _ => by
    rw [List.map_nil, List.map_nil, List.append_nil]
    unfold compL
    rw [if_pos hq]
  | a :: xs, acc, hs => by
    obtain ⟨τ1, e1, e2⟩ := hs a (List.mem_cons_self ..)
    rw [List.map_cons]
    unfold compL
    rw [if_pos hq, e1]
    simp only [tYes, ER.bindN_ok, if_true, e2]
    rw [comp_map hq g h xs (acc ++ [h a]) fun b hb => hs b (List.mem_cons_of_mem _ hb), List.map_cons, List.append_assoc]
    rfl
/-- a loop that folds -/
theorem for_fold {α β : Type} {q : Sq} {set : D → Sl → Option Sl} {u : SM} {st : Store} (hq : q.chk st = true) (g : α → D) (F : β → α → β) (E : β → Option D → Sl) (I : β → Prop) : ∀ (xs : List α) (b : β) (t : Option D), I b →
    (∀ b t a, a ∈ xs → I b → I (F b a) ∧ ∃ τ1, set (g a) (E b t) = some τ1 ∧ u τ1 st = .nx (E (F b a) (some (g a))) st) → (∃ t', forL q set u (xs.map g) (E b t) st = .nx (E (xs.foldl F b) t') st) ∧ I (xs.foldl F b)
  | [], b, t, hI, _ => ⟨⟨t, by rw [List.map_nil, forL, if_pos hq]; rfl⟩, hI⟩
  | a :: xs, b, t, hI, hs => by
    obtain ⟨h1, τ1, e1, e2⟩ := hs b t a (List.mem_cons_self ..) hI
    obtain ⟨⟨t', e3⟩, h3⟩ := for_fold hq g F E I xs (F b a) (some (g a)) h1 fun b t a ha => hs b t a (List.mem_cons_of_mem _ ha)
    refine ⟨⟨t', ?_⟩, h3⟩
    rw [List.map_cons, forL, if_pos hq, e1]
    simp only [e2]
    exact e3
end HM

/-! HM, part V: growth of stores, comprehensions with tests, keyword calls. -/
namespace HM
open PySem PySem.Spec PyProof.Rows L2
section
variable {τ : Sl} {st : Store} {fs fk : EM (List D)} {n k np : Nat} {is : List Nat} {mf : FM}
@[simp] theorem eCallK_e : eCallK n k np is mf fs fk τ st = (fs τ st).bind fun ds s1 => (fk τ s1).bind fun es s2 => if ds.length = n ∧ es.length = k ∧ (arr is (ds ++ es)).length = np then mf (arr is (ds ++ es)) s2 else .bad := rfl
end
/-- cells are added alone -/
structure Gr (a b : Store) : Prop where
  ex : ∃ l, b = a ++ l
theorem Gr.refl {a : Store} : Gr a a := ⟨[], by simp⟩
theorem Gr.app {a : Store} {c : Cell} : Gr a (a ++ [c]) := ⟨[c], rfl⟩
theorem Gr.trans {a b c : Store} (x : Gr a b) (y : Gr b c) : Gr a c := by
  obtain ⟨l, rfl⟩ := x.ex
  obtain ⟨m, rfl⟩ := y.ex
  exact ⟨l ++ m, by simp⟩
theorem Gr.lst {a b : Store} {n : Nat} {xs : List D} (x : Gr a b) (h : lstAt a n = some xs) : lstAt b n = some xs := by
  obtain ⟨l, rfl⟩ := x.ex
  rw [lstAt_left (lstAt_lt h)]
  exact h
theorem Gr.fr {a b : Store} (x : Gr a b) : Fr a b := by
  obtain ⟨l, rfl⟩ := x.ex
  exact ⟨by simp, fun n _ h => by rw [List.getElem?_append_left h]⟩
theorem Gr.ds {a b : Store} {ns : List Int} (x : Gr a b) (H : DS ns a) : DS ns b := by
  obtain ⟨c0, p, h, q, hp, c1⟩ := H
  exact ⟨x.lst c0, p, h, q, hp, x.lst c1⟩
/-- the last cell is written -/
theorem Gr.put {a b : Store} {m : Nat} {c : Cell} (x : Gr a b) (h : a.length ≤ m) : Gr a (b.set m c) := by
  obtain ⟨l, rfl⟩ := x.ex
  exact ⟨l.set (m - a.length) c, List.set_append_right m c h⟩
theorem Gr.len {a b : Store} (x : Gr a b) : a.length ≤ b.length := by
  obtain ⟨l, rfl⟩ := x.ex
  simp
theorem DS.put2 {ns : List Int} {s : Store} {m : Nat} {c : Cell} (H : DS ns s) (h0 : m ≠ 0) (h1 : m ≠ 1) : DS ns (s.set m c) := by
  obtain ⟨c0, p, h, q, hp, c1⟩ := H
  exact ⟨by rw [lstAt_ne (Ne.symm h0)]; exact c0, p, h, q, hp, by rw [lstAt_ne (Ne.symm h1)]; exact c1⟩
theorem Fr.put2 {st s : Store} {m : Nat} {c : Cell} (F : Fr st s) (h : st.length ≤ m) : Fr st (s.set m c) :=
  ⟨by rw [List.length_set]; exact F.len, fun n h1 h2 => by rw [List.getElem?_set_ne (by omega)]; exact F.at' n h1 h2⟩
theorem DS.len {ns : List Int} {s : Store} (H : DS ns s) : 2 ≤ s.length := by
  obtain ⟨p, h, q, _, c1⟩ := H.c1
  exact lstAt_lt c1
theorem rng_eq (n : Nat) : rng 0 n = (List.range n).map fun k => D.int (k : Nat) := by
  unfold rng
  simp
theorem rng_mem {n : Nat} {i : Nat} {d : D} (h : (rng 0 n)[i]? = some d) : ∃ k : Nat, k < n ∧ d = .int k := by
  rw [rng_eq, List.getElem?_map] at h
  cases hx : (List.range n)[i]? with
  | none => rw [hx] at h; cases h
  | some a =>
    have := List.mem_range.mp (List.mem_of_getElem? hx)
    rw [hx] at h
    exact ⟨a, this, (Option.some.inj h).symm⟩
@[simp] theorem iZip_e {fa fb : EM D} {τ : Sl} {st : Store} : iZip fa fb τ st = (fa τ st).bind fun d s1 => (fb τ s1).bind fun e s2 => zip2 d e s2 := rfl
@[simp] theorem zip2_tup {xs ys : List D} {st : Store} : zip2 (.tup xs) (.tup ys) st = .ok (.fix (zipD xs ys)) st := rfl
def okRg (k : Int → Int → Store → ER D) (d : D) (st : Store) : ER D := match d with
  | .int j => k 0 j st
  | _ => .bad
@[simp] theorem eRg1_e {k : Int → Int → Store → ER D} {fa : EM D} {τ : Sl} {st : Store} : eRg1 k fa τ st = (fa τ st).bind (okRg k) := rfl
@[simp] theorem okRg_int {k : Int → Int → Store → ER D} {j : Int} {st : Store} : okRg k (.int j) st = k 0 j st := rfl
theorem rng_len {n : Nat} : (rng 0 (n : Nat)).length = n := by
  unfold rng
  simp
theorem lstAt_new {a : Store} {xs : List D} : lstAt (a ++ [.lst xs]) a.length = some xs := by simp [lstAt]
/-- a comprehension with a test -/
theorem comp_gen {q : Sq} {set : D → Sl → Option Sl} {ft : EM Bool} {fe : EM D} {τ : Sl} (P : Nat → List D → Store → Prop) (hc : ∀ k acc st, P k acc st → q.chk st = true) :
    ∀ (xs : List D) (k : Nat) (acc : List D) (st : Store), P k acc st →
    (∀ (i : Nat) (d : D) (acc' : List D) (st : Store), xs[i]? = some d → P (k + i) acc' st → ∃ τ1, set d τ = some τ1 ∧ ∃ b s1, ft τ1 st = .ok b s1 ∧ (b = false → P (k + i + 1) acc' s1) ∧ (b = true → ∃ x s2, fe τ1 s1 = .ok x s2 ∧ P (k + i + 1) (acc' ++ [x]) s2)) →
    ∃ ys st', compL q set ft fe τ xs acc st = .ok ys st' ∧ P (k + xs.length) ys st'
  | [], k, acc, st, h0, _ => ⟨acc, st, by
      unfold compL
      rw [if_pos (hc _ _ _ h0)], h0⟩
  | d :: ds, k, acc, st, h0, hs => by
    obtain ⟨τ1, e1, b, s1, e2, h2, h3⟩ := hs 0 d acc st rfl h0
    have next : ∀ acc s, P (k + 1) acc s → ∃ ys st', compL q set ft fe τ ds acc s = .ok ys st' ∧ P (k + (d :: ds).length) ys st' := fun acc s h => by
      rw [List.length_cons, show k + (ds.length + 1) = k + 1 + ds.length by omega]
      refine comp_gen P hc ds (k + 1) acc s h fun i d acc' st hi hp => ?_
      rw [show k + 1 + i = k + (i + 1) by omega] at hp ⊢
      exact hs (i + 1) d acc' st hi hp
    unfold compL
    rw [if_pos (hc _ _ _ h0), e1]
    simp only [e2, ER.bindN_ok]
    cases b with
    | false => exact next _ _ (h2 rfl)
    | true =>
      obtain ⟨x, s2, e3, h4⟩ := h3 rfl
      simp only [if_true, e3, ER.bindN_ok]
      exact next _ _ h4
/-- a comprehension with a test that reads alone -/
theorem comp_fil {α : Type} {q : Sq} {set : D → Sl → Option Sl} {ft : EM Bool} {fe : EM D} {τ : Sl} {st : Store} (hq : q.chk st = true) (g h : α → D) (p : α → Bool) : ∀ (xs : List α) (acc : List D), (∀ a ∈ xs, ∃ τ1, set (g a) τ = some τ1 ∧ ft τ1 st = .ok (p a) st ∧ (p a = true → fe τ1 st = .ok (h a) st)) → compL q set ft fe τ (xs.map g) acc st = .ok (acc ++ (xs.filter p).map h) st
  | [], acc, _ => by
    rw [List.map_nil, List.filter_nil, List.map_nil, List.append_nil]
    unfold compL
    rw [if_pos hq]
  | a :: xs, acc, hs => by
    obtain ⟨τ1, e1, e2, e3⟩ := hs a (List.mem_cons_self ..)
    have ih := fun acc => comp_fil hq g h p xs acc fun b hb => hs b (List.mem_cons_of_mem _ hb)
    rw [List.map_cons, List.filter_cons]
    unfold compL
    rw [if_pos hq, e1]
    simp only [e2, ER.bindN_ok]
    cases hp : p a with
    | false => simp only [Bool.false_eq_true, if_false]; exact ih acc
    | true =>
      simp only [if_true, e3 hp, ER.bindN_ok]
      rw [ih, List.map_cons, List.append_assoc]
      rfl
theorem forL_nil {set : D → Sl → Option Sl} {u : SM} {q : Sq} {τ : Sl} {st : Store} (hq : q.chk st = true) : forL q set u [] τ st = .nx τ st := by
  rw [forL, if_pos hq]
theorem forL_nx {set : D → Sl → Option Sl} {u : SM} {q : Sq} {τ τ1 τ2 : Sl} {st s2 : Store} {d : D} {ds : List D} (hq : q.chk st = true) (h1 : set d τ = some τ1) (h2 : u τ1 st = .nx τ2 s2) : forL q set u (d :: ds) τ st = forL q set u ds τ2 s2 := by
  rw [forL, if_pos hq, h1]
  simp only [h2]
theorem forL_ct {set : D → Sl → Option Sl} {u : SM} {q : Sq} {τ τ1 τ2 : Sl} {st s2 : Store} {d : D} {ds : List D} (hq : q.chk st = true) (h1 : set d τ = some τ1) (h2 : u τ1 st = .ct τ2 s2) : forL q set u (d :: ds) τ st = forL q set u ds τ2 s2 := by
  rw [forL, if_pos hq, h1]
  simp only [h2]
theorem forL_rt {set : D → Sl → Option Sl} {u : SM} {q : Sq} {τ τ1 : Sl} {st s2 : Store} {d x : D} {ds : List D} (hq : q.chk st = true) (h1 : set d τ = some τ1) (h2 : u τ1 st = .rt x s2) : forL q set u (d :: ds) τ st = .rt x s2 := by
  rw [forL, if_pos hq, h1]
  simp only [h2]
theorem forL_bk {set : D → Sl → Option Sl} {u : SM} {q : Sq} {τ τ1 τ2 : Sl} {st s2 : Store} {d : D} {ds : List D} (hq : q.chk st = true) (h1 : set d τ = some τ1) (h2 : u τ1 st = .bk τ2 s2) : forL q set u (d :: ds) τ st = .nx τ2 s2 := by
  rw [forL, if_pos hq, h1]
  simp only [h2]
theorem map_mem {α : Type} {f : α → D} {xs : List α} {i : Nat} {d : D} (h : (xs.map f)[i]? = some d) : ∃ a ∈ xs, d = f a := by
  rw [List.getElem?_map] at h
  cases hx : xs[i]? with
  | none => simp [hx] at h
  | some a => exact ⟨a, List.mem_of_getElem? hx, by simpa [hx] using h.symm⟩
theorem any_eqF {cs : List Int} {k : Int} : ((cs.map D.int).any fun y => eqF y (.int k)) = decide (k ∈ cs) := by
  induction cs with
  | nil => rfl
  | cons c cs ih =>
    rw [List.map_cons, List.any_cons, ih]
    by_cases h : k = c <;> simp [h, eq_comm]
theorem dIn_ints {cs : List Int} {k : Int} {st : Store} : dIn (.int k) (.tup (cs.map D.int)) st = some (decide (k ∈ cs)) := by
  rw [dIn_tup, if_pos, any_eqF]
  rw [List.all_eq_true]
  intro x hx
  obtain ⟨c, _, rfl⟩ := List.mem_map.mp hx
  rfl
end HM

/-! HM, part W: what holds behind a run. -/
namespace HM
open PySem PySem.Spec PyProof.Rows L2
section
variable {α β : Type} {r : ER α} {Q Q' : α → Store → Prop} {st : Store} {τ : Sl}
def W (r : ER α) (Q : α → Store → Prop) : Prop := match r with
  | .ok a s => Q a s
  | _ => False
def WS (r : SR) (N : Sl → Store → Prop) (R : D → Store → Prop) (B C : Sl → Store → Prop) : Prop := match r with
  | .nx τ s => N τ s
  | .rt d s => R d s
  | .bk τ s => B τ s
  | .ct τ s => C τ s
  | _ => False
theorem W.ex (h : W r Q) : ∃ a s, r = .ok a s ∧ Q a s := by
  cases r with
  | ok a s => exact ⟨a, s, rfl, h⟩
  | _ => exact h.elim
theorem W.of {a : α} {s : Store} (h : r = .ok a s) (q : Q a s) : W r Q := by rw [h]; exact q
theorem W.mono (h : W r Q) (i : ∀ a s, Q a s → Q' a s) : W r Q' := by
  cases r with
  | ok a s => exact i a s h
  | _ => exact h.elim
@[simp] theorem W_ok {a : α} {s : Store} : W (.ok a s) Q = Q a s := rfl
@[simp] theorem W_bad : W (.bad : ER α) Q = False := rfl
@[simp] theorem W_bind {k : α → Store → ER β} {Q : β → Store → Prop} : W (r.bind k) Q = W r fun a s => W (k a s) Q := by cases r <;> rfl
theorem W_ite {c : Prop} [Decidable c] {r' : ER α} : W (if c then r else r') Q = if c then W r Q else W r' Q := by split <;> rfl
section
variable {N : Sl → Store → Prop} {R : D → Store → Prop} {B C : Sl → Store → Prop}
@[simp] theorem WS_nx : WS (.nx τ st) N R B C = N τ st := rfl
@[simp] theorem WS_rt {d : D} : WS (.rt d st) N R B C = R d st := rfl
@[simp] theorem WS_bk : WS (.bk τ st) N R B C = B τ st := rfl
@[simp] theorem WS_ct : WS (.ct τ st) N R B C = C τ st := rfl
@[simp] theorem WS_bindE {k : α → Store → SR} : WS (bindE r τ k) N R B C = W r fun a s => WS (k a s) N R B C := by cases r <;> rfl
@[simp] theorem WS_seq {s : SR} {v : SM} : WS (s.seq v) N R B C = WS s (fun τ st => WS (v τ st) N R B C) R B C := by cases s <;> rfl
theorem WS_ite {c : Prop} [Decidable c] {a b : SR} : WS (if c then a else b) N R B C = if c then WS a N R B C else WS b N R B C := by split <;> rfl
@[simp] theorem W_fin {s : SR} {Q : D → Store → Prop} : W s.fin Q = WS s (fun _ st => Q .non st) Q (fun _ _ => False) (fun _ _ => False) := by cases s <;> rfl
theorem WS.mono {s : SR} {N' : Sl → Store → Prop} {R' : D → Store → Prop} {B' C' : Sl → Store → Prop} (h : WS s N R B C) (n : ∀ τ st, N τ st → N' τ st) (r : ∀ d st, R d st → R' d st) (b : ∀ τ st, B τ st → B' τ st) (c : ∀ τ st, C τ st → C' τ st) : WS s N' R' B' C' := by
  cases s with
  | nx τ s => exact n _ _ h
  | rt d s => exact r _ _ h
  | bk τ s => exact b _ _ h
  | ct τ s => exact c _ _ h
  | _ => exact h.elim
/-- a for loop -/
theorem ws_for {q : Sq} {set : D → Sl → Option Sl} {u : SM} (P : Nat → Sl → Store → Prop) (hc : ∀ k τ st, P k τ st → q.chk st = true) :
    ∀ (xs : List D) (k : Nat) (τ : Sl) (st : Store), P k τ st →
    (∀ i d τ st, xs[i]? = some d → P (k + i) τ st → ∃ τ1, set d τ = some τ1 ∧ WS (u τ1 st) (P (k + i + 1)) R N (P (k + i + 1))) →
    (∀ τ st, P (k + xs.length) τ st → N τ st) → WS (forL q set u xs τ st) N R B C
  | [], k, τ, st, h0, _, hN => by
    unfold forL
    rw [if_pos (hc _ _ _ h0)]
    exact hN _ _ h0
  | d :: ds, k, τ, st, h0, hs, hN => by
    obtain ⟨τ1, e1, h1⟩ := hs 0 d τ st rfl h0
    have rest := fun τ st h => ws_for (q := q) (set := set) (u := u) P hc ds (k + 1) τ st h (fun i d τ st hi hp => by
      have := hs (i + 1) d τ st hi (by rwa [show k + (i + 1) = k + 1 + i by omega])
      rwa [show k + (i + 1) + 1 = k + 1 + i + 1 by omega] at this) (fun τ st h => hN τ st (by rw [List.length_cons]; rwa [show k + (ds.length + 1) = k + 1 + ds.length by omega]))
    unfold forL
    rw [if_pos (hc _ _ _ h0), e1]
    simp only
    generalize u τ1 st = r at h1
    cases r with
    | nx τ s => exact rest τ s h1
    | ct τ s => exact rest τ s h1
    | bk τ s => exact h1
    | rt d s => exact h1
    | _ => exact h1.elim
/-- a for loop over given items -/
theorem ws_for0 {q : Sq} {set : D → Sl → Option Sl} {u : SM} {xs : List D} (P : Nat → Sl → Store → Prop) (hc : ∀ k τ st, P k τ st → q.chk st = true) (h0 : P 0 τ st)
    (hs : ∀ i d τ st, xs[i]? = some d → P i τ st → ∃ τ1, set d τ = some τ1 ∧ WS (u τ1 st) (P (i + 1)) R N (P (i + 1)))
    (hN : ∀ τ st, P xs.length τ st → N τ st) : WS (forL q set u xs τ st) N R B C :=
  ws_for P hc xs 0 τ st h0 (fun i d τ st hi hp => by
    rw [Nat.zero_add] at hp ⊢
    exact hs i d τ st hi hp) (fun τ st h => hN τ st (by rwa [Nat.zero_add] at h))
/-- a while loop -/
theorem ws_while {g : EM Bool} {u : SM} (P : Nat → Sl → Store → Prop)
    (hs : ∀ n τ st, P n τ st → W (g τ st) fun b s1 => if b then WS (u τ s1) (fun τ s => ∃ m, m < n ∧ P m τ s) R N (fun τ s => ∃ m, m < n ∧ P m τ s) else N τ s1) :
    ∀ (k n : Nat) (τ : Sl) (st : Store), n < k → P n τ st → WS (whileN g u k τ st) N R B C
  | 0, _, _, _, h, _ => absurd h (Nat.not_lt_zero _)
  | k + 1, n, τ, st, h, hp => by
    unfold whileN
    obtain ⟨b, s1, e, h1⟩ := (hs n τ st hp).ex
    rw [e, bindE_ok]
    cases b with
    | false => exact h1
    | true =>
      rw [if_pos rfl] at h1 ⊢
      generalize u τ s1 = r at h1
      cases r with
      | nx τ s =>
        obtain ⟨m, hm, hp2⟩ := h1
        exact ws_while P hs k m τ s (by omega) hp2
      | ct τ s =>
        obtain ⟨m, hm, hp2⟩ := h1
        exact ws_while P hs k m τ s (by omega) hp2
      | bk τ s => exact h1
      | rt d s => exact h1
      | _ => exact h1.elim
end
/-- a comprehension -/
theorem w_comp {q : Sq} {set : D → Sl → Option Sl} {ft : EM Bool} {fe : EM D} {Q : List D → Store → Prop} (P : Nat → List D → Store → Prop) (hc : ∀ k acc st, P k acc st → q.chk st = true) :
    ∀ (xs : List D) (k : Nat) (acc : List D) (st : Store), P k acc st →
    (∀ (i : Nat) (d : D) (acc' : List D) (st : Store), xs[i]? = some d → P (k + i) acc' st → ∃ τ1, set d τ = some τ1 ∧ W (ft τ1 st) fun b s1 => if b then W (fe τ1 s1) fun x s2 => P (k + i + 1) (acc' ++ [x]) s2 else P (k + i + 1) acc' s1) →
    (∀ acc st, P (k + xs.length) acc st → Q acc st) → W (compL q set ft fe τ xs acc st) Q
  | [], k, acc, st, h0, _, hQ => by
    unfold compL
    rw [if_pos (hc _ _ _ h0)]
    exact hQ _ _ h0
  | d :: ds, k, acc, st, h0, hs, hQ => by
    obtain ⟨τ1, e1, h1⟩ := hs 0 d acc st rfl h0
    obtain ⟨b, s1, e2, h2⟩ := h1.ex
    have rest := fun acc st h => w_comp (q := q) (set := set) (ft := ft) (fe := fe) P hc ds (k + 1) acc st h (fun i d acc' st hi hp => by
      have := hs (i + 1) d acc' st hi (by rwa [show k + (i + 1) = k + 1 + i by omega])
      rwa [show k + (i + 1) + 1 = k + 1 + i + 1 by omega] at this) (fun acc st h => hQ acc st (by rw [List.length_cons]; rwa [show k + (ds.length + 1) = k + 1 + ds.length by omega]))
    unfold compL
    rw [if_pos (hc _ _ _ h0), e1]
    simp only [e2, ER.bindN_ok]
    cases b with
    | false => exact rest _ _ h2
    | true =>
      rw [if_pos rfl] at h2
      obtain ⟨x, s2, e3, h3⟩ := h2.ex
      simp only [if_true, e3, ER.bindN_ok]
      exact rest _ _ h3
theorem w_comp0 {q : Sq} {set : D → Sl → Option Sl} {ft : EM Bool} {fe : EM D} {Q : List D → Store → Prop} {xs : List D} (P : Nat → List D → Store → Prop) (hc : ∀ k acc st, P k acc st → q.chk st = true) (h0 : P 0 [] st)
    (hs : ∀ (i : Nat) (d : D) (acc : List D) (st : Store), xs[i]? = some d → P i acc st → ∃ τ1, set d τ = some τ1 ∧ W (ft τ1 st) fun b s1 => if b then W (fe τ1 s1) fun x s2 => P (i + 1) (acc ++ [x]) s2 else P (i + 1) acc s1)
    (hQ : ∀ acc st, P xs.length acc st → Q acc st) : W (compL q set ft fe τ xs [] st) Q :=
  w_comp P hc xs 0 [] st h0 (fun i d acc st hi hp => by
    rw [Nat.zero_add] at hp ⊢
    exact hs i d acc st hi hp) (fun acc st h => hQ acc st (by rwa [Nat.zero_add] at h))
theorem w_lc {own : List Nat} {set : D → Sl → Option Sl} {ft : EM Bool} {fe : EM D} {q : Sq} {Q : List D → Store → Prop} (hl : q.items.length ≤ 16777216) (h : W (compL q set ft fe (wipeD τ own) q.items [] st) Q) : W (lc1 own set ft fe τ q st) Q := by
  unfold lc1
  rw [if_pos hl]
  exact h
/-- a comprehension that reads alone -/
theorem w_map {α : Type} {q : Sq} {set : D → Sl → Option Sl} {fe : EM D} {Q : List D → Store → Prop} {ds : List D} (g h : α → D) (xs : List α) (hd : ds = xs.map g) (hq : q.chk st = true) (hs : ∀ a ∈ xs, ∃ τ1, set (g a) τ = some τ1 ∧ W (fe τ1 st) fun d s => d = h a ∧ s = st) (hQ : Q (xs.map h) st) :
    W (compL q set tYes fe τ ds [] st) Q := by
  subst hd
  have e := comp_map (set := set) (fe := fe) (τ := τ) hq g h xs [] (fun a ha => by
    obtain ⟨τ1, e1, hw⟩ := hs a ha
    obtain ⟨d, s, e2, e3, e4⟩ := hw.ex
    rw [e3, e4] at e2
    exact ⟨τ1, e1, e2⟩)
  rw [e]
  exact hQ
/-- a comprehension with a test that reads alone -/
theorem w_fil {α : Type} {q : Sq} {set : D → Sl → Option Sl} {ft : EM Bool} {fe : EM D} {Q : List D → Store → Prop} {ds : List D} (g h : α → D) (p : α → Bool) (xs : List α) (hd : ds = xs.map g) (hq : q.chk st = true)
    (hs : ∀ a ∈ xs, ∃ τ1, set (g a) τ = some τ1 ∧ W (ft τ1 st) fun b s => b = p a ∧ s = st ∧ (b = true → W (fe τ1 st) fun d s => d = h a ∧ s = st)) (hQ : Q ((xs.filter p).map h) st) :
    W (compL q set ft fe τ ds [] st) Q := by
  subst hd
  have e := comp_fil (set := set) (ft := ft) (fe := fe) (τ := τ) hq g h p xs [] (fun a ha => by
    obtain ⟨τ1, e1, hw⟩ := hs a ha
    obtain ⟨b, s, e2, e3, e4, h3⟩ := hw.ex
    rw [e3, e4] at e2
    refine ⟨τ1, e1, e2, fun hb => ?_⟩
    obtain ⟨d, s, e5, e6, e7⟩ := (h3 (e3.trans hb)).ex
    rw [e6, e7] at e5
    exact e5)
  rw [e]
  exact hQ
/-- a loop that folds, the store as it is -/
theorem ws_fold {α β : Type} {q : Sq} {set : D → Sl → Option Sl} {u : SM} {ds : List D} {N : Sl → Store → Prop} {R : D → Store → Prop} {B C : Sl → Store → Prop} (g : α → D) (F : β → α → β) (E : β → Option D → Sl) (xs : List α) (b0 : β) (t0 : Option D) (hd : ds = xs.map g) (hτ : τ = E b0 t0) (hq : q.chk st = true)
    (hs : ∀ b t a, a ∈ xs → ∃ τ1, set (g a) (E b t) = some τ1 ∧ WS (u τ1 st) (fun τ s => (∃ t, τ = E (F b a) t) ∧ s = st) R (fun _ _ => False) (fun τ s => (∃ t, τ = E (F b a) t) ∧ s = st))
    (hN : ∀ t, N (E (xs.foldl F b0) t) st) : WS (forL q set u ds τ st) N R B C := by
  subst hd hτ
  induction xs generalizing b0 t0 with
  | nil =>
    rw [List.map_nil, forL, if_pos hq]
    exact hN t0
  | cons a xs ih =>
    obtain ⟨τ1, e1, h1⟩ := hs b0 t0 a (List.mem_cons_self ..)
    rw [List.map_cons, forL, if_pos hq, e1]
    simp only
    have go : ∀ τ s, ((∃ t, τ = E (F b0 a) t) ∧ s = st) → WS (forL q set u (xs.map g) τ s) N R B C := fun τ s h => by
      obtain ⟨⟨t, rfl⟩, rfl⟩ := h
      exact ih (F b0 a) t (fun b t a' ha => hs b t a' (List.mem_cons_of_mem _ ha)) hN
    generalize u τ1 st = r at h1
    cases r with
    | nx τ s => exact go τ s h1
    | ct τ s => exact go τ s h1
    | rt d s => exact h1
    | _ => exact h1.elim
end
theorem rng_at {n i : Nat} {d : D} (h : (rng 0 (n : Nat))[i]? = some d) : i < n ∧ d = .int (i : Nat) := by
  have hin : i < n := by
    have := (List.getElem?_eq_some_iff.mp h).1
    rwa [rng_len] at this
  rw [rng_eq, List.getElem?_map, List.getElem?_range hin] at h
  exact ⟨hin, (Option.some.inj h).symm⟩
section
variable {q : Sq} {set : D → Sl → Option Sl} {u : SM} {τ : Sl} {st : Store} {N : Sl → Store → Prop} {R : D → Store → Prop} {B C : Sl → Store → Prop} {ft : EM Bool} {fe : EM D} {Q : List D → Store → Prop}
/-- over range(n) -/
theorem ws_rng {n : Nat} (P : Nat → Sl → Store → Prop) (hc : ∀ k τ st, P k τ st → q.chk st = true) (h0 : P 0 τ st)
    (hs : ∀ i τ st, i < n → P i τ st → ∃ τ1, set (.int (i : Nat)) τ = some τ1 ∧ WS (u τ1 st) (P (i + 1)) R N (P (i + 1)))
    (hN : ∀ τ st, P n τ st → N τ st) : WS (forL q set u (rng 0 (n : Nat)) τ st) N R B C :=
  ws_for0 P hc h0 (fun i d τ st hi hp => by
    obtain ⟨hin, rfl⟩ := rng_at hi
    exact hs i τ st hin hp) (fun τ st h => hN τ st (by rwa [rng_len] at h))
theorem w_rng {n : Nat} (P : Nat → List D → Store → Prop) (hc : ∀ k acc st, P k acc st → q.chk st = true) (h0 : P 0 [] st)
    (hs : ∀ (i : Nat) (acc : List D) (st : Store), i < n → P i acc st → ∃ τ1, set (.int (i : Nat)) τ = some τ1 ∧ W (ft τ1 st) fun b s1 => if b then W (fe τ1 s1) fun x s2 => P (i + 1) (acc ++ [x]) s2 else P (i + 1) acc s1)
    (hQ : ∀ acc st, P n acc st → Q acc st) : W (compL q set ft fe τ (rng 0 (n : Nat)) [] st) Q :=
  w_comp0 P hc h0 (fun i d acc st hi hp => by
    obtain ⟨hin, rfl⟩ := rng_at hi
    exact hs i acc st hin hp) (fun acc st h => hQ acc st (by rwa [rng_len] at h))
/-- over things that are told by others -/
theorem ws_map {α : Type} {ds : List D} (g : α → D) (xs : List α) (hd : ds = xs.map g) (P : Nat → Sl → Store → Prop) (hc : ∀ k τ st, P k τ st → q.chk st = true) (h0 : P 0 τ st)
    (hs : ∀ i a τ st, xs[i]? = some a → P i τ st → ∃ τ1, set (g a) τ = some τ1 ∧ WS (u τ1 st) (P (i + 1)) R N (P (i + 1)))
    (hN : ∀ τ st, P xs.length τ st → N τ st) : WS (forL q set u ds τ st) N R B C :=
  ws_for0 P hc h0 (fun i d τ st hi hp => by
    rw [hd, List.getElem?_map] at hi
    cases hx : xs[i]? with
    | none => rw [hx] at hi; cases hi
    | some a =>
      rw [hx] at hi
      cases hi
      exact hs i a τ st hx hp) (fun τ st h => hN τ st (by rwa [hd, List.length_map] at h))
theorem w_mapc {α : Type} {ds : List D} (g : α → D) (xs : List α) (hd : ds = xs.map g) (P : Nat → List D → Store → Prop) (hc : ∀ k acc st, P k acc st → q.chk st = true) (h0 : P 0 [] st)
    (hs : ∀ (i : Nat) (a : α) (acc : List D) (st : Store), xs[i]? = some a → P i acc st → ∃ τ1, set (g a) τ = some τ1 ∧ W (ft τ1 st) fun b s1 => if b then W (fe τ1 s1) fun x s2 => P (i + 1) (acc ++ [x]) s2 else P (i + 1) acc s1)
    (hQ : ∀ acc st, P xs.length acc st → Q acc st) : W (compL q set ft fe τ ds [] st) Q :=
  w_comp0 P hc h0 (fun i d acc st hi hp => by
    rw [hd, List.getElem?_map] at hi
    cases hx : xs[i]? with
    | none => rw [hx] at hi; cases hi
    | some a =>
      rw [hx] at hi
      cases hi
      exact hs i a acc st hx hp) (fun acc st h => hQ acc st (by rwa [hd, List.length_map] at h))
end
section
variable {q : Sq} {set : D → Sl → Option Sl} {u : SM} {τ : Sl} {st : Store} {N : Sl → Store → Prop} {R : D → Store → Prop} {B C : Sl → Store → Prop}
/-- a loop that returns False at the first that fails -/
theorem ws_all {α : Type} (g : α → D) (p : α → Bool) (I : Sl → Prop) (J : Store → Prop) (hc : ∀ st, J st → q.chk st = true) : ∀ (xs : List α) (ds : List D) (τ : Sl) (st : Store), ds = xs.map g → I τ → J st →
    (∀ a ∈ xs, ∀ τ st, I τ → J st → ∃ τ1, set (g a) τ = some τ1 ∧ WS (u τ1 st) (fun τ s => p a = true ∧ I τ ∧ J s) (fun d s => p a = false ∧ d = .bl false ∧ J s) (fun _ _ => False) (fun τ s => p a = true ∧ I τ ∧ J s)) →
    (∀ τ s, xs.all p = true → I τ → J s → N τ s) → (∀ s, xs.all p = false → J s → R (.bl false) s) → WS (forL q set u ds τ st) N R B C
  | [], ds, τ, st, hd, h0, j0, _, kN, _ => by
    subst hd
    rw [List.map_nil, forL, if_pos (hc st j0)]
    exact kN τ st rfl h0 j0
  | a :: xs, ds, τ, st, hd, h0, j0, hs, kN, kR => by
    subst hd
    obtain ⟨τ1, e1, h1⟩ := hs a (List.mem_cons_self ..) τ st h0 j0
    rw [List.map_cons, forL, if_pos (hc st j0), e1]
    simp only
    have go : ∀ τ s, (p a = true ∧ I τ ∧ J s) → WS (forL q set u (xs.map g) τ s) N R B C := fun τ s ⟨hp, h2, h3⟩ =>
      ws_all g p I J hc xs _ τ s rfl h2 h3 (fun b hb => hs b (List.mem_cons_of_mem _ hb)) (fun τ s h => kN τ s (by rw [List.all_cons, hp, h]; rfl)) (fun s h => kR s (by rw [List.all_cons, hp, h]; rfl))
    generalize u τ1 st = r at h1
    cases r with
    | nx τ s => exact go τ s h1
    | ct τ s => exact go τ s h1
    | rt d s =>
      obtain ⟨hp, rfl, h3⟩ := h1
      exact kR s (by rw [List.all_cons, hp]; rfl) h3
    | _ => exact h1.elim
theorem ws_allR {n : Nat} (p : Nat → Bool) (I : Sl → Prop) (J : Store → Prop) (hc : ∀ st, J st → q.chk st = true) (h0 : I τ) (j0 : J st)
    (hs : ∀ a, a < n → ∀ τ st, I τ → J st → ∃ τ1, set (.int (a : Nat)) τ = some τ1 ∧ WS (u τ1 st) (fun τ s => p a = true ∧ I τ ∧ J s) (fun d s => p a = false ∧ d = .bl false ∧ J s) (fun _ _ => False) (fun τ s => p a = true ∧ I τ ∧ J s))
    (kN : ∀ τ s, (List.range n).all p = true → I τ → J s → N τ s) (kR : ∀ s, (List.range n).all p = false → J s → R (.bl false) s) : WS (forL q set u (rng 0 (n : Nat)) τ st) N R B C :=
  ws_all (fun k : Nat => D.int k) p I J hc (List.range n) _ τ st (rng_eq n) h0 j0 (fun a ha => hs a (List.mem_range.mp ha)) kN kR
theorem WS.cut {r : SR} {N' : Sl → Store → Prop} (h : WS r N' R B C) (k : ∀ τ s, N' τ s → N τ s) : WS r N R B C := h.mono k (fun _ _ h => h) (fun _ _ h => h) (fun _ _ h => h)
end
/-! dicts -/
theorem dGet_put {kvs : List (D × D)} {k k' v : D} : dGet (dPut kvs k v) k' = if k' = k then some v else dGet kvs k' := by
  have h1 : ∀ kvs : List (D × D), dGet (kvs.map fun p => if p.1 = k then (p.1, v) else p) k' = (dGet kvs k').map fun x => if k' = k then v else x := fun kvs => by
    unfold dGet
    induction kvs with
    | nil => rfl
    | cons p kvs ih =>
      rw [List.map_cons]
      by_cases e : p.1 = k'
      · rw [List.find?_cons_of_pos (by split <;> simpa using e), List.find?_cons_of_pos (by simpa using e)]
        by_cases e2 : p.1 = k
        · have : k' = k := by rw [← e, e2]
          simp [e2, this]
        · have : ¬ k' = k := by rw [← e]; exact e2
          simp [e2, this]
      · rw [List.find?_cons_of_neg (by split <;> simpa using e), List.find?_cons_of_neg (by simpa using e)]
        exact ih
  unfold dPut
  split
  · rename_i h
    rw [h1]
    by_cases e : k' = k
    · obtain ⟨x, hx⟩ := Option.isSome_iff_exists.mp h
      subst e
      simp [hx]
    · rw [if_neg e]
      cases dGet kvs k' <;> simp [e]
  · rename_i h
    unfold dGet at h ⊢
    rw [List.find?_append]
    by_cases e : k' = k
    · subst e
      have : kvs.find? (fun p => decide (p.1 = k')) = none := by
        cases hz : kvs.find? (fun p => decide (p.1 = k')) with
        | none => rfl
        | some x => rw [hz] at h; exact absurd rfl h
      simp [this]
    · rw [if_neg e]
      cases hz : kvs.find? (fun p => decide (p.1 = k')) with
      | some x => simp
      | none => simp [Ne.symm e]
theorem dPut_keys {kvs : List (D × D)} {k v : D} {p : D → Bool} (h : (kvs.all fun q => p q.1) = true) (hk : p k = true) : ((dPut kvs k v).all fun q => p q.1) = true := by
  unfold dPut
  rw [List.all_eq_true] at h
  split
  · rw [List.all_eq_true]
    intro x hx
    obtain ⟨y, hy, rfl⟩ := List.mem_map.mp hx
    have := h y hy
    split <;> exact this
  · rw [List.all_append, List.all_eq_true.mpr h]
    simpa using hk
theorem dPut_len {kvs : List (D × D)} {k v : D} : (dPut kvs k v).length ≤ kvs.length + 1 := by
  unfold dPut
  split <;> simp
theorem keyFit_tup {kvs : List (D × D)} {k : D} (h : (kvs.all fun q => q.1.tupQ) = true) (hk : k.tupQ = true) : keyFit kvs k = true := by simp [keyFit, h, hk]
theorem keyFit_flat {kvs : List (D × D)} {k : D} (h : (kvs.all fun q => q.1.flatK) = true) (hk : k.flatK = true) : keyFit kvs k = true := by simp [keyFit, h, hk]
theorem dctAt_new {a : Store} {kvs : List (D × D)} : dctAt (a ++ [.dct kvs]) a.length = some kvs := by simp [dctAt]
theorem dctAt_lt {st : Store} {n : Nat} {kvs : List (D × D)} (h : dctAt st n = some kvs) : n < st.length := by
  unfold dctAt at h
  split at h
  · rename_i e
    exact (List.getElem?_eq_some_iff.mp e).1
  · cases h
theorem dctAt_set {st : Store} {n : Nat} {kvs kvs' : List (D × D)} (h : dctAt st n = some kvs) : dctAt (st.set n (.dct kvs')) n = some kvs' := by
  have := dctAt_lt h
  simp [dctAt, this]
theorem dctAt_ne {st : Store} {n m : Nat} {c : Cell} (h : m ≠ n) : dctAt (st.set n c) m = dctAt st m := by
  unfold dctAt
  rw [List.getElem?_set_ne (Ne.symm h)]
theorem Gr.dct {a b : Store} {n : Nat} {kvs : List (D × D)} (x : Gr a b) (h : dctAt a n = some kvs) : dctAt b n = some kvs := by
  obtain ⟨l, rfl⟩ := x.ex
  unfold dctAt at h ⊢
  rw [List.getElem?_append_left (dctAt_lt (kvs := kvs) (by unfold dctAt; exact h))]
  exact h
theorem Fr.dct {a b : Store} {n : Nat} {kvs : List (D × D)} (x : Fr a b) (h : dctAt a n = some kvs) (hn : n ≠ 1) : dctAt b n = some kvs := by
  have := x.at' n hn (dctAt_lt h)
  unfold dctAt at h ⊢
  rwa [this]
section
variable {g : EM Bool} {u v w : SM} {τ : Sl} {st s1 : Store} {N : Sl → Store → Prop} {R : D → Store → Prop} {B C : Sl → Store → Prop}
theorem ws_skip (h : g τ st = .ok false st) (k : WS (w τ st) N R B C) : WS (sSeq (sIf g u sNil) w τ st) N R B C := by
  rw [sSeq_e, WS_seq, sIf_e, h]
  simpa using k
theorem ws_take (h : g τ st = .ok true st) (k : WS (u τ st) (fun τ s => WS (w τ s) N R B C) R B C) : WS (sSeq (sIf g u v) w τ st) N R B C := by
  rw [sSeq_e, WS_seq, sIf_e, h]
  simpa using k
theorem ws_else (h : g τ st = .ok false st) (k : WS (v τ st) (fun τ s => WS (w τ s) N R B C) R B C) : WS (sSeq (sIf g u v) w τ st) N R B C := by
  rw [sSeq_e, WS_seq, sIf_e, h]
  simpa using k
/-- one statement, then the rest -/
theorem ws_cons {N' : Sl → Store → Prop} (h : WS (u τ st) N' R B C) (k : ∀ τ s, N' τ s → WS (w τ s) N R B C) : WS (sSeq u w τ st) N R B C := by
  rw [sSeq_e, WS_seq]
  exact h.cut k
end
end HM

/-! HM, part X: texts split. -/
namespace HM
open PySem PySem.Spec PyProof.Rows L2
section
variable {X : Cx}
theorem strs_rds {K : KW} {m : List Addr} {H : Hp} : ∀ ys : List Str, RDs K m H (ys.map fun y => D.str y.cps.toList) (ys.map V.str)
  | [] => .nil
  | y :: ys => .cons (.str y.cps.toList) (strs_rds ys)
def mSplit : MM := fun d ds st => match d, ds with
  | .str a, [.str b] => if b ≠ [] ∧ a.length + 2 ≤ 16777216 then .ok (.ref st.length) (st ++ [.lst ((Txt.split ⟨a.toArray⟩ ⟨b.toArray⟩).map fun y => D.str y.cps.toList)]) else .bad
  | _, _ => .bad
theorem me_split : MethM X "str.split" mSplit := ⟨_, mt_split, fun m st H d v ds vs E Q hS r rs hP => by
  unfold mSplit at hP
  split at hP
  · rename_i a b
    split at hP
    · rename_i hc
      cases r
      obtain ⟨u, rfl, ru⟩ := rs.one
      cases ru
      refine ⟨_, _, rfl, rfl, ?_, ?_, hP.lst hS (strs_rds _)⟩
      · cases b with
        | nil => exact absurd rfl hc.1
        | cons x b => rfl
      · rw [PySem.sizeLine_eq]
        exact hc.2
    · exact hP.elim
  · exact hP.elim⟩
end
/-! ### dict(pairs) -/
section
variable {X : Cx} {pins : List (Addr × Obj)} {σ : L2.St} {H : Hp} {s : Shared} {a : Addr} {xs : List V}
theorem plain_seq (I : Inv X pins σ H s) (h : PlT X.K H a xs) : ∃ its : List Value, Vals xs its ∧ PlainSeq "tuple" s.heap a its.toArray ∧ xs.length ≤ sizeLine := by
  obtain ⟨its, r, pl, hz⟩ := I.tuple h.sq
  obtain ⟨ob, ho, hc, n, hd⟩ := pl
  rcases h with ⟨o, hn, h⟩ | ⟨o, its', n', hk, hc', hn, hs, hz', r'⟩
  · have z : s.heap.get? a = some o := (I.hok a _ h).1
    rw [z] at ho
    cases ho
    exact ⟨its, r, ⟨ob, n, z, hc, hn, hd⟩, hz⟩
  · have z := I.kIn a o hk
    rw [z] at ho
    cases ho
    exact ⟨its, r, ⟨ob, n, z, hc, hn, hd⟩, hz⟩
theorem pairs2 (I : Inv X pins σ H s) : ∀ {ps : List Addr} {kvs : List (Key × V)}, Paired (fun p kv => SqT X.K H p [kV kv.1, kv.2]) ps kvs →
    ∃ (prs : List (Key × Value)) (qs : List (Value × Value)), KV kvs prs ∧ prs.length = ps.length ∧ qs.length = ps.length ∧ ∀ (j : Nat) (q : Value × Value), qs[j]? = some q → ∃ (b : Addr) (k : Key), ps[j]? = some b ∧ prs[j]? = some (k, q.2) ∧ IsTup s.heap b #[q.1, q.2] ∧ (mixKind X.prog X.w).is k q.1 = true
  | _, _, .nil => ⟨[], [], .nil, rfl, rfl, fun j q e => by simp at e⟩
  | _, _, .cons (a := p) (b := kv) h t => by
    obtain ⟨prs, qs, r, hl, hl2, hp⟩ := pairs2 I t
    obtain ⟨its, rv, ht, _⟩ := I.tuple h
    obtain ⟨u, y, ei, ru, ry⟩ := vals2 rv
    subst ei
    refine ⟨(kv.1, y) :: prs, (u, y) :: qs, .cons ⟨rfl, ry⟩ r, by rw [List.length_cons, List.length_cons, hl], by rw [List.length_cons, List.length_cons, hl2], fun j q e => ?_⟩
    cases j with
    | zero =>
      have e' : (u, y) = q := Option.some.inj e
      subst e'
      exact ⟨p, kv.1, rfl, rfl, ht, kV_is ru⟩
    | succ j =>
      obtain ⟨b, k', e1, e2, e3⟩ := hp j q (by simpa using e)
      exact ⟨b, k', by simpa using e1, by simpa using e2, e3⟩
theorem call_dictT (hcalm : X.calm = true) : CallR X (.type "dict") (fun xs H Q => ∃ (a : Addr) (ps : List Addr) (kvs : List (Key × V)), xs = [.ref a] ∧ PlT X.K H a (ps.map V.ref) ∧ Paired (fun p kv => SqT X.K H p [kV kv.1, kv.2]) ps kvs ∧
    ∀ p, H p = none → Q (.ref p) (upd H p (.dK (mergeK [] kvs)))) := by
  intro pins s σ H xs us Q I r q
  obtain ⟨a, ps, kvs, rfl, hq, hp, q⟩ := q
  obtain ⟨u, rfl, rx⟩ := vals1 r
  cases rx
  obtain ⟨its, rv, pl, hz⟩ := plain_seq I hq
  have ei := refs_at rv
  subst ei
  rw [List.length_map] at hz
  obtain ⟨prs, qs, rel, hl, hl2, hpr⟩ := pairs2 I hp
  have P := PairArg.tuple (prog := X.prog) (w := X.w) a (ps.map Value.ref).toArray (fun j => ps.getD j 0) qs
  refine PySem.call_dict_pairs (knd := mixKind X.prog X.w) (kvs := prs) P (I.ok.hd hcalm) ⟨pl, by simp [hl2], fun j k v e => ?_⟩ ⟨by rw [hl, hl2], fun j k v e => ?_⟩ (by rw [hl2]; exact hz) fun h' tk hd' k => ?_
  · obtain ⟨b, k', e1, e2, e3, e4⟩ := hpr j _ e
    obtain ⟨o, ho, hc, n, hd⟩ := e3
    exact ⟨by simp [e1], .inl (by simp only [List.getD_eq_getElem?_getD, e1]; exact ⟨o, ho, hc, n, hd⟩)⟩
  · obtain ⟨b, k', e1, e2, e3, e4⟩ := hpr j _ e
    exact ⟨k', e2, e4⟩
  · have hm : (s.heap.objs.size == sysModules) = false := beq_eq_false_iff_ne.mpr (Nat.ne_of_gt I.big)
    have hlen : (mergeK [] kvs).length ≤ sizeLine := by
      refine Nat.le_trans (length_mergeK kvs []) ?_
      rw [List.length_nil, Nat.zero_add, rel.length, hl]
      exact hz
    exact ⟨.ref s.heap.objs.size, upd H s.heap.objs.size (.dK (mergeK [] kvs)), I.laid (t' := tk) (fun b o e => k b o (fun z => nomatch z) e) (Nat.le_refl _) (show ObjOk X.prog X.w _ _ _ (.dK (mergeK [] kvs)) from ⟨hlen, hm, merged [] prs, KV.merge rel .nil, hd'⟩), rfl, q _ (I.hok.fresh (Nat.le_refl _))⟩
end
section
variable {K : PySem.W.Frag} {m : List Addr} {H : Hp}
theorem DRel1.put {kvs : List (D × D)} {us : List (Key × V)} (q : DRel1 K m H kvs us) {d : D} {v : V} (rv : RD K m H d v) (w : Key) : DRel1 K m H (dPut kvs (keyD w) d) (putK us w v) := by
  unfold dPut putK
  have ea : (dGet kvs (keyD w)).isSome = (us.any fun kv => decide (kv.1 = w)) := by
    have z := get1 q w
    rw [valV_any]
    cases h1 : dGet kvs (keyD w) <;> cases h2 : valV us w <;> rw [h1, h2] at z <;> first | rfl | exact z.elim
  rw [ea]
  split
  · have go : ∀ {kvs us}, DRel1 K m H kvs us → DRel1 K m H (kvs.map fun p => if p.1 = keyD w then (p.1, d) else p) (us.map fun kv => if kv.1 = w then (kv.1, v) else kv) := fun {kvs us} r => by
      induction r with
      | nil => exact .nil
      | @cons p u ps us h t ih =>
        refine .cons ?_ ih
        simp only []
        by_cases e : u.1 = w
        · rw [if_pos e, if_pos (by rw [h.1, e])]
          exact ⟨h.1, rv⟩
        · rw [if_neg e, if_neg (by rw [h.1]; exact fun z => e (keyD_inj z))]
          exact h
    exact go q
  · exact Paired.snoc q ⟨rfl, rv⟩
def mergeD (acc ps : List (D × D)) : List (D × D) := ps.foldl (fun acc p => dPut acc p.1 p.2) acc
theorem DRel1.merge {ps : List (D × D)} {kvs : List (Key × V)} (r : DRel1 K m H ps kvs) : ∀ {acc : List (D × D)} {us : List (Key × V)}, DRel1 K m H acc us → DRel1 K m H (mergeD acc ps) (mergeK us kvs) := by
  induction r with
  | nil => exact fun q => q
  | @cons p q ps kvs h t ih =>
    intro acc us z
    have e := ih (z.put h.2 q.1)
    rw [← h.1] at e
    exact e
/-- a pair whose first is a number or a text -/
def pairD (d : D) : Option (D × D) := match d with
  | .tup [k, v] => if k.flatK then some (k, v) else none
  | _ => none
def pairsD : List D → Option (List (D × D))
  | [] => some []
  | d :: ds => match pairD d, pairsD ds with
    | some p, some ps => some (p :: ps)
    | _, _ => none
theorem pairsD_read : ∀ {ds : List D} {vs : List V} {ps : List (D × D)}, RDs K m H ds vs → pairsD ds = some ps → ∃ (as : List Addr) (kvs : List (Key × V)), vs = as.map V.ref ∧ Paired (fun p kv => SqT K H p [kV kv.1, kv.2]) as kvs ∧ DRel1 K m H ps kvs
  | _, _, _, .nil, e => by
    cases e
    exact ⟨[], [], rfl, .nil, .nil⟩
  | _, _, _, .cons (d := d) r rs, e => by
    unfold pairsD at e
    split at e
    · rename_i p ps hp hps
      cases e
      obtain ⟨as, kvs, rfl, q1, q2⟩ := pairsD_read rs hps
      unfold pairD at hp
      split at hp
      · rename_i k v
        split at hp
        · rename_i hf
          cases hp
          cases r with
          | tup sq r2 =>
            cases r2 with
            | cons rk r3 =>
              cases r3 with
              | cons rv r4 =>
                cases r4
                obtain ⟨w, e1, e2⟩ := flatK_of hf rk
                subst e2
                exact ⟨_ :: as, (w, _) :: kvs, rfl, .cons sq.sq q1, .cons ⟨e1, rv⟩ q2⟩
        · cases hp
      · cases hp
    · cases e
end
section
variable {X : Cx}
def gDict : SM1 := fun ds st => match pairsD ds with
  | some ps => .ok (.ref st.length) (st ++ [.dct (mergeD [] ps)])
  | none => .bad
theorem s_dict (hc : X.calm = true) : CallS X (.type "dict") gDict := ⟨_, (call_dictP hc).or (call_dictT hc), fun m st H ds v E Q hS r hP => by
  obtain ⟨a, vs, rfl, q, rs⟩ := r
  unfold gDict at hP
  split at hP
  · rename_i ps hps
    obtain ⟨as, kvs, rfl, q1, q2⟩ := pairsD_read rs hps
    have fin : ∀ p, H p = none → Q (.ref p) (upd H p (.dK (mergeK [] kvs))) := fun p hp => by
      refine hP (m ++ [p]) _ _ (Ext.app hp) (hS.app hp (.inl ⟨_, upd_same, DRel1.kp (DRel1.merge q2 .nil) (Ext.app hp).toKp⟩)) (.ref ?_)
      rw [← hS.len]
      simp
    rcases q with q | q
    · exact .inl ⟨a, as, kvs, rfl, q, q1, fin⟩
    · exact .inr ⟨a, as, kvs, rfl, q, q1, fin⟩
  · exact hP.elim⟩
end
theorem bt_dict : bootBuiltins "dict" = some (.type "dict") := by decide +kernel
end HM

/-! HM, part Y: more of what holds behind a run. -/
namespace HM
open PySem PySem.Spec PyProof.Rows L2
/-- what is to hold is kept from the simplifier -/
theorem W.opq {α : Type} {r : ER α} {Q : α → Store → Prop} (h : ∀ Q' : α → Store → Prop, (∀ a s, Q a s → Q' a s) → W r Q') : W r Q := h Q fun _ _ h => h
section
variable {g : EM Bool} {u v w : SM} {τ : Sl} {st s1 : Store} {N : Sl → Store → Prop} {R : D → Store → Prop} {B C : Sl → Store → Prop}
/-- an if whose test changes the store -/
theorem ws_ifd (P : Bool → Store → Prop) (h : W (g τ st) P) (k1 : ∀ s, P true s → WS (u τ s) N R B C) (k2 : ∀ s, P false s → WS (v τ s) N R B C) : WS (sIf g u v τ st) N R B C := by
  rw [sIf_e, WS_bindE]
  refine h.mono fun b s hp => ?_
  cases b with
  | true => exact k1 s hp
  | false => exact k2 s hp
/-- a test that must be passed: if not g: return False -/
theorem ws_must {f : EM D} (P : Store → Prop) (h : W (f τ st) fun d s => d = .bl true ∧ P s) (k : ∀ s, P s → N τ s) : WS (sIf (HM.tNot (tVal f)) u sNil τ st) N R B C := by
  rw [sIf_e, WS_bindE, tNot_e, tVal_e]
  rw [W_bind, W_bind]
  refine h.mono fun d s hp => ?_
  obtain ⟨rfl, hp⟩ := hp
  simpa using k s hp
theorem ws_forD {fi : EM Sq} {set : D → Sl → Option Sl} (P : Sq → Store → Prop) (h : W (fi τ st) P) (k : ∀ q s, P q s → WS (forL q set u q.items τ s) N R B C) : WS (sFor fi set u τ st) N R B C := by
  rw [sFor_e, WS_bindE]
  exact h.mono k
theorem ws_set {i : Nat} {f : EM D} (h : W (f τ st) fun d s => N (τ.set i (some d)) s) : WS (sSet i f τ st) N R B C := by
  rw [sSet_e, WS_bindE]
  exact h
theorem ws_ret {f : EM D} (h : W (f τ st) R) : WS (sRet f τ st) N R B C := by
  rw [sRet_e, WS_bindE]
  exact h
theorem ws_expr {f : EM D} (h : W (f τ st) fun _ s => N τ s) : WS (sExpr f τ st) N R B C := by
  rw [sExpr_e, WS_bindE]
  exact h
/-- a name bound to a comprehension's list -/
theorem ws_setLc {i : Nat} {own : List Nat} {fi : EM Sq} {set : D → Sl → Option Sl} {ft : EM Bool} {fe : EM D} (P : Sq → Store → Prop) (h : W (fi τ st) P) (hl : ∀ q s, P q s → q.items.length ≤ 16777216)
    (k : ∀ q s, P q s → W (compL q set ft fe (wipeD τ own) q.items [] s) fun ys s1 => N (τ.set i (some (.ref s1.length))) (s1 ++ [.lst ys])) : WS (sSet i (eEl (lComp own fi set ft fe)) τ st) N R B C := by
  refine ws_set ?_
  rw [eEl_e, W_bind, lComp_e, W_bind]
  refine h.mono fun q s hp => w_lc (hl q s hp) ?_
  exact k q s hp
end
section
variable {q : Sq} {set : D → Sl → Option Sl} {u : SM} {N : Sl → Store → Prop} {R : D → Store → Prop} {B C : Sl → Store → Prop}
/-- a loop that returns the first that fits -/
theorem ws_find {α : Type} (g : α → D) (p : α → Bool) (I : Sl → Prop) (J : Store → Prop) (hc : ∀ st, J st → q.chk st = true) : ∀ (xs : List α) (ds : List D) (τ : Sl) (st : Store), ds = xs.map g → I τ → J st →
    (∀ a ∈ xs, ∀ τ st, I τ → J st → ∃ τ1, set (g a) τ = some τ1 ∧ WS (u τ1 st) (fun τ s => p a = false ∧ I τ ∧ J s) (fun d s => p a = true ∧ d = g a ∧ J s) (fun _ _ => False) (fun τ s => p a = false ∧ I τ ∧ J s)) →
    (∀ τ s, xs.find? p = none → I τ → J s → N τ s) → (∀ a s, xs.find? p = some a → J s → R (g a) s) → WS (forL q set u ds τ st) N R B C
  | [], ds, τ, st, hd, h0, j0, _, kN, _ => by
    subst hd
    rw [List.map_nil, forL, if_pos (hc st j0)]
    exact kN τ st rfl h0 j0
  | a :: xs, ds, τ, st, hd, h0, j0, hs, kN, kR => by
    subst hd
    obtain ⟨τ1, e1, h1⟩ := hs a (List.mem_cons_self ..) τ st h0 j0
    rw [List.map_cons, forL, if_pos (hc st j0), e1]
    simp only
    have go : ∀ τ s, (p a = false ∧ I τ ∧ J s) → WS (forL q set u (xs.map g) τ s) N R B C := fun τ s ⟨hp, h2, h3⟩ =>
      ws_find g p I J hc xs _ τ s rfl h2 h3 (fun b hb => hs b (List.mem_cons_of_mem _ hb)) (fun τ s h => kN τ s (by rw [List.find?_cons_of_neg (by rw [hp]; decide)]; exact h)) (fun a' s h => kR a' s (by rw [List.find?_cons_of_neg (by rw [hp]; decide)]; exact h))
    generalize u τ1 st = r at h1
    cases r with
    | nx τ s => exact go τ s h1
    | ct τ s => exact go τ s h1
    | rt d s =>
      obtain ⟨hp, rfl, h3⟩ := h1
      exact kR a s (by rw [List.find?_cons_of_pos hp]) h3
    | _ => exact h1.elim
end
/-! dicts of one pair; sorted -/
section
variable {τ : Sl} {st : Store} {f g : EM D} {n : Nat} {xs : List D} {kvs : List (D × D)}
@[simp] theorem eDct1_e : eDct1 f g τ st = (f τ st).bind fun k s1 => (g τ s1).bind fun v s2 => if k.flatK || k.tupQ then .ok (.ref s2.length) (s2 ++ [.dct [(k, v)]]) else .bad := rfl
theorem fSorted_ref (h : lstAt st n = some xs) : fSorted [.ref n] st = gSorted xs st := by simp [fSorted, dSeq, h]
@[simp] theorem fSorted_tup : fSorted [.tup xs] st = gSorted xs st := rfl
theorem fSorted_dct (h : dctAt st n = some kvs) : fSorted [.ref n] st = gSorted (kvs.map (·.1)) st := by
  have := lst_dct h
  simp [fSorted, dSeq, this, h]
end
end HM

/-! HM, part RP: a tuple, any number of times. -/
namespace HM
open PySem PySem.Spec PyProof.Rows L2
theorem mul_same (l : Addr) (items : Array Value) (n : Nat) (dd : Option Addr) (sl : Array (Option Value)) (x : Int) (u : Tok) (c0 : (decide (x < -(2 ^ 63)) || decide (x ≥ 2 ^ 63)) = false) (c1 : (items.isEmpty || x == 1) = true) :
    Meets (Builtin.«tuple.__mul__» ⟨[.ref l, .int x u], []⟩) (fun _ R s => s.heap.get? l = some { cls := .type "tuple", dict := dd, data := .seq items n, slots := sl } ∧ R (.ok (.ret (Value.ref l))) s) :=
  .of_wp fun prog w A R s h => by
    obtain ⟨hp, g, d, tk, os⟩ := s
    obtain ⟨hl, h⟩ := h
    have f1 := AutoSeq1.idx_int
    wp_walk using wpAny_loadPart' hl
    repeat (first
      | (refine wpAny_ite_false (decide_eq_false (by rw [c0]; exact Bool.false_ne_true)) ?_; wp_walk using wpAny_loadPart' hl)
      | (refine wpAny_ite_true (decide_eq_true (by rw [c1])) ?_; wp_walk using wpAny_loadPart' hl))
    exact ⟨_, rfl, h⟩
theorem mul_none (l : Addr) (items : Array Value) (n : Nat) (dd : Option Addr) (sl : Array (Option Value)) (x : Int) (u : Tok) (c0 : (decide (x < -(2 ^ 63)) || decide (x ≥ 2 ^ 63)) = false) (c1 : (items.isEmpty || x == 1) = false) (c2 : (decide (x ≤ 0) || items.isEmpty) = true) :
    Meets (Builtin.«tuple.__mul__» ⟨[.ref l, .int x u], []⟩) (fun _ R s => s.heap.get? l = some { cls := .type "tuple", dict := dd, data := .seq items n, slots := sl } ∧ R (.ok (.ret (Value.ref s.heap.objs.size))) { s with heap := s.heap.push { cls := Value.type "tuple", data := Data.seq #[] }, toks := s.toks }) :=
  .of_wp fun prog w A R s h => by
    obtain ⟨hp, g, d, tk, os⟩ := s
    obtain ⟨hl, h⟩ := h
    have f1 := AutoSeq1.idx_int
    wp_walk using wpAny_loadPart' hl
    repeat (first
      | (refine wpAny_ite_false (decide_eq_false (by rw [c0]; exact Bool.false_ne_true)) ?_; wp_walk using wpAny_loadPart' hl)
      | (refine wpAny_ite_false (decide_eq_false (by rw [c1]; exact Bool.false_ne_true)) ?_; wp_walk using wpAny_loadPart' hl)
      | (refine wpAny_ite_true (decide_eq_true (by rw [c2])) ?_; wp_walk using wpAny_loadPart' hl))
    exact ⟨_, rfl, h⟩
/-- a tuple, once or never, or the empty one -/
def rRepLow (K : PySem.W.Frag) : R2 := fun x y H Q => ∃ l k xs, x = .ref l ∧ y = .int k ∧ SqT K H l xs ∧ -1000 ≤ k ∧ k ≤ 1000 ∧ xs.length ≤ 1000 ∧ (((xs = [] ∨ k = 1) ∧ Q (.ref l) H) ∨ ((xs ≠ [] ∧ k ≤ 0) ∧ TNew Q H []))
section
variable {X : Cx} {W : WX}
theorem op_repLow : OpR X (binaryOp .Mult) (rRepLow X.K) := by
  intro pins s σ H x y v u Q I rx ry h
  obtain ⟨l, k, xs, rfl, rfl, hT, h1, h2, hz, h3⟩ := h
  cases rx
  obtain ⟨t, rfl⟩ := ry
  obtain ⟨its, r, ⟨⟨cls, dd, data, sl⟩, ho, hc, n, hd⟩, hs⟩ := I.tuple hT
  simp only at hc hd
  subst hc hd
  have hle : its.length = xs.length := r.length.symm
  have c0 : (decide (k < -(2 ^ 63)) || decide (k ≥ 2 ^ 63)) = false := by
    rw [decide_eq_false (by omega), decide_eq_false (by omega)]
    rfl
  have emp : its.toArray.isEmpty = decide (xs = []) := by
    cases its with
    | nil =>
      rw [List.eq_nil_of_length_eq_zero hle.symm]
      rfl
    | cons a b =>
      cases xs with
      | nil => cases hle
      | cons c d => rfl
  rcases h3 with ⟨h3, q⟩ | ⟨h3, q⟩
  · have c1 : (its.toArray.isEmpty || k == 1) = true := by
      rw [emp]
      rcases h3 with e | e
      · rw [e]; rfl
      · rw [e]; simp
    refine wpAny_binaryOp_repeat_ref (T := "tuple") (U := "int") (by decide) ⟨_, ho, rfl⟩ (fun s' => typeIs_int s' k t) noFill_tuple_mul F.fills_int_mul F.slot_int_rmul repeat_tuple F.slot_int_index.lookup
      (call_meets F.slot_int_rmul (typeIs_int s k t) F.entry_int_rmul (F.args_int_rmul_2 _ _) (int_rmul_tuple k t l its.toArray n dd sl)
        ⟨ho, rfl, ⟨_, ho, rfl⟩, call_meets F.slot_tuple_mul ⟨_, ho, rfl⟩ F.entry_tuple_mul (F.args_tuple_mul_2 _ _) (mul_same l its.toArray n dd sl k t c0 c1) ⟨ho, ?_⟩⟩)
    exact ⟨.ref l, H, I, rfl, q⟩
  · have c1 : (its.toArray.isEmpty || k == 1) = false := by
      rw [emp, decide_eq_false h3.1, Bool.false_or]
      exact beq_eq_false_iff_ne.mpr (by omega)
    have c2 : (decide (k ≤ 0) || its.toArray.isEmpty) = true := by
      rw [decide_eq_true h3.2]
      rfl
    refine wpAny_binaryOp_repeat_ref (T := "tuple") (U := "int") (by decide) ⟨_, ho, rfl⟩ (fun s' => typeIs_int s' k t) noFill_tuple_mul F.fills_int_mul F.slot_int_rmul repeat_tuple F.slot_int_index.lookup
      (call_meets F.slot_int_rmul (typeIs_int s k t) F.entry_int_rmul (F.args_int_rmul_2 _ _) (int_rmul_tuple k t l its.toArray n dd sl)
        ⟨ho, rfl, ⟨_, ho, rfl⟩, call_meets F.slot_tuple_mul ⟨_, ho, rfl⟩ F.entry_tuple_mul (F.args_tuple_mul_2 _ _) (mul_none l its.toArray n dd sl k t c0 c1 c2) ⟨ho, ?_⟩⟩)
    refine ⟨.ref s.heap.objs.size, _, I.laid (t' := s.toks) (o := .frz _ (.tup [])) (fun b ob q => Heap.get?_push_of_some _ q) (Nat.le_refl _) ⟨Heap.get?_push_size _ rfl, ?_⟩, rfl, q _ _ ?_ (I.hok.fresh (Nat.le_refl _))⟩
    · exact ⟨by rw [PySem.sizeLine_eq]; decide, [], .nil, IsTup.new _ _⟩
    · rfl
def oMulX : O2 := fun x y st => match x, y with
  | .tup xs, .int k => if decide (-1000 ≤ k) && decide (k ≤ 1000) && decide (xs.length ≤ 1000) then .ok (.tup (repD k.toNat xs)) st else .bad
  | x, y => oMul x y st
theorem m_mulX : OpM X W (binaryOp .Mult) oMulX := fun m st σ H dx dy x y Q hS r1 r2 hP pins s v u I rx ry => by
  unfold oMulX at hP
  split at hP
  · rename_i xs k
    split at hP
    · rename_i hc
      refine (op_mulAll.or op_repLow) pins s σ H x y v u Q I rx ry ?_
      simp only [Bool.and_eq_true, decide_eq_true_eq] at hc
      obtain ⟨⟨h0, h1⟩, h2⟩ := hc
      cases r1 with
      | tup q rs =>
        cases r2
        rename_i vs
        have lv : vs.length ≤ 1000 := by rw [← rs.len]; exact h2
        by_cases e0 : xs = []
        · subst e0
          have ev : vs = [] := by cases rs; rfl
          have er : repD k.toNat ([] : List D) = [] := by
            unfold repD
            simp
          rw [er] at hP
          exact .inr ⟨_, _, _, rfl, rfl, q.sq, h0, h1, lv, .inl ⟨.inl ev, hP.now hS (.tup q rs)⟩⟩
        · have ev : vs ≠ [] := fun e => e0 (by subst e; cases rs; rfl)
          by_cases e1 : k = 1
          · subst e1
            have er : repD (1 : Int).toNat xs = xs := by
              unfold repD
              simp
            rw [er] at hP
            exact .inr ⟨_, _, _, rfl, rfl, q.sq, h0, h1, lv, .inl ⟨.inr rfl, hP.now hS (.tup q rs)⟩⟩
          · by_cases e2 : k ≤ 0
            · have er : repD k.toNat xs = [] := by
                unfold repD
                rw [show k.toNat = 0 by omega]
                rfl
              rw [er] at hP
              exact .inr ⟨_, _, _, rfl, rfl, q.sq, h0, h1, lv, .inr ⟨⟨ev, e2⟩, hP.tup hS .nil⟩⟩
            · exact .inl (.inr (.inr ⟨_, _, _, rfl, rfl, q.sq, ev, by omega, h1, lv, hP.tup hS (rs.rep _)⟩))
    · exact hP.elim
  · exact m_mul m st σ H _ _ x y Q hS r1 r2 hP pins s v u I rx ry
end
@[simp] theorem oMulX_tup {xs : List D} {k : Int} {st : Store} : oMulX (.tup xs) (.int k) st = if decide (-1000 ≤ k) && decide (k ≤ 1000) && decide (xs.length ≤ 1000) then .ok (.tup (repD k.toNat xs)) st else .bad := rfl
end HM

/-! HM, part SA: sets of nested keys: what a search asks of a key. -/
namespace HM
open PySem PySem.Spec PyProof.Rows L2
/-- a key at an address -/
def KA (h : Heap) (k : NestedKey) (b : Addr) : Prop := NestedIs h k (.ref b) ∧ k.depth ≤ 8
theorem KA.one {h : Heap} {k k2 : NestedKey} {b : Addr} (x : KA h k b) (y : KA h k2 b) : k = k2 := NestedIs.inj _ _ _ x.1 y.1
theorem KA.grow {h h2 : Heap} {k : NestedKey} {b : Addr} (x : KA h k b) (g : ∀ c o, h.get? c = some o → h2.get? c = some o) : KA h2 k b := ⟨NestedIs.at (fun c o _ _ e _ => g c o e) k _ x.1, x.2⟩
/-- what is written into a set leaves the key -/
theorem KA.past {h h2 : Heap} {k : NestedKey} {b a : Addr} {o : Obj} {es : Array (Int × Value)} {ep : Nat} {t : SetTable} (x : KA h k b) (ho : h.get? a = some o) (hd : o.data = .set es ep t) (g : Heap.SameBut a h h2) : KA h2 k b :=
  ⟨NestedIs.at (fun c q vs n e1 e2 => by
    refine (g.2 c fun e => ?_).trans e1
    subst e
    cases ho.symm.trans e1
    rw [hd] at e2
    cases e2) k _ x.1, x.2⟩
section
variable {Pg : Program} {Wo : World} {Ar : Around} {Er : Value → Shared → Prop} {sh : Shared}
theorem items_key {h : Heap} : ∀ {ks : List NestedKey} {vs : List Value}, NestedAll h ks vs → ∀ v ∈ vs, ∃ k ∈ ks, NestedIs h k v
  | _, _, .nil, _, hv => nomatch hv
  | _, _, .cons x r, v, hv => by
    rcases List.mem_cons.mp hv with e | hv
    · exact ⟨_, List.mem_cons_self, e ▸ x⟩
    · obtain ⟨k, hk, hn⟩ := items_key r v hv
      exact ⟨k, List.mem_cons_of_mem _ hk, hn⟩
theorem depth_in : ∀ {ks : List NestedKey} {k : NestedKey}, k ∈ ks → k.depth ≤ NestedKey.depthAll ks
  | k0 :: ks, k, hk => by
    simp only [NestedKey.depthAll]
    rcases List.mem_cons.mp hk with e | hk
    · subst e
      omega
    · have := depth_in hk
      omega
/-- whether a hash is by value: some answer, and nothing else -/
theorem hashBy_any : ∀ (n : Nat) (sh : Shared) (k : NestedKey) (v : Value) (Q : Bool → Shared → Prop), NestedIs sh.heap k v → (∀ b, Q b sh) → wpAny (model Pg Wo) Ar (hashByValue n v) Q Er sh
  | n, sh, _, _, Q, .none, hq => by
    have e : hashByValue n .none = pure true := by cases n <;> rfl
    rw [e]
    exact wpAny_pure (hq true)
  | n, sh, _, _, Q, .bool _, hq => by
    rename_i b _ _
    have e : hashByValue n (.bool b) = pure true := by cases n <;> rfl
    rw [e]
    exact wpAny_pure (hq true)
  | n, sh, _, _, Q, .int i t, hq => by
    have e : hashByValue n (.int i t) = pure true := by cases n <;> rfl
    rw [e]
    exact wpAny_pure (hq true)
  | n, sh, _, _, Q, .text x t, hq => by
    have e : hashByValue n (.str x t) = pure false := by cases n <;> rfl
    rw [e]
    exact wpAny_pure (hq false)
  | 0, sh, _, _, Q, .tup _ _ _ _, hq => by
    rename_i a _ _ _ _ _ _ _ _
    have e : hashByValue 0 (.ref a) = pure false := rfl
    rw [e]
    exact wpAny_pure (hq false)
  | n + 1, sh, _, _, Q, .tup ho hc hd hi, hq => by
    rename_i a o vs m ks
    have hT : sh.TypeIs (.ref a) "tuple" := ⟨o, ho, hc⟩
    unfold hashByValue
    refine wpAny_bind (wpAny_specialOf hT F.slot_tuple_hash.lookup ?_)
    show wpAny _ _ (seqItems? (.ref a) >>= _) _ _ sh
    refine wpAny_bind (wpAny_seqItems ho hd ?_)
    refine wpAny_bind ?_
    show wpAny _ _ (forIn vs _ _) _ _ sh
    rw [← Array.forIn_toList]
    refine wpAny_forIn_list _ (fun rest r s' => r.1 = none ∧ s' = sh ∧ ∀ v ∈ rest, ∃ k, NestedIs sh.heap k v) _ ?_ ?_ _ _ ⟨rfl, rfl, fun v hv => let ⟨k, _, h⟩ := items_key hi v hv; ⟨k, h⟩⟩
    · rintro v rest r s' ⟨hr, rfl, hall⟩
      obtain ⟨k, hk⟩ := hall v List.mem_cons_self
      refine wpAny_bind (hashBy_any n _ k v _ hk fun b => ?_)
      cases b with
      | true =>
        simp only [Bool.not_true, Bool.false_eq_true, if_false]
        exact wpAny_pure ⟨rfl, rfl, fun u hu => hall u (List.mem_cons_of_mem _ hu)⟩
      | false =>
        simp only [Bool.not_false, if_true]
        refine wpAny_pure ?_
        exact wpAny_pure (hq false)
    · rintro ⟨r1, r2⟩ s' ⟨hr, rfl, _⟩
      simp only at hr
      subst hr
      exact wpAny_pure (hq true)
theorem ofA_no : ∀ (n : Nat) (sh : Shared) (k : NestedKey) (v : Value) (Q : Bool → Shared → Prop), NestedIs sh.heap k v → k.depth ≤ n → Q false sh → wpAny (model Pg Wo) Ar (ofAClassStatement n v) Q Er sh
  | n, sh, _, _, Q, .none, _, hq => by
    have e : ofAClassStatement n .none = pure false := by cases n <;> rfl
    rw [e]
    exact wpAny_pure hq
  | n, sh, _, _, Q, .bool _, _, hq => by
    rename_i b _ _ _
    have e : ofAClassStatement n (.bool b) = pure false := by cases n <;> rfl
    rw [e]
    exact wpAny_pure hq
  | n, sh, _, _, Q, .int i t, _, hq => by
    have e : ofAClassStatement n (.int i t) = pure false := by cases n <;> rfl
    rw [e]
    exact wpAny_pure hq
  | n, sh, _, _, Q, .text x t, _, hq => by
    have e : ofAClassStatement n (.str x t) = pure false := by cases n <;> rfl
    rw [e]
    exact wpAny_pure hq
  | 0, sh, _, _, Q, .tup _ _ _ _, hn, hq => by
    simp only [NestedKey.depth] at hn
    omega
  | n + 1, sh, _, _, Q, .tup ho hc hd hi, hn, hq => by
    rename_i a o vs m ks
    simp only [NestedKey.depth] at hn
    have hT : sh.TypeIs (.ref a) "tuple" := ⟨o, ho, hc⟩
    unfold ofAClassStatement
    refine wpAny_bind (wpAny_typeOf hT ?_)
    dsimp only
    have e : (("tuple" : String) == "tuple") = true := by decide
    simp only [e, if_true, Bool.not_true, Bool.false_eq_true, if_false]
    try refine wpAny_bind (wpAny_pure ?_)
    try simp only [Bool.not_true, Bool.false_eq_true, if_false]
    show wpAny _ _ (seqItems? (.ref a) >>= _) _ _ sh
    refine wpAny_bind (wpAny_seqItems ho hd ?_)
    dsimp only
    refine wpAny_bind ?_
    show wpAny _ _ (forIn vs _ _) _ _ sh
    rw [← Array.forIn_toList]
    refine wpAny_forIn_list _ (fun rest r s' => r.1 = none ∧ s' = sh ∧ ∀ v ∈ rest, ∃ k, NestedIs sh.heap k v ∧ k.depth ≤ n) _ ?_ ?_ _ _ ⟨rfl, rfl, fun v hv => let ⟨k, hk, h⟩ := items_key hi v hv; ⟨k, h, by have := depth_in hk; omega⟩⟩
    · rintro v rest r s' ⟨hr, rfl, hall⟩
      obtain ⟨k, hk, hdk⟩ := hall v List.mem_cons_self
      refine wpAny_bind (ofA_no n _ k v _ hk hdk ?_)
      simp only [Bool.false_eq_true, if_false]
      exact wpAny_pure ⟨rfl, rfl, fun u hu => hall u (List.mem_cons_of_mem _ hu)⟩
    · rintro ⟨r1, r2⟩ s' ⟨hr, rfl, _⟩
      simp only at hr
      subst hr
      exact wpAny_pure hq
/-- a search among keys can't be seen -/
theorem unseen {k : NestedKey} {x : Addr} {Q : Bool → Shared → Prop} (hx : KA sh.heap k x) {ys : List Value} (hy : ∀ y ∈ ys, ∃ k2 c, y = Value.ref c ∧ KA sh.heap k2 c) (hq : Q false sh) :
    wpAny (model Pg Wo) Ar (searchCouldBeSeen (.ref x) ys) Q Er sh := by
  have qt : ∀ {k2 : NestedKey} {c : Addr}, KA sh.heap k2 c → ∀ Q' : Bool → Shared → Prop, Q' true sh → wpAny (model Pg Wo) Ar (eqIsQuiet 8 (.ref c)) Q' Er sh := fun z Q' hq' => quiet_key _ _ 8 sh z.1 z.2 Ar Er Q' hq'
  unfold searchCouldBeSeen
  refine wpAny_bind ?_
  refine wpAny_forIn_list _ (fun rest r s' => r.1 = none ∧ s' = sh ∧ ∀ y ∈ rest, ∃ k2 c, y = Value.ref c ∧ KA sh.heap k2 c) _ ?_ ?_ _ _ ⟨rfl, rfl, hy⟩
  · rintro v rest r s' ⟨hr, rfl, hall⟩
    obtain ⟨k2, c, rfl, hc⟩ := hall v List.mem_cons_self
    have more : ∀ y ∈ rest, ∃ k2 c, y = Value.ref c ∧ KA s'.heap k2 c := fun u hu => hall u (List.mem_cons_of_mem _ hu)
    dsimp only
    by_cases hv : (x == c || (carriedByValue (.ref x) && carriedByValue (.ref c))) = true
    · exact wp_if_pos hv (wpAny_pure ⟨rfl, rfl, more⟩)
    · refine wp_if_neg hv (wpAny_bind (qt hx _ ?_))
      simp only [Bool.not_true, Bool.false_eq_true, if_false]
      refine wpAny_bind (qt hc _ ?_)
      simp only [Bool.not_true, Bool.false_eq_true, if_false]
      refine wpAny_bind (ofA_no 8 _ k _ _ hx.1 hx.2 ?_)
      simp only [Bool.false_eq_true, if_false]
      refine wpAny_bind (ofA_no 8 _ k2 _ _ hc.1 hc.2 ?_)
      simp only [Bool.false_eq_true, if_false]
      exact wpAny_pure ⟨rfl, rfl, more⟩
  · rintro ⟨r1, r2⟩ s' ⟨hr, rfl, _⟩
    simp only at hr
    subst hr
    exact wpAny_pure hq
end
end HM

/-! HM, part SB: sets of nested keys: the search, adding. -/
namespace HM
open PySem PySem.Spec PyProof.Rows L2
/-- what the table holds of the elements -/
def ents (Wo : World) (L : List (Addr × NestedKey)) : List (Int × Value) := L.map fun q => (q.2.hash Wo, Value.ref q.1)
def hsh (Wo : World) (L : List (Addr × NestedKey)) : List Int := L.map fun q => q.2.hash Wo
/-- the set at a has the elements L, in the order of its table -/
structure NS (Wo : World) (h : Heap) (a : Addr) (L : List (Addr × NestedKey)) (es : Array (Int × Value)) (ep : Nat) (t : SetTable) : Prop where
  cell : ∃ o, h.get? a = some o ∧ o.ExactSet ∧ o.data = .set es ep t
  list : es.toList = ents Wo L
  table : TabOk t (hsh Wo L)
  once : (L.map (·.2)).Nodup
  keys : ∀ q ∈ L, KA h q.2 q.1
  known : Wo.params.followText "set-order" = true ∨ t.led = true
  free : L.length * 5 < t.mask * 3
  small : L.length < 64
section
variable {Pg : Program} {Wo : World} {Ar : Around} {Er : Value → Shared → Prop} {sh : Shared} {a x : Addr} {k : NestedKey} {L : List (Addr × NestedKey)} {es : Array (Int × Value)} {ep : Nat} {t : SetTable}
theorem ents_len {L : List (Addr × NestedKey)} {es : Array (Int × Value)} (h : es.toList = ents Wo L) : es.size = L.length := by
  rw [← Array.length_toList, h]
  exact List.length_map ..
theorem NS.room (N : NS Wo sh.heap a L es ep t) : t.fits es.size = true := by
  have h1 := N.table.sz
  have h2 := ents_len N.list
  have h3 := N.free
  rw [show (hsh Wo L).length = L.length from List.length_map ..] at h1
  unfold SetTable.fits SetTable.fill
  rw [N.table.dm]
  simp
  omega
theorem NS.at {i : Nat} {q : Addr × NestedKey} (N : NS Wo sh.heap a L es ep t) (h : L[i]? = some q) : es[i]? = some (q.2.hash Wo, Value.ref q.1) := by
  rw [← Array.getElem?_toList, N.list]
  unfold ents
  rw [List.getElem?_map, h]
  rfl
theorem NS.stays (N : NS Wo sh.heap a L es ep t) : ¬ t.gaveWay = true := by
  unfold SetTable.gaveWay
  rw [mask_odd N.table.mok]
  simp
theorem nth_dummy (m : Nat) : ∀ (n : Nat) (z : SetTable.Probe), z.dummy = none → (nth m z n).dummy = none
  | 0, _, h => h
  | n + 1, z, h => nth_dummy m n (adv m z) (by unfold adv; split <;> exact h)
/-- where a search begins -/
abbrev beg (Wo : World) (t : SetTable) (k : NestedKey) : SetTable.Probe := runAt t.mask (SetTable.bits (k.hash Wo) % (t.mask + 1)) (SetTable.bits (k.hash Wo))
theorem seek (N : NS Wo sh.heap a L es ep t) (hx : KA sh.heap k x) (hu : Ar.units + 8 < cLine) {e : Nat} (he1 : e < 10 * SetTable.turns t.mask) (he2 : way t.mask (k.hash Wo) e ∉ t.place.toList) (he3 : ∀ c, c < e → way t.mask (k.hash Wo) c ∈ t.place.toList)
    {Q : SetFound → Shared → Prop} (yes : k ∈ L.map (·.2) → Q (.there none) sh) (no : k ∉ L.map (·.2) → Q (.free (way t.mask (k.hash Wo) e) false) sh) :
    ∀ (f c : Nat) (at0 : Option SetTable.Probe), at0.getD (t.probeStart (k.hash Wo)) = nth t.mask (beg Wo t k) c → c ≤ e → e < f + c →
      (∀ (i : Nat) q, L[i]? = some q → q.2 = k → ∃ c2, c ≤ c2 ∧ c2 < e ∧ t.place.toList[i]? = some (way t.mask (k.hash Wo) c2)) →
      wpAny (model Pg Wo) Ar (setSearchFrom a (.ref x) (k.hash Wo) true f at0) Q Er sh
  | 0, c, _, _, h1, h2, _ => absurd h2 (by omega)
  | f + 1, c, at0, h0, h1, h2, h3 => by
    obtain ⟨o, ho, hex, hd⟩ := N.cell
    rw [setSearchFrom_succ]
    refine wpAny_bind (wpAny_setState_of ho hd N.room ?_)
    dsimp only
    refine wp_if_neg N.stays ?_
    try refine wpAny_bind (wpAny_pure ?_)
    have j1 : ∀ n, (nth t.mask (nth t.mask (beg Wo t k) c) n).j = way t.mask (k.hash Wo) (c + n) := fun n => congrArg SetTable.Probe.j (nth_add t.mask c _ n).symm
    have hashOf : ∀ (i : Nat) q, L[i]? = some q → (es[i]?.map (·.1)).getD 0 = q.2.hash Wo := fun i q hq => by
      rw [N.at hq]
      rfl
    rcases go_spec t N.table.ris N.table.dm (fun i => (es[i]?.map (·.1)).getD 0) (k.hash Wo) (10 * SetTable.turns t.mask) (e - c) (nth t.mask (beg Wo t k) c) (nth_dummy _ _ _ rfl) (by omega)
        (fun n hn => by rw [j1]; exact he3 _ (by omega)) (by rw [j1, show c + (e - c) = e by omega]; exact he2) with ⟨n, i, hn, hi, _, hno, met⟩ | ⟨hno, met⟩
    · rw [j1] at hi
      have met' : t.probe (fun i => (es[i]?.map (·.1)).getD 0) (k.hash Wo) (at0.getD (t.probeStart (k.hash Wo))) = some (.candidate (way t.mask (k.hash Wo) (c + n)) i (nth t.mask (beg Wo t k) (c + (n + 1)))) := by
        rw [h0, ← j1, nth_add t.mask c _ (n + 1)]
        exact met
      rw [met']
      dsimp only
      have hiL : i < L.length := by
        have z1 := (List.getElem?_eq_some_iff.mp hi).1
        have z2 := N.table.sz
        rw [show (hsh Wo L).length = L.length from List.length_map ..] at z2
        rw [Array.length_toList] at z1
        omega
      obtain ⟨q, hq⟩ : ∃ q, L[i]? = some q := ⟨_, List.getElem?_eq_getElem hiL⟩
      have hqm : q ∈ L := List.mem_of_getElem? hq
      have live : t.slot (way t.mask (k.hash Wo) (c + n)) = .live i := slot_live N.table.ris hi
      have onward : wpAny (model Pg Wo) Ar (searchRest a (.ref x) (k.hash Wo) true f es t (way t.mask (k.hash Wo) (c + n)) i (nth t.mask (beg Wo t k) (c + (n + 1)))) Q Er sh := by
        unfold searchRest
        rw [N.at hq]
        dsimp only
        refine wpAny_bind (wpAny_holding ((nestedKind Pg Wo).eqBool hu (N.keys q hqm) hx ?_))
        refine wpAny_bind (wpAny_setState_of ho hd N.room ?_)
        dsimp only
        by_cases eq : q.2 = k
        · exact wp_if_pos (by simp [eq]) (wpAny_pure (yes (List.mem_map.mpr ⟨q, hqm, eq⟩)))
        · refine wp_if_neg (by simp [eq]) ?_
          try refine wpAny_bind (wpAny_pure ?_)
          rw [sameMem]
          dsimp only
          simp only [if_true, live, N.at hq]
          refine wpAny_bind (wpAny_isSame_ref_self (wpAny_bind (wpAny_pure ?_)))
          simp only [if_true]
          refine wp_if_neg (by simp [eq]) ?_
          refine seek N hx hu he1 he2 he3 yes no f (c + (n + 1)) _ rfl (by omega) (by omega) fun i2 q2 z1 z2 => ?_
          obtain ⟨c2, y1, y2, y3⟩ := h3 i2 q2 z1 z2
          have hh : (es[i2]?.map (·.1)).getD 0 = k.hash Wo := by rw [hashOf i2 q2 z1, z2]
          refine ⟨c2, ?_, y2, y3⟩
          rcases Nat.lt_trichotomy c2 (c + n) with g | g | g
          · refine absurd hh (hno (c2 - c) i2 (by omega) ?_)
            rw [j1, show c + (c2 - c) = c2 by omega]
            exact y3
          · rw [g] at y3
            have l2 := slot_live N.table.ris y3
            rw [live] at l2
            injection l2 with l2
            rw [← l2, hq] at z1
            exact absurd ((congrArg Prod.snd (Option.some.inj z1)).trans z2) eq
          · omega
      by_cases hl : t.led = true
      · refine wp_if_neg (by simp [hl]) ?_
        try refine wpAny_bind (wpAny_pure ?_)
        exact onward
      · refine wp_if_pos (by simp [hl]) ?_
        refine wpAny_bind (unseen hx (fun y hy => ?_) ?_)
        · obtain ⟨z, hz, ez⟩ := List.mem_map.mp hy
          have hz1 : z ∈ es ∧ z.1 = k.hash Wo := by simpa using hz
          have hz2 : z ∈ es.toList := by simpa using hz1.1
          rw [N.list] at hz2
          obtain ⟨q2, hq2, e2⟩ := List.mem_map.mp hz2
          exact ⟨q2.2, q2.1, by rw [← ez, ← e2], N.keys q2 hq2⟩
        · refine wp_if_neg (by decide) ?_
          try refine wpAny_bind (wpAny_pure ?_)
          exact onward
    · have met' : t.probe (fun i => (es[i]?.map (·.1)).getD 0) (k.hash Wo) (at0.getD (t.probeStart (k.hash Wo))) = some (.empty (way t.mask (k.hash Wo) e) none) := by
        have z : way t.mask (k.hash Wo) e = (nth t.mask (nth t.mask (beg Wo t k) c) (e - c)).j := by rw [j1, show c + (e - c) = e by omega]
        rw [h0, z]
        exact met
      rw [met']
      dsimp only
      refine wpAny_pure (no fun hm => ?_)
      obtain ⟨q2, hq2, z2⟩ := List.mem_map.mp hm
      obtain ⟨i2, hi2, ei⟩ := List.getElem_of_mem hq2
      have z1 : L[i2]? = some q2 := by rw [List.getElem?_eq_getElem hi2, ei]
      obtain ⟨c2, y1, y2, y3⟩ := h3 i2 q2 z1 z2
      refine hno (c2 - c) i2 (by omega) ?_ (by show (es[i2]?.map (·.1)).getD 0 = _; rw [hashOf i2 q2 z1, z2])
      rw [j1, show c + (c2 - c) = c2 by omega]
      exact y3
/-- the search of adding -/
theorem seek0 (N : NS Wo sh.heap a L es ep t) (hx : KA sh.heap k x) (hu : Ar.units + 8 < cLine) {Q : SetFound → Shared → Prop} (yes : k ∈ L.map (·.2) → Q (.there none) sh)
    (no : ∀ e, k ∉ L.map (·.2) → way t.mask (k.hash Wo) e ∉ t.place.toList → (∀ c, c < e → way t.mask (k.hash Wo) c ∈ t.place.toList) → Q (.free (way t.mask (k.hash Wo) e) false) sh) :
    wpAny (model Pg Wo) Ar (setSearch a (.ref x) (k.hash Wo) true) Q Er sh := by
  have hf := N.free
  obtain ⟨e, he1, he2, he3⟩ := N.table.first (by rw [show (hsh Wo L).length = L.length from List.length_map ..]; omega) (k.hash Wo)
  have hb : e < 100000 := by
    have : 10 * SetTable.turns t.mask ≤ 1420 := by
      unfold SetTable.turns
      rcases N.table.mok with z | z | z <;> omega
    omega
  unfold setSearch
  refine seek N hx hu he1 he2 he3 yes (fun hn => no e hn he2 he3) 100000 0 none rfl (Nat.zero_le _) (by omega) fun i q hq hk => ?_
  have hh : (hsh Wo L)[i]? = some (k.hash Wo) := by
    unfold hsh
    rw [List.getElem?_map, hq, ← hk]
    rfl
  have hil : i < t.place.toList.length := by
    have z1 := (List.getElem?_eq_some_iff.mp hq).1
    have z2 := N.table.sz
    rw [show (hsh Wo L).length = L.length from List.length_map ..] at z2
    rw [Array.length_toList]
    omega
  have hj := List.getElem?_eq_getElem hil
  obtain ⟨c, hc, ec⟩ := N.table.before he2 hh hj
  exact ⟨c, Nat.zero_le _, hc, by rw [hj, ec]⟩
end
end HM

/-! HM, part SC: sets of nested keys: laid anew, adding. -/
namespace HM
open PySem PySem.Spec PyProof.Rows L2
theorem filterMap_map {α β : Type} {f : α → Option β} {g : α → β} : ∀ {l : List α}, (∀ i ∈ l, f i = some (g i)) → l.filterMap f = l.map g
  | [], _ => rfl
  | i :: l, h => by
    rw [List.filterMap_cons_some (h i List.mem_cons_self), List.map_cons, filterMap_map fun j hj => h j (List.mem_cons_of_mem _ hj)]
theorem range_getD {α : Type} {d : α} (l : List α) : (List.range l.length).map (fun i => l.getD i d) = l := by
  refine List.ext_getElem? fun i => ?_
  rw [List.getElem?_map]
  by_cases h : i < l.length
  · rw [List.getElem?_range h, List.getElem?_eq_getElem h]
    show some (l.getD i d) = _
    rw [List.getD_eq_getElem?_getD, List.getElem?_eq_getElem h]
    rfl
  · rw [List.getElem?_eq_none (by simp; omega), List.getElem?_eq_none (by omega)]
    rfl
section
variable {Pg : Program} {Wo : World} {Ar : Around} {Er : Value → Shared → Prop} {sh : Shared} {a x : Addr} {k : NestedKey} {L : List (Addr × NestedKey)} {es : Array (Int × Value)} {ep : Nat} {t : SetTable}
/-- the elements in another order -/
theorem reorder (L : List (Addr × NestedKey)) (es : Array (Int × Value)) (ord : Array Nat) (hl : es.toList = ents Wo L) (hp : ord.toList.Perm (List.range L.length)) :
    ∃ M, (ord.filterMap (es[·]?)).toList = ents Wo M ∧ M.Perm L ∧ hsh Wo M = ord.toList.map fun i => (es.map (·.1)).getD i 0 := by
  have hlen := ents_len hl
  have hin : ∀ i ∈ ord.toList, i < L.length := fun i hi => List.mem_range.mp (hp.mem_iff.mp hi)
  have hes : ∀ i, i < L.length → es[i]? = some ((L.getD i (0, .none)).2.hash Wo, Value.ref (L.getD i (0, .none)).1) := fun i hi => by
    rw [← Array.getElem?_toList, hl]
    unfold ents
    rw [List.getElem?_map, List.getElem?_eq_getElem hi, List.getD_eq_getElem?_getD, List.getElem?_eq_getElem hi]
    rfl
  refine ⟨ord.toList.map fun i => L.getD i (0, .none), ?_, ?_, ?_⟩
  · have e : (ord.filterMap (es[·]?)).toList = ord.toList.filterMap fun i => es[i]? := by simp
    rw [e, filterMap_map fun i hi => hes i (hin i hi)]
    unfold ents
    rw [List.map_map]
    rfl
  · have z := hp.map fun i => L.getD i (0, .none)
    rw [range_getD] at z
    exact z
  · unfold hsh
    rw [List.map_map]
    refine List.map_congr_left fun i hi => ?_
    have z := hes i (hin i hi)
    show ((L.getD i (0, .none)).2.hash Wo : Int) = _
    rw [Array.getD_eq_getD_getElem?, Array.getElem?_map, z]
    rfl
theorem relay (o : Obj) (ho : sh.heap.get? a = some o) (hex : o.ExactSet) (hd : o.data = .set es ep t) (hl : es.toList = ents Wo L) (hz : t.place.size = es.size) (hdm : t.dummies = #[]) (hm : es.size ≤ t.mask)
    (once : (L.map (·.2)).Nodup) (keys : ∀ q ∈ L, KA sh.heap q.2 q.1) (known : Wo.params.followText "set-order" = true ∨ t.led = true) (small : L.length < 64) {want m : Nat}
    (e1 : SetTable.sizeAbove want - 1 = m) (e2 : MaskOk m) (e3 : SetTable.sizeAbove want ≤ 128) (e4 : L.length * 5 < m * 3) {Q : Unit → Shared → Prop}
    (hQ : ∀ h2 M es2 ep2 t2, Heap.SameBut a sh.heap h2 → NS Wo h2 a M es2 ep2 t2 → M.Perm L → Q () { sh with heap := h2 }) : wpAny (model Pg Wo) Ar (setRelay a want) Q Er sh := by
  have hlen := ents_len hl
  have fits : t.fits es.size = true := by
    unfold SetTable.fits SetTable.fill
    rw [hdm]
    simp
    omega
  obtain ⟨t2, ord, er, hp, T, em, el, _, _⟩ := relaid_ok t (hs := es.map (·.1)) (wanted := want) e1 e2 (by rw [Array.size_map, hlen]; omega)
  rw [Array.size_map, hlen] at hp
  obtain ⟨M, m1, m2, m3⟩ := reorder (Wo := Wo) L es ord hl hp
  rw [← m3] at T
  have hM := m2.length_eq
  have hsz : (ord.filterMap (es[·]?)).size = es.size := by rw [ents_len m1, hM, hlen]
  rw [setRelay_eq]
  refine wpAny_bind (wpAny_setState_of ho hd fits ?_)
  dsimp only
  refine wp_if_neg (by rw [sizeLine_eq]; omega) ?_
  try refine wpAny_bind (wpAny_pure ?_)
  rw [er]
  dsimp only
  refine wpAny_bind (wp_if_neg (by rw [hsz]; simp) ?_)
  try refine wpAny_bind (wpAny_pure ?_)
  refine wpAny_pure ?_
  dsimp only
  refine wpAny_storeSet_of ho hd ?_ (by rw [hsz, hlen, sizeLine_eq]; omega)
  have sb : Heap.SameBut a sh.heap (sh.heap.update a (Obj.putSet (ord.filterMap (es[·]?)) t2)) := Heap.SameBut.update ..
  refine hQ _ M _ (ep + 1) t2 sb ⟨⟨_, store_at ho hd, ⟨hex.1, hex.2.1, hex.2.2⟩, rfl⟩, m1, T, (m2.map (·.2)).nodup_iff.mpr once, fun q hq => (keys q (m2.mem_iff.mp hq)).past ho hd sb, by rw [el]; exact known, ?_, by rw [hM]; exact small⟩ m2
  rw [hM, em]
  exact e4
/-- an element more -/
theorem adding (N : NS Wo sh.heap a L es ep t) (hx : KA sh.heap k x) (hu : Ar.units + 8 < cLine) (hs : L.length + 1 < 64) {Q : Bool → Shared → Prop}
    (hQ : ∀ b h2 M es2 ep2 t2, Heap.SameBut a sh.heap h2 → NS Wo h2 a M es2 ep2 t2 → (k ∈ L.map (·.2) → M = L) → (k ∉ L.map (·.2) → M.Perm ((x, k) :: L)) → Q b { sh with heap := h2 }) :
    wpAny (model Pg Wo) Ar (setAddHashed a (.ref x) (k.hash Wo)) Q Er sh := by
  obtain ⟨o, ho, hex, hd⟩ := N.cell
  have hlen := ents_len N.list
  have hfree := N.free
  unfold setAddHashed
  refine wpAny_holding ?_
  rw [show (100000 : Nat) = 99999 + 1 from rfl, setAddHashedIn_succ]
  refine wpAny_bind (wpAny_setState_of ho hd N.room ?_)
  dsimp only
  refine wp_if_neg (by simp [byScan, Value.scannable]) ?_
  try refine wpAny_bind (wpAny_pure ?_)
  refine wpAny_bind (seek0 N hx hu (fun hin => ?_) fun e hnew hfr hbe => ?_)
  · dsimp only
    exact wpAny_pure (hQ false sh.heap L es ep t (Heap.SameBut.refl a sh.heap) N (fun _ => rfl) fun z => absurd hin z)
  · dsimp only
    refine wpAny_bind (wpAny_setState_of ho hd N.room ?_)
    dsimp only
    obtain ⟨p1, p2, p3, p4, p5, _, _, _, p9⟩ := N.table.put hfr hbe
    rw [show (hsh Wo L).length = L.length from List.length_map ..] at p9
    generalize t.put (way t.mask (k.hash Wo) e) = pt at p1 p3 p4 p5 p9 ⊢
    obtain ⟨t1, p⟩ := pt
    dsimp only at p1 p3 p4 p5 p9 ⊢
    subst p1
    generalize SetTable.below t.place (way t.mask (k.hash Wo) e) = p at p2 p3 ⊢
    obtain ⟨M, hM⟩ : ∃ M, M = L.take p ++ (x, k) :: L.drop p := ⟨_, rfl⟩
    have pm : M.Perm ((x, k) :: L) := by rw [hM]; exact put_perm L p (x, k)
    have lM : M.length = L.length + 1 := pm.length_eq
    have hin : (SetTable.insertAt es p (k.hash Wo, Value.ref x)).toList = ents Wo M := by
      rw [SetTable.toList_insertAt, N.list, hM]
      unfold ents
      rw [List.map_append, List.map_cons, List.map_take, List.map_drop]
    have hh : hsh Wo M = (hsh Wo L).take p ++ k.hash Wo :: (hsh Wo L).drop p := by
      rw [hM]
      unfold hsh
      rw [List.map_append, List.map_cons, List.map_take, List.map_drop]
    rw [← hh] at p3
    have once : (M.map (·.2)).Nodup := by
      refine (pm.map (·.2)).nodup_iff.mpr ?_
      rw [List.map_cons]
      exact List.nodup_cons.mpr ⟨hnew, N.once⟩
    have hsz := ents_len hin
    generalize SetTable.insertAt es p (k.hash Wo, Value.ref x) = es1 at hin hsz ⊢
    clear hM hh p2
    have main : ∀ (t2 : SetTable) (B : Around) (hB : B.units + 8 < cLine), t2.place = t1.place → t2.dummies = t1.dummies → t2.mask = t1.mask → t2.led = t1.led → 
        wpAny (model Pg Wo) B (do
          storeSet a es1 t2
          if (!false && t2.tooFull) = true then setRelay a (SetTable.grown (es.size + 1))
          return true) Q Er sh := fun t2 B hB d1 d2 d3 d4 => by
      have T2 : TabOk t2 (hsh Wo M) := ⟨by rw [d1]; exact p3.ris, by rw [d2]; exact p3.dm, by rw [d1]; exact p3.sz, by rw [d3]; exact p3.mok, by rw [d1, d3]; exact p3.bd, by rw [d1, d3]; exact p3.reach⟩
      have f2 : t2.fill = L.length + 1 := by
        show t2.place.size + t2.dummies.size = _
        rw [d1, d2]
        exact p9
      refine wpAny_bind (wpAny_storeSet_of ho hd ?_ (by rw [hsz, lM, sizeLine_eq]; omega))
      have sb : Heap.SameBut a sh.heap (sh.heap.update a (Obj.putSet es1 t2)) := Heap.SameBut.update ..
      have ho1 := store_at (es' := es1) (t' := t2) ho hd
      generalize sh.heap.update a (Obj.putSet es1 t2) = h1 at sb ho1 ⊢
      have keys : ∀ q ∈ M, KA h1 q.2 q.1 := fun q hq => by
        rcases List.mem_cons.mp (pm.mem_iff.mp hq) with z | hq
        · rw [z]
          exact hx.past ho hd sb
        · exact (N.keys q hq).past ho hd sb
      have known : Wo.params.followText "set-order" = true ∨ t2.led = true := by rw [d4, p5]; exact N.known
      by_cases hf : t2.tooFull = true
      · have full : t2.mask * 3 ≤ (L.length + 1) * 5 := by
          have z := hf
          unfold SetTable.tooFull at z
          rw [decide_eq_true_eq, f2] at z
          exact z
        rw [d3, p4] at full
        have two : (t.mask = 7 ∧ L.length = 4) ∨ (t.mask = 31 ∧ L.length = 18) := by
          rcases N.table.mok with z | z | z
          · rw [z] at full hfree
            exact .inl ⟨z, by omega⟩
          · rw [z] at full hfree
            exact .inr ⟨z, by omega⟩
          · rw [z] at full
            omega
        have big : ∀ m, SetTable.sizeAbove (SetTable.grown (L.length + 1)) - 1 = m → MaskOk m → SetTable.sizeAbove (SetTable.grown (L.length + 1)) ≤ 128 → (L.length + 1) * 5 < m * 3 →
            wpAny (model Pg Wo) B (setRelay a (SetTable.grown (L.length + 1))) (fun _ s' => wpAny (model Pg Wo) B (pure true) Q Er s') Er { sh with heap := h1 } := fun m z1 z2 z3 z4 => by
          refine relay (sh := { sh with heap := h1 }) _ ho1 ⟨hex.1, hex.2.1, hex.2.2⟩ rfl hin ?_ T2.dm ?_ once keys known (by rw [lM]; exact hs) z1 z2 z3 (by rw [lM]; exact z4) fun h2 M2 es2 ep2 t3 sb2 N2 pm2 => ?_
          · have z := T2.sz
            rw [show (hsh Wo M).length = M.length from List.length_map ..] at z
            rw [z, hsz]
          · rw [hsz, lM, d3, p4]
            rcases two with ⟨y1, y2⟩ | ⟨y1, y2⟩ <;> omega
          · exact wpAny_pure (hQ true h2 M2 es2 ep2 t3 (sb.trans sb2) N2 (fun z => absurd z hnew) fun _ => pm2.trans pm)
        rw [hlen]
        first
          | refine wp_if_pos (by simp [hf]) (wpAny_bind ?_)
          | refine wpAny_bind (wp_if_pos (by simp [hf]) ?_)
        rcases two with ⟨_, y2⟩ | ⟨_, y2⟩
        · exact big 31 (by rw [y2, size_20]) (.inr (.inl rfl)) (by rw [y2, size_20]; decide) (by omega)
        · exact big 127 (by rw [y2, size_76]) (.inr (.inr rfl)) (by rw [y2, size_76]; decide) (by omega)
      · have fin : wpAny (model Pg Wo) B (pure true) Q Er { sh with heap := h1 } := by
          refine wpAny_pure (hQ true h1 M es1 (ep + 1) t2 sb ⟨⟨_, ho1, ⟨hex.1, hex.2.1, hex.2.2⟩, rfl⟩, hin, T2, once, keys, known, ?_, by rw [lM]; exact hs⟩ (fun z => absurd z hnew) fun _ => pm)
          have z := hf
          unfold SetTable.tooFull at z
          rw [decide_eq_true_eq, f2] at z
          rw [lM]
          omega
        first
          | exact wp_if_neg (by simp [hf]) fin
          | exact wpAny_bind (wp_if_neg (by simp [hf]) (wpAny_pure fin))
    have goal2 : ∀ b B (hB : B.units + 8 < cLine), wpAny (model Pg Wo) B (do
          storeSet a es1 (if b = true then t1 else { t1 with plain := false })
          if (!false && (if b = true then t1 else { t1 with plain := false }).tooFull) = true then setRelay a (SetTable.grown (es.size + 1))
          return true) Q Er sh := fun b B hB => by
      cases b with
      | true => exact main t1 B hB rfl rfl rfl rfl
      | false => exact main { t1 with plain := false } B hB rfl rfl rfl rfl
    by_cases hpl : t1.plain = true
    · first
        | refine wp_if_pos hpl (wpAny_bind (hashBy_any 8 _ k _ _ hx.1 fun b => ?_))
        | refine wpAny_bind (wp_if_pos hpl (hashBy_any 8 _ k _ _ hx.1 fun b => ?_))
      exact goal2 b _ hu
    · first
        | refine wp_if_neg hpl (wpAny_bind (wpAny_pure ?_))
        | refine wpAny_bind (wp_if_neg hpl (wpAny_pure ?_))
      exact goal2 true _ hu
end
end HM

/-! HM, part SD: set(list of nested keys). -/
namespace HM
open PySem PySem.Spec PyProof.Rows L2
/-- what a set has got from the first i of the elements -/
structure Fed (B : List (Addr × NestedKey)) (i : Nat) (L : List (Addr × NestedKey)) : Prop where
  from_ : ∀ q ∈ L, q ∈ B.take i
  has : ∀ q ∈ B.take i, q.2 ∈ L.map (·.2)
theorem Fed.none (B : List (Addr × NestedKey)) : Fed B 0 [] := ⟨fun _ h => (nomatch h), fun _ h => by simp at h⟩
theorem take_one {α : Type} {l : List α} {i : Nat} {z : α} (h : l[i]? = some z) : l.take (i + 1) = l.take i ++ [z] := by
  rw [List.take_add_one, h]
  rfl
theorem Fed.old {B L : List (Addr × NestedKey)} {i : Nat} {z : Addr × NestedKey} (g : Fed B i L) (h : B[i]? = some z) (hm : z.2 ∈ L.map (·.2)) : Fed B (i + 1) L := by
  constructor <;> intro q hq <;> rw [take_one h] at *
  · exact List.mem_append_left _ (g.from_ q hq)
  · rcases List.mem_append.mp hq with y | y
    · exact g.has q y
    · rw [List.mem_singleton.mp y]
      exact hm
theorem Fed.new {B L M : List (Addr × NestedKey)} {i : Nat} {z : Addr × NestedKey} (g : Fed B i L) (h : B[i]? = some z) (pm : M.Perm (z :: L)) : Fed B (i + 1) M := by
  constructor <;> intro q hq <;> rw [take_one h] at *
  · rcases List.mem_cons.mp (pm.mem_iff.mp hq) with e | y
    · rw [e]
      exact List.mem_append_right _ (List.mem_singleton.mpr rfl)
    · exact List.mem_append_left _ (g.from_ q y)
  · refine (pm.map (·.2)).mem_iff.mpr ?_
    rw [List.map_cons]
    rcases List.mem_append.mp hq with y | y
    · exact List.mem_cons_of_mem _ (g.has q y)
    · rw [List.mem_singleton.mp y]
      exact List.mem_cons_self
theorem nd_len {α : Type} [DecidableEq α] : ∀ {l m : List α}, l.Nodup → (∀ x ∈ l, x ∈ m) → l.length ≤ m.length
  | [], _, _, _ => Nat.zero_le _
  | x :: l, m, h, hm => by
    obtain ⟨h1, h2⟩ := List.nodup_cons.mp h
    have hx := hm x List.mem_cons_self
    have ih := nd_len (m := m.erase x) h2 fun y hy => (List.mem_erase_of_ne fun e => h1 (by rw [← e]; exact hy)).2 (hm y (List.mem_cons_of_mem _ hy))
    rw [List.length_erase_of_mem hx] at ih
    have := List.length_pos_of_mem hx
    rw [List.length_cons]
    omega
section
variable {Pg : Program} {Wo : World} {Ar : Around} {Er : Value → Shared → Prop} {sh : Shared}
theorem NS.over {h h2 : Heap} {a : Addr} {L : List (Addr × NestedKey)} {es : Array (Int × Value)} {ep : Nat} {t : SetTable} (N : NS Wo h a L es ep t) (ha : ∀ o, h.get? a = some o → h2.get? a = some o) (hk : ∀ q ∈ L, KA h2 q.2 q.1) : NS Wo h2 a L es ep t := by
  obtain ⟨o, ho, r⟩ := N.cell
  exact ⟨⟨o, ha o ho, r⟩, N.list, N.table, N.once, hk, N.known, N.free, N.small⟩
abbrev freshT (Wo : World) : SetTable := .fresh 0 0 (!Wo.params.followText "set-order")
abbrev freshO (Wo : World) : Obj := { cls := .type "set", dict := none, data := .set #[] 0 (freshT Wo) }
theorem ns_fresh {h : Heap} {a : Addr} (ho : h.get? a = some (freshO Wo)) : NS Wo h a [] #[] 0 (freshT Wo) where
  cell := ⟨_, ho, ⟨rfl, rfl, rfl⟩, rfl⟩
  list := rfl
  table := ⟨List.Pairwise.nil, rfl, rfl, .inl rfl, fun _ h => (nomatch h), fun i _ _ h => by simp [hsh] at h⟩
  once := List.nodup_nil
  keys := fun _ h => (nomatch h)
  known := by
    show _ ∨ (!Wo.params.followText "set-order") = true
    cases Wo.params.followText "set-order" <;> simp
  free := by
    show 0 * 5 < 7 * 3
    decide
  small := by
    show 0 < 64
    decide
/-- the loop of set.update over an iterator -/
theorem feed {I : Addr} {fp wr : List Addr} {G : Array GenState → Array GenState → Prop} {n : Nat} {Pv : Nat → Value → Prop} {St : Nat → Shared → Prop} {R : Result → Shared → Prop} (W : WalksS Pg Wo Ar.in1 I fp wr G n Pv St) (S : Addr) (hS : S ∉ fp)
    (B : List (Addr × NestedKey)) (U : List NestedKey) (hU : U.length ≤ 62) (hBU : ∀ q ∈ B, q.2 ∈ U) (hn : n = B.length) (val : ∀ i v, Pv i v → ∃ q, B[i]? = some q ∧ v = .ref q.1) (g0 : Heap) (hk : ∀ q ∈ B, KA g0 q.2 q.1) (hS0 : g0.get? S = none) (hw0 : ∀ b ∈ wr, g0.get? b = none) (hu : Ar.in1.units + 8 < cLine) :
    ∀ (m i : Nat) (s : Shared), n - i = m → i ≤ n → St i s → (∀ b o, g0.get? b = some o → s.heap.get? b = some o) → (∃ L es ep t, NS Wo s.heap S L es ep t ∧ Fed B i L) →
      (∀ s2 L es ep t, Moved (S :: wr) G s s2 → NS Wo s2.heap S L es ep t → Fed B n L → (∀ b o, g0.get? b = some o → s2.heap.get? b = some o) → R (.ok (.ret .none)) s2) →
      codeAny (model Pg Wo) Ar (.builtin "set.update.loop" ⟨[.ref S, .ref I], []⟩) R s := by
  have out : S ∉ wr := fun h => hS (W.sub _ h)
  have wider : ∀ b ∈ wr, b ∈ S :: wr := fun _ hb => List.mem_cons_of_mem _ hb
  have old : ∀ {s s2 : Shared}, Moved wr G s s2 → (∀ b o, g0.get? b = some o → s.heap.get? b = some o) → ∀ b o, g0.get? b = some o → s2.heap.get? b = some o := fun mv kp b o e =>
    mv.heap b o (fun hb => by rw [hw0 b hb] at e; cases e) (kp b o e)
  intro m
  induction m with
  | zero =>
    intro i s hm hi hst kp ⟨L, es, ep, t, N, fd⟩ hR
    obtain rfl : i = n := by omega
    refine codeAny_builtin F.entry_set_update_loop ?_
    rw [Around.under_plainId F.plain_set_update_loop _]
    show wpAny _ Ar.in1 (pyNext (.ref I) >>= _) _ _ s
    refine wpAny_bind (W.done s _ _ hst fun s2 mv => ?_)
    show wpAny _ Ar.in1 (ret Value.none) _ _ s2
    have kp2 := old mv kp
    exact wpAny_pure (hR s2 L es ep t (mv.mono wider) (N.over (fun o e => mv.heap S o out e) fun q hq => (hk q (List.mem_of_mem_take (fd.from_ q hq))).grow kp2) fd kp2)
  | succ m ih =>
    intro i s hm hi hst kp ⟨L, es, ep, t, N, fd⟩ hR
    have lt : i < n := by omega
    refine codeAny_builtin F.entry_set_update_loop ?_
    rw [Around.under_plainId F.plain_set_update_loop _]
    show wpAny _ Ar.in1 (pyNext (.ref I) >>= _) _ _ s
    refine wpAny_bind (W.item i s _ _ lt hst fun v s2 hv hst2 mv => ?_)
    obtain ⟨q, hq, rfl⟩ := val i v hv
    have kp2 := old mv kp
    have N2 : NS Wo s2.heap S L es ep t := N.over (fun o e => mv.heap S o out e) fun p hp => (hk p (List.mem_of_mem_take (fd.from_ p hp))).grow kp2
    have hx : KA s2.heap q.2 q.1 := (hk q (List.mem_of_getElem? hq)).grow kp2
    have few : L.length ≤ 62 := by
      have z := nd_len (m := U) N2.once fun y hy => by
        obtain ⟨p, hp, e⟩ := List.mem_map.mp hy
        rw [← e]
        exact hBU p (List.mem_of_mem_take (fd.from_ p hp))
      rw [List.length_map] at z
      omega
    show wpAny _ Ar.in1 (holding [Value.ref q.1] (setAdd S (.ref q.1)) >>= _) _ _ s2
    refine wpAny_bind (wpAny_holding ?_)
    unfold setAdd
    refine wpAny_holding (wpAny_bind ((nestedKind Pg Wo).pyHash hu hx ?_))
    refine adding (sh := { s2 with toks := s2.toks + (nestedKind Pg Wo).draws q.2 }) N2 hx hu (by omega) fun b h2 M es2 ep2 t2 sb N3 c1 c2 => ?_
    have fd2 : Fed B (i + 1) M := by
      rcases Classical.em (q.2 ∈ L.map (·.2)) with c | c
      · rw [c1 c]
        exact fd.old hq c
      · exact fd.new hq (c2 c)
    have kp3 : ∀ b o, g0.get? b = some o → h2.get? b = some o := fun b o e => (sb.2 b (fun z => by rw [z, hS0] at e; cases e)).trans (kp2 b o e)
    refine wpAny_pure ⟨plainId_quiet F.plain_set_update_loop _, ih (i + 1) _ (by omega) lt (W.frame _ s2 _ _ hst2 (Nat.le_add_right _ _) fun b hb o e => ?_) kp3 ⟨M, es2, ep2, t2, N3, fd2⟩ fun s3 L3 es3 ep3 t3 mv3 N4 fd3 kp4 => ?_⟩
    · rw [sb.2 b (fun z : b = S => hS (by rw [← z]; exact hb))]
      exact e
    · refine hR s3 L3 es3 ep3 t3 (Moved.trans W.gtrans ((mv.mono wider).then_heap (Nat.le_add_right _ _) fun b o hb e => ?_) mv3) N4 fd3 kp4
      rw [sb.2 b (fun z : b = S => hb (by rw [z]; exact List.mem_cons_self))]
      exact e
/-- set(xs) of a list -/
theorem made_set {l : Addr} {items : Array Value} (B : List (Addr × NestedKey)) (U : List NestedKey) (hU : U.length ≤ 62) (hBU : ∀ q ∈ B, q.2 ∈ U) {Q : Value → Shared → Prop} (hh : Ar.handled = none) (hl : sh.heap.IsList l items) (hit : items.toList = B.map fun q => Value.ref q.1)
    (hk : ∀ q ∈ B, KA sh.heap q.2 q.1) (hu : Ar.units + 16 < cLine)
    (h : ∀ (h2 : Heap) (tk : Nat) L es ep t, NS Wo h2 sh.heap.objs.size L es ep t → Fed B B.length L → (∀ b o, sh.heap.get? b = some o → h2.get? b = some o) → Q (.ref sh.heap.objs.size) { sh with heap := h2, toks := tk }) :
    wpAny (model Pg Wo) Ar (call (.type "set") [.ref l]) Q Er sh := by
  have hsz : items.size = B.length := by
    rw [← Array.length_toList, hit]
    exact List.length_map ..
  obtain ⟨c, tl, hmro⟩ := F.called_set.mro
  have q1 := F.called_set.made
  have q2 := F.called_set.sub
  refine wpAny_call (codeAny_of_tree ?_)
  show wpAny _ _ (callAny (.type "set") _) _ _ _
  refine wpAny_pure ⟨Code.quiet_builtin _ (by decide +kernel), codeAny_builtin F.entry_type_call ?_⟩
  rw [Around.under_plain (weight_type_call_type "set" [.ref l] []) rfl]
  have q3 := F.called_set.notType
  have q4 := F.called_set.canCreate
  have q5 := F.typeCall_set_1 (.ref l)
  repeat (any_goals (first | assumption | wp_step))
  refine codeAny_mono (code_set_led1 (.ref l) (E := Er) (Q₁ := fun ob s1 => ob = .ref sh.heap.objs.size ∧ s1 = { sh with heap := sh.heap.push (freshO Wo) }) ⟨rfl, rfl⟩) fun r s1 hr => ?_
  cases r with
  | error e => exact hr
  | ok fl =>
    cases fl with
    | ret ob =>
      obtain ⟨rfl, rfl⟩ := hr
      have hS : (sh.heap.push (freshO Wo)).get? sh.heap.objs.size = some (freshO Wo) := Heap.get?_push_size _ rfl
      have hT : Shared.TypeIs { sh with heap := sh.heap.push (freshO Wo) } (.ref sh.heap.objs.size) "set" := ⟨_, hS, rfl⟩
      have q6 := F.called_set.init.lookup
      have q7 := F.called_set.init.bind (.ref sh.heap.objs.size)
      repeat (any_goals (first | assumption | wp_step))
      refine codeAny_mono (codeAny_call_builtin (R := wants (fun r s2 => r = .none ∧ ∃ h2 tk L es ep t, s2 = { sh with heap := h2, toks := tk } ∧ NS Wo h2 sh.heap.objs.size L es ep t ∧ Fed B B.length L ∧ (∀ b o, sh.heap.get? b = some o → h2.get? b = some o)) Er) F.called_set.init.plain F.entry_set_init (check_set_init_1 hT ?_)) fun r2 s2 hr2 => ?_
      · obtain ⟨ol, hol, hcl, nl, hdl⟩ := hl
        obtain ⟨ocls, odict, odata, oslots⟩ := ol
        simp only at hcl hdl
        subst hcl; subst hdl
        have hol2 : (sh.heap.push (freshO Wo)).get? l = some { cls := .type "list", dict := odict, data := .seq items nl, slots := oslots } := Heap.get?_push_of_some _ hol
        have q8 := F.sub_list_set
        have q9 := F.sub_list_frozenset
        have qa : (Value.type "list" == Value.type "dict") = false := by decide
        have hl1 : (sh.heap.push (freshO Wo)).IsList l items := ⟨_, hol2, rfl, nl, rfl⟩
        unfold Builtin.«set.__init__» noKeywords Builtin.Frozenset.updateFrom
        generalize hPI : pyIter = PI
        wp_walk
        subst hPI
        refine wpAny_pyIter_list hl1 (wpAny_bind (wpAny_runValue ?_))
        have lS : l < sh.heap.objs.size := Heap.lt_size hol
        have h3 : Ar.in1.in1.in1.handled = none := by simp [hh]
        have z1 : (sh.heap.push (freshO Wo)).objs.size = sh.heap.objs.size + 1 := Heap.size_push ..
        have z2 : l ≠ (sh.heap.push (freshO Wo)).objs.size := by rw [z1]; exact Nat.ne_of_lt (Nat.lt_succ_of_lt lS)
        have z3 : sh.heap.objs.size ∉ [(sh.heap.push (freshO Wo)).objs.size, l] := by
          rw [z1]
          simp only [List.mem_cons, List.not_mem_nil, or_false, not_or]
          exact ⟨Nat.ne_of_lt (Nat.lt_succ_self _), Nat.ne_of_gt lS⟩
        have val : ∀ (i : Nat) (v : Value), items[i]? = some v → ∃ q, B[i]? = some q ∧ v = .ref q.1 := fun i v hv => by
          rw [← Array.getElem?_toList, hit, List.getElem?_map] at hv
          obtain ⟨q, y1, y2⟩ := Option.map_eq_some_iff.mp hv
          exact ⟨q, y1, y2.symm⟩
        have beyond : ∀ b, sh.heap.objs.size ≤ b → sh.heap.get? b = none := fun b hb => by
          cases y : sh.heap.get? b with
          | none => rfl
          | some o => exact absurd (Nat.lt_of_lt_of_le (Heap.lt_size y) hb) (Nat.lt_irrefl _)
        refine feed ((Walks.list h3 _ l z2 items).toS) sh.heap.objs.size z3 B U hU hBU hsz val sh.heap hk (beyond _ (Nat.le_refl _)) (fun b hb => beyond b (by rw [List.mem_singleton.mp hb, z1]; exact Nat.le_succ _)) (by simp; omega) (items.size - 0) 0 _ (by omega) (Nat.zero_le _)
          ⟨⟨_, Heap.get?_push_size _ rfl, rfl, rfl⟩, (hl1.push _)⟩ (fun b o e => Heap.get?_push_of_some _ (Heap.get?_push_of_some _ e)) ?begin ?finish
        case begin => exact ⟨[], #[], 0, _, ns_fresh (Heap.get?_push_of_some _ hS), Fed.none B⟩
        case finish =>
          intro s3 L es ep t mv N fd kp
          obtain ⟨h2, g2, d2, tk, os2⟩ := s3
          have y1 : g2 = sh.gens := mv.gens
          have y2 : d2 = sh.drawn := mv.drawn
          have y3 : os2 = sh.os := mv.os
          subst y1; subst y2; subst y3
          show wpAny _ _ _ _ _ _
          refine wpAny_pure ?_
          show wpAny _ _ (ret Value.none) _ _ _
          rw [hsz] at fd
          exact wpAny_pure ⟨rfl, h2, tk, L, es, ep, t, rfl, N, fd, kp⟩
      · cases r2 with
        | error e => exact hr2
        | ok fl2 =>
          cases fl2 with
          | ret r =>
            obtain ⟨rfl, h2, tk, L, es, ep, t, rfl, N, fd, kp⟩ := hr2
            repeat (any_goals (first | assumption | wp_step))
            exact h _ _ _ _ _ _ N fd kp
          | _ => exact hr2.elim
    | _ => exact hr.elim
end
end HM

/-! HM, part SE: sorted(set(xs)), xs a list of nested keys. -/
namespace HM
open PySem PySem.Calls PySem.Spec PyProof.Rows L2 PySem.W
/-- the set at a, without its keys' tuples -/
structure NS0 (Wo : World) (h : Heap) (a : Addr) (L : List (Addr × NestedKey)) : Prop where
  ex : ∃ (es : Array (Int × Value)) (ep : Nat) (t : SetTable), (∃ o, h.get? a = some o ∧ o.ExactSet ∧ o.data = .set es ep t) ∧ es.toList = ents Wo L ∧ TabOk t (hsh Wo L) ∧ (L.map (·.2)).Nodup ∧ (Wo.params.followText "set-order" = true ∨ t.led = true) ∧ L.length * 5 < t.mask * 3 ∧ L.length < 64
def SetNO (Wo : World) (a : Addr) (L : List (Addr × NestedKey)) : HO := .ext fun h => NS0 Wo h a L
theorem NS.bare {Wo : World} {h : Heap} {a : Addr} {L : List (Addr × NestedKey)} {es : Array (Int × Value)} {ep : Nat} {t : SetTable} (N : NS Wo h a L es ep t) : NS0 Wo h a L := ⟨es, ep, t, N.cell, N.list, N.table, N.once, N.known, N.free, N.small⟩
theorem NS0.full {Wo : World} {h : Heap} {a : Addr} {L : List (Addr × NestedKey)} (N : NS0 Wo h a L) (hk : ∀ q ∈ L, KA h q.2 q.1) : ∃ es ep t, NS Wo h a L es ep t := by
  obtain ⟨es, ep, t, h1, h2, h3, h4, h5, h6, h7⟩ := N.ex
  exact ⟨es, ep, t, h1, h2, h3, h4, hk, h5, h6, h7⟩
theorem setNO_ok {Pg : Program} {Wo : World} {H : Hp} {h : Heap} {a : Addr} {L : List (Addr × NestedKey)} (N : NS0 Wo h a L) : ObjOk Pg Wo H h a (SetNO Wo a L) := by
  have ⟨es, ep, t, ⟨o, ho, r⟩, q⟩ := N.ex
  refine ⟨N, ⟨o, ho⟩, fun h1 h2 p k => ?_⟩
  have ⟨es2, ep2, t2, ⟨o2, ho2, r2⟩, q2⟩ := NS0.ex p
  exact ⟨es2, ep2, t2, ⟨o2, k o2 ho2, r2⟩, q2⟩
theorem refs_are {α : Type} {f : α → Addr} : ∀ {B : List α} {us : List Value}, Vals (B.map fun q => V.ref (f q)) us → us = B.map fun q => Value.ref (f q)
  | [], _, .nil => rfl
  | q :: B, _, .cons r t => by
    cases r
    rw [refs_are t]
    rfl
theorem refs_vals {α : Type} {f : α → Addr} : ∀ B : List α, Vals (B.map fun q => V.ref (f q)) (B.map fun q => Value.ref (f q))
  | [] => .nil
  | q :: B => .cons rfl (refs_vals B)
/-- values in another order, and what they are -/
theorem each_perm {α β : Type} {R : α → β → Prop} {xs ys : List α} (p : ys.Perm xs) : ∀ {bs : List β}, EachIs R xs bs → ∃ cs, EachIs R ys cs ∧ cs.Perm bs := by
  induction p with
  | nil => exact fun h => ⟨_, h, List.Perm.refl _⟩
  | cons x _ ih =>
    intro bs h
    cases h with
    | cons r t =>
      obtain ⟨cs, h1, h2⟩ := ih t
      exact ⟨_, .cons r h1, h2.cons _⟩
  | swap x y l =>
    intro bs h
    cases h with
    | cons r t =>
      cases t with
      | cons r2 t2 => exact ⟨_, .cons r2 (.cons r t2), List.Perm.swap ..⟩
  | trans _ _ ih1 ih2 =>
    intro bs h
    obtain ⟨cs, h1, h2⟩ := ih2 h
    obtain ⟨ds, h3, h4⟩ := ih1 h1
    exact ⟨ds, h3, h4.trans h2⟩
section
variable {X : Cx} {pins : List (Addr × Obj)} {σ : L2.St} {H : Hp} {s : Shared}
theorem sorted_ns {β : Type} {R : Value → β → Prop} {enc : β → PyData} {bs : List β} {A : Around} {E : Value → Shared → Prop} {Q : Value → Shared → Prop} {a : Addr} {L : List (Addr × NestedKey)} {es : Array (Int × Value)} {ep : Nat} {t : SetTable}
    (N : NS X.w s.heap a L es ep t) (hh : A.handled = none) (eb : EachIs (fun v b => R v b ∧ ∃ as, PySem.Reads s.heap v (enc b) as) (L.map fun q => Value.ref q.1) bs)
    (hal : ∀ cs : List β, cs.Perm bs → AllAlike (cs.map enc) ∧ Sortable2 (cs.map enc)) (hu : ∀ b, b ∈ bs → A.units + 2 + (enc b).depth < cLine)
    (h : ∀ (s1 : Shared) (acc out : List Value) (cs : List β), (∀ b o, s.heap.get? b = some o → s1.heap.get? b = some o) → s.heap.objs.size ≤ s1.heap.objs.size → s1.gens = s.gens → s1.os = s.os → cs.Perm bs → out.length = cs.length → EachIs R out (cs.mergeSort (dataLe false enc)) →
      Q (.ref s1.heap.objs.size) { s1 with heap := PyProof.Rows.sortedHeap (s1.heap.push (seqObj "list" acc.toArray 0)) s1.heap.objs.size acc out.toArray }) :
    wpAny (model X.prog X.w) A (call (.builtin "sorted") [.ref a]) Q E s := by
  obtain ⟨o, ho, hex, hd⟩ := N.cell
  have hsz := ents_len N.list
  have hfew := N.small
  refine Calls.call_function_entry PyProof.Rows.kind_sorted PyProof.Rows.plain_sorted PyProof.Rows.entry_sorted (PyProof.Rows.args_sorted1 _) ?_
  unfold Builtin.«sorted»
  refine wpAny_bind (m := checkCount "sorted" 1 1 _) (wpAny_pure ?_)
  refine wpAny_bind (L2.collect_set (A := A.in1) hh ⟨o, ho, hex.1, hd⟩ N.room (by unfold scanBound; omega) N.table.ris N.known fun s1 acc k1 hz g1 o1 pm => ?_)
  have hv : es.toList.map (·.2) = L.map fun q => Value.ref q.1 := by
    rw [N.list]
    unfold ents
    rw [List.map_map]
    rfl
  rw [hv] at pm
  obtain ⟨cs, e2, pc⟩ := each_perm pm eb
  obtain ⟨al, so⟩ := hal cs pc
  have hl : acc.length ≤ sizeLine := by
    rw [pm.length_eq, List.length_map, PySem.sizeLine_eq]
    omega
  refine wpAny_bind (wpAny_newList ?_ hl)
  have hoL : (s1.heap.push (seqObj "list" acc.toArray 0)).get? s1.heap.objs.size = some (seqObj "list" acc.toArray 0) := Heap.get?_push_size _ rfl
  have eR : EachIs R acc cs := e2.mono fun _ _ z => z.1
  have er : EachIs (fun v b => ∃ as, PySem.Reads (sortingHeap (s1.heap.push (seqObj "list" acc.toArray 0)) s1.heap.objs.size acc) v (enc b) as) acc cs := e2.mono fun _ _ ⟨_, as, r⟩ =>
    ⟨as, PyProof.Rows.Reads.keeps (fun b o hb => by
      have hb1 := k1 b o hb
      exact sortingHeap_old (Nat.ne_of_lt (Heap.lt_size hb1)) (Heap.get?_push_of_some _ hb1)) r⟩
  have hu2 : ∀ b, b ∈ cs → A.units + 2 + (enc b).depth < cLine := fun b hb => hu b (pc.mem_iff.mp hb)
  refine wpAny_bind (wpAny_holding (wpAny_call_entry PyProof.Rows.slot_list_sort ⟨_, hoL, rfl⟩ PyProof.Rows.entry_list_sort
    (list_sort_vals (s := { s1 with heap := s1.heap.push (seqObj "list" acc.toArray 0) }) hoL
      (SortsAt_data2 (s := { s1 with heap := sortingHeap (s1.heap.push (seqObj "list" acc.toArray 0)) s1.heap.objs.size acc }) (each_map (R := fun v d => ∃ as, PySem.Reads (sortingHeap (s1.heap.push (seqObj "list" acc.toArray 0)) s1.heap.objs.size acc) v d as) enc er) al so (bound_map2 hu2)) hl ⟨_, rfl, wpAny_pure ⟨_, rfl, ?_⟩⟩)
    (PyProof.Rows.args_list_sort _)))
  exact h s1 acc _ cs k1 hz g1 o1 pc (by rw [sortVals_length false rfl]; exact eR.length) (sortVals_data false eR er al)
end
section
variable {X : Cx}
/-- set(xs), xs a list of nested keys -/
def rSetN (K : KW) : List V → Hp → VK → Prop := fun xs H Q => ∃ (l : Addr) (B : List (Addr × NestedKey)) (U : List NestedKey), xs = [V.ref l] ∧ SqL K H l (B.map fun q => V.ref q.1) ∧ (∀ q ∈ B, NV K H q.2 (.ref q.1) ∧ q.2.depth ≤ 8) ∧ U.length ≤ 62 ∧ (∀ q ∈ B, q.2 ∈ U) ∧
  ∀ a L, H a = none → (∀ q ∈ L, q ∈ B) → (∀ q ∈ B, q.2 ∈ L.map (·.2)) → (L.map (·.2)).Nodup → Q (.ref a) (upd H a (SetNO K.w a L))
theorem cr_setN (hc : X.calm = true) (hu : X.A.units + 64 < cLine) : CallR X (.type "set") (rSetN X.kw) := by
  intro pins s σ H xs us Q I r h
  obtain ⟨l, B, U, rfl, hl, hk, hU, hBU, q⟩ := h
  rw [Vals.ref1 r]
  obtain ⟨its, rv, pl, hz⟩ := I.list hl
  have hn : H s.heap.objs.size = none := I.hok.fresh (Nat.le_refl _)
  refine made_set (Pg := X.prog) (Wo := X.w) B U hU hBU (I.ok.hd hc) pl.isList (by simpa using refs_are (f := fun q : Addr × NestedKey => q.1) rv) (fun z hz => ⟨nv_is I (hk z hz).1 rfl, (hk z hz).2⟩) (by omega) fun h2 tk L es ep t N fd kp => ?_
  exact ⟨.ref s.heap.objs.size, upd H s.heap.objs.size (SetNO X.w s.heap.objs.size L), I.laid (t' := tk) kp (Nat.le_refl _) (setNO_ok N.bare), rfl, q _ L hn (fun z hz => List.mem_of_mem_take (fd.from_ z hz)) (fun z hz => fd.has z (by rw [List.take_length]; exact hz)) N.once⟩
/-- sorted of the set at a -/
def rSortN (K : KW) : List V → Hp → VK → Prop := fun vs H Q => ∃ (a : Addr) (L : List (Addr × NestedKey)) (bs : List (D × V)), vs = [V.ref a] ∧ H a = some (SetNO K.w a L) ∧ (∀ q ∈ L, NV K H q.2 (.ref q.1) ∧ q.2.depth ≤ 8) ∧ bs.map (·.2) = L.map (fun q => V.ref q.1) ∧
  (∀ b ∈ bs, Dp K H b.2 (b.1.toP 60) ∧ (b.1.toP 60).depth ≤ 60) ∧
  ∀ cs : List (D × V), cs.Perm bs → AllAlike (cs.map fun b => b.1.toP 60) ∧ Sortable2 (cs.map fun b => b.1.toP 60) ∧ ∀ p, H p = none → Q (.ref p) (upd H p (.lst ((cs.mergeSort (dataLe false fun b => b.1.toP 60)).map (·.2))))
theorem cr_sortN (hc : X.calm = true) (hu : X.A.units + 65 < cLine) : CallR X (.builtin "sorted") (rSortN X.kw) := by
  intro pins s σ H vs us Q I r h
  obtain ⟨a, L, bs, rfl, ha, hk, he, hb, go⟩ := h
  rw [Vals.ref1 r]
  obtain ⟨es, ep, t, N⟩ := NS0.full (show NS0 X.w s.heap a L from (I.hok a _ ha).1) fun q hq => ⟨nv_is I (hk q hq).1 rfl, (hk q hq).2⟩
  have rv : Vals (bs.map (·.2)) (L.map fun q => Value.ref q.1) := by
    rw [he]
    exact refs_vals (f := fun q : Addr × NestedKey => q.1) L
  have eb : EachIs (fun v (b : D × V) => RelV b.2 v ∧ ∃ as, PySem.Reads s.heap v (b.1.toP 60) as) (L.map fun q => Value.ref q.1) bs := each_of (f := fun b : D × V => b.2) rv fun b hm u h => ⟨h, Dp.reads I _ _ _ (hb b hm).1 h⟩
  have lb : bs.length = L.length := by
    have z := congrArg List.length he
    rwa [List.length_map, List.length_map] at z
  refine sorted_ns (X := X) (R := fun v (b : D × V) => RelV b.2 v) (enc := fun b : D × V => b.1.toP 60) N (I.ok.hd hc) eb (fun cs pc => ⟨(go cs pc).1, (go cs pc).2.1⟩) (fun b hm => by
    have := (hb b hm).2
    omega) fun s1 acc out cs k1 hz g1 o1 pc h1 h2 => ?_
  have hoL : (s1.heap.push (seqObj "list" acc.toArray 0)).get? s1.heap.objs.size = some (seqObj "list" acc.toArray 0) := Heap.get?_push_size _ rfl
  obtain ⟨c, hat⟩ := PyProof.Rows.sortedHeap_at (vs := acc) (out := out.toArray) hoL
  have rv2 := vals_of_each (f := fun b : D × V => b.2) h2
  have hlen : ((cs.mergeSort (dataLe false fun b => b.1.toP 60)).map (·.2)).length ≤ sizeLine := by
    have := N.small
    rw [List.length_map, List.length_mergeSort, pc.length_eq, lb, PySem.sizeLine_eq]
    omega
  have hn : H s1.heap.objs.size = none := I.hok.fresh hz
  have keep : ∀ b u, s.heap.get? b = some u → (PyProof.Rows.sortedHeap (s1.heap.push (seqObj "list" acc.toArray 0)) s1.heap.objs.size acc out.toArray).get? b = some u := fun b u e => by
    have e1 := k1 b u e
    have hb := Heap.lt_size e1
    rw [PyProof.Rows.sortedHeap_old (Nat.ne_of_lt hb) (by rw [size_push']; exact Nat.lt_succ_of_lt hb)]
    exact Heap.get?_push_of_some _ e1
  have J : Inv X pins σ (upd H s1.heap.objs.size (.lst ((cs.mergeSort (dataLe false fun b => b.1.toP 60)).map (·.2)))) { s with heap := PyProof.Rows.sortedHeap (s1.heap.push (seqObj "list" acc.toArray 0)) s1.heap.objs.size acc out.toArray, gens := s1.gens, drawn := s1.drawn, toks := s1.toks } :=
    I.call (ch := []) (Un.laid keep hz hn) (I.hok.laid keep hz ⟨hlen, out, c, rv2, hat⟩) (by rw [g1]; exact I.bare) (fun _ z => nomatch z)
  refine ⟨.ref s1.heap.objs.size, _, ?_, rfl, (go cs pc).2.2 _ hn⟩
  cases s1
  cases s
  cases o1
  exact J
end
end HM

/-! HM, part SF: sorted(set(xs)) over the store. -/
namespace HM
open PySem PySem.Calls PySem.Spec PyProof.Rows L2 PySem.W
def dedupD : List D → List D
  | [] => []
  | x :: xs => if x ∈ xs then dedupD xs else x :: dedupD xs
theorem mem_dedup {x : D} : ∀ {xs : List D}, x ∈ dedupD xs ↔ x ∈ xs
  | [] => Iff.rfl
  | y :: xs => by
    unfold dedupD
    split
    · rename_i h
      rw [mem_dedup, List.mem_cons]
      exact ⟨.inr, fun z => z.elim (fun e => e ▸ h) id⟩
    · rw [List.mem_cons, List.mem_cons, mem_dedup]
theorem dedup_nd : ∀ xs : List D, (dedupD xs).Nodup
  | [] => List.nodup_nil
  | x :: xs => by
    unfold dedupD
    split
    · exact dedup_nd xs
    · rename_i h
      exact List.nodup_cons.mpr ⟨fun z => h (mem_dedup.mp z), dedup_nd xs⟩
def ltD (a b : D) : Bool := dataLt (a.toP 60) (b.toP 60)
/-- strictly ascending, by < both ways -/
def AscD (M : List D) : Prop := (M.Pairwise fun a b => ltD a b = true ∧ ltD b a = false) ∧ ∀ a ∈ M, ltD a a = false
instance (M : List D) : Decidable (AscD M) := inferInstanceAs (Decidable (_ ∧ _))
theorem asc_nat : ∀ {l m : List Nat}, l.Pairwise (· < ·) → m.Pairwise (· < ·) → (∀ x, x ∈ l ↔ x ∈ m) → l = m
  | [], [], _, _, _ => rfl
  | [], y :: m, _, _, h => by have := (h y).mpr List.mem_cons_self; cases this
  | x :: l, [], _, _, h => by have := (h x).mp List.mem_cons_self; cases this
  | x :: l, y :: m, h1, h2, h => by
    obtain ⟨a1, a2⟩ := List.pairwise_cons.mp h1
    obtain ⟨b1, b2⟩ := List.pairwise_cons.mp h2
    have e : x = y := by
      rcases List.mem_cons.mp ((h x).mp List.mem_cons_self) with e | q
      · exact e
      · rcases List.mem_cons.mp ((h y).mpr List.mem_cons_self) with e | p
        · exact e.symm
        · have := b1 x q
          have := a1 y p
          omega
    subst e
    congr 1
    refine asc_nat a2 b2 fun z => ⟨fun hz => ?_, fun hz => ?_⟩
    · rcases List.mem_cons.mp ((h z).mp (List.mem_cons_of_mem _ hz)) with e | q
      · have := a1 z hz
        omega
      · exact q
    · rcases List.mem_cons.mp ((h z).mpr (List.mem_cons_of_mem _ hz)) with e | q
      · have := b1 z hz
        omega
      · exact q
theorem sort_range {I : List Nat} {n : Nat} (p : I.Perm (List.range n)) : (I.mergeSort fun a b => decide (a ≤ b)) = List.range n := by
  have s : (I.mergeSort fun a b => decide (a ≤ b)).Pairwise fun a b => decide (a ≤ b) = true := List.pairwise_mergeSort (fun a b c h1 h2 => by simp only [decide_eq_true_eq] at *; omega) (fun a b => by simp; omega) _
  have pm := (List.mergeSort_perm I fun a b => decide (a ≤ b)).trans p
  have nd := pm.nodup_iff.mpr List.nodup_range
  refine asc_nat ((s.and (List.nodup_iff_pairwise_ne.mp nd)).imp fun {a b} h => ?_) List.pairwise_lt_range fun x => pm.mem_iff
  obtain ⟨h1, h2⟩ := h
  have := of_decide_eq_true h1
  omega
theorem AscD.nd {M : List D} (h : AscD M) : M.Nodup := List.nodup_iff_pairwise_ne.mpr (h.1.imp fun {a b} q e => by rw [e] at q; rw [q.1] at q; cases q.2)
/-- what is strictly ascending is the sorted of each of its orders -/
theorem AscD.sort {M xs : List D} (h : AscD M) (p : xs.Perm M) : sortD xs = M := by
  obtain ⟨ix, hix⟩ : ∃ ix : D → Nat, ix = fun d => M.findIdx fun x => decide (x = d) := ⟨_, rfl⟩
  obtain ⟨g, hg⟩ : ∃ g : Nat → D, g = fun i => M.getD i .non := ⟨_, rfl⟩
  have lt : ∀ d ∈ M, ix d < M.length := fun d hd => by
    rw [hix]
    exact List.findIdx_lt_length_of_exists ⟨d, hd, by simp⟩
  have gi : ∀ d ∈ M, g (ix d) = d := fun d hd => by
    have h1 := lt d hd
    subst hix
    subst hg
    show M.getD (M.findIdx fun x => decide (x = d)) .non = d
    have h1 : M.findIdx (fun x => decide (x = d)) < M.length := h1
    rw [List.getD_eq_getElem?_getD, List.getElem?_eq_getElem h1]
    exact of_decide_eq_true (List.findIdx_getElem (w := h1))
  have e1 : xs = (xs.map ix).map g := by
    rw [List.map_map]
    conv => lhs; rw [← List.map_id xs]
    exact List.map_congr_left fun d hd => (gi d (p.mem_iff.mp hd)).symm
  have e2 : M = (List.range M.length).map g := by
    rw [hg]
    exact (range_getD M).symm
  have pI : (xs.map ix).Perm (List.range M.length) := by
    refine (p.map ix).trans ?_
    refine (List.perm_ext_iff_of_nodup ?_ List.nodup_range).mpr fun i => ?_
    · rw [List.nodup_iff_pairwise_ne, List.pairwise_map]
      exact (List.nodup_iff_pairwise_ne.mp h.nd).imp_of_mem fun {a b} ha hb hne e => hne (by rw [← gi a ha, ← gi b hb, e])
    · rw [List.mem_map, List.mem_range]
      constructor
      · rintro ⟨d, hd, rfl⟩
        exact lt d hd
      · intro hi
        refine ⟨M[i], List.getElem_mem hi, ?_⟩
        rw [hix]
        show M.findIdx _ = i
        rw [List.findIdx_eq hi]
        refine ⟨by simp, fun j hj => ?_⟩
        have := List.pairwise_iff_getElem.mp (List.nodup_iff_pairwise_ne.mp h.nd) j i (by omega) hi hj
        simpa using this
  have e3 : sortD xs = ((xs.map ix).mergeSort fun a b => decide (a ≤ b)).map g := by
    conv => lhs; rw [e1]
    unfold sortD
    refine (sort_maps (r := fun a b => decide (a ≤ b)) (s := sortLeD) g fun i hi j hj => ?_).symm
    have hi := List.mem_range.mp (pI.mem_iff.mp hi)
    have hj := List.mem_range.mp (pI.mem_iff.mp hj)
    have at_ : ∀ i (hi : i < M.length), g i = M[i] := fun i hi => by
      rw [hg]
      show M.getD i .non = M[i]
      rw [List.getD_eq_getElem?_getD, List.getElem?_eq_getElem hi]
      rfl
    rw [at_ i hi, at_ j hj]
    show decide (i ≤ j) = !(ltD M[j] M[i])
    rcases Nat.lt_trichotomy i j with q | q | q
    · rw [(List.pairwise_iff_getElem.mp h.1 i j hi hj q).2, decide_eq_true (by omega)]
      rfl
    · subst q
      rw [h.2 _ (List.getElem_mem hi), decide_eq_true (Nat.le_refl _)]
      rfl
    · rw [(List.pairwise_iff_getElem.mp h.1 j i hj hi q).1, decide_eq_false (by omega)]
      rfl
  rw [e3, sort_range pI, ← e2]
theorem sortable_perm {xs ys : List D} (p : xs.Perm ys) (h : sortable ys = true) : sortable xs = true := by
  unfold sortable at h ⊢
  simp only [Bool.and_eq_true, Bool.or_eq_true, List.all_eq_true, List.any_eq_true] at h ⊢
  obtain ⟨⟨h1, h2⟩, h3⟩ := h
  refine ⟨⟨fun x hx => h1 x (p.mem_iff.mp hx), fun x hx y hy => h2 x (p.mem_iff.mp hx) y (p.mem_iff.mp hy)⟩, ?_⟩
  rcases h3 with (h3 | h3) | ⟨h3, z, hz, h4⟩
  · exact .inl (.inl fun x hx => h3 x (p.mem_iff.mp hx))
  · exact .inl (.inr fun x hx => h3 x (p.mem_iff.mp hx))
  · exact .inr ⟨fun x hx => h3 x (p.mem_iff.mp hx), z, p.mem_iff.mpr hz, h4⟩
theorem sortable_ask {ds : List D} (h : sortable ds = true) : AllAlike (ds.map (D.toP 60)) ∧ Sortable2 (ds.map (D.toP 60)) := by
  unfold sortable at h
  simp only [Bool.and_eq_true, Bool.or_eq_true, List.all_eq_true] at h
  obtain ⟨⟨_, h2⟩, h3⟩ := h
  refine ⟨fun d hd d2 hd2 => ?_, ?_⟩
  · obtain ⟨x, hx, rfl⟩ := List.mem_map.mp hd
    obtain ⟨y, hy, rfl⟩ := List.mem_map.mp hd2
    exact h2 x hx y hy
  · rcases h3 with (h3 | h3) | ⟨h3, h4⟩
    · refine .inl (.inl fun d hd => ?_)
      obtain ⟨x, hx, rfl⟩ := List.mem_map.mp hd
      have z := h3 x hx
      unfold D.neTup at z
      split at z
      · exact ⟨_, _, rfl⟩
      · cases z
    · refine .inl (.inr fun d hd => ?_)
      obtain ⟨x, hx, rfl⟩ := List.mem_map.mp hd
      have z := h3 x hx
      unfold D.atom at z
      split at z
      · exact ⟨nofun, fun _ => nofun⟩
      · exact ⟨nofun, fun _ => nofun⟩
      · cases z
    · refine .inr ⟨fun d hd => ?_, ?_⟩
      · obtain ⟨x, hx, rfl⟩ := List.mem_map.mp hd
        have z := h3 x hx
        unfold D.isTup at z
        split at z
        · exact ⟨_, rfl⟩
        · cases z
      · rw [List.any_eq_true] at h4
        obtain ⟨x, hx, e⟩ := h4
        have e := of_decide_eq_true e
        subst e
        exact List.mem_map.mpr ⟨_, hx, rfl⟩
/-- sorted(set(xs)), xs a list -/
def fSortSet : D → Store → ER D := fun d st => match d with
  | .ref n => match lstAt st n with
    | some xs => if xs.all D.tupQ && decide ((sortD (dedupD xs)).length ≤ 62) && decide (AscD (sortD (dedupD xs))) && sortable (sortD (dedupD xs)) then .ok (.ref st.length) (st ++ [.lst (sortD (dedupD xs))]) else .bad
    | none => .bad
  | _ => .bad
def eSS (f : EM D) : EM D := fun τ st => (f τ st).bind fSortSet
theorem tup_refs {K : PySem.W.Frag} {m : List Addr} {H : Hp} : ∀ {xs : List D} {vs : List V}, (∀ x ∈ xs, x.tupQ = true) → RDs K m H xs vs → ∃ Z : List (D × Addr), Z.map (·.1) = xs ∧ vs = Z.map (fun z => V.ref z.2) ∧ ∀ z ∈ Z, RD K m H z.1 (.ref z.2) ∧ NV K H z.1.nk (.ref z.2) ∧ z.1.nk.depth ≤ 8
  | _, _, _, .nil => ⟨[], rfl, rfl, fun _ h => nomatch h⟩
  | x :: xs, _, hx, .cons r t => by
    obtain ⟨b, rfl, h1, h2⟩ := tupQ_of (hx x List.mem_cons_self) r
    obtain ⟨Z, z1, z2, z3⟩ := tup_refs (fun y hy => hx y (List.mem_cons_of_mem _ hy)) t
    refine ⟨(x, b) :: Z, by rw [List.map_cons, z1], by rw [List.map_cons, z2], fun z hz => ?_⟩
    rcases List.mem_cons.mp hz with e | hz
    · rw [e]
      exact ⟨r, h1, h2⟩
    · exact z3 z hz
theorem chosen {α β : Type} {f : α → β} {Z : List α} : ∀ {L : List β}, (∀ q ∈ L, ∃ z ∈ Z, q = f z) → ∃ Y : List α, L = Y.map f ∧ ∀ z ∈ Y, z ∈ Z
  | [], _ => ⟨[], rfl, fun _ h => nomatch h⟩
  | q :: L, h => by
    obtain ⟨z, hz, rfl⟩ := h q List.mem_cons_self
    obtain ⟨Y, rfl, hY⟩ := chosen fun p hp => h p (List.mem_cons_of_mem _ hp)
    refine ⟨z :: Y, rfl, fun y hy => ?_⟩
    rcases List.mem_cons.mp hy with e | hy
    · rw [e]; exact hz
    · exact hY y hy
section
variable {X : Cx} {W : WX}
theorem setsort_ask {m : List Addr} {st : Store} {H : Hp} {d : D} {v : V} {E : XK} {Q : VK} (hS : SS X.kw m st H) (rv : RD X.K m H d v) (hP : Pe X.kw E (RD X.K) m H (fSortSet d st) Q) : rSetN X.kw [v] H fun x H2 => rSortN X.kw [x] H2 Q := by
  unfold fSortSet at hP
  cases d with
  | ref n =>
    simp only at hP
    cases hx : lstAt st n with
    | none => rw [hx] at hP; exact hP.elim
    | some xs =>
      rw [hx] at hP
      simp only at hP
      split at hP
      · rename_i hc
        simp only [Bool.and_eq_true, decide_eq_true_eq, List.all_eq_true] at hc
        obtain ⟨⟨⟨h1, h2⟩, h3⟩, h4⟩ := hc
        obtain ⟨M, hM⟩ : ∃ M, M = sortD (dedupD xs) := ⟨_, rfl⟩
        rw [← hM] at h2 h3 h4 hP
        have pM : M.Perm (dedupD xs) := by rw [hM]; exact List.mergeSort_perm ..
        obtain ⟨a, vs, rfl, hq, rs⟩ : ∃ a vs, v = .ref a ∧ SqL X.K H a vs ∧ RDs X.K m H xs vs := by
          cases rv with
          | ref q =>
            obtain ⟨vs, y1, y2⟩ := hS.list hx q
            exact ⟨_, vs, rfl, SqL.of y1, y2⟩
        obtain ⟨Z, z1, rfl, z3⟩ := tup_refs h1 rs
        refine ⟨a, Z.map (fun z => (z.2, z.1.nk)), (dedupD xs).map D.nk, rfl, by rw [List.map_map]; exact hq, fun q hq => ?_, ?_, fun q hq => ?_, fun p L hp k1 k2 k3 => ?_⟩
        · obtain ⟨z, hz, rfl⟩ := List.mem_map.mp hq
          exact (z3 z hz).2
        · rw [List.length_map, ← pM.length_eq]
          exact h2
        · obtain ⟨z, hz, rfl⟩ := List.mem_map.mp hq
          refine List.mem_map.mpr ⟨z.1, mem_dedup.mpr ?_, rfl⟩
          rw [← z1]
          exact List.mem_map.mpr ⟨z, hz, rfl⟩
        · have kp : Ext X.K m H m (upd H p (SetNO X.w p L)) := Ext.fresh hp
          have hS2 : SS X.kw m st (upd H p (SetNO X.w p L)) := hS.fresh hp
          obtain ⟨Y, eL, hY⟩ := chosen (f := fun z : D × Addr => (z.2, z.1.nk)) (Z := Z) (L := L) fun q hq => by
            obtain ⟨z, hz, e⟩ := List.mem_map.mp (k1 q hq)
            exact ⟨z, hz, e.symm⟩
          subst eL
          have mem1 : ∀ z ∈ Z, z.1 ∈ xs := fun z hz => by
            rw [← z1]
            exact List.mem_map.mpr ⟨z, hz, rfl⟩
          have nkY : (Y.map fun z => z.1.nk).Nodup := by
            rw [List.map_map] at k3
            exact k3
          have ndY : (Y.map (·.1)).Nodup := by
            rw [List.nodup_iff_pairwise_ne, List.pairwise_map] at nkY ⊢
            exact nkY.imp fun {x y} hne e => hne (by rw [e])
          have pY : (Y.map (·.1)).Perm M := by
            refine ((List.perm_ext_iff_of_nodup ndY (dedup_nd xs)).mpr fun x => ?_).trans pM.symm
            rw [mem_dedup]
            constructor
            · intro hx
              obtain ⟨z, hz, rfl⟩ := List.mem_map.mp hx
              exact mem1 z (hY z hz)
            · intro hx
              obtain ⟨z, hz, e⟩ : ∃ z ∈ Z, z.1 = x := by
                rw [← z1] at hx
                obtain ⟨z, hz, e⟩ := List.mem_map.mp hx
                exact ⟨z, hz, e⟩
              have y1 := k2 (z.2, z.1.nk) (List.mem_map.mpr ⟨z, hz, rfl⟩)
              rw [List.map_map] at y1
              obtain ⟨y, hy, e2⟩ := List.mem_map.mp y1
              refine List.mem_map.mpr ⟨y, hy, ?_⟩
              rw [← e]
              exact nk_inj 8 _ _ (tupQ_plain (h1 _ (mem1 y (hY y hy)))) (tupQ_plain (h1 _ (mem1 z hz))) e2
          have rY : ∀ z ∈ Y, RD X.K m H z.1 (.ref z.2) := fun z hz => (z3 z (hY z hz)).1
          have pl : ∀ z ∈ Y, z.1.plain 60 = true := fun z hz => by
            have z4 := h4
            unfold sortable at z4
            simp only [Bool.and_eq_true, List.all_eq_true] at z4
            exact z4.1.1 z.1 (pY.mem_iff.mp (List.mem_map.mpr ⟨z, hz, rfl⟩))
          refine ⟨p, _, Y.map fun z => (z.1, V.ref z.2), rfl, upd_same, fun q hq => ?_, by rw [List.map_map, List.map_map]; rfl, fun b hb => ?_, fun cs pc => ?_⟩
          · obtain ⟨z, hz, rfl⟩ := List.mem_map.mp hq
            have w := (tupQ_of (h1 _ (mem1 z (hY z hz))) ((rY z hz).kp kp.toKp))
            obtain ⟨b, e, w1, w2⟩ := w
            cases e
            exact ⟨w1, w2⟩
          · obtain ⟨z, hz, rfl⟩ := List.mem_map.mp hb
            obtain ⟨a1, _, a3⟩ := plain_dp 60 z.1 _ (pl z hz) ((rY z hz).kp kp.toKp)
            exact ⟨a1, a3⟩
          · have rc : ∀ b ∈ cs, RD X.K m (upd H p (SetNO X.w p (Y.map fun z => (z.2, z.1.nk)))) b.1 b.2 := fun b hb => by
              obtain ⟨z, hz, rfl⟩ := List.mem_map.mp (pc.mem_iff.mp hb)
              exact (rY z hz).kp kp.toKp
            have pcM : (cs.map (·.1)).Perm M := by
              refine (pc.map (·.1)).trans ?_
              rw [List.map_map]
              exact pY
            obtain ⟨al, so⟩ := sortable_ask (sortable_perm pcM h4)
            have em : cs.map (fun b => b.1.toP 60) = (cs.map (·.1)).map (D.toP 60) := by
              rw [List.map_map]
              rfl
            refine ⟨by rw [em]; exact al, by rw [em]; exact so, ?_⟩
            have e1 : cs.mergeSort (dataLe false fun b => b.1.toP 60) = cs.mergeSort (fun b c => sortLeD b.1 c.1) := rfl
            have e2 : (cs.mergeSort (fun b c => sortLeD b.1 c.1)).map (·.1) = M := by
              refine (sort_maps (s := sortLeD) (Prod.fst : D × V → D) (fun _ _ _ _ => rfl)).trans ?_
              exact h3.sort pcM
            rw [e1]
            have y5 := rds_of (m := m) (bs := cs.mergeSort (fun b c => sortLeD b.1 c.1)) fun b hb => rc b (List.mem_mergeSort.mp hb)
            rw [e2] at y5
            exact (Pe.up hP kp).lst hS2 y5
      · exact hP.elim
  | _ => exact hP.elim
theorem ex_sortset {e : Expr} {f : EM D} {p p2 q pos : Pos} (hc : X.calm = true) (hu : X.A.units + 65 < cLine) (he : Ex X W e f) (hg1 : Gl X "sorted") (hm1 : X.mg "sorted" = none) (hg2 : Gl X "set") (hm2 : X.mg "set" = none)
    (k1 : starEach [e] X.env = (false, eval e X.env) :: starEach [] X.env := by rfl) (k2 : starEach [Expr.Call (.Name "set" p2) [e] [] q] X.env = (false, eval (Expr.Call (.Name "set" p2) [e] [] q) X.env) :: starEach [] X.env := by rfl)
    (k3 : (backTo q (starEach [] X.env)).any (·.1) = false := by rfl) (k4 : (backTo pos (starEach [] X.env)).any (·.1) = false := by rfl) :
    Ex X W (.Call (.Name "sorted" p) [.Call (.Name "set" p2) [e] [] q] [] pos) (eSS f) := by
  refine ⟨fun m τ st σ H Q hL hS hP pins s I => (pe_callB (cr_sortN hc hu) hg1 hm1 rfl (pa_cons (pe_callTy (cr_setN hc (by omega)) hg2 hm2 rfl (pa_cons peW pa_nil k1) (by decide) (by decide) k1 k3) pa_nil k2) (by decide) (by decide) k2 k4).run pins s σ H Q I ?_⟩
  exact he.run m τ st σ H _ hL hS (hP.bind fun d s1 m1 H1 v e1 hS1 r1 hP1 => setsort_ask hS1 r1 hP1)
end
@[simp] theorem eSS_e {f : EM D} {τ : Sl} {st : Store} : eSS f τ st = (f τ st).bind fSortSet := rfl
theorem sortset_ref {st : Store} {n : Nat} {xs M : List D} (h : lstAt st n = some xs) (hM : AscD M) (hm : ∀ x, x ∈ M ↔ x ∈ xs) (hq : ∀ x ∈ M, x.tupQ = true) (hl : M.length ≤ 62) (hs : sortable M = true) : fSortSet (.ref n) st = .ok (.ref st.length) (st ++ [.lst M]) := by
  have p : (dedupD xs).Perm M := (List.perm_ext_iff_of_nodup (dedup_nd xs) hM.nd).mpr fun x => by rw [mem_dedup, hm]
  have e := hM.sort p
  have q : xs.all D.tupQ = true := List.all_eq_true.mpr fun x hx => hq x ((hm x).mpr hx)
  unfold fSortSet
  simp only [h, e]
  rw [if_pos (by simp [q, hl, hM, hs])]
end HM

namespace K04
open PySem PySem.Spec PyProof.Rows L2 HM
def top (i : Nat) : Stmt := PySem.Challenge.pw_closedratios_k04_sides.main.body.getD i (.Pass ⟨0, 0, 0, 0⟩)
abbrev s_sides : Stmt := top 1
abbrev s_count_edits : Stmt := top 2
abbrev s_is_allowed : Stmt := top 3
abbrev s_is_edit : Stmt := top 4
abbrev s_is_nearness : Stmt := top 5
abbrev s__law_begin : Stmt := top 7
abbrev s__law_draw : Stmt := top 8
abbrev s__law_pick : Stmt := top 9
abbrev s__law_rare : Stmt := top 10
abbrev s__law_is_int : Stmt := top 11
abbrev s__law_is_ints : Stmt := top 12
abbrev s__law_all_edits : Stmt := top 13
abbrev s__law_near : Stmt := top 14
abbrev s__law_side : Stmt := top 15
abbrev s__law_edits : Stmt := top 16
abbrev s__law_some_steps : Stmt := top 17
abbrev s__law_some_nears : Stmt := top 18
abbrev s__law_is_near : Stmt := top 19
abbrev s__law_spoilt_near : Stmt := top 20
abbrev s__law_sides_right : Stmt := top 21
abbrev s__law_judged : Stmt := top 22
abbrev s__law_long_right : Stmt := top 23
abbrev s_law : Stmt := top 24
def N_sides : List PySem.Str := ["alignment", "first", "second", "step", "word"]
theorem sc_sides : FnScope N_sides ["alignment"] (defScope s_sides) := ⟨rfl, rfl, rfl, by decide +kernel, rfl, by decide +kernel, by decide +kernel⟩
def m_sides : SM := (sSeq (sSet 1 (eLst aNil))
    (sSeq (sSet 2 (eLst aNil))
    (sSeq (sFor (iEx (eVar 0)) (gN 3) (sSeq (sSet 4 (eBin oIx (eVar 3) (eC (.int 0))))
    (sSeq (sIf (tBl (eBin oNe (eVar 4) (eC (.str [112, 117, 116])))) (sExpr (eM "list" mAppend (eVar 1) (aCons (eBin oIx (eVar 3) (eC (.int 1))) aNil))) sNil)
    (sSeq (sIf (tOr (tBl (eBin oEq (eVar 4) (eC (.str [107, 101, 101, 112])))) (tBl (eBin oEq (eVar 4) (eC (.str [112, 117, 116]))))) (sExpr (eM "list" mAppend (eVar 2) (aCons (eBin oIx (eVar 3) (eC (.int 1))) aNil))) sNil)
    (sIf (tBl (eBin oEq (eVar 4) (eC (.str [116, 117, 114, 110])))) (sExpr (eM "list" mAppend (eVar 2) (aCons (eBin oIx (eVar 3) (eC (.int 2))) aNil))) sNil)))))
    (sRet (eTup (aCons (eCB fTuple (aCons (eVar 1) aNil)) (aCons (eCB fTuple (aCons (eVar 2) aNil)) aNil)))))))
theorem ok_sides {P : Program} {w : World} {K : PySem.W.Frag} {mg : PySem.Str → Option Value} {base : Heap} {f : Addr} {fd : FuncData} (F : FnP K "sides" s_sides f fd) (gx : mg "sides" = some (.ref f)) (z_tuple : mg "tuple" = none) :
    Cal P w K mg base "sides" 1 ["alignment"] (runB 5 (m_sides)) :=
  cal_mk (k := 0) F sc_sides gx (fun _ _ _ _ _ _ us hl => match us, hl with | [_], _ => rfl) fun cdv A outer s H E hr tk hp =>
    (sx_cons (sx_set sc_sides.nd (ex_lst ea_nil))
    (sx_cons (sx_set sc_sides.nd (ex_lst ea_nil))
    (sx_cons (sx_for hp (by rfl) (ei_ex (xv 0)) (eg_name sc_sides.nd) (sx_cons (sx_set sc_sides.nd (ex_ix (m_ix hr.units65) (xv 3) ex_int))
    (sx_cons (sx_if (et_cmp (m_ne hr.units) (xv 4) (ex_strc [112, 117, 116] (by decide +kernel)) (nomark _)) (sx_one (sx_expr (ex_m PySem.F.plainAttrs_list PySem.F.slot_list_append PySem.F.type_list_append me_append (xv 1) (ea_cons (ex_ix (m_ix hr.units65) (xv 3) ex_int) ea_nil)))) sx_nil)
    (sx_cons (sx_if (Ew.et (ew_or (et_cmp (m_eq hr.units) (xv 4) (ex_strc [107, 101, 101, 112] (by decide +kernel)) (nomark _)) (ew_or1 (et_cmp (m_eq hr.units) (xv 4) (ex_strc [112, 117, 116] (by decide +kernel)) (nomark _))))) (sx_one (sx_expr (ex_m PySem.F.plainAttrs_list PySem.F.slot_list_append PySem.F.type_list_append me_append (xv 2) (ea_cons (ex_ix (m_ix hr.units65) (xv 3) ex_int) ea_nil)))) sx_nil)
    (sx_one (sx_if (et_cmp (m_eq hr.units) (xv 4) (ex_strc [116, 117, 114, 110] (by decide +kernel)) (nomark _)) (sx_one (sx_expr (ex_m PySem.F.plainAttrs_list PySem.F.slot_list_append PySem.F.type_list_append me_append (xv 2) (ea_cons (ex_ix (m_ix hr.units65) (xv 3) ex_int) ea_nil)))) sx_nil))))))
    (sx_one (sx_ret (ex_tup (ea_cons (ex_callT c_tuple (by rfl) z_tuple bt_tuple (ea_cons (xv 1) ea_nil)) (ea_cons (ex_callT c_tuple (by rfl) z_tuple bt_tuple (ea_cons (xv 2) ea_nil)) ea_nil))))))))
def N_count_edits : List PySem.Str := ["alignment", "step"]
theorem sc_count_edits : FnScope N_count_edits ["alignment"] (defScope s_count_edits) := ⟨rfl, rfl, rfl, by decide +kernel, rfl, by decide +kernel, by decide +kernel⟩
def m_count_edits : SM := (sRet (eCS gLen (lComp [1] (iEx (eVar 0)) (gN 1) (tBl (eBin oNe (eBin oIx (eVar 1) (eC (.int 0))) (eC (.str [107, 101, 101, 112])))) (eVar 1))))
theorem ok_count_edits {P : Program} {w : World} {K : PySem.W.Frag} {mg : PySem.Str → Option Value} {base : Heap} {f : Addr} {fd : FuncData} (F : FnP K "count_edits" s_count_edits f fd) (gx : mg "count_edits" = some (.ref f)) (z_len : mg "len" = none) :
    Cal P w K mg base "count_edits" 1 ["alignment"] (runB 2 (m_count_edits)) :=
  cal_mk (k := 0) F sc_count_edits gx (fun _ _ _ _ _ _ us hl => match us, hl with | [_], _ => rfl) fun cdv A outer s H E hr tk hp =>
    (sx_one (sx_ret (ex_callBs s_len (by rfl) z_len bt_len (es_el (el_comp (own := [(("step" : PySem.Str), 1)]) (by rfl) sc_count_edits.nd (ei_ex (xv 0)) (blkOk_by (N := N_count_edits) (sc := (defScope s_count_edits)) (by decide +kernel)) (fun _ _ _ _ _ => (eg_name sc_count_edits.nd)) (fun _ _ _ _ _ => (ets_one (et_cmp (m_ne hr.units) (ex_ix (m_ix hr.units65) (xv 1) ex_int) (ex_strc [107, 101, 101, 112] (by decide +kernel)) (nomark _)))) (fun _ _ _ _ _ => (xv 1)))))))
def N_is_allowed : List PySem.Str := ["near", "alignment", "step"]
theorem sc_is_allowed : FnScope N_is_allowed ["near", "alignment"] (defScope s_is_allowed) := ⟨rfl, rfl, rfl, by decide +kernel, rfl, by decide +kernel, by decide +kernel⟩
def m_is_allowed : SM := (sSeq (sFor (iEx (eVar 1)) (gN 2) (sIf (tAnd (tBl (eBin oNe (eBin oIx (eVar 2) (eC (.int 0))) (eC (.str [107, 101, 101, 112])))) (tBl (eBin oNotIn (eVar 2) (eVar 0)))) (sRet (eC (.bl false))) sNil))
    (sRet (eC (.bl true))))
theorem ok_is_allowed {P : Program} {w : World} {K : PySem.W.Frag} {mg : PySem.Str → Option Value} {base : Heap} {f : Addr} {fd : FuncData} (F : FnP K "is_allowed" s_is_allowed f fd) (gx : mg "is_allowed" = some (.ref f))  :
    Cal P w K mg base "is_allowed" 1 ["near", "alignment"] (runB 3 (m_is_allowed)) :=
  cal_mk (k := 0) F sc_is_allowed gx (fun _ _ _ _ _ _ us hl => match us, hl with | [_, _], _ => rfl) fun cdv A outer s H E hr tk hp =>
    (sx_cons (sx_for hp (by rfl) (ei_ex (xv 1)) (eg_name sc_is_allowed.nd) (sx_one (sx_if (Ew.et (ew_and (et_cmp (m_ne hr.units) (ex_ix (m_ix hr.units65) (xv 2) ex_int) (ex_strc [107, 101, 101, 112] (by decide +kernel)) (nomark _)) (ew_and1 (et_cmp (m_notin hr.units65) (xv 2) (xv 0) (by rfl))))) (sx_one (sx_ret ex_bl)) sx_nil)))
    (sx_one (sx_ret ex_bl)))
def N_is_edit : List PySem.Str := ["kinds", "edit", "kind"]
theorem sc_is_edit : FnScope N_is_edit ["kinds", "edit"] (defScope s_is_edit) := ⟨rfl, rfl, rfl, by decide +kernel, rfl, by decide +kernel, by decide +kernel⟩
def m_is_edit : SM := (sSeq (sIf (tBl (eBin oLt (eCB fLen (aCons (eVar 1) aNil)) (eC (.int 2)))) (sRet (eC (.bl false))) sNil)
    (sSeq (sFor (iEx (eSl (eVar 1) (oSome (eC (.int 1))) oNone)) (gN 2) (sIf (tOr (tBl (eBin oLt (eVar 2) (eC (.int 0)))) (tBl (eBin oGe (eVar 2) (eVar 0)))) (sRet (eC (.bl false))) sNil))
    (sSeq (sIf (tBl (eBin oEq (eBin oIx (eVar 1) (eC (.int 0))) (eC (.str [116, 117, 114, 110])))) (sRet (eAnd (eBin oEq (eCB fLen (aCons (eVar 1) aNil)) (eC (.int 3))) (eBin oNe (eBin oIx (eVar 1) (eC (.int 1))) (eBin oIx (eVar 1) (eC (.int 2)))))) sNil)
    (sRet (eAnd (eBin oIn (eBin oIx (eVar 1) (eC (.int 0))) (eTup (aCons (eC (.str [99, 117, 116])) (aCons (eC (.str [112, 117, 116])) aNil)))) (eBin oEq (eCB fLen (aCons (eVar 1) aNil)) (eC (.int 2))))))))
theorem ok_is_edit {P : Program} {w : World} {K : PySem.W.Frag} {mg : PySem.Str → Option Value} {base : Heap} {f : Addr} {fd : FuncData} (F : FnP K "is_edit" s_is_edit f fd) (gx : mg "is_edit" = some (.ref f)) (z_len : mg "len" = none) :
    Cal P w K mg base "is_edit" 1 ["kinds", "edit"] (runB 3 (m_is_edit)) :=
  cal_mk (k := 0) F sc_is_edit gx (fun _ _ _ _ _ _ us hl => match us, hl with | [_, _], _ => rfl) fun cdv A outer s H E hr tk hp =>
    (sx_cons (sx_if (et_cmp (m_lt hr.units65) (ex_callB c_len (by rfl) z_len bt_len (ea_cons (xv 1) ea_nil)) ex_int (nomark _)) (sx_one (sx_ret ex_bl)) sx_nil)
    (sx_cons (sx_for hp (by rfl) (ei_ex (ex_sl (xv 1) (eo_some ex_int) eo_none)) (eg_name sc_is_edit.nd) (sx_one (sx_if (Ew.et (ew_or (et_cmp (m_lt hr.units65) (xv 2) ex_int (nomark _)) (ew_or1 (et_cmp m_ge (xv 2) (xv 0) (nomark _))))) (sx_one (sx_ret ex_bl)) sx_nil)))
    (sx_cons (sx_if (et_cmp (m_eq hr.units) (ex_ix (m_ix hr.units65) (xv 1) ex_int) (ex_strc [116, 117, 114, 110] (by decide +kernel)) (nomark _)) (sx_one (sx_ret (ex_and (ex_cmp (m_eq hr.units) (ex_callB c_len (by rfl) z_len bt_len (ea_cons (xv 1) ea_nil)) ex_int (nomark _)) (ex_one (ex_cmp (m_ne hr.units) (ex_ix (m_ix hr.units65) (xv 1) ex_int) (ex_ix (m_ix hr.units65) (xv 1) ex_int) (nomark _)))))) sx_nil)
    (sx_one (sx_ret (ex_and (ex_cmp (m_in hr.units65) (ex_ix (m_ix hr.units65) (xv 1) ex_int) (ex_tup (ea_cons (ex_strc [99, 117, 116] (by decide +kernel)) (ea_cons (ex_strc [112, 117, 116] (by decide +kernel)) ea_nil))) (by rfl)) (ex_one (ex_cmp (m_eq hr.units) (ex_callB c_len (by rfl) z_len bt_len (ea_cons (xv 1) ea_nil)) ex_int (nomark _)))))))))
def N_is_nearness : List PySem.Str := ["kinds", "near", "edit", "place"]
theorem sc_is_nearness : FnScope N_is_nearness ["kinds", "near"] (defScope s_is_nearness) := ⟨rfl, rfl, rfl, by decide +kernel, rfl, by decide +kernel, by decide +kernel⟩
def m_is_nearness (f_is_edit : FM) : SM := (sSeq (sFor (iEx (eVar 1)) (gN 2) (sIf (HM.tNot (tVal (eCall 2 f_is_edit (aCons (eVar 0) (aCons (eVar 2) aNil))))) (sRet (eC (.bl false))) sNil))
    (sSeq (sFor (iRg1 (eBin oSub (eCB fLen (aCons (eVar 1) aNil)) (eC (.int 1)))) (gN 3) (sIf (HM.tNot (tBl (eBin oLt (eBin oIx (eVar 1) (eVar 3)) (eBin oIx (eVar 1) (eBin oAdd (eVar 3) (eC (.int 1))))))) (sRet (eC (.bl false))) sNil))
    (sRet (eC (.bl true)))))
theorem ok_is_nearness {P : Program} {w : World} {K : PySem.W.Frag} {mg : PySem.Str → Option Value} {base : Heap} {f : Addr} {fd : FuncData} {f_is_edit : FM} (F : FnP K "is_nearness" s_is_nearness f fd) (gx : mg "is_nearness" = some (.ref f)) (c_is_edit : Cal P w K mg base "is_edit" 1 ["kinds", "edit"] f_is_edit) (z_range : mg "range" = none) (z_len : mg "len" = none) :
    Cal P w K mg base "is_nearness" 2 ["kinds", "near"] (runB 4 (m_is_nearness f_is_edit)) :=
  cal_mk (k := 1) F sc_is_nearness gx (fun _ _ _ _ _ _ us hl => match us, hl with | [_, _], _ => rfl) fun cdv A outer s H E hr tk hp =>
    (sx_cons (sx_for hp (by rfl) (ei_ex (xv 1)) (eg_name sc_is_nearness.nd) (sx_one (sx_if (et_not (et_val (ex_c1 c_is_edit tk hr (by decide) (ea_cons (xv 0) (ea_cons (xv 2) ea_nil))))) (sx_one (sx_ret ex_bl)) sx_nil)))
    (sx_cons (sx_for hp (by rfl) (ei_range1 (by rfl) z_range (ex_op m_sub (ex_callB c_len (by rfl) z_len bt_len (ea_cons (xv 1) ea_nil)) ex_int)) (eg_name sc_is_nearness.nd) (sx_one (sx_if (et_not (et_cmp (m_lt hr.units65) (ex_ix (m_ix hr.units65) (xv 1) (xv 3)) (ex_ix (m_ix hr.units65) (xv 1) (ex_op m_add (xv 3) ex_int)) (nomark _))) (sx_one (sx_ret ex_bl)) sx_nil)))
    (sx_one (sx_ret ex_bl))))
def N__law_begin : List PySem.Str := ["script", "cell"]
theorem sc__law_begin : FnScope N__law_begin ["script"] (defScope s__law_begin) := ⟨rfl, rfl, rfl, by decide +kernel, rfl, by decide +kernel, by decide +kernel⟩
def m__law_begin : SM := (sRet (eLst (aCons (eEl (lComp [1] (iEx (eVar 0)) (gN 1) tYes (eCB fInt (aCons (eVar 1) aNil)))) (aCons (eC (.int 0)) (aCons (eC (.int 0)) (aCons (eC (.int 7)) aNil))))))
theorem ok__law_begin {P : Program} {w : World} {K : PySem.W.Frag} {mg : PySem.Str → Option Value} {base : Heap} {f : Addr} {fd : FuncData} (F : FnP K "_law_begin" s__law_begin f fd) (gx : mg "_law_begin" = some (.ref f)) (z_int : mg "int" = none) :
    Cal P w K mg base "_law_begin" 1 ["script"] (runB 2 (m__law_begin)) :=
  cal_mk (k := 0) F sc__law_begin gx (fun _ _ _ _ _ _ us hl => match us, hl with | [_], _ => rfl) fun cdv A outer s H E hr tk hp =>
    (sx_one (sx_ret (ex_lst (ea_cons (ex_el (el_comp (own := [(("cell" : PySem.Str), 1)]) (by rfl) sc__law_begin.nd (ei_ex (xv 0)) (blkOk_by (N := N__law_begin) (sc := (defScope s__law_begin)) (by decide +kernel)) (fun _ _ _ _ _ => (eg_name sc__law_begin.nd)) (fun _ _ _ _ _ => ets_nil) (fun _ _ _ _ _ => (ex_callT c_int (by rfl) z_int bt_int (ea_cons (xv 1) ea_nil))))) (ea_cons ex_int (ea_cons ex_int (ea_cons ex_int ea_nil)))))))
def N__law_draw : List PySem.Str := ["d", "many", "found", "size", "cell"]
theorem sc__law_draw : FnScope N__law_draw ["d", "many"] (defScope s__law_draw) := ⟨rfl, rfl, rfl, by decide +kernel, rfl, by decide +kernel, by decide +kernel⟩
def m__law_draw : SM := (sSeq (sIf (tBl (eBin oGt (eBin oIx (eVar 0) (eC (.int 2))) (eC (.int 0)))) (sSeq (sSet 2 (eBin oIx (eVar 0) (eC (.int 2))))
    (sSeq (sSub (eVar 0) (eC (.int 2)) (eBin oDiv (eVar 2) (eVar 1)))
    (sRet (eBin oMod (eCB fInt (aCons (eVar 2) aNil)) (eVar 1))))) sNil)
    (sSeq (sSet 3 (eC (.int 0)))
    (sSeq (sIf (tBl (eBin oLt (eBin oIx (eVar 0) (eC (.int 1))) (eCB fLen (aCons (eBin oIx (eVar 0) (eC (.int 0))) aNil)))) (sSeq (sSet 4 (eBin oIx (eBin oIx (eVar 0) (eC (.int 0))) (eBin oIx (eVar 0) (eC (.int 1)))))
    (sSet 3 (eBin oAdd (eBin oMul (eC (.int 2)) (eCB fAbs (aCons (eVar 4) aNil))) (eCB fInt (aCons (eBin oLt (eVar 4) (eC (.int 0))) aNil))))) sNil)
    (sSeq (sAugS oIAdd (eVar 0) (eC (.int 1)) (eC (.int 1)))
    (sSeq (sIf (tBl (eBin oGe (eVar 3) (eBin oMul (eC (.int 2)) (eBin oPow (eC (.int 10)) (eC (.int 18)))))) (sSeq (sSet 2 (eBin oMod (eCB fInt (aCons (eBin oDiv (eVar 3) (eC (.int 2))) aNil)) (eBin oShl (eC (.int 1)) (eC (.int 6000)))))
    (sSeq (sSub (eVar 0) (eC (.int 2)) (eBin oDiv (eVar 2) (eVar 1)))
    (sRet (eBin oMod (eCB fInt (aCons (eVar 2) aNil)) (eVar 1))))) sNil)
    (sSeq (sSub (eVar 0) (eC (.int 3)) (eBin oMod (eCB fInt (aCons (eBin oAdd (eBin oAdd (eBin oAdd (eBin oMul (eBin oIx (eVar 0) (eC (.int 3))) (eC (.int 48271))) (eBin oMul (eBin oMod (eCB fInt (aCons (eVar 3) aNil)) (eC (.int 2147483629))) (eC (.int 16807)))) (eBin oMul (eBin oIx (eVar 0) (eC (.int 1))) (eC (.int 69621)))) (eC (.int 11))) aNil)) (eC (.int 2147483647))))
    (sRet (eBin oMod (eCB fInt (aCons (eBin oDiv (eBin oIx (eVar 0) (eC (.int 3))) (eC (.int 16))) aNil)) (eVar 1)))))))))
theorem ok__law_draw {P : Program} {w : World} {K : PySem.W.Frag} {mg : PySem.Str → Option Value} {base : Heap} {f : Addr} {fd : FuncData} (F : FnP K "_law_draw" s__law_draw f fd) (gx : mg "_law_draw" = some (.ref f)) (z_int : mg "int" = none) (z_len : mg "len" = none) (z_abs : mg "abs" = none) :
    Cal P w K mg base "_law_draw" 1 ["d", "many"] (runB 5 (m__law_draw)) :=
  cal_mk (k := 0) F sc__law_draw gx (fun _ _ _ _ _ _ us hl => match us, hl with | [_, _], _ => rfl) fun cdv A outer s H E hr tk hp =>
    (sx_cons (sx_if (et_cmp m_gt (ex_ix (m_ix hr.units65) (xv 0) ex_int) ex_int (nomark _)) (sx_cons (sx_set sc__law_draw.nd (ex_ix (m_ix hr.units65) (xv 0) ex_int))
    (sx_cons (sx_sub hr.units65 (ex_op m_div (xv 2) (xv 1)) (xv 0) ex_int)
    (sx_one (sx_ret (ex_op m_mod (ex_callT c_int (by rfl) z_int bt_int (ea_cons (xv 2) ea_nil)) (xv 1)))))) sx_nil)
    (sx_cons (sx_set sc__law_draw.nd ex_int)
    (sx_cons (sx_if (et_cmp (m_lt hr.units65) (ex_ix (m_ix hr.units65) (xv 0) ex_int) (ex_callB c_len (by rfl) z_len bt_len (ea_cons (ex_ix (m_ix hr.units65) (xv 0) ex_int) ea_nil)) (nomark _)) (sx_cons (sx_set sc__law_draw.nd (ex_ix (m_ix hr.units65) (ex_ix (m_ix hr.units65) (xv 0) ex_int) (ex_ix (m_ix hr.units65) (xv 0) ex_int)))
    (sx_one (sx_set sc__law_draw.nd (ex_op m_add (ex_op m_mul ex_int (ex_callB c_abs (by rfl) z_abs bt_abs (ea_cons (xv 4) ea_nil))) (ex_callT c_int (by rfl) z_int bt_int (ea_cons (ex_cmp (m_lt hr.units65) (xv 4) ex_int (nomark _)) ea_nil)))))) sx_nil)
    (sx_cons (sx_augS hr.units65 (xv 0) ex_int ex_int mi_add)
    (sx_cons (sx_if (et_cmp m_ge (xv 3) (ex_op m_mul ex_int (ex_op m_pow ex_int ex_int)) (nomark _)) (sx_cons (sx_set sc__law_draw.nd (ex_op m_mod (ex_callT c_int (by rfl) z_int bt_int (ea_cons (ex_op m_div (xv 3) ex_int) ea_nil)) (ex_op m_shl ex_int ex_int)))
    (sx_cons (sx_sub hr.units65 (ex_op m_div (xv 2) (xv 1)) (xv 0) ex_int)
    (sx_one (sx_ret (ex_op m_mod (ex_callT c_int (by rfl) z_int bt_int (ea_cons (xv 2) ea_nil)) (xv 1)))))) sx_nil)
    (sx_cons (sx_sub hr.units65 (ex_op m_mod (ex_callT c_int (by rfl) z_int bt_int (ea_cons (ex_op m_add (ex_op m_add (ex_op m_add (ex_op m_mul (ex_ix (m_ix hr.units65) (xv 0) ex_int) ex_int) (ex_op m_mul (ex_op m_mod (ex_callT c_int (by rfl) z_int bt_int (ea_cons (xv 3) ea_nil)) ex_int) ex_int)) (ex_op m_mul (ex_ix (m_ix hr.units65) (xv 0) ex_int) ex_int)) ex_int) ea_nil)) ex_int) (xv 0) ex_int)
    (sx_one (sx_ret (ex_op m_mod (ex_callT c_int (by rfl) z_int bt_int (ea_cons (ex_op m_div (ex_ix (m_ix hr.units65) (xv 0) ex_int) ex_int) ea_nil)) (xv 1))))))))))
def N__law_pick : List PySem.Str := ["d", "row"]
theorem sc__law_pick : FnScope N__law_pick ["d", "row"] (defScope s__law_pick) := ⟨rfl, rfl, rfl, by decide +kernel, rfl, by decide +kernel, by decide +kernel⟩
def m__law_pick (f__law_draw : FM) : SM := (sRet (eBin oIx (eVar 1) (eCall 2 f__law_draw (aCons (eVar 0) (aCons (eCB fLen (aCons (eVar 1) aNil)) aNil)))))
theorem ok__law_pick {P : Program} {w : World} {K : PySem.W.Frag} {mg : PySem.Str → Option Value} {base : Heap} {f : Addr} {fd : FuncData} {f__law_draw : FM} (F : FnP K "_law_pick" s__law_pick f fd) (gx : mg "_law_pick" = some (.ref f)) (c__law_draw : Cal P w K mg base "_law_draw" 1 ["d", "many"] f__law_draw) (z_len : mg "len" = none) :
    Cal P w K mg base "_law_pick" 2 ["d", "row"] (runB 2 (m__law_pick f__law_draw)) :=
  cal_mk (k := 1) F sc__law_pick gx (fun _ _ _ _ _ _ us hl => match us, hl with | [_, _], _ => rfl) fun cdv A outer s H E hr tk hp =>
    (sx_one (sx_ret (ex_ix (m_ix hr.units65) (xv 1) (ex_c1 c__law_draw tk hr (by decide) (ea_cons (xv 0) (ea_cons (ex_callB c_len (by rfl) z_len bt_len (ea_cons (xv 1) ea_nil)) ea_nil))))))
def N__law_rare : List PySem.Str := ["d", "many"]
theorem sc__law_rare : FnScope N__law_rare ["d", "many"] (defScope s__law_rare) := ⟨rfl, rfl, rfl, by decide +kernel, rfl, by decide +kernel, by decide +kernel⟩
def m__law_rare (f__law_draw : FM) : SM := (sRet (eBin oEq (eCall 2 f__law_draw (aCons (eVar 0) (aCons (eVar 1) aNil))) (eBin oDiv (eVar 1) (eC (.int 2)))))
theorem ok__law_rare {P : Program} {w : World} {K : PySem.W.Frag} {mg : PySem.Str → Option Value} {base : Heap} {f : Addr} {fd : FuncData} {f__law_draw : FM} (F : FnP K "_law_rare" s__law_rare f fd) (gx : mg "_law_rare" = some (.ref f)) (c__law_draw : Cal P w K mg base "_law_draw" 1 ["d", "many"] f__law_draw) :
    Cal P w K mg base "_law_rare" 2 ["d", "many"] (runB 2 (m__law_rare f__law_draw)) :=
  cal_mk (k := 1) F sc__law_rare gx (fun _ _ _ _ _ _ us hl => match us, hl with | [_, _], _ => rfl) fun cdv A outer s H E hr tk hp =>
    (sx_one (sx_ret (ex_cmp (m_eq hr.units) (ex_c1 c__law_draw tk hr (by decide) (ea_cons (xv 0) (ea_cons (xv 1) ea_nil))) (ex_op m_div (xv 1) ex_int) (nomark _))))
def N__law_is_int : List PySem.Str := ["thing"]
theorem sc__law_is_int : FnScope N__law_is_int ["thing"] (defScope s__law_is_int) := ⟨rfl, rfl, rfl, by decide +kernel, rfl, by decide +kernel, by decide +kernel⟩
def m__law_is_int : SM := (sRet (eAnd (eCB fIsi (aCons (eVar 0) (aCons (eC (.ty "int")) aNil))) (eNot (eCB fIsi (aCons (eVar 0) (aCons (eC (.ty "bool")) aNil))))))
theorem ok__law_is_int {P : Program} {w : World} {K : PySem.W.Frag} {mg : PySem.Str → Option Value} {base : Heap} {f : Addr} {fd : FuncData} (F : FnP K "_law_is_int" s__law_is_int f fd) (gx : mg "_law_is_int" = some (.ref f)) (z_int : mg "int" = none) (z_isinstance : mg "isinstance" = none) (z_bool : mg "bool" = none) :
    Cal P w K mg base "_law_is_int" 1 ["thing"] (runB 1 (m__law_is_int)) :=
  cal_mk (k := 0) F sc__law_is_int gx (fun _ _ _ _ _ _ us hl => match us, hl with | [_], _ => rfl) fun cdv A outer s H E hr tk hp =>
    (sx_one (sx_ret (ex_and (ex_callB c_isi (by rfl) z_isinstance bt_isinstance (ea_cons (xv 0) (ea_cons (ex_bltn (by rfl) z_int bt_int (by rfl) (fun _ _ => .ty _)) ea_nil))) (ex_one (ex_not (ex_callB c_isi (by rfl) z_isinstance bt_isinstance (ea_cons (xv 0) (ea_cons (ex_bltn (by rfl) z_bool bt_bool (by rfl) (fun _ _ => .ty _)) ea_nil))))))))
def N__law_is_ints : List PySem.Str := ["row", "part"]
theorem sc__law_is_ints : FnScope N__law_is_ints ["row"] (defScope s__law_is_ints) := ⟨rfl, rfl, rfl, by decide +kernel, rfl, by decide +kernel, by decide +kernel⟩
def m__law_is_ints (f__law_is_int : FM) : SM := (sRet (eAnd (eCB fIsi (aCons (eVar 0) (aCons (eC (.ty "tuple")) aNil))) (eCS gAllB (lComp [1] (iEx (eVar 0)) (gN 1) tYes (eCall 1 f__law_is_int (aCons (eVar 1) aNil))))))
theorem ok__law_is_ints {P : Program} {w : World} {K : PySem.W.Frag} {mg : PySem.Str → Option Value} {base : Heap} {f : Addr} {fd : FuncData} {f__law_is_int : FM} (F : FnP K "_law_is_ints" s__law_is_ints f fd) (gx : mg "_law_is_ints" = some (.ref f)) (c__law_is_int : Cal P w K mg base "_law_is_int" 1 ["thing"] f__law_is_int) (z_tuple : mg "tuple" = none) (z_isinstance : mg "isinstance" = none) (z_all : mg "all" = none) :
    Cal P w K mg base "_law_is_ints" 2 ["row"] (runB 2 (m__law_is_ints f__law_is_int)) :=
  cal_mk (k := 1) F sc__law_is_ints gx (fun _ _ _ _ _ _ us hl => match us, hl with | [_], _ => rfl) fun cdv A outer s H E hr tk hp =>
    (sx_one (sx_ret (ex_and (ex_callB c_isi (by rfl) z_isinstance bt_isinstance (ea_cons (xv 0) (ea_cons (ex_bltn (by rfl) z_tuple bt_tuple (by rfl) (fun _ _ => .ty _)) ea_nil))) (ex_one (ex_callBl (s_all (by rfl)) (by rfl) z_all bt_all (esl_el (el_comp (own := [(("part" : PySem.Str), 1)]) (by rfl) sc__law_is_ints.nd (ei_ex (xv 0)) (blkOk_by (N := N__law_is_ints) (sc := (defScope s__law_is_ints)) (by decide +kernel)) (fun _ _ _ _ _ => (eg_name sc__law_is_ints.nd)) (fun _ _ _ _ _ => ets_nil) (fun _ _ _ _ _ => (ex_c1 c__law_is_int tk0 hr (by decide) (ea_cons (xv 1) ea_nil))))))))))
def N__law_all_edits : List PySem.Str := ["kinds", "found", "k", "other"]
theorem sc__law_all_edits : FnScope N__law_all_edits ["kinds"] (defScope s__law_all_edits) := ⟨rfl, rfl, rfl, by decide +kernel, rfl, by decide +kernel, by decide +kernel⟩
def m__law_all_edits : SM := (sSeq (sSet 1 (eBin oAdd (eEl (lComp [2] (iRg1 (eVar 0)) (gN 2) tYes (eTup (aCons (eC (.str [99, 117, 116])) (aCons (eVar 2) aNil))))) (eEl (lComp [2] (iRg1 (eVar 0)) (gN 2) tYes (eTup (aCons (eC (.str [112, 117, 116])) (aCons (eVar 2) aNil)))))))
    (sSeq (sFor (iRg1 (eVar 0)) (gN 2) (sExpr (eM "list" mExtend (eVar 1) (aCons (eEl (lComp [3] (iRg1 (eVar 0)) (gN 3) (tBl (eBin oNe (eVar 3) (eVar 2))) (eTup (aCons (eC (.str [116, 117, 114, 110])) (aCons (eVar 2) (aCons (eVar 3) aNil)))))) aNil))))
    (sRet (eCB fTuple (aCons (eVar 1) aNil)))))
theorem ok__law_all_edits {P : Program} {w : World} {K : PySem.W.Frag} {mg : PySem.Str → Option Value} {base : Heap} {f : Addr} {fd : FuncData} (F : FnP K "_law_all_edits" s__law_all_edits f fd) (gx : mg "_law_all_edits" = some (.ref f)) (z_range : mg "range" = none) (z_tuple : mg "tuple" = none) :
    Cal P w K mg base "_law_all_edits" 1 ["kinds"] (runB 4 (m__law_all_edits)) :=
  cal_mk (k := 0) F sc__law_all_edits gx (fun _ _ _ _ _ _ us hl => match us, hl with | [_], _ => rfl) fun cdv A outer s H E hr tk hp =>
    (sx_cons (sx_set sc__law_all_edits.nd (ex_op m_add (ex_el (el_comp (own := [(("k" : PySem.Str), 2)]) (by rfl) sc__law_all_edits.nd (ei_range1 (by rfl) z_range (xv 0)) (blkOk_by (N := N__law_all_edits) (sc := (defScope s__law_all_edits)) (by decide +kernel)) (fun _ _ _ _ _ => (eg_name sc__law_all_edits.nd)) (fun _ _ _ _ _ => ets_nil) (fun _ _ _ _ _ => (ex_tup (ea_cons (ex_strc [99, 117, 116] (by decide +kernel)) (ea_cons (xv 2) ea_nil)))))) (ex_el (el_comp (own := [(("k" : PySem.Str), 2)]) (by rfl) sc__law_all_edits.nd (ei_range1 (by rfl) z_range (xv 0)) (blkOk_by (N := N__law_all_edits) (sc := (defScope s__law_all_edits)) (by decide +kernel)) (fun _ _ _ _ _ => (eg_name sc__law_all_edits.nd)) (fun _ _ _ _ _ => ets_nil) (fun _ _ _ _ _ => (ex_tup (ea_cons (ex_strc [112, 117, 116] (by decide +kernel)) (ea_cons (xv 2) ea_nil))))))))
    (sx_cons (sx_for hp (by rfl) (ei_range1 (by rfl) z_range (xv 0)) (eg_name sc__law_all_edits.nd) (sx_one (sx_expr (ex_m PySem.F.plainAttrs_list PySem.F.slot_list_extend PySem.F.type_list_extend me_extend (xv 1) (ea_cons (ex_el (el_comp (own := [(("other" : PySem.Str), 3)]) (by rfl) sc__law_all_edits.nd (ei_range1 (by rfl) z_range (xv 0)) (blkOk_by (N := N__law_all_edits) (sc := (defScope s__law_all_edits)) (by decide +kernel)) (fun _ _ _ _ _ => (eg_name sc__law_all_edits.nd)) (fun _ _ _ _ _ => (ets_one (et_cmp (m_ne hr.units) (xv 3) (xv 2) (nomark _)))) (fun _ _ _ _ _ => (ex_tup (ea_cons (ex_strc [116, 117, 114, 110] (by decide +kernel)) (ea_cons (xv 2) (ea_cons (xv 3) ea_nil))))))) ea_nil)))))
    (sx_one (sx_ret (ex_callT c_tuple (by rfl) z_tuple bt_tuple (ea_cons (xv 1) ea_nil))))))
def N__law_near : List PySem.Str := ["d", "kinds", "whole", "style", "found", "edit"]
theorem sc__law_near : FnScope N__law_near ["d", "kinds"] (defScope s__law_near) := ⟨rfl, rfl, rfl, by decide +kernel, rfl, by decide +kernel, by decide +kernel⟩
def m__law_near (f__law_all_edits : FM) (f__law_draw : FM) : SM := (sSeq (sSet 2 (eCall 1 f__law_all_edits (aCons (eVar 1) aNil)))
    (sSeq (sSet 3 (eCall 2 f__law_draw (aCons (eVar 0) (aCons (eC (.int 5)) aNil))))
    (sSeq (sIf (tBl (eBin oEq (eVar 3) (eC (.int 0)))) (sRet (eVar 2)) sNil)
    (sSeq (sIf (tBl (eBin oEq (eVar 3) (eC (.int 1)))) (sRet (eCS gTuple (lComp [5] (iEx (eVar 2)) (gN 5) (tBl (eBin oNe (eBin oIx (eVar 5) (eC (.int 0))) (eC (.str [116, 117, 114, 110])))) (eVar 5)))) sNil)
    (sSeq (sIf (tBl (eBin oEq (eVar 3) (eC (.int 2)))) (sRet (eCS gTuple (lComp [5] (iEx (eVar 2)) (gN 5) (tBl (eBin oEq (eBin oIx (eVar 5) (eC (.int 0))) (eC (.str [116, 117, 114, 110])))) (eVar 5)))) sNil)
    (sSeq (sSet 4 (eLst aNil))
    (sSeq (sFor (iEx (eVar 2)) (gN 5) (sIf (tBl (eBin oLt (eCall 2 f__law_draw (aCons (eVar 0) (aCons (eC (.int 3)) aNil))) (eC (.int 2)))) (sExpr (eM "list" mAppend (eVar 4) (aCons (eVar 5) aNil))) sNil))
    (sRet (eCB fTuple (aCons (eVar 4) aNil))))))))))
theorem ok__law_near {P : Program} {w : World} {K : PySem.W.Frag} {mg : PySem.Str → Option Value} {base : Heap} {f : Addr} {fd : FuncData} {f__law_all_edits f__law_draw : FM} (F : FnP K "_law_near" s__law_near f fd) (gx : mg "_law_near" = some (.ref f)) (c__law_all_edits : Cal P w K mg base "_law_all_edits" 1 ["kinds"] f__law_all_edits) (c__law_draw : Cal P w K mg base "_law_draw" 1 ["d", "many"] f__law_draw) (z_tuple : mg "tuple" = none) :
    Cal P w K mg base "_law_near" 2 ["d", "kinds"] (runB 6 (m__law_near f__law_all_edits f__law_draw)) :=
  cal_mk (k := 1) F sc__law_near gx (fun _ _ _ _ _ _ us hl => match us, hl with | [_, _], _ => rfl) fun cdv A outer s H E hr tk hp =>
    (sx_cons (sx_set sc__law_near.nd (ex_c1 c__law_all_edits tk hr (by decide) (ea_cons (xv 1) ea_nil)))
    (sx_cons (sx_set sc__law_near.nd (ex_c1 c__law_draw tk hr (by decide) (ea_cons (xv 0) (ea_cons ex_int ea_nil))))
    (sx_cons (sx_if (et_cmp (m_eq hr.units) (xv 3) ex_int (nomark _)) (sx_one (sx_ret (xv 2))) sx_nil)
    (sx_cons (sx_if (et_cmp (m_eq hr.units) (xv 3) ex_int (nomark _)) (sx_one (sx_ret (ex_callTs s_tuple (by rfl) z_tuple bt_tuple (es_el (el_comp (own := [(("edit" : PySem.Str), 5)]) (by rfl) sc__law_near.nd (ei_ex (xv 2)) (blkOk_by (N := N__law_near) (sc := (defScope s__law_near)) (by decide +kernel)) (fun _ _ _ _ _ => (eg_name sc__law_near.nd)) (fun _ _ _ _ _ => (ets_one (et_cmp (m_ne hr.units) (ex_ix (m_ix hr.units65) (xv 5) ex_int) (ex_strc [116, 117, 114, 110] (by decide +kernel)) (nomark _)))) (fun _ _ _ _ _ => (xv 5))))))) sx_nil)
    (sx_cons (sx_if (et_cmp (m_eq hr.units) (xv 3) ex_int (nomark _)) (sx_one (sx_ret (ex_callTs s_tuple (by rfl) z_tuple bt_tuple (es_el (el_comp (own := [(("edit" : PySem.Str), 5)]) (by rfl) sc__law_near.nd (ei_ex (xv 2)) (blkOk_by (N := N__law_near) (sc := (defScope s__law_near)) (by decide +kernel)) (fun _ _ _ _ _ => (eg_name sc__law_near.nd)) (fun _ _ _ _ _ => (ets_one (et_cmp (m_eq hr.units) (ex_ix (m_ix hr.units65) (xv 5) ex_int) (ex_strc [116, 117, 114, 110] (by decide +kernel)) (nomark _)))) (fun _ _ _ _ _ => (xv 5))))))) sx_nil)
    (sx_cons (sx_set sc__law_near.nd (ex_lst ea_nil))
    (sx_cons (sx_for hp (by rfl) (ei_ex (xv 2)) (eg_name sc__law_near.nd) (sx_one (sx_if (et_cmp (m_lt hr.units65) (ex_c1 c__law_draw tk hr (by decide) (ea_cons (xv 0) (ea_cons ex_int ea_nil))) ex_int (nomark _)) (sx_one (sx_expr (ex_m PySem.F.plainAttrs_list PySem.F.slot_list_append PySem.F.type_list_append me_append (xv 4) (ea_cons (xv 5) ea_nil)))) sx_nil)))
    (sx_one (sx_ret (ex_callT c_tuple (by rfl) z_tuple bt_tuple (ea_cons (xv 4) ea_nil)))))))))))
def N__law_side : List PySem.Str := ["alignment", "second", "found", "step"]
theorem sc__law_side : FnScope N__law_side ["alignment", "second"] (defScope s__law_side) := ⟨rfl, rfl, rfl, by decide +kernel, rfl, by decide +kernel, by decide +kernel⟩
def m__law_side : SM := (sSeq (sSet 2 (eLst aNil))
    (sSeq (sFor (iEx (eVar 0)) (gN 3) (sSeq (sIf (tBl (eBin oEq (eBin oIx (eVar 3) (eC (.int 0))) (eC (.str [107, 101, 101, 112])))) (sExpr (eM "list" mAppend (eVar 2) (aCons (eBin oIx (eVar 3) (eC (.int 1))) aNil))) sNil)
    (sSeq (sIf (tAnd (tBl (eBin oEq (eBin oIx (eVar 3) (eC (.int 0))) (eC (.str [99, 117, 116])))) (HM.tNot (tVal (eVar 1)))) (sExpr (eM "list" mAppend (eVar 2) (aCons (eBin oIx (eVar 3) (eC (.int 1))) aNil))) sNil)
    (sSeq (sIf (tAnd (tBl (eBin oEq (eBin oIx (eVar 3) (eC (.int 0))) (eC (.str [112, 117, 116])))) (tVal (eVar 1))) (sExpr (eM "list" mAppend (eVar 2) (aCons (eBin oIx (eVar 3) (eC (.int 1))) aNil))) sNil)
    (sIf (tBl (eBin oEq (eBin oIx (eVar 3) (eC (.int 0))) (eC (.str [116, 117, 114, 110])))) (sExpr (eM "list" mAppend (eVar 2) (aCons (eIf (tVal (eVar 1)) (eBin oIx (eVar 3) (eC (.int 2))) (eBin oIx (eVar 3) (eC (.int 1)))) aNil))) sNil)))))
    (sRet (eCB fTuple (aCons (eVar 2) aNil)))))
theorem ok__law_side {P : Program} {w : World} {K : PySem.W.Frag} {mg : PySem.Str → Option Value} {base : Heap} {f : Addr} {fd : FuncData} (F : FnP K "_law_side" s__law_side f fd) (gx : mg "_law_side" = some (.ref f)) (z_tuple : mg "tuple" = none) :
    Cal P w K mg base "_law_side" 1 ["alignment", "second"] (runB 4 (m__law_side)) :=
  cal_mk (k := 0) F sc__law_side gx (fun _ _ _ _ _ _ us hl => match us, hl with | [_, _], _ => rfl) fun cdv A outer s H E hr tk hp =>
    (sx_cons (sx_set sc__law_side.nd (ex_lst ea_nil))
    (sx_cons (sx_for hp (by rfl) (ei_ex (xv 0)) (eg_name sc__law_side.nd) (sx_cons (sx_if (et_cmp (m_eq hr.units) (ex_ix (m_ix hr.units65) (xv 3) ex_int) (ex_strc [107, 101, 101, 112] (by decide +kernel)) (nomark _)) (sx_one (sx_expr (ex_m PySem.F.plainAttrs_list PySem.F.slot_list_append PySem.F.type_list_append me_append (xv 2) (ea_cons (ex_ix (m_ix hr.units65) (xv 3) ex_int) ea_nil)))) sx_nil)
    (sx_cons (sx_if (Ew.et (ew_and (et_cmp (m_eq hr.units) (ex_ix (m_ix hr.units65) (xv 3) ex_int) (ex_strc [99, 117, 116] (by decide +kernel)) (nomark _)) (ew_and1 (et_not (et_val (xv 1)))))) (sx_one (sx_expr (ex_m PySem.F.plainAttrs_list PySem.F.slot_list_append PySem.F.type_list_append me_append (xv 2) (ea_cons (ex_ix (m_ix hr.units65) (xv 3) ex_int) ea_nil)))) sx_nil)
    (sx_cons (sx_if (Ew.et (ew_and (et_cmp (m_eq hr.units) (ex_ix (m_ix hr.units65) (xv 3) ex_int) (ex_strc [112, 117, 116] (by decide +kernel)) (nomark _)) (ew_and1 (et_val (xv 1))))) (sx_one (sx_expr (ex_m PySem.F.plainAttrs_list PySem.F.slot_list_append PySem.F.type_list_append me_append (xv 2) (ea_cons (ex_ix (m_ix hr.units65) (xv 3) ex_int) ea_nil)))) sx_nil)
    (sx_one (sx_if (et_cmp (m_eq hr.units) (ex_ix (m_ix hr.units65) (xv 3) ex_int) (ex_strc [116, 117, 114, 110] (by decide +kernel)) (nomark _)) (sx_one (sx_expr (ex_m PySem.F.plainAttrs_list PySem.F.slot_list_append PySem.F.type_list_append me_append (xv 2) (ea_cons (ex_if (et_val (xv 1)) (ex_ix (m_ix hr.units65) (xv 3) ex_int) (ex_ix (m_ix hr.units65) (xv 3) ex_int)) ea_nil)))) sx_nil))))))
    (sx_one (sx_ret (ex_callT c_tuple (by rfl) z_tuple bt_tuple (ea_cons (xv 2) ea_nil))))))
def N__law_edits : List PySem.Str := ["alignment", "step"]
theorem sc__law_edits : FnScope N__law_edits ["alignment"] (defScope s__law_edits) := ⟨rfl, rfl, rfl, by decide +kernel, rfl, by decide +kernel, by decide +kernel⟩
def m__law_edits : SM := (sRet (eCS gLen (lComp [1] (iEx (eVar 0)) (gN 1) (tBl (eBin oNe (eBin oIx (eVar 1) (eC (.int 0))) (eC (.str [107, 101, 101, 112])))) (eVar 1))))
theorem ok__law_edits {P : Program} {w : World} {K : PySem.W.Frag} {mg : PySem.Str → Option Value} {base : Heap} {f : Addr} {fd : FuncData} (F : FnP K "_law_edits" s__law_edits f fd) (gx : mg "_law_edits" = some (.ref f)) (z_len : mg "len" = none) :
    Cal P w K mg base "_law_edits" 1 ["alignment"] (runB 2 (m__law_edits)) :=
  cal_mk (k := 0) F sc__law_edits gx (fun _ _ _ _ _ _ us hl => match us, hl with | [_], _ => rfl) fun cdv A outer s H E hr tk hp =>
    (sx_one (sx_ret (ex_callBs s_len (by rfl) z_len bt_len (es_el (el_comp (own := [(("step" : PySem.Str), 1)]) (by rfl) sc__law_edits.nd (ei_ex (xv 0)) (blkOk_by (N := N__law_edits) (sc := (defScope s__law_edits)) (by decide +kernel)) (fun _ _ _ _ _ => (eg_name sc__law_edits.nd)) (fun _ _ _ _ _ => (ets_one (et_cmp (m_ne hr.units) (ex_ix (m_ix hr.units65) (xv 1) ex_int) (ex_strc [107, 101, 101, 112] (by decide +kernel)) (nomark _)))) (fun _ _ _ _ _ => (xv 1)))))))
def N__law_some_steps : List PySem.Str := ["d", "kinds", "most", "found", "turn", "word", "kind", "other"]
theorem sc__law_some_steps : FnScope N__law_some_steps ["d", "kinds", "most"] (defScope s__law_some_steps) := ⟨rfl, rfl, rfl, by decide +kernel, rfl, by decide +kernel, by decide +kernel⟩
def m__law_some_steps (f__law_pick : FM) (f__law_draw : FM) : SM := (sSeq (sSet 3 (eLst aNil))
    (sSeq (sFor (iRg1 (eVar 2)) (gN 4) (sSeq (sSet 5 (eCall 2 f__law_pick (aCons (eVar 0) (aCons (eLst (aCons (eC (.str [107, 101, 101, 112])) (aCons (eC (.str [99, 117, 116])) (aCons (eC (.str [112, 117, 116])) (aCons (eC (.str [116, 117, 114, 110])) aNil))))) aNil))))
    (sSeq (sSet 6 (eCall 2 f__law_draw (aCons (eVar 0) (aCons (eVar 1) aNil))))
    (sSeq (sSet 7 (eCall 2 f__law_draw (aCons (eVar 0) (aCons (eVar 1) aNil))))
    (sIf (tBl (eBin oNe (eVar 5) (eC (.str [116, 117, 114, 110])))) (sExpr (eM "list" mAppend (eVar 3) (aCons (eTup (aCons (eVar 5) (aCons (eVar 6) aNil))) aNil))) (sIf (tBl (eBin oEq (eVar 6) (eVar 7))) (sExpr (eM "list" mAppend (eVar 3) (aCons (eTup (aCons (eC (.str [107, 101, 101, 112])) (aCons (eVar 6) aNil))) aNil))) (sExpr (eM "list" mAppend (eVar 3) (aCons (eTup (aCons (eC (.str [116, 117, 114, 110])) (aCons (eVar 6) (aCons (eVar 7) aNil)))) aNil)))))))))
    (sRet (eCB fTuple (aCons (eVar 3) aNil)))))
theorem ok__law_some_steps {P : Program} {w : World} {K : PySem.W.Frag} {mg : PySem.Str → Option Value} {base : Heap} {f : Addr} {fd : FuncData} {f__law_pick f__law_draw : FM} (F : FnP K "_law_some_steps" s__law_some_steps f fd) (gx : mg "_law_some_steps" = some (.ref f)) (c__law_pick : Cal P w K mg base "_law_pick" 2 ["d", "row"] f__law_pick) (c__law_draw : Cal P w K mg base "_law_draw" 1 ["d", "many"] f__law_draw) (z_range : mg "range" = none) (z_tuple : mg "tuple" = none) :
    Cal P w K mg base "_law_some_steps" 3 ["d", "kinds", "most"] (runB 8 (m__law_some_steps f__law_pick f__law_draw)) :=
  cal_mk (k := 2) F sc__law_some_steps gx (fun _ _ _ _ _ _ us hl => match us, hl with | [_, _, _], _ => rfl) fun cdv A outer s H E hr tk hp =>
    (sx_cons (sx_set sc__law_some_steps.nd (ex_lst ea_nil))
    (sx_cons (sx_for hp (by rfl) (ei_range1 (by rfl) z_range (xv 2)) (eg_name sc__law_some_steps.nd) (sx_cons (sx_set sc__law_some_steps.nd (ex_c1 c__law_pick tk hr (by decide) (ea_cons (xv 0) (ea_cons (ex_lst (ea_cons (ex_strc [107, 101, 101, 112] (by decide +kernel)) (ea_cons (ex_strc [99, 117, 116] (by decide +kernel)) (ea_cons (ex_strc [112, 117, 116] (by decide +kernel)) (ea_cons (ex_strc [116, 117, 114, 110] (by decide +kernel)) ea_nil))))) ea_nil))))
    (sx_cons (sx_set sc__law_some_steps.nd (ex_c1 c__law_draw tk hr (by decide) (ea_cons (xv 0) (ea_cons (xv 1) ea_nil))))
    (sx_cons (sx_set sc__law_some_steps.nd (ex_c1 c__law_draw tk hr (by decide) (ea_cons (xv 0) (ea_cons (xv 1) ea_nil))))
    (sx_one (sx_if (et_cmp (m_ne hr.units) (xv 5) (ex_strc [116, 117, 114, 110] (by decide +kernel)) (nomark _)) (sx_one (sx_expr (ex_m PySem.F.plainAttrs_list PySem.F.slot_list_append PySem.F.type_list_append me_append (xv 3) (ea_cons (ex_tup (ea_cons (xv 5) (ea_cons (xv 6) ea_nil))) ea_nil)))) (sx_one (sx_if (et_cmp (m_eq hr.units) (xv 6) (xv 7) (nomark _)) (sx_one (sx_expr (ex_m PySem.F.plainAttrs_list PySem.F.slot_list_append PySem.F.type_list_append me_append (xv 3) (ea_cons (ex_tup (ea_cons (ex_strc [107, 101, 101, 112] (by decide +kernel)) (ea_cons (xv 6) ea_nil))) ea_nil)))) (sx_one (sx_expr (ex_m PySem.F.plainAttrs_list PySem.F.slot_list_append PySem.F.type_list_append me_append (xv 3) (ea_cons (ex_tup (ea_cons (ex_strc [116, 117, 114, 110] (by decide +kernel)) (ea_cons (xv 6) (ea_cons (xv 7) ea_nil)))) ea_nil))))))))))))
    (sx_one (sx_ret (ex_callT c_tuple (by rfl) z_tuple bt_tuple (ea_cons (xv 3) ea_nil))))))
def N__law_some_nears : List PySem.Str := ["d", "kinds", "alignment", "whole", "own", "found", "lost", "less", "others", "akin", "step", "edit"]
theorem sc__law_some_nears : FnScope N__law_some_nears ["d", "kinds", "alignment"] (defScope s__law_some_nears) := ⟨rfl, rfl, rfl, by decide +kernel, rfl, by decide +kernel, by decide +kernel⟩
def m__law_some_nears (f__law_all_edits : FM) (f__law_near : FM) (f__law_pick : FM) : SM := (sSeq (sSet 3 (eCall 1 f__law_all_edits (aCons (eVar 1) aNil)))
    (sSeq (sSet 4 (eSS (eEl (lComp [10] (iEx (eVar 2)) (gN 10) (tBl (eBin oNe (eBin oIx (eVar 10) (eC (.int 0))) (eC (.str [107, 101, 101, 112])))) (eVar 10)))))
    (sSeq (sSet 5 (eLst (aCons (eTup aNil) (aCons (eVar 3) (aCons (eCB fTuple (aCons (eVar 4) aNil)) (aCons (eCall 2 f__law_near (aCons (eVar 0) (aCons (eVar 1) aNil))) aNil))))))
    (sSeq (sIf (tBl (eBin oGt (eCB fLen (aCons (eVar 4) aNil)) (eC (.int 0)))) (sSeq (sSet 6 (eCall 2 f__law_pick (aCons (eVar 0) (aCons (eVar 4) aNil))))
    (sSeq (sSet 7 (eEl (lComp [11] (iEx (eVar 4)) (gN 11) (tBl (eBin oNe (eVar 11) (eVar 6))) (eVar 11))))
    (sSeq (sExpr (eM "list" mAppend (eVar 5) (aCons (eCB fTuple (aCons (eVar 7) aNil)) aNil)))
    (sSeq (sSet 8 (eEl (lComp [11] (iEx (eVar 3)) (gN 11) (tBl (eBin oNotIn (eVar 11) (eVar 4))) (eVar 11))))
    (sSeq (sSet 9 (eEl (lComp [11] (iEx (eVar 8)) (gN 11) (tBl (eBin oEq (eSl (eVar 11) oNone (oSome (eC (.int 2)))) (eSl (eVar 6) oNone (oSome (eC (.int 2)))))) (eVar 11))))
    (sSeq (sIf (tBl (eBin oGt (eCB fLen (aCons (eVar 9) aNil)) (eC (.int 0)))) (sSet 8 (eVar 9)) sNil)
    (sIf (tBl (eBin oGt (eCB fLen (aCons (eVar 8) aNil)) (eC (.int 0)))) (sExpr (eM "list" mAppend (eVar 5) (aCons (eCB fTuple (aCons (eCB fSorted (aCons (eBin oAdd (eVar 7) (eLst (aCons (eCall 2 f__law_pick (aCons (eVar 0) (aCons (eVar 8) aNil))) aNil))) aNil)) aNil)) aNil))) sNil))))))) sNil)
    (sRet (eVar 5))))))
theorem ok__law_some_nears {P : Program} {w : World} {K : PySem.W.Frag} {mg : PySem.Str → Option Value} {base : Heap} {f : Addr} {fd : FuncData} {f__law_all_edits f__law_near f__law_pick : FM} (F : FnP K "_law_some_nears" s__law_some_nears f fd) (gx : mg "_law_some_nears" = some (.ref f)) (c__law_all_edits : Cal P w K mg base "_law_all_edits" 1 ["kinds"] f__law_all_edits) (c__law_near : Cal P w K mg base "_law_near" 2 ["d", "kinds"] f__law_near) (c__law_pick : Cal P w K mg base "_law_pick" 2 ["d", "row"] f__law_pick) (z_sorted : mg "sorted" = none) (z_set : mg "set" = none) (z_tuple : mg "tuple" = none) (z_len : mg "len" = none) :
    Cal P w K mg base "_law_some_nears" 3 ["d", "kinds", "alignment"] (runB 12 (m__law_some_nears f__law_all_edits f__law_near f__law_pick)) :=
  cal_mk (k := 2) F sc__law_some_nears gx (fun _ _ _ _ _ _ us hl => match us, hl with | [_, _, _], _ => rfl) fun cdv A outer s H E hr tk hp =>
    (sx_cons (sx_set sc__law_some_nears.nd (ex_c1 c__law_all_edits tk hr (by decide) (ea_cons (xv 1) ea_nil)))
    (sx_cons (sx_set sc__law_some_nears.nd (ex_sortset (by rfl) hr.units65 (ex_el (el_comp (own := [(("step" : PySem.Str), 10)]) (by rfl) sc__law_some_nears.nd (ei_ex (xv 2)) (blkOk_by (N := N__law_some_nears) (sc := (defScope s__law_some_nears)) (by decide +kernel)) (fun _ _ _ _ _ => (eg_name sc__law_some_nears.nd)) (fun _ _ _ _ _ => (ets_one (et_cmp (m_ne hr.units) (ex_ix (m_ix hr.units65) (xv 10) ex_int) (ex_strc [107, 101, 101, 112] (by decide +kernel)) (nomark _)))) (fun _ _ _ _ _ => (xv 10)))) (by rfl) z_sorted (by rfl) z_set))
    (sx_cons (sx_set sc__law_some_nears.nd (ex_lst (ea_cons (ex_tup ea_nil) (ea_cons (xv 3) (ea_cons (ex_callT c_tuple (by rfl) z_tuple bt_tuple (ea_cons (xv 4) ea_nil)) (ea_cons (ex_c1 c__law_near tk hr (by decide) (ea_cons (xv 0) (ea_cons (xv 1) ea_nil))) ea_nil))))))
    (sx_cons (sx_if (et_cmp m_gt (ex_callB c_len (by rfl) z_len bt_len (ea_cons (xv 4) ea_nil)) ex_int (nomark _)) (sx_cons (sx_set sc__law_some_nears.nd (ex_c1 c__law_pick tk hr (by decide) (ea_cons (xv 0) (ea_cons (xv 4) ea_nil))))
    (sx_cons (sx_setLc (own := [(("edit" : PySem.Str), 11)]) (by rfl) sc__law_some_nears.nd (ei_ex (xv 4)) (blkOk_by (N := N__law_some_nears) (sc := (defScope s__law_some_nears)) (by decide +kernel)) (fun _ _ _ _ _ => (eg_name sc__law_some_nears.nd)) (fun _ _ _ _ _ => (ets_one (et_cmp (m_ne hr.units) (xv 11) (xv 6) (nomark _)))) (fun _ _ _ _ _ => (xv 11)))
    (sx_cons (sx_expr (ex_m PySem.F.plainAttrs_list PySem.F.slot_list_append PySem.F.type_list_append me_append (xv 5) (ea_cons (ex_callT c_tuple (by rfl) z_tuple bt_tuple (ea_cons (xv 7) ea_nil)) ea_nil)))
    (sx_cons (sx_setLc (own := [(("edit" : PySem.Str), 11)]) (by rfl) sc__law_some_nears.nd (ei_ex (xv 3)) (blkOk_by (N := N__law_some_nears) (sc := (defScope s__law_some_nears)) (by decide +kernel)) (fun _ _ _ _ _ => (eg_name sc__law_some_nears.nd)) (fun _ _ _ _ _ => (ets_one (et_cmp (m_notin hr.units65) (xv 11) (xv 4) (by rfl)))) (fun _ _ _ _ _ => (xv 11)))
    (sx_cons (sx_setLc (own := [(("edit" : PySem.Str), 11)]) (by rfl) sc__law_some_nears.nd (ei_ex (xv 8)) (blkOk_by (N := N__law_some_nears) (sc := (defScope s__law_some_nears)) (by decide +kernel)) (fun _ _ _ _ _ => (eg_name sc__law_some_nears.nd)) (fun _ _ _ _ _ => (ets_one (et_cmp (m_eq hr.units) (ex_sl (xv 11) eo_none (eo_some ex_int)) (ex_sl (xv 6) eo_none (eo_some ex_int)) (nomark _)))) (fun _ _ _ _ _ => (xv 11)))
    (sx_cons (sx_if (et_cmp m_gt (ex_callB c_len (by rfl) z_len bt_len (ea_cons (xv 9) ea_nil)) ex_int (nomark _)) (sx_one (sx_set sc__law_some_nears.nd (xv 9))) sx_nil)
    (sx_one (sx_if (et_cmp m_gt (ex_callB c_len (by rfl) z_len bt_len (ea_cons (xv 8) ea_nil)) ex_int (nomark _)) (sx_one (sx_expr (ex_m PySem.F.plainAttrs_list PySem.F.slot_list_append PySem.F.type_list_append me_append (xv 5) (ea_cons (ex_callT c_tuple (by rfl) z_tuple bt_tuple (ea_cons (ex_callB (c_sorted (by rfl) hr.units65) (by rfl) z_sorted bt_sorted (ea_cons (ex_op m_add (xv 7) (ex_lst (ea_cons (ex_c1 c__law_pick tk hr (by decide) (ea_cons (xv 0) (ea_cons (xv 8) ea_nil))) ea_nil))) ea_nil)) ea_nil)) ea_nil)))) sx_nil)))))))) sx_nil)
    (sx_one (sx_ret (xv 5)))))))
def N__law_is_near : List PySem.Str := ["kinds", "near", "whole", "edit", "k"]
theorem sc__law_is_near : FnScope N__law_is_near ["kinds", "near"] (defScope s__law_is_near) := ⟨rfl, rfl, rfl, by decide +kernel, rfl, by decide +kernel, by decide +kernel⟩
def m__law_is_near (f__law_all_edits : FM) : SM := (sSeq (sSet 2 (eCall 1 f__law_all_edits (aCons (eVar 0) aNil)))
    (sSeq (sIf (HM.tNot (tVal (eCS gAllB (lComp [3] (iEx (eVar 1)) (gN 3) tYes (eBin oIn (eVar 3) (eVar 2)))))) (sRet (eC (.bl false))) sNil)
    (sRet (eCS gAllB (lComp [4] (iRg1 (eBin oSub (eCB fLen (aCons (eVar 1) aNil)) (eC (.int 1)))) (gN 4) tYes (eBin oLt (eBin oIx (eVar 1) (eVar 4)) (eBin oIx (eVar 1) (eBin oAdd (eVar 4) (eC (.int 1))))))))))
theorem ok__law_is_near {P : Program} {w : World} {K : PySem.W.Frag} {mg : PySem.Str → Option Value} {base : Heap} {f : Addr} {fd : FuncData} {f__law_all_edits : FM} (F : FnP K "_law_is_near" s__law_is_near f fd) (gx : mg "_law_is_near" = some (.ref f)) (c__law_all_edits : Cal P w K mg base "_law_all_edits" 1 ["kinds"] f__law_all_edits) (z_all : mg "all" = none) (z_range : mg "range" = none) (z_len : mg "len" = none) :
    Cal P w K mg base "_law_is_near" 2 ["kinds", "near"] (runB 5 (m__law_is_near f__law_all_edits)) :=
  cal_mk (k := 1) F sc__law_is_near gx (fun _ _ _ _ _ _ us hl => match us, hl with | [_, _], _ => rfl) fun cdv A outer s H E hr tk hp =>
    (sx_cons (sx_set sc__law_is_near.nd (ex_c1 c__law_all_edits tk hr (by decide) (ea_cons (xv 0) ea_nil)))
    (sx_cons (sx_if (et_not (et_val (ex_callBl (s_all (by rfl)) (by rfl) z_all bt_all (esl_el (el_comp (own := [(("edit" : PySem.Str), 3)]) (by rfl) sc__law_is_near.nd (ei_ex (xv 1)) (blkOk_by (N := N__law_is_near) (sc := (defScope s__law_is_near)) (by decide +kernel)) (fun _ _ _ _ _ => (eg_name sc__law_is_near.nd)) (fun _ _ _ _ _ => ets_nil) (fun _ _ _ _ _ => (ex_cmp (m_in hr.units65) (xv 3) (xv 2) (by rfl)))))))) (sx_one (sx_ret ex_bl)) sx_nil)
    (sx_one (sx_ret (ex_callBl (s_all (by rfl)) (by rfl) z_all bt_all (esl_el (el_comp (own := [(("k" : PySem.Str), 4)]) (by rfl) sc__law_is_near.nd (ei_range1 (by rfl) z_range (ex_op m_sub (ex_callB c_len (by rfl) z_len bt_len (ea_cons (xv 1) ea_nil)) ex_int)) (blkOk_by (N := N__law_is_near) (sc := (defScope s__law_is_near)) (by decide +kernel)) (fun _ _ _ _ _ => (eg_name sc__law_is_near.nd)) (fun _ _ _ _ _ => ets_nil) (fun _ _ _ _ _ => (ex_cmp (m_lt hr.units65) (ex_ix (m_ix hr.units65) (xv 1) (xv 4)) (ex_ix (m_ix hr.units65) (xv 1) (ex_op m_add (xv 4) ex_int)) (nomark _))))))))))
def N__law_spoilt_near : List PySem.Str := ["d", "kinds", "near", "found", "at", "edit", "part", "way", "word"]
theorem sc__law_spoilt_near : FnScope N__law_spoilt_near ["d", "kinds", "near"] (defScope s__law_spoilt_near) := ⟨rfl, rfl, rfl, by decide +kernel, rfl, by decide +kernel, by decide +kernel⟩
def m__law_spoilt_near (f__law_draw : FM) (f__law_pick : FM) : SM := (sSeq (sSet 3 (eCB fList (aCons (eVar 2) aNil)))
    (sSeq (sSet 4 (eCall 2 f__law_draw (aCons (eVar 0) (aCons (eCB fLen (aCons (eVar 2) aNil)) aNil))))
    (sSeq (sSet 5 (eBin oIx (eVar 2) (eVar 4)))
    (sSeq (sSet 6 (eBin oAdd (eC (.int 1)) (eCall 2 f__law_draw (aCons (eVar 0) (aCons (eBin oSub (eCB fLen (aCons (eVar 5) aNil)) (eC (.int 1))) aNil)))))
    (sSeq (sSet 7 (eCall 2 f__law_draw (aCons (eVar 0) (aCons (eC (.int 8)) aNil))))
    (sSeq (sIf (tBl (eBin oEq (eVar 7) (eC (.int 0)))) (sExpr (eM "list" mAppend (eVar 3) (aCons (eM "list" mPopAt (eVar 3) (aCons (eVar 4) aNil)) aNil))) sNil)
    (sSeq (sIf (tBl (eBin oEq (eVar 7) (eC (.int 1)))) (sExpr (eM "list" mInsert (eVar 3) (aCons (eVar 4) (aCons (eVar 5) aNil)))) sNil)
    (sSeq (sIf (tBl (eBin oEq (eVar 7) (eC (.int 2)))) (sExpr (eM "list" mPopAt (eVar 3) (aCons (eVar 4) aNil))) sNil)
    (sSeq (sIf (tBl (eBin oEq (eVar 7) (eC (.int 3)))) (sSub (eVar 3) (eVar 4) (eBin oAdd (eBin oAdd (eSl (eVar 5) oNone (oSome (eVar 6))) (eTup (aCons (eVar 1) aNil))) (eSl (eVar 5) (oSome (eBin oAdd (eVar 6) (eC (.int 1)))) oNone))) sNil)
    (sSeq (sIf (tBl (eBin oEq (eVar 7) (eC (.int 4)))) (sSub (eVar 3) (eVar 4) (eBin oAdd (eBin oAdd (eSl (eVar 5) oNone (oSome (eVar 6))) (eTup (aCons (eUn oNeg (eC (.int 1))) aNil))) (eSl (eVar 5) (oSome (eBin oAdd (eVar 6) (eC (.int 1)))) oNone))) sNil)
    (sSeq (sIf (tBl (eBin oEq (eVar 7) (eC (.int 5)))) (sSub (eVar 3) (eVar 4) (eBin oAdd (eBin oAdd (eSl (eVar 5) oNone (oSome (eVar 6))) (eTup (aCons (eCall 2 f__law_draw (aCons (eVar 0) (aCons (eVar 1) aNil))) aNil))) (eSl (eVar 5) (oSome (eBin oAdd (eVar 6) (eC (.int 1)))) oNone))) sNil)
    (sSeq (sIf (tAnd (tBl (eBin oEq (eVar 7) (eC (.int 6)))) (tBl (eBin oEq (eCB fLen (aCons (eVar 5) aNil)) (eC (.int 3))))) (sSub (eVar 3) (eVar 4) (eTup (aCons (eC (.str [116, 117, 114, 110])) (aCons (eBin oIx (eVar 5) (eVar 6)) (aCons (eBin oIx (eVar 5) (eVar 6)) aNil))))) sNil)
    (sSeq (sIf (tBl (eBin oEq (eVar 7) (eC (.int 7)))) (sSeq (sSet 8 (eIf (tBl (eBin oEq (eCB fLen (aCons (eVar 5) aNil)) (eC (.int 2)))) (eCall 2 f__law_pick (aCons (eVar 0) (aCons (eLst (aCons (eC (.str [107, 101, 101, 112])) (aCons (eC (.str [99, 117, 116, 115])) (aCons (eC (.str [97, 110, 121])) aNil)))) aNil))) (eC (.str [115, 119, 97, 112]))))
    (sSub (eVar 3) (eVar 4) (eBin oAdd (eTup (aCons (eVar 8) aNil)) (eSl (eVar 5) (oSome (eC (.int 1))) oNone)))) sNil)
    (sSeq (sIf (tAnd (tBl (eBin oGt (eVar 7) (eC (.int 2)))) (tBl (eBin oEq (eCall 2 f__law_draw (aCons (eVar 0) (aCons (eC (.int 2)) aNil))) (eC (.int 1))))) (sSet 3 (eCB fSorted (aCons (eVar 3) aNil))) sNil)
    (sRet (eCB fTuple (aCons (eVar 3) aNil)))))))))))))))))
theorem ok__law_spoilt_near {P : Program} {w : World} {K : PySem.W.Frag} {mg : PySem.Str → Option Value} {base : Heap} {f : Addr} {fd : FuncData} {f__law_draw f__law_pick : FM} (F : FnP K "_law_spoilt_near" s__law_spoilt_near f fd) (gx : mg "_law_spoilt_near" = some (.ref f)) (c__law_draw : Cal P w K mg base "_law_draw" 1 ["d", "many"] f__law_draw) (c__law_pick : Cal P w K mg base "_law_pick" 2 ["d", "row"] f__law_pick) (z_list : mg "list" = none) (z_len : mg "len" = none) (z_sorted : mg "sorted" = none) (z_tuple : mg "tuple" = none) :
    Cal P w K mg base "_law_spoilt_near" 3 ["d", "kinds", "near"] (runB 9 (m__law_spoilt_near f__law_draw f__law_pick)) :=
  cal_mk (k := 2) F sc__law_spoilt_near gx (fun _ _ _ _ _ _ us hl => match us, hl with | [_, _, _], _ => rfl) fun cdv A outer s H E hr tk hp =>
    (sx_cons (sx_set sc__law_spoilt_near.nd (ex_callT c_list (by rfl) z_list bt_list (ea_cons (xv 2) ea_nil)))
    (sx_cons (sx_set sc__law_spoilt_near.nd (ex_c1 c__law_draw tk hr (by decide) (ea_cons (xv 0) (ea_cons (ex_callB c_len (by rfl) z_len bt_len (ea_cons (xv 2) ea_nil)) ea_nil))))
    (sx_cons (sx_set sc__law_spoilt_near.nd (ex_ix (m_ix hr.units65) (xv 2) (xv 4)))
    (sx_cons (sx_set sc__law_spoilt_near.nd (ex_op m_add ex_int (ex_c1 c__law_draw tk hr (by decide) (ea_cons (xv 0) (ea_cons (ex_op m_sub (ex_callB c_len (by rfl) z_len bt_len (ea_cons (xv 5) ea_nil)) ex_int) ea_nil)))))
    (sx_cons (sx_set sc__law_spoilt_near.nd (ex_c1 c__law_draw tk hr (by decide) (ea_cons (xv 0) (ea_cons ex_int ea_nil))))
    (sx_cons (sx_if (et_cmp (m_eq hr.units) (xv 7) ex_int (nomark _)) (sx_one (sx_expr (ex_m PySem.F.plainAttrs_list PySem.F.slot_list_append PySem.F.type_list_append me_append (xv 3) (ea_cons (ex_m PySem.F.plainAttrs_list PySem.F.slot_list_pop PySem.F.type_list_pop me_popAt (xv 3) (ea_cons (xv 4) ea_nil)) ea_nil)))) sx_nil)
    (sx_cons (sx_if (et_cmp (m_eq hr.units) (xv 7) ex_int (nomark _)) (sx_one (sx_expr (ex_m PySem.F.plainAttrs_list PySem.F.slot_list_insert PySem.F.type_list_insert me_insert (xv 3) (ea_cons (xv 4) (ea_cons (xv 5) ea_nil))))) sx_nil)
    (sx_cons (sx_if (et_cmp (m_eq hr.units) (xv 7) ex_int (nomark _)) (sx_one (sx_expr (ex_m PySem.F.plainAttrs_list PySem.F.slot_list_pop PySem.F.type_list_pop me_popAt (xv 3) (ea_cons (xv 4) ea_nil)))) sx_nil)
    (sx_cons (sx_if (et_cmp (m_eq hr.units) (xv 7) ex_int (nomark _)) (sx_one (sx_sub hr.units65 (ex_op m_add (ex_op m_add (ex_sl (xv 5) eo_none (eo_some (xv 6))) (ex_tup (ea_cons (xv 1) ea_nil))) (ex_sl (xv 5) (eo_some (ex_op m_add (xv 6) ex_int)) eo_none)) (xv 3) (xv 4))) sx_nil)
    (sx_cons (sx_if (et_cmp (m_eq hr.units) (xv 7) ex_int (nomark _)) (sx_one (sx_sub hr.units65 (ex_op m_add (ex_op m_add (ex_sl (xv 5) eo_none (eo_some (xv 6))) (ex_tup (ea_cons (ex_un m_neg ex_int) ea_nil))) (ex_sl (xv 5) (eo_some (ex_op m_add (xv 6) ex_int)) eo_none)) (xv 3) (xv 4))) sx_nil)
    (sx_cons (sx_if (et_cmp (m_eq hr.units) (xv 7) ex_int (nomark _)) (sx_one (sx_sub hr.units65 (ex_op m_add (ex_op m_add (ex_sl (xv 5) eo_none (eo_some (xv 6))) (ex_tup (ea_cons (ex_c1 c__law_draw tk hr (by decide) (ea_cons (xv 0) (ea_cons (xv 1) ea_nil))) ea_nil))) (ex_sl (xv 5) (eo_some (ex_op m_add (xv 6) ex_int)) eo_none)) (xv 3) (xv 4))) sx_nil)
    (sx_cons (sx_if (Ew.et (ew_and (et_cmp (m_eq hr.units) (xv 7) ex_int (nomark _)) (ew_and1 (et_cmp (m_eq hr.units) (ex_callB c_len (by rfl) z_len bt_len (ea_cons (xv 5) ea_nil)) ex_int (nomark _))))) (sx_one (sx_sub hr.units65 (ex_tup (ea_cons (ex_strc [116, 117, 114, 110] (by decide +kernel)) (ea_cons (ex_ix (m_ix hr.units65) (xv 5) (xv 6)) (ea_cons (ex_ix (m_ix hr.units65) (xv 5) (xv 6)) ea_nil)))) (xv 3) (xv 4))) sx_nil)
    (sx_cons (sx_if (et_cmp (m_eq hr.units) (xv 7) ex_int (nomark _)) (sx_cons (sx_set sc__law_spoilt_near.nd (ex_if (et_cmp (m_eq hr.units) (ex_callB c_len (by rfl) z_len bt_len (ea_cons (xv 5) ea_nil)) ex_int (nomark _)) (ex_c1 c__law_pick tk hr (by decide) (ea_cons (xv 0) (ea_cons (ex_lst (ea_cons (ex_strc [107, 101, 101, 112] (by decide +kernel)) (ea_cons (ex_strc [99, 117, 116, 115] (by decide +kernel)) (ea_cons (ex_strc [97, 110, 121] (by decide +kernel)) ea_nil)))) ea_nil))) (ex_strc [115, 119, 97, 112] (by decide +kernel))))
    (sx_one (sx_sub hr.units65 (ex_op m_add (ex_tup (ea_cons (xv 8) ea_nil)) (ex_sl (xv 5) (eo_some ex_int) eo_none)) (xv 3) (xv 4)))) sx_nil)
    (sx_cons (sx_if (Ew.et (ew_and (et_cmp m_gt (xv 7) ex_int (nomark _)) (ew_and1 (et_cmp (m_eq hr.units) (ex_c1 c__law_draw tk hr (by decide) (ea_cons (xv 0) (ea_cons ex_int ea_nil))) ex_int (nomark _))))) (sx_one (sx_set sc__law_spoilt_near.nd (ex_callB (c_sorted (by rfl) hr.units65) (by rfl) z_sorted bt_sorted (ea_cons (xv 3) ea_nil)))) sx_nil)
    (sx_one (sx_ret (ex_callT c_tuple (by rfl) z_tuple bt_tuple (ea_cons (xv 3) ea_nil))))))))))))))))))
def N__law_sides_right : List PySem.Str := ["alignment", "pair", "many"]
theorem sc__law_sides_right : FnScope N__law_sides_right ["alignment"] (defScope s__law_sides_right) := ⟨rfl, rfl, rfl, by decide +kernel, rfl, by decide +kernel, by decide +kernel⟩
def m__law_sides_right (f_sides : FM) (f__law_is_ints : FM) (f__law_side : FM) (f_count_edits : FM) (f__law_is_int : FM) (f__law_edits : FM) : SM := (sSeq (sSet 1 (eCall 1 f_sides (aCons (eVar 0) aNil)))
    (sSeq (sIf (tOr (HM.tNot (tVal (eCB fIsi (aCons (eVar 1) (aCons (eC (.ty "tuple")) aNil))))) (tOr (tBl (eBin oNe (eCB fLen (aCons (eVar 1) aNil)) (eC (.int 2)))) (tOr (HM.tNot (tVal (eCall 1 f__law_is_ints (aCons (eBin oIx (eVar 1) (eC (.int 0))) aNil)))) (HM.tNot (tVal (eCall 1 f__law_is_ints (aCons (eBin oIx (eVar 1) (eC (.int 1))) aNil))))))) (sRet (eC (.bl false))) sNil)
    (sSeq (sIf (tBl (eBin oNe (eVar 1) (eTup (aCons (eCall 2 f__law_side (aCons (eVar 0) (aCons (eC (.bl false)) aNil))) (aCons (eCall 2 f__law_side (aCons (eVar 0) (aCons (eC (.bl true)) aNil))) aNil))))) (sRet (eC (.bl false))) sNil)
    (sSeq (sSet 2 (eCall 1 f_count_edits (aCons (eVar 0) aNil)))
    (sRet (eAnd (eCall 1 f__law_is_int (aCons (eVar 2) aNil)) (eBin oEq (eVar 2) (eCall 1 f__law_edits (aCons (eVar 0) aNil)))))))))
theorem ok__law_sides_right {P : Program} {w : World} {K : PySem.W.Frag} {mg : PySem.Str → Option Value} {base : Heap} {f : Addr} {fd : FuncData} {f_sides f__law_is_ints f__law_side f_count_edits f__law_is_int f__law_edits : FM} (F : FnP K "_law_sides_right" s__law_sides_right f fd) (gx : mg "_law_sides_right" = some (.ref f)) (c_sides : Cal P w K mg base "sides" 1 ["alignment"] f_sides) (c__law_is_ints : Cal P w K mg base "_law_is_ints" 2 ["row"] f__law_is_ints) (c__law_side : Cal P w K mg base "_law_side" 1 ["alignment", "second"] f__law_side) (c_count_edits : Cal P w K mg base "count_edits" 1 ["alignment"] f_count_edits) (c__law_is_int : Cal P w K mg base "_law_is_int" 1 ["thing"] f__law_is_int) (c__law_edits : Cal P w K mg base "_law_edits" 1 ["alignment"] f__law_edits) (z_tuple : mg "tuple" = none) (z_isinstance : mg "isinstance" = none) (z_len : mg "len" = none) :
    Cal P w K mg base "_law_sides_right" 3 ["alignment"] (runB 3 (m__law_sides_right f_sides f__law_is_ints f__law_side f_count_edits f__law_is_int f__law_edits)) :=
  cal_mk (k := 2) F sc__law_sides_right gx (fun _ _ _ _ _ _ us hl => match us, hl with | [_], _ => rfl) fun cdv A outer s H E hr tk hp =>
    (sx_cons (sx_set sc__law_sides_right.nd (ex_c1 c_sides tk hr (by decide) (ea_cons (xv 0) ea_nil)))
    (sx_cons (sx_if (Ew.et (ew_or (et_not (et_val (ex_callB c_isi (by rfl) z_isinstance bt_isinstance (ea_cons (xv 1) (ea_cons (ex_bltn (by rfl) z_tuple bt_tuple (by rfl) (fun _ _ => .ty _)) ea_nil))))) (ew_or (et_cmp (m_ne hr.units) (ex_callB c_len (by rfl) z_len bt_len (ea_cons (xv 1) ea_nil)) ex_int (nomark _)) (ew_or (et_not (et_val (ex_c1 c__law_is_ints tk hr (by decide) (ea_cons (ex_ix (m_ix hr.units65) (xv 1) ex_int) ea_nil)))) (ew_or1 (et_not (et_val (ex_c1 c__law_is_ints tk hr (by decide) (ea_cons (ex_ix (m_ix hr.units65) (xv 1) ex_int) ea_nil))))))))) (sx_one (sx_ret ex_bl)) sx_nil)
    (sx_cons (sx_if (et_cmp (m_ne hr.units) (xv 1) (ex_tup (ea_cons (ex_c1 c__law_side tk hr (by decide) (ea_cons (xv 0) (ea_cons ex_bl ea_nil))) (ea_cons (ex_c1 c__law_side tk hr (by decide) (ea_cons (xv 0) (ea_cons ex_bl ea_nil))) ea_nil))) (nomark _)) (sx_one (sx_ret ex_bl)) sx_nil)
    (sx_cons (sx_set sc__law_sides_right.nd (ex_c1 c_count_edits tk hr (by decide) (ea_cons (xv 0) ea_nil)))
    (sx_one (sx_ret (ex_and (ex_c1 c__law_is_int tk hr (by decide) (ea_cons (xv 2) ea_nil)) (ex_one (ex_cmp (m_eq hr.units) (xv 2) (ex_c1 c__law_edits tk hr (by decide) (ea_cons (xv 0) ea_nil)) (nomark _))))))))))
def N__law_judged : List PySem.Str := ["kinds", "near", "verdict"]
theorem sc__law_judged : FnScope N__law_judged ["kinds", "near"] (defScope s__law_judged) := ⟨rfl, rfl, rfl, by decide +kernel, rfl, by decide +kernel, by decide +kernel⟩
def m__law_judged (f_is_nearness : FM) (f__law_is_near : FM) : SM := (sSeq (sSet 2 (eCall 2 f_is_nearness (aCons (eVar 0) (aCons (eVar 1) aNil))))
    (sRet (eAnd (eCB fIsi (aCons (eVar 2) (aCons (eC (.ty "bool")) aNil))) (eBin oEq (eVar 2) (eCall 2 f__law_is_near (aCons (eVar 0) (aCons (eVar 1) aNil)))))))
theorem ok__law_judged {P : Program} {w : World} {K : PySem.W.Frag} {mg : PySem.Str → Option Value} {base : Heap} {f : Addr} {fd : FuncData} {f_is_nearness f__law_is_near : FM} (F : FnP K "_law_judged" s__law_judged f fd) (gx : mg "_law_judged" = some (.ref f)) (c_is_nearness : Cal P w K mg base "is_nearness" 2 ["kinds", "near"] f_is_nearness) (c__law_is_near : Cal P w K mg base "_law_is_near" 2 ["kinds", "near"] f__law_is_near) (z_bool : mg "bool" = none) (z_isinstance : mg "isinstance" = none) :
    Cal P w K mg base "_law_judged" 3 ["kinds", "near"] (runB 3 (m__law_judged f_is_nearness f__law_is_near)) :=
  cal_mk (k := 2) F sc__law_judged gx (fun _ _ _ _ _ _ us hl => match us, hl with | [_, _], _ => rfl) fun cdv A outer s H E hr tk hp =>
    (sx_cons (sx_set sc__law_judged.nd (ex_c1 c_is_nearness tk hr (by decide) (ea_cons (xv 0) (ea_cons (xv 1) ea_nil))))
    (sx_one (sx_ret (ex_and (ex_callB c_isi (by rfl) z_isinstance bt_isinstance (ea_cons (xv 2) (ea_cons (ex_bltn (by rfl) z_bool bt_bool (by rfl) (fun _ _ => .ty _)) ea_nil))) (ex_one (ex_cmp (m_eq hr.units) (xv 2) (ex_c1 c__law_is_near tk hr (by decide) (ea_cons (xv 0) (ea_cons (xv 1) ea_nil))) (nomark _)))))))
def N__law_long_right : List PySem.Str := ["d", "alignment", "near", "repeated"]
theorem sc__law_long_right : FnScope N__law_long_right ["d", "alignment", "near"] (defScope s__law_long_right) := ⟨rfl, rfl, rfl, by decide +kernel, rfl, by decide +kernel, by decide +kernel⟩
def m__law_long_right (f__law_draw : FM) (f__law_sides_right : FM) (f_is_allowed : FM) : SM := (sSeq (sSet 3 (eBin oMulX (eSl (eVar 1) oNone (oSome (eC (.int 9)))) (eCall 2 f__law_draw (aCons (eVar 0) (aCons (eC (.int 889)) aNil)))))
    (sRet (eAnd (eCall 1 f__law_sides_right (aCons (eVar 3) aNil)) (eBin oIs (eCall 2 f_is_allowed (aCons (eVar 2) (aCons (eVar 3) aNil))) (eC (.bl true))))))
theorem ok__law_long_right {P : Program} {w : World} {K : PySem.W.Frag} {mg : PySem.Str → Option Value} {base : Heap} {f : Addr} {fd : FuncData} {f__law_draw f__law_sides_right f_is_allowed : FM} (F : FnP K "_law_long_right" s__law_long_right f fd) (gx : mg "_law_long_right" = some (.ref f)) (c__law_draw : Cal P w K mg base "_law_draw" 1 ["d", "many"] f__law_draw) (c__law_sides_right : Cal P w K mg base "_law_sides_right" 3 ["alignment"] f__law_sides_right) (c_is_allowed : Cal P w K mg base "is_allowed" 1 ["near", "alignment"] f_is_allowed) :
    Cal P w K mg base "_law_long_right" 4 ["d", "alignment", "near"] (runB 4 (m__law_long_right f__law_draw f__law_sides_right f_is_allowed)) :=
  cal_mk (k := 3) F sc__law_long_right gx (fun _ _ _ _ _ _ us hl => match us, hl with | [_, _, _], _ => rfl) fun cdv A outer s H E hr tk hp =>
    (sx_cons (sx_set sc__law_long_right.nd (ex_op m_mulX (ex_sl (xv 1) eo_none (eo_some ex_int)) (ex_c1 c__law_draw tk hr (by decide) (ea_cons (xv 0) (ea_cons ex_int ea_nil)))))
    (sx_one (sx_ret (ex_and (ex_c1 c__law_sides_right tk hr (by decide) (ea_cons (xv 3) ea_nil)) (ex_one (ex_cmp m_is (ex_c1 c_is_allowed tk hr (by decide) (ea_cons (xv 2) (ea_cons (xv 3) ea_nil))) ex_bl (nomark _)))))))
def N_law : List PySem.Str := ["script", "d", "kinds", "most", "alignment", "nears", "near", "verdict", "base", "turn", "step", "fewer"]
theorem sc_law : FnScope N_law ["script"] (defScope s_law) := ⟨rfl, rfl, rfl, by decide +kernel, rfl, by decide +kernel, by decide +kernel⟩
def m_law (f__law_begin : FM) (f__law_draw : FM) (f__law_rare : FM) (f__law_some_steps : FM) (f__law_sides_right : FM) (f__law_some_nears : FM) (f__law_long_right : FM) (f_is_allowed : FM) (f_is_nearness : FM) (f__law_judged : FM) (f__law_spoilt_near : FM) : SM := (sSeq (sSet 1 (eCall 1 f__law_begin (aCons (eVar 0) aNil)))
    (sSeq (sSet 2 (eBin oAdd (eC (.int 1)) (eCall 2 f__law_draw (aCons (eVar 1) (aCons (eC (.int 5)) aNil)))))
    (sSeq (sSet 3 (eIf (tVal (eCall 2 f__law_rare (aCons (eVar 1) (aCons (eC (.int 11)) aNil)))) (eC (.int 40)) (eCall 2 f__law_draw (aCons (eVar 1) (aCons (eC (.int 10)) aNil)))))
    (sSeq (sSet 4 (eCall 3 f__law_some_steps (aCons (eVar 1) (aCons (eVar 2) (aCons (eVar 3) aNil)))))
    (sSeq (sIf (tOr (HM.tNot (tVal (eCall 1 f__law_sides_right (aCons (eVar 4) aNil)))) (HM.tNot (tVal (eCall 1 f__law_sides_right (aCons (eTup aNil) aNil))))) (sRet (eC (.bl false))) sNil)
    (sSeq (sSet 5 (eCall 3 f__law_some_nears (aCons (eVar 1) (aCons (eVar 2) (aCons (eVar 4) aNil)))))
    (sSeq (sIf (tAnd (tVal (eCall 2 f__law_rare (aCons (eVar 1) (aCons (eC (.int 23)) aNil)))) (HM.tNot (tVal (eCall 3 f__law_long_right (aCons (eVar 1) (aCons (eVar 4) (aCons (eBin oIx (eVar 5) (eC (.int 2))) aNil))))))) (sRet (eC (.bl false))) sNil)
    (sSeq (sFor (iEx (eVar 5)) (gN 6) (sSeq (sSet 7 (eCall 2 f_is_allowed (aCons (eVar 6) (aCons (eVar 4) aNil))))
    (sSeq (sIf (tOr (HM.tNot (tVal (eCB fIsi (aCons (eVar 7) (aCons (eC (.ty "bool")) aNil))))) (tBl (eBin oNe (eVar 7) (eCS gAllB (lComp [10] (iEx (eVar 4)) (gN 10) tYes (eOr (eBin oEq (eBin oIx (eVar 10) (eC (.int 0))) (eC (.str [107, 101, 101, 112]))) (eBin oIn (eVar 10) (eVar 6)))))))) (sRet (eC (.bl false))) sNil)
    (sSeq (sIf (tBl (eBin oIsNot (eCall 2 f_is_nearness (aCons (eVar 2) (aCons (eVar 6) aNil))) (eC (.bl true)))) (sRet (eC (.bl false))) sNil)
    (sIf (HM.tNot (tVal (eCS gAllB (lComp [11] (iRg2 (eC (.int 1)) (eVar 2)) (gN 11) tYes (eCall 2 f__law_judged (aCons (eVar 11) (aCons (eVar 6) aNil))))))) (sRet (eC (.bl false))) sNil)))))
    (sSeq (sSet 8 (eIf (tBl (eBin oGt (eCB fLen (aCons (eBin oIx (eVar 5) (eC (.int 3))) aNil)) (eC (.int 0)))) (eBin oIx (eVar 5) (eC (.int 3))) (eBin oIx (eVar 5) (eC (.int 1)))))
    (sSeq (sFor (iRg1 (eC (.int 5))) (gN 9) (sIf (HM.tNot (tVal (eCall 2 f__law_judged (aCons (eVar 2) (aCons (eCall 3 f__law_spoilt_near (aCons (eVar 1) (aCons (eVar 2) (aCons (eVar 8) aNil)))) aNil))))) (sRet (eC (.bl false))) sNil))
    (sRet (eAnd (eBin oIs (eCall 2 f_is_allowed (aCons (eTup aNil) (aCons (eTup aNil) aNil))) (eC (.bl true))) (eCall 1 f__law_sides_right (aCons (eVar 4) aNil))))))))))))))
theorem ok_law {P : Program} {w : World} {K : PySem.W.Frag} {mg : PySem.Str → Option Value} {base : Heap} {f : Addr} {fd : FuncData} {f__law_begin f__law_draw f__law_rare f__law_some_steps f__law_sides_right f__law_some_nears f__law_long_right f_is_allowed f_is_nearness f__law_judged f__law_spoilt_near : FM} (F : FnP K "law" s_law f fd) (c__law_begin : Cal P w K mg base "_law_begin" 1 ["script"] f__law_begin) (c__law_draw : Cal P w K mg base "_law_draw" 1 ["d", "many"] f__law_draw) (c__law_rare : Cal P w K mg base "_law_rare" 2 ["d", "many"] f__law_rare) (c__law_some_steps : Cal P w K mg base "_law_some_steps" 3 ["d", "kinds", "most"] f__law_some_steps) (c__law_sides_right : Cal P w K mg base "_law_sides_right" 3 ["alignment"] f__law_sides_right) (c__law_some_nears : Cal P w K mg base "_law_some_nears" 3 ["d", "kinds", "alignment"] f__law_some_nears) (c__law_long_right : Cal P w K mg base "_law_long_right" 4 ["d", "alignment", "near"] f__law_long_right) (c_is_allowed : Cal P w K mg base "is_allowed" 1 ["near", "alignment"] f_is_allowed) (c_is_nearness : Cal P w K mg base "is_nearness" 2 ["kinds", "near"] f_is_nearness) (c__law_judged : Cal P w K mg base "_law_judged" 3 ["kinds", "near"] f__law_judged) (c__law_spoilt_near : Cal P w K mg base "_law_spoilt_near" 3 ["d", "kinds", "near"] f__law_spoilt_near) (z_bool : mg "bool" = none) (z_isinstance : mg "isinstance" = none) (z_all : mg "all" = none) (z_range : mg "range" = none) (z_len : mg "len" = none) :
    FnM P w K mg base 5 f fd ["script"] (runB 12 (m_law f__law_begin f__law_draw f__law_rare f__law_some_steps f__law_sides_right f__law_some_nears f__law_long_right f_is_allowed f_is_nearness f__law_judged f__law_spoilt_near)) :=
  fn_def (k := 4) F sc_law fun cdv A outer s H E hr tk hp =>
    (sx_cons (sx_set sc_law.nd (ex_c1 c__law_begin tk hr (by decide) (ea_cons (xv 0) ea_nil)))
    (sx_cons (sx_set sc_law.nd (ex_op m_add ex_int (ex_c1 c__law_draw tk hr (by decide) (ea_cons (xv 1) (ea_cons ex_int ea_nil)))))
    (sx_cons (sx_set sc_law.nd (ex_if (et_val (ex_c1 c__law_rare tk hr (by decide) (ea_cons (xv 1) (ea_cons ex_int ea_nil)))) ex_int (ex_c1 c__law_draw tk hr (by decide) (ea_cons (xv 1) (ea_cons ex_int ea_nil)))))
    (sx_cons (sx_set sc_law.nd (ex_c1 c__law_some_steps tk hr (by decide) (ea_cons (xv 1) (ea_cons (xv 2) (ea_cons (xv 3) ea_nil)))))
    (sx_cons (sx_if (Ew.et (ew_or (et_not (et_val (ex_c1 c__law_sides_right tk hr (by decide) (ea_cons (xv 4) ea_nil)))) (ew_or1 (et_not (et_val (ex_c1 c__law_sides_right tk hr (by decide) (ea_cons (ex_tup ea_nil) ea_nil))))))) (sx_one (sx_ret ex_bl)) sx_nil)
    (sx_cons (sx_set sc_law.nd (ex_c1 c__law_some_nears tk hr (by decide) (ea_cons (xv 1) (ea_cons (xv 2) (ea_cons (xv 4) ea_nil)))))
    (sx_cons (sx_if (Ew.et (ew_and (et_val (ex_c1 c__law_rare tk hr (by decide) (ea_cons (xv 1) (ea_cons ex_int ea_nil)))) (ew_and1 (et_not (et_val (ex_c1 c__law_long_right tk hr (by decide) (ea_cons (xv 1) (ea_cons (xv 4) (ea_cons (ex_ix (m_ix hr.units65) (xv 5) ex_int) ea_nil))))))))) (sx_one (sx_ret ex_bl)) sx_nil)
    (sx_cons (sx_for hp (by rfl) (ei_ex (xv 5)) (eg_name sc_law.nd) (sx_cons (sx_set sc_law.nd (ex_c1 c_is_allowed tk hr (by decide) (ea_cons (xv 6) (ea_cons (xv 4) ea_nil))))
    (sx_cons (sx_if (Ew.et (ew_or (et_not (et_val (ex_callB c_isi (by rfl) z_isinstance bt_isinstance (ea_cons (xv 7) (ea_cons (ex_bltn (by rfl) z_bool bt_bool (by rfl) (fun _ _ => .ty _)) ea_nil))))) (ew_or1 (et_cmp (m_ne hr.units) (xv 7) (ex_callBl (s_all (by rfl)) (by rfl) z_all bt_all (esl_el (el_comp (own := [(("step" : PySem.Str), 10)]) (by rfl) sc_law.nd (ei_ex (xv 4)) (blkOk_by (N := N_law) (sc := (defScope s_law)) (by decide +kernel)) (fun _ _ _ _ _ => (eg_name sc_law.nd)) (fun _ _ _ _ _ => ets_nil) (fun _ _ _ _ _ => (ex_or (ex_cmp (m_eq hr.units) (ex_ix (m_ix hr.units65) (xv 10) ex_int) (ex_strc [107, 101, 101, 112] (by decide +kernel)) (nomark _)) (ex_one (ex_cmp (m_in hr.units65) (xv 10) (xv 6) (by rfl)))))))) (nomark _))))) (sx_one (sx_ret ex_bl)) sx_nil)
    (sx_cons (sx_if (et_cmp m_isnot (ex_c1 c_is_nearness tk hr (by decide) (ea_cons (xv 2) (ea_cons (xv 6) ea_nil))) ex_bl (nomark _)) (sx_one (sx_ret ex_bl)) sx_nil)
    (sx_one (sx_if (et_not (et_val (ex_callBl (s_all (by rfl)) (by rfl) z_all bt_all (esl_el (el_comp (own := [(("fewer" : PySem.Str), 11)]) (by rfl) sc_law.nd (ei_range2 (by rfl) z_range ex_int (xv 2)) (blkOk_by (N := N_law) (sc := (defScope s_law)) (by decide +kernel)) (fun _ _ _ _ _ => (eg_name sc_law.nd)) (fun _ _ _ _ _ => ets_nil) (fun _ _ _ _ _ => (ex_c1 c__law_judged tk0 hr (by decide) (ea_cons (xv 11) (ea_cons (xv 6) ea_nil))))))))) (sx_one (sx_ret ex_bl)) sx_nil))))))
    (sx_cons (sx_set sc_law.nd (ex_if (et_cmp m_gt (ex_callB c_len (by rfl) z_len bt_len (ea_cons (ex_ix (m_ix hr.units65) (xv 5) ex_int) ea_nil)) ex_int (nomark _)) (ex_ix (m_ix hr.units65) (xv 5) ex_int) (ex_ix (m_ix hr.units65) (xv 5) ex_int)))
    (sx_cons (sx_for hp (by rfl) (ei_range1 (by rfl) z_range ex_int) (eg_name sc_law.nd) (sx_one (sx_if (et_not (et_val (ex_c1 c__law_judged tk hr (by decide) (ea_cons (xv 2) (ea_cons (ex_c1 c__law_spoilt_near tk hr (by decide) (ea_cons (xv 1) (ea_cons (xv 2) (ea_cons (xv 8) ea_nil)))) ea_nil))))) (sx_one (sx_ret ex_bl)) sx_nil)))
    (sx_one (sx_ret (ex_and (ex_cmp m_is (ex_c1 c_is_allowed tk hr (by decide) (ea_cons (ex_tup ea_nil) (ea_cons (ex_tup ea_nil) ea_nil))) ex_bl (nomark _)) (ex_one (ex_c1 c__law_sides_right tk hr (by decide) (ea_cons (xv 4) ea_nil))))))))))))))))
end K04

namespace K04
open PySem PySem.Spec PyProof.Rows L2 HM

def f_sides : FM := runB 5 (m_sides)
theorem le_sides : ∀ ds st, Le st (runB 5 (m_sides) ds st) (f_sides ds st) := fun _ _ => .refl _
def f_count_edits : FM := runB 2 (m_count_edits)
theorem le_count_edits : ∀ ds st, Le st (runB 2 (m_count_edits) ds st) (f_count_edits ds st) := fun _ _ => .refl _
def f_is_allowed : FM := runB 3 (m_is_allowed)
theorem le_is_allowed : ∀ ds st, Le st (runB 3 (m_is_allowed) ds st) (f_is_allowed ds st) := fun _ _ => .refl _
def f_is_edit : FM := runB 3 (m_is_edit)
theorem le_is_edit : ∀ ds st, Le st (runB 3 (m_is_edit) ds st) (f_is_edit ds st) := fun _ _ => .refl _
def f_is_nearness : FM := runB 4 (m_is_nearness f_is_edit)
theorem le_is_nearness : ∀ ds st, Le st (runB 4 (m_is_nearness f_is_edit) ds st) (f_is_nearness ds st) := fun _ _ => .refl _
def f__law_begin : FM := runB 2 (m__law_begin)
theorem le__law_begin : ∀ ds st, Le st (runB 2 (m__law_begin) ds st) (f__law_begin ds st) := fun _ _ => .refl _
def f__law_draw : FM := runB 5 (m__law_draw)
theorem le__law_draw : ∀ ds st, Le st (runB 5 (m__law_draw) ds st) (f__law_draw ds st) := fun _ _ => .refl _
def f__law_pick : FM := runB 2 (m__law_pick f__law_draw)
theorem le__law_pick : ∀ ds st, Le st (runB 2 (m__law_pick f__law_draw) ds st) (f__law_pick ds st) := fun _ _ => .refl _
def f__law_rare : FM := runB 2 (m__law_rare f__law_draw)
theorem le__law_rare : ∀ ds st, Le st (runB 2 (m__law_rare f__law_draw) ds st) (f__law_rare ds st) := fun _ _ => .refl _
def f__law_is_int : FM := runB 1 (m__law_is_int)
theorem le__law_is_int : ∀ ds st, Le st (runB 1 (m__law_is_int) ds st) (f__law_is_int ds st) := fun _ _ => .refl _
def f__law_is_ints : FM := runB 2 (m__law_is_ints f__law_is_int)
theorem le__law_is_ints : ∀ ds st, Le st (runB 2 (m__law_is_ints f__law_is_int) ds st) (f__law_is_ints ds st) := fun _ _ => .refl _
def f__law_all_edits : FM := runB 4 (m__law_all_edits)
theorem le__law_all_edits : ∀ ds st, Le st (runB 4 (m__law_all_edits) ds st) (f__law_all_edits ds st) := fun _ _ => .refl _
def f__law_near : FM := runB 6 (m__law_near f__law_all_edits f__law_draw)
theorem le__law_near : ∀ ds st, Le st (runB 6 (m__law_near f__law_all_edits f__law_draw) ds st) (f__law_near ds st) := fun _ _ => .refl _
def f__law_side : FM := runB 4 (m__law_side)
theorem le__law_side : ∀ ds st, Le st (runB 4 (m__law_side) ds st) (f__law_side ds st) := fun _ _ => .refl _
def f__law_edits : FM := runB 2 (m__law_edits)
theorem le__law_edits : ∀ ds st, Le st (runB 2 (m__law_edits) ds st) (f__law_edits ds st) := fun _ _ => .refl _
def f__law_some_steps : FM := runB 8 (m__law_some_steps f__law_pick f__law_draw)
theorem le__law_some_steps : ∀ ds st, Le st (runB 8 (m__law_some_steps f__law_pick f__law_draw) ds st) (f__law_some_steps ds st) := fun _ _ => .refl _
def f__law_some_nears : FM := runB 12 (m__law_some_nears f__law_all_edits f__law_near f__law_pick)
theorem le__law_some_nears : ∀ ds st, Le st (runB 12 (m__law_some_nears f__law_all_edits f__law_near f__law_pick) ds st) (f__law_some_nears ds st) := fun _ _ => .refl _
def f__law_is_near : FM := runB 5 (m__law_is_near f__law_all_edits)
theorem le__law_is_near : ∀ ds st, Le st (runB 5 (m__law_is_near f__law_all_edits) ds st) (f__law_is_near ds st) := fun _ _ => .refl _
def f__law_spoilt_near : FM := runB 9 (m__law_spoilt_near f__law_draw f__law_pick)
theorem le__law_spoilt_near : ∀ ds st, Le st (runB 9 (m__law_spoilt_near f__law_draw f__law_pick) ds st) (f__law_spoilt_near ds st) := fun _ _ => .refl _
def f__law_sides_right : FM := runB 3 (m__law_sides_right f_sides f__law_is_ints f__law_side f_count_edits f__law_is_int f__law_edits)
theorem le__law_sides_right : ∀ ds st, Le st (runB 3 (m__law_sides_right f_sides f__law_is_ints f__law_side f_count_edits f__law_is_int f__law_edits) ds st) (f__law_sides_right ds st) := fun _ _ => .refl _
def f__law_judged : FM := runB 3 (m__law_judged f_is_nearness f__law_is_near)
theorem le__law_judged : ∀ ds st, Le st (runB 3 (m__law_judged f_is_nearness f__law_is_near) ds st) (f__law_judged ds st) := fun _ _ => .refl _
def f__law_long_right : FM := runB 4 (m__law_long_right f__law_draw f__law_sides_right f_is_allowed)
theorem le__law_long_right : ∀ ds st, Le st (runB 4 (m__law_long_right f__law_draw f__law_sides_right f_is_allowed) ds st) (f__law_long_right ds st) := fun _ _ => .refl _
def f_law : FM := runB 12 (m_law f__law_begin f__law_draw f__law_rare f__law_some_steps f__law_sides_right f__law_some_nears f__law_long_right f_is_allowed f_is_nearness f__law_judged f__law_spoilt_near)
theorem le_law : ∀ ds st, Le st (runB 12 (m_law f__law_begin f__law_draw f__law_rare f__law_some_steps f__law_sides_right f__law_some_nears f__law_long_right f_is_allowed f_is_nearness f__law_judged f__law_spoilt_near) ds st) (f_law ds st) := fun _ _ => .refl _

/-! draws -/
theorem r_begin {ns : List Int} (hl : ns.length ≤ 63) : ∃ st', f__law_begin [.rol (ns.map D.int)] [] = .ok (.ref 1) st' ∧ DS ns st' ∧ st'.length = 2 := by
  obtain ⟨ys, st1, e, ⟨h1, h2⟩, hl2⟩ := comp_inv (q := .fix (ns.map D.int)) (set := gN 1) (fe := eCB fInt (aCons (eVar 1) aNil)) (τ := [some (.rol (ns.map D.int)), none]) (fun acc s => acc = (ns.map D.int).take acc.length ∧ s = ([] : Store)) (fun _ _ _ => rfl) (ns.map D.int) [] [] ⟨rfl, rfl⟩ fun i d acc s hi ha hp => by
    obtain ⟨h1, rfl⟩ := hp
    refine ⟨_, rfl, d, [], ?_, ?_, rfl⟩
    · have : ∃ k, d = .int k := by
        rw [List.getElem?_map] at hi
        cases hz : ns[i]? with
        | none => simp [hz] at hi
        | some k => exact ⟨k, by simpa [hz] using hi.symm⟩
      obtain ⟨k, rfl⟩ := this
      simp [gN]
    · simp only [List.length_nil, Nat.zero_add] at ha
      rw [List.length_append, List.length_singleton, ha, List.take_succ, hi, ← ha, ← h1]
      rfl
  have hy : ys = ns.map D.int := by
    rw [h1, List.take_of_length_le]
    simp at hl2
    simp [hl2]
  subst hy h2
  refine ⟨[.lst (ns.map D.int), .lst [.ref 0, .int 0, .int 0, .int 7]], ?_, ⟨rfl, 0, 0, 7, by decide, rfl⟩, rfl⟩
  have e : compL (.fix (ns.map D.int)) (gN 1) tYes (eCB fInt (aCons (eVar 1) aNil)) (wipeD [some (.rol (ns.map D.int)), none] [1]) (ns.map D.int) [] [] = .ok (ns.map D.int) [] := e
  have hs : ns.length ≤ 16777216 := by omega
  simp [f__law_begin, runB_e, m__law_begin, lComp_e, lc1, hs, e]
theorem r_draw {ns : List Int} {st : Store} {many : Int} (H : DS ns st) (h0 : 0 < many) (h1 : many.natAbs.log2 < 9000) :
    ∃ v st', f__law_draw [.ref 1, .int many] st = .ok (.int v) st' ∧ 0 ≤ v ∧ v < many ∧ DS ns st' ∧ Fr st st' := by
  obtain ⟨c0, p, h, q, hp, c1⟩ := H
  have set1 : ∀ p' h' q' : Int, 0 ≤ p' → ∀ s, s = st ∨ (∃ ys, s = st.set 1 (.lst ys)) ∨ (∃ ys zs, s = (st.set 1 (.lst ys)).set 1 (.lst zs)) → DS ns (s.set 1 (.lst [.ref 0, .int p', .int h', .int q'])) ∧ Fr st (s.set 1 (.lst [.ref 0, .int p', .int h', .int q'])) := by
    intro p' h' q' hp' s hs
    have e : s.set 1 (.lst [.ref 0, .int p', .int h', .int q']) = st.set 1 (.lst [.ref 0, .int p', .int h', .int q']) := by
      rcases hs with rfl | ⟨ys, rfl⟩ | ⟨ys, zs, rfl⟩ <;> simp [List.set_set]
    rw [e]
    refine ⟨⟨by rw [lstAt_ne (by decide)]; exact c0, p', h', q', hp', lstAt_set c1⟩, by simp, fun n hn _ => ?_⟩
    rw [List.getElem?_set_ne (Ne.symm hn)]
  have od : ∀ i, okDiv i many = true := fun i => okDiv_of (by omega) h1
  have om : ∀ i, okMod i many = true := fun i => okMod_of (by omega)
  have b0 : ∀ i : Int, 0 ≤ i.fmod many := fun i => Int.fmod_nonneg_of_pos i h0
  have b1 : ∀ i : Int, i.fmod many < many := fun i => Int.fmod_lt_of_pos i h0
  unfold f__law_draw
  rw [runB_e]
  unfold m__law_draw
  by_cases hh : 0 < h
  · obtain ⟨d1, d2⟩ := set1 p (h.fdiv many) q hp st (.inl rfl)
    refine ⟨h.fmod many, _, ?_, b0 _, b1 _, d1, d2⟩
    have x2 : ixN 4 2 = some 2 := rfl
    simp [oIx_ref c1, hh, od, om, oSet_ref c1, x2]
  · -- the size of the script's number here
    have main : ∀ (size : Int) (c : Option D), (0 ≤ size) → ∃ v st', ((sSeq (sAugS oIAdd (eVar 0) (eC (.int 1)) (eC (.int 1)))
        (sSeq (sIf (tBl (eBin oGe (eVar 3) (eBin oMul (eC (.int 2)) (eBin oPow (eC (.int 10)) (eC (.int 18)))))) (sSeq (sSet 2 (eBin oMod (eCB fInt (aCons (eBin oDiv (eVar 3) (eC (.int 2))) aNil)) (eBin oShl (eC (.int 1)) (eC (.int 6000)))))
        (sSeq (sSub (eVar 0) (eC (.int 2)) (eBin oDiv (eVar 2) (eVar 1)))
        (sRet (eBin oMod (eCB fInt (aCons (eVar 2) aNil)) (eVar 1))))) sNil)
        (sSeq (sSub (eVar 0) (eC (.int 3)) (eBin oMod (eCB fInt (aCons (eBin oAdd (eBin oAdd (eBin oAdd (eBin oMul (eBin oIx (eVar 0) (eC (.int 3))) (eC (.int 48271))) (eBin oMul (eBin oMod (eCB fInt (aCons (eVar 3) aNil)) (eC (.int 2147483629))) (eC (.int 16807)))) (eBin oMul (eBin oIx (eVar 0) (eC (.int 1))) (eC (.int 69621)))) (eC (.int 11))) aNil)) (eC (.int 2147483647))))
        (sRet (eBin oMod (eCB fInt (aCons (eBin oDiv (eBin oIx (eVar 0) (eC (.int 3))) (eC (.int 16))) aNil)) (eVar 1)))))) [some (.ref 1), some (.int many), none, some (.int size), c] st).fin = .ok (.int v) st' ∧ 0 ≤ v ∧ v < many ∧ DS ns st' ∧ Fr st st' := by
      intro size c hs
      have x1 : ixN 4 1 = some 1 := rfl
      have x2 : ixN 4 2 = some 2 := rfl
      have x3 : ixN 4 3 = some 3 := rfl
      obtain ⟨st1, e1⟩ : ∃ st1, st1 = st.set 1 (.lst [.ref 0, .int (p + 1), .int h, .int q]) := ⟨_, rfl⟩
      have l1 : lstAt st1 1 = some [.ref 0, .int (p + 1), .int h, .int q] := by
        rw [e1]
        exact lstAt_set c1
      have d48 : okMul q 48271 = true := okMul_r (by decide)
      have d16 : ∀ i, okMul i 16807 = true := fun i => okMul_r (by decide)
      have d69 : ∀ i, okMul i 69621 = true := fun i => okMul_r (by decide)
      have m1 : ∀ i, okMod i 2147483629 = true := fun i => okMod_of (by decide)
      have m2 : ∀ i, okMod i 2147483647 = true := fun i => okMod_of (by decide)
      have v16 : ∀ i, okDiv i 16 = true := fun i => okDiv_of (by decide) (by decide)
      have v2 : ∀ i, okDiv i 2 = true := fun i => okDiv_of (by decide) (by decide)
      by_cases hz : 2000000000000000000 ≤ size
      · have p1 : okPow 10 18 = true := by decide
        have p2 : okMul 2 1000000000000000000 = true := okMul_r (by decide)
        have p3 : okPow 1 6000 = true := by decide
        obtain ⟨M, eM⟩ : ∃ M : Int, M = 2 ^ 6000 := ⟨_, rfl⟩
        have hM : M ≠ 0 := by
          have : (0 : Int) < 2 ^ 6000 := Int.pow_pos (by decide)
          omega
        have om2 : ∀ i, okMod i M = true := fun i => okMod_of hM
        obtain ⟨d1, d2⟩ := set1 (p + 1) (((size.fdiv 2).fmod M).fdiv many) q (by omega) st1 (.inr (.inl ⟨_, e1⟩))
        refine ⟨((size.fdiv 2).fmod M).fmod many, _, ?_, b0 _, b1 _, d1, d2⟩
        simp [oGetL_ref c1, oSet_ref c1, x1, x2, ← e1, hz, p1, p2, p3, v2, od, om, ← eM, om2, oSet_ref l1]
      · have p1 : okPow 10 18 = true := by decide
        have p2 : okMul 2 1000000000000000000 = true := okMul_r (by decide)
        obtain ⟨q', eq'⟩ : ∃ q', q' = (q * 48271 + size.fmod 2147483629 * 16807 + (p + 1) * 69621 + 11).fmod 2147483647 := ⟨_, rfl⟩
        obtain ⟨d1, d2⟩ := set1 (p + 1) h q' (by omega) st1 (.inr (.inl ⟨_, e1⟩))
        have l2 : lstAt (st1.set 1 (.lst [.ref 0, .int (p + 1), .int h, .int q'])) 1 = some [.ref 0, .int (p + 1), .int h, .int q'] := lstAt_set l1
        refine ⟨(q'.fdiv 16).fmod many, _, ?_, b0 _, b1 _, d1, d2⟩
        simp [oGetL_ref c1, oSet_ref c1, x1, x2, x3, ← e1, hz, p1, p2, v2, v16, od, om, m1, m2, d48, d16, d69, oIx_ref l1, oSet_ref l1, oIx_ref l2, ← eq']
    by_cases hp2 : p < ns.length
    · have hc : ∃ c : Int, atI (ns.map D.int) p = some (.int c) := by
        have hp3 : p.toNat < ns.length := by omega
        refine ⟨ns[p.toNat], ?_⟩
        have := atI_nat (xs := ns.map D.int) (j := p.toNat) (v := D.int ns[p.toNat]) (by simp [hp3])
        rwa [Int.toNat_of_nonneg hp] at this
      obtain ⟨c, hc⟩ := hc
      obtain ⟨v, st', e, r⟩ := main (2 * (c.natAbs : Nat) + (if c < 0 then 1 else 0)) (some (.int c)) (by split <;> omega)
      refine ⟨v, st', ?_, r⟩
      rw [← e]
      have k2 : okMul 2 (c.natAbs : Nat) = true := okMul_l (by decide)
      simp [oIx_ref c1, hh, oIx_ref c0, fLen_ref c0, hp2, hc, k2]
    · obtain ⟨v, st', e, r⟩ := main 0 none (by omega)
      refine ⟨v, st', ?_, r⟩
      rw [← e]
      simp [oIx_ref c1, hh, oIx_ref c0, fLen_ref c0, hp2]

/-- a draw, as a natural number -/
theorem r_drawN {ns : List Int} {st : Store} {many : Nat} (H : DS ns st) (h0 : 0 < many) (h1 : many < 2 ^ 60) :
    ∃ (v : Nat) (st' : Store), f__law_draw [.ref 1, .int (many : Nat)] st = .ok (.int (v : Nat)) st' ∧ v < many ∧ DS ns st' ∧ Fr st st' := by
  obtain ⟨v, s1, e, v0, v1, D1, F1⟩ := r_draw (many := (many : Nat)) H (by omega) (by
    rw [Int.natAbs_natCast]
    have := log2_le h1
    omega)
  refine ⟨v.toNat, s1, ?_, by omega, D1, F1⟩
  rw [Int.toNat_of_nonneg v0]
  exact e
theorem ixN_of {n j : Nat} (h : j < n) : ixN n (j : Nat) = some j := by
  unfold ixN
  rw [if_pos (by omega), if_pos (by simpa using h)]
  simp
theorem atI_of {xs : List D} {j : Nat} (h : j < xs.length) : atI xs (j : Nat) = some xs[j] := atI_nat (by simp [h])
theorem r_drawZ {ns : List Int} {st : Store} {many : Int} (H : DS ns st) (h0 : 0 < many) (h1 : many ≤ 1000) :
    ∃ v st', f__law_draw [.ref 1, .int many] st = .ok (.int v) st' ∧ 0 ≤ v ∧ v < many ∧ DS ns st' ∧ Fr st st' :=
  r_draw H h0 (Nat.lt_of_le_of_lt (log2_le (k := 10) (by omega)) (by decide))

theorem r_pick {ns : List Int} {st : Store} {m : Nat} {xs : List D} (H : DS ns st) (hx : lstAt st m = some xs) (hm : m ≠ 1) (h0 : 0 < xs.length) (h1 : xs.length < 2 ^ 60) :
    ∃ v st', f__law_pick [.ref 1, .ref m] st = .ok v st' ∧ v ∈ xs ∧ DS ns st' ∧ Fr st st' := by
  obtain ⟨v, s1, e, v0, v1, D1, F1⟩ := r_draw (many := (xs.length : Nat)) H (by omega) (by
    rw [Int.natAbs_natCast]
    have := log2_le h1
    omega)
  have hv : v.toNat < xs.length := by omega
  refine ⟨xs[v.toNat], s1, ?_, List.getElem_mem _, D1, F1⟩
  have ha : atI xs v = some xs[v.toNat] := by
    have := atI_nat (xs := xs) (j := v.toNat) (v := xs[v.toNat]) (by simp [hv])
    rwa [Int.toNat_of_nonneg v0] at this
  simp [f__law_pick, runB_e, m__law_pick, fLen_ref hx, e, oIx_ref (F1.lst hx hm), ha]

theorem r_rare {ns : List Int} {st : Store} {many : Int} (H : DS ns st) (h0 : 0 < many) (h1 : many.natAbs.log2 < 9000) :
    ∃ b st', f__law_rare [.ref 1, .int many] st = .ok (.bl b) st' ∧ DS ns st' ∧ Fr st st' := by
  obtain ⟨v, s1, e, v0, v1, D1, F1⟩ := r_draw H h0 h1
  have v2 : okDiv many 2 = true := okDiv_of (by decide) (by decide)
  exact ⟨decide (v = many.fdiv 2), s1, by simp [f__law_rare, runB_e, m__law_rare, e, v2], D1, F1⟩

/-- a loop that returns False at the first that fails -/
theorem for_all {α : Type} {q : Sq} {set : D → Sl → Option Sl} {u : SM} {st : Store} (hq : q.chk st = true) (g : α → D) (p : α → Bool) (I : Sl → Prop) : ∀ (xs : List α) (τ : Sl), I τ →
    (∀ a ∈ xs, ∀ τ, I τ → ∃ τ1, set (g a) τ = some τ1 ∧ (p a = true → ∃ τ2, u τ1 st = .nx τ2 st ∧ I τ2) ∧ (p a = false → u τ1 st = .rt (.bl false) st)) →
    (xs.all p = true ∧ ∃ τ', forL q set u (xs.map g) τ st = .nx τ' st ∧ I τ') ∨ (xs.all p = false ∧ forL q set u (xs.map g) τ st = .rt (.bl false) st)
  | [], τ, h0, _ => .inl ⟨rfl, τ, forL_nil hq, h0⟩
  | a :: xs, τ, h0, hs => by
    obtain ⟨τ1, e1, h1, h2⟩ := hs a (List.mem_cons_self ..) τ h0
    cases hp : p a with
    | true =>
      obtain ⟨τ2, e2, h3⟩ := h1 hp
      rcases for_all hq g p I xs τ2 h3 fun b hb => hs b (List.mem_cons_of_mem _ hb) with ⟨ha, τ', e3, h4⟩ | ⟨ha, e3⟩
      · exact .inl ⟨by rw [List.all_cons, hp, ha]; rfl, τ', by rw [List.map_cons, forL_nx hq e1 e2, e3], h4⟩
      · exact .inr ⟨by rw [List.all_cons, hp, ha]; rfl, by rw [List.map_cons, forL_nx hq e1 e2, e3]⟩
    | false => exact .inr ⟨by rw [List.all_cons, hp]; rfl, by rw [List.map_cons, forL_rt hq e1 (h2 hp)]⟩
theorem ch_le {fa fb fc : EM D} {τ : Sl} {st : Store} {a b c : Int} (ha : fa τ st = .ok (.int a) st) (hb : fb τ st = .ok (.int b) st) (hc : fc τ st = .ok (.int c) st) : eChain oLe oLe fa fb fc τ st = .ok (.bl (decide (a ≤ b) && decide (b ≤ c))) st := by
  by_cases h : a ≤ b <;> simp [ha, hb, hc, oLe, h]
theorem ch_lt {fa fb fc : EM D} {τ : Sl} {st : Store} {a b c : Int} (ha : fa τ st = .ok (.int a) st) (hb : fb τ st = .ok (.int b) st) (hc : fc τ st = .ok (.int c) st) : eChain oLe oLt fa fb fc τ st = .ok (.bl (decide (a ≤ b) && decide (b < c))) st := by
  by_cases h : a ≤ b <;> simp [ha, hb, hc, oLe, oLt, h]
theorem gAllB_map {α : Type} {f : α → Bool} {xs : List α} {st : Store} : gAllB (xs.map fun a => D.bl (f a)) st = .ok (.bl (xs.all f)) st := by
  have := gAllB_bls (bs := xs.map f) (st := st)
  rw [List.map_map, List.all_map] at this
  exact this

theorem r_is_int {st : Store} {i : Int} : f__law_is_int [.int i] st = .ok (.bl true) st := by
  simp [f__law_is_int, runB_e, m__law_is_int]

/-! draws, by what holds behind them -/
section
variable {ns : List Int} {st : Store}
theorem w_draw {many : Nat} {Q : D → Store → Prop} (H : DS ns st) (h0 : 0 < many) (h1 : many < 2 ^ 60) (hQ : ∀ (v : Nat) s, v < many → DS ns s → Fr st s → Q (.int (v : Nat)) s) : W (f__law_draw [.ref 1, .int (many : Nat)] st) Q := by
  obtain ⟨v, s, e, hv, D1, F1⟩ := r_drawN H h0 h1
  exact .of e (hQ v s hv D1 F1)
end

section
variable {ns : List Int} {st : Store}
theorem w_pick {m : Nat} {xs : List D} {Q : D → Store → Prop} (H : DS ns st) (hx : lstAt st m = some xs) (hm : m ≠ 1) (h0 : 0 < xs.length) (h1 : xs.length < 2 ^ 60) (hQ : ∀ v s, v ∈ xs → DS ns s → Fr st s → Q v s) : W (f__law_pick [.ref 1, .ref m] st) Q := by
  obtain ⟨v, s, e, hv, D1, F1⟩ := r_pick H hx hm h0 h1
  exact .of e (hQ v s hv D1 F1)
end

section
variable {ns : List Int} {st : Store}
theorem w_rare {many : Nat} {Q : D → Store → Prop} (H : DS ns st) (h0 : 0 < many) (h1 : many < 2 ^ 60) (hQ : ∀ b s, DS ns s → Fr st s → Q (.bl b) s) : W (f__law_rare [.ref 1, .int (many : Nat)] st) Q := by
  obtain ⟨b, s, e, D1, F1⟩ := r_rare (many := (many : Nat)) H (by omega) (by
    rw [Int.natAbs_natCast]
    have := log2_le h1
    omega)
  exact .of e (hQ b s D1 F1)
end

/-! edits -/
inductive Ed where
  | cut (k : Int) | put (k : Int) | turn (k o : Int)
  deriving DecidableEq
def Ed.d : Ed → D
  | .cut k => .tup [.str [99, 117, 116], .int k]
  | .put k => .tup [.str [112, 117, 116], .int k]
  | .turn k o => .tup [.str [116, 117, 114, 110], .int k, .int o]
theorem Ed.d_inj {a b : Ed} (h : a.d = b.d) : a = b := by
  cases a <;> cases b <;> simp [Ed.d] at h <;> simp [h]
def eds (es : List Ed) : D := .tup (es.map Ed.d)
/-- of so many kinds -/
def Ed.ok (n : Nat) : Ed → Prop
  | .cut k => 0 ≤ k ∧ k < n
  | .put k => 0 ≤ k ∧ k < n
  | .turn k o => (0 ≤ k ∧ k < n) ∧ (0 ≤ o ∧ o < n) ∧ k ≠ o
def turnsOf (n : Nat) (k : Nat) : List Ed := ((List.range n).filter fun j : Nat => !(decide ((j : Int) = (k : Int)))).map fun j : Nat => Ed.turn (k : Nat) (j : Nat)
def allE (n : Nat) : List Ed := (List.range n).map (fun k : Nat => Ed.cut (k : Nat)) ++ (List.range n).map (fun k : Nat => Ed.put (k : Nat)) ++ (List.range n).flatMap (turnsOf n)
theorem turnsOf_len {n k : Nat} : (turnsOf n k).length ≤ n := by
  unfold turnsOf
  rw [List.length_map]
  exact Nat.le_trans (List.length_filter_le _ _) (by simp)
theorem flat_len {n : Nat} : ∀ k, ((List.range k).flatMap (turnsOf n)).length ≤ k * n
  | 0 => by simp
  | k + 1 => by
    rw [List.range_succ, List.flatMap_append, List.length_append, List.flatMap_singleton, Nat.succ_mul]
    have := flat_len (n := n) k
    have := turnsOf_len (n := n) (k := k)
    omega
theorem allE_len {n : Nat} (h : n ≤ 5) : (allE n).length ≤ 35 := by
  unfold allE
  have := flat_len (n := n) n
  have : n * n ≤ 5 * 5 := Nat.mul_le_mul h h
  simp only [List.length_append, List.length_map, List.length_range]
  omega
theorem allE_pos {n : Nat} (h : 0 < n) : 0 < (allE n).length := by
  unfold allE
  simp only [List.length_append, List.length_map, List.length_range]
  omega
theorem allE_mem {n : Nat} {e : Ed} : e ∈ allE n ↔ e.ok n := by
  unfold allE turnsOf
  cases e with
  | cut k =>
    simp [Ed.ok]
    constructor
    · rintro ⟨a, ha, rfl⟩
      omega
    · intro h
      exact ⟨k.toNat, by omega, by omega⟩
  | put k =>
    simp [Ed.ok]
    constructor
    · rintro ⟨a, ha, rfl⟩
      omega
    · intro h
      exact ⟨k.toNat, by omega, by omega⟩
  | turn k o =>
    simp [Ed.ok]
    constructor
    · rintro ⟨a, ha, b, ⟨hb, hc⟩, rfl, rfl⟩
      omega
    · intro h
      exact ⟨k.toNat, by omega, o.toNat, by omega, by omega, by omega⟩
section
variable {ns : List Int} {st : Store}
theorem w_all_edits {n : Nat} {Q : D → Store → Prop} (h5 : n ≤ 5) (hQ : ∀ s, Gr st s → Q (eds (allE n)) s) : W (f__law_all_edits [.int (n : Nat)] st) Q := by
  unfold f__law_all_edits
  rw [runB_e]
  unfold m__law_all_edits
  have hr : ∀ s, rg1 (.int (n : Nat)) s = .ok (.fix (rng 0 n)) s := fun s => rg1_int (by omega)
  simp [List.replicate, lComp_e, hr]
  refine w_lc (by simp [rng_len]; omega) ?_
  refine w_map (fun k : Nat => D.int k) (fun k : Nat => (Ed.cut k).d) (List.range n) (by rw [items_fix, rng_eq]) rfl (fun k _ => ⟨_, rfl, by simp [wipeD, Ed.d]⟩) ?_
  refine w_lc (by simp [rng_len]; omega) ?_
  refine w_map (fun k : Nat => D.int k) (fun k : Nat => (Ed.put k).d) (List.range n) (by rw [items_fix, rng_eq]) rfl (fun k _ => ⟨_, rfl, by simp [wipeD, Ed.d]⟩) ?_
  obtain ⟨A, eA⟩ : ∃ A, A = (List.range n).map fun k : Nat => Ed.cut (k : Nat) := ⟨_, rfl⟩
  obtain ⟨B, eB⟩ : ∃ B, B = (List.range n).map fun k : Nat => Ed.put (k : Nat) := ⟨_, rfl⟩
  have eA2 : ((List.range n).map fun k : Nat => (Ed.cut k).d) = A.map Ed.d := by rw [eA, List.map_map]; rfl
  have eB2 : ((List.range n).map fun k : Nat => (Ed.put k).d) = B.map Ed.d := by rw [eB, List.map_map]; rfl
  have lA : A.length = n := by rw [eA]; simp
  have lB : B.length = n := by rw [eB]; simp
  rw [eA2, eB2]
  obtain ⟨s2, es2⟩ : ∃ s2, s2 = st ++ [.lst (A.map Ed.d), .lst (B.map Ed.d)] := ⟨_, rfl⟩
  have g1 : lstAt s2 st.length = some (A.map Ed.d) := by rw [es2]; simp [lstAt]
  have g2 : lstAt s2 (st.length + 1) = some (B.map Ed.d) := by rw [es2]; simp [lstAt]
  have g3 := oAdd_ref g1 g2 (by simp [lA, lB]; omega)
  have es3 : st ++ ([.lst (A.map Ed.d)] ++ [.lst (B.map Ed.d)]) = s2 := by rw [es2]; rfl
  simp only [List.append_assoc, es3, List.length_append, List.length_singleton, g3, W_ok]
  have G2 : Gr st s2 := ⟨_, es2⟩
  simp [sFor_e, hr]
  rw [← List.map_append]
  obtain ⟨P, hP⟩ : ∃ P : Nat → Sl → Store → Prop, P = fun k τ s => (∃ a b, τ = [some (.int (n : Nat)), some (.ref s2.length), a, b]) ∧ lstAt s s2.length = some ((A ++ B ++ (List.range k).flatMap (turnsOf n)).map Ed.d) ∧ Gr st s := ⟨_, rfl⟩
  refine ws_rng P (fun _ _ _ _ => rfl) (by rw [hP]; exact ⟨⟨none, none, rfl⟩, by simp [lstAt], G2.trans .app⟩) ?_ ?_
  · intro i τ s hin hp
    rw [hP] at hp
    obtain ⟨⟨a, b, rfl⟩, g, G⟩ := hp
    refine ⟨_, rfl, ?_⟩
    have lX : (A ++ B ++ (List.range i).flatMap (turnsOf n)).length ≤ 35 := by
      have := flat_len (n := n) i
      have : i * n ≤ 5 * 5 := Nat.mul_le_mul (by omega) h5
      simp only [List.length_append, lA, lB]
      omega
    obtain ⟨X, eX⟩ : ∃ X, X = A ++ B ++ (List.range i).flatMap (turnsOf n) := ⟨_, rfl⟩
    rw [← eX] at g lX
    simp [lComp_e, hr, okT_ref g]
    refine w_lc (by simp [rng_len]; omega) ?_
    refine w_fil (fun k : Nat => D.int k) (fun j : Nat => (Ed.turn (i : Nat) j).d) (fun j : Nat => !(decide ((j : Int) = (i : Int)))) (List.range n) (by rw [items_fix, rng_eq]) rfl (fun k _ => ⟨_, rfl, by simp [wipeD, Ed.d]⟩) ?_
    have eC : (((List.range n).filter fun j : Nat => !(decide ((j : Int) = (i : Int)))).map fun j : Nat => (Ed.turn (i : Nat) j).d) = (turnsOf n i).map Ed.d := by rw [turnsOf, List.map_map]; rfl
    rw [eC]
    have g' : lstAt (s ++ [.lst ((turnsOf n i).map Ed.d)]) s2.length = some (X.map Ed.d) := (Gr.app (c := Cell.lst ((turnsOf n i).map Ed.d))).lst g
    have lT := turnsOf_len (n := n) (k := i)
    have g3 := mExtend_ref g' (lstAt_new (a := s) (xs := (turnsOf n i).map Ed.d)) (by simp; omega)
    rw [g3, W_ok, hP]
    refine ⟨⟨_, _, rfl⟩, ?_, (G.trans .app).put G2.len⟩
    rw [lstAt_set g', ← List.map_append, eX, List.range_succ, List.flatMap_append, List.flatMap_singleton, List.append_assoc]
  · intro τ s hp
    rw [hP] at hp
    obtain ⟨⟨a, b, rfl⟩, g, G⟩ := hp
    simp [fTuple_ref g]
    have := hQ s G
    rw [eds, allE, ← eA, ← eB] at this
    simpa using this
end

section
variable {ns : List Int} {st : Store}
theorem w_near {n : Nat} {Q : D → Store → Prop} (H : DS ns st) (hn : 0 < n) (h5 : n ≤ 5) (hQ : ∀ es s, es.Sublist (allE n) → DS ns s → Fr st s → Q (eds es) s) : W (f__law_near [.ref 1, .int (n : Nat)] st) Q := by
  have lA := allE_len h5
  have lm : ((allE n).map Ed.d).length ≤ 16777216 := by rw [List.length_map]; omega
  have ee : ∀ s, dSq s (eds (allE n)) = some (.fix ((allE n).map Ed.d)) := fun _ => rfl
  unfold f__law_near
  rw [runB_e]
  unfold m__law_near
  simp [List.replicate]
  refine w_all_edits h5 fun s1 G1 => ?_
  refine w_draw (many := 5) (G1.ds H) (by decide) (by decide) fun v s2 hv D2 F2 => ?_
  have F12 := G1.fr.trans F2
  have v3 : v = 0 ∨ v = 1 ∨ v = 2 ∨ (v ≠ 0 ∧ v ≠ 1 ∧ v ≠ 2) := by omega
  rcases v3 with rfl | rfl | rfl | ⟨n0, n1, n2⟩
  · simp
    exact hQ _ s2 (List.Sublist.refl _) D2 F12
  · simp [lComp_e, ee]
    refine w_lc lm ?_
    refine w_fil Ed.d Ed.d (fun e : Ed => match e with | .turn _ _ => false | _ => true) (allE n) rfl rfl (fun e _ => ⟨_, rfl, by cases e <;> simp [Ed.d, wipeD]⟩) ?_
    exact hQ _ s2 List.filter_sublist D2 F12
  · simp [lComp_e, ee]
    refine w_lc lm ?_
    refine w_fil Ed.d Ed.d (fun e : Ed => match e with | .turn _ _ => true | _ => false) (allE n) rfl rfl (fun e _ => ⟨_, rfl, by cases e <;> simp [Ed.d, wipeD]⟩) ?_
    exact hQ _ s2 List.filter_sublist D2 F12
  · have m0 : ¬ ((v : Int) = 0) := by omega
    have m1 : ¬ ((v : Int) = 1) := by omega
    have m2 : ¬ ((v : Int) = 2) := by omega
    have hm0 : 2 ≤ s2.length := D2.len
    simp [n0, m1, m2, sFor_e, ee]
    obtain ⟨P, hP⟩ : ∃ P : Nat → Sl → Store → Prop, P = fun k τ s => ∃ fs : List Ed, (∃ a, τ = [some (.ref 1), some (.int (n : Nat)), some (eds (allE n)), some (.int (v : Nat)), some (.ref s2.length), a]) ∧ lstAt s s2.length = some (fs.map Ed.d) ∧ fs.Sublist ((allE n).take k) ∧ DS ns s ∧ Fr s2 s := ⟨_, rfl⟩
    refine ws_map Ed.d (allE n) rfl P (fun _ _ _ _ => rfl) (by rw [hP]; exact ⟨[], ⟨none, rfl⟩, lstAt_new, by simp, D2.app, .app⟩) ?_ ?_
    · intro i a τ s hi hp
      rw [hP] at hp
      obtain ⟨fs, ⟨b, rfl⟩, g, l2, D, F⟩ := hp
      refine ⟨_, rfl, ?_⟩
      have tk : (allE n).take (i + 1) = (allE n).take i ++ [a] := by rw [List.take_succ, hi]; rfl
      simp
      refine w_draw (many := 3) D (by decide) (by decide) fun w s3 hw D3 F3 => ?_
      have g3 := F3.lst g (by omega)
      have lf : fs.length ≤ 35 := by
        have := l2.length_le
        rw [List.length_take] at this
        omega
      by_cases hw2 : w < 2
      · have g5 := mAppend_ref (x := a.d) g3 (by simp; omega)
        have c : (w : Int) < 2 := by omega
        simp [c, okT_ref g3, g5]
        rw [hP]
        refine ⟨fs ++ [a], ⟨_, rfl⟩, by rw [lstAt_set g3]; simp, ?_, D3.put2 (by omega) (by omega), (F.trans F3).put2 (Nat.le_refl _)⟩
        rw [tk]
        exact l2.append (List.Sublist.refl _)
      · have c : ¬ ((w : Int) < 2) := by omega
        simp [c]
        rw [hP]
        refine ⟨fs, ⟨_, rfl⟩, g3, ?_, D3, F.trans F3⟩
        rw [tk]
        exact l2.trans (List.sublist_append_left _ _)
    · intro τ s hp
      rw [hP] at hp
      obtain ⟨fs, ⟨b, rfl⟩, g, l2, D, F⟩ := hp
      rw [List.take_length] at l2
      simp [fTuple_ref g]
      exact hQ fs s l2 D (F12.trans F)
end

section
variable {st : Store} {es : List Ed}
theorem Ed.plain {e : Ed} {n : Nat} : e.d.plain (n + 1) = true := by cases e <;> simp [Ed.d]
theorem in_ed {e : Ed} : dIn e.d (eds es) st = some (decide (e ∈ es)) := by
  have h1 : e.d.flat = false := by cases e <;> rfl
  have h2 : (es.map Ed.d).all (D.plain 59) = true := by
    rw [List.all_eq_true]
    intro x hx
    obtain ⟨a, _, rfl⟩ := List.mem_map.mp hx
    exact Ed.plain
  have h3 : (e.d ∈ es.map Ed.d) = (e ∈ es) := propext ⟨fun h => by
    obtain ⟨a, ha, e⟩ := List.mem_map.mp h
    rw [← Ed.d_inj e]
    exact ha, fun h => List.mem_map_of_mem h⟩
  rw [dIn_S rfl]
  cases e <;> simp only [dInS, Ed.d, eds, dSeq] <;> simp only [Ed.d] at h1 h3 <;> simp [D.flat, h2, h3]
theorem in_cut {k : Int} : dIn (.tup [.str [99, 117, 116], .int k]) (eds es) st = some (decide (Ed.cut k ∈ es)) := in_ed (e := .cut k)
theorem in_put {k : Int} : dIn (.tup [.str [112, 117, 116], .int k]) (eds es) st = some (decide (Ed.put k ∈ es)) := in_ed (e := .put k)
theorem in_turn {k o : Int} : dIn (.tup [.str [116, 117, 114, 110], .int k, .int o]) (eds es) st = some (decide (Ed.turn k o ∈ es)) := in_ed (e := .turn k o)
end

/-! k04: steps and sides -/
def tb (t : List Int) : D := .tup (t.map D.int)
inductive Stp where
  | keep (k : Int) | ed (e : Ed)
  deriving DecidableEq
def Stp.d : Stp → D
  | .keep k => .tup [.str [107, 101, 101, 112], .int k]
  | .ed e => e.d
def stD (a : List Stp) : D := .tup (a.map Stp.d)
def sa : Stp → List Int
  | .keep k => [k]
  | .ed (.cut k) => [k]
  | .ed (.put _) => []
  | .ed (.turn k _) => [k]
def sb : Stp → List Int
  | .keep k => [k]
  | .ed (.cut _) => []
  | .ed (.put k) => [k]
  | .ed (.turn _ o) => [o]
def sda (a : List Stp) : List Int := a.flatMap sa
def sdb (a : List Stp) : List Int := a.flatMap sb
def isEd : Stp → Bool
  | .keep _ => false
  | .ed _ => true
theorem sda_len (a : List Stp) : (sda a).length ≤ a.length := by
  induction a with
  | nil => exact Nat.le_refl _
  | cons s a ih =>
    unfold sda at ih ⊢
    rw [List.flatMap_cons, List.length_append, List.length_cons]
    have : (sa s).length ≤ 1 := by
      cases s with
      | keep k => exact Nat.le_refl _
      | ed e => cases e <;> simp [sa]
    omega
theorem sdb_len (a : List Stp) : (sdb a).length ≤ a.length := by
  induction a with
  | nil => exact Nat.le_refl _
  | cons s a ih =>
    unfold sdb at ih ⊢
    rw [List.flatMap_cons, List.length_append, List.length_cons]
    have : (sb s).length ≤ 1 := by
      cases s with
      | keep k => exact Nat.le_refl _
      | ed e => cases e <;> simp [sb]
    omega
theorem take_snoc {α : Type} {l : List α} {i : Nat} {a : α} (h : l[i]? = some a) : l.take (i + 1) = l.take i ++ [a] := by
  rw [List.take_add_one, h]
  rfl
section
variable {st : Store} {a : List Stp}
theorem w_sides (hl : a.length ≤ 10000) : W (f_sides [stD a] st) fun d s => d = .tup [tb (sda a), tb (sdb a)] ∧ Gr st s := by
  unfold f_sides
  rw [runB_e]
  unfold m_sides
  rw [W_fin]
  have dA : ∀ s, dSq s (stD a) = some (.fix (a.map Stp.d)) := fun _ => rfl
  obtain ⟨X, hX⟩ : ∃ X, X = stD a := ⟨_, rfl⟩
  rw [← hX] at dA ⊢
  have e0 : ent 5 [X] = [some X, none, none, none, none] := rfl
  rw [e0]
  refine ws_cons (N' := fun τ s => τ = [some X, some (.ref st.length), none, none, none] ∧ s = st ++ [.lst []]) ?_ fun τ s hp => ?_
  · refine ws_set ?_
    exact W.of (a := .ref st.length) (s := st ++ [.lst []]) (by simp) ⟨rfl, rfl⟩
  obtain ⟨rfl, hs⟩ := hp
  rw [hs]
  clear hs s
  refine ws_cons (N' := fun τ s => τ = [some X, some (.ref st.length), some (.ref (st.length + 1)), none, none] ∧ s = st ++ [.lst []] ++ [.lst []]) ?_ fun τ s hp => ?_
  · refine ws_set ?_
    exact W.of (a := .ref (st.length + 1)) (s := st ++ [.lst []] ++ [.lst []]) (by simp) ⟨rfl, rfl⟩
  obtain ⟨rfl, hs⟩ := hp
  have g0 : lstAt s st.length = some [] := by rw [hs]; exact Gr.app.lst lstAt_new
  have g1 : lstAt s (st.length + 1) = some [] := by
    have := lstAt_new (a := st ++ [.lst []]) (xs := [])
    rw [hs]
    simpa using this
  have G0 : Gr st s := by rw [hs]; exact Gr.app.trans Gr.app
  clear hs
  obtain ⟨J, hJ⟩ : ∃ J : Nat → Sl → Store → Prop, J = fun i τ s => (∃ x y, τ = [some X, some (.ref st.length), some (.ref (st.length + 1)), x, y]) ∧ lstAt s st.length = some ((sda (a.take i)).map D.int) ∧ lstAt s (st.length + 1) = some ((sdb (a.take i)).map D.int) ∧ Gr st s := ⟨_, rfl⟩
  refine ws_cons (N' := J a.length) ?_ fun τ s hp => ?_
  · refine ws_forD (fun q s' => q = .fix (a.map Stp.d) ∧ s' = s) ?_ ?_
    · rw [iEx_e, W_bind]
      refine W.of (a := X) (s := s) rfl ?_
      rw [dA, ofQ_some, W_ok]
      exact ⟨rfl, rfl⟩
    · rintro _ s0 ⟨rfl, hs0⟩
      rw [hs0]
      refine ws_map Stp.d a rfl J (fun _ _ _ _ => rfl) (by rw [hJ]; exact ⟨⟨none, none, rfl⟩, g0, g1, G0⟩) (fun i z τ s' hi hp => ?_) fun τ s' hp => hp
      rw [hJ] at hp
      obtain ⟨⟨x, y, rfl⟩, h1, h2, G⟩ := hp
      refine ⟨_, rfl, ?_⟩
      have l1 := sda_len (a.take i)
      have l2 := sdb_len (a.take i)
      have li := (List.getElem?_eq_some_iff.mp hi).1
      have lt : (a.take i).length ≤ i := List.length_take_le ..
      have t1 : sda (a.take (i + 1)) = sda (a.take i) ++ sa z := by
        rw [take_snoc hi]
        unfold sda
        rw [List.flatMap_append, List.flatMap_singleton]
      have t2 : sdb (a.take (i + 1)) = sdb (a.take i) ++ sb z := by
        rw [take_snoc hi]
        unfold sdb
        rw [List.flatMap_append, List.flatMap_singleton]
      obtain ⟨P1, hP1⟩ : ∃ P1, P1 = sda (a.take i) := ⟨_, rfl⟩
      obtain ⟨P2, hP2⟩ : ∃ P2, P2 = sdb (a.take i) := ⟨_, rfl⟩
      rw [← hP1] at h1 l1 t1
      rw [← hP2] at h2 l2 t2
      have ap1 := fun v : Int => mAppend_ref (x := .int v) h1 (by rw [List.length_map]; omega)
      have ap2 := fun v : Int => mAppend_ref (x := .int v) h2 (by rw [List.length_map]; omega)
      have n1 : st.length + 1 ≠ st.length := by omega
      have h2' : ∀ v : Int, lstAt (s'.set st.length (.lst (P1.map D.int ++ [.int v]))) (st.length + 1) = some (P2.map D.int) := fun v => by rw [lstAt_ne n1]; exact h2
      have ap2' := fun v u : Int => mAppend_ref (x := .int u) (h2' v) (by rw [List.length_map]; omega)
      have fin1 : ∀ v : Int, lstAt (s'.set st.length (.lst (P1.map D.int ++ [.int v]))) st.length = some ((P1 ++ [v]).map D.int) := fun v => by rw [lstAt_set h1, List.map_append]; rfl
      have fin2 : ∀ v u : Int, lstAt ((s'.set st.length (.lst (P1.map D.int ++ [.int v]))).set (st.length + 1) (.lst (P2.map D.int ++ [.int u]))) st.length = some ((P1 ++ [v]).map D.int) ∧ lstAt ((s'.set st.length (.lst (P1.map D.int ++ [.int v]))).set (st.length + 1) (.lst (P2.map D.int ++ [.int u]))) (st.length + 1) = some ((P2 ++ [u]).map D.int) := fun v u => ⟨by rw [lstAt_ne (Ne.symm n1)]; exact fin1 v, by rw [lstAt_set (h2' v), List.map_append]; rfl⟩
      have k1 := okT_ref h1
      have k2 := okT_ref h2
      have k2' := fun v => okT_ref (h2' v)
      cases z with
      | keep k =>
        have fin : J (i + 1) [some X, some (.ref st.length), some (.ref (st.length + 1)), some (Stp.keep k).d, some (.str [107, 101, 101, 112])] ((s'.set st.length (.lst (P1.map D.int ++ [.int k]))).set (st.length + 1) (.lst (P2.map D.int ++ [.int k]))) := by
          rw [hJ]
          refine ⟨⟨_, _, rfl⟩, ?_, ?_, (G.put (Nat.le_refl _)).put (Nat.le_succ _)⟩
          · rw [t1]; exact (fin2 k k).1
          · rw [t2]; exact (fin2 k k).2
        simp only [sSeq_e, sIf_e, sSet_e, sExpr_e, sRet_e, sRetN_e, sNil_e, sFor_e, sBrk_e, sCnt_e, sSub_e, sAsg_e, W_fin, WS_seq, WS_bindE, WS_nx, WS_rt, WS_bk, WS_ct]
        simp [Stp.d, k1, ap1, k2', ap2']
        exact fin
      | ed e =>
        cases e with
        | cut k =>
          have fin : J (i + 1) [some X, some (.ref st.length), some (.ref (st.length + 1)), some (Stp.ed (.cut k)).d, some (.str [99, 117, 116])] (s'.set st.length (.lst (P1.map D.int ++ [.int k]))) := by
            rw [hJ]
            refine ⟨⟨_, _, rfl⟩, ?_, ?_, G.put (Nat.le_refl _)⟩
            · rw [t1]; exact fin1 k
            · rw [t2, lstAt_ne n1, h2]; simp [sb]
          simp only [sSeq_e, sIf_e, sSet_e, sExpr_e, sRet_e, sRetN_e, sNil_e, sFor_e, sBrk_e, sCnt_e, sSub_e, sAsg_e, W_fin, WS_seq, WS_bindE, WS_nx, WS_rt, WS_bk, WS_ct]
          simp [Stp.d, Ed.d, k1, ap1]
          exact fin
        | put k =>
          have fin : J (i + 1) [some X, some (.ref st.length), some (.ref (st.length + 1)), some (Stp.ed (.put k)).d, some (.str [112, 117, 116])] (s'.set (st.length + 1) (.lst (P2.map D.int ++ [.int k]))) := by
            rw [hJ]
            refine ⟨⟨_, _, rfl⟩, ?_, ?_, G.put (Nat.le_succ _)⟩
            · rw [t1, lstAt_ne (Ne.symm n1), h1]; simp [sa]
            · rw [t2, lstAt_set h2, List.map_append]; rfl
          simp only [sSeq_e, sIf_e, sSet_e, sExpr_e, sRet_e, sRetN_e, sNil_e, sFor_e, sBrk_e, sCnt_e, sSub_e, sAsg_e, W_fin, WS_seq, WS_bindE, WS_nx, WS_rt, WS_bk, WS_ct]
          simp [Stp.d, Ed.d, k2, ap2]
          exact fin
        | turn k o =>
          have fin : J (i + 1) [some X, some (.ref st.length), some (.ref (st.length + 1)), some (Stp.ed (.turn k o)).d, some (.str [116, 117, 114, 110])] ((s'.set st.length (.lst (P1.map D.int ++ [.int k]))).set (st.length + 1) (.lst (P2.map D.int ++ [.int o]))) := by
            rw [hJ]
            refine ⟨⟨_, _, rfl⟩, ?_, ?_, (G.put (Nat.le_refl _)).put (Nat.le_succ _)⟩
            · rw [t1]; exact (fin2 k o).1
            · rw [t2]; exact (fin2 k o).2
          simp only [sSeq_e, sIf_e, sSet_e, sExpr_e, sRet_e, sRetN_e, sNil_e, sFor_e, sBrk_e, sCnt_e, sSub_e, sAsg_e, W_fin, WS_seq, WS_bindE, WS_nx, WS_rt, WS_bk, WS_ct]
          simp [Stp.d, Ed.d, k1, ap1, k2', ap2']
          exact fin
  rw [hJ] at hp
  obtain ⟨⟨x, y, rfl⟩, h1, h2, G⟩ := hp
  rw [List.take_length] at h1 h2
  refine ws_ret ?_
  have t1 := fTuple_ref h1
  have t2 := fTuple_ref h2
  exact W.of (a := .tup [tb (sda a), tb (sdb a)]) (s := s) (by simp [t1, t2, tb]) ⟨rfl, G⟩
end

/-! k04: one side, the count, what is allowed -/
def okS (es : List Ed) : Stp → Bool
  | .keep _ => true
  | .ed e => decide (e ∈ es)
def cE (a : List Stp) : Nat := (a.filter isEd).length
section
variable {st : Store} {a : List Stp} {es : List Ed}
theorem w_side (hl : a.length ≤ 10000) (b : Bool) : W (f__law_side [stD a, .bl b] st) fun d s => d = tb (if b then sdb a else sda a) ∧ Gr st s := by
  unfold f__law_side
  rw [runB_e]
  unfold m__law_side
  rw [W_fin]
  have dA : ∀ s, dSq s (stD a) = some (.fix (a.map Stp.d)) := fun _ => rfl
  obtain ⟨X, hX⟩ : ∃ X, X = stD a := ⟨_, rfl⟩
  rw [← hX] at dA ⊢
  have e0 : ent 4 [X, .bl b] = [some X, some (.bl b), none, none] := rfl
  rw [e0]
  refine ws_cons (N' := fun τ s => τ = [some X, some (.bl b), some (.ref st.length), none] ∧ s = st ++ [.lst []]) ?_ fun τ s hp => ?_
  · refine ws_set ?_
    exact W.of (a := .ref st.length) (s := st ++ [.lst []]) (by simp) ⟨rfl, rfl⟩
  obtain ⟨rfl, hs⟩ := hp
  have g0 : lstAt s st.length = some [] := by rw [hs]; exact lstAt_new
  have G0 : Gr st s := by rw [hs]; exact Gr.app
  clear hs
  obtain ⟨sd, hsd⟩ : ∃ sd : List Stp → List Int, sd = fun a => if b then sdb a else sda a := ⟨_, rfl⟩
  obtain ⟨s1, hs1⟩ : ∃ s1 : Stp → List Int, s1 = fun z => if b then sb z else sa z := ⟨_, rfl⟩
  have sdl : ∀ a, (sd a).length ≤ a.length := fun a => by
    rw [hsd]
    cases b
    · exact sda_len a
    · exact sdb_len a
  have sdn : ∀ (i : Nat) z, a[i]? = some z → sd (a.take (i + 1)) = sd (a.take i) ++ s1 z := fun i z hi => by
    rw [take_snoc hi, hsd, hs1]
    cases b
    · show (_ : List Stp).flatMap sa = _
      rw [List.flatMap_append, List.flatMap_singleton]
      rfl
    · show (_ : List Stp).flatMap sb = _
      rw [List.flatMap_append, List.flatMap_singleton]
      rfl
  obtain ⟨J, hJ⟩ : ∃ J : Nat → Sl → Store → Prop, J = fun i τ s => (∃ x, τ = [some X, some (.bl b), some (.ref st.length), x]) ∧ lstAt s st.length = some ((sd (a.take i)).map D.int) ∧ Gr st s := ⟨_, rfl⟩
  refine ws_cons (N' := J a.length) ?_ fun τ s hp => ?_
  · refine ws_forD (fun q s' => q = .fix (a.map Stp.d) ∧ s' = s) ?_ ?_
    · rw [iEx_e, W_bind]
      refine W.of (a := X) (s := s) rfl ?_
      rw [dA, ofQ_some, W_ok]
      exact ⟨rfl, rfl⟩
    · rintro _ s0 ⟨rfl, hs0⟩
      rw [hs0]
      refine ws_map Stp.d a rfl J (fun _ _ _ _ => rfl) (by rw [hJ]; exact ⟨⟨none, rfl⟩, by rw [g0, hsd]; cases b <;> rfl, G0⟩) (fun i z τ s' hi hp => ?_) fun τ s' hp => hp
      rw [hJ] at hp
      obtain ⟨⟨x, rfl⟩, h1, G⟩ := hp
      refine ⟨_, rfl, ?_⟩
      have l1 := sdl (a.take i)
      have li := (List.getElem?_eq_some_iff.mp hi).1
      have lt : (a.take i).length ≤ i := List.length_take_le ..
      have t1 := sdn i z hi
      obtain ⟨P1, hP1⟩ : ∃ P1, P1 = sd (a.take i) := ⟨_, rfl⟩
      rw [← hP1] at h1 l1 t1
      have ap1 := fun v : Int => mAppend_ref (x := .int v) h1 (by rw [List.length_map]; omega)
      have k1 := okT_ref h1
      have fin : ∀ v : Int, s1 z = [v] → J (i + 1) [some X, some (.bl b), some (.ref st.length), some z.d] (s'.set st.length (.lst (P1.map D.int ++ [.int v]))) := fun v hv => by
        rw [hJ]
        refine ⟨⟨_, rfl⟩, ?_, G.put (Nat.le_refl _)⟩
        rw [lstAt_set h1, t1, hv, List.map_append]
        rfl
      have fin0 : s1 z = [] → J (i + 1) [some X, some (.bl b), some (.ref st.length), some z.d] s' := fun hv => by
        rw [hJ]
        refine ⟨⟨_, rfl⟩, ?_, G⟩
        rw [t1, hv, List.append_nil]
        exact h1
      cases z with
      | keep k =>
        have fin := fin k (by rw [hs1]; cases b <;> rfl)
        simp only [sSeq_e, sIf_e, sSet_e, sExpr_e, sRet_e, sRetN_e, sNil_e, sFor_e, sBrk_e, sCnt_e, sSub_e, sAsg_e, W_fin, WS_seq, WS_bindE, WS_nx, WS_rt, WS_bk, WS_ct]
        simp [Stp.d, k1, ap1]
        exact fin
      | ed e =>
        cases e with
        | cut k =>
          cases b with
          | false =>
            have fin := fin k (by rw [hs1]; rfl)
            simp only [sSeq_e, sIf_e, sSet_e, sExpr_e, sRet_e, sRetN_e, sNil_e, sFor_e, sBrk_e, sCnt_e, sSub_e, sAsg_e, W_fin, WS_seq, WS_bindE, WS_nx, WS_rt, WS_bk, WS_ct]
            simp [Stp.d, Ed.d, k1, ap1]
            exact fin
          | true =>
            have fin := fin0 (by rw [hs1]; rfl)
            simp only [sSeq_e, sIf_e, sSet_e, sExpr_e, sRet_e, sRetN_e, sNil_e, sFor_e, sBrk_e, sCnt_e, sSub_e, sAsg_e, W_fin, WS_seq, WS_bindE, WS_nx, WS_rt, WS_bk, WS_ct]
            simp [Stp.d, Ed.d, k1, ap1]
            exact fin
        | put k =>
          cases b with
          | false =>
            have fin := fin0 (by rw [hs1]; rfl)
            simp only [sSeq_e, sIf_e, sSet_e, sExpr_e, sRet_e, sRetN_e, sNil_e, sFor_e, sBrk_e, sCnt_e, sSub_e, sAsg_e, W_fin, WS_seq, WS_bindE, WS_nx, WS_rt, WS_bk, WS_ct]
            simp [Stp.d, Ed.d, k1, ap1]
            exact fin
          | true =>
            have fin := fin k (by rw [hs1]; rfl)
            simp only [sSeq_e, sIf_e, sSet_e, sExpr_e, sRet_e, sRetN_e, sNil_e, sFor_e, sBrk_e, sCnt_e, sSub_e, sAsg_e, W_fin, WS_seq, WS_bindE, WS_nx, WS_rt, WS_bk, WS_ct]
            simp [Stp.d, Ed.d, k1, ap1]
            exact fin
        | turn k o =>
          cases b with
          | false =>
            have fin := fin k (by rw [hs1]; rfl)
            simp only [sSeq_e, sIf_e, sSet_e, sExpr_e, sRet_e, sRetN_e, sNil_e, sFor_e, sBrk_e, sCnt_e, sSub_e, sAsg_e, W_fin, WS_seq, WS_bindE, WS_nx, WS_rt, WS_bk, WS_ct]
            simp [Stp.d, Ed.d, k1, ap1]
            exact fin
          | true =>
            have fin := fin o (by rw [hs1]; rfl)
            simp only [sSeq_e, sIf_e, sSet_e, sExpr_e, sRet_e, sRetN_e, sNil_e, sFor_e, sBrk_e, sCnt_e, sSub_e, sAsg_e, W_fin, WS_seq, WS_bindE, WS_nx, WS_rt, WS_bk, WS_ct]
            simp [Stp.d, Ed.d, k1, ap1]
            exact fin
  rw [hJ] at hp
  obtain ⟨⟨x, rfl⟩, h1, G⟩ := hp
  rw [List.take_length] at h1
  refine ws_ret ?_
  have t1 := fTuple_ref h1
  refine W.of (a := tb (sd a)) (s := s) (by simp [t1, tb]) ⟨by rw [hsd], G⟩
theorem ne_keep (z : Stp) (s : Store) : ∃ w, oIx z.d (.int 0) s = .ok (.str w) s ∧ decide (w = [107, 101, 101, 112]) = !isEd z := by
  cases z with
  | keep k => exact ⟨_, rfl, by simp [isEd]⟩
  | ed e => cases e <;> exact ⟨_, rfl, by simp [isEd]⟩
theorem w_count (hl : a.length ≤ 10000) : W (f_count_edits [stD a] st) fun d s => d = .int (cE a : Nat) ∧ s = st := by
  unfold f_count_edits
  rw [runB_e]
  unfold m_count_edits
  rw [W_fin]
  have e0 : ent 2 [stD a] = [some (stD a), none] := rfl
  rw [e0]
  refine ws_ret ?_
  rw [eCS_e, W_bind, lComp_e, W_bind, iEx_e, W_bind]
  refine W.of (a := stD a) (s := st) rfl ?_
  rw [show dSq st (stD a) = some (.fix (a.map Stp.d)) from rfl, ofQ_some, W_ok]
  refine w_lc (by show (a.map Stp.d).length ≤ _; rw [List.length_map]; omega) ?_
  refine w_fil Stp.d Stp.d isEd a rfl rfl (fun z _ => ⟨_, rfl, ?_⟩) ?_
  · obtain ⟨w, h1, h2⟩ := ne_keep z st
    obtain ⟨Z, hZ⟩ : ∃ Z, Z = z.d := ⟨_, rfl⟩
    rw [← hZ] at h1 ⊢
    refine W.of (a := isEd z) (s := st) ?_ ⟨rfl, rfl, fun _ => W.of (a := Z) (s := st) (by simp [wipeD]) ⟨rfl, rfl⟩⟩
    cases hz : isEd z
    · rw [hz] at h2
      have h2 : w = [107, 101, 101, 112] := of_decide_eq_true h2
      simp [wipeD, h1, h2]
    · rw [hz] at h2
      have h2 : ¬ w = [107, 101, 101, 112] := of_decide_eq_false h2
      simp [wipeD, h1, h2]
  · rw [gLen_e, W_ok]
    exact ⟨by rw [List.length_map]; rfl, rfl⟩
theorem w_ledits (hl : a.length ≤ 10000) : W (f__law_edits [stD a] st) fun d s => d = .int (cE a : Nat) ∧ s = st := w_count hl
theorem w_allowed (hl : a.length ≤ 10000) : W (f_is_allowed [eds es, stD a] st) fun d s => d = .bl (a.all (okS es)) ∧ s = st := by
  unfold f_is_allowed
  rw [runB_e]
  unfold m_is_allowed
  rw [W_fin]
  have dA : ∀ s, dSq s (stD a) = some (.fix (a.map Stp.d)) := fun _ => rfl
  have din : ∀ (e : Ed) s, dIn e.d (eds es) s = some (decide (e ∈ es)) := fun e s => in_ed
  obtain ⟨X, hX⟩ : ∃ X, X = stD a := ⟨_, rfl⟩
  obtain ⟨Y, hY⟩ : ∃ Y, Y = eds es := ⟨_, rfl⟩
  rw [← hX] at dA ⊢
  rw [← hY] at din ⊢
  have e0 : ent 3 [Y, X] = [some Y, some X, none] := rfl
  rw [e0]
  refine ws_cons (N' := fun τ s => a.all (okS es) = true ∧ s = st) ?_ fun τ s hp => ?_
  · refine ws_forD (fun q s' => q = .fix (a.map Stp.d) ∧ s' = st) ?_ ?_
    · rw [iEx_e, W_bind]
      refine W.of (a := X) (s := st) rfl ?_
      rw [dA, ofQ_some, W_ok]
      exact ⟨rfl, rfl⟩
    · rintro _ s0 ⟨rfl, hs0⟩
      rw [hs0]
      refine ws_all Stp.d (okS es) (fun τ => ∃ t, τ = [some Y, some X, t]) (fun s => s = st) (fun _ _ => rfl) a _ _ _ rfl ⟨none, rfl⟩ rfl (fun z hz τ s hτ hs => ?_) (fun τ s ha _ hs => ⟨ha, hs⟩) (fun s ha hs => ⟨by rw [ha], hs⟩)
      obtain ⟨t, rfl⟩ := hτ
      refine ⟨_, rfl, ?_⟩
      obtain ⟨w, h1, h2⟩ := ne_keep z s
      cases z with
      | keep k =>
        simp [Stp.d, okS, hs]
      | ed e =>
        have h2 : ¬ w = [107, 101, 101, 112] := of_decide_eq_false h2
        have d1 := din e s
        obtain ⟨Z, hZ⟩ : ∃ Z, Z = e.d := ⟨_, rfl⟩
        have hZ2 : Stp.d (.ed e) = Z := hZ.symm
        rw [hZ2] at h1 ⊢
        rw [← hZ] at d1
        by_cases q : e ∈ es
        · rw [decide_eq_true q, hs] at d1
          rw [hs] at h1
          simp [h1, h2, d1, okS, q, hs]
        · rw [decide_eq_false q, hs] at d1
          rw [hs] at h1
          simp [h1, h2, d1, okS, q, hs]
  obtain ⟨ha, rfl⟩ := hp
  refine ws_ret ?_
  exact W.of (a := .bl true) (s := s) rfl ⟨by rw [ha], rfl⟩
theorem w_ints {t : List Int} (hl : t.length ≤ 10000) : W (f__law_is_ints [tb t] st) fun d s => d = .bl true ∧ s = st := by
  unfold f__law_is_ints
  rw [runB_e]
  unfold m__law_is_ints
  rw [W_fin]
  have e0 : ent 2 [tb t] = [some (tb t), none] := rfl
  rw [e0]
  refine ws_ret ?_
  have f1 : fIsi [tb t, .ty "tuple"] st = .ok (.bl true) st := by unfold tb; simp
  have hX : W (eCS gAllB (lComp [1] (iEx (eVar 0)) (gN 1) tYes (eCall 1 f__law_is_int (aCons (eVar 1) aNil))) [some (tb t), none] st) fun d s => d = .bl true ∧ s = st := by
    rw [eCS_e, W_bind, lComp_e, W_bind, iEx_e, W_bind]
    refine W.of (a := tb t) (s := st) rfl ?_
    rw [show dSq st (tb t) = some (.fix (t.map D.int)) from rfl, ofQ_some, W_ok]
    refine w_lc (by show (t.map D.int).length ≤ _; rw [List.length_map]; omega) ?_
    refine w_map D.int (fun _ => D.bl true) t rfl rfl (fun z _ => ⟨_, rfl, ?_⟩) ?_
    · have := r_is_int (st := st) (i := z)
      exact W.of (a := .bl true) (s := st) (by simp [wipeD, this]) ⟨rfl, rfl⟩
    · have := gAllB_map (f := fun _ : Int => true) (xs := t) (st := st)
      rw [this, W_ok]
      exact ⟨by simp, rfl⟩
  obtain ⟨d, s2, ea, rfl, rfl⟩ := hX.ex
  obtain ⟨X, hX⟩ : ∃ X, X = tb t := ⟨_, rfl⟩
  obtain ⟨fe, hfe⟩ : ∃ fe : EM D, fe = (eCS gAllB (lComp [1] (iEx (eVar 0)) (gN 1) tYes (eCall 1 f__law_is_int (aCons (eVar 1) aNil)))) := ⟨_, rfl⟩
  rw [← hfe] at ea ⊢
  rw [← hX] at ea f1 ⊢
  exact W.of (a := .bl true) (s := s2) (by simp [f1, ea]) ⟨rfl, rfl⟩
theorem w_sides_right (hl : a.length ≤ 10000) : W (f__law_sides_right [stD a] st) fun d s => d = .bl true ∧ Gr st s := by
  have la := sda_len a
  have lb := sdb_len a
  have ws := fun s => w_sides (st := s) hl
  have wf := fun s => w_side (st := s) hl false
  have wt := fun s => w_side (st := s) hl true
  have wc := fun s => w_count (st := s) hl
  have we := fun s => w_ledits (st := s) hl
  have wia := fun s => w_ints (st := s) (t := sda a) (by omega)
  have wib := fun s => w_ints (st := s) (t := sdb a) (by omega)
  have wi := fun i s => r_is_int (st := s) (i := i)
  have npl : ∀ s, oNe (.tup [tb (sda a), tb (sdb a)]) (.tup [tb (sda a), tb (sdb a)]) s = .ok (.bl false) s := fun s => by
    have q : (D.tup [tb (sda a), tb (sdb a)]).plain 60 = true := by simp [tb]
    rw [oNe_tup q q]
    simp
  rw [if_neg (by decide)] at wf
  rw [if_pos rfl] at wt
  obtain ⟨X, hX⟩ : ∃ X, X = stD a := ⟨_, rfl⟩
  rw [← hX] at ws wf wt wc we ⊢
  obtain ⟨TA, hTA⟩ : ∃ TA, TA = tb (sda a) := ⟨_, rfl⟩
  obtain ⟨TB, hTB⟩ : ∃ TB, TB = tb (sdb a) := ⟨_, rfl⟩
  rw [← hTA] at ws wf wia npl
  rw [← hTB] at ws wt wib npl
  have p0 : ∀ s, oIx (.tup [TA, TB]) (.int 0) s = .ok TA s := fun _ => rfl
  have p1 : ∀ s, oIx (.tup [TA, TB]) (.int 1) s = .ok TB s := fun _ => rfl
  unfold f__law_sides_right
  rw [runB_e]
  unfold m__law_sides_right
  rw [W_fin]
  have e0 : ent 3 [X] = [some X, none, none] := rfl
  rw [e0]
  refine ws_cons (N' := fun τ s => τ = [some X, some (.tup [TA, TB]), none] ∧ Gr st s) ?_ fun τ s hp => ?_
  · refine ws_set ?_
    refine W.opq fun Q hQ => ?_
    simp
    refine (ws st).mono fun d s h => hQ _ _ ?_
    obtain ⟨rfl, G⟩ := h
    exact ⟨rfl, G⟩
  obtain ⟨rfl, G⟩ := hp
  refine ws_cons (N' := fun τ s' => τ = [some X, some (.tup [TA, TB]), none] ∧ s' = s) ?_ fun τ s' hp => ?_
  · refine ws_ifd (fun b s' => b = false ∧ s' = s) ?_ (fun s' hb => absurd hb.1 (by decide)) (fun s' hb => ?_)
    · refine W.opq fun Q hQ => ?_
      simp
      refine (wia s).mono fun d s1 h => ?_
      obtain ⟨rfl, rfl⟩ := h
      simp
      refine (wib s1).mono fun d s2 h => ?_
      obtain ⟨rfl, rfl⟩ := h
      simp
      exact hQ _ _ ⟨rfl, rfl⟩
    · rw [sNil_e, WS_nx, hb.2]
      exact ⟨rfl, rfl⟩
  obtain ⟨rfl, hs⟩ := hp
  rw [hs]
  clear hs s'
  refine ws_cons (N' := fun τ s' => τ = [some X, some (.tup [TA, TB]), none] ∧ Gr st s') ?_ fun τ s' hp => ?_
  · refine ws_ifd (fun b s' => b = false ∧ Gr st s') ?_ (fun s' hb => absurd hb.1 (by decide)) (fun s' hb => ?_)
    · refine W.opq fun Q hQ => ?_
      simp
      refine (wf s).mono fun d s1 h => ?_
      obtain ⟨rfl, G1⟩ := h
      refine (wt s1).mono fun d s2 h => ?_
      obtain ⟨rfl, G2⟩ := h
      rw [npl]
      simp
      exact hQ _ _ ⟨rfl, (G.trans G1).trans G2⟩
    · rw [sNil_e, WS_nx]
      exact ⟨rfl, hb.2⟩
  clear G
  obtain ⟨rfl, G⟩ := hp
  refine ws_cons (N' := fun τ s => τ = [some X, some (.tup [TA, TB]), some (.int (cE a : Nat))] ∧ s = s') ?_ fun τ s hp => ?_
  · refine ws_set ?_
    refine W.opq fun Q hQ => ?_
    simp
    refine (wc s').mono fun d s h => hQ _ _ ?_
    obtain ⟨rfl, rfl⟩ := h
    exact ⟨rfl, rfl⟩
  obtain ⟨rfl, hs⟩ := hp
  rw [hs]
  clear hs s
  refine ws_ret ?_
  refine W.opq fun Q hQ => ?_
  simp [wi]
  refine (we s').mono fun d s h => ?_
  obtain ⟨rfl, rfl⟩ := h
  simp
  exact hQ _ _ ⟨rfl, G⟩
end

/-! k04: edits in order, edits that may be none -/
theorem asc_all {n : Nat} (h : n ≤ 5) : AscD ((allE n).map Ed.d) := by
  match n, h with
  | 0, _ => decide +kernel
  | 1, _ => decide +kernel
  | 2, _ => decide +kernel
  | 3, _ => decide +kernel
  | 4, _ => decide +kernel
  | 5, _ => decide +kernel
theorem asc_sub {M N : List D} (s : M.Sublist N) (h : AscD N) : AscD M := ⟨h.1.sublist s, fun a ha => h.2 a (s.subset ha)⟩
/-- a word and numbers -/
inductive Wd where
  | cut | put | turn | keep | cuts | any | swap
  deriving DecidableEq
def Wd.v : Wd → List Nat
  | .cut => [99, 117, 116]
  | .put => [112, 117, 116]
  | .turn => [116, 117, 114, 110]
  | .keep => [107, 101, 101, 112]
  | .cuts => [99, 117, 116, 115]
  | .any => [97, 110, 121]
  | .swap => [115, 119, 97, 112]
theorem Wd.inj {a b : Wd} (h : a.v = b.v) : a = b := by cases a <;> cases b <;> first | rfl | (simp [Wd.v] at h)
abbrev XT := Wd × List Int
def xD (x : XT) : D := .tup (.str x.1.v :: x.2.map D.int)
def xsD (xs : List XT) : D := .tup (xs.map xD)
def Ed.x : Ed → XT
  | .cut k => (.cut, [k])
  | .put k => (.put, [k])
  | .turn k o => (.turn, [k, o])
theorem xD_ed (e : Ed) : xD e.x = e.d := by cases e <;> rfl
theorem xsD_eds (es : List Ed) : xsD (es.map Ed.x) = eds es := by
  unfold xsD eds
  rw [List.map_map]
  congr 1
  exact List.map_congr_left fun e _ => xD_ed e
theorem xD_inj {a b : XT} (h : xD a = xD b) : a = b := by
  obtain ⟨w, t⟩ := a
  obtain ⟨v, u⟩ := b
  unfold xD at h
  simp only [D.tup.injEq, List.cons.injEq, D.str.injEq] at h
  obtain ⟨h1, h2⟩ := h
  have e : t = u := by
    induction t generalizing u with
    | nil =>
      cases u with
      | nil => rfl
      | cons y u => cases h2
    | cons x t ih =>
      cases u with
      | nil => cases h2
      | cons y u =>
        simp only [List.map_cons, List.cons.injEq, D.int.injEq] at h2
        rw [h2.1, ih u h2.2]
  rw [Wd.inj h1, e]
theorem alikeI : ∀ l m : List Int, PySem.W.alikeAll (l.map PyData.int) (m.map PyData.int) = true
  | [], [] => rfl
  | [], _ :: _ => rfl
  | _ :: _, [] => rfl
  | x :: r, y :: t => by
    rw [List.map_cons, List.map_cons]
    simp [PySem.W.alikeAll, PySem.W.alike, alikeI r t]
theorem xD_toP (x : XT) : (xD x).toP 60 = .tuple (.str ⟨x.1.v.toArray⟩ :: x.2.map PyData.int) := by
  unfold xD
  show PyData.tuple ((D.str x.1.v :: x.2.map D.int).map (D.toP 59)) = _
  rw [List.map_cons, List.map_map]
  rfl
theorem alike_x (a b : XT) : PySem.W.alike ((xD a).toP 60) ((xD b).toP 60) = true := by
  rw [xD_toP, xD_toP]
  simp [PySem.W.alike, PySem.W.alikeAll, alikeI]
theorem plain_x {n : Nat} (x : XT) : (xD x).plain (n + 1) = true := by
  unfold xD
  rw [plain_tup, List.all_cons, List.all_map]
  obtain ⟨w, t⟩ := x
  cases w <;> simp [Wd.v]
theorem tupQ_x (x : XT) : (xD x).tupQ = true := plain_x (n := 7) x
def ltX (a b : XT) : Bool := ltD (xD a) (xD b)
theorem oLt_x {a b : XT} {st : Store} : oLt (xD a) (xD b) st = .ok (.bl (ltX a b)) st := by
  have h : dLt (xD a) (xD b) = some (ltX a b) := by
    unfold dLt
    rw [if_pos (by rw [plain_x, plain_x, alike_x]; rfl)]
    rfl
  show (match dLt (xD a) (xD b) with | some b => ER.ok (D.bl b) st | none => .bad) = _
  rw [h]
theorem sortable_x (xs : List XT) : sortable (xs.map xD) = true := by
  unfold sortable
  simp only [Bool.and_eq_true, Bool.or_eq_true, List.all_eq_true]
  refine ⟨⟨fun x hx => ?_, fun x hx y hy => ?_⟩, .inl (.inl fun x hx => ?_)⟩
  · obtain ⟨p, _, rfl⟩ := List.mem_map.mp hx
    exact plain_x p
  · obtain ⟨p, _, rfl⟩ := List.mem_map.mp hx
    obtain ⟨q, _, rfl⟩ := List.mem_map.mp hy
    exact alike_x p q
  · obtain ⟨p, _, rfl⟩ := List.mem_map.mp hx
    rfl
/-- an edit of so many kinds -/
def isE (k : Nat) (x : XT) : Bool := !x.2.isEmpty && (x.2.all fun y => decide (0 ≤ y) && decide (y < (k : Int))) &&
  if x.1 = .turn then decide (x.2.length = 2) && decide (x.2.getD 0 0 ≠ x.2.getD 1 0) else (decide (x.1 = .cut) || decide (x.1 = .put)) && decide (x.2.length = 1)
theorem isE_iff {k : Nat} {x : XT} : isE k x = true ↔ ∃ e ∈ allE k, e.d = xD x := by
  have key : isE k x = true ↔ ∃ e : Ed, e.ok k ∧ e.x = x := by
    obtain ⟨w, t⟩ := x
    unfold isE
    simp only [Bool.and_eq_true, List.all_eq_true, decide_eq_true_eq]
    constructor
    · rintro ⟨⟨h1, h2⟩, h3⟩
      split at h3
      · rename_i hw
        simp only [Bool.and_eq_true, decide_eq_true_eq] at h3
        match t, h3 with
        | [a, b], h3 =>
          have ha := h2 a (by simp)
          have hb := h2 b (by simp)
          exact ⟨.turn a b, ⟨ha, hb, h3.2⟩, by rw [show w = .turn from hw]; rfl⟩
      · simp only [Bool.and_eq_true, Bool.or_eq_true, decide_eq_true_eq] at h3
        match t, h3 with
        | [a], h3 =>
          have ha := h2 a (by simp)
          rcases h3.1 with hw | hw
          · exact ⟨.cut a, ha, by rw [show w = .cut from hw]; rfl⟩
          · exact ⟨.put a, ha, by rw [show w = .put from hw]; rfl⟩
    · rintro ⟨e, he, hx⟩
      cases e with
      | cut a =>
        simp only [Ed.x, Prod.mk.injEq] at hx
        obtain ⟨rfl, rfl⟩ := hx
        exact ⟨⟨rfl, fun y hy => by rw [List.mem_singleton.mp hy]; exact he⟩, by simp⟩
      | put a =>
        simp only [Ed.x, Prod.mk.injEq] at hx
        obtain ⟨rfl, rfl⟩ := hx
        exact ⟨⟨rfl, fun y hy => by rw [List.mem_singleton.mp hy]; exact he⟩, by simp⟩
      | turn a b =>
        simp only [Ed.x, Prod.mk.injEq] at hx
        obtain ⟨rfl, rfl⟩ := hx
        refine ⟨⟨rfl, fun y hy => ?_⟩, ?_⟩
        · rcases List.mem_cons.mp hy with q | q
          · rw [q]; exact he.1
          · rw [List.mem_singleton.mp q]; exact he.2.1
        · rw [if_pos rfl]
          simp [he.2.2]
  rw [key]
  constructor
  · rintro ⟨e, he, rfl⟩
    exact ⟨e, allE_mem.mpr he, (xD_ed e).symm⟩
  · rintro ⟨e, he, h⟩
    exact ⟨e, allE_mem.mp he, xD_inj (by rw [xD_ed, h])⟩
theorem in_all {k : Nat} {x : XT} {st : Store} : dIn (xD x) (eds (allE k)) st = some (isE k x) := by
  have h2 : ((allE k).map Ed.d).all (D.plain 59) = true := by
    rw [List.all_eq_true]
    intro x hx
    obtain ⟨a, _, rfl⟩ := List.mem_map.mp hx
    exact Ed.plain
  have h3 : decide (xD x ∈ (allE k).map Ed.d) = isE k x := by
    rw [Bool.eq_iff_iff, decide_eq_true_eq, isE_iff, List.mem_map]
  rw [dIn_S rfl]
  have h4 := plain_x (n := 58) x
  rw [← h3]
  obtain ⟨w, t⟩ := x
  unfold xD at h4 ⊢
  show (if _ then _ else _) = _
  simp only [D.flat, Bool.false_and, Bool.false_eq_true, if_false, h4, h2, Bool.and_self, if_true]
/-- a nearness -/
def isN (k : Nat) (xs : List XT) : Bool := xs.all (isE k) && (List.range (xs.length - 1)).all fun i => ltX (xs.getD i (.cut, [])) (xs.getD (i + 1) (.cut, []))

/-! k04: who is an edit, who a nearness -/
section
variable {st : Store} {k : Nat} {x : XT} {xs : List XT}
theorem w_is_edit (hx : x.2.length ≤ 100) : W (f_is_edit [.int (k : Nat), xD x] st) fun d s => d = .bl (isE k x) ∧ s = st := by
  obtain ⟨w, t⟩ := x
  have hx : t.length ≤ 100 := hx
  have l0 : ∀ s, fLen [xD (w, t)] s = .ok (.int ((t.length : Int) + 1)) s := fun s => by simp [xD]
  have c1 : ∀ s, dCut (xD (w, t)) (some 1) none s = .ok (tb t) s := fun s => by
    show ER.ok (D.tup (cutD (.str w.v :: t.map D.int) (some ((1 : Nat) : Int)) none)) s = _
    rw [cutD_from]
    rfl
  have dt : ∀ s, dSq s (tb t) = some (.fix (t.map D.int)) := fun _ => rfl
  have i0 : ∀ s, oIx (xD (w, t)) (.int 0) s = .ok (.str w.v) s := fun s => by
    show oIx (.tup (.str w.v :: t.map D.int)) (.int ((0 : Nat) : Int)) s = _
    rw [oIx_tup, atI_nat (v := D.str w.v) rfl]
    rfl
  have i1 : ∀ a b s, t = [a, b] → oIx (xD (w, t)) (.int 1) s = .ok (.int a) s := fun a b s h => by rw [h]; rfl
  have i2 : ∀ a b s, t = [a, b] → oIx (xD (w, t)) (.int 2) s = .ok (.int b) s := fun a b s h => by rw [h]; rfl
  obtain ⟨X, hX⟩ : ∃ X, X = xD (w, t) := ⟨_, rfl⟩
  obtain ⟨T, hT⟩ : ∃ T, T = tb t := ⟨_, rfl⟩
  rw [← hX] at l0 c1 i0 i1 i2 ⊢
  rw [← hT] at c1 dt
  unfold f_is_edit
  rw [runB_e]
  unfold m_is_edit
  rw [W_fin]
  have e0 : ent 3 [.int (k : Nat), X] = [some (.int (k : Nat)), some X, none] := rfl
  rw [e0]
  by_cases h0 : t = []
  · subst h0
    have : isE k (w, []) = false := rfl
    refine ws_take (by simp [l0]) ?_
    refine ws_ret ?_
    exact W.of (a := .bl false) (s := st) rfl ⟨by rw [this], rfl⟩
  · have hl : 0 < t.length := List.length_pos_iff.mpr h0
    have c : ¬ ((t.length : Int) + 1 < 2) := by omega
    have hem : t.isEmpty = false := by cases t with
      | nil => exact absurd rfl h0
      | cons _ _ => rfl
    obtain ⟨Pk, hPk⟩ : ∃ Pk : Int → Bool, Pk = fun y => decide (0 ≤ y) && decide (y < (k : Int)) := ⟨_, rfl⟩
    have hE : isE k (w, t) = (t.all Pk && if w = .turn then decide (t.length = 2) && decide (t.getD 0 0 ≠ t.getD 1 0) else (decide (w = .cut) || decide (w = .put)) && decide (t.length = 1)) := by
      unfold isE
      rw [hPk]
      simp only [hem, Bool.not_false, Bool.true_and]
    refine ws_skip (by simp [l0, c]) ?_
    refine ws_cons (N' := fun τ s => t.all Pk = true ∧ s = st ∧ ∃ z, τ = [some (.int (k : Nat)), some X, z]) ?_ fun τ s hp => ?_
    · refine ws_forD (fun q s' => q = .fix (t.map D.int) ∧ s' = st) ?_ ?_
      · rw [iEx_e, W_bind]
        refine W.of (a := T) (s := st) (by simp [c1]) ?_
        rw [dt, ofQ_some, W_ok]
        exact ⟨rfl, rfl⟩
      · rintro _ s0 ⟨rfl, hs0⟩
        rw [hs0]
        refine ws_all D.int Pk (fun τ => ∃ z, τ = [some (.int (k : Nat)), some X, z]) (fun s => s = st) (fun _ _ => rfl) t _ _ _ rfl ⟨none, rfl⟩ rfl (fun y hy τ s hτ hs => ?_) (fun τ s ha hτ hs => ⟨ha, hs, hτ⟩) (fun s ha hs => ⟨by rw [hE, ha]; rfl, hs⟩)
        obtain ⟨z, rfl⟩ := hτ
        refine ⟨_, rfl, ?_⟩
        rw [hPk]
        by_cases a : 0 ≤ y
        · have a' : ¬ y < 0 := by omega
          by_cases b : y < (k : Int)
          · have b' : ¬ (k : Int) ≤ y := by omega
            simp [a, a', b, b', hs]
          · have b' : (k : Int) ≤ y := by omega
            simp [a, a', b, b', hs]
        · have a' : y < 0 := by omega
          simp [a, a', hs]
    obtain ⟨ha, hs, z, rfl⟩ := hp
    subst hs
    rw [ha, Bool.true_and] at hE
    by_cases hw : w = .turn
    · rw [if_pos hw] at hE
      refine ws_take (by rw [hw] at i0; simp [i0, Wd.v]) ?_
      refine ws_ret ?_
      by_cases h2 : t.length = 2
      · match t, h2 with
        | [a, b], _ =>
          have i1 := i1 a b s rfl
          have i2 := i2 a b s rfl
          have hE : isE k (w, [a, b]) = decide (a ≠ b) := by rw [hE]; simp
          refine W.of (a := .bl (isE k (w, [a, b]))) (s := s) ?_ ⟨rfl, rfl⟩
          rw [hE]
          by_cases q : a = b <;> simp [l0, i1, i2, q]
      · have h2' : ¬ ((t.length : Int) + 1 = 3) := by omega
        refine W.of (a := .bl false) (s := s) (by simp [l0, h2']) ⟨?_, rfl⟩
        rw [hE, decide_eq_false h2]
        rfl
    · rw [if_neg hw] at hE
      have hwv : ¬ w.v = [116, 117, 114, 110] := fun h => hw (Wd.inj (b := .turn) h)
      refine ws_skip (by simp [i0, hwv]) ?_
      refine ws_ret ?_
      have di : dIn (.str w.v) (.tup [.str [99, 117, 116], .str [112, 117, 116]]) s = some (decide (w = .cut) || decide (w = .put)) := by
        rw [dIn_flat (ys := [.str [99, 117, 116], .str [112, 117, 116]]) rfl rfl rfl]
        cases w <;> rfl
      by_cases h1 : t.length = 1
      · have h1' : (t.length : Int) + 1 = 2 := by omega
        rw [decide_eq_true h1, Bool.and_true] at hE
        refine W.of (a := .bl (decide (w = .cut) || decide (w = .put))) (s := s) ?_ ⟨by rw [hE], rfl⟩
        cases hb : (decide (w = Wd.cut) || decide (w = Wd.put))
        · rw [hb] at di
          simp [i0, l0, di, h1']
        · rw [hb] at di
          simp [i0, l0, di, h1']
      · have h1' : ¬ (t.length : Int) + 1 = 2 := by omega
        rw [decide_eq_false h1, Bool.and_false] at hE
        refine W.of (a := .bl false) (s := s) ?_ ⟨by rw [hE], rfl⟩
        cases hb : (decide (w = Wd.cut) || decide (w = Wd.put))
        · rw [hb] at di
          simp [i0, l0, di, h1']
        · rw [hb] at di
          simp [i0, l0, di, h1']
theorem ix_xs {i : Nat} {s : Store} (h : i < xs.length) : oIx (xsD xs) (.int (i : Nat)) s = .ok (xD (xs.getD i (.cut, []))) s := by
  show oIx (.tup (xs.map xD)) _ s = _
  rw [oIx_tup, atI_nat (v := xD (xs.getD i (.cut, []))) (by rw [List.getElem?_map, List.getElem?_eq_getElem h, List.getD_eq_getElem?_getD, List.getElem?_eq_getElem h]; rfl)]
  rfl
theorem rngP {n : Nat} : rng 0 ((n : Int) - 1) = (List.range (n - 1)).map fun i : Nat => D.int (i : Nat) := by
  unfold rng
  rw [show ((n : Int) - 1 - 0).toNat = n - 1 by omega]
  refine List.map_congr_left fun i _ => ?_
  show D.int (0 + (i : Nat)) = _
  rw [Int.zero_add]
theorem w_nearness (hl : xs.length ≤ 200) (hx : ∀ x ∈ xs, x.2.length ≤ 100) : W (f_is_nearness [.int (k : Nat), xsD xs] st) fun d s => d = .bl (isN k xs) ∧ s = st := by
  have we := fun x (h : x ∈ xs) s => w_is_edit (st := s) (k := k) (hx x h)
  have l0 : ∀ s, fLen [xsD xs] s = .ok (.int (xs.length : Nat)) s := fun s => by simp [xsD]
  have dt : ∀ s, dSq s (xsD xs) = some (.fix (xs.map xD)) := fun _ => rfl
  have ix : ∀ i s, i < xs.length → oIx (xsD xs) (.int (i : Nat)) s = .ok (xD (xs.getD i (.cut, []))) s := fun i s h => ix_xs h
  obtain ⟨X, hX⟩ : ∃ X, X = xsD xs := ⟨_, rfl⟩
  rw [← hX] at l0 dt ix ⊢
  unfold f_is_nearness
  rw [runB_e]
  unfold m_is_nearness
  rw [W_fin]
  have e0 : ent 4 [.int (k : Nat), X] = [some (.int (k : Nat)), some X, none, none] := rfl
  rw [e0]
  obtain ⟨q, hq⟩ : ∃ q : Nat → Bool, q = fun i => ltX (xs.getD i (.cut, [])) (xs.getD (i + 1) (.cut, [])) := ⟨_, rfl⟩
  have hN : isN k xs = (xs.all (isE k) && (List.range (xs.length - 1)).all q) := by rw [hq]; rfl
  refine ws_cons (N' := fun τ s => xs.all (isE k) = true ∧ s = st ∧ ∃ y z, τ = [some (.int (k : Nat)), some X, y, z]) ?_ fun τ s hp => ?_
  · refine ws_forD (fun q s' => q = .fix (xs.map xD) ∧ s' = st) ?_ ?_
    · rw [iEx_e, W_bind]
      refine W.of (a := X) (s := st) rfl ?_
      rw [dt, ofQ_some, W_ok]
      exact ⟨rfl, rfl⟩
    · rintro _ s0 ⟨rfl, hs0⟩
      rw [hs0]
      refine ws_all xD (isE k) (fun τ => ∃ y z, τ = [some (.int (k : Nat)), some X, y, z]) (fun s => s = st) (fun _ _ => rfl) xs _ _ _ rfl ⟨none, none, rfl⟩ rfl (fun x hx τ s hτ hs => ?_) (fun τ s ha hτ hs => ⟨ha, hs, hτ⟩) (fun s ha hs => ⟨by rw [hN, ha]; rfl, hs⟩)
      obtain ⟨y, z, rfl⟩ := hτ
      refine ⟨_, rfl, ?_⟩
      obtain ⟨d, s2, e2, rfl, rfl⟩ := (we x hx s).ex
      obtain ⟨Z, hZ⟩ : ∃ Z, Z = xD x := ⟨_, rfl⟩
      rw [← hZ] at e2 ⊢
      cases hb : isE k x
      · rw [hb, hs] at e2
        simp [e2, hs]
      · rw [hb, hs] at e2
        simp [e2, hs]
  obtain ⟨ha, hs, y, z, rfl⟩ := hp
  subst hs
  rw [ha, Bool.true_and] at hN
  refine ws_cons (N' := fun τ s' => (List.range (xs.length - 1)).all q = true ∧ s' = s) ?_ fun τ s' hp => ?_
  · refine ws_forD (fun q s' => q = .fix (rng 0 ((xs.length : Int) - 1)) ∧ s' = s) ?_ ?_
    · rw [iRg1_e, W_bind]
      refine W.of (a := .int ((xs.length : Int) - 1)) (s := s) (by simp [l0]) ?_
      rw [rg1_int (by omega), W_ok]
      exact ⟨rfl, rfl⟩
    · rintro _ s0 ⟨rfl, hs0⟩
      rw [hs0]
      refine ws_all (fun i : Nat => D.int (i : Nat)) q (fun τ => ∃ y z, τ = [some (.int (k : Nat)), some X, y, z]) (fun s' => s' = s) (fun _ _ => rfl) (List.range (xs.length - 1)) _ _ _ rngP ⟨y, z, rfl⟩ rfl (fun i hi τ s1 hτ hs => ?_) (fun τ s' ha _ hs => ⟨ha, hs⟩) (fun s' ha hs => ⟨by rw [hN, ha], hs⟩)
      obtain ⟨y, z, rfl⟩ := hτ
      refine ⟨_, rfl, ?_⟩
      have hi := List.mem_range.mp hi
      have x1 := ix i s (by omega)
      have x2 := ix (i + 1) s (by omega)
      rw [show ((i + 1 : Nat) : Int) = (i : Int) + 1 by omega] at x2
      have lt := oLt_x (a := xs.getD i (.cut, [])) (b := xs.getD (i + 1) (.cut, [])) (st := s)
      have hqi : q i = ltX (xs.getD i (.cut, [])) (xs.getD (i + 1) (.cut, [])) := by rw [hq]
      obtain ⟨b, hb⟩ : ∃ b, b = ltX (xs.getD i (.cut, [])) (xs.getD (i + 1) (.cut, [])) := ⟨_, rfl⟩
      obtain ⟨Z1, hZ1⟩ : ∃ Z, Z = xD (xs.getD i (.cut, [])) := ⟨_, rfl⟩
      obtain ⟨Z2, hZ2⟩ : ∃ Z, Z = xD (xs.getD (i + 1) (.cut, [])) := ⟨_, rfl⟩
      rw [← hb] at lt hqi
      rw [← hZ1] at x1 lt
      rw [← hZ2] at x2 lt
      rw [hqi]
      cases b <;> simp [x1, x2, lt, hs]
  obtain ⟨ha2, rfl⟩ := hp
  refine ws_ret ?_
  exact W.of (a := .bl true) (s := s') rfl ⟨by rw [hN, ha2], rfl⟩
theorem w_lnear (h5 : k ≤ 5) (hl : xs.length ≤ 200) : W (f__law_is_near [.int (k : Nat), xsD xs] st) fun d s => d = .bl (isN k xs) ∧ Gr st s := by
  have l0 : ∀ s, fLen [xsD xs] s = .ok (.int (xs.length : Nat)) s := fun s => by simp [xsD]
  have dt : ∀ s, dSq s (xsD xs) = some (.fix (xs.map xD)) := fun _ => rfl
  have ix : ∀ i s, i < xs.length → oIx (xsD xs) (.int (i : Nat)) s = .ok (xD (xs.getD i (.cut, []))) s := fun i s h => ix_xs h
  obtain ⟨X, hX⟩ : ∃ X, X = xsD xs := ⟨_, rfl⟩
  rw [← hX] at l0 dt ix ⊢
  unfold f__law_is_near
  rw [runB_e]
  unfold m__law_is_near
  rw [W_fin]
  have e0 : ent 5 [.int (k : Nat), X] = [some (.int (k : Nat)), some X, none, none, none] := rfl
  rw [e0]
  have din : ∀ (x : XT) s, dIn (xD x) (eds (allE k)) s = some (isE k x) := fun x s => in_all
  have wa := fun s (Q : D → Store → Prop) h => w_all_edits (st := s) (n := k) (Q := Q) h5 h
  obtain ⟨A, hA⟩ : ∃ A, A = eds (allE k) := ⟨_, rfl⟩
  rw [← hA] at din wa
  obtain ⟨q, hq⟩ : ∃ q : Nat → Bool, q = fun i => ltX (xs.getD i (.cut, [])) (xs.getD (i + 1) (.cut, [])) := ⟨_, rfl⟩
  have hN : isN k xs = (xs.all (isE k) && (List.range (xs.length - 1)).all q) := by rw [hq]; rfl
  refine ws_cons (N' := fun τ s => τ = [some (.int (k : Nat)), some X, some A, none, none] ∧ Gr st s) ?_ fun τ s hp => ?_
  · refine ws_set ?_
    refine W.opq fun Q hQ => ?_
    simp
    exact wa st _ fun s G => hQ _ _ ⟨rfl, G⟩
  obtain ⟨rfl, G⟩ := hp
  have hX1 : W (eCS gAllB (lComp [3] (iEx (eVar 1)) (gN 3) tYes (eBin oIn (eVar 3) (eVar 2))) [some (.int (k : Nat)), some X, some A, none, none] s) fun d s' => d = .bl (xs.all (isE k)) ∧ s' = s := by
    rw [eCS_e, W_bind, lComp_e, W_bind, iEx_e, W_bind]
    refine W.of (a := X) (s := s) rfl ?_
    rw [dt, ofQ_some, W_ok]
    refine w_lc (by show (xs.map xD).length ≤ _; rw [List.length_map]; omega) ?_
    refine w_map xD (fun x => D.bl (isE k x)) xs rfl rfl (fun x _ => ⟨_, rfl, ?_⟩) ?_
    · have d1 := din x s
      obtain ⟨Z, hZ⟩ : ∃ Z, Z = xD x := ⟨_, rfl⟩
      rw [← hZ] at d1 ⊢
      exact W.of (a := .bl (isE k x)) (s := s) (by simp [wipeD, d1]) ⟨rfl, rfl⟩
    · rw [gAllB_map, W_ok]
      exact ⟨rfl, rfl⟩
  obtain ⟨d, s2, ea, rfl, hs2⟩ := hX1.ex
  rw [hs2] at ea
  clear hs2 hX1
  obtain ⟨fe, hfe⟩ : ∃ fe : EM D, fe = (eCS gAllB (lComp [3] (iEx (eVar 1)) (gN 3) tYes (eBin oIn (eVar 3) (eVar 2)))) := ⟨_, rfl⟩
  rw [← hfe] at ea ⊢
  cases hall : xs.all (isE k)
  · rw [hall] at ea
    rw [hall, Bool.false_and] at hN
    refine ws_take (by simp [ea]) ?_
    refine ws_ret ?_
    exact W.of (a := .bl false) (s := s) rfl ⟨by rw [hN], G⟩
  · rw [hall] at ea
    rw [hall, Bool.true_and] at hN
    refine ws_skip (by simp [ea]) ?_
    refine ws_ret ?_
    rw [eCS_e, W_bind, lComp_e, W_bind, iRg1_e, W_bind]
    refine W.of (a := .int ((xs.length : Int) - 1)) (s := s) (by simp [l0]) ?_
    rw [rg1_int (by omega), W_ok]
    refine w_lc (by show (rng 0 ((xs.length : Int) - 1)).length ≤ _; rw [rngP, List.length_map, List.length_range]; omega) ?_
    refine w_map (fun i : Nat => D.int (i : Nat)) (fun i => D.bl (q i)) (List.range (xs.length - 1)) rngP rfl (fun i hi => ⟨_, rfl, ?_⟩) ?_
    · have hi := List.mem_range.mp hi
      have x1 := ix i s (by omega)
      have x2 := ix (i + 1) s (by omega)
      rw [show ((i + 1 : Nat) : Int) = (i : Int) + 1 by omega] at x2
      have lt := oLt_x (a := xs.getD i (.cut, [])) (b := xs.getD (i + 1) (.cut, [])) (st := s)
      have hqi : q i = ltX (xs.getD i (.cut, [])) (xs.getD (i + 1) (.cut, [])) := by rw [hq]
      obtain ⟨Z1, hZ1⟩ : ∃ Z, Z = xD (xs.getD i (.cut, [])) := ⟨_, rfl⟩
      obtain ⟨Z2, hZ2⟩ : ∃ Z, Z = xD (xs.getD (i + 1) (.cut, [])) := ⟨_, rfl⟩
      rw [← hqi] at lt
      rw [← hZ1] at x1 lt
      rw [← hZ2] at x2 lt
      exact W.of (a := .bl (q i)) (s := s) (by simp [wipeD, x1, x2, lt]) ⟨rfl, rfl⟩
    · rw [gAllB_map, W_ok]
      exact ⟨by rw [hN], G⟩
theorem w_judged (h5 : k ≤ 5) (hl : xs.length ≤ 200) (hx : ∀ x ∈ xs, x.2.length ≤ 100) : W (f__law_judged [.int (k : Nat), xsD xs] st) fun d s => d = .bl true ∧ Gr st s := by
  have h1 := w_nearness (st := st) (k := k) hl hx
  have h2 := fun s => w_lnear (st := s) (k := k) h5 hl
  obtain ⟨d, s, e1, rfl, rfl⟩ := h1.ex
  obtain ⟨Z, hZ⟩ : ∃ Z, Z = xsD xs := ⟨_, rfl⟩
  rw [← hZ] at e1 h2 ⊢
  obtain ⟨b, hb⟩ : ∃ b, b = isN k xs := ⟨_, rfl⟩
  rw [← hb] at e1 h2
  unfold f__law_judged
  rw [runB_e]
  unfold m__law_judged
  have fb : ∀ s, fIsi [.bl b, .ty "bool"] s = .ok (.bl true) s := fun s => fIsi_e rfl (by decide +kernel)
  obtain ⟨d, s2, e2, rfl, G⟩ := (h2 s).ex
  refine W.of (a := .bl true) (s := s2) ?_ ⟨rfl, G⟩
  cases b <;> simp [List.replicate, e1, e2, fb]
end

/-! k04: steps and nearnesses drawn -/
def Stp.ok (k : Nat) : Stp → Prop
  | .keep y => 0 ≤ y ∧ y < (k : Int)
  | .ed e => e.ok k
def own (k : Nat) (a : List Stp) : List Ed := (allE k).filter fun e => decide (Stp.ed e ∈ a)
section
variable {ns : List Int} {st : Store} {k : Nat}
theorem w_some_steps {most : Nat} (H : DS ns st) (k0 : 0 < k) (k5 : k ≤ 5) (hm : most ≤ 40) : W (f__law_some_steps [.ref 1, .int (k : Nat), .int (most : Nat)] st) fun d s => ∃ a, d = stD a ∧ a.length ≤ 40 ∧ (∀ z ∈ a, z.ok k) ∧ DS ns s := by
  unfold f__law_some_steps
  rw [runB_e]
  unfold m__law_some_steps
  rw [W_fin]
  have e0 : ent 8 [.ref 1, .int (k : Nat), .int (most : Nat)] = [some (.ref 1), some (.int (k : Nat)), some (.int (most : Nat)), none, none, none, none, none] := rfl
  rw [e0]
  have h2 := H.len
  refine ws_cons (N' := fun τ s => τ = [some (.ref 1), some (.int (k : Nat)), some (.int (most : Nat)), some (.ref st.length), none, none, none, none] ∧ s = st ++ [.lst []]) ?_ fun τ s hp => ?_
  · refine ws_set ?_
    exact W.of (a := .ref st.length) (s := st ++ [.lst []]) (by simp) ⟨rfl, rfl⟩
  obtain ⟨rfl, hs⟩ := hp
  have g0 : lstAt s st.length = some [] := by rw [hs]; exact lstAt_new
  have D0 : DS ns s := by rw [hs]; exact H.app
  clear hs
  obtain ⟨J, hJ⟩ : ∃ J : Nat → Sl → Store → Prop, J = fun i τ s => ∃ a : List Stp, (∃ x y z w, τ = [some (.ref 1), some (.int (k : Nat)), some (.int (most : Nat)), some (.ref st.length), x, y, z, w]) ∧ lstAt s st.length = some (a.map Stp.d) ∧ a.length = i ∧ (∀ z ∈ a, z.ok k) ∧ DS ns s := ⟨_, rfl⟩
  refine ws_cons (N' := J most) ?_ fun τ s hp => ?_
  · refine ws_forD (fun q s' => q = .fix (rng 0 (most : Nat)) ∧ s' = s) ?_ ?_
    · rw [iRg1_e, W_bind]
      refine W.of (a := .int (most : Nat)) (s := s) rfl ?_
      rw [rg1_int (by omega), W_ok]
      exact ⟨rfl, rfl⟩
    · rintro _ s0 ⟨rfl, hs0⟩
      rw [hs0]
      refine ws_rng (n := most) J (fun _ _ _ _ => rfl) (by rw [hJ]; exact ⟨[], ⟨none, none, none, none, rfl⟩, g0, rfl, (fun _ h => nomatch h), D0⟩) (fun i τ s' hi hp => ?_) fun τ s' hp => hp
      rw [hJ] at hp
      obtain ⟨a, ⟨x, y, z, w, rfl⟩, g, la, ha, D1⟩ := hp
      refine ⟨_, rfl, ?_⟩
      refine ws_cons (N' := fun τ s => ∃ w : Wd, (w = .keep ∨ w = .cut ∨ w = .put ∨ w = .turn) ∧ (∃ y z, τ = [some (.ref 1), some (.int (k : Nat)), some (.int (most : Nat)), some (.ref st.length), some (.int (i : Nat)), some (.str w.v), y, z]) ∧ lstAt s st.length = some (a.map Stp.d) ∧ DS ns s) ?_ fun τ s hp => ?_
      · refine ws_set ?_
        refine W.opq fun Q hQ => ?_
        simp
        have := D1.len
        refine w_pick (xs := [.str Wd.keep.v, .str Wd.cut.v, .str Wd.put.v, .str Wd.turn.v]) D1.app lstAt_new (by omega) (by decide) (by decide) fun d s2 hd D3 F3 => ?_
        have g2 := F3.lst (Gr.app.lst g) (by omega)
        simp only [List.mem_cons, List.not_mem_nil, or_false] at hd
        rcases hd with rfl | rfl | rfl | rfl
        · exact hQ _ _ ⟨.keep, .inl rfl, ⟨_, _, rfl⟩, g2, D3⟩
        · exact hQ _ _ ⟨.cut, .inr (.inl rfl), ⟨_, _, rfl⟩, g2, D3⟩
        · exact hQ _ _ ⟨.put, .inr (.inr (.inl rfl)), ⟨_, _, rfl⟩, g2, D3⟩
        · exact hQ _ _ ⟨.turn, .inr (.inr (.inr rfl)), ⟨_, _, rfl⟩, g2, D3⟩
      obtain ⟨w, hw, ⟨y, z, rfl⟩, g, D1⟩ := hp
      refine ws_cons (N' := fun τ s => ∃ u : Nat, u < k ∧ (∃ z, τ = [some (.ref 1), some (.int (k : Nat)), some (.int (most : Nat)), some (.ref st.length), some (.int (i : Nat)), some (.str w.v), some (.int (u : Nat)), z]) ∧ lstAt s st.length = some (a.map Stp.d) ∧ DS ns s) ?_ fun τ s hp => ?_
      · refine ws_set ?_
        refine W.opq fun Q hQ => ?_
        simp
        exact w_draw (many := k) D1 k0 (by omega) fun v s hv D2 F2 => hQ _ _ ⟨v, hv, ⟨_, rfl⟩, F2.lst g (by omega), D2⟩
      clear g D1
      obtain ⟨u, hu, ⟨z, rfl⟩, g, D1⟩ := hp
      refine ws_cons (N' := fun τ s => ∃ v : Nat, v < k ∧ τ = [some (.ref 1), some (.int (k : Nat)), some (.int (most : Nat)), some (.ref st.length), some (.int (i : Nat)), some (.str w.v), some (.int (u : Nat)), some (.int (v : Nat))] ∧ lstAt s st.length = some (a.map Stp.d) ∧ DS ns s) ?_ fun τ s hp => ?_
      · refine ws_set ?_
        refine W.opq fun Q hQ => ?_
        simp
        exact w_draw (many := k) D1 k0 (by omega) fun v s hv D2 F2 => hQ _ _ ⟨v, hv, rfl, F2.lst g (by omega), D2⟩
      clear g D1
      obtain ⟨v, hv, rfl, g, D1⟩ := hp
      have fin : ∀ zz : Stp, zz.ok k → J (i + 1) [some (.ref 1), some (.int (k : Nat)), some (.int (most : Nat)), some (.ref st.length), some (.int (i : Nat)), some (.str w.v), some (.int (u : Nat)), some (.int (v : Nat))] (s.set st.length (.lst (a.map Stp.d ++ [zz.d]))) := fun zz hz => by
        rw [hJ]
        refine ⟨a ++ [zz], ⟨_, _, _, _, rfl⟩, by rw [lstAt_set g, List.map_append]; rfl, by simp [la], fun q hq => ?_, D1.put2 (by omega) (by omega)⟩
        rcases List.mem_append.mp hq with p | p
        · exact ha q p
        · rw [List.mem_singleton.mp p]
          exact hz
      have ap := fun zz : Stp => mAppend_ref (x := zz.d) g (by rw [List.length_map]; omega)
      have kt := okT_ref g
      have hu' : 0 ≤ ((u : Nat) : Int) ∧ ((u : Nat) : Int) < (k : Int) := by omega
      have hv' : 0 ≤ ((v : Nat) : Int) ∧ ((v : Nat) : Int) < (k : Int) := by omega
      rcases hw with rfl | rfl | rfl | rfl
      · have fin := fin (.keep u) hu'
        have ap := ap (.keep u)
        unfold Stp.d at fin ap
        simp only [sSeq_e, sIf_e, sSet_e, sExpr_e, sRet_e, sRetN_e, sNil_e, sFor_e, sBrk_e, sCnt_e, sSub_e, sAsg_e, W_fin, WS_seq, WS_bindE, WS_nx, WS_rt, WS_bk, WS_ct]
        simp [Wd.v, kt, ap]
        exact fin
      · have fin := fin (.ed (.cut u)) hu'
        have ap := ap (.ed (.cut u))
        unfold Stp.d Ed.d at fin ap
        simp only [sSeq_e, sIf_e, sSet_e, sExpr_e, sRet_e, sRetN_e, sNil_e, sFor_e, sBrk_e, sCnt_e, sSub_e, sAsg_e, W_fin, WS_seq, WS_bindE, WS_nx, WS_rt, WS_bk, WS_ct]
        simp [Wd.v, kt, ap]
        exact fin
      · have fin := fin (.ed (.put u)) hu'
        have ap := ap (.ed (.put u))
        unfold Stp.d Ed.d at fin ap
        simp only [sSeq_e, sIf_e, sSet_e, sExpr_e, sRet_e, sRetN_e, sNil_e, sFor_e, sBrk_e, sCnt_e, sSub_e, sAsg_e, W_fin, WS_seq, WS_bindE, WS_nx, WS_rt, WS_bk, WS_ct]
        simp [Wd.v, kt, ap]
        exact fin
      · by_cases e : u = v
        · have e' : (u : Int) = v := by omega
          have fin := fin (.keep u) hu'
          have ap := ap (.keep u)
          unfold Stp.d at fin ap
          subst e
          simp only [sSeq_e, sIf_e, sSet_e, sExpr_e, sRet_e, sRetN_e, sNil_e, sFor_e, sBrk_e, sCnt_e, sSub_e, sAsg_e, W_fin, WS_seq, WS_bindE, WS_nx, WS_rt, WS_bk, WS_ct]
          simp [Wd.v, kt, ap]
          exact fin
        · have e' : ¬ (u : Int) = v := by omega
          have fin := fin (.ed (.turn u v)) ⟨hu', hv', e'⟩
          have ap := ap (.ed (.turn u v))
          unfold Stp.d Ed.d at fin ap
          simp only [sSeq_e, sIf_e, sSet_e, sExpr_e, sRet_e, sRetN_e, sNil_e, sFor_e, sBrk_e, sCnt_e, sSub_e, sAsg_e, W_fin, WS_seq, WS_bindE, WS_nx, WS_rt, WS_bk, WS_ct]
          simp [Wd.v, kt, ap, e']
          exact fin
  rw [hJ] at hp
  obtain ⟨a, ⟨x, y, z, w, rfl⟩, g, la, ha, D1⟩ := hp
  refine ws_ret ?_
  have t1 := fTuple_ref g
  exact W.of (a := stD a) (s := s) (by simp [t1, stD]) ⟨a, rfl, by omega, ha, D1⟩
theorem asc_eds {L : List Ed} (k5 : k ≤ 5) (h : L.Sublist (allE k)) : AscD (L.map Ed.d) := asc_sub (h.map _) (asc_all k5)
theorem sortable_ed (L : List Ed) : sortable (L.map Ed.d) = true := by
  have := sortable_x (L.map Ed.x)
  rw [List.map_map] at this
  have e : L.map (xD ∘ Ed.x) = L.map Ed.d := List.map_congr_left fun e _ => xD_ed e
  rwa [e] at this
theorem own_sub {a : List Stp} : (own k a).Sublist (allE k) := List.filter_sublist
theorem own_mem {a : List Stp} (ha : ∀ z ∈ a, z.ok k) {e : Ed} : e ∈ own k a ↔ Stp.ed e ∈ a := by
  unfold own
  rw [List.mem_filter, decide_eq_true_eq]
  exact ⟨fun h => h.2, fun h => ⟨allE_mem.mpr (ha _ h), h⟩⟩
theorem sub_len {L : List Ed} (k5 : k ≤ 5) (h : L.Sublist (allE k)) : L.length ≤ 35 := Nat.le_trans h.length_le (allE_len k5)
theorem in_edL {e : Ed} {m : Nat} {es : List Ed} {s : Store} (h : lstAt s m = some (es.map Ed.d)) : dIn e.d (.ref m) s = some (decide (e ∈ es)) := by
  have h2 : (es.map Ed.d).all (D.plain 59) = true := by
    rw [List.all_eq_true]
    intro x hx
    obtain ⟨a, _, rfl⟩ := List.mem_map.mp hx
    exact Ed.plain
  have h3 : (e.d ∈ es.map Ed.d) = (e ∈ es) := propext ⟨fun h => by
    obtain ⟨a, ha, e⟩ := List.mem_map.mp h
    rw [← Ed.d_inj e]
    exact ha, fun h => List.mem_map_of_mem h⟩
  have hs : dSeq s (.ref m) = some (es.map Ed.d) := h
  rw [dIn_S hs]
  have h4 : e.d.plain 59 = true := Ed.plain
  have h1 : e.d.flat = false := by cases e <;> rfl
  have : dInS e.d (.ref m) s = match dSeq s (.ref m) with | some ys => if e.d.flat && ys.all D.flat then some (ys.any fun y => eqF y e.d) else if e.d.plain 59 && ys.all (D.plain 59) then some (decide (e.d ∈ ys)) else none | none => none := by
    cases e <;> rfl
  rw [this, hs]
  simp only [h1, Bool.false_and, Bool.false_eq_true, if_false, h4, h2, Bool.and_self, if_true, h3]
theorem oNe_ed {e f : Ed} {s : Store} : oNe e.d f.d s = .ok (.bl !(decide (e = f))) s := by
  have p : e.d.plain 60 = true := Ed.plain
  have q : f.d.plain 60 = true := Ed.plain
  obtain ⟨xs, hx⟩ : ∃ xs, e.d = .tup xs := by cases e <;> exact ⟨_, rfl⟩
  obtain ⟨ys, hy⟩ : ∃ ys, f.d = .tup ys := by cases f <;> exact ⟨_, rfl⟩
  have h : decide (xs = ys) = decide (e = f) := decide_eq_decide.mpr ⟨fun h => Ed.d_inj (by rw [hx, hy, h]), fun h => by rw [h, hy] at hx; exact (D.tup.inj hx).symm⟩
  rw [hx] at p ⊢
  rw [hy] at q ⊢
  rw [oNe_tup p q, h]
end

/-! k04: some nearnesses -/
/-- the first two parts of an edit -/
def c2 (e : Ed) : D := .tup (match e with
  | .cut k => [.str [99, 117, 116], .int k]
  | .put k => [.str [112, 117, 116], .int k]
  | .turn k _ => [.str [116, 117, 114, 110], .int k])
section
variable {ns : List Int} {st : Store} {k : Nat}
theorem cut_2 (e : Ed) (s : Store) : dCut e.d none (some 2) s = .ok (c2 e) s := by cases e <;> rfl
theorem oEq_plain {xs ys : List D} {s : Store} (p : (D.tup xs).plain 60 = true) (q : (D.tup ys).plain 60 = true) : oEq (.tup xs) (.tup ys) s = .ok (.bl (decide (D.tup xs = D.tup ys))) s := by
  rw [oEq_tup p q]
  simp
theorem plain_c2 (e : Ed) : (c2 e).plain 60 = true := by cases e <;> simp [c2]
theorem oEq_c2 (e f : Ed) (s : Store) : oEq (c2 e) (c2 f) s = .ok (.bl (decide (c2 e = c2 f))) s := oEq_plain (plain_c2 e) (plain_c2 f)
def Nears (k : Nat) (a : List Stp) (Ls : List (List Ed)) : Prop := 4 ≤ Ls.length ∧ Ls.length ≤ 6 ∧ (∀ L ∈ Ls, L.Sublist (allE k)) ∧ Ls[1]? = some (allE k) ∧ Ls[2]? = some (own k a)
theorem Nears.add {a : List Stp} {Ls : List (List Ed)} {L : List Ed} (h : Nears k a Ls) (hL : L.Sublist (allE k)) (h5 : Ls.length ≤ 5) : Nears k a (Ls ++ [L]) := by
  obtain ⟨h1, h2, h3, h4, h6⟩ := h
  refine ⟨by rw [List.length_append]; omega, by rw [List.length_append]; simp; omega, fun M hM => ?_, ?_, ?_⟩
  · rcases List.mem_append.mp hM with q | q
    · exact h3 M q
    · rw [List.mem_singleton.mp q]
      exact hL
  · rw [List.getElem?_append_left (by omega), h4]
  · rw [List.getElem?_append_left (by omega), h6]
theorem w_some_nears {a : List Stp} (H : DS ns st) (k0 : 0 < k) (k5 : k ≤ 5) (la : a.length ≤ 40) (ha : ∀ z ∈ a, z.ok k) : W (f__law_some_nears [.ref 1, .int (k : Nat), stD a] st) fun d s => ∃ m Ls, d = .ref m ∧ lstAt s m = some (Ls.map eds) ∧ Nears k a Ls ∧ 2 ≤ m ∧ DS ns s := by
  have dA : ∀ s, dSq s (stD a) = some (.fix (a.map Stp.d)) := fun _ => rfl
  have wa := fun s (Q : D → Store → Prop) h => w_all_edits (st := s) (n := k) (Q := Q) k5 h
  have dW : ∀ s, dSq s (eds (allE k)) = some (.fix ((allE k).map Ed.d)) := fun _ => rfl
  have lA := allE_len k5
  obtain ⟨X, hX⟩ : ∃ X, X = stD a := ⟨_, rfl⟩
  obtain ⟨V, hV⟩ : ∃ V, V = eds (allE k) := ⟨_, rfl⟩
  rw [← hX] at dA ⊢
  rw [← hV] at wa dW
  unfold f__law_some_nears
  rw [runB_e]
  unfold m__law_some_nears
  rw [W_fin]
  have e0 : ent 12 [.ref 1, .int (k : Nat), X] = [some (.ref 1), some (.int (k : Nat)), some X, none, none, none, none, none, none, none, none, none] := rfl
  rw [e0]
  have h2 := H.len
  refine ws_cons (N' := fun τ s => τ = [some (.ref 1), some (.int (k : Nat)), some X, some V, none, none, none, none, none, none, none, none] ∧ DS ns s) ?_ fun τ s hp => ?_
  · refine ws_set ?_
    refine W.opq fun Q hQ => ?_
    simp
    exact wa st _ fun s G => hQ _ _ ⟨rfl, G.ds H⟩
  obtain ⟨rfl, D0⟩ := hp
  have O := own_sub (k := k) (a := a)
  have lO := sub_len k5 O
  refine ws_cons (N' := fun τ s => ∃ o : Nat, τ = [some (.ref 1), some (.int (k : Nat)), some X, some V, some (.ref o), none, none, none, none, none, none, none] ∧ lstAt s o = some ((own k a).map Ed.d) ∧ o ≠ 1 ∧ DS ns s) ?_ fun τ s hp => ?_
  · refine ws_set ?_
    have hs2 := D0.len
    have hXP : W (eEl (lComp [10] (iEx (eVar 2)) (gN 10) (tBl (eBin oNe (eBin oIx (eVar 10) (eC (.int 0))) (eC (.str [107, 101, 101, 112])))) (eVar 10)) [some (.ref 1), some (.int (k : Nat)), some X, some V, none, none, none, none, none, none, none, none] s) fun d s' => d = .ref s.length ∧ s' = s ++ [.lst ((a.filter isEd).map Stp.d)] := by
      rw [eEl_e, W_bind, lComp_e, W_bind, iEx_e, W_bind]
      refine W.of (a := X) (s := s) rfl ?_
      rw [dA, ofQ_some, W_ok]
      refine w_lc (by show (a.map Stp.d).length ≤ _; rw [List.length_map]; omega) ?_
      refine w_fil Stp.d Stp.d isEd a rfl rfl (fun z _ => ⟨_, rfl, ?_⟩) ?_
      · obtain ⟨w, h1, h2⟩ := ne_keep z s
        obtain ⟨Z, hZ⟩ : ∃ Z, Z = z.d := ⟨_, rfl⟩
        rw [← hZ] at h1 ⊢
        refine W.of (a := isEd z) (s := s) ?_ ⟨rfl, rfl, fun _ => W.of (a := Z) (s := s) (by simp [wipeD]) ⟨rfl, rfl⟩⟩
        cases hz : isEd z
        · rw [hz] at h2
          have h2 : w = [107, 101, 101, 112] := of_decide_eq_true h2
          simp [wipeD, h1, h2]
        · rw [hz] at h2
          have h2 : ¬ w = [107, 101, 101, 112] := of_decide_eq_false h2
          simp [wipeD, h1, h2]
      · rw [W_ok]
        exact ⟨rfl, rfl⟩
    obtain ⟨d, s2, ea, rfl, hs2'⟩ := hXP.ex
    have g2 : lstAt s2 s.length = some ((a.filter isEd).map Stp.d) := by rw [hs2']; exact lstAt_new
    have l2 : s2.length = s.length + 1 := by rw [hs2']; simp
    have D2 : DS ns s2 := by rw [hs2']; exact D0.app
    have ss := sortset_ref (M := (own k a).map Ed.d) g2 (asc_eds k5 O) (fun x => by
      rw [List.mem_map, List.mem_map]
      constructor
      · rintro ⟨e, he, rfl⟩
        exact ⟨.ed e, List.mem_filter.mpr ⟨(own_mem ha).mp he, rfl⟩, rfl⟩
      · rintro ⟨z, hz, rfl⟩
        obtain ⟨hz1, hz2⟩ := List.mem_filter.mp hz
        cases z with
        | keep y => cases hz2
        | ed e => exact ⟨e, (own_mem ha).mpr hz1, rfl⟩) (fun x hx => by
      obtain ⟨e, _, rfl⟩ := List.mem_map.mp hx
      rw [← xD_ed]
      exact tupQ_x _) (by rw [List.length_map]; omega) (sortable_ed _)
    obtain ⟨fe, hfe⟩ : ∃ fe : EM D, fe = (eEl (lComp [10] (iEx (eVar 2)) (gN 10) (tBl (eBin oNe (eBin oIx (eVar 10) (eC (.int 0))) (eC (.str [107, 101, 101, 112])))) (eVar 10))) := ⟨_, rfl⟩
    rw [← hfe] at ea ⊢
    refine W.of (a := .ref s2.length) (s := s2 ++ [.lst ((own k a).map Ed.d)]) (by rw [eSS_e, ea]; exact ss) ⟨s2.length, rfl, lstAt_new, by omega, D2.app⟩
  clear D0
  obtain ⟨o, rfl, go, ho, D0⟩ := hp
  refine ws_cons (N' := fun τ s => ∃ (m : Nat) (Ls : List (List Ed)), τ = [some (.ref 1), some (.int (k : Nat)), some X, some V, some (.ref o), some (.ref m), none, none, none, none, none, none] ∧ lstAt s m = some (Ls.map eds) ∧ Ls.length = 4 ∧ Nears k a Ls ∧ lstAt s o = some ((own k a).map Ed.d) ∧ 2 ≤ m ∧ m ≠ o ∧ DS ns s) ?_ fun τ s hp => ?_
  · refine ws_set ?_
    refine W.opq fun Q hQ => ?_
    have t1 := fTuple_ref go
    simp [t1]
    refine w_near D0 k0 k5 fun L s2 hL D2 F2 => ?_
    have go2 := F2.lst go ho
    have := lstAt_lt go2
    have := D2.len
    refine hQ _ _ ⟨s2.length, [[], allE k, own k a, L], rfl, ?_, rfl, ⟨by simp, by simp, fun M hM => ?_, rfl, rfl⟩, Gr.app.lst go2, by omega, by omega, D2.app⟩
    · rw [hV]
      exact lstAt_new
    · simp only [List.mem_cons, List.not_mem_nil, or_false] at hM
      rcases hM with rfl | rfl | rfl | rfl
      · exact List.nil_sublist _
      · exact List.Sublist.refl _
      · exact O
      · exact hL
  clear D0 go
  obtain ⟨m, Ls, rfl, gm, l4, hN, go, hm, hmo, D0⟩ := hp
  refine ws_cons (N' := fun τ s => (∃ x y z w, τ = [some (.ref 1), some (.int (k : Nat)), some X, some V, some (.ref o), some (.ref m), x, y, z, w, none, none]) ∧ ∃ Ls, lstAt s m = some (Ls.map eds) ∧ Nears k a Ls ∧ DS ns s) ?_ fun τ s hp => ?_
  · have lo := fLen_ref go
    rw [List.length_map] at lo
    refine ws_ifd (fun b s' => b = decide (0 < (own k a).length) ∧ s' = s) ?_ (fun s' hb => ?_) (fun s' hb => ?_)
    · by_cases c : 0 < (own k a).length
      · have c' : (0 : Int) < ((own k a).length : Int) := by omega
        exact W.of (a := true) (s := s) (by simp [lo, c]) ⟨by simp [c], rfl⟩
      · have c' : ¬ (0 : Int) < ((own k a).length : Int) := by omega
        exact W.of (a := false) (s := s) (by simp [lo, c]) ⟨by simp [c], rfl⟩
    · have c : 0 < (own k a).length := of_decide_eq_true hb.1.symm
      rw [hb.2]
      clear hb s'
      refine ws_cons (N' := fun τ s => ∃ e ∈ own k a, τ = [some (.ref 1), some (.int (k : Nat)), some X, some V, some (.ref o), some (.ref m), some e.d, none, none, none, none, none] ∧ lstAt s m = some (Ls.map eds) ∧ lstAt s o = some ((own k a).map Ed.d) ∧ DS ns s) ?_ fun τ s hp => ?_
      · refine ws_set ?_
        refine W.opq fun Q hQ => ?_
        simp
        refine w_pick (xs := (own k a).map Ed.d) D0 go ho (by rw [List.length_map]; exact c) (by rw [List.length_map]; omega) fun d s2 hd D2 F2 => ?_
        obtain ⟨e, he, rfl⟩ := List.mem_map.mp hd
        exact hQ _ _ ⟨e, he, rfl, F2.lst gm (by omega), F2.lst go ho, D2⟩
      clear gm go D0 lo
      obtain ⟨e, he, rfl, gm, go, D0⟩ := hp
      obtain ⟨less, hless⟩ : ∃ less, less = (own k a).filter fun f => !(decide (f = e)) := ⟨_, rfl⟩
      have sl : less.Sublist (own k a) := by rw [hless]; exact List.filter_sublist
      have ll := sub_len k5 (sl.trans O)
      obtain ⟨E, hE⟩ : ∃ E, E = e.d := ⟨_, rfl⟩
      have ne : ∀ (f : Ed) s, oNe f.d E s = .ok (.bl !(decide (f = e))) s := fun f s => by rw [hE]; exact oNe_ed
      have cE : ∀ s, dCut E none (some 2) s = .ok (c2 e) s := fun s => by rw [hE]; exact cut_2 e s
      rw [← hE]
      refine ws_cons (N' := fun τ s => ∃ le : Nat, τ = [some (.ref 1), some (.int (k : Nat)), some X, some V, some (.ref o), some (.ref m), some E, some (.ref le), none, none, none, none] ∧ lstAt s le = some (less.map Ed.d) ∧ le ≠ 1 ∧ le ≠ m ∧ lstAt s m = some (Ls.map eds) ∧ lstAt s o = some ((own k a).map Ed.d) ∧ DS ns s) ?_ fun τ s' hp => ?_
      · refine ws_set ?_
        rw [eEl_e, W_bind, lComp_e, W_bind, iEx_e, W_bind]
        refine W.of (a := .ref o) (s := s) rfl ?_
        rw [dSq_ref go, ofQ_some, W_ok]
        refine w_lc (by rw [items_cell, List.length_map]; omega) ?_
        refine w_fil Ed.d Ed.d (fun f => !(decide (f = e))) (own k a) rfl (decide_eq_true go) (fun f _ => ⟨_, rfl, ?_⟩) ?_
        · have n1 := ne f s
          obtain ⟨Z, hZ⟩ : ∃ Z, Z = f.d := ⟨_, rfl⟩
          rw [← hZ] at n1 ⊢
          obtain ⟨b, hb⟩ : ∃ b, b = !(decide (f = e)) := ⟨_, rfl⟩
          rw [← hb] at n1 ⊢
          exact W.of (a := b) (s := s) (by cases b <;> simp [wipeD, n1]) ⟨rfl, rfl, fun _ => W.of (a := Z) (s := s) (by simp [wipeD]) ⟨rfl, rfl⟩⟩
        · rw [W_ok, ← hless]
          have z1 := lstAt_lt gm
          have z2 := D0.len
          exact ⟨s.length, rfl, lstAt_new, by omega, by omega, Gr.app.lst gm, Gr.app.lst go, D0.app⟩
      clear gm go D0
      obtain ⟨le, rfl, gl, hl1, hlm, gm, go, D0⟩ := hp
      refine ws_cons (N' := fun τ s => τ = [some (.ref 1), some (.int (k : Nat)), some X, some V, some (.ref o), some (.ref m), some E, some (.ref le), none, none, none, none] ∧ lstAt s le = some (less.map Ed.d) ∧ lstAt s m = some ((Ls ++ [less]).map eds) ∧ lstAt s o = some ((own k a).map Ed.d) ∧ DS ns s) ?_ fun τ s hp => ?_
      · refine ws_expr ?_
        have t1 := fTuple_ref gl
        have ap := mAppend_ref (x := eds less) gm (by rw [List.length_map]; omega)
        have et : D.tup (less.map Ed.d) = eds less := rfl
        rw [et] at t1
        refine W.of (a := .non) (s := _) (by simp [okT_ref gm, t1]; exact ap) ⟨rfl, ?_, ?_, ?_, D0.put2 (by omega) (by omega)⟩
        · rw [lstAt_ne hlm]; exact gl
        · rw [lstAt_set gm, List.map_append]; rfl
        · rw [lstAt_ne (Ne.symm hmo)]; exact go
      clear gm go D0 gl
      obtain ⟨rfl, gl, gm, go, D0⟩ := hp
      have hN1 := hN.add (sl.trans O) (by omega)
      obtain ⟨oth, hoth⟩ : ∃ oth, oth = (allE k).filter fun f => !(decide (f ∈ own k a)) := ⟨_, rfl⟩
      have so : oth.Sublist (allE k) := by rw [hoth]; exact List.filter_sublist
      have no : ∀ f ∈ oth, f ∉ own k a := fun f hf => by
        rw [hoth, List.mem_filter] at hf
        simpa using hf.2
      have lno := sub_len k5 so
      refine ws_cons (N' := fun τ s => ∃ ot : Nat, τ = [some (.ref 1), some (.int (k : Nat)), some X, some V, some (.ref o), some (.ref m), some E, some (.ref le), some (.ref ot), none, none, none] ∧ lstAt s ot = some (oth.map Ed.d) ∧ ot ≠ 1 ∧ lstAt s le = some (less.map Ed.d) ∧ lstAt s m = some ((Ls ++ [less]).map eds) ∧ DS ns s) ?_ fun τ s' hp => ?_
      · refine ws_set ?_
        rw [eEl_e, W_bind, lComp_e, W_bind, iEx_e, W_bind]
        refine W.of (a := V) (s := s) rfl ?_
        rw [dW, ofQ_some, W_ok]
        refine w_lc (by rw [items_fix, List.length_map]; omega) ?_
        refine w_fil Ed.d Ed.d (fun f => !(decide (f ∈ own k a))) (allE k) rfl rfl (fun f _ => ⟨_, rfl, ?_⟩) ?_
        · have n1 := in_edL (e := f) go
          obtain ⟨Z, hZ⟩ : ∃ Z, Z = f.d := ⟨_, rfl⟩
          rw [← hZ] at n1 ⊢
          obtain ⟨b, hb⟩ : ∃ b, b = decide (f ∈ own k a) := ⟨_, rfl⟩
          rw [← hb] at n1 ⊢
          exact W.of (a := !b) (s := s) (by cases b <;> simp [wipeD, n1]) ⟨rfl, rfl, fun _ => W.of (a := Z) (s := s) (by simp [wipeD]) ⟨rfl, rfl⟩⟩
        · rw [W_ok, ← hoth]
          have z2 := D0.len
          exact ⟨s.length, rfl, lstAt_new, by omega, Gr.app.lst gl, Gr.app.lst gm, D0.app⟩
      clear gm go D0 gl
      obtain ⟨ot, rfl, got, hot, gl, gm, D0⟩ := hp
      obtain ⟨aki, haki⟩ : ∃ aki, aki = oth.filter fun f => decide (c2 f = c2 e) := ⟨_, rfl⟩
      have sk : aki.Sublist oth := by rw [haki]; exact List.filter_sublist
      have lnk := sub_len k5 (sk.trans so)
      refine ws_cons (N' := fun τ s => ∃ ak : Nat, τ = [some (.ref 1), some (.int (k : Nat)), some X, some V, some (.ref o), some (.ref m), some E, some (.ref le), some (.ref ot), some (.ref ak), none, none] ∧ lstAt s ak = some (aki.map Ed.d) ∧ ak ≠ 1 ∧ lstAt s ot = some (oth.map Ed.d) ∧ lstAt s le = some (less.map Ed.d) ∧ lstAt s m = some ((Ls ++ [less]).map eds) ∧ DS ns s) ?_ fun τ s hp => ?_
      · refine ws_set ?_
        rw [eEl_e, W_bind, lComp_e, W_bind, iEx_e, W_bind]
        refine W.of (a := .ref ot) (s := s') rfl ?_
        rw [dSq_ref got, ofQ_some, W_ok]
        refine w_lc (by rw [items_cell, List.length_map]; omega) ?_
        refine w_fil Ed.d Ed.d (fun f => decide (c2 f = c2 e)) oth rfl (decide_eq_true got) (fun f _ => ⟨_, rfl, ?_⟩) ?_
        · have n1 := cut_2 f s'
          have n2 := cE s'
          have n3 := oEq_c2 f e s'
          obtain ⟨Z, hZ⟩ : ∃ Z, Z = f.d := ⟨_, rfl⟩
          rw [← hZ] at n1 ⊢
          obtain ⟨b, hb⟩ : ∃ b, b = decide (c2 f = c2 e) := ⟨_, rfl⟩
          rw [← hb] at n3 ⊢
          obtain ⟨Y1, hY1⟩ : ∃ Y, Y = c2 f := ⟨_, rfl⟩
          obtain ⟨Y2, hY2⟩ : ∃ Y, Y = c2 e := ⟨_, rfl⟩
          rw [← hY1] at n1 n3
          rw [← hY2] at n2 n3
          exact W.of (a := b) (s := s') (by cases b <;> simp [wipeD, n1, n2, n3]) ⟨rfl, rfl, fun _ => W.of (a := Z) (s := s') (by simp [wipeD]) ⟨rfl, rfl⟩⟩
        · rw [W_ok, ← haki]
          have z2 := D0.len
          exact ⟨s'.length, rfl, lstAt_new, by omega, Gr.app.lst got, Gr.app.lst gl, Gr.app.lst gm, D0.app⟩
      clear gm D0 gl got
      obtain ⟨ak, rfl, gak, hak, got, gl, gm, D0⟩ := hp
      -- the others that are taken
      refine ws_cons (N' := fun τ s => ∃ (ot : Nat) (oth : List Ed), τ = [some (.ref 1), some (.int (k : Nat)), some X, some V, some (.ref o), some (.ref m), some E, some (.ref le), some (.ref ot), some (.ref ak), none, none] ∧ lstAt s ot = some (oth.map Ed.d) ∧ ot ≠ 1 ∧ oth.Sublist (allE k) ∧ (∀ f ∈ oth, f ∉ own k a) ∧ lstAt s le = some (less.map Ed.d) ∧ lstAt s m = some ((Ls ++ [less]).map eds) ∧ DS ns s) ?_ fun τ s' hp => ?_
      · have lk := fLen_ref gak
        rw [List.length_map] at lk
        refine ws_ifd (fun b s' => s' = s) ?_ (fun s' hb => ?_) (fun s' hb => ?_)
        · by_cases c : 0 < aki.length
          · exact W.of (a := true) (s := s) (by simp [lk, c]) rfl
          · exact W.of (a := false) (s := s) (by simp [lk, c]) rfl
        · rw [hb]
          refine ws_set ?_
          exact W.of (a := .ref ak) (s := s) rfl ⟨ak, aki, rfl, gak, hak, sk.trans so, fun f hf => no f (sk.subset hf), gl, gm, D0⟩
        · rw [hb, sNil_e, WS_nx]
          exact ⟨ot, oth, rfl, got, hot, so, no, gl, gm, D0⟩
      clear gm D0 gl got gak hoth so no lno haki sk lnk hot
      obtain ⟨ot, oth, rfl, got, hot, so, no, gl, gm, D0⟩ := hp
      have lt := fLen_ref got
      rw [List.length_map] at lt
      refine ws_ifd (fun b s => b = decide (0 < oth.length) ∧ s = s') ?_ (fun s hb => ?_) (fun s hb => ?_)
      · by_cases c : 0 < oth.length
        · exact W.of (a := true) (s := s') (by simp [lt, c]) ⟨by simp [c], rfl⟩
        · exact W.of (a := false) (s := s') (by simp [lt, c]) ⟨by simp [c], rfl⟩
      · have c : 0 < oth.length := of_decide_eq_true hb.1.symm
        rw [hb.2]
        clear hb s
        refine ws_expr ?_
        refine W.opq fun Q hQ => ?_
        simp [okT_ref gm]
        refine w_pick (xs := oth.map Ed.d) D0 got hot (by rw [List.length_map]; exact c) (by rw [List.length_map]; have := sub_len k5 so; omega) fun d s2 hd D2 F2 => ?_
        obtain ⟨f, hf, rfl⟩ := List.mem_map.mp hd
        have gl2 := F2.lst gl hl1
        have gm2 := F2.lst gm (by omega)
        obtain ⟨own2, hown2⟩ : ∃ own2, own2 = (allE k).filter fun x => decide (x ∈ less ++ [f]) := ⟨_, rfl⟩
        have s2' : own2.Sublist (allE k) := by rw [hown2]; exact List.filter_sublist
        have nda : (allE k).Nodup := by
          have z := (asc_all k5).nd
          rw [List.nodup_iff_pairwise_ne, List.pairwise_map] at z
          exact List.nodup_iff_pairwise_ne.mpr (z.imp fun {x y} hne e => hne (by rw [e]))
        have pm : ((less ++ [f]).map Ed.d).Perm (own2.map Ed.d) := by
          refine List.Perm.map _ ((List.perm_ext_iff_of_nodup ?_ (s2'.nodup nda)).mpr fun x => ?_)
          · rw [List.nodup_append]
            refine ⟨(sl.trans O).nodup nda, by simp, fun x hx y hy => ?_⟩
            rw [List.mem_singleton.mp hy]
            exact fun e => no f hf (by rw [← e]; exact sl.subset hx)
          · rw [hown2, List.mem_filter, decide_eq_true_eq]
            refine ⟨fun hx => ⟨?_, hx⟩, fun hx => hx.2⟩
            rcases List.mem_append.mp hx with q | q
            · exact (sl.trans O).subset q
            · rw [List.mem_singleton.mp q]
              exact so.subset hf
        have srt : sortD ((less ++ [f]).map Ed.d) = own2.map Ed.d := (asc_eds k5 s2').sort pm
        have z0 := lstAt_lt gl2
        have z1 := lstAt_lt gm2
        have ga := (Gr.app (c := Cell.lst [f.d])).lst gl2
        have gb : lstAt (s2 ++ [.lst [f.d]]) s2.length = some [f.d] := lstAt_new
        have ad := oAdd_ref ga gb (by rw [List.length_map]; simp; omega)
        have lz : (s2 ++ [Cell.lst [f.d]]).length = s2.length + 1 := by simp
        rw [lz] at ad
        have em : less.map Ed.d ++ [f.d] = (less ++ [f]).map Ed.d := by rw [List.map_append]; rfl
        rw [em] at ad
        obtain ⟨s3, hs3⟩ : ∃ s3, s3 = s2 ++ [Cell.lst [f.d]] ++ [Cell.lst ((less ++ [f]).map Ed.d)] := ⟨_, rfl⟩
        have g3 : lstAt s3 (s2.length + 1) = some ((less ++ [f]).map Ed.d) := by
          rw [hs3, ← lz]
          exact lstAt_new
        have so3 : fSorted [.ref (s2.length + 1)] s3 = .ok (.ref s3.length) (s3 ++ [.lst (own2.map Ed.d)]) := by
          rw [fSorted_ref g3]
          unfold gSorted
          rw [if_pos (sortable_ed _), srt]
        have g4 : lstAt (s3 ++ [.lst (own2.map Ed.d)]) s3.length = some (own2.map Ed.d) := lstAt_new
        have t4 := fTuple_ref g4
        have gm3 : lstAt (s3 ++ [.lst (own2.map Ed.d)]) m = some ((Ls ++ [less]).map eds) := by
          rw [hs3]
          exact Gr.app.lst (Gr.app.lst (Gr.app.lst gm2))
        have ap := mAppend_ref (x := eds own2) gm3 (by rw [List.length_map, List.length_append]; simp; omega)
        have D3 : DS ns (s3 ++ [.lst (own2.map Ed.d)]) := by
          rw [hs3]
          exact D2.app.app.app
        rw [← hs3] at ad
        rw [ad]
        simp
        rw [so3]
        simp
        rw [t4]
        simp
        rw [show D.tup (own2.map Ed.d) = eds own2 from rfl, ap]
        try simp
        refine hQ _ _ ⟨⟨_, _, _, _, rfl⟩, Ls ++ [less] ++ [own2], ?_, hN1.add s2' (by rw [List.length_append]; simp; omega), D3.put2 (by omega) (by omega)⟩
        rw [lstAt_set gm3]
        simp
      · rw [hb.2, sNil_e, WS_nx]
        exact ⟨⟨_, _, _, _, rfl⟩, Ls ++ [less], gm, hN1, D0⟩
    · rw [hb.2, sNil_e, WS_nx]
      exact ⟨⟨_, _, _, _, rfl⟩, Ls, gm, hN, D0⟩
  obtain ⟨⟨x, y, z, w, rfl⟩, Ls, gm, hN, D1⟩ := hp
  refine ws_ret ?_
  exact W.of (a := .ref m) (s := s) rfl ⟨m, Ls, rfl, gm, hN, hm, D1⟩
end

/-! k04: the spoiler -/
theorem mPopAt_ref {n : Nat} {st : Store} {xs : List D} {k : Nat} {x : D} (hh : lstAt st n = some xs) (hx : xs[k]? = some x) (hk : k < 9223372036854775808) : mPopAt (.ref n) [.int k] st = .ok x (st.set n (.lst (xs.eraseIdx k))) := by
  have h2 : okIx (k : Int) = true := decide_eq_true (by omega)
  have h3 : seqIndex? (k : Int) xs.length = some k := by
    have : k < xs.length := (List.getElem?_eq_some_iff.mp hx).1
    simp [seqIndex?]
    omega
  simp [mPopAt, hh, h2, h3, hx]
/-- an edit, in parts -/
theorem parts (e : Ed) (p : Nat) (h1 : 1 ≤ p) (h2 : p ≤ e.x.2.length) : ∃ A B, (∀ s, dCut e.d none (some (p : Int)) s = .ok (.tup A) s) ∧ (∀ s, dCut e.d (some ((p : Int) + 1)) none s = .ok (.tup B) s) ∧ A.length ≤ 3 ∧ B.length ≤ 3 ∧ (∀ z, D.tup (A ++ [.int z] ++ B) = xD (e.x.1, e.x.2.set (p - 1) z)) ∧ ∃ v, ∀ s, oIx e.d (.int (p : Int)) s = .ok (.int v) s := by
  cases e with
  | cut k =>
    have : p = 1 := by
      have : p ≤ 1 := h2
      omega
    subst this
    exact ⟨[.str [99, 117, 116]], [], fun _ => rfl, fun _ => rfl, by decide, by decide, fun _ => rfl, k, fun _ => rfl⟩
  | put k =>
    have : p = 1 := by
      have : p ≤ 1 := h2
      omega
    subst this
    exact ⟨[.str [112, 117, 116]], [], fun _ => rfl, fun _ => rfl, by decide, by decide, fun _ => rfl, k, fun _ => rfl⟩
  | turn k o =>
    have : p = 1 ∨ p = 2 := by
      have : p ≤ 2 := h2
      omega
    rcases this with rfl | rfl
    · exact ⟨[.str [116, 117, 114, 110]], [.int o], fun _ => rfl, fun _ => rfl, by decide, by simp, fun _ => rfl, k, fun _ => rfl⟩
    · exact ⟨[.str [116, 117, 114, 110], .int k], [], fun _ => rfl, fun _ => rfl, by simp, by decide, fun _ => rfl, o, fun _ => rfl⟩
theorem x_len (e : Ed) : 1 ≤ e.x.2.length ∧ e.x.2.length ≤ 2 := by cases e <;> simp [Ed.x]
theorem sort_x (xs : List XT) : ∃ ys : List XT, sortD (xs.map xD) = ys.map xD ∧ ys.Perm xs := by
  refine ⟨xs.mergeSort fun a b => sortLeD (xD a) (xD b), ?_, List.mergeSort_perm ..⟩
  exact (PySem.W.sort_maps (s := sortLeD) xD fun _ _ _ _ => rfl).symm
theorem erase_map {α β : Type} {f : α → β} : ∀ (l : List α) (i : Nat), (l.map f).eraseIdx i = (l.eraseIdx i).map f
  | [], _ => rfl
  | _ :: _, 0 => rfl
  | a :: l, i + 1 => by
    show f a :: (l.map f).eraseIdx i = f a :: (l.eraseIdx i).map f
    rw [erase_map l i]
def Bx (xs : List XT) : Prop := xs.length ≤ 40 ∧ ∀ x ∈ xs, x.2.length ≤ 3
theorem Bx.set {xs : List XT} {i : Nat} {x : XT} (h : Bx xs) (hx : x.2.length ≤ 3) : Bx (xs.set i x) := ⟨by rw [List.length_set]; exact h.1, fun y hy => by
  rcases List.mem_or_eq_of_mem_set hy with q | q
  · exact h.2 y q
  · rw [q]; exact hx⟩
section
variable {ns : List Int} {st : Store} {k : Nat}
def Nv (ns : List Int) (k : Nat) (L : List Ed) (at_ part way : Nat) (E : D) (i : Nat) (τ : Sl) (s : Store) : Prop :=
  ∃ f xs y, τ = [some (.ref 1), some (.int (k : Nat)), some (eds L), some (.ref f), some (.int (at_ : Nat)), some E, some (.int (part : Nat)), some (.int (way : Nat)), y] ∧ lstAt s f = some (xs.map xD) ∧ Bx xs ∧ (i ≤ way → xs = L.map Ed.x) ∧ 2 ≤ f ∧ DS ns s
theorem nv_step {L : List Ed} {at_ part way i : Nat} {E : D} {τ : Sl} {s : Store} {g : EM Bool} {body : SM} {R : D → Store → Prop} {B C : Sl → Store → Prop} (h : Nv ns k L at_ part way E i τ s)
    (hg : ∀ τ : Sl, (∃ f y, τ = [some (.ref 1), some (.int (k : Nat)), some (eds L), some (.ref f), some (.int (at_ : Nat)), some E, some (.int (part : Nat)), some (.int (way : Nat)), y]) → ∃ b, g τ s = .ok b s ∧ (b = true → way = i))
    (k1 : ∀ f y, way = i → τ = [some (.ref 1), some (.int (k : Nat)), some (eds L), some (.ref f), some (.int (at_ : Nat)), some E, some (.int (part : Nat)), some (.int (way : Nat)), y] → lstAt s f = some ((L.map Ed.x).map xD) → g τ s = .ok true s → Bx (L.map Ed.x) → 2 ≤ f → DS ns s → WS (body τ s) (Nv ns k L at_ part way E (i + 1)) R B C) :
    WS (sIf g body sNil τ s) (Nv ns k L at_ part way E (i + 1)) R B C := by
  obtain ⟨f, xs, y, rfl, gf, hB, hR, hf, H⟩ := h
  obtain ⟨b, hb, hw⟩ := hg _ ⟨f, y, rfl⟩
  refine ws_ifd (fun b' s' => b' = b ∧ s' = s) (W.of hb ⟨rfl, rfl⟩) (fun s' hb' => ?_) (fun s' hb' => ?_)
  · obtain ⟨e, rfl⟩ := hb'
    rw [← e] at hb
    have hw := hw e.symm
    have hx := hR (by omega)
    subst hx
    exact k1 f y hw rfl gf hb hB hf H
  · obtain ⟨e, rfl⟩ := hb'
    rw [sNil_e, WS_nx]
    refine ⟨f, xs, y, rfl, gf, hB, fun h => hR (by omega), hf, H⟩
theorem ws_sub {fo fi fe : EM D} {v i : D} {n : Nat} {τ : Sl} {s s2 : Store} {N : Sl → Store → Prop} {R : D → Store → Prop} {B C : Sl → Store → Prop} (hv : fe τ s = .ok v s) (ho : fo τ s = .ok (.ref n) s) (hi : fi τ s = .ok i s) (hs : oSet (.ref n) i v s = some s2) (h : N τ s2) : WS (sSub fo fi fe τ s) N R B C := by
  simp only [sSub_e, WS_bindE, hv, ho, hi, W_ok, hs, ofS_some, WS_nx]
  exact h
theorem way_g {L : List Ed} {at_ part way i : Nat} {E : D} {s : Store} {j : Int} (hj : j = (i : Nat)) : ∀ τ : Sl, (∃ f y, τ = [some (D.ref 1), some (.int (k : Nat)), some (eds L), some (.ref f), some (.int (at_ : Nat)), some E, some (.int (part : Nat)), some (.int (way : Nat)), y]) → ∃ b, tBl (eBin oEq (eVar 7) (eC (.int j))) τ s = .ok b s ∧ (b = true → way = i) := by
  rintro _ ⟨f, y, rfl⟩
  subst hj
  by_cases e : way = i
  · exact ⟨true, by simp [e], fun _ => e⟩
  · have e' : ¬ (way : Int) = i := by omega
    exact ⟨false, by simp [e'], fun h => by cases h⟩
theorem w_spoilt {L : List Ed} (H : DS ns st) (k0 : 0 < k) (k5 : k ≤ 5) (hL : L.Sublist (allE k)) (hpos : 0 < L.length) : W (f__law_spoilt_near [.ref 1, .int (k : Nat), eds L] st) fun d s => ∃ xs, d = xsD xs ∧ xs.length ≤ 200 ∧ (∀ x ∈ xs, x.2.length ≤ 100) ∧ DS ns s := by
  have lL := sub_len k5 hL
  have h2 := H.len
  have lE : ∀ s, fLen [eds L] s = .ok (.int (L.length : Nat)) s := fun s => by simp [eds]
  have fl : fList [eds L] st = .ok (.ref st.length) (st ++ [.lst (L.map Ed.d)]) := fList_tup
  have em : L.map Ed.d = (L.map Ed.x).map xD := by
    rw [List.map_map]
    exact List.map_congr_left fun e _ => (xD_ed e).symm
  have ix : ∀ i s (hi : i < L.length), oIx (eds L) (.int (i : Nat)) s = .ok (L[i]).d s := fun i s hi => by
    show oIx (.tup (L.map Ed.d)) _ s = _
    rw [oIx_tup, atI_nat (v := (L[i]).d) (by rw [List.getElem?_map, List.getElem?_eq_getElem hi]; rfl)]
    rfl
  unfold f__law_spoilt_near
  rw [runB_e]
  unfold m__law_spoilt_near
  rw [W_fin]
  have e0 : ent 9 [.ref 1, .int (k : Nat), eds L] = [some (.ref 1), some (.int (k : Nat)), some (eds L), none, none, none, none, none, none] := rfl
  rw [e0]
  have nvE : Nv ns k L = Nv ns k L := rfl
  obtain ⟨NE, hNE⟩ : ∃ NE, NE = eds L := ⟨_, rfl⟩
  rw [← hNE] at lE fl ix ⊢
  refine ws_cons (N' := fun τ s => τ = [some (.ref 1), some (.int (k : Nat)), some NE, some (.ref st.length), none, none, none, none, none] ∧ lstAt s st.length = some (L.map Ed.d) ∧ DS ns s) ?_ fun τ s hp => ?_
  · refine ws_set ?_
    exact W.of (a := .ref st.length) (s := st ++ [.lst (L.map Ed.d)]) (by simp [fl]) ⟨rfl, lstAt_new, H.app⟩
  obtain ⟨rfl, gf, D0⟩ := hp
  refine ws_cons (N' := fun τ s => ∃ a : Nat, a < L.length ∧ τ = [some (.ref 1), some (.int (k : Nat)), some NE, some (.ref st.length), some (.int (a : Nat)), none, none, none, none] ∧ lstAt s st.length = some (L.map Ed.d) ∧ DS ns s) ?_ fun τ s hp => ?_
  · refine ws_set ?_
    refine W.opq fun Q hQ => ?_
    simp [lE]
    exact w_draw (many := L.length) D0 hpos (by omega) fun v s hv D1 F1 => hQ _ _ ⟨v, hv, rfl, F1.lst gf (by omega), D1⟩
  clear gf D0
  obtain ⟨at_, hat, rfl, gf, D0⟩ := hp
  obtain ⟨e, he⟩ : ∃ e, e = L[at_] := ⟨_, rfl⟩
  have xat : (L.map Ed.x)[at_]? = some e.x := by rw [List.getElem?_map, List.getElem?_eq_getElem hat, he]; rfl
  have ixe := fun s => ix at_ s hat
  rw [← he] at ixe
  obtain ⟨xl1, xl2⟩ := x_len e
  have lE2 : ∀ s, fLen [e.d] s = .ok (.int ((e.x.2.length : Int) + 1)) s := fun s => by rw [← xD_ed]; simp [xD]
  obtain ⟨E, hE⟩ : ∃ E, E = e.d := ⟨_, rfl⟩
  have hEx : E = xD e.x := by rw [hE, xD_ed]
  rw [← hE] at ixe lE2
  refine ws_cons (N' := fun τ s' => τ = [some (.ref 1), some (.int (k : Nat)), some NE, some (.ref st.length), some (.int (at_ : Nat)), some E, none, none, none] ∧ s' = s) ?_ fun τ s' hp => ?_
  · refine ws_set ?_
    exact W.of (a := E) (s := s) (by simp [ixe]) ⟨rfl, rfl⟩
  obtain ⟨rfl, hs⟩ := hp
  rw [hs]
  clear hs s'
  refine ws_cons (N' := fun τ s => ∃ p : Nat, 1 ≤ p ∧ p ≤ e.x.2.length ∧ τ = [some (.ref 1), some (.int (k : Nat)), some NE, some (.ref st.length), some (.int (at_ : Nat)), some E, some (.int (p : Nat)), none, none] ∧ lstAt s st.length = some (L.map Ed.d) ∧ DS ns s) ?_ fun τ s hp => ?_
  · refine ws_set ?_
    refine W.opq fun Q hQ => ?_
    simp [lE2]
    refine w_draw (many := e.x.2.length) D0 (by omega) (by omega) fun v s hv D1 F1 => ?_
    simp
    refine hQ _ _ ⟨1 + v, by omega, by omega, ?_, F1.lst gf (by omega), D1⟩
    rw [show ((1 + v : Nat) : Int) = 1 + (v : Int) by omega]
    rfl
  clear gf D0
  obtain ⟨part, p1, p2, rfl, gf, D0⟩ := hp
  refine ws_cons (N' := fun τ s => ∃ way : Nat, way < 8 ∧ Nv ns k L at_ part way E 0 τ s) ?_ fun τ s hp => ?_
  · refine ws_set ?_
    refine W.opq fun Q hQ => ?_
    simp
    refine w_draw (many := 8) D0 (by decide) (by decide) fun v s hv D1 F1 => ?_
    refine hQ _ _ ⟨v, hv, st.length, L.map Ed.x, none, ?_, ?_, ⟨by rw [List.length_map]; omega, fun x hx => ?_⟩, fun _ => rfl, h2, D1⟩
    · rw [← hNE]
      rfl
    · rw [F1.lst gf (by omega), em]
    · obtain ⟨f, _, rfl⟩ := List.mem_map.mp hx
      have := x_len f
      omega
  clear gf D0
  obtain ⟨way, hway, hp⟩ := hp
  obtain ⟨A, B, cA, cB, lA, lB, hAB, v, hv⟩ := parts e part p1 p2
  rw [← hE] at cA cB hv
  have hAB : ∀ z : Int, D.tup (A ++ D.int z :: B) = xD (e.x.1, e.x.2.set (part - 1) z) := fun z => by
    rw [← hAB z, List.append_assoc]
    rfl
  have la1 : A.length + 1 ≤ 16777216 := by omega
  have la4 : A.length ≤ 16777215 := by omega
  have la2 : A.length + 1 + B.length ≤ 16777216 := by omega
  have la3 : A.length + (B.length + 1) ≤ 16777216 := by omega
  have xlen : (L.map Ed.x).length = L.length := List.length_map ..
  have ilt : at_ < ((L.map Ed.x).map xD).length := by rw [List.length_map, xlen]; exact hat
  have xatD : ((L.map Ed.x).map xD)[at_]? = some E := by rw [List.getElem?_map, xat, hEx]; rfl
  have lt40 : ∀ xs : List XT, xs.length ≤ 40 → (xs.map xD).length < 16777216 := fun xs h => by rw [List.length_map]; omega
  -- what is set at the place
  have fin : ∀ (f : Nat) (y : Option D) (s : Store) (x : XT) (i : Nat), x.2.length ≤ 3 → way = i → lstAt s f = some ((L.map Ed.x).map xD) → Bx (L.map Ed.x) → 2 ≤ f → DS ns s → oSet (.ref f) (.int (at_ : Nat)) (xD x) s = some (s.set f (.lst (((L.map Ed.x).set at_ x).map xD))) ∧ Nv ns k L at_ part way E (i + 1) [some (.ref 1), some (.int (k : Nat)), some (eds L), some (.ref f), some (.int (at_ : Nat)), some E, some (.int (part : Nat)), some (.int (way : Nat)), y] (s.set f (.lst (((L.map Ed.x).set at_ x).map xD))) := fun f y s x i hx hw gf hB hf D1 => by
    refine ⟨?_, f, (L.map Ed.x).set at_ x, y, rfl, lstAt_set gf, hB.set hx, fun h => by omega, hf, D1.put2 (by omega) (by omega)⟩
    have o := oSet_ref (v := xD x) gf (ixN_of ilt)
    rw [o, List.map_set]
  refine ws_cons (N' := Nv ns k L at_ part way E 1) (nv_step hp (way_g rfl) fun f y hw hτ gf _ hB hf D1 => ?_) fun τ s hp => ?_
  · subst hτ
    obtain ⟨XS, hXS⟩ : ∃ XS, XS = (L.map Ed.x).map xD := ⟨_, rfl⟩
    have le := List.length_eraseIdx_le ((L.map Ed.x).map xD) at_
    rw [List.length_map, xlen, ← hXS] at le
    rw [← hXS] at gf
    have xatD2 : XS[at_]? = some E := by rw [hXS]; exact xatD
    have pp := mPopAt_ref gf xatD2 (by omega)
    have g2 : lstAt (s.set f (.lst (XS.eraseIdx at_))) f = some (XS.eraseIdx at_) := lstAt_set gf
    have ap := mAppend_ref (x := E) g2 (by omega)
    refine ws_expr ?_
    refine W.of (a := .non) (s := (s.set f (.lst (XS.eraseIdx at_))).set f (.lst (XS.eraseIdx at_ ++ [E]))) (by simp only [eM_e, eVar_e]; simp [okT_ref gf, pp]; rw [ap]; simp) ?_
    refine ⟨f, (L.map Ed.x).eraseIdx at_ ++ [e.x], y, rfl, ?_, ⟨?_, fun x hx => ?_⟩, fun h => by omega, hf, (D1.put2 (by omega) (by omega)).put2 (by omega) (by omega)⟩
    · rw [lstAt_set g2, List.map_append, hXS, erase_map, hEx]
      rfl
    · have := List.length_eraseIdx_le (L.map Ed.x) at_
      rw [List.length_append]
      simp at *
      omega
    · rcases List.mem_append.mp hx with q | q
      · exact hB.2 x (List.mem_of_mem_eraseIdx q)
      · rw [List.mem_singleton.mp q]
        omega
  refine ws_cons (N' := Nv ns k L at_ part way E 2) (nv_step hp (way_g rfl) fun f y hw hτ gf _ hB hf D1 => ?_) fun τ s hp => ?_
  · subst hτ
    have ap := mInsert_ref (x := E) gf (lt40 _ hB.1) (k := at_) (by omega)
    refine ws_expr ?_
    refine W.of (a := .non) (s := _) (by simp [okT_ref gf]; simpa using ap) ?_
    refine ⟨f, (L.map Ed.x).take at_ ++ [e.x] ++ (L.map Ed.x).drop at_, y, rfl, ?_, ⟨?_, fun x hx => ?_⟩, fun h => by omega, hf, D1.put2 (by omega) (by omega)⟩
    · rw [lstAt_set gf, hEx]
      simp
    · simp
      omega
    · rcases List.mem_append.mp hx with q | q
      · rcases List.mem_append.mp q with q | q
        · exact hB.2 x (List.mem_of_mem_take q)
        · rw [List.mem_singleton.mp q]
          omega
      · exact hB.2 x (List.mem_of_mem_drop q)
  refine ws_cons (N' := Nv ns k L at_ part way E 3) (nv_step hp (way_g rfl) fun f y hw hτ gf _ hB hf D1 => ?_) fun τ s hp => ?_
  · subst hτ
    have pp := mPopAt_ref gf xatD (by omega)
    refine ws_expr ?_
    refine W.of (a := E) (s := _) (by simp [okT_ref gf]; exact pp) ?_
    refine ⟨f, (L.map Ed.x).eraseIdx at_, y, rfl, ?_, ⟨?_, fun x hx => hB.2 x (List.mem_of_mem_eraseIdx hx)⟩, fun h => by omega, hf, D1.put2 (by omega) (by omega)⟩
    · rw [lstAt_set gf, erase_map]
    · exact Nat.le_trans (List.length_eraseIdx_le _ _) hB.1
  refine ws_cons (N' := Nv ns k L at_ part way E 4) (nv_step hp (way_g rfl) fun f y hw hτ gf _ hB hf D1 => ?_) fun τ s hp => ?_
  · subst hτ
    obtain ⟨o, nv⟩ := fin f y s (e.x.1, e.x.2.set (part - 1) (k : Int)) 3 (by rw [List.length_set]; omega) hw gf hB hf D1
    refine ws_sub (v := xD (e.x.1, e.x.2.set (part - 1) (k : Int))) (i := .int (at_ : Nat)) (n := f) ?_ rfl rfl o nv
    simp [cA, cB, la1, la2, la3]
    exact hAB _
  refine ws_cons (N' := Nv ns k L at_ part way E 5) (nv_step hp (way_g rfl) fun f y hw hτ gf _ hB hf D1 => ?_) fun τ s hp => ?_
  · subst hτ
    obtain ⟨o, nv⟩ := fin f y s (e.x.1, e.x.2.set (part - 1) (-1)) 4 (by rw [List.length_set]; omega) hw gf hB hf D1
    refine ws_sub (v := xD (e.x.1, e.x.2.set (part - 1) (-1))) (i := .int (at_ : Nat)) (n := f) ?_ rfl rfl o nv
    simp [cA, cB, la1, la2, la3]
    exact hAB _
  refine ws_cons (N' := Nv ns k L at_ part way E 6) (nv_step hp (way_g rfl) fun f y hw hτ gf _ hB hf D1 => ?_) fun τ s hp => ?_
  · subst hτ
    simp only [sSub_e, WS_bindE]
    refine W.opq fun Q hQ => ?_
    simp [cA]
    refine w_draw (many := k) D1 k0 (by omega) fun u s2 hu D2 F2 => ?_
    have gf2 := F2.lst gf (by omega)
    obtain ⟨o, nv⟩ := fin f y s2 (e.x.1, e.x.2.set (part - 1) (u : Int)) 5 (by rw [List.length_set]; omega) hw gf2 hB hf D2
    simp [cB, la1, la2, la3, la4]
    rw [hAB]
    refine hQ _ _ ?_
    show W (ER.ok (D.ref f) s2) _
    rw [W_ok]
    show W (ER.ok (D.int (at_ : Nat)) s2) _
    rw [W_ok, o, ofS_some, WS_nx]
    exact nv
  refine ws_cons (N' := Nv ns k L at_ part way E 7) (nv_step hp (fun τ ⟨f, y, hτ⟩ => ?_) fun f y hw hτ gf hg hB hf D1 => ?_) fun τ s hp => ?_
  · subst hτ
    by_cases c : way = 6
    · by_cases c3 : e.x.2.length = 2
      · have c3' : (e.x.2.length : Int) + 1 = 3 := by omega
        exact ⟨true, by simp [c, lE2, c3'], fun _ => c⟩
      · have c3' : ¬ (e.x.2.length : Int) + 1 = 3 := by omega
        exact ⟨false, by simp [c, lE2, c3'], fun h => by cases h⟩
    · have c' : ¬ (way : Int) = 6 := by omega
      exact ⟨false, by simp [c'], fun h => by cases h⟩
  · subst hτ
    obtain ⟨o, nv⟩ := fin f y s (.turn, [v, v]) 6 (by simp) hw gf hB hf D1
    refine ws_sub (v := xD (.turn, [v, v])) (i := .int (at_ : Nat)) (n := f) ?_ rfl rfl o nv
    simp [hv]
    rfl
  refine ws_cons (N' := Nv ns k L at_ part way E 8) (nv_step hp (way_g rfl) fun f y hw hτ gf _ hB hf D1 => ?_) fun τ s hp => ?_
  · subst hτ
    refine ws_cons (N' := fun τ s => ∃ w : Wd, τ = [some (.ref 1), some (.int (k : Nat)), some (eds L), some (.ref f), some (.int (at_ : Nat)), some E, some (.int (part : Nat)), some (.int (way : Nat)), some (.str w.v)] ∧ lstAt s f = some ((L.map Ed.x).map xD) ∧ DS ns s) ?_ fun τ s' hp => ?_
    · refine ws_set ?_
      refine W.opq fun Q hQ => ?_
      by_cases c : e.x.2.length = 1
      · have c' : (e.x.2.length : Int) + 1 = 2 := by omega
        simp [lE2, c']
        have := D1.len
        refine w_pick (xs := [.str Wd.keep.v, .str Wd.cuts.v, .str Wd.any.v]) D1.app lstAt_new (by omega) (by decide) (by decide) fun d s2 hd D3 F3 => ?_
        have g2 := F3.lst (Gr.app.lst gf) (by omega)
        simp only [List.mem_cons, List.not_mem_nil, or_false] at hd
        rcases hd with rfl | rfl | rfl
        · exact hQ _ _ ⟨.keep, rfl, g2, D3⟩
        · exact hQ _ _ ⟨.cuts, rfl, g2, D3⟩
        · exact hQ _ _ ⟨.any, rfl, g2, D3⟩
      · have c' : ¬ (e.x.2.length : Int) + 1 = 2 := by omega
        simp [lE2, c']
        exact hQ _ _ ⟨.swap, rfl, gf, D1⟩
    clear gf D1
    obtain ⟨w, rfl, gf, D1⟩ := hp
    obtain ⟨o, nv⟩ := fin f (some (.str w.v)) s' (w, e.x.2) 7 (by show e.x.2.length ≤ 3; omega) hw gf hB hf D1
    have ct : dCut E (some 1) none s' = .ok (.tup (e.x.2.map D.int)) s' := by
      rw [hEx]
      show ER.ok (D.tup (cutD (.str e.x.1.v :: e.x.2.map D.int) (some ((1 : Nat) : Int)) none)) s' = _
      rw [cutD_from]
      rfl
    have l9 : 1 + e.x.2.length ≤ 16777216 := by omega
    have l8 : e.x.2.length + 1 ≤ 16777216 := by omega
    refine ws_sub (v := xD (w, e.x.2)) (i := .int (at_ : Nat)) (n := f) ?_ rfl rfl o nv
    simp [ct, l9, l8]
    rfl
  obtain ⟨f, xs, y, rfl, gf, hB, _, hf, D1⟩ := hp
  refine ws_cons (N' := fun τ s => ∃ f xs y, τ = [some (.ref 1), some (.int (k : Nat)), some (eds L), some (.ref f), some (.int (at_ : Nat)), some E, some (.int (part : Nat)), some (.int (way : Nat)), y] ∧ lstAt s f = some (xs.map xD) ∧ Bx xs ∧ DS ns s) ?_ fun τ s hp => ?_
  · refine ws_ifd (fun b s' => lstAt s' f = some (xs.map xD) ∧ DS ns s') ?_ (fun s' hb => ?_) (fun s' hb => ?_)
    · refine W.opq fun Q hQ => ?_
      by_cases c : 2 < way
      · have c' : (2 : Int) < (way : Int) := by omega
        simp [c']
        refine w_draw (many := 2) D1 (by decide) (by decide) fun u s2 hu D2 F2 => ?_
        simp
        exact hQ _ _ ⟨F2.lst gf (by omega), D2⟩
      · have c' : ¬ (2 : Int) < (way : Int) := by omega
        simp [c']
        exact hQ _ _ ⟨gf, D1⟩
    · obtain ⟨gf2, D2⟩ := hb
      obtain ⟨ys, hys, py⟩ := sort_x xs
      have so : fSorted [.ref f] s' = .ok (.ref s'.length) (s' ++ [.lst (ys.map xD)]) := by
        rw [fSorted_ref gf2]
        unfold gSorted
        rw [if_pos (sortable_x xs), hys]
      refine ws_set ?_
      exact W.of (a := .ref s'.length) (s := s' ++ [.lst (ys.map xD)]) (by simp [so]) ⟨s'.length, ys, y, rfl, lstAt_new, ⟨by rw [py.length_eq]; exact hB.1, fun x hx => hB.2 x (py.mem_iff.mp hx)⟩, D2.app⟩
    · rw [sNil_e, WS_nx]
      exact ⟨f, xs, y, rfl, hb.1, hB, hb.2⟩
  clear gf hB D1
  obtain ⟨f, xs, y, rfl, gf, hB, D1⟩ := hp
  refine ws_ret ?_
  have t1 := fTuple_ref gf
  exact W.of (a := xsD xs) (s := s) (by simp [t1, xsD]) ⟨xs, rfl, by have := hB.1; omega, fun x hx => by have := hB.2 x hx; omega, D1⟩
end

/-! k04: long alignments, the law -/
theorem isN_sub {k : Nat} {L : List Ed} (k5 : k ≤ 5) (h : L.Sublist (allE k)) : isN k (L.map Ed.x) = true := by
  unfold isN
  rw [Bool.and_eq_true, List.all_eq_true, List.all_eq_true]
  refine ⟨fun x hx => ?_, fun i hi => ?_⟩
  · obtain ⟨e, he, rfl⟩ := List.mem_map.mp hx
    exact isE_iff.mpr ⟨e, h.subset he, (xD_ed e).symm⟩
  · have hi := List.mem_range.mp hi
    have asc := (asc_eds k5 h).1
    rw [List.length_map] at hi
    have at_ : ∀ j (hj : j < L.length), xD ((L.map Ed.x).getD j (.cut, [])) = (L.map Ed.d)[j]'(by rw [List.length_map]; exact hj) := fun j hj => by
      rw [List.getD_eq_getElem?_getD, List.getElem?_map, List.getElem?_eq_getElem hj, List.getElem_map]
      exact xD_ed _
    have := List.pairwise_iff_getElem.mp asc i (i + 1) (by rw [List.length_map]; omega) (by rw [List.length_map]; omega) (by omega)
    unfold ltX
    rw [at_ i (by omega), at_ (i + 1) (by omega)]
    exact this.1
section
variable {ns : List Int} {st : Store} {k : Nat}
theorem w_long {a : List Stp} {es : List Ed} (H : DS ns st) (la : a.length ≤ 40) (hs : ∀ e, Stp.ed e ∈ a → e ∈ es) : W (f__law_long_right [.ref 1, stD a, eds es] st) fun d s => d = .bl true ∧ DS ns s ∧ Fr st s := by
  unfold f__law_long_right
  rw [runB_e]
  unfold m__law_long_right
  rw [W_fin]
  have c9 : ∀ s, dCut (stD a) none (some 9) s = .ok (.tup ((a.take 9).map Stp.d)) s := fun s => by
    show ER.ok (D.tup (cutD (a.map Stp.d) none (some ((9 : Nat) : Int)))) s = _
    rw [cutD_to, ← List.map_take]
  obtain ⟨X, hX⟩ : ∃ X, X = stD a := ⟨_, rfl⟩
  obtain ⟨Y, hY⟩ : ∃ Y, Y = eds es := ⟨_, rfl⟩
  rw [← hX] at c9 ⊢
  rw [← hY]
  have e0 : ent 4 [.ref 1, X, Y] = [some (.ref 1), some X, some Y, none] := rfl
  rw [e0]
  refine ws_cons (N' := fun τ s => ∃ b : List Stp, b.length ≤ 10000 ∧ (∀ z ∈ b, z ∈ a) ∧ τ = [some (.ref 1), some X, some Y, some (stD b)] ∧ DS ns s ∧ Fr st s) ?_ fun τ s hp => ?_
  · refine ws_set ?_
    refine W.opq fun Q hQ => ?_
    obtain ⟨T, hT⟩ : ∃ T, T = (a.take 9).map Stp.d := ⟨_, rfl⟩
    rw [← hT] at c9
    have lT : T.length ≤ 9 := by
      rw [hT, List.length_map]
      exact List.length_take_le ..
    simp [c9]
    refine w_draw (many := 889) H (by decide) (by decide) fun v s hv D1 F1 => ?_
    have b1 : -1000 ≤ (v : Int) := by omega
    have b2 : (v : Int) ≤ 1000 := by omega
    have b3 : T.length ≤ 1000 := by omega
    have em : D.tup (repD v T) = stD ((List.replicate v (a.take 9)).flatten) := by
      rw [hT]
      unfold repD stD
      rw [List.map_flatten, List.map_replicate]
    simp [b1, b2, b3]
    rw [em]
    refine hQ _ _ ⟨_, ?_, fun z hz => ?_, rfl, D1, F1⟩
    · have := List.length_flatten (L := List.replicate v (a.take 9))
      rw [this, List.map_replicate, List.sum_replicate_nat]
      have l9 : (a.take 9).length ≤ 9 := List.length_take_le ..
      have := Nat.mul_le_mul (show v ≤ 888 by omega) l9
      omega
    · obtain ⟨l, hl, hz⟩ := List.mem_flatten.mp hz
      rw [(List.mem_replicate.mp hl).2] at hz
      exact List.mem_of_mem_take hz
  obtain ⟨b, lb, hb, rfl, D1, F1⟩ := hp
  have al : b.all (okS es) = true := by
    rw [List.all_eq_true]
    intro z hz
    cases z with
    | keep y => rfl
    | ed e => exact decide_eq_true (hs e (hb _ hz))
  have ws := fun s => w_sides_right (st := s) lb
  have wa := fun s => w_allowed (st := s) (es := es) lb
  rw [al, ← hY] at wa
  obtain ⟨Z, hZ⟩ : ∃ Z, Z = stD b := ⟨_, rfl⟩
  rw [← hZ] at ws wa ⊢
  refine ws_ret ?_
  refine W.opq fun Q hQ => ?_
  simp
  refine (ws s).mono fun d s2 h => ?_
  obtain ⟨rfl, G⟩ := h
  simp
  refine (wa s2).mono fun d s3 h => ?_
  obtain ⟨rfl, rfl⟩ := h
  simp
  exact hQ _ _ ⟨rfl, G.ds D1, F1.trans G.fr⟩
end
theorem law_holds : ∀ ns : List Int, ns.length ≤ 63 → ∃ st, f_law [.rol (ns.map D.int)] [] = .ok (.bl true) st := by
  intro ns hl
  obtain ⟨st0, eb, D0, l0⟩ := r_begin hl
  have main : W (f_law [.rol (ns.map D.int)] []) fun d _ => d = .bl true := by
    unfold f_law
    rw [runB_e]
    unfold m_law
    obtain ⟨C, hC⟩ : ∃ C, C = D.rol (ns.map D.int) := ⟨_, rfl⟩
    rw [← hC] at eb ⊢
    rw [W_fin]
    have e0 : ent 12 [C] = [some C, none, none, none, none, none, none, none, none, none, none, none] := rfl
    rw [e0]
    refine ws_cons (N' := fun τ s => τ = [some C, some (.ref 1), none, none, none, none, none, none, none, none, none, none] ∧ DS ns s) ?_ fun τ s hp => ?_
    · refine ws_set ?_
      exact W.of (a := .ref 1) (s := st0) (by simp [eb]) ⟨rfl, D0⟩
    obtain ⟨rfl, D1⟩ := hp
    refine ws_cons (N' := fun τ s => ∃ k : Nat, 0 < k ∧ k ≤ 5 ∧ τ = [some C, some (.ref 1), some (.int (k : Nat)), none, none, none, none, none, none, none, none, none] ∧ DS ns s) ?_ fun τ s hp => ?_
    · refine ws_set ?_
      refine W.opq fun Q hQ => ?_
      simp
      refine w_draw (many := 5) D1 (by decide) (by decide) fun v s hv D2 F2 => ?_
      simp
      refine hQ _ _ ⟨1 + v, by omega, by omega, ?_, D2⟩
      rw [show ((1 + v : Nat) : Int) = 1 + (v : Int) by omega]
      rfl
    clear D1
    obtain ⟨k, k0, k5, rfl, D1⟩ := hp
    refine ws_cons (N' := fun τ s => ∃ m : Nat, m ≤ 40 ∧ τ = [some C, some (.ref 1), some (.int (k : Nat)), some (.int (m : Nat)), none, none, none, none, none, none, none, none] ∧ DS ns s) ?_ fun τ s hp => ?_
    · refine ws_set ?_
      refine W.opq fun Q hQ => ?_
      simp
      refine w_rare (many := 11) D1 (by decide) (by decide) fun b s D2 F2 => ?_
      cases b
      · simp
        exact w_draw (many := 10) D2 (by decide) (by decide) fun v s hv D3 F3 => hQ _ _ ⟨v, by omega, rfl, D3⟩
      · simp
        exact hQ _ _ ⟨40, by decide, rfl, D2⟩
    clear D1
    obtain ⟨most, hm, rfl, D1⟩ := hp
    refine ws_cons (N' := fun τ s => ∃ a, a.length ≤ 40 ∧ (∀ z ∈ a, Stp.ok k z) ∧ τ = [some C, some (.ref 1), some (.int (k : Nat)), some (.int (most : Nat)), some (stD a), none, none, none, none, none, none, none] ∧ DS ns s) ?_ fun τ s hp => ?_
    · refine ws_set ?_
      refine W.opq fun Q hQ => ?_
      simp
      refine (w_some_steps D1 k0 k5 hm).mono fun d s h => ?_
      obtain ⟨a, rfl, la, ha, D2⟩ := h
      exact hQ _ _ ⟨a, la, ha, rfl, D2⟩
    clear D1
    obtain ⟨a, la, ha, rfl, D1⟩ := hp
    have wsr := fun s => w_sides_right (st := s) (a := a) (by omega)
    have wsn := fun s => w_sides_right (st := s) (a := []) (by simp)
    have wnr := fun s (D : DS ns s) => w_some_nears D k0 k5 la ha
    have wal := fun s es => w_allowed (st := s) (a := a) (es := es) (by omega)
    have wlo := fun s (D : DS ns s) => w_long (es := own k a) D la fun e he => (own_mem ha).mpr he
    have ne0 := fun s => fun z : Stp => ne_keep z s
    have dA : ∀ s, dSq s (stD a) = some (.fix (a.map Stp.d)) := fun _ => rfl
    have eN : stD [] = D.tup [] := rfl
    rw [eN] at wsn
    obtain ⟨X, hX⟩ : ∃ X, X = stD a := ⟨_, rfl⟩
    rw [← hX] at wsr wnr wal wlo dA ⊢
    refine ws_cons (N' := fun τ s => τ = [some C, some (.ref 1), some (.int (k : Nat)), some (.int (most : Nat)), some X, none, none, none, none, none, none, none] ∧ DS ns s) ?_ fun τ s hp => ?_
    · refine ws_ifd (fun b s' => b = false ∧ DS ns s') ?_ (fun s' hb => absurd hb.1 (by decide)) (fun s' hb => ?_)
      · refine W.opq fun Q hQ => ?_
        simp
        refine (wsr s).mono fun d s h => ?_
        obtain ⟨rfl, G1⟩ := h
        simp
        refine (wsn s).mono fun d s h => ?_
        obtain ⟨rfl, G2⟩ := h
        simp
        exact hQ _ _ ⟨rfl, G2.ds (G1.ds D1)⟩
      · rw [sNil_e, WS_nx]
        exact ⟨rfl, hb.2⟩
    clear D1
    obtain ⟨rfl, D1⟩ := hp
    refine ws_cons (N' := fun τ s => ∃ m Ls, Nears k a Ls ∧ lstAt s m = some (Ls.map eds) ∧ 2 ≤ m ∧ τ = [some C, some (.ref 1), some (.int (k : Nat)), some (.int (most : Nat)), some X, some (.ref m), none, none, none, none, none, none] ∧ DS ns s) ?_ fun τ s hp => ?_
    · refine ws_set ?_
      refine W.opq fun Q hQ => ?_
      simp
      refine (wnr s D1).mono fun d s h => ?_
      obtain ⟨m, Ls, rfl, g, hN, hm, D2⟩ := h
      exact hQ _ _ ⟨m, Ls, hN, g, hm, rfl, D2⟩
    clear D1
    obtain ⟨m, Ls, hN, gm, m2, rfl, D1⟩ := hp
    obtain ⟨n4, n6, nsub, n1, n2⟩ := hN
    have ixm : ∀ (i : Nat) (L : List Ed) s, Ls[i]? = some L → lstAt s m = some (Ls.map eds) → oIx (.ref m) (.int (i : Nat)) s = .ok (eds L) s := fun i L s h g => by
      rw [oIx_ref g, atI_nat (v := eds L) (by rw [List.getElem?_map, h]; rfl)]
      rfl
    refine ws_cons (N' := fun τ s => τ = [some C, some (.ref 1), some (.int (k : Nat)), some (.int (most : Nat)), some X, some (.ref m), none, none, none, none, none, none] ∧ lstAt s m = some (Ls.map eds) ∧ DS ns s) ?_ fun τ s hp => ?_
    · refine ws_ifd (fun b s' => b = false ∧ lstAt s' m = some (Ls.map eds) ∧ DS ns s') ?_ (fun s' hb => absurd hb.1 (by decide)) (fun s' hb => ?_)
      · refine W.opq fun Q hQ => ?_
        simp
        refine w_rare (many := 23) D1 (by decide) (by decide) fun b s D2 F2 => ?_
        have g2 := F2.lst gm (by omega)
        cases b
        · simp
          exact hQ _ _ ⟨rfl, g2, D2⟩
        · have i2 : oIx (.ref m) (.int 2) s = .ok (eds (own k a)) s := ixm 2 _ s n2 g2
          simp [i2]
          refine (wlo s D2).mono fun d s3 h => ?_
          obtain ⟨rfl, D3, F3⟩ := h
          simp
          exact hQ _ _ ⟨rfl, F3.lst g2 (by omega), D3⟩
      · rw [sNil_e, WS_nx]
        exact ⟨rfl, hb.2⟩
    clear D1 gm
    obtain ⟨rfl, gm, D1⟩ := hp
    obtain ⟨J, hJ⟩ : ∃ J : Nat → Sl → Store → Prop, J = fun _ τ s => (∃ x y, τ = [some C, some (.ref 1), some (.int (k : Nat)), some (.int (most : Nat)), some X, some (.ref m), x, y, none, none, none, none]) ∧ lstAt s m = some (Ls.map eds) ∧ DS ns s := ⟨_, rfl⟩
    refine ws_cons (N' := J Ls.length) ?_ fun τ s hp => ?_
    · refine ws_forD (fun q s' => q = .cell m (Ls.map eds) ∧ s' = s) ?_ ?_
      · rw [iEx_e, W_bind]
        refine W.of (a := .ref m) (s := s) rfl ?_
        rw [dSq_ref gm, ofQ_some, W_ok]
        exact ⟨rfl, rfl⟩
      · rintro _ s0 ⟨rfl, hs0⟩
        rw [hs0]
        refine ws_map eds Ls rfl J (fun i τ s h => by rw [hJ] at h; exact decide_eq_true h.2.1) (by rw [hJ]; exact ⟨⟨none, none, rfl⟩, gm, D1⟩) (fun i L τ s' hi hp => ?_) fun τ s' hp => hp
        rw [hJ] at hp
        obtain ⟨⟨x, y, rfl⟩, gm, D2⟩ := hp
        refine ⟨_, rfl, ?_⟩
        have hL := nsub L (List.mem_of_getElem? hi)
        have lL := sub_len k5 hL
        have din : ∀ (e : Ed) s, dIn e.d (eds L) s = some (decide (e ∈ L)) := fun e s => in_ed
        have wne := fun s => w_nearness (st := s) (k := k) (xs := L.map Ed.x) (by rw [List.length_map]; omega) fun x hx => by
          obtain ⟨e, _, rfl⟩ := List.mem_map.mp hx
          have := x_len e
          omega
        have wju := fun (f : Nat) (hf : f ≤ 5) s => w_judged (st := s) (k := f) (xs := L.map Ed.x) hf (by rw [List.length_map]; omega) fun x hx => by
          obtain ⟨e, _, rfl⟩ := List.mem_map.mp hx
          have := x_len e
          omega
        have wal := fun s => wal s L
        rw [isN_sub k5 hL, xsD_eds] at wne
        rw [xsD_eds] at wju
        obtain ⟨Y, hY⟩ : ∃ Y, Y = eds L := ⟨_, rfl⟩
        rw [← hY] at din wne wju wal ⊢
        obtain ⟨v, hv⟩ : ∃ v, v = a.all (okS L) := ⟨_, rfl⟩
        rw [← hv] at wal
        refine ws_cons (N' := fun τ s => τ = [some C, some (.ref 1), some (.int (k : Nat)), some (.int (most : Nat)), some X, some (.ref m), some Y, some (.bl v), none, none, none, none] ∧ s = s') ?_ fun τ s hp => ?_
        · refine ws_set ?_
          refine W.opq fun Q hQ => ?_
          simp
          refine (wal s').mono fun d s h => ?_
          obtain ⟨rfl, rfl⟩ := h
          exact hQ _ _ ⟨rfl, rfl⟩
        obtain ⟨rfl, hs⟩ := hp
        rw [hs]
        clear hs s
        have hX1 : W (eCS gAllB (lComp [10] (iEx (eVar 4)) (gN 10) tYes (eOr (eBin oEq (eBin oIx (eVar 10) (eC (.int 0))) (eC (.str [107, 101, 101, 112]))) (eBin oIn (eVar 10) (eVar 6)))) [some C, some (.ref 1), some (.int (k : Nat)), some (.int (most : Nat)), some X, some (.ref m), some Y, some (.bl v), none, none, none, none] s') fun d s => d = .bl v ∧ s = s' := by
          rw [eCS_e, W_bind, lComp_e, W_bind, iEx_e, W_bind]
          refine W.of (a := X) (s := s') rfl ?_
          rw [dA, ofQ_some, W_ok]
          refine w_lc (by show (a.map Stp.d).length ≤ _; rw [List.length_map]; omega) ?_
          refine w_map Stp.d (fun z => D.bl (okS L z)) a rfl rfl (fun z _ => ⟨_, rfl, ?_⟩) ?_
          · obtain ⟨w, h1, h2⟩ := ne_keep z s'
            refine W.of (a := .bl (okS L z)) (s := s') ?_ ⟨rfl, rfl⟩
            cases z with
            | keep q => simp [wipeD, Stp.d, okS]
            | ed e =>
              have h2 : ¬ w = [107, 101, 101, 112] := of_decide_eq_false h2
              have d1 := din e s'
              obtain ⟨Z, hZ⟩ : ∃ Z, Z = e.d := ⟨_, rfl⟩
              have hZ2 : Stp.d (.ed e) = Z := hZ.symm
              rw [hZ2] at h1 ⊢
              rw [← hZ] at d1
              simp [wipeD, h1, h2, d1, okS]
          · rw [gAllB_map, W_ok, hv]
            exact ⟨rfl, rfl⟩
        obtain ⟨d, s2, ea, rfl, hs2⟩ := hX1.ex
        rw [hs2] at ea
        clear hs2 hX1
        obtain ⟨fe, hfe⟩ : ∃ fe : EM D, fe = (eCS gAllB (lComp [10] (iEx (eVar 4)) (gN 10) tYes (eOr (eBin oEq (eBin oIx (eVar 10) (eC (.int 0))) (eC (.str [107, 101, 101, 112]))) (eBin oIn (eVar 10) (eVar 6))))) := ⟨_, rfl⟩
        rw [← hfe] at ea ⊢
        have fb : fIsi [.bl v, .ty "bool"] s' = .ok (.bl true) s' := fIsi_e rfl (by decide +kernel)
        refine ws_skip (by cases v <;> simp [fb, ea]) ?_
        obtain ⟨d, s3, en, rfl, hs3⟩ := (wne s').ex
        rw [hs3] at en
        refine ws_skip (by simp [en]) ?_
        refine ws_must (fun s => lstAt s m = some (Ls.map eds) ∧ DS ns s) ?_ fun s h => by rw [hJ]; exact ⟨⟨_, _, rfl⟩, h.1, h.2⟩
        rw [eCS_e, W_bind, lComp_e, W_bind, iRg2_e, W_bind]
        refine W.of (a := .int 1) (s := s') rfl ?_
        rw [W_bind]
        refine W.of (a := .int (k : Nat)) (s := s') rfl ?_
        rw [rg2_int (by decide) (by omega), W_ok]
        have rk : rng 1 (k : Nat) = (List.range (k - 1)).map fun i : Nat => D.int ((i + 1 : Nat) : Int) := by
          unfold rng
          rw [show ((k : Int) - 1).toNat = k - 1 by omega]
          refine List.map_congr_left fun i _ => ?_
          show D.int (1 + (i : Nat)) = _
          rw [show (1 : Int) + (i : Nat) = ((i + 1 : Nat) : Int) by omega]
        refine w_lc (by show (rng 1 (k : Nat)).length ≤ _; rw [rk, List.length_map, List.length_range]; omega) ?_
        obtain ⟨P, hP⟩ : ∃ P : Nat → List D → Store → Prop, P = fun i acc s => acc = List.replicate i (.bl true) ∧ lstAt s m = some (Ls.map eds) ∧ DS ns s := ⟨_, rfl⟩
        refine w_mapc (fun i : Nat => D.int ((i + 1 : Nat) : Int)) (List.range (k - 1)) rk P (fun _ _ _ _ => rfl) (by rw [hP]; exact ⟨rfl, gm, D2⟩) (fun i f acc s hi hp => ?_) fun acc s hp => ?_
        · rw [hP] at hp
          obtain ⟨rfl, gm3, D3⟩ := hp
          refine ⟨_, rfl, ?_⟩
          show W (ER.ok true s) _
          rw [W_ok, if_pos rfl]
          have hf := List.mem_range.mp (List.mem_of_getElem? hi)
          have wj := wju (f + 1) (by omega) s
          refine W.opq fun Q hQ => ?_
          have ec : eCall 2 f__law_judged (aCons (eVar 11) (aCons (eVar 6) aNil)) ((wipeD [some C, some (.ref 1), some (.int (k : Nat)), some (.int (most : Nat)), some X, some (.ref m), some Y, some (.bl v), none, none, none, none] [11]).set 11 (some (.int ((f + 1 : Nat) : Int)))) s = f__law_judged [.int ((f + 1 : Nat) : Int), Y] s := by simp [wipeD]
          show W (eCall 2 f__law_judged (aCons (eVar 11) (aCons (eVar 6) aNil)) _ s) Q
          rw [ec]
          refine wj.mono fun d s4 h => ?_
          obtain ⟨rfl, G⟩ := h
          refine hQ _ _ ?_
          rw [hP]
          exact ⟨by rw [List.replicate_succ'], G.lst gm3, G.ds D3⟩
        · rw [hP] at hp
          obtain ⟨rfl, gm3, D3⟩ := hp
          have : gAllB (List.replicate (List.range (k - 1)).length (.bl true)) s = .ok (.bl true) s := by
            have z := gAllB_map (f := fun _ : Nat => true) (xs := List.range (k - 1)) (st := s)
            have e : (List.range (k - 1)).map (fun _ => D.bl true) = List.replicate (List.range (k - 1)).length (.bl true) := by rw [List.map_const']
            rw [← e, z]
            simp
          rw [this, W_ok]
          exact ⟨rfl, gm3, D3⟩
    clear gm D1
    rw [hJ] at hp
    obtain ⟨⟨x, y, rfl⟩, gm, D1⟩ := hp
    obtain ⟨L3, hL3⟩ : ∃ L3, Ls[3]? = some L3 := ⟨Ls[3], List.getElem?_eq_getElem (by omega)⟩
    have s3 := nsub L3 (List.mem_of_getElem? hL3)
    have i3 : oIx (.ref m) (.int 3) s = .ok (eds L3) s := ixm 3 _ s hL3 gm
    have i1 : oIx (.ref m) (.int 1) s = .ok (eds (allE k)) s := ixm 1 _ s n1 gm
    refine ws_cons (N' := fun τ s => ∃ B : List Ed, B.Sublist (allE k) ∧ 0 < B.length ∧ τ = [some C, some (.ref 1), some (.int (k : Nat)), some (.int (most : Nat)), some X, some (.ref m), x, y, some (eds B), none, none, none] ∧ DS ns s) ?_ fun τ s hp => ?_
    · refine ws_set ?_
      have l3 : fLen [eds L3] s = .ok (.int (L3.length : Nat)) s := by simp [eds]
      obtain ⟨Y3, hY3⟩ : ∃ Y, Y = eds L3 := ⟨_, rfl⟩
      rw [← hY3] at i3 l3
      by_cases c : 0 < L3.length
      · exact W.of (a := Y3) (s := s) (by simp [i3, l3, c]) ⟨L3, s3, c, by rw [hY3]; rfl, D1⟩
      · obtain ⟨Y1, hY1⟩ : ∃ Y, Y = eds (allE k) := ⟨_, rfl⟩
        rw [← hY1] at i1
        exact W.of (a := Y1) (s := s) (by simp [i3, i1, l3, c]) ⟨allE k, List.Sublist.refl _, allE_pos k0, by rw [hY1]; rfl, D1⟩
    clear gm D1 i3 i1
    obtain ⟨B, hB, hB0, rfl, D1⟩ := hp
    have wsp := fun s (D : DS ns s) => w_spoilt D k0 k5 hB hB0
    obtain ⟨YB, hYB⟩ : ∃ Y, Y = eds B := ⟨_, rfl⟩
    rw [← hYB] at wsp ⊢
    obtain ⟨J2, hJ2⟩ : ∃ J : Nat → Sl → Store → Prop, J = fun _ τ s => (∃ z, τ = [some C, some (.ref 1), some (.int (k : Nat)), some (.int (most : Nat)), some X, some (.ref m), x, y, some YB, z, none, none]) ∧ DS ns s := ⟨_, rfl⟩
    refine ws_cons (N' := J2 5) ?_ fun τ s hp => ?_
    · refine ws_forD (fun q s' => q = .fix (rng 0 (5 : Nat)) ∧ s' = s) ?_ ?_
      · rw [iRg1_e, W_bind]
        refine W.of (a := .int (5 : Nat)) (s := s) rfl ?_
        rw [rg1_int (by omega), W_ok]
        exact ⟨rfl, rfl⟩
      · rintro _ s0 ⟨rfl, hs0⟩
        rw [hs0]
        refine ws_rng (n := 5) J2 (fun _ _ _ _ => rfl) (by rw [hJ2]; exact ⟨⟨none, rfl⟩, D1⟩) (fun i τ s' hi hp => ?_) fun τ s' hp => hp
        rw [hJ2] at hp
        obtain ⟨⟨z, rfl⟩, D2⟩ := hp
        refine ⟨_, rfl, ?_⟩
        refine ws_must (fun s => DS ns s) ?_ fun s h => by rw [hJ2]; exact ⟨⟨_, rfl⟩, h⟩
        refine W.opq fun Q hQ => ?_
        simp
        refine (wsp s' D2).mono fun d s2 h => ?_
        obtain ⟨xs, rfl, h1, h2, D3⟩ := h
        refine (w_judged k5 h1 h2).mono fun d s3 h => ?_
        obtain ⟨rfl, G⟩ := h
        exact hQ _ _ ⟨rfl, G.ds D3⟩
    rw [hJ2] at hp
    obtain ⟨⟨z, rfl⟩, D2⟩ := hp
    refine ws_ret ?_
    have wa0 := w_allowed (st := s) (a := []) (es := []) (by simp)
    have e1 : eds [] = D.tup [] := rfl
    rw [eN, e1] at wa0
    simp
    refine wa0.mono fun d s2 h => ?_
    obtain ⟨rfl, rfl⟩ := h
    simp
    refine (wsr s2).mono fun d s3 h => ?_
    exact h.1
  obtain ⟨d, s, h, rfl⟩ := main.ex
  exact ⟨s, h⟩

/-! ### the head -/
def fn : List He.DefD := [⟨("sides", none), "sides", "sides", defArgs s_sides, defBody s_sides, defScope s_sides, [], []⟩,
  ⟨("count_edits", none), "count_edits", "count_edits", defArgs s_count_edits, defBody s_count_edits, defScope s_count_edits, [], []⟩,
  ⟨("is_allowed", none), "is_allowed", "is_allowed", defArgs s_is_allowed, defBody s_is_allowed, defScope s_is_allowed, [], []⟩,
  ⟨("is_edit", none), "is_edit", "is_edit", defArgs s_is_edit, defBody s_is_edit, defScope s_is_edit, [], []⟩,
  ⟨("is_nearness", none), "is_nearness", "is_nearness", defArgs s_is_nearness, defBody s_is_nearness, defScope s_is_nearness, [], []⟩,
  ⟨("_law_begin", none), "_law_begin", "_law_begin", defArgs s__law_begin, defBody s__law_begin, defScope s__law_begin, [], []⟩,
  ⟨("_law_draw", none), "_law_draw", "_law_draw", defArgs s__law_draw, defBody s__law_draw, defScope s__law_draw, [], []⟩,
  ⟨("_law_pick", none), "_law_pick", "_law_pick", defArgs s__law_pick, defBody s__law_pick, defScope s__law_pick, [], []⟩,
  ⟨("_law_rare", none), "_law_rare", "_law_rare", defArgs s__law_rare, defBody s__law_rare, defScope s__law_rare, [], []⟩,
  ⟨("_law_is_int", none), "_law_is_int", "_law_is_int", defArgs s__law_is_int, defBody s__law_is_int, defScope s__law_is_int, [], []⟩,
  ⟨("_law_is_ints", none), "_law_is_ints", "_law_is_ints", defArgs s__law_is_ints, defBody s__law_is_ints, defScope s__law_is_ints, [], []⟩,
  ⟨("_law_all_edits", none), "_law_all_edits", "_law_all_edits", defArgs s__law_all_edits, defBody s__law_all_edits, defScope s__law_all_edits, [], []⟩,
  ⟨("_law_near", none), "_law_near", "_law_near", defArgs s__law_near, defBody s__law_near, defScope s__law_near, [], []⟩,
  ⟨("_law_side", none), "_law_side", "_law_side", defArgs s__law_side, defBody s__law_side, defScope s__law_side, [], []⟩,
  ⟨("_law_edits", none), "_law_edits", "_law_edits", defArgs s__law_edits, defBody s__law_edits, defScope s__law_edits, [], []⟩,
  ⟨("_law_some_steps", none), "_law_some_steps", "_law_some_steps", defArgs s__law_some_steps, defBody s__law_some_steps, defScope s__law_some_steps, [], []⟩,
  ⟨("_law_some_nears", none), "_law_some_nears", "_law_some_nears", defArgs s__law_some_nears, defBody s__law_some_nears, defScope s__law_some_nears, [], []⟩,
  ⟨("_law_is_near", none), "_law_is_near", "_law_is_near", defArgs s__law_is_near, defBody s__law_is_near, defScope s__law_is_near, [], []⟩,
  ⟨("_law_spoilt_near", none), "_law_spoilt_near", "_law_spoilt_near", defArgs s__law_spoilt_near, defBody s__law_spoilt_near, defScope s__law_spoilt_near, [], []⟩,
  ⟨("_law_sides_right", none), "_law_sides_right", "_law_sides_right", defArgs s__law_sides_right, defBody s__law_sides_right, defScope s__law_sides_right, [], []⟩,
  ⟨("_law_judged", none), "_law_judged", "_law_judged", defArgs s__law_judged, defBody s__law_judged, defScope s__law_judged, [], []⟩,
  ⟨("_law_long_right", none), "_law_long_right", "_law_long_right", defArgs s__law_long_right, defBody s__law_long_right, defScope s__law_long_right, [], []⟩,
  ⟨("law", none), "law", "law", defArgs s_law, defBody s_law, defScope s_law, [], []⟩]
def fa : List He.Fa := [.glo "sides", .glo "count_edits", .glo "is_allowed", .glo "is_edit", .glo "is_nearness", .glo "_law_begin", .glo "_law_draw", .glo "_law_pick", .glo "_law_rare", .glo "_law_is_int", .glo "_law_is_ints", .glo "_law_all_edits", .glo "_law_near", .glo "_law_side", .glo "_law_edits", .glo "_law_some_steps", .glo "_law_some_nears", .glo "_law_is_near", .glo "_law_spoilt_near", .glo "_law_sides_right", .glo "_law_judged", .glo "_law_long_right", .glo "law", .free "tuple", .free "len", .free "range", .free "int", .free "abs", .free "isinstance", .free "bool", .free "all", .free "sorted", .free "set", .free "list"]
def fx : List Fx := []
abbrev hk : PySem.W.Hook := hookM 5 fa fx fn
def ob (s : PySem.W.SharedT) : He.AlD := obsMG 5 fa fx fn (HandSHeadRun.getT s)
theorem ob_eq (s : PySem.W.SharedT) : ob s = hk.obs s.abs := obsMG_eq (HandSHeadRun.getT_eq s)
def nm0 : List PySem.Str := ["sides", "count_edits", "is_allowed", "is_edit", "is_nearness", "_law_begin", "_law_draw", "_law_pick", "_law_rare", "_law_is_int", "_law_is_ints", "_law_all_edits", "_law_near", "_law_side", "_law_edits", "_law_some_steps", "_law_some_nears", "_law_is_near", "_law_spoilt_near", "_law_sides_right", "_law_judged", "_law_long_right"]
def nms : List PySem.Str := nm0
theorem run (w : World) : HandSHeadRun.RunEq (PySem.W.OpenLaw.row PySem.Challenge.rw_closedratios_k04_sides) (PySem.W.view (PySem.W.OpenLaw.row PySem.Challenge.rw_closedratios_k04_sides).prog [24]) hk ob 6000 nms w := by
  intro os
  kernel_rfl
theorem facts {P : Program} {w : World} {K : PySem.W.Frag} {h : Heap} {mg : PySem.Str → Option Value} {f : Addr} (X : K.In h) (G : h.Ns mainGlobals mg) (hfa : mg ("law" : PySem.Str) = some (.ref f)) (c : SaysM fa fx fn K) :
    ∃ fd : FuncData, (∀ (s : Shared) (v : Value), BindsTo s fd ⟨[v], []⟩ [("script", v)]) ∧ ∀ base : Heap, K.In base → base.Ns mainGlobals mg → FnM P w K mg base 5 f fd ["script"] f_law := by
  obtain ⟨fd_sides, F_sides⟩ := c.def_ 0 rfl
  have gx_sides := He.glo_ok X G (c.fact 0 (f := .glo "sides") rfl)
  obtain ⟨fd_count_edits, F_count_edits⟩ := c.def_ 1 rfl
  have gx_count_edits := He.glo_ok X G (c.fact 1 (f := .glo "count_edits") rfl)
  obtain ⟨fd_is_allowed, F_is_allowed⟩ := c.def_ 2 rfl
  have gx_is_allowed := He.glo_ok X G (c.fact 2 (f := .glo "is_allowed") rfl)
  obtain ⟨fd_is_edit, F_is_edit⟩ := c.def_ 3 rfl
  have gx_is_edit := He.glo_ok X G (c.fact 3 (f := .glo "is_edit") rfl)
  obtain ⟨fd_is_nearness, F_is_nearness⟩ := c.def_ 4 rfl
  have gx_is_nearness := He.glo_ok X G (c.fact 4 (f := .glo "is_nearness") rfl)
  obtain ⟨fd__law_begin, F__law_begin⟩ := c.def_ 5 rfl
  have gx__law_begin := He.glo_ok X G (c.fact 5 (f := .glo "_law_begin") rfl)
  obtain ⟨fd__law_draw, F__law_draw⟩ := c.def_ 6 rfl
  have gx__law_draw := He.glo_ok X G (c.fact 6 (f := .glo "_law_draw") rfl)
  obtain ⟨fd__law_pick, F__law_pick⟩ := c.def_ 7 rfl
  have gx__law_pick := He.glo_ok X G (c.fact 7 (f := .glo "_law_pick") rfl)
  obtain ⟨fd__law_rare, F__law_rare⟩ := c.def_ 8 rfl
  have gx__law_rare := He.glo_ok X G (c.fact 8 (f := .glo "_law_rare") rfl)
  obtain ⟨fd__law_is_int, F__law_is_int⟩ := c.def_ 9 rfl
  have gx__law_is_int := He.glo_ok X G (c.fact 9 (f := .glo "_law_is_int") rfl)
  obtain ⟨fd__law_is_ints, F__law_is_ints⟩ := c.def_ 10 rfl
  have gx__law_is_ints := He.glo_ok X G (c.fact 10 (f := .glo "_law_is_ints") rfl)
  obtain ⟨fd__law_all_edits, F__law_all_edits⟩ := c.def_ 11 rfl
  have gx__law_all_edits := He.glo_ok X G (c.fact 11 (f := .glo "_law_all_edits") rfl)
  obtain ⟨fd__law_near, F__law_near⟩ := c.def_ 12 rfl
  have gx__law_near := He.glo_ok X G (c.fact 12 (f := .glo "_law_near") rfl)
  obtain ⟨fd__law_side, F__law_side⟩ := c.def_ 13 rfl
  have gx__law_side := He.glo_ok X G (c.fact 13 (f := .glo "_law_side") rfl)
  obtain ⟨fd__law_edits, F__law_edits⟩ := c.def_ 14 rfl
  have gx__law_edits := He.glo_ok X G (c.fact 14 (f := .glo "_law_edits") rfl)
  obtain ⟨fd__law_some_steps, F__law_some_steps⟩ := c.def_ 15 rfl
  have gx__law_some_steps := He.glo_ok X G (c.fact 15 (f := .glo "_law_some_steps") rfl)
  obtain ⟨fd__law_some_nears, F__law_some_nears⟩ := c.def_ 16 rfl
  have gx__law_some_nears := He.glo_ok X G (c.fact 16 (f := .glo "_law_some_nears") rfl)
  obtain ⟨fd__law_is_near, F__law_is_near⟩ := c.def_ 17 rfl
  have gx__law_is_near := He.glo_ok X G (c.fact 17 (f := .glo "_law_is_near") rfl)
  obtain ⟨fd__law_spoilt_near, F__law_spoilt_near⟩ := c.def_ 18 rfl
  have gx__law_spoilt_near := He.glo_ok X G (c.fact 18 (f := .glo "_law_spoilt_near") rfl)
  obtain ⟨fd__law_sides_right, F__law_sides_right⟩ := c.def_ 19 rfl
  have gx__law_sides_right := He.glo_ok X G (c.fact 19 (f := .glo "_law_sides_right") rfl)
  obtain ⟨fd__law_judged, F__law_judged⟩ := c.def_ 20 rfl
  have gx__law_judged := He.glo_ok X G (c.fact 20 (f := .glo "_law_judged") rfl)
  obtain ⟨fd__law_long_right, F__law_long_right⟩ := c.def_ 21 rfl
  have gx__law_long_right := He.glo_ok X G (c.fact 21 (f := .glo "_law_long_right") rfl)
  obtain ⟨fd_law, F_law⟩ := c.def_ 22 rfl
  have z_tuple := He.free_ok X G (c.fact 23 (f := .free "tuple") rfl)
  have z_len := He.free_ok X G (c.fact 24 (f := .free "len") rfl)
  have z_range := He.free_ok X G (c.fact 25 (f := .free "range") rfl)
  have z_int := He.free_ok X G (c.fact 26 (f := .free "int") rfl)
  have z_abs := He.free_ok X G (c.fact 27 (f := .free "abs") rfl)
  have z_isinstance := He.free_ok X G (c.fact 28 (f := .free "isinstance") rfl)
  have z_bool := He.free_ok X G (c.fact 29 (f := .free "bool") rfl)
  have z_all := He.free_ok X G (c.fact 30 (f := .free "all") rfl)
  have z_sorted := He.free_ok X G (c.fact 31 (f := .free "sorted") rfl)
  have z_set := He.free_ok X G (c.fact 32 (f := .free "set") rfl)
  have z_list := He.free_ok X G (c.fact 33 (f := .free "list") rfl)
  have e := hfa.symm.trans (He.glo_ok X G (c.fact 22 (f := .glo "law") rfl))
  cases e
  refine ⟨fd_law, fun s v => FunD.bindsA (ps := ["script"]) F_law (fun _ _ _ _ _ _ us hl => match us, hl with | [_], _ => rfl) s [v] rfl, fun base _ _ => ?_⟩
  have c_sides := (ok_sides (P := P) (w := w) (base := base) F_sides gx_sides z_tuple).le le_sides
  have c_count_edits := (ok_count_edits (P := P) (w := w) (base := base) F_count_edits gx_count_edits z_len).le le_count_edits
  have c_is_allowed := (ok_is_allowed (P := P) (w := w) (base := base) F_is_allowed gx_is_allowed ).le le_is_allowed
  have c_is_edit := (ok_is_edit (P := P) (w := w) (base := base) F_is_edit gx_is_edit z_len).le le_is_edit
  have c_is_nearness := (ok_is_nearness (P := P) (w := w) (base := base) F_is_nearness gx_is_nearness c_is_edit z_range z_len).le le_is_nearness
  have c__law_begin := (ok__law_begin (P := P) (w := w) (base := base) F__law_begin gx__law_begin z_int).le le__law_begin
  have c__law_draw := (ok__law_draw (P := P) (w := w) (base := base) F__law_draw gx__law_draw z_int z_len z_abs).le le__law_draw
  have c__law_pick := (ok__law_pick (P := P) (w := w) (base := base) F__law_pick gx__law_pick c__law_draw z_len).le le__law_pick
  have c__law_rare := (ok__law_rare (P := P) (w := w) (base := base) F__law_rare gx__law_rare c__law_draw).le le__law_rare
  have c__law_is_int := (ok__law_is_int (P := P) (w := w) (base := base) F__law_is_int gx__law_is_int z_int z_isinstance z_bool).le le__law_is_int
  have c__law_is_ints := (ok__law_is_ints (P := P) (w := w) (base := base) F__law_is_ints gx__law_is_ints c__law_is_int z_tuple z_isinstance z_all).le le__law_is_ints
  have c__law_all_edits := (ok__law_all_edits (P := P) (w := w) (base := base) F__law_all_edits gx__law_all_edits z_range z_tuple).le le__law_all_edits
  have c__law_near := (ok__law_near (P := P) (w := w) (base := base) F__law_near gx__law_near c__law_all_edits c__law_draw z_tuple).le le__law_near
  have c__law_side := (ok__law_side (P := P) (w := w) (base := base) F__law_side gx__law_side z_tuple).le le__law_side
  have c__law_edits := (ok__law_edits (P := P) (w := w) (base := base) F__law_edits gx__law_edits z_len).le le__law_edits
  have c__law_some_steps := (ok__law_some_steps (P := P) (w := w) (base := base) F__law_some_steps gx__law_some_steps c__law_pick c__law_draw z_range z_tuple).le le__law_some_steps
  have c__law_some_nears := (ok__law_some_nears (P := P) (w := w) (base := base) F__law_some_nears gx__law_some_nears c__law_all_edits c__law_near c__law_pick z_sorted z_set z_tuple z_len).le le__law_some_nears
  have c__law_is_near := (ok__law_is_near (P := P) (w := w) (base := base) F__law_is_near gx__law_is_near c__law_all_edits z_all z_range z_len).le le__law_is_near
  have c__law_spoilt_near := (ok__law_spoilt_near (P := P) (w := w) (base := base) F__law_spoilt_near gx__law_spoilt_near c__law_draw c__law_pick z_list z_len z_sorted z_tuple).le le__law_spoilt_near
  have c__law_sides_right := (ok__law_sides_right (P := P) (w := w) (base := base) F__law_sides_right gx__law_sides_right c_sides c__law_is_ints c__law_side c_count_edits c__law_is_int c__law_edits z_tuple z_isinstance z_len).le le__law_sides_right
  have c__law_judged := (ok__law_judged (P := P) (w := w) (base := base) F__law_judged gx__law_judged c_is_nearness c__law_is_near z_bool z_isinstance).le le__law_judged
  have c__law_long_right := (ok__law_long_right (P := P) (w := w) (base := base) F__law_long_right gx__law_long_right c__law_draw c__law_sides_right c_is_allowed).le le__law_long_right
  exact (ok_law (P := P) (w := w) (base := base) F_law c__law_begin c__law_draw c__law_rare c__law_some_steps c__law_sides_right c__law_some_nears c__law_long_right c_is_allowed c_is_nearness c__law_judged c__law_spoilt_near z_bool z_isinstance z_all z_range z_len).le le_law
end K04
open PySem PySem.W PySem.Calls PyProof.Rows
set_option maxHeartbeats 0 in
theorem PySem.Challenge.cw_closedratios_k04_sides_holds : PySem.Challenge.rw_closedratios_k04_sides.Holds := by
  w_on; o_law
  refine HandSHeadRun.head_any (r := OpenLaw.row PySem.Challenge.rw_closedratios_k04_sides) (q := view (OpenLaw.row PySem.Challenge.rw_closedratios_k04_sides).prog [24]) (H := K04.hk) (ob := K04.ob) (M := 6000) (loose := K04.nms) (d := HandSHeadRun.topDef (OpenLaw.row PySem.Challenge.rw_closedratios_k04_sides).prog 24) (kwd := []) K04.ob_eq
    (by kernel_rfl) (fun s => by kernel_rfl) K04.run (by kernel_rfl) (by kernel_rfl) (by kernel_rfl) (by rfl) (by first | assumption | decide +kernel) (by decide +kernel) ⟨rfl, rfl, rfl, rfl, rfl, by decide +kernel⟩ ?hw ?hc
  case hw => w_witness2
  case hc =>
    refine L2.walk_ofE (l := PySem.Challenge.rw_closedratios_k04_sides) (n := 63) (k := 5) (x := "script") (CX := L2.CX0) rfl (by decide) (by kernel_rfl) ⟨rfl, by decide, by decide⟩ ?F (fun _ _ _ _ z => z)
    intro w mg fa h Y G hmg0
    obtain ⟨K, KX, c⟩ := Y
    have hmg : mg ("law" : PySem.Str) = some (.ref fa) := by
      have e : (HandSHeadRun.topDef (OpenLaw.row PySem.Challenge.rw_closedratios_k04_sides).prog 24).name = ("law" : PySem.Str) := by kernel_rfl
      rw [← e]
      exact hmg0
    obtain ⟨fd, hb, hF⟩ := K04.facts (P := (PySem.Challenge.rw_closedratios_k04_sides).prog) (w := w) KX G hmg c
    exact ⟨K, fd, (fun vs H Q _ => HM.spM ⟨K, w⟩ 1 K04.f_law vs H Q fun _ _ _ => False), KX, hb, fun H a ns hl ho hS => HM.law_sp (n := 63) K04.law_holds H a ns hl ho hS, fun base h1 h2 => (hF base h1 h2).shut⟩
