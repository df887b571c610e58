import PyProof.Rows.All
import Wide.All
import OpenK.AllK
import Wide.FinOn
import HandS.ForMost
import HandS.ForExc
import HandS.Wide
import HandS.Gcd
import HandS.Flow
import HandS.IsInst
import HandS.Conv
import HandS.TupAny
import HandS.Zip
import HandS.CallSlots
import HandS.TupLe
import KE.KDictKeyed
import HandS.TupMul
import HandS.ExcBuiltin
import HandS.TryOnly
import HandS.Defaults
import HandS.HeadEnd
import HandS.HeadHook1
import HandS.HeadHook2
import KE.KStateDown
import Lean
import HandS.Head0
import HandS.Head1
import HandS.Head2
import HandS.Head3
import HandS.More
import HandS.Deep
import HandS.Text
import KE.KTupSum
import KE.KMathGC
import KE.KIndexOf
import HandS.Codes
import KE.GoesZip
import KE.GoesMore
import HandS.TupLen
import KE.DataCmp
import KE.SortData
import HandS.SortInts
import HandS.Style
import KE.DataMinMax
import KE.KDictPairs
import PySem.Challenge.RW_closedratios_k19_values
set_option Elab.async false
set_option linter.all false
set_option maxRecDepth 100000
set_option maxHeartbeats 4000000
/-! HM: a layer of values over the hand layer. Part 1: values, stores, judgements. -/
namespace HM
open PySem PySem.Spec PyProof.Rows L2

/-! ### values -/
inductive D where
  | non | bl (b : Bool) | int (i : Int) | str (x : List Nat) | tup (xs : List D) | ref (n : Nat) | ty (n : String) | adr (a : Addr) | rol (xs : List D)
mutual
def D.dec : (a b : D) → Decidable (a = b)
  | .non, .non => Decidable.isTrue rfl
  | .bl a, .bl b => if h : a = b then Decidable.isTrue (h ▸ rfl) else Decidable.isFalse (fun e => h (D.bl.inj e))
  | .int a, .int b => if h : a = b then Decidable.isTrue (h ▸ rfl) else Decidable.isFalse (fun e => h (D.int.inj e))
  | .str a, .str b => if h : a = b then Decidable.isTrue (h ▸ rfl) else Decidable.isFalse (fun e => h (D.str.inj e))
  | .ref a, .ref b => if h : a = b then Decidable.isTrue (h ▸ rfl) else Decidable.isFalse (fun e => h (D.ref.inj e))
  | .ty a, .ty b => if h : a = b then Decidable.isTrue (h ▸ rfl) else Decidable.isFalse (fun e => h (D.ty.inj e))
  | .adr a, .adr b => if h : a = b then Decidable.isTrue (h ▸ rfl) else Decidable.isFalse (fun e => h (D.adr.inj e))
  | .tup a, .tup b => match D.decAll a b with
    | .isTrue h => Decidable.isTrue (h ▸ rfl)
    | .isFalse h => Decidable.isFalse (fun e => h (D.tup.inj e))
  | .rol a, .rol b => match D.decAll a b with
    | .isTrue h => Decidable.isTrue (h ▸ rfl)
    | .isFalse h => Decidable.isFalse (fun e => h (D.rol.inj e))
  | .non, .bl _ | .non, .int _ | .non, .str _ | .non, .tup _ | .non, .ref _ | .non, .ty _ | .non, .adr _ | .non, .rol _ => Decidable.isFalse nofun
  | .bl _, .non | .bl _, .int _ | .bl _, .str _ | .bl _, .tup _ | .bl _, .ref _ | .bl _, .ty _ | .bl _, .adr _ | .bl _, .rol _ => Decidable.isFalse nofun
  | .int _, .non | .int _, .bl _ | .int _, .str _ | .int _, .tup _ | .int _, .ref _ | .int _, .ty _ | .int _, .adr _ | .int _, .rol _ => Decidable.isFalse nofun
  | .str _, .non | .str _, .bl _ | .str _, .int _ | .str _, .tup _ | .str _, .ref _ | .str _, .ty _ | .str _, .adr _ | .str _, .rol _ => Decidable.isFalse nofun
  | .tup _, .non | .tup _, .bl _ | .tup _, .int _ | .tup _, .str _ | .tup _, .ref _ | .tup _, .ty _ | .tup _, .adr _ | .tup _, .rol _ => Decidable.isFalse nofun
  | .ref _, .non | .ref _, .bl _ | .ref _, .int _ | .ref _, .str _ | .ref _, .tup _ | .ref _, .ty _ | .ref _, .adr _ | .ref _, .rol _ => Decidable.isFalse nofun
  | .ty _, .non | .ty _, .bl _ | .ty _, .int _ | .ty _, .str _ | .ty _, .tup _ | .ty _, .ref _ | .ty _, .adr _ | .ty _, .rol _ => Decidable.isFalse nofun
  | .rol _, .non | .rol _, .bl _ | .rol _, .int _ | .rol _, .str _ | .rol _, .tup _ | .rol _, .ref _ | .rol _, .ty _ | .rol _, .adr _ => Decidable.isFalse nofun
  | .adr _, .non | .adr _, .bl _ | .adr _, .int _ | .adr _, .str _ | .adr _, .tup _ | .adr _, .ref _ | .adr _, .ty _ | .adr _, .rol _ => Decidable.isFalse nofun
def D.decAll : (a b : List D) → Decidable (a = b)
  | [], [] => Decidable.isTrue rfl
  | [], _ :: _ => Decidable.isFalse nofun
  | _ :: _, [] => Decidable.isFalse nofun
  | x :: xs, y :: ys => match D.dec x y with
    | .isFalse h => Decidable.isFalse (fun e => h (List.cons.inj e).1)
    | .isTrue h => match D.decAll xs ys with
      | .isTrue h2 => Decidable.isTrue (by rw [h, h2])
      | .isFalse h2 => Decidable.isFalse (fun e => h2 (List.cons.inj e).2)
end
instance : DecidableEq D := D.dec
instance : Inhabited D := ⟨.non⟩
/-- what stands in a cell of the store -/
inductive Cell where
  | lst (xs : List D) | dct (kvs : List (D × D))
  deriving DecidableEq, Inhabited
abbrev Store := List Cell
abbrev Sl := List (Option D)
/-- an exception: its class, its fields -/
structure Xc where
  cls : D
  fs : List (Str × D) := []
/-- what an evaluation gives -/
inductive ER (α : Type) where
  | ok (a : α) (st : Store) | exc (x : Xc) (st : Store) | bad
def ER.bind {α β : Type} (r : ER α) (k : α → Store → ER β) : ER β := match r with
  | .ok a st => k a st
  | .exc x st => .exc x st
  | .bad => .bad
@[simp] theorem ER.bind_ok {α β : Type} (a : α) (st : Store) (k : α → Store → ER β) : (ER.ok a st).bind k = k a st := rfl
@[simp] theorem ER.bind_exc {α β : Type} (x : Xc) (st : Store) (k : α → Store → ER β) : (ER.exc x st : ER α).bind k = .exc x st := rfl
@[simp] theorem ER.bind_bad {α β : Type} (k : α → Store → ER β) : (ER.bad : ER α).bind k = .bad := rfl
/-- what a statement gives -/
inductive SR where
  | nx (τ : Sl) (st : Store) | bk (τ : Sl) (st : Store) | ct (τ : Sl) (st : Store) | rt (d : D) (st : Store) | exc (x : Xc) (τ : Sl) (st : Store) | bad
abbrev EM (α : Type) := Sl → Store → ER α
abbrev SM := Sl → Store → SR

/-! ### how values stand for those of the layer -/
/-- a list that nobody writes -/
def FzL (K : PySem.W.Frag) (H : Hp) (a : Addr) (xs : List V) : Prop :=
  (∃ o, H a = some (.frz o (.lst xs))) ∨
    ∃ (o : Obj) (its : Array Value) (n : Nat), K.lookup a = some o ∧ o.cls = .type "list" ∧ o.dict = none ∧ o.data = .seq its n ∧ its.size ≤ sizeLine ∧ Vals xs its.toList
theorem FzL.sq {K : PySem.W.Frag} {H : Hp} {a : Addr} {xs : List V} (h : FzL K H a xs) : SqL K H a xs := by
  rcases h with ⟨o, h⟩ | h
  · exact .inl (.inr ⟨o, h⟩)
  · exact .inr h
theorem FzL.of {K : PySem.W.Frag} {H : Hp} {a : Addr} {xs : List V} (h : SqL K H a xs) (n : ∀ ys, H a ≠ some (.lst ys)) : FzL K H a xs := by
  rcases h with (h | h) | h
  · exact absurd h (n xs)
  · exact .inl h
  · exact .inr h
theorem FzL.new {K : PySem.W.Frag} {H : Hp} {p : Addr} {o : HO} (h : H p = none) {a : Addr} {vs : List V} (s : FzL K H a vs) : FzL K (upd H p o) a vs := by
  rcases s with ⟨ob, s⟩ | s
  · exact .inl ⟨ob, by rw [upd_ne (ne_of_none s h)]; exact s⟩
  · exact .inr s
/-- a tuple that has no dict of its own -/
def PlT (K : PySem.W.Frag) (H : Hp) (a : Addr) (xs : List V) : Prop :=
  (∃ o : Obj, o.dict = none ∧ H a = some (.frz o (.tup xs))) ∨
    ∃ (o : Obj) (its : Array Value) (n : Nat), K.lookup a = some o ∧ o.cls = .type "tuple" ∧ o.dict = none ∧ o.data = .seq its n ∧ its.size ≤ sizeLine ∧ Vals xs its.toList
theorem PlT.sq {K : PySem.W.Frag} {H : Hp} {a : Addr} {xs : List V} (h : PlT K H a xs) : SqT K H a xs := by
  rcases h with ⟨o, _, h⟩ | ⟨o, its, n, h1, h2, _, h3, h4, h5⟩
  · exact .inl (.inr ⟨o, h⟩)
  · exact .inr ⟨o, its, n, h1, h2, h3, h4, h5⟩
theorem PlT.new {K : PySem.W.Frag} {H : Hp} {p : Addr} {o : HO} (h : H p = none) {a : Addr} {vs : List V} (s : PlT K H a vs) : PlT K (upd H p o) a vs := by
  rcases s with ⟨ob, z, s⟩ | s
  · exact .inl ⟨ob, z, by rw [upd_ne (ne_of_none s h)]; exact s⟩
  · exact .inr s
theorem PlT.of {K : PySem.W.Frag} {H : Hp} {p : Addr} {o : Obj} {vs : List V} (h : o.dict = none) : PlT K (upd H p (.frz o (.tup vs))) p vs := .inl ⟨o, h, upd_same⟩
mutual
inductive RD (K : PySem.W.Frag) (m : List Addr) (H : Hp) : D → V → Prop
  | non : RD K m H .non .non
  | bl (b : Bool) : RD K m H (.bl b) (.bl b)
  | int (i : Int) : RD K m H (.int i) (.int i)
  | str (x : List Nat) : RD K m H (.str x) (.str ⟨x.toArray⟩)
  | ty (n : String) : RD K m H (.ty n) (.ty n)
  | adr (a : Addr) : RD K m H (.adr a) (.ref a)
  | tup {a : Addr} {vs : List V} {ds : List D} : PlT K H a vs → RDs K m H ds vs → RD K m H (.tup ds) (.ref a)
  | rol {a : Addr} {vs : List V} {ds : List D} : FzL K H a vs → RDs K m H ds vs → RD K m H (.rol ds) (.ref a)
  | ref {n : Nat} {a : Addr} : m[n]? = some a → RD K m H (.ref n) (.ref a)
inductive RDs (K : PySem.W.Frag) (m : List Addr) (H : Hp) : List D → List V → Prop
  | nil : RDs K m H [] []
  | cons {d : D} {v : V} {ds : List D} {vs : List V} : RD K m H d v → RDs K m H ds vs → RDs K m H (d :: ds) (v :: vs)
end
/-- what values lean on is kept -/
structure Kp (K : PySem.W.Frag) (m : List Addr) (H : Hp) (m' : List Addr) (H' : Hp) : Prop where
  pre : ∀ (n : Nat) (a : Addr), m[n]? = some a → m'[n]? = some a
  tup : ∀ (a : Addr) (vs : List V), SqT K H a vs → SqT K H' a vs
  plt : ∀ (a : Addr) (vs : List V), PlT K H a vs → PlT K H' a vs
  fzl : ∀ (a : Addr) (vs : List V), FzL K H a vs → FzL K H' a vs
/-- all that was is kept, but what the store may change -/
structure Ext (K : PySem.W.Frag) (m : List Addr) (H : Hp) (m' : List Addr) (H' : Hp) : Prop extends Kp K m H m' H' where
  frm : ∀ (a : Addr) (o : HO), a ∉ m → H a = some o → H' a = some o
  new : ∀ a : Addr, a ∈ m' → a ∉ m → H a = none
section
variable {K : PySem.W.Frag} {m m1 m2 m' : List Addr} {H H1 H2 H' : Hp}
theorem Ext.refl : Ext K m H m H := ⟨⟨fun _ _ h => h, fun _ _ h => h, fun _ _ h => h, fun _ _ h => h⟩, fun _ _ _ h => h, fun _ h n => absurd h n⟩
theorem Ext.mem (e : Ext K m H m1 H1) {a : Addr} (h : a ∈ m) : a ∈ m1 := by
  obtain ⟨n, q⟩ := List.getElem?_of_mem h
  exact List.mem_of_getElem? (e.pre n a q)
theorem Ext.trans (e : Ext K m H m1 H1) (f : Ext K m1 H1 m2 H2) : Ext K m H m2 H2 where
  pre := fun n a h => f.pre n a (e.pre n a h)
  tup := fun a vs h => f.tup a vs (e.tup a vs h)
  plt := fun a vs h => f.plt a vs (e.plt a vs h)
  fzl := fun a vs h => f.fzl a vs (e.fzl a vs h)
  frm := fun a o n h => by
    refine f.frm a o (fun q => ?_) (e.frm a o n h)
    rw [e.new a q n] at h
    cases h
  new := fun a h n => by
    by_cases q : a ∈ m1
    · exact e.new a q n
    · have z := f.new a h q
      cases r : H a with
      | none => rfl
      | some o =>
        rw [e.frm a o n r] at z
        cases z
mutual
theorem RD.kp (e : Kp K m H m' H') : ∀ {d : D} {v : V}, RD K m H d v → RD K m' H' d v
  | _, _, .non => .non
  | _, _, .bl b => .bl b
  | _, _, .int i => .int i
  | _, _, .str x => .str x
  | _, _, .ty n => .ty n
  | _, _, .adr a => .adr a
  | _, _, .tup h r => .tup (e.plt _ _ h) (RDs.kp e r)
  | _, _, .rol h r => .rol (e.fzl _ _ h) (RDs.kp e r)
  | _, _, .ref h => .ref (e.pre _ _ h)
theorem RDs.kp (e : Kp K m H m' H') : ∀ {ds : List D} {vs : List V}, RDs K m H ds vs → RDs K m' H' ds vs
  | _, _, .nil => .nil
  | _, _, .cons h r => .cons (RD.kp e h) (RDs.kp e r)
end
theorem RD.mono (e : Ext K m H m' H') {d : D} {v : V} (r : RD K m H d v) : RD K m' H' d v := r.kp e.toKp
theorem RDs.mono (e : Ext K m H m' H') {ds : List D} {vs : List V} (r : RDs K m H ds vs) : RDs K m' H' ds vs := r.kp e.toKp
theorem RDs.len : ∀ {ds : List D} {vs : List V}, RDs K m H ds vs → ds.length = vs.length
  | _, _, .nil => rfl
  | _, _, .cons _ r => congrArg (· + 1) r.len
theorem RDs.get : ∀ {ds : List D} {vs : List V} {i : Nat} {d : D}, RDs K m H ds vs → ds[i]? = some d → ∃ v, vs[i]? = some v ∧ RD K m H d v
  | _, _, _, _, .nil, e => by simp at e
  | _, _, 0, _, .cons h _, e => by
    simp at e
    subst e
    exact ⟨_, rfl, h⟩
  | _, _, i + 1, d, .cons _ r, e => by
    obtain ⟨v, h1, h2⟩ := RDs.get (i := i) (d := d) r (by simpa using e)
    exact ⟨v, by simpa using h1, h2⟩
theorem RDs.append : ∀ {ds es : List D} {vs us : List V}, RDs K m H ds vs → RDs K m H es us → RDs K m H (ds ++ es) (vs ++ us)
  | _, _, _, _, .nil, s => s
  | _, _, _, _, .cons h r, s => .cons h (RDs.append r s)
theorem RDs.take : ∀ {ds : List D} {vs : List V} (n : Nat), RDs K m H ds vs → RDs K m H (ds.take n) (vs.take n)
  | _, _, 0, _ => .nil
  | _, _, _ + 1, .nil => .nil
  | _, _, n + 1, .cons h r => .cons h (RDs.take n r)
theorem RDs.drop : ∀ {ds : List D} {vs : List V} (n : Nat), RDs K m H ds vs → RDs K m H (ds.drop n) (vs.drop n)
  | _, _, 0, r => r
  | _, _, _ + 1, .nil => .nil
  | _, _, n + 1, .cons _ r => RDs.drop n r
theorem RDs.set {d : D} {v : V} (h : RD K m H d v) : ∀ {ds : List D} {vs : List V} (i : Nat), RDs K m H ds vs → RDs K m H (ds.set i d) (vs.set i v)
  | _, _, _, .nil => .nil
  | _, _, 0, .cons _ r => .cons h r
  | _, _, i + 1, .cons g r => .cons g (RDs.set h i r)
theorem RDs.erase : ∀ {ds : List D} {vs : List V} (i : Nat), RDs K m H ds vs → RDs K m H (ds.eraseIdx i) (vs.eraseIdx i)
  | _, _, _, .nil => .nil
  | _, _, 0, .cons _ r => r
  | _, _, i + 1, .cons g r => .cons g (RDs.erase i r)
theorem RDs.dropLast {ds : List D} {vs : List V} (r : RDs K m H ds vs) : RDs K m H ds.dropLast vs.dropLast := by
  rw [List.dropLast_eq_take, List.dropLast_eq_take, r.len]
  exact r.take _
theorem RDs.one {d : D} {vs : List V} (r : RDs K m H [d] vs) : ∃ v, vs = [v] ∧ RD K m H d v := by
  cases r with
  | cons h r =>
    cases r
    exact ⟨_, rfl, h⟩
theorem RDs.two {d e : D} {vs : List V} (r : RDs K m H [d, e] vs) : ∃ v u, vs = [v, u] ∧ RD K m H d v ∧ RD K m H e u := by
  cases r with
  | cons h r =>
    obtain ⟨u, rfl, h2⟩ := r.one
    exact ⟨_, _, rfl, h, h2⟩
theorem RDs.reverse {ds : List D} {vs : List V} (r : RDs K m H ds vs) : RDs K m H ds.reverse vs.reverse := by
  induction ds generalizing vs with
  | nil =>
    cases r
    exact .nil
  | cons d ds ih =>
    cases r with
    | cons h r =>
      rw [List.reverse_cons, List.reverse_cons]
      exact (ih r).append (.cons h .nil)
theorem RDs.ints : ∀ (ns : List Int), RDs K m H (ns.map D.int) (ns.map V.int)
  | [] => .nil
  | n :: r => .cons (.int n) (RDs.ints r)
/-- the known part and the world -/
structure KW where
  F : PySem.W.Frag
  w : World
instance : CoeOut KW PySem.W.Frag := ⟨KW.F⟩
@[reducible] def _root_.L2.Cx.kw (X : Cx) : KW := ⟨X.K, X.w⟩
/-- values without truth values and references, so deep -/
def D.plain : Nat → D → Bool
  | _, .non => true
  | _, .int _ => true
  | _, .str x => x.all fun c => decide (c < 1114112)
  | 0, .tup _ => false
  | n + 1, .tup xs => xs.all (D.plain n)
  | _, _ => false

mutual
def D.nk : D → NestedKey
  | .non => .none
  | .int i => .num i
  | .str x => .text ⟨x.toArray⟩
  | .tup xs => .tup (D.nks xs)
  | _ => .none
def D.nks : List D → List NestedKey
  | [] => []
  | d :: ds => D.nk d :: D.nks ds
end
def D.tupQ (d : D) : Bool := match d with
  | .tup _ => d.plain 8
  | _ => false
def keyD : Key → D
  | .inl i => .int i
  | .inr x => .str x.cps.toList
/-- a dict whose keys are tuples, at its address -/
def DObj (w : World) (a : Addr) (xs : List (NestedKey × Addr × V)) (h : Heap) : Prop :=
  (a == sysModules) = false ∧ xs.length ≤ sizeLine ∧ ∃ zs : List (NestedKey × Addr × Value), Paired (fun p q => p.1 = q.1 ∧ p.2.1 = q.2.1 ∧ RelV p.2.2 q.2.2) xs zs ∧
    ∃ o es ep, h.get? a = some o ∧ o.ExactDict ∧ o.data = .dict es ep ∧ es.toList = zs.map (fun x => (⟨NestedKey.hash w x.1, .ref x.2.1, x.2.2⟩ : DictEntry)) ∧ (zs.map (·.1)).Nodup
abbrev DRel1 (K : PySem.W.Frag) (m : List Addr) (H : Hp) : List (D × D) → List (Key × V) → Prop := Paired fun p q => p.1 = keyD q.1 ∧ RD K m H p.2 q.2
abbrev DRel2 (K : PySem.W.Frag) (m : List Addr) (H : Hp) : List (D × D) → List (NestedKey × Addr × V) → Prop := Paired fun p q => p.1.tupQ = true ∧ q.1 = p.1.nk ∧ RD K m H p.1 (.ref q.2.1) ∧ RD K m H p.2 q.2.2
theorem DRel1.kp {m m' : List Addr} {H H' : Hp} {kvs : List (D × D)} {us : List (Key × V)} (r : DRel1 K m H kvs us) (e : Kp K m H m' H') : DRel1 K m' H' kvs us := Paired.mapP r fun _ _ z => ⟨z.1, z.2.kp e⟩
theorem DRel2.kp {m m' : List Addr} {H H' : Hp} {kvs : List (D × D)} {us : List (NestedKey × Addr × V)} (r : DRel2 K m H kvs us) (e : Kp K m H m' H') : DRel2 K m' H' kvs us := Paired.mapP r fun _ _ z => ⟨z.1, z.2.1, z.2.2.1.kp e, z.2.2.2.kp e⟩
/-- a cell and what stands at its address -/
def RC (K : KW) (m : List Addr) (H : Hp) (a : Addr) : Cell → Prop
  | .lst ds => ∃ vs, H a = some (.lst vs) ∧ RDs K m H ds vs
  | .dct kvs => (∃ us, H a = some (.dK us) ∧ DRel1 K m H kvs us) ∨ ∃ xs, H a = some (.ext (DObj K.w a xs)) ∧ xs ≠ [] ∧ DRel2 K m H kvs xs
structure SS (K : KW) (m : List Addr) (st : Store) (H : Hp) : Prop where
  len : m.length = st.length
  nd : m.Nodup
  cel : ∀ (n : Nat) (c : Cell) (a : Addr), st[n]? = some c → m[n]? = some a → RC K m H a c
/-- the slots -/
structure SL (K : PySem.W.Frag) (m : List Addr) (H : Hp) (τ : Sl) (σ : L2.St) : Prop where
  len : τ.length = σ.length
  get : ∀ (i : Nat) (d : D), τ[i]? = some (some d) → ∃ v, σ[i]? = some (some v) ∧ RD K m H d v
theorem SL.mono {τ : Sl} {σ : L2.St} (s : SL K m H τ σ) (e : Ext K m H m' H') : SL K m' H' τ σ :=
  ⟨s.len, fun i d h => let ⟨v, h1, h2⟩ := s.get i d h; ⟨v, h1, h2.mono e⟩⟩
theorem SL.set {τ : Sl} {σ : L2.St} {d : D} {v : V} (s : SL K m H τ σ) (i : Nat) (r : RD K m H d v) : SL K m H (τ.set i (some d)) (σ.set i (some v)) := by
  refine ⟨by simpa using s.len, fun j e h => ?_⟩
  by_cases hj : i = j
  · subst hj
    by_cases hl : i < τ.length
    · rw [List.getElem?_set_self hl] at h
      simp only [Option.some.injEq] at h
      subst h
      exact ⟨v, by rw [List.getElem?_set_self (by rw [← s.len]; exact hl)], r⟩
    · rw [List.getElem?_eq_none (by simpa using hl)] at h
      cases h
  · rw [List.getElem?_set_ne hj] at h
    rw [List.getElem?_set_ne hj]
    exact s.get j e h
theorem SS.at {K : KW} {st : Store} {n : Nat} {c : Cell} (s : SS K m st H) (h : st[n]? = some c) : ∃ a, m[n]? = some a ∧ RC K m H a c := by
  have hl : n < m.length := by
    rw [s.len]
    exact (List.getElem?_eq_some_iff.mp h).1
  exact ⟨m[n], by simp, s.cel n c _ h (by simp)⟩
theorem sqT_new {p : Addr} {o : HO} (h : H p = none) {a : Addr} {vs : List V} (s : SqT K H a vs) : SqT K (upd H p o) a vs := by
  rcases s with (s | ⟨ob, s⟩) | s
  · exact .inl (.inl (by rw [upd_ne (ne_of_none s h)]; exact s))
  · exact .inl (.inr ⟨ob, by rw [upd_ne (ne_of_none s h)]; exact s⟩)
  · exact .inr s
theorem sqL_new {p : Addr} {o : HO} (h : H p = none) {a : Addr} {vs : List V} (s : SqL K H a vs) : SqL K (upd H p o) a vs := by
  rcases s with (s | ⟨ob, s⟩) | s
  · exact .inl (.inl (by rw [upd_ne (ne_of_none s h)]; exact s))
  · exact .inl (.inr ⟨ob, by rw [upd_ne (ne_of_none s h)]; exact s⟩)
  · exact .inr s
theorem sqL_ne {p a : Addr} {o : HO} {vs : List V} (h : a ≠ p) (s : SqL K H a vs) : SqL K (upd H p o) a vs := by
  rcases s with (s | ⟨ob, s⟩) | s
  · exact .inl (.inl (by rw [upd_ne h]; exact s))
  · exact .inl (.inr ⟨ob, by rw [upd_ne h]; exact s⟩)
  · exact .inr s
theorem RC.here {K : KW} {a : Addr} {c : Cell} (r : RC K m H a c) : ∃ o, H a = some o := by
  cases c with
  | lst ds =>
    obtain ⟨vs, h, _⟩ := r
    exact ⟨_, h⟩
  | dct kvs =>
    rcases r with ⟨us, h, _⟩ | ⟨xs, h, _⟩ <;> exact ⟨_, h⟩
/-- a new object that the store does not hold -/
theorem Ext.fresh {p : Addr} {o : HO} (h : H p = none) : Ext K m H m (upd H p o) :=
  ⟨⟨fun _ _ h => h, fun _ _ s => sqT_new h s, fun _ _ s => s.new h, fun _ _ s => s.new h⟩, fun a ob _ q => by rw [upd_ne (ne_of_none q h)]; exact q, fun _ q n => absurd q n⟩
theorem RC.fresh {K : KW} {p a : Addr} {o : HO} {c : Cell} (h : H p = none) (r : RC K m H a c) : RC K m (upd H p o) a c := by
  cases c with
  | lst ds =>
    obtain ⟨vs, q, r⟩ := r
    exact ⟨vs, by rw [upd_ne (ne_of_none q h)]; exact q, r.mono (Ext.fresh h)⟩
  | dct kvs =>
    rcases r with ⟨us, q, r⟩ | ⟨xs, q, r⟩
    · exact .inl ⟨us, by rw [upd_ne (ne_of_none q h)]; exact q, r.kp (Ext.fresh h).toKp⟩
    · exact .inr ⟨xs, by rw [upd_ne (ne_of_none q h)]; exact q, r.1, r.2.kp (Ext.fresh h).toKp⟩
theorem SS.fresh {K : KW} {p : Addr} {o : HO} {st : Store} (s : SS K m st H) (h : H p = none) : SS K m st (upd H p o) :=
  ⟨s.len, s.nd, fun n c a h1 h2 => (s.cel n c a h1 h2).fresh h⟩
/-- a new object of the store's -/
theorem Ext.app {p : Addr} {o : HO} (h : H p = none) : Ext K m H (m ++ [p]) (upd H p o) where
  pre := fun n a q => by
    rw [List.getElem?_append_left (List.getElem?_eq_some_iff.mp q).1]
    exact q
  tup := fun _ _ s => sqT_new h s
  plt := fun _ _ s => s.new h
  fzl := fun _ _ s => s.new h
  frm := fun a ob _ q => by rw [upd_ne (ne_of_none q h)]; exact q
  new := fun a q n => by
    rcases List.mem_append.mp q with q | q
    · exact absurd q n
    · have e : a = p := by simpa using q
      rw [e]
      exact h
theorem Ext.grow {p : Addr} : (H p = none) → Ext K m H (m ++ [p]) H := fun h => {
  pre := fun n a q => by
    rw [List.getElem?_append_left (List.getElem?_eq_some_iff.mp q).1]
    exact q
  tup := fun _ _ s => s
  plt := fun _ _ s => s
  fzl := fun _ _ s => s
  frm := fun a ob _ q => q
  new := fun a q n => by
    rcases List.mem_append.mp q with q | q
    · exact absurd q n
    · have e : a = p := by simpa using q
      rw [e]
      exact h }
theorem RC.kp {K : KW} {a : Addr} {c : Cell} (r : RC K m H a c) (e : Kp K m H m' H') (h : ∀ o, H a = some o → H' a = some o) : RC K m' H' a c := by
  cases c with
  | lst ds =>
    obtain ⟨vs, q, r⟩ := r
    exact ⟨vs, h _ q, r.kp e⟩
  | dct kvs =>
    rcases r with ⟨us, q, r⟩ | ⟨xs, q, r⟩
    · exact .inl ⟨us, h _ q, r.kp e⟩
    · exact .inr ⟨xs, h _ q, r.1, r.2.kp e⟩
theorem Kp.grow {p : Addr} : Kp K m H (m ++ [p]) H := ⟨fun n a q => by
    rw [List.getElem?_append_left (List.getElem?_eq_some_iff.mp q).1]
    exact q, fun _ _ s => s, fun _ _ s => s, fun _ _ s => s⟩
/-- an object that is there becomes the store's -/
theorem SS.grow {K : KW} {p : Addr} {c : Cell} {st : Store} (s : SS K m st H) (hp : p ∉ m) (r : RC K (m ++ [p]) H p c) : SS K (m ++ [p]) (st ++ [c]) H where
  len := by simp [s.len]
  nd := by
    rw [List.nodup_append]
    refine ⟨s.nd, by simp, fun a h1 b h2 e => ?_⟩
    have e2 : b = p := by simpa using h2
    rw [e, e2] at h1
    exact hp h1
  cel := fun n d a h1 h2 => by
    by_cases hn : n < st.length
    · rw [List.getElem?_append_left hn] at h1
      rw [List.getElem?_append_left (by rw [s.len]; exact hn)] at h2
      exact (s.cel n d a h1 h2).kp Kp.grow fun _ q => q
    · have hl : n < (st ++ [c]).length := (List.getElem?_eq_some_iff.mp h1).1
      have e : n = st.length := by
        rw [List.length_append, List.length_singleton] at hl
        omega
      subst e
      have e1 : c = d := by simpa using h1
      have e2 : p = a := by
        rw [← s.len] at h2
        simpa using h2
      rw [← e1, ← e2]
      exact r
theorem SS.notin {K : KW} {st : Store} {p : Addr} (s : SS K m st H) (h : H p = none) : p ∉ m := fun q => by
  obtain ⟨n, e⟩ := List.getElem?_of_mem q
  have hl : n < st.length := by
    rw [← s.len]
    exact (List.getElem?_eq_some_iff.mp e).1
  obtain ⟨o, z⟩ := (s.cel n st[n] p (by simp) e).here
  rw [h] at z
  cases z
/-- a list is written -/
theorem Kp.write {p : Addr} {xs : List V} {o : HO} (h : H p = some (.lst xs)) : Kp K m H m (upd H p o) where
  pre := fun _ _ q => q
  tup := fun a vs s => by
    rcases s with (s | ⟨ob, s⟩) | s
    · exact .inl (.inl (by rw [upd_ne (fun e => by rw [e, h] at s; cases s)]; exact s))
    · exact .inl (.inr ⟨ob, by rw [upd_ne (fun e => by rw [e, h] at s; cases s)]; exact s⟩)
    · exact .inr s
  plt := fun a vs s => by
    rcases s with ⟨ob, z, s⟩ | s
    · exact .inl ⟨ob, z, by rw [upd_ne (fun e => by rw [e, h] at s; cases s)]; exact s⟩
    · exact .inr s
  fzl := fun a vs s => by
    rcases s with ⟨ob, s⟩ | s
    · exact .inl ⟨ob, by rw [upd_ne (fun e => by rw [e, h] at s; cases s)]; exact s⟩
    · exact .inr s
/-- a list that is not the store's is written -/
theorem SS.other {K : KW} {st : Store} {p : Addr} {xs : List V} {o : HO} (s : SS K m st H) (h : H p = some (.lst xs)) (hp : p ∉ m) : SS K m st (upd H p o) :=
  ⟨s.len, s.nd, fun n c a h1 h2 => (s.cel n c a h1 h2).kp (Kp.write h) fun ob q => by rw [upd_ne (fun e : a = p => hp (by rw [← e]; exact List.mem_of_getElem? h2))]; exact q⟩
/-- a list of the store's is written -/
theorem Ext.write {n : Nat} {p : Addr} {xs : List V} {o : HO} (h : H p = some (.lst xs)) (hn : m[n]? = some p) : Ext K m H m (upd H p o) :=
  { Kp.write h with
    frm := fun a ob q z => by rw [upd_ne (fun e : a = p => q (by rw [e]; exact List.mem_of_getElem? hn))]; exact z
    new := fun a q n => absurd q n }
theorem SS.write {K : KW} {st : Store} {n : Nat} {p : Addr} {xs ys : List V} {ds : List D} (s : SS K m st H) (h : H p = some (.lst xs)) (hn : m[n]? = some p) (r : RDs K m H ds ys) : SS K m (st.set n (.lst ds)) (upd H p (.lst ys)) where
  len := by rw [List.length_set]; exact s.len
  nd := s.nd
  cel := fun i c a h1 h2 => by
    by_cases hi : n = i
    · subst hi
      rw [hn] at h2
      cases h2
      have hl : n < st.length := by
        rw [← s.len]
        exact (List.getElem?_eq_some_iff.mp hn).1
      rw [List.getElem?_set_self hl] at h1
      cases h1
      exact ⟨ys, upd_same, r.kp (Kp.write h)⟩
    · rw [List.getElem?_set_ne hi] at h1
      refine (s.cel i c a h1 h2).kp (Kp.write h) fun ob q => ?_
      rw [upd_ne fun e => hi ?_]
      · exact q
      · subst e
        obtain ⟨l1, e1⟩ := List.getElem?_eq_some_iff.mp hn
        obtain ⟨l2, e2⟩ := List.getElem?_eq_some_iff.mp h2
        exact (List.getElem_inj s.nd).mp (e1.trans e2.symm)
/-- a thing of the store's is written -/
theorem Kp.writeM {p : Addr} {o : HO} (h : Mut (H p)) : Kp K m H m (upd H p o) where
  pre := fun _ _ q => q
  tup := fun a vs s => by
    rcases s with (s | ⟨ob, s⟩) | s
    · exact .inl (.inl (by rw [upd_ne (fun e => by rw [← e, s] at h; exact h)]; exact s))
    · exact .inl (.inr ⟨ob, by rw [upd_ne (fun e => by rw [← e, s] at h; exact h)]; exact s⟩)
    · exact .inr s
  plt := fun a vs s => by
    rcases s with ⟨ob, z, s⟩ | s
    · exact .inl ⟨ob, z, by rw [upd_ne (fun e => by rw [← e, s] at h; exact h)]; exact s⟩
    · exact .inr s
  fzl := fun a vs s => by
    rcases s with ⟨ob, s⟩ | s
    · exact .inl ⟨ob, by rw [upd_ne (fun e => by rw [← e, s] at h; exact h)]; exact s⟩
    · exact .inr s
theorem Ext.writeM {n : Nat} {p : Addr} {o : HO} (h : Mut (H p)) (hn : m[n]? = some p) : Ext K m H m (upd H p o) :=
  { Kp.writeM h with
    frm := fun a ob q z => by rw [upd_ne (fun e : a = p => q (by rw [e]; exact List.mem_of_getElem? hn))]; exact z
    new := fun a q n => absurd q n }
theorem SS.writeM {K : KW} {st : Store} {n : Nat} {p : Addr} {o : HO} {c : Cell} (s : SS K m st H) (h : Mut (H p)) (hn : m[n]? = some p) (r : RC K m (upd H p o) p c) : SS K m (st.set n c) (upd H p o) where
  len := by rw [List.length_set]; exact s.len
  nd := s.nd
  cel := fun i c' a h1 h2 => by
    by_cases hi : n = i
    · subst hi
      rw [hn] at h2
      cases h2
      have hl : n < st.length := by
        rw [← s.len]
        exact (List.getElem?_eq_some_iff.mp hn).1
      rw [List.getElem?_set_self hl] at h1
      cases h1
      exact r
    · rw [List.getElem?_set_ne hi] at h1
      refine (s.cel i c' a h1 h2).kp (Kp.writeM h) fun ob q => ?_
      rw [upd_ne fun e => hi ?_]
      · exact q
      · subst e
        obtain ⟨l1, e1⟩ := List.getElem?_eq_some_iff.mp hn
        obtain ⟨l2, e2⟩ := List.getElem?_eq_some_iff.mp h2
        exact (List.getElem_inj s.nd).mp (e1.trans e2.symm)
end
end HM

/-! HM, part 2: what an evaluation promises; expressions. -/
namespace HM
open PySem PySem.Spec PyProof.Rows L2

/-- an exception and how it flies -/
def XR (K : PySem.W.Frag) (m : List Addr) (H : Hp) (x : Xc) (c : Value) (d : Option Addr) : Prop := match x.cls with
  | .ty n => c = .type n ∧ x.fs = []
  | .adr a => c = .ref a ∧ (x.fs = [] ∨ ∃ da vs, d = some da ∧ H da = some (.xd vs) ∧ Paired (fun (p : Str × D) (q : Str × V) => p.1 = q.1 ∧ RD K m H p.2 q.2) x.fs vs)
  | _ => False
/-- behind an evaluation -/
def Pe {α β : Type} (K : KW) (E : XK) (R : List Addr → Hp → α → β → Prop) (m : List Addr) (H : Hp) (r : ER α) (Q : β → Hp → Prop) : Prop := match r with
  | .ok a st => ∀ m' H' b, Ext K m H m' H' → SS K m' st H' → R m' H' a b → Q b H'
  | .exc x st => ∀ m' H' c d, Ext K m H m' H' → SS K m' st H' → XR K m' H' x c d → E c d H'
  | .bad => False
section
variable {α β γ δ : Type} {K : KW} {E : XK} {R : List Addr → Hp → α → β → Prop} {S : List Addr → Hp → γ → δ → Prop} {m m1 : List Addr} {H H1 : Hp} {r : ER α} {Q : β → Hp → Prop}
theorem Pe.up (h : Pe K E R m H r Q) (e : Ext K m H m1 H1) : Pe K E R m1 H1 r Q := by
  cases r with
  | ok a st => exact fun m' H' b e' s q => h m' H' b (e.trans e') s q
  | exc x st => exact fun m' H' c d e' s q => h m' H' c d (e.trans e') s q
  | bad => exact h
theorem Pe.bind {k : α → Store → ER γ} {Q' : δ → Hp → Prop} (h : Pe K E S m H (r.bind k) Q')
    (hk : ∀ a st m' H' b, Ext K m H m' H' → SS K m' st H' → R m' H' a b → Pe K E S m' H' (k a st) Q' → Q b H') : Pe K E R m H r Q := by
  cases r with
  | ok a st => exact fun m' H' b e s q => hk a st m' H' b e s q (Pe.up h e)
  | exc x st => exact h
  | bad => exact h
theorem Pe.now {a : α} {st : Store} {b : β} (h : Pe K E R m H (.ok a st) Q) (s : SS K m st H) (q : R m H a b) : Q b H := h m H b .refl s q
theorem Pe.imp {Q' : β → Hp → Prop} (h : Pe K E R m H r Q) (hQ : ∀ b H, Q b H → Q' b H) : Pe K E R m H r Q' := by
  cases r with
  | ok a st => exact fun m' H' b e s q => hQ _ _ (h m' H' b e s q)
  | exc x st => exact h
  | bad => exact h
end
abbrev RB : List Addr → Hp → Bool → Bool → Prop := fun _ _ a b => a = b

/-! ### judgements -/
def wE (X : Cx) (e : Expr) : TE := fun σ H Q => ∀ (pins : List (Addr × Obj)) (s : Shared), Inv X pins σ H s → wpAny (model X.prog X.w) X.A (eval e X.env) (EP X pins σ Q) X.xe s
def wT (X : Cx) (e : Expr) : TT := fun σ H Q => ∀ (pins : List (Addr × Obj)) (s : Shared), Inv X pins σ H s → wpAny (model X.prog X.w) X.A (isTrue e X.env (eval e X.env)) (TP X pins σ Q) X.xe s
def wW (X : Cx) (e : Expr) : TT := fun σ H Q => ∀ (whole : Sem Value) (pins : List (Addr × Obj)) (s : Shared), Inv X pins σ H s → wpAny (model X.prog X.w) X.A (isTrue e X.env whole) (TP X pins σ Q) X.xe s
def wA (X : Cx) (es : List Expr) : TA := fun σ H Q => ∀ (pos : Pos) (pins : List (Addr × Obj)) (s : Shared), Inv X pins σ H s → wpAny (model X.prog X.w) X.A (spliced (backTo pos (starEach es X.env))) (AP X pins σ Q) X.xe s
theorem peW {X : Cx} {e : Expr} : PE X e (wE X e) := ⟨fun pins s σ H Q I h => h pins s I⟩
theorem ptW {X : Cx} {e : Expr} : PT X e (wT X e) := ⟨fun pins s σ H Q I h => h pins s I⟩
theorem pwW {X : Cx} {e : Expr} : PW X e (wW X e) := ⟨fun wh pins s σ H Q I h => h wh pins s I⟩
theorem paW {X : Cx} {es : List Expr} : PA X es (wA X es) := ⟨fun pos pins s σ H Q I h => h pos pins s I⟩
/-- an expression -/
structure Ex (X : Cx) (W : WX) (e : Expr) (f : EM D) : Prop where
  run : ∀ (m : List Addr) (τ : Sl) (st : Store) (σ : L2.St) (H : Hp) (Q : VK), SL X.K m H τ σ → SS X.kw m st H → Pe X.kw (fun c d H' => W c d σ H') (RD X.K) m H (f τ st) Q → wE X e σ H Q
/-- a test -/
structure Et (X : Cx) (W : WX) (e : Expr) (f : EM Bool) : Prop where
  run : ∀ (m : List Addr) (τ : Sl) (st : Store) (σ : L2.St) (H : Hp) (Q : Bool → Hp → Prop), SL X.K m H τ σ → SS X.kw m st H → Pe X.kw (fun c d H' => W c d σ H') RB m H (f τ st) Q → wT X e σ H Q
/-- a test whatever its whole is -/
structure Ew (X : Cx) (W : WX) (e : Expr) (f : EM Bool) : Prop where
  run : ∀ (m : List Addr) (τ : Sl) (st : Store) (σ : L2.St) (H : Hp) (Q : Bool → Hp → Prop), SL X.K m H τ σ → SS X.kw m st H → Pe X.kw (fun c d H' => W c d σ H') RB m H (f τ st) Q → wW X e σ H Q
/-- arguments -/
structure Ea (X : Cx) (W : WX) (es : List Expr) (f : EM (List D)) : Prop where
  run : ∀ (m : List Addr) (τ : Sl) (st : Store) (σ : L2.St) (H : Hp) (Q : List V → Hp → Prop), SL X.K m H τ σ → SS X.kw m st H → Pe X.kw (fun c d H' => W c d σ H') (RDs X.K) m H (f τ st) Q → wA X es σ H Q
section
variable {X : Cx} {W : WX} {e a b c : Expr} {es rest : List Expr} {pos : Pos} {f fa fb fc : EM D} {fs : EM (List D)} {g : EM Bool}
theorem Ex.le {f' : EM D} (h : Ex X W e f) (hl : ∀ (m : List Addr) (τ : Sl) (st : Store) (H : Hp) (E : XK) (Q : VK), SS X.kw m st H → Pe X.kw E (RD X.K) m H (f' τ st) Q → Pe X.kw E (RD X.K) m H (f τ st) Q) : Ex X W e f' :=
  ⟨fun m τ st σ H Q hL hS hP => h.run m τ st σ H Q hL hS (hl m τ st H _ Q hS hP)⟩

/-! ### names, constants -/
def eVar (i : Nat) : EM D := fun τ st => match τ[i]? with
  | some (some d) => .ok d st
  | _ => .bad
theorem ex_var {i : Nat} {x : Str} (hN : X.N[i]? = some x) (hv : Vis X.env.scope x) (hd : (x == ("__debug__" : Str)) = false := by decide) (hcd : (x == ("__classdict__" : Str)) = false := by decide) : Ex X W (.Name x pos) (eVar i) := by
  refine ⟨fun m τ st σ H Q hL hS hP pins s I => ?_⟩
  refine (pe_var hN hv hd hcd).run pins s σ H Q I ?_
  unfold eVar at hP
  split at hP
  · rename_i d hd
    obtain ⟨v, h1, h2⟩ := hL.get i d hd
    exact ⟨v, h1, hP.now hS h2⟩
  · exact hP.elim
theorem xv (i : Nat) {x : Str} (hN : X.N[i]? = some x := by rfl) (hv : Vis X.env.scope x := by first | exact Or.inl rfl | exact Or.inr (Or.inl rfl) | exact Or.inr (Or.inr rfl)) (hd : (x == ("__debug__" : Str)) = false := by decide)
    (hcd : (x == ("__classdict__" : Str)) = false := by decide) : Ex X W (.Name x pos) (eVar i) := ex_var hN hv hd hcd
def eC (d : D) : EM D := fun _ st => .ok d st
theorem ex_c {t : TE} {d : D} {v : V} (h : PE X e t) (ht : ∀ σ H Q, Q v H → t σ H Q) (r : ∀ m H, RD X.K m H d v) : Ex X W e (eC d) :=
  ⟨fun m τ st σ H Q hL hS hP pins s I => h.run pins s σ H Q I (ht _ _ _ (hP.now hS (r m H)))⟩
theorem ex_int {i j} : Ex X W (.Constant (.int i) j pos) (eC (.int i)) := ex_c pe_int (fun _ _ _ h => h) fun _ _ => .int i
theorem ex_bl {i j} : Ex X W (.Constant (.bool i) j pos) (eC (.bl i)) := ex_c pe_bl (fun _ _ _ h => h) fun _ _ => .bl i
theorem ex_non {j} : Ex X W (.Constant .none j pos) (eC .non) := ex_c pe_non (fun _ _ _ h => h) fun _ _ => .non
theorem ex_str {x : Str} {j} : Ex X W (.Constant (.str x) j pos) (eC (.str x.cps.toList)) := ex_c pe_str (fun _ _ _ h => h) fun _ _ => by
  have e : x = ⟨x.cps.toList.toArray⟩ := by simp
  exact e ▸ .str x.cps.toList
theorem ex_strc {x : Str} {j} (l : List Nat) (h : x.cps.toList = l) : Ex X W (.Constant (.str x) j pos) (eC (.str l)) := by
  subst h
  exact ex_str
/-- a module's constant -/
theorem ex_glob {x : Str} {v : V} {u : Value} {d : D} (hg : Gl X x) (hm : X.mg x = some u) (r : RelV v u) (rd : ∀ m H, RD X.K m H d v) (hd : (x == ("__debug__" : Str)) = false := by decide) : Ex X W (.Name x pos) (eC d) :=
  ex_c (pe_glob hg hm r hd) (fun _ _ _ h => h) rd
theorem ex_bltn {x : Str} {v : V} {u : Value} {d : D} (hg : Gl X x) (hm : X.mg x = none) (hv : bootBuiltins x = some u) (r : RelV v u) (rd : ∀ m H, RD X.K m H d v) (hn : x ≠ "__name__" := by decide) (hd : (x == ("__debug__" : Str)) = false := by decide) : Ex X W (.Name x pos) (eC d) :=
  ex_c (pe_bltn hg hm hv r hn hd) (fun _ _ _ h => h) rd

/-! ### operators -/
abbrev O1 := D → Store → ER D
abbrev O2 := D → D → Store → ER D
/-- a rule by values -/
def OpM (X : Cx) (W : WX) (f : Value → Value → Sem Value) (g : O2) : Prop :=
  ∀ (m : List Addr) (st : Store) (σ : L2.St) (H : Hp) (dx dy : D) (x y : V) (Q : VK), SS X.kw m st H → RD X.K m H dx x → RD X.K m H dy y → Pe X.kw (fun c d H' => W c d σ H') (RD X.K) m H (g dx dy st) Q →
    ∀ (pins : List (Addr × Obj)) (s : Shared) (v u : Value), Inv X pins σ H s → RelV x v → RelV y u → wpAny (model X.prog X.w) X.A (f v u) (EP X pins σ Q) X.xe s
theorem OpM.opr {F : Value → Value → Sem Value} {g : O2} (h : OpM X W F g) : OpR X F (fun x y H Q => ∀ (pins : List (Addr × Obj)) (s : Shared) (σ : L2.St) (v u : Value), Inv X pins σ H s → RelV x v → RelV y u → wpAny (model X.prog X.w) X.A (F v u) (EP X pins σ Q) X.xe s) :=
  fun pins s σ H x y v u Q I rx ry z => z pins s σ v u I rx ry
def eBin (g : O2) (fa fb : EM D) : EM D := fun τ st => (fa τ st).bind fun x s1 => (fb τ s1).bind fun y s2 => g x y s2
def wR2 (X : Cx) (f : Value → Value → Sem Value) (σ : L2.St) : R2 := fun x y H Q => ∀ (pins : List (Addr × Obj)) (s : Shared) (v u : Value), Inv X pins σ H s → RelV x v → RelV y u → wpAny (model X.prog X.w) X.A (f v u) (EP X pins σ Q) X.xe s
/-- two expressions in a row -/
theorem two {g : D → D → Store → ER α} {α' : Type} {RA : List Addr → Hp → α → α' → Prop} {Q : α' → Hp → Prop} (ha : Ex X W a fa) (hb : Ex X W b fb) {m : List Addr} {τ : Sl} {st : Store} {σ : L2.St} {H : Hp} (hL : SL X.K m H τ σ) (hS : SS X.kw m st H)
    (hP : Pe X.kw (fun c d H' => W c d σ H') RA m H ((fa τ st).bind fun x s1 => (fb τ s1).bind fun y s2 => g x y s2) Q) {R : V → V → Hp → Prop}
    (hk : ∀ (m2 : List Addr) (st2 : Store) (H2 : Hp) (dx dy : D) (x y : V), Ext X.K m H m2 H2 → SS X.kw m2 st2 H2 → RD X.K m2 H2 dx x → RD X.K m2 H2 dy y → Pe X.kw (fun c d H' => W c d σ H') RA m2 H2 (g dx dy st2) Q → R x y H2) :
    wE X a σ H fun x H1 => wE X b σ H1 fun y H2 => R x y H2 :=
  ha.run m τ st σ H _ hL hS (hP.bind fun dx s1 m1 H1 x e1 hS1 r1 hP1 => hb.run m1 τ s1 σ H1 _ (hL.mono e1) hS1 (hP1.bind fun dy s2 m2 H2 y e2 hS2 r2 hP2 => hk m2 s2 H2 dx dy x y (e1.trans e2) hS2 (r1.mono e2) r2 hP2))
theorem ex_op {op : Operator} {g : O2} (ho : OpM X W (binaryOp op) g) (ha : Ex X W a fa) (hb : Ex X W b fb) : Ex X W (.BinOp a op b pos) (eBin g fa fb) := by
  refine ⟨fun m τ st σ H Q hL hS hP pins s I => ?_⟩
  refine wpAny_BinOp (binT peW peW I (R := fun x y H2 => wR2 X (binaryOp op) σ x y H2 Q) (two ha hb hL hS hP fun m2 st2 H2 dx dy x y e2 hS2 r1 r2 hP2 pins s v u I rx ry => ho m2 st2 σ H2 dx dy x y Q hS2 r1 r2 hP2 pins s v u I rx ry) fun v u s2 x y H2 I2 rx ry q => q pins s2 v u I2 rx ry)
end
end HM

/-! HM, part P: new tuples as frozen ones, that have no dict of their own. -/
namespace HM
open PySem PySem.Spec PyProof.Rows L2
/-- a new tuple -/
abbrev TNew (Q : VK) (H : Hp) (xs : List V) : Prop := ∀ (p : Addr) (o : Obj), o.dict = none → H p = none → Q (.ref p) (upd H p (.frz o (.tup xs)))
section
variable {X : Cx} {es : List Expr} {e : Expr} {t : TA} {pos : Pos}
def tTupF (t : TA) : TE := fun σ H Q => t σ H fun xs H1 => xs.length ≤ sizeLine ∧ TNew Q H1 xs
theorem pe_tupF {x1} (h : PA X es t) : PE X (.Tuple es x1 pos) (tTupF t) := by
  refine ⟨fun pins s σ H Q I hq => ?_⟩
  refine wpAny_Tuple_spliced (thn (h.run pos pins s σ H _ I hq) fun us s1 ⟨xs, H1, I1, r, z, q⟩ => ⟨by rw [← r.length]; exact z, ?_⟩)
  have hf : H1 s1.heap.objs.size = none := I1.hok.fresh (Nat.le_refl _)
  refine ⟨.ref s1.heap.objs.size, upd H1 s1.heap.objs.size (.frz { cls := .type "tuple", data := .seq us.toArray } (.tup xs)), I1.laid (t' := s1.toks) (fun b u e => Heap.get?_push_of_some _ e) (Nat.le_refl _) ?_, rfl, q _ _ rfl hf⟩
  exact ⟨Heap.get?_push_size _ rfl, z, us, r, ⟨_, Heap.get?_push_size _ rfl, rfl, _, rfl⟩⟩
theorem call_tuple_ofF : CallR X (.type "tuple") (fun xs H Q => ∃ p ys, xs = [.ref p] ∧ ((SqL X.K H p ys ∧ TNew Q H ys) ∨ (SqT X.K H p ys ∧ Q (.ref p) H))) := by
  intro pins s σ H xs us Q I r h
  obtain ⟨p, ys, rfl, h⟩ := h
  obtain ⟨u, rfl, rx⟩ := vals1 r
  cases rx
  rcases h with ⟨hq, q⟩ | ⟨hq, q⟩
  · obtain ⟨its, r', pl, hz⟩ := I.list hq
    have hlen := r'.length
    refine call_tuple_list pl.isList (fun h' kp => ?_) (by simp only [List.size_toArray] <;> omega)
    have I1 : Inv X pins σ H { s with heap := h' } := I.kept (t' := s.toks) kp
    have I2 : Inv X pins σ (upd H h'.objs.size (.frz { cls := .type "tuple", data := .seq its.toArray } (.tup ys))) { s with heap := h'.push { cls := .type "tuple", data := .seq its.toArray } } :=
      I1.laid (t' := s.toks) (fun b o e => Heap.get?_push_of_some _ e) (Nat.le_refl _) ⟨Heap.get?_push_size _ rfl, (show ObjOk X.prog X.w _ _ _ (.tup ys) from ⟨hz, its, r', IsTup.new _ _⟩)⟩
    exact ⟨.ref h'.objs.size, _, I2, rfl, q _ _ rfl (I1.hok.fresh (Nat.le_refl _))⟩
  · obtain ⟨its, r', pl, hz⟩ := I.tuple hq
    exact call_tuple_same pl ⟨.ref p, H, I, rfl, q⟩
def rCatF (K : PySem.W.Frag) : R2 := fun x y H Q => ∃ a b xs ys, x = .ref a ∧ y = .ref b ∧ SqT K H a xs ∧ SqT K H b ys ∧ xs.length + ys.length ≤ sizeLine ∧
  (xs = [] → Q (.ref b) H) ∧ (xs ≠ [] → ys = [] → Q (.ref a) H) ∧ (xs ≠ [] → ys ≠ [] → TNew Q H (xs ++ ys))
theorem op_catF : OpR X (binaryOp .Add) (rCatF X.K) := by
  intro pins s σ H x y v u Q I rx ry h
  obtain ⟨a, b, xs, ys, rfl, rfl, ha, hb, hz, q0, q1, q2⟩ := h
  cases rx
  cases ry
  obtain ⟨its, r1, p1, _⟩ := I.tuple ha
  obtain ⟨its2, r2, p2, _⟩ := I.tuple hb
  by_cases hx : xs = []
  · subst hx
    cases r1
    exact cat_tup0 p1 p2 ⟨.ref b, H, I, rfl, q0 rfl⟩
  · refine HT.cat_tup p1 p2 (fun z => hx (r1.nil_iff.mp z)) (fun z => ⟨.ref a, H, I, rfl, q1 hx (r2.nil_iff.mp z)⟩) (fun z => ?_) (by rw [← r1.length, ← r2.length]; exact hz)
    refine ⟨.ref s.heap.objs.size, _, I.laid (t' := s.toks) (o := .frz { cls := .type "tuple", data := .seq (its ++ its2).toArray } (.tup (xs ++ ys))) (fun b ob q => Heap.get?_push_of_some _ q) (Nat.le_refl _) ⟨Heap.get?_push_size _ rfl, ?_⟩, rfl, q2 hx (fun w => z (r2.nil_iff.mpr w)) _ _ rfl (I.hok.fresh (Nat.le_refl _))⟩
    exact ⟨by rw [List.length_append]; exact hz, _, r1.append r2, IsTup.new _ _⟩
def rSlF (K : PySem.W.Frag) : V → Option Int → Option Int → Hp → VK → Prop := fun x lo hi H Q => ∃ a xs, x = .ref a ∧ SqT K H a xs ∧
  ¬ (HT.sIx xs.length 0 lo = 0 ∧ HT.sIx xs.length xs.length hi = xs.length) ∧ TNew Q H (cutV xs lo hi)
theorem sl_tupF : SlR X (rSlF X.K) := by
  intro pins s σ H x v vl vu lo hi sl Q I rx hs pl pu h
  obtain ⟨a, xs, rfl, hx, hw, q⟩ := h
  cases rx
  obtain ⟨its, r, ht, hz⟩ := I.tuple hx
  have hlen : its.toArray.size = xs.length := by rw [List.size_toArray]; exact r.length.symm
  refine ⟨"tuple", _, PyProof.Rows.slot_tuple_getitem.lookup, ht.typeIs, ?_⟩
  refine HT.getItem_tuple_cut ht hs pl pu (by rw [hlen]; exact hw) ?_ (by rw [hlen]; exact hz)
  rw [hlen]
  refine ⟨.ref s.heap.objs.size, _, I.laid (t' := s.toks) (o := .frz _ (.tup (cutV xs lo hi))) (fun b ob q => Heap.get?_push_of_some _ q) (Nat.le_refl _) ⟨Heap.get?_push_size _ rfl, ?_⟩, rfl, q _ _ ?_ (I.hok.fresh (Nat.le_refl _))⟩
  · exact ⟨Nat.le_trans (cutV_length xs lo hi) hz, _, (r.drop (HT.sIx xs.length 0 lo)).take (HT.sIx xs.length xs.length hi - HT.sIx xs.length 0 lo), IsTup.new _ _⟩
  · rfl
def tTupRgF (te : L2.St → Hp → (Int → Int → Hp → Prop) → Prop) : TE := fun σ H Q => te σ H fun a b H1 => RgOk a b ∧ TNew Q H1 (rgV a b)
theorem pe_tupRgF {p pos : Pos} {te : L2.St → Hp → (Int → Int → Hp → Prop) → Prop} (hc : X.calm = true) (hg : Gl X "tuple") (hm : X.mg "tuple" = none) (he : PRg X e te) (na : starEach [e] X.env = (false, eval e X.env) :: starEach [] X.env := by rfl) : PE X (.Call (.Name "tuple" p) [e] [] pos) (tTupRgF te) := by
  refine ⟨fun pins s σ H Q I h => ?_⟩
  refine Call_ (ld_blt I hg hm boot_tuple (PyProof.Rows.callWith_type1 (args_cons (thn (he pins s σ H _ I h) fun x s1 ⟨r, a, b, t, u, v, H1, ex, hr, I1, ok, q⟩ => args_nil ?_) na) na))
  subst ex
  obtain ⟨b1, b2, b3, b4, b5⟩ := ok
  refine call_tuple_range (n := (b - a).toNat) (I1.ok.hd hc) hr (small_one b1 b2 b3 b4) (rangeSize_nat a b) b5 fun h' tk acc hk hi => ?_
  have I2 : Inv X pins σ H1 { s1 with heap := h', toks := tk } := I1.kept hk
  refine ⟨.ref h'.objs.size, upd H1 h'.objs.size (.frz { cls := .type "tuple", data := .seq acc } (.tup (rgV a b))), I2.laid (t' := tk) (fun c o e => Heap.get?_push_of_some _ e) (Nat.le_refl _) ⟨Heap.get?_push_size _ rfl, (show ObjOk X.prog X.w _ _ _ (.tup (rgV a b)) from ⟨?_, acc.toList, vals_rg hi, ?_⟩)⟩, rfl, q _ _ rfl (I2.hok.fresh (Nat.le_refl _))⟩
  · rw [rgV_length, sizeLine_eq]; omega
  · rw [Array.toArray_toList]; exact IsTup.new _ _
def rRepF (K : PySem.W.Frag) : R2 := fun x y H Q => ∃ l k xs, x = .ref l ∧ y = .int k ∧ SqT K H l xs ∧ xs ≠ [] ∧ 2 ≤ k ∧ k ≤ 1000 ∧ xs.length ≤ 1000 ∧ TNew Q H (List.replicate k.toNat xs).flatten
theorem op_repF : OpR X (binaryOp .Mult) (rRepF X.K) := by
  intro pins s σ H x y v u Q I rx ry h
  obtain ⟨l, k, xs, rfl, rfl, hT, hne, h1, h2, hz, q⟩ := h
  cases rx
  obtain ⟨t, rfl⟩ := ry
  obtain ⟨its, r, ⟨⟨cls, dd, data, sl⟩, ho, hc, n, hd⟩, hs⟩ := I.tuple hT
  simp only at hc hd
  subst hc hd
  have hle : its.length = xs.length := r.length.symm
  have hn : its ≠ [] := fun e => hne (by
    rw [e] at hle
    exact List.eq_nil_of_length_eq_zero hle.symm)
  have hi : its.toArray.isEmpty = false := by
    cases its with
    | nil => exact absurd rfl hn
    | cons a b => rfl
  have hsz0 : its.toArray.size = xs.length := by rw [List.size_toArray, hle]
  have hm : ((its.toArray.size : Nat) : Int) * k ≤ 1000000 := by
    rw [hsz0]
    have a1 : ((xs.length : Nat) : Int) * k ≤ 1000 * k := Int.mul_le_mul_of_nonneg_right (by omega) (by omega)
    omega
  have flen : (List.replicate k.toNat its).flatten.length ≤ sizeLine := by
    rw [PyProof.Rows.lm_len_rep_flat, hle, sizeLine_eq]
    have a1 : k.toNat * xs.length ≤ 1000 * 1000 := Nat.mul_le_mul (by omega) hz
    omega
  have c0 : (decide (k < -(2 ^ 63)) || decide (k ≥ 2 ^ 63)) = false := by
    rw [decide_eq_false (by omega), decide_eq_false (by omega)] <;> rfl
  have c1 : (its.toArray.isEmpty || k == 1) = false := by
    rw [hi, Bool.false_or]
    exact beq_eq_false_iff_ne.mpr (by omega)
  have c2 : (decide (k ≤ 0) || its.toArray.isEmpty) = false := by
    rw [hi, Bool.or_false]
    exact decide_eq_false (by omega)
  have c4 : Builtin.Tuple.tupleTooMany (((its.toArray.size : Nat) : Int) * k) = false := by
    unfold Builtin.Tuple.tupleTooMany
    rw [sizeLine_eq]
    exact decide_eq_false (by omega)
  refine wpAny_binaryOp_repeat_ref (T := "tuple") (U := "int") (by decide) ⟨_, ho, rfl⟩ (fun s' => typeIs_int s' k t) noFill_tuple_mul F.fills_int_mul F.slot_int_rmul repeat_tuple F.slot_int_index.lookup
    (call_meets F.slot_int_rmul (typeIs_int s k t) F.entry_int_rmul (F.args_int_rmul_2 _ _) (int_rmul_tuple k t l its.toArray n dd sl)
      ⟨ho, rfl, ⟨_, ho, rfl⟩, call_meets F.slot_tuple_mul ⟨_, ho, rfl⟩ F.entry_tuple_mul (F.args_tuple_mul_2 _ _) (tuple_mulW l its.toArray n dd sl k t c0 c1 c2 (by omega) c4 (by rw [size_rep, List.size_toArray]; exact flen)) ⟨ho, ?_⟩⟩)
  rw [size_rep]
  refine ⟨.ref s.heap.objs.size, _, I.laid (t' := s.toks) (o := .frz _ (.tup (List.replicate k.toNat xs).flatten)) (fun b ob q => Heap.get?_push_of_some _ q) (Nat.le_refl _) ⟨Heap.get?_push_size _ rfl, ?_⟩, rfl, q _ _ ?_ (I.hok.fresh (Nat.le_refl _))⟩
  · exact ⟨by rw [PyProof.Rows.lm_len_rep_flat, sizeLine_eq]; have a1 : k.toNat * xs.length ≤ 1000 * 1000 := Nat.mul_le_mul (by omega) hz; omega, _, r.rep k.toNat, IsTup.new _ _⟩
  · rfl
end
/-! ### methods of frozen tuples -/
/-- the value is of that builtin type -/
def tyP (K : PySem.W.Frag) (T : String) (x : V) (H : Hp) : Prop := tyV K T x H ∨ (T = "tuple" ∧ ∃ (p : Addr) (o : Obj) (vs : List V), x = .ref p ∧ H p = some (.frz o (.tup vs)) ∧ o.dict = none)
section
variable {X : Cx} {pins : List (Addr × Obj)} {σ : L2.St} {H : Hp} {s : Shared}
theorem tyP_is {T : String} {x : V} {v : Value} (I : Inv X pins σ H s) (r : RelV x v) (ty : tyP X.K T x H) : s.TypeIs v T ∧ ∀ a, v = .ref a → ∃ ob, s.heap.get? a = some ob ∧ ob.dict = none := by
  rcases ty with ty | ⟨rfl, p, o, vs, rfl, hp, hd⟩
  · exact tyV_is I r ty
  · cases r
    obtain ⟨e, z, its, rv, ob, e2, hc, n, hdd⟩ := I.hok p _ hp
    rw [e] at e2
    cases e2
    exact ⟨⟨o, e, hc⟩, fun a ea => by cases ea; exact ⟨o, e, hd⟩⟩
end
section
variable {X : Cx} {o e : Expr} {es : List Expr} {to : TE} {t : TA} {name : Str} {apos cpos : Pos} {T id : String} {r : V → List V → Hp → VK → Prop}
def tBM0P (K : PySem.W.Frag) (T : String) (r : V → List V → Hp → VK → Prop) (to : TE) : TE := fun σ H Q => to σ H fun x H1 => tyP K T x H1 ∧ r x [] H1 Q
def tBMP (K : PySem.W.Frag) (T : String) (r : V → List V → Hp → VK → Prop) (to : TE) (t : TA) : TE := fun σ H Q => to σ H fun x H1 => tyP K T x H1 ∧ t σ H1 fun xs H2 => r x xs H2 Q
theorem pe_bm0P (pa : PlainAttrs T) (slot : Slot T name id) (hty : typeOf (.builtin id) = pure (.type "method_descriptor")) (hm : MtR X id r) (ho : PE X o to)
    (hbase : attributeBase o name X.env (eval o X.env) = eval o X.env := by rfl) (hline : (apos.endLine == cpos.line) = true := by rfl) : PE X (.Call (.Attribute o name apos) [] [] cpos) (tBM0P X.K T r to) := by
  refine ⟨fun pins s σ H Q I h => ?_⟩
  refine wpAny_Call_method0_late hbase hline (thn (ho.run pins s σ H _ I h) fun v s1 ⟨x, H1, I1, r1, ty, q1⟩ => ?_)
  obtain ⟨h1, h2⟩ := tyP_is I1 r1 ty
  exact ⟨T, id, pa, slot, hty, h1, h2, Calls.callWith_builtin rfl (PySem.evalArgs_none (hm pins s1 σ H1 x [] v [] Q I1 r1 .nil q1))⟩
theorem pe_bmP (pa : PlainAttrs T) (slot : Slot T name id) (hty : typeOf (.builtin id) = pure (.type "method_descriptor")) (hm : MtR X id r) (ho : PE X o to) (ha : PA X (e :: es) t)
    (hbase : attributeBase o name X.env (eval o X.env) = eval o X.env := by rfl)
    (hfew : ((backTo cpos (starEach (e :: es) X.env)).all (fun x => !x.1) && (backToKw cpos (keywordEach [] X.env)).all (fun x => x.1.isSome)
      && decide ((e :: es).length + ([] : List Keyword).length + (if ([] : List Keyword).isEmpty then 0 else 1) < 30)) = true := by rfl)
    (hline : (apos.endLine == cpos.line) = true := by rfl) (hs : starEach (e :: es) X.env = (false, eval e X.env) :: starEach es X.env := by rfl) (hplain : (backTo cpos (starEach es X.env)).any (·.1) = false := by rfl) :
    PE X (.Call (.Attribute o name apos) (e :: es) [] cpos) (tBMP X.K T r to t) := by
  refine ⟨fun pins s σ H Q I h => ?_⟩
  refine wpAny_Call_method_late hbase hfew hline rfl (thn (ho.run pins s σ H _ I h) fun v s1 ⟨x, H1, I1, r1, ty, q1⟩ => ?_)
  obtain ⟨h1, h2⟩ := tyP_is I1 r1 ty
  refine ⟨T, id, pa, slot, hty, h1, h2, ?_⟩
  have hA := ha.run cpos pins s1 σ H1 _ I1 q1
  rw [hs] at hA ⊢
  refine Calls.callWith_builtin (by show (false || (backTo cpos (starEach es X.env)).any (·.1)) = false; rw [hplain] <;> rfl) (Calls.evalArgs_plain ?_)
  exact thn hA fun us s2 ⟨vs, H2, I2, r2, q2⟩ => hm pins s2 σ H2 x vs v us Q I2 r1 r2 q2
end
end HM

/-! HM, part 3: operators by values. -/
namespace HM
open PySem PySem.Spec PyProof.Rows L2
section
variable {X : Cx} {W : WX}
theorem opm_of {f : Value → Value → Sem Value} {r : R2} {g : O2} (hr : OpR X f r) (h : ∀ (m : List Addr) (st : Store) (H : Hp) (dx dy : D) (x y : V) (E : XK) (Q : VK), SS X.kw m st H → RD X.K m H dx x → RD X.K m H dy y → Pe X.kw E (RD X.K) m H (g dx dy st) Q → r x y H Q) : OpM X W f g :=
  fun m st σ H dx dy x y Q hS r1 r2 hP pins s v u I rx ry => hr pins s σ H x y v u Q I rx ry (h m st H dx dy x y _ Q hS r1 r2 hP)
end
section
variable {K : KW} {E : XK} {m : List Addr} {st : Store} {H : Hp} {Q : VK}
/-- a new tuple -/
theorem Pe.tup {ds : List D} {vs : List V} (h : Pe K E (RD K) m H (.ok (.tup ds) st) Q) (s : SS K m st H) (r : RDs K m H ds vs) : TNew Q H vs := fun p o ho hp =>
  h m _ _ (Ext.fresh hp) (s.fresh hp) (.tup (PlT.of ho) (r.mono (Ext.fresh hp)))
/-- a new list of the store's -/
theorem SS.app {c : Cell} {p : Addr} {o : HO} (s : SS K m st H) (hp : H p = none) (r : RC K (m ++ [p]) (upd H p o) p c) : SS K (m ++ [p]) (st ++ [c]) (upd H p o) :=
  (s.fresh hp).grow (s.notin hp) r
theorem Pe.lst {ds : List D} {vs : List V} (h : Pe K E (RD K) m H (.ok (.ref st.length) (st ++ [.lst ds])) Q) (s : SS K m st H) (r : RDs K m H ds vs) : ∀ p, H p = none → Q (.ref p) (upd H p (.lst vs)) := fun p hp => by
  refine h (m ++ [p]) _ _ (Ext.app hp) (s.app hp ⟨vs, upd_same, r.mono (Ext.app hp)⟩) (.ref ?_)
  rw [← s.len]
  simp
end
/-- the items of a list -/
def lstAt (st : Store) (n : Nat) : Option (List D) := match st[n]? with
  | some (.lst xs) => some xs
  | _ => none
@[simp] theorem lstAt_app {st : Store} {xs : List D} : lstAt (st ++ [.lst xs]) st.length = some xs := by simp [lstAt]
theorem lstAt_left {st more : Store} {n : Nat} (h : n < st.length) : lstAt (st ++ more) n = lstAt st n := by
  unfold lstAt
  rw [List.getElem?_append_left h]
theorem SS.list {K : KW} {m : List Addr} {st : Store} {H : Hp} {n : Nat} {xs : List D} {a : Addr} (s : SS K m st H) (h : lstAt st n = some xs) (e : m[n]? = some a) : ∃ vs, H a = some (.lst vs) ∧ RDs K m H xs vs := by
  unfold lstAt at h
  split at h
  · rename_i ys q
    cases h
    exact s.cel n _ a q e
  · cases h
theorem lstAt_lt {st : Store} {n : Nat} {xs : List D} (h : lstAt st n = some xs) : n < st.length := by
  unfold lstAt at h
  split at h
  · rename_i q
    exact (List.getElem?_eq_some_iff.mp q).1
  · cases h

/-! ### arithmetic -/
def oAdd : O2 := fun x y st => match x, y with
  | .int i, .int j => .ok (.int (i + j)) st
  | .str a, .str b => if a.length + b.length ≤ 16777216 then .ok (.str (a ++ b)) st else .bad
  | .tup a, .tup b => if a.length + b.length ≤ 16777216 then .ok (.tup (a ++ b)) st else .bad
  | .ref a, .ref b => match lstAt st a, lstAt st b with
    | some xs, some ys => if xs.length + ys.length ≤ 16777216 then .ok (.ref st.length) (st ++ [.lst (xs ++ ys)]) else .bad
    | _, _ => .bad
  | _, _ => .bad
def oInt (g : Int → Int → Int) : O2 := fun x y st => match x, y with
  | .int i, .int j => .ok (.int (g i j)) st
  | _, _ => .bad
def oIntC (C : Int → Int → Bool) (g : Int → Int → Int) : O2 := fun x y st => match x, y with
  | .int i, .int j => if C i j then .ok (.int (g i j)) st else .bad
  | _, _ => .bad
abbrev oSub : O2 := oInt fun i j => i - j
def oIAdd : O2 := fun x y st => match x, y with
  | .int i, .int j => .ok (.int (i + j)) st
  | .str a, .str b => if a.length + b.length ≤ 16777216 then .ok (.str (a ++ b)) st else .bad
  | _, _ => .bad
def okMul (i j : Int) : Bool := decide ((i.natAbs < 18446744073709551616 ∨ j.natAbs < 18446744073709551616) ∨ i.natAbs.log2 + j.natAbs.log2 < 1000000)
def okDiv (_ j : Int) : Bool := decide (j ≠ 0 ∧ j.natAbs.log2 < 9000)
def okMod (_ j : Int) : Bool := decide (j ≠ 0)
def okPow (i j : Int) : Bool := decide (0 ≤ j ∧ j ≤ 1000000 ∧ i.natAbs < 18446744073709551616)
def okShr (_ j : Int) : Bool := decide (0 ≤ j)
abbrev oMulI : O2 := oIntC okMul fun i j => i * j
abbrev oDiv : O2 := oIntC okDiv fun i j => i.fdiv j
abbrev oMod : O2 := oIntC okMod fun i j => i.fmod j
abbrev oPow : O2 := oIntC okPow fun i j => i ^ j.toNat
abbrev oShl : O2 := oIntC okPow fun i j => i * 2 ^ j.toNat
abbrev oShr : O2 := oIntC okShr fun i j => i / 2 ^ j.toNat
abbrev oAnd : O2 := oInt Builtin.bitAnd
section
variable {X : Cx} {W : WX}
theorem line_of {n : Nat} (h : n ≤ 16777216) : n ≤ sizeLine := by
  rw [PySem.sizeLine_eq]
  exact h
theorem op_add_all : OpR X (binaryOp .Add) (fun x y H Q => (rI0 (fun i j => .int (i + j)) x y H Q ∨ (∃ i j, x = .str i ∧ y = .str j ∧ i.length + j.length ≤ sizeLine ∧ Q (.str (i ++ j)) H)) ∨ (rCatF X.K x y H Q ∨ rCat x y H Q)) :=
  (op_add.or op_add_str).or (op_catF.or op_cat)
theorem m_add : OpM X W (binaryOp .Add) oAdd := opm_of op_add_all fun m st H dx dy x y E Q hS r1 r2 hP => by
  unfold oAdd at hP
  split at hP
  · cases r1
    cases r2
    exact .inl (.inl ⟨_, _, rfl, rfl, hP.now hS (.int _)⟩)
  · split at hP
    · rename_i hl
      cases r1
      cases r2
      refine .inl (.inr ⟨_, _, rfl, rfl, line_of hl, ?_⟩)
      have q := hP.now hS (.str _)
      have e : ∀ a b : List Nat, (⟨(a ++ b).toArray⟩ : PySem.Str) = (⟨a.toArray⟩ : PySem.Str) ++ (⟨b.toArray⟩ : PySem.Str) := fun a b => by
        show (⟨(a ++ b).toArray⟩ : PySem.Str) = ⟨a.toArray ++ b.toArray⟩
        simp
      rw [e] at q
      exact q
    · exact hP.elim
  · split at hP
    · rename_i a b hl
      cases r1 with
      | tup s1 h1 =>
        rename_i va
        cases r2 with
        | tup s2 h2 =>
          rename_i vb
          refine .inr (.inl ⟨_, _, _, _, rfl, rfl, s1.sq, s2.sq, line_of (by rw [← h1.len, ← h2.len]; exact hl), fun e => ?_, fun _ e => ?_, fun _ _ => ?_⟩)
          · subst e
            cases h1
            exact hP.now hS (.tup s2 h2)
          · subst e
            cases h2
            rw [List.append_nil] at hP
            exact hP.now hS (.tup s1 h1)
          · exact hP.tup hS (h1.append h2)
    · exact hP.elim
  · rename_i a b
    split at hP
    · rename_i xs ys ex ey
      split at hP
      · rename_i hl
        cases r1 with
        | ref e1 =>
          cases r2 with
          | ref e2 =>
            obtain ⟨va, ha, ra⟩ := hS.list ex e1
            obtain ⟨vb, hb, rb⟩ := hS.list ey e2
            exact .inr (.inr ⟨_, _, va, vb, rfl, rfl, ha, hb, line_of (by rw [← ra.len, ← rb.len]; exact hl), hP.lst hS (ra.append rb)⟩)
      · exact hP.elim
    · exact hP.elim
  · exact hP.elim
theorem m_int {f : Value → Value → Sem Value} {g : Int → Int → Int} (h : OpR X f (rI0 fun i j => .int (g i j))) : OpM X W f (oInt g) := opm_of h fun m st H dx dy x y E Q hS r1 r2 hP => by
  unfold oInt at hP
  split at hP
  · cases r1
    cases r2
    exact ⟨_, _, rfl, rfl, hP.now hS (.int _)⟩
  · exact hP.elim
theorem m_intC {f : Value → Value → Sem Value} {C : Int → Int → Bool} {C' : Int → Int → Prop} {g : Int → Int → Int} (h : OpR X f (rI C' fun i j => .int (g i j))) (hC : ∀ i j, C i j = true → C' i j) : OpM X W f (oIntC C g) := opm_of h fun m st H dx dy x y E Q hS r1 r2 hP => by
  unfold oIntC at hP
  split at hP
  · split at hP
    · rename_i hc
      cases r1
      cases r2
      exact ⟨_, _, rfl, rfl, hC _ _ hc, hP.now hS (.int _)⟩
    · exact hP.elim
  · exact hP.elim
theorem m_sub : OpM X W (binaryOp .Sub) oSub := m_int op_sub
theorem op_mulAny : OpR X (binaryOp .Mult) (rI IntMulOk fun i j => .int (i * j)) := opI fun _ _ _ _ _ _ _ hc q => mul_int q hc
theorem m_mulI : OpM X W (binaryOp .Mult) oMulI := m_intC op_mulAny fun i j h => by
  have q : (i.natAbs < 18446744073709551616 ∨ j.natAbs < 18446744073709551616) ∨ i.natAbs.log2 + j.natAbs.log2 < 1000000 := of_decide_eq_true h
  rcases q with (q | q) | q
  · exact CMul.ok (.inl (by omega))
  · exact CMul.ok (.inr (by omega))
  · exact CMulW.ok q
theorem op_fdivAny : OpR X (binaryOp .FloorDiv) (rI (fun _ j => j ≠ 0 ∧ j.natAbs.log2 < 9000) fun i j => .int (i.fdiv j)) := opI fun _ _ _ _ _ _ _ hc q => floordiv_int hc.1 q (.inl (PyProof.noPylong_of_log2 hc.2))
theorem m_div : OpM X W (binaryOp .FloorDiv) oDiv := m_intC op_fdivAny fun i j h => of_decide_eq_true h
theorem m_mod : OpM X W (binaryOp .Mod) oMod := m_intC op_modN fun i j h => of_decide_eq_true h
theorem ok_pow {i j : Int} (h : okPow i j = true) : CPow i j := by
  have q : 0 ≤ j ∧ j ≤ 1000000 ∧ i.natAbs < 18446744073709551616 := of_decide_eq_true h
  exact q
theorem m_pow : OpM X W (binaryOp .Pow) oPow := m_intC op_pow fun i j h => ok_pow h
theorem m_shl : OpM X W (binaryOp .LShift) oShl := m_intC op_shl fun i j h => ok_pow h
theorem m_shr : OpM X W (binaryOp .RShift) oShr := m_intC op_shr fun i j h => of_decide_eq_true h
theorem m_and : OpM X W (binaryOp .BitAnd) oAnd := m_int op_and
/-- in place -/
theorem mi_add : OpM X W (inplaceOp .Add) oIAdd := opm_of (iop_add.or iop_add_str) fun m st H dx dy x y E Q hS r1 r2 hP => by
  unfold oIAdd at hP
  split at hP
  · cases r1
    cases r2
    exact .inl ⟨_, _, rfl, rfl, hP.now hS (.int _)⟩
  · split at hP
    · rename_i hl
      cases r1
      cases r2
      refine .inr ⟨_, _, rfl, rfl, line_of hl, ?_⟩
      have q := hP.now hS (.str _)
      have e : ∀ a b : List Nat, (⟨(a ++ b).toArray⟩ : PySem.Str) = (⟨a.toArray⟩ : PySem.Str) ++ (⟨b.toArray⟩ : PySem.Str) := fun a b => by
        show (⟨(a ++ b).toArray⟩ : PySem.Str) = ⟨a.toArray ++ b.toArray⟩
        simp
      rw [e] at q
      exact q
    · exact hP.elim
  · exact hP.elim
theorem mi_sub : OpM X W (inplaceOp .Sub) oSub := m_int iop_sub
end

/-! ### == by what is data -/
def D.toP : Nat → D → PyData
  | _, .int i => .int i
  | _, .str x => .str ⟨x.toArray⟩
  | n + 1, .tup xs => .tuple (xs.map (D.toP n))
  | _, .bl b => .bool b
  | _, _ => .none
theorem plain_all {K : PySem.W.Frag} {m : List Addr} {H : Hp} {n : Nat} (ih : ∀ (d : D) (v : V), d.plain n = true → RD K m H d v → Dp K H v (d.toP n) ∧ (d.toP n).canLay0 = true ∧ (d.toP n).depth ≤ n) : ∀ (ds : List D) (vs : List V), ds.all (D.plain n) = true → RDs K m H ds vs →
    DpAll K H vs (ds.map (D.toP n)) ∧ PyData.canLayAll0 (ds.map (D.toP n)) = true ∧ PyData.depthAll (ds.map (D.toP n)) ≤ n
  | [], _, _, r => by
    cases r
    exact ⟨.nil, by simp [PyData.canLayAll0], by simp [PyData.depthAll]⟩
  | d :: ds, _, h, r => by
    cases r with
    | cons r1 r2 =>
      rw [List.all_cons, Bool.and_eq_true] at h
      obtain ⟨a1, a2, a3⟩ := ih d _ h.1 r1
      obtain ⟨b1, b2, b3⟩ := plain_all ih ds _ h.2 r2
      refine ⟨.cons a1 b1, ?_, ?_⟩
      · simp only [List.map_cons, PyData.canLayAll0, a2, b2, Bool.and_self]
      · simp only [List.map_cons, PyData.depthAll]
        omega
theorem str_ok {x : List Nat} {n : Nat} (h : (x.all fun c => decide (c < 1114112)) = true) : ((D.str x).toP n).canLay0 = true := by
  have e : (D.str x).toP n = .str ⟨x.toArray⟩ := by cases n <;> rfl
  rw [e]
  simp only [PyData.canLay0, PyData.strOk]
  simpa using h
theorem plain_dp {K : PySem.W.Frag} {m : List Addr} {H : Hp} : ∀ (n : Nat) (d : D) (v : V), d.plain n = true → RD K m H d v → Dp K H v (d.toP n) ∧ (d.toP n).canLay0 = true ∧ (d.toP n).depth ≤ n := by
  intro n
  induction n with
  | zero =>
    intro d v h r
    cases r <;> simp [D.plain] at h
    · exact ⟨.non, by simp [D.toP, PyData.canLay0], by simp [D.toP, PyData.depth]⟩
    · exact ⟨.int _, by simp [D.toP, PyData.canLay0], by simp [D.toP, PyData.depth]⟩
    · exact ⟨.str _, str_ok (by simpa using h), by simp [D.toP, PyData.depth]⟩
  | succ n ih =>
    intro d v h r
    cases r with
    | non => exact ⟨.non, by simp [D.toP, PyData.canLay0], by simp [D.toP, PyData.depth]⟩
    | int i => exact ⟨.int _, by simp [D.toP, PyData.canLay0], by simp [D.toP, PyData.depth]⟩
    | str x => exact ⟨.str _, str_ok h, by simp [D.toP, PyData.depth]⟩
    | tup s rs =>
      rename_i a vs ds
      obtain ⟨b1, b2, b3⟩ := plain_all ih ds vs h rs
      refine ⟨.tup s.sq b1, by simpa only [D.toP, PyData.canLay0] using b2, ?_⟩
      simp only [D.toP, PyData.depth]
      omega
    | _ => simp [D.plain] at h
theorem eqvAll_map {n : Nat} (ih : ∀ x y : D, x.plain n = true → y.plain n = true → PyData.eqv (x.toP n) (y.toP n) = decide (x = y)) : ∀ xs ys : List D, xs.all (D.plain n) = true → ys.all (D.plain n) = true → PyData.eqvAll (xs.map (D.toP n)) (ys.map (D.toP n)) = decide (xs = ys)
  | [], [], _, _ => by simp [PyData.eqvAll]
  | [], _ :: _, _, _ => by simp [PyData.eqvAll]
  | _ :: _, [], _, _ => by simp [PyData.eqvAll]
  | x :: xs, y :: ys, h1, h2 => by
    rw [List.all_cons, Bool.and_eq_true] at h1 h2
    simp only [List.map_cons, PyData.eqvAll, ih x y h1.1 h2.1, eqvAll_map ih xs ys h1.2 h2.2, List.cons.injEq, Bool.decide_and]
theorem eqv_plain : ∀ (n : Nat) (x y : D), x.plain n = true → y.plain n = true → PyData.eqv (x.toP n) (y.toP n) = decide (x = y) := by
  intro n
  induction n with
  | zero =>
    intro x y h1 h2
    cases x <;> simp [D.plain] at h1 <;> cases y <;> simp [D.plain] at h2 <;> simp [D.toP, PyData.eqv]
    all_goals first | rfl | (rw [Bool.eq_iff_iff]; simp)
  | succ n ih =>
    intro x y h1 h2
    cases x <;> simp only [D.plain, Bool.false_eq_true] at h1 <;> cases y <;> simp only [D.plain, Bool.false_eq_true] at h2 <;> first
      | (simp only [D.toP, PyData.eqv, D.tup.injEq]; exact eqvAll_map ih _ _ h1 h2)
      | (simp only [D.toP, PyData.eqv]; first | rfl | (rw [Bool.eq_iff_iff]; simp))
/-- a value as data that == compares: one by itself, or a list -/
def D.pd (st : Store) (d : D) : Option (D ⊕ List D) := match d with
  | .ref n => match lstAt st n with
    | some xs => if xs.all (D.plain 59) then some (.inr xs) else none
    | none => none
  | .rol xs => if xs.all (D.plain 59) then some (.inr xs) else none
  | d => if d.plain 60 then some (.inl d) else none
def pdP : D ⊕ List D → PyData
  | .inl d => d.toP 60
  | .inr xs => .list (xs.map (D.toP 59))
theorem pd_dp {K : KW} {m : List Addr} {st : Store} {H : Hp} {d : D} {v : V} {p : D ⊕ List D} (s : SS K m st H) (h : d.pd st = some p) (r : RD K m H d v) : Dp K H v (pdP p) ∧ SeqAt.shaped (pdP p) = true := by
  have fin : ∀ {q : PyData}, q.canLay0 = true → q.depth ≤ 60 → SeqAt.shaped q = true := fun {q} h1 h2 => by
    unfold SeqAt.shaped
    rw [h1, Bool.true_and, decide_eq_true_eq]
    omega
  have one : ∀ {d : D}, RD K m H d v → d.plain 60 = true → Dp K H v (d.toP 60) ∧ SeqAt.shaped (d.toP 60) = true := fun {d} r h => by
    obtain ⟨a, b, c⟩ := plain_dp 60 d v h r
    exact ⟨a, fin b c⟩
  have lst : ∀ {xs : List D} {vs : List V} {a : Addr}, SqL K H a vs → RDs K m H xs vs → xs.all (D.plain 59) = true → Dp K H (.ref a) (.list (xs.map (D.toP 59))) ∧ SeqAt.shaped (.list (xs.map (D.toP 59))) = true := fun {xs vs a} hl rs h => by
    obtain ⟨a, b, c⟩ := plain_all (plain_dp 59) xs vs h rs
    refine ⟨.lst hl a, fin (by simpa only [PyData.canLay0] using b) ?_⟩
    simp only [PyData.depth]
    omega
  unfold D.pd at h
  split at h
  · split at h
    · split at h
      · rename_i n _ xs e ha
        cases h
        cases r with
        | ref q =>
          obtain ⟨vs, h1, h2⟩ := s.list e q
          exact lst (SqL.of h1) h2 ha
      · cases h
    · cases h
  · split at h
    · rename_i ha
      cases h
      cases r with
      | rol q rs => exact lst q.sq rs ha
    · cases h
  · split at h
    · rename_i ha
      cases h
      exact one r ha
    · cases h
theorem pd_ok {st : Store} {d : D} {p : D ⊕ List D} (h : d.pd st = some p) : (∃ e : D, p = .inl e ∧ e.plain 60 = true) ∨ ∃ xs : List D, p = .inr xs ∧ xs.all (D.plain 59) = true := by
  unfold D.pd at h
  split at h
  · split at h
    · split at h
      · cases h
        exact .inr ⟨_, rfl, by assumption⟩
      · cases h
    · cases h
  · split at h
    · cases h
      exact .inr ⟨_, rfl, by assumption⟩
    · cases h
  · split at h
    · cases h
      exact .inl ⟨_, rfl, by assumption⟩
    · cases h
theorem pd_eqv {st st' : Store} {d e : D} {p q : D ⊕ List D} (h : d.pd st = some p) (h' : e.pd st' = some q) : PyData.eqv (pdP p) (pdP q) = decide (p = q) := by
  rcases pd_ok h with ⟨x, rfl, hx⟩ | ⟨xs, rfl, hx⟩
  · rcases pd_ok h' with ⟨y, rfl, hy⟩ | ⟨ys, rfl, hy⟩
    · show PyData.eqv (x.toP 60) (y.toP 60) = _
      rw [eqv_plain 60 x y hx hy]
      simp
    · show PyData.eqv (x.toP 60) _ = _
      cases x <;> simp [D.plain] at hx <;> simp [D.toP, pdP, PyData.eqv]
  · rcases pd_ok h' with ⟨y, rfl, hy⟩ | ⟨ys, rfl, hy⟩
    · show PyData.eqv _ (y.toP 60) = _
      cases y <;> simp [D.plain] at hy <;> simp [D.toP, pdP, PyData.eqv]
    · show PyData.eqvAll (xs.map (D.toP 59)) (ys.map (D.toP 59)) = _
      rw [eqvAll_map (eqv_plain 59) xs ys hx hy]
      simp
def dEq (x y : D) (st : Store) : Option Bool := match x, y with
  | .str a, .str b => some (decide (a = b))
  | .bl a, .bl b => some (decide (a = b))
  | .int a, .int b => some (decide (a = b))
  | .bl a, .int b => some (decide ((if a then 1 else 0) = b))
  | .int a, .bl b => some (decide (a = (if b then 1 else 0)))
  | x, y => match x.pd st, y.pd st with
    | some p, some q => some (decide (p = q))
    | _, _ => none
def oEq : O2 := fun x y st => match dEq x y st with
  | some b => .ok (.bl b) st
  | none => .bad
def oNe : O2 := fun x y st => match dEq x y st with
  | some b => .ok (.bl !b) st
  | none => .bad
section
variable {X : Cx} {W : WX}
theorem m_eqB {op : CmpOp} {neg : Bool → Bool} {r1 r2 : R2} (h1 : OpR X (compareOp op) r1) (h2 : OpR X (compareOp op) r2) (s1 : ∀ x y H Q, scal x y = true → Q (.bl (neg (decide (x = y)))) H → r1 x y H Q)
    (s2 : ∀ x y H Q d e, Dp X.K H x d → Dp X.K H y e → SeqAt.shaped d = true → SeqAt.shaped e = true → Q (.bl (neg (PyData.eqv d e))) H → r2 x y H Q) : OpM X W (compareOp op) (fun x y st => match dEq x y st with
    | some b => .ok (.bl (neg b)) st
    | none => .bad) := opm_of (h1.or h2) fun m st H dx dy x y E Q hS ra rb hP => by
  split at hP
  · rename_i b hb
    have q := hP.now hS (.bl _)
    unfold dEq at hb
    split at hb
    · cases ra
      cases rb
      cases hb
      refine .inl (s1 _ _ _ _ rfl ?_)
      simpa using q
    · cases ra
      cases rb
      cases hb
      refine .inl (s1 _ _ _ _ rfl ?_)
      simpa using q
    · cases ra
      cases rb
      cases hb
      refine .inl (s1 _ _ _ _ rfl ?_)
      simpa using q
    · cases ra
      cases rb
      cases hb
      refine .inr (s2 _ _ _ _ _ _ (.bl _) (.int _) rfl rfl ?_)
      simpa [PyData.eqv, Bool.beq_eq_decide_eq] using q
    · cases ra
      cases rb
      cases hb
      refine .inr (s2 _ _ _ _ _ _ (.int _) (.bl _) rfl rfl ?_)
      simpa [PyData.eqv, Bool.beq_eq_decide_eq] using q
    · split at hb
      · rename_i p q' e1 e2
        cases hb
        obtain ⟨a1, a2⟩ := pd_dp hS e1 ra
        obtain ⟨b1, b2⟩ := pd_dp hS e2 rb
        refine .inr (s2 _ _ _ _ _ _ a1 b1 a2 b2 ?_)
        rw [pd_eqv e1 e2]
        exact q
      · cases hb
  · exact hP.elim
theorem m_eq (hu : X.A.units + 64 < cLine) : OpM X W (compareOp .Eq) oEq := m_eqB (neg := id) op_eq (op_eqD hu) (fun x y H Q h q => ⟨h, q⟩) fun x y H Q d e h1 h2 h3 h4 q => ⟨d, e, h1, h2, h3, h4, q⟩
theorem m_ne (hu : X.A.units + 64 < cLine) : OpM X W (compareOp .NotEq) oNe := m_eqB (neg := Bool.not) op_ne (op_neD hu) (fun x y H Q h q => ⟨h, q⟩) fun x y H Q d e h1 h2 h3 h4 q => ⟨d, e, h1, h2, h3, h4, q⟩
/-! ### order of ints, is -/
def oCmp (g : Int → Int → Bool) : O2 := fun x y st => match x, y with
  | .int i, .int j => .ok (.bl (g i j)) st
  | _, _ => .bad
theorem m_cmp {f : Value → Value → Sem Value} {g : Int → Int → Bool} (h : OpR X f (rI0 fun i j => .bl (g i j))) : OpM X W f (oCmp g) := opm_of h fun m st H dx dy x y E Q hS r1 r2 hP => by
  unfold oCmp at hP
  split at hP
  · cases r1
    cases r2
    exact ⟨_, _, rfl, rfl, hP.now hS (.bl _)⟩
  · exact hP.elim
abbrev oLtI : O2 := oCmp fun i j => decide (i < j)
abbrev oLe : O2 := oCmp fun i j => decide (i ≤ j)
abbrev oGt : O2 := oCmp fun i j => decide (j < i)
abbrev oGe : O2 := oCmp fun i j => decide (j ≤ i)
theorem m_ltI : OpM X W (compareOp .Lt) oLtI := m_cmp op_lt
theorem m_le : OpM X W (compareOp .LtE) oLe := m_cmp op_le
theorem m_gt : OpM X W (compareOp .Gt) oGt := m_cmp op_gt
theorem m_ge : OpM X W (compareOp .GtE) oGe := m_cmp op_ge
def dIs (x y : D) : Option Bool := match x, y with
  | .non, .non => some true
  | .bl _, .non | .int _, .non | .str _, .non | .tup _, .non | .ref _, .non | .rol _, .non => some false
  | .bl a, .bl b => some (decide (a = b))
  | _, _ => none
def oIs : O2 := fun x y st => match dIs x y with
  | some b => .ok (.bl b) st
  | none => .bad
def oIsNot : O2 := fun x y st => match dIs x y with
  | some b => .ok (.bl !b) st
  | none => .bad
theorem m_isB {op : CmpOp} {neg : Bool → Bool} {r1 r2 : R2} (h1 : OpR X (compareOp op) r1) (h2 : OpR X (compareOp op) r2) (s1 : ∀ x H (Q : VK), Q (.bl (neg (decide (x = .non)))) H → r1 x .non H Q)
    (s2 : ∀ a b H (Q : VK), Q (.bl (neg (decide (a = b)))) H → r2 (.bl a) (.bl b) H Q) : OpM X W (compareOp op) (fun x y st => match dIs x y with
    | some b => .ok (.bl (neg b)) st
    | none => .bad) := opm_of (h1.or h2) fun m st H dx dy x y E Q hS ra rb hP => by
  split at hP
  · rename_i b hb
    have q := hP.now hS (.bl _)
    unfold dIs at hb
    split at hb <;> cases hb <;> cases ra <;> cases rb <;> first | exact .inl (s1 _ _ _ q) | exact .inr (s2 _ _ _ _ q)
  · exact hP.elim
theorem m_is : OpM X W (compareOp .Is) oIs := m_isB (neg := id) op_isN op_is_bl (fun x H Q q => ⟨rfl, q⟩) fun a b H Q q => ⟨_, _, rfl, rfl, q⟩
theorem m_isnot : OpM X W (compareOp .IsNot) oIsNot := m_isB (neg := Bool.not) op_notN op_isnot_bl (fun x H Q q => ⟨rfl, q⟩) fun a b H Q q => ⟨_, _, rfl, rfl, q⟩
end
end HM

/-! HM, part 4: expressions. -/
namespace HM
open PySem PySem.Spec PyProof.Rows L2
section
variable {X : Cx} {W : WX} {e a b c : Expr} {es rest : List Expr} {pos : Pos} {f fa fb fc : EM D} {fs : EM (List D)} {g ga gb : EM Bool}

/-! ### unary, comparisons -/
def eUn (o : O1) (fa : EM D) : EM D := fun τ st => (fa τ st).bind o
def UnM (X : Cx) (W : WX) (F : Value → Sem Value) (g : O1) : Prop :=
  ∀ (m : List Addr) (st : Store) (σ : L2.St) (H : Hp) (dx : D) (x : V) (Q : VK), SS X.kw m st H → RD X.K m H dx x → Pe X.kw (fun c d H' => W c d σ H') (RD X.K) m H (g dx st) Q →
    ∀ (pins : List (Addr × Obj)) (s : Shared) (v : Value), Inv X pins σ H s → RelV x v → wpAny (model X.prog X.w) X.A (F v) (EP X pins σ Q) X.xe s
theorem ex_un {op : UnaryOp} {o : O1} (ho : UnM X W (unaryOp op) o) (ha : Ex X W a fa) : Ex X W (.UnaryOp op a pos) (eUn o fa) := by
  refine ⟨fun m τ st σ H Q hL hS hP pins s I => ?_⟩
  refine UnaryOp_ (thn (ha.run m τ st σ H (fun x H1 => ∀ (pins : List (Addr × Obj)) (s : Shared) (v : Value), Inv X pins σ H1 s → RelV x v → wpAny (model X.prog X.w) X.A (unaryOp op v) (EP X pins σ Q) X.xe s) hL hS (hP.bind fun dx s1 m1 H1 x e1 hS1 r1 hP1 pins s v I rx => ho m1 s1 σ H1 dx x Q hS1 r1 hP1 pins s v I rx) pins s I) fun v s1 ⟨x, H1, I1, r1, q1⟩ => q1 pins s1 v I1 r1)
def oNeg : O1 := fun x st => match x with
  | .int i => .ok (.int (-i)) st
  | _ => .bad
theorem m_neg : UnM X W (unaryOp .USub) oNeg := fun m st σ H dx x Q hS r hP pins s v I rx => by
  unfold oNeg at hP
  split at hP
  · cases r
    exact un_neg pins s σ H _ v Q I rx ⟨_, rfl, hP.now hS (.int _)⟩
  · exact hP.elim
theorem ex_cmp {op : CmpOp} {o : O2} (ho : OpM X W (compareOp op) o) (ha : Ex X W a fa) (hb : Ex X W b fb) (hm : behindInMarks op b = false) : Ex X W (.Compare a [op] [b] pos) (eBin o fa fb) := by
  refine ⟨fun m τ st σ H Q hL hS hP pins s I => ?_⟩
  exact wpAny_Compare1 (binT peW peW I (R := fun x y H2 => wR2 X (compareOp op) σ x y H2 Q) (two ha hb hL hS hP fun m2 st2 H2 dx dy x y e2 hS2 r1 r2 hP2 pins s v u I rx ry => ho m2 st2 σ H2 dx dy x y Q hS2 r1 r2 hP2 pins s v u I rx ry) fun v u s2 x y H2 I2 rx ry q => q pins s2 v u I2 rx ry) hm
/-- a bool as a test -/
def dBl (x : D) (st : Store) : ER Bool := match x with
  | .bl b => .ok b st
  | _ => .bad
def tBl (fa : EM D) : EM Bool := fun τ st => (fa τ st).bind dBl
theorem bl_post {K : KW} {E : XK} {m : List Addr} {H : Hp} {dx : D} {s1 : Store} {x : V} {Q : Bool → Hp → Prop} (hS : SS K m s1 H) (r : RD K m H dx x) (hP : Pe K E RB m H (dBl dx s1) Q) : ∃ k, x = .bl k ∧ Q k H := by
  unfold dBl at hP
  split at hP
  · cases r
    exact ⟨_, rfl, hP.now hS rfl⟩
  · exact hP.elim
theorem et_cmp {op : CmpOp} {o : O2} (ho : OpM X W (compareOp op) o) (ha : Ex X W a fa) (hb : Ex X W b fb) (hm : behindInMarks op b = false) : Et X W (.Compare a [op] [b] pos) (tBl (eBin o fa fb)) := by
  refine ⟨fun m τ st σ H Q hL hS hP pins s I => ?_⟩
  have q : wE X (.Compare a [op] [b] pos) σ H fun x H1 => ∃ k, x = .bl k ∧ Q k H1 := (ex_cmp ho ha hb hm).run m τ st σ H _ hL hS (hP.bind fun dx s1 m1 H1 x e1 hS1 r1 hP1 => bl_post hS1 r1 hP1)
  refine wpAny_isTrue_Compare1 (binT peW peW I (R := fun x y H2 => wR2 X (compareOp op) σ x y H2 fun x H1 => ∃ k, x = .bl k ∧ Q k H1) ?_ fun v u s2 x y H2 I2 rx ry q => thn (q pins s2 v u I2 rx ry) fun c s3 ⟨x, H1, I1, r1, q1⟩ => ?_) hm
  · have hP' : Pe X.kw (fun c d H' => W c d σ H') (RD X.K) m H (eBin o fa fb τ st) fun x H1 => ∃ k, x = .bl k ∧ Q k H1 := hP.bind fun dx s1 m1 H1 x e1 hS1 r1 hP1 => bl_post hS1 r1 hP1
    exact two ha hb hL hS hP' fun m2 st2 H2 dx dy x y e2 hS2 r1 r2 hP2 pins s v u I rx ry => ho m2 st2 σ H2 dx dy x y _ hS2 r1 r2 hP2 pins s v u I rx ry
  · obtain ⟨k, rfl, q1⟩ := q1
    cases r1
    exact wpAny_truthy_bool ⟨H1, I1, q1⟩
/-- a chain of two comparisons -/
def eChain (o o' : O2) (fa fb fc : EM D) : EM D := fun τ st => (fa τ st).bind fun x s1 => (fb τ s1).bind fun y s2 => (o x y s2).bind fun z s3 => match z with
  | .bl true => (fc τ s3).bind fun w s4 => o' y w s4
  | .bl false => .ok (.bl false) s3
  | _ => .bad
theorem chain_read {op op' : CmpOp} {o o' : O2} (ho : OpM X W (compareOp op) o) (ho' : OpM X W (compareOp op') o') (ha : Ex X W a fa) (hb : Ex X W b fb) (hc : Ex X W c fc) {m : List Addr} {τ : Sl} {st : Store} {σ : L2.St} {H : Hp} {Q : VK} (hL : SL X.K m H τ σ) (hS : SS X.kw m st H)
    (hP : Pe X.kw (fun c d H' => W c d σ H') (RD X.K) m H (eChain o o' fa fb fc τ st) Q) : tChain (fun x y H Q => wR2 X (compareOp op) σ x y H Q) (fun x y H Q => wR2 X (compareOp op') σ x y H Q) (wE X a) (wE X b) (wE X c) σ H Q := by
  refine two ha hb hL hS hP fun m2 st2 H2 dx dy x y e2 hS2 r1 r2 hP2 pins s v u I rx ry => ?_
  refine ho m2 st2 σ H2 dx dy x y _ hS2 r1 r2 (hP2.bind fun dz s3 m3 H3 z e3 hS3 r3 hP3 => ?_) pins s v u I rx ry
  split at hP3
  · cases r3
    refine ⟨true, rfl, ?_⟩
    rw [if_pos rfl]
    exact hc.run m3 τ s3 σ H3 _ (hL.mono (e2.trans e3)) hS3 (hP3.bind fun dw s4 m4 H4 w e4 hS4 r4 hP4 pins s v u I rx ry => ho' m4 s4 σ H4 dy dw y w Q hS4 ((r2.mono e3).mono e4) r4 hP4 pins s v u I rx ry)
  · cases r3
    refine ⟨false, rfl, ?_⟩
    rw [if_neg Bool.false_ne_true]
    exact hP3.now hS3 (.bl _)
  · exact hP3.elim
/-- a rule of the layer's whose premises may speak of the slots at hand -/
theorem oprS {F : Value → Value → Sem Value} {σ : L2.St} : ∀ (pins : List (Addr × Obj)) (s : Shared) (H : Hp) (x y : V) (v u : Value) (Q : VK), Inv X pins σ H s → RelV x v → RelV y u → wR2 X F σ x y H Q → wpAny (model X.prog X.w) X.A (F v u) (EP X pins σ Q) X.xe s :=
  fun pins s H x y v u Q I rx ry q => q pins s v u I rx ry
theorem ex_chain {op op' : CmpOp} {o o' : O2} (ho : OpM X W (compareOp op) o) (ho' : OpM X W (compareOp op') o') (ha : Ex X W a fa) (hb : Ex X W b fb) (hc : Ex X W c fc) (hm : lastMarks [op, op'] [b, c] = false := by with_unfolding_all rfl) : Ex X W (.Compare a [op, op'] [b, c] pos) (eChain o o' fa fb fc) := by
  refine ⟨fun m τ st σ H Q hL hS hP pins s I => ?_⟩
  have h := chain_read ho ho' ha hb hc hL hS hP
  refine Compare_chain (thn (peW.run pins s σ H _ I h) fun v s1 ⟨x, H1, I1, r1, q1⟩ => chain_link (thn (peW.run pins s1 σ H1 _ I1 q1) fun u s2 ⟨y, H2, I2, r2, q2⟩ =>
    thn (q2 pins s2 v u I2 r1 r2) fun d s3 ⟨z, H3, I3, r3, k, e, q3⟩ => ?_)) hm
  subst e
  cases r3
  refine wpAny_truthy_bool ?_
  cases k with
  | false => exact ite_ff ⟨.bl false, H3, I3, rfl, q3⟩
  | true => exact ite_tt (chain_last (thn (peW.run pins s3 σ H3 _ I3 q3) fun w' s4 ⟨z', H4, I4, r4, q4⟩ => q4 pins s4 u w' I4 r2 r4))
theorem et_chain {op op' : CmpOp} {o o' : O2} (ho : OpM X W (compareOp op) o) (ho' : OpM X W (compareOp op') o') (ha : Ex X W a fa) (hb : Ex X W b fb) (hc : Ex X W c fc) (hm : lastMarks [op, op'] [b, c] = false := by with_unfolding_all rfl) : Et X W (.Compare a [op, op'] [b, c] pos) (tBl (eChain o o' fa fb fc)) := by
  refine ⟨fun m τ st σ H Q hL hS hP pins s I => ?_⟩
  have hP' : Pe X.kw (fun c d H' => W c d σ H') (RD X.K) m H (eChain o o' fa fb fc τ st) fun x H1 => ∃ k, x = .bl k ∧ Q k H1 := hP.bind fun dx s1 m1 H1 x e1 hS1 r1 hP1 => bl_post hS1 r1 hP1
  have h := chain_read ho ho' ha hb hc hL hS hP'
  refine isTrue_chain (thn (peW.run pins s σ H _ I h) fun v s1 ⟨x, H1, I1, r1, q1⟩ => test_link (thn (peW.run pins s1 σ H1 _ I1 q1) fun u s2 ⟨y, H2, I2, r2, q2⟩ =>
    thn (q2 pins s2 v u I2 r1 r2) fun d s3 ⟨z, H3, I3, r3, k, e, q3⟩ => ?_)) hm
  subst e
  cases r3
  refine wpAny_truthy_bool ?_
  cases k with
  | false =>
    obtain ⟨k', e', q'⟩ := q3
    cases e'
    exact ite_ff ⟨H3, I3, q'⟩
  | true =>
    refine ite_tt (test_last (thn (peW.run pins s3 σ H3 _ I3 q3) fun w' s4 ⟨z', H4, I4, r4, q4⟩ => thn (q4 pins s4 u w' I4 r2 r4) fun d' s5 ⟨z2, H5, I5, r5, k2, e2, q5⟩ => ?_))
    subst e2
    cases r5
    exact wpAny_truthy_bool ⟨H5, I5, q5⟩

/-! ### tests -/
/-- a value's truth -/
def dTru (st : Store) : D → Option Bool
  | .non => some false
  | .bl b => some b
  | .int i => some (i != 0)
  | .str x => if x.length ≤ 16777216 then some (!x.isEmpty) else none
  | .tup xs => some (!xs.isEmpty)
  | .rol xs => some (!xs.isEmpty)
  | .ref n => (lstAt st n).map fun xs => !xs.isEmpty
  | _ => none
def tVal (fa : EM D) : EM Bool := fun τ st => (fa τ st).bind fun x s1 => match dTru s1 x with
  | some b => .ok b s1
  | none => .bad
theorem empty_of {K : PySem.W.Frag} {m : List Addr} {H : Hp} {ds : List D} {vs : List V} (r : RDs K m H ds vs) : ds.isEmpty = vs.isEmpty := by
  cases r <;> rfl
theorem tru_read {K : KW} {m : List Addr} {st : Store} {H : Hp} {d : D} {v : V} {b : Bool} (s : SS K m st H) (h : dTru st d = some b) (r : RD K m H d v) : TruV K v H b := by
  cases r with
  | non =>
    cases h
    exact rfl
  | bl b =>
    cases h
    exact rfl
  | int i =>
    cases h
    exact rfl
  | str x =>
    have h : (if x.length ≤ 16777216 then some (!x.isEmpty) else none) = some b := h
    split at h
    · rename_i hl
      cases h
      refine ⟨line_of (by simpa [PySem.Str.length] using hl), ?_⟩
      cases x with
      | nil => rfl
      | cons c x =>
        have e : ((⟨(c :: x).toArray⟩ : PySem.Str).length : Int) ≠ 0 := by
          show (((c :: x).toArray.size : Nat) : Int) ≠ 0
          rw [List.size_toArray, List.length_cons]
          omega
        simp [PySem.Str.length]
        omega
    · cases h
  | tup q rs =>
    cases h
    exact .inr (.inl ⟨_, q.sq, by rw [empty_of rs]⟩)
  | rol q rs =>
    cases h
    exact .inl ⟨_, q.sq, by rw [empty_of rs]⟩
  | ref q =>
    unfold dTru at h
    simp only [Option.map_eq_some_iff] at h
    obtain ⟨xs, e, rfl⟩ := h
    obtain ⟨vs, h1, h2⟩ := s.list e q
    exact .inl ⟨vs, SqL.of h1, by rw [empty_of h2]⟩
  | _ => cases h
theorem et_val (ha : Ex X W a fa) (he : ∀ whole, isTrue a X.env whole = (do let v ← whole; standAt a.pos; holding [v] (truthy v)) := by intro _; rfl) : Et X W a (tVal fa) := by
  refine ⟨fun m τ st σ H Q hL hS hP pins s I => ?_⟩
  refine isTrue_plain (thn (ha.run m τ st σ H (fun x H' => ∃ k, TruV X.K x H' k ∧ Q k H') hL hS (hP.bind fun dx s1 m1 H1 x e1 hS1 r1 hP1 => ?_) pins s I) fun v s1 ⟨x, H1, I1, r1, q1⟩ => tru_ok pins s1 σ H1 x v Q I1 r1 q1) (he _)
  split at hP1
  · rename_i k hk
    exact ⟨k, tru_read hS1 hk r1, hP1.now hS1 rfl⟩
  · exact hP1.elim
def tAnd (ga gb : EM Bool) : EM Bool := fun τ st => (ga τ st).bind fun x s1 => if x then gb τ s1 else .ok false s1
def tOr (ga gb : EM Bool) : EM Bool := fun τ st => (ga τ st).bind fun x s1 => if x then .ok true s1 else gb τ s1
def tNot (ga : EM Bool) : EM Bool := fun τ st => (ga τ st).bind fun x s1 => .ok (!x) s1
theorem Ew.et (h : Ew X W e g) : Et X W e g := ⟨fun m τ st σ H Q hL hS hP pins s I => h.run m τ st σ H Q hL hS hP _ pins s I⟩
theorem ew_and1 (ha : Et X W a ga) : Ew X W (.BoolOp .And [a] pos) ga := ⟨fun m τ st σ H Q hL hS hP wh pins s I => (pw_and1 ptW).run wh pins s σ H Q I (ha.run m τ st σ H Q hL hS hP)⟩
theorem ew_or1 (ha : Et X W a ga) : Ew X W (.BoolOp .Or [a] pos) ga := ⟨fun m τ st σ H Q hL hS hP wh pins s I => (pw_or1 ptW).run wh pins s σ H Q I (ha.run m τ st σ H Q hL hS hP)⟩
theorem ew_and (ha : Et X W a ga) (hb : Ew X W (.BoolOp .And (b :: rest) pos) gb) : Ew X W (.BoolOp .And (a :: b :: rest) pos) (tAnd ga gb) := by
  refine ⟨fun m τ st σ H Q hL hS hP wh pins s I => (pw_and ptW pwW).run wh pins s σ H Q I ?_⟩
  refine ha.run m τ st σ H _ hL hS (hP.bind fun dx s1 m1 H1 x e1 hS1 r1 hP1 => ?_)
  subst r1
  cases dx with
  | true => exact iteT (hb.run m1 τ s1 σ H1 Q (hL.mono e1) hS1 hP1)
  | false => exact iteF (hP1.now hS1 rfl)
theorem ew_or (ha : Et X W a ga) (hb : Ew X W (.BoolOp .Or (b :: rest) pos) gb) : Ew X W (.BoolOp .Or (a :: b :: rest) pos) (tOr ga gb) := by
  refine ⟨fun m τ st σ H Q hL hS hP wh pins s I => (pw_or ptW pwW).run wh pins s σ H Q I ?_⟩
  refine ha.run m τ st σ H _ hL hS (hP.bind fun dx s1 m1 H1 x e1 hS1 r1 hP1 => ?_)
  subst r1
  cases dx with
  | true => exact iteT (hP1.now hS1 rfl)
  | false => exact iteF (hb.run m1 τ s1 σ H1 Q (hL.mono e1) hS1 hP1)
theorem et_not (ha : Et X W a ga) : Et X W (.UnaryOp .Not a pos) (tNot ga) := by
  refine ⟨fun m τ st σ H Q hL hS hP pins s I => (pt_not ptW).run pins s σ H Q I ?_⟩
  refine ha.run m τ st σ H _ hL hS (hP.bind fun dx s1 m1 H1 x e1 hS1 r1 hP1 => ?_)
  subst r1
  exact hP1.now hS1 rfl
/-! ### and, or, not as values -/
def eAnd (fa fb : EM D) : EM D := fun τ st => (fa τ st).bind fun x s1 => match dTru s1 x with
  | some true => fb τ s1
  | some false => .ok x s1
  | none => .bad
def eOr (fa fb : EM D) : EM D := fun τ st => (fa τ st).bind fun x s1 => match dTru s1 x with
  | some true => .ok x s1
  | some false => fb τ s1
  | none => .bad
def eNot (fa : EM D) : EM D := fun τ st => (fa τ st).bind fun x s1 => match dTru s1 x with
  | some b => .ok (.bl !b) s1
  | none => .bad
theorem ex_one {op} (h : Ex X W a fa) : Ex X W (.BoolOp op [a] pos) fa := ⟨fun m τ st σ H Q hL hS hP pins s I => BoolOp_one (h.run m τ st σ H Q hL hS hP pins s I)⟩
theorem ex_and (ha : Ex X W a fa) (hb : Ex X W (.BoolOp .And (b :: rest) pos) fb) : Ex X W (.BoolOp .And (a :: b :: rest) pos) (eAnd fa fb) := by
  refine ⟨fun m τ st σ H Q hL hS hP pins s I => (pe_andT peW peW).run pins s σ H Q I ?_⟩
  refine ha.run m τ st σ H _ hL hS (hP.bind fun dx s1 m1 H1 x e1 hS1 r1 hP1 => ?_)
  split at hP1
  · rename_i hk
    exact ⟨true, tru_read hS1 hk r1, iteT (hb.run m1 τ s1 σ H1 Q (hL.mono e1) hS1 hP1)⟩
  · rename_i hk
    exact ⟨false, tru_read hS1 hk r1, iteF (hP1.now hS1 r1)⟩
  · exact hP1.elim
theorem ex_or (ha : Ex X W a fa) (hb : Ex X W (.BoolOp .Or (b :: rest) pos) fb) : Ex X W (.BoolOp .Or (a :: b :: rest) pos) (eOr fa fb) := by
  refine ⟨fun m τ st σ H Q hL hS hP pins s I => (pe_orT peW peW).run pins s σ H Q I ?_⟩
  refine ha.run m τ st σ H _ hL hS (hP.bind fun dx s1 m1 H1 x e1 hS1 r1 hP1 => ?_)
  split at hP1
  · rename_i hk
    exact ⟨true, tru_read hS1 hk r1, iteT (hP1.now hS1 r1)⟩
  · rename_i hk
    exact ⟨false, tru_read hS1 hk r1, iteF (hb.run m1 τ s1 σ H1 Q (hL.mono e1) hS1 hP1)⟩
  · exact hP1.elim
theorem ex_not (ha : Ex X W a fa) : Ex X W (.UnaryOp .Not a pos) (eNot fa) := by
  refine ⟨fun m τ st σ H Q hL hS hP pins s I => (pe_notT peW).run pins s σ H Q I ?_⟩
  refine ha.run m τ st σ H _ hL hS (hP.bind fun dx s1 m1 H1 x e1 hS1 r1 hP1 => ?_)
  split at hP1
  · rename_i k hk
    exact ⟨k, tru_read hS1 hk r1, hP1.now hS1 (.bl _)⟩
  · exact hP1.elim
def eIf (g : EM Bool) (fa fb : EM D) : EM D := fun τ st => (g τ st).bind fun x s1 => if x then fa τ s1 else fb τ s1
theorem ex_if {c : Expr} (hc : Et X W c g) (ha : Ex X W a fa) (hb : Ex X W b fb) : Ex X W (.IfExp c a b pos) (eIf g fa fb) := by
  refine ⟨fun m τ st σ H Q hL hS hP pins s I => (pe_ifExp ptW peW peW).run pins s σ H Q I ?_⟩
  refine hc.run m τ st σ H _ hL hS (hP.bind fun dx s1 m1 H1 x e1 hS1 r1 hP1 => ?_)
  subst r1
  cases dx with
  | true => exact iteT (ha.run m1 τ s1 σ H1 Q (hL.mono e1) hS1 hP1)
  | false => exact iteF (hb.run m1 τ s1 σ H1 Q (hL.mono e1) hS1 hP1)

/-! ### arguments, displays -/
def aNil : EM (List D) := fun _ st => .ok [] st
def aCons (f : EM D) (fs : EM (List D)) : EM (List D) := fun τ st => (f τ st).bind fun x s1 => (fs τ s1).bind fun xs s2 => .ok (x :: xs) s2
theorem ea_nil : Ea X W [] aNil := ⟨fun m τ st σ H Q hL hS hP pos pins s I => pa_nil.run pos pins s σ H Q I (hP.now hS .nil)⟩
theorem ea_cons (ha : Ex X W e f) (hr : Ea X W es fs) (hs : starEach (e :: es) X.env = (false, eval e X.env) :: starEach es X.env := by rfl) : Ea X W (e :: es) (aCons f fs) := by
  refine ⟨fun m τ st σ H Q hL hS hP pos pins s I => (pa_cons peW paW hs).run pos pins s σ H Q I ?_⟩
  refine ha.run m τ st σ H _ hL hS (hP.bind fun dx s1 m1 H1 x e1 hS1 r1 hP1 => ?_)
  exact hr.run m1 τ s1 σ H1 _ (hL.mono e1) hS1 (hP1.bind fun ds s2 m2 H2 xs e2 hS2 r2 hP2 => hP2.now hS2 (.cons (r1.mono e2) r2))
def eTup (fs : EM (List D)) : EM D := fun τ st => (fs τ st).bind fun xs s1 => if xs.length ≤ 16777216 then .ok (.tup xs) s1 else .bad
def eLst (fs : EM (List D)) : EM D := fun τ st => (fs τ st).bind fun xs s1 => if xs.length ≤ 16777216 then .ok (.ref s1.length) (s1 ++ [.lst xs]) else .bad
theorem ex_tup {x1} (h : Ea X W es fs) : Ex X W (.Tuple es x1 pos) (eTup fs) := by
  refine ⟨fun m τ st σ H Q hL hS hP pins s I => (pe_tupF paW).run pins s σ H Q I ?_⟩
  refine h.run m τ st σ H _ hL hS (hP.bind fun ds s1 m1 H1 vs e1 hS1 r1 hP1 => ?_)
  split at hP1
  · rename_i hl
    exact ⟨line_of (by rw [← r1.len]; exact hl), hP1.tup hS1 r1⟩
  · exact hP1.elim
theorem ex_lst (h : Ea X W es fs) : Ex X W (.List es pos) (eLst fs) := by
  refine ⟨fun m τ st σ H Q hL hS hP pins s I => (pe_lst paW).run pins s σ H Q I ?_⟩
  refine h.run m τ st σ H _ hL hS (hP.bind fun ds s1 m1 H1 vs e1 hS1 r1 hP1 => ?_)
  split at hP1
  · rename_i hl
    exact ⟨line_of (by rw [← r1.len]; exact hl), hP1.lst hS1 r1⟩
  · exact hP1.elim

/-! ### subscripts -/
def IxM (X : Cx) (W : WX) (g : O2) : Prop :=
  ∃ r : R2, IxR X r ∧ ∀ (m : List Addr) (st : Store) (H : Hp) (dx dy : D) (x y : V) (E : XK) (Q : VK), SS X.kw m st H → RD X.K m H dx x → RD X.K m H dy y → Pe X.kw E (RD X.K) m H (g dx dy st) Q → r x y H Q
theorem ex_ix {o : O2} (ho : IxM X W o) (ha : Ex X W a fa) (hb : Ex X W b fb) (hs : PlainIx b := by exact fun _ _ => rfl) : Ex X W (.Subscript a b pos) (eBin o fa fb) := by
  obtain ⟨r, hr, h⟩ := ho
  refine ⟨fun m τ st σ H Q hL hS hP pins s I => (pe_ix hr peW peW hs).run pins s σ H Q I ?_⟩
  exact two ha hb hL hS hP fun m2 st2 H2 dx dy x y e2 hS2 r1 r2 hP2 => h m2 st2 H2 dx dy x y _ Q hS2 r1 r2 hP2
def oIxS : O2 := fun x y st => match x, y with
  | .tup xs, .int i => match atI xs i with
    | some d => .ok d st
    | none => .bad
  | .rol xs, .int i => match atI xs i with
    | some d => .ok d st
    | none => .bad
  | .ref n, .int i => match lstAt st n with
    | some xs => match atI xs i with
      | some d => .ok d st
      | none => .bad
    | none => .bad
  | .str x, .int i => if x.length ≤ 16777216 then match atI x i with
      | some c => .ok (.str [c]) st
      | none => .bad
    else .bad
  | _, _ => .bad
theorem atI_rds {K : PySem.W.Frag} {m : List Addr} {H : Hp} {ds : List D} {vs : List V} {i : Int} {d : D} (r : RDs K m H ds vs) (h : atI ds i = some d) : ∃ v, atI vs i = some v ∧ RD K m H d v := by
  unfold atI at h ⊢
  rw [← r.len]
  cases e : ixN ds.length i with
  | none =>
    rw [e] at h
    cases h
  | some j =>
    rw [e] at h
    exact r.get h
theorem m_ixS : IxM X W oIxS := ⟨_, ix_seq, fun m st H dx dy x y E Q hS r1 r2 hP => by
  unfold oIxS at hP
  split at hP
  · split at hP
    · rename_i d e
      cases r1 with
      | tup q rs =>
        cases r2
        obtain ⟨v, h1, h2⟩ := atI_rds rs e
        exact .inr (.inl ⟨_, _, _, v, rfl, rfl, q.sq, h1, hP.now hS h2⟩)
    · exact hP.elim
  · split at hP
    · rename_i d e
      cases r1 with
      | rol q rs =>
        cases r2
        obtain ⟨v, h1, h2⟩ := atI_rds rs e
        exact .inl ⟨_, _, _, v, rfl, rfl, q.sq, h1, hP.now hS h2⟩
    · exact hP.elim
  · split at hP
    · split at hP
      · rename_i ex _ _ e
        cases r1 with
        | ref q =>
          cases r2
          obtain ⟨vs, h1, h2⟩ := hS.list ex q
          obtain ⟨v, h3, h4⟩ := atI_rds h2 e
          exact .inl ⟨_, _, _, v, rfl, rfl, SqL.of h1, h3, hP.now hS h4⟩
      · exact hP.elim
    · exact hP.elim
  · split at hP
    · split at hP
      · rename_i hl _ c e
        cases r1
        cases r2
        exact .inr (.inr ⟨_, _, c, rfl, rfl, line_of (by simpa [PySem.Str.length] using hl), by simpa using e, hP.now hS (.str [c])⟩)
      · exact hP.elim
    · exact hP.elim
  · exact hP.elim⟩
end
end HM

/-! HM, part 5: calls, what is walked, comprehensions. -/
namespace HM
open PySem PySem.Spec PyProof.Rows L2

/-! ### defs -/
abbrev FM := List D → Store → ER D
/-- a def's promise by its mirror -/
def spM (K : KW) (n : Nat) (mf : FM) : Sp := fun vs H Q E => ∃ (m : List Addr) (st : Store) (ds : List D), ds.length = n ∧ SS K m st H ∧ RDs K m H ds vs ∧ Pe K E (RD K) m H (mf ds st) Q
/-- the def f keeps the mirror -/
abbrev FnM (P : Program) (w : World) (K : PySem.W.Frag) (mg : Str → Option Value) (base : Heap) (k : Nat) (f : Addr) (fd : FuncData) (ps : List Str) (mf : FM) : Prop :=
  FnOk P w K mg base (L2.CX P w) k f fd ps (spM ⟨K, w⟩ ps.length mf)
section
variable {X : Cx} {W : WX} {e a b c : Expr} {es rest : List Expr} {pos p : Pos} {f fa fb fc : EM D} {fs : EM (List D)} {g ga gb : EM Bool}
def eCall (n : Nat) (mf : FM) (fs : EM (List D)) : EM D := fun τ st => (fs τ st).bind fun ds s1 => if ds.length = n then mf ds s1 else .bad
theorem ex_call {k : Nat} {fa : Addr} {fd : FuncData} {ps : List Str} {mf : FM} {x : Str} (tk : Takes X W) (F : FnM X.prog X.w X.K X.mg X.base k fa fd ps mf) (hr : Room k X.A) (hg : Gl X x) (hm : X.mg x = some (.ref fa)) (hk : PySem.W.keepIn X.K (.ref fa) = true) (hb : Binds X.K fd ps [])
    (ha : Ea X W (e :: es) fs) (hdb : (x == ("__debug__" : Str)) = false := by decide) (he : starEach (e :: es) X.env = (false, eval e X.env) :: starEach es X.env := by rfl) (hpl : (backTo pos (starEach es X.env)).any (·.1) = false := by rfl) :
    Ex X W (.Call (.Name x p) (e :: es) [] pos) (eCall ps.length mf fs) := by
  refine ⟨fun m τ st σ H Q hL hS hP pins s I => ?_⟩
  refine wpAny_Call_Name_kw (ld_glob I hg hm ?_ hdb)
  have q : wA X (e :: es) σ H fun vs H1 => spM X.kw ps.length mf (vs ++ []) H1 Q (WE W σ) := ha.run m τ st σ H _ hL hS (hP.bind fun ds s1 m1 H1 vs e1 hS1 r1 hP1 => by
    split at hP1
    · rename_i hl
      rw [List.append_nil]
      exact ⟨m1, s1, ds, hl, hS1, r1, hP1⟩
    · exact hP1.elim)
  refine PySem.W.callWith_K (h₀ := X.base) I.ok.mod.kin hk (thn (q pos pins s I) fun us s1 ⟨vs, H1, I1, r, q⟩ => ⟨I1.kIn, ?_⟩) he hpl
  exact run_fnSD (E := WE W) F hr hb .nil (passAt tk σ) I1 r q
theorem ex_call0 {k : Nat} {fa : Addr} {fd : FuncData} {ps : List Str} {mf : FM} {x : Str} (tk : Takes X W) (F : FnM X.prog X.w X.K X.mg X.base k fa fd ps mf) (hr : Room k X.A) (hg : Gl X x) (hm : X.mg x = some (.ref fa)) (hk : PySem.W.keepIn X.K (.ref fa) = true) (hb : Binds X.K fd ps [])
    (hdb : (x == ("__debug__" : Str)) = false := by decide) : Ex X W (.Call (.Name x p) [] [] pos) (eCall ps.length mf aNil) := by
  refine ⟨fun m τ st σ H Q hL hS hP pins s I => ?_⟩
  refine wpAny_Call_Name_kw (ld_glob I hg hm ?_ hdb)
  refine PySem.W.callWith_K0 I.kIn hk (run_fnSD (E := WE W) (us := []) (vs := []) F hr hb .nil (passAt tk σ) I .nil ?_)
  have hP : Pe X.kw (fun c d H' => W c d σ H') (RD X.K) m H (if ([] : List D).length = ps.length then mf [] st else .bad) Q := hP
  split at hP
  · rename_i hl
    exact ⟨m, st, [], hl, hS, .nil, hP⟩
  · exact hP.elim

/-! ### built-ins by values -/
def CallM (X : Cx) (fv : Value) (g : FM) : Prop :=
  ∃ r, CallR X fv r ∧ ∀ (m : List Addr) (st : Store) (H : Hp) (ds : List D) (vs : List V) (E : XK) (Q : VK), SS X.kw m st H → RDs X.K m H ds vs → Pe X.kw E (RD X.K) m H (g ds st) Q → r vs H Q
def eCB (mf : FM) (fs : EM (List D)) : EM D := fun τ st => (fs τ st).bind mf
theorem ex_callB {x : Str} {id : String} {mf : FM} (hc : CallM X (.builtin id) mf) (hg : Gl X x) (hm : X.mg x = none) (hv : bootBuiltins x = some (.builtin id)) (ha : Ea X W (e :: es) fs) (hn : x ≠ "__name__" := by decide) (hdb : (x == ("__debug__" : Str)) = false := by decide)
    (he : starEach (e :: es) X.env = (false, eval e X.env) :: starEach es X.env := by rfl) (hpl : (backTo pos (starEach es X.env)).any (·.1) = false := by rfl) : Ex X W (.Call (.Name x p) (e :: es) [] pos) (eCB mf fs) := by
  obtain ⟨r, hr, h⟩ := hc
  refine ⟨fun m τ st σ H Q hL hS hP pins s I => (pe_callB hr hg hm hv paW hn hdb he hpl).run pins s σ H Q I ?_⟩
  exact ha.run m τ st σ H _ hL hS (hP.bind fun ds s1 m1 H1 vs e1 hS1 r1 hP1 => h m1 s1 H1 ds vs _ Q hS1 r1 hP1)
theorem ex_callT {x : Str} {T : String} {mf : FM} (hc : CallM X (.type T) mf) (hg : Gl X x) (hm : X.mg x = none) (hv : bootBuiltins x = some (.type T)) (ha : Ea X W (e :: es) fs) (hn : x ≠ "__name__" := by decide) (hdb : (x == ("__debug__" : Str)) = false := by decide)
    (he : starEach (e :: es) X.env = (false, eval e X.env) :: starEach es X.env := by rfl) (hpl : (backTo pos (starEach es X.env)).any (·.1) = false := by rfl) : Ex X W (.Call (.Name x p) (e :: es) [] pos) (eCB mf fs) := by
  obtain ⟨r, hr, h⟩ := hc
  refine ⟨fun m τ st σ H Q hL hS hP pins s I => (pe_callTy hr hg hm hv paW hn hdb he hpl).run pins s σ H Q I ?_⟩
  exact ha.run m τ st σ H _ hL hS (hP.bind fun ds s1 m1 H1 vs e1 hS1 r1 hP1 => h m1 s1 H1 ds vs _ Q hS1 r1 hP1)
theorem ex_callF {x : Str} {id : String} {mf : FM} (hc : CallM X (.builtin id) mf) (hg : Gl X x) (hm : X.mg x = some (.builtin id)) (ha : Ea X W (e :: es) fs) (hdb : (x == ("__debug__" : Str)) = false := by decide)
    (he : starEach (e :: es) X.env = (false, eval e X.env) :: starEach es X.env := by rfl) (hpl : (backTo pos (starEach es X.env)).any (·.1) = false := by rfl) : Ex X W (.Call (.Name x p) (e :: es) [] pos) (eCB mf fs) := by
  obtain ⟨r, hr, h⟩ := hc
  refine ⟨fun m τ st σ H Q hL hS hP pins s I => (pe_callBfun hr hg hm paW hdb he hpl).run pins s σ H Q I ?_⟩
  exact ha.run m τ st σ H _ hL hS (hP.bind fun ds s1 m1 H1 vs e1 hS1 r1 hP1 => h m1 s1 H1 ds vs _ Q hS1 r1 hP1)
/-- the items of what is a list or a tuple -/
def dSeq (st : Store) : D → Option (List D)
  | .tup xs => some xs
  | .rol xs => some xs
  | .ref n => lstAt st n
  | _ => none
def SqV (K : PySem.W.Frag) (m : List Addr) (H : Hp) (ds : List D) (v : V) : Prop := ∃ a vs, v = .ref a ∧ (SqL K H a vs ∨ PlT K H a vs) ∧ RDs K m H ds vs
theorem dSeq_read {K : KW} {m : List Addr} {st : Store} {H : Hp} {d : D} {v : V} {xs : List D} (s : SS K m st H) (h : dSeq st d = some xs) (r : RD K m H d v) : SqV K m H xs v := by
  cases r with
  | tup q rs =>
    cases h
    exact ⟨_, _, rfl, .inr q, rs⟩
  | rol q rs =>
    cases h
    exact ⟨_, _, rfl, .inl q.sq, rs⟩
  | ref q =>
    obtain ⟨vs, h1, h2⟩ := s.list h q
    exact ⟨_, vs, rfl, .inl (SqL.of h1), h2⟩
  | _ => cases h
def fLenS : FM := fun ds st => match ds with
  | [.str x] => if x.length ≤ 16777216 then .ok (.int x.length) st else .bad
  | [d] => match dSeq st d with
    | some xs => .ok (.int xs.length) st
    | none => .bad
  | _ => .bad
theorem c_lenS : CallM X (.builtin "len") fLenS := ⟨_, call_len_seq.or call_len_str, fun m st H ds vs E Q hS r hP => by
  unfold fLenS at hP
  split at hP
  · split at hP
    · rename_i x hl
      obtain ⟨v, rfl, r1⟩ := r.one
      cases r1
      refine .inr ⟨_, rfl, line_of (by simpa [PySem.Str.length] using hl), ?_⟩
      have e : (((⟨x.toArray⟩ : PySem.Str).length : Nat) : Int) = (x.length : Int) := by simp [PySem.Str.length]
      rw [e]
      exact hP.now hS (.int _)
    · exact hP.elim
  · split at hP
    · rename_i xs hx
      obtain ⟨v, rfl, r1⟩ := r.one
      obtain ⟨a, vs, rfl, q, rs⟩ := dSeq_read hS hx r1
      refine .inl ⟨a, vs, rfl, q.imp id PlT.sq, ?_⟩
      rw [← rs.len]
      exact hP.now hS (.int _)
    · exact hP.elim
  · exact hP.elim⟩
def fInt : FM := fun ds st => match ds with
  | [.int i] => .ok (.int i) st
  | [.bl b] => .ok (.int (if b then 1 else 0)) st
  | _ => .bad
theorem c_int : CallM X (.type "int") fInt := ⟨_, call_int1, fun m st H ds vs E Q hS r hP => by
  unfold fInt at hP
  split at hP
  · obtain ⟨v, rfl, r1⟩ := r.one
    cases r1
    exact .inl ⟨_, rfl, hP.now hS (.int _)⟩
  · obtain ⟨v, rfl, r1⟩ := r.one
    cases r1
    exact .inr ⟨_, rfl, hP.now hS (.int _)⟩
  · exact hP.elim⟩
def fAbs : FM := fun ds st => match ds with
  | [.int i] => .ok (.int (i.natAbs : Nat)) st
  | _ => .bad
theorem c_abs : CallM X (.builtin "abs") fAbs := ⟨_, call_abs, fun m st H ds vs E Q hS r hP => by
  unfold fAbs at hP
  split at hP
  · rename_i i
    obtain ⟨v, rfl, r1⟩ := r.one
    cases r1
    refine ⟨_, rfl, ?_⟩
    have e : (if i < 0 then -i else i) = ((i.natAbs : Nat) : Int) := by split <;> omega
    rw [e]
    exact hP.now hS (.int _)
  · exact hP.elim⟩
def fGcd : FM := fun ds st => match ds with
  | [.int i, .int j] => .ok (.int (Nat.gcd i.natAbs j.natAbs : Nat)) st
  | _ => .bad
theorem c_gcd : CallM X (.builtin "math.gcd") fGcd := ⟨_, cr_gcd, fun m st H ds vs E Q hS r hP => by
  unfold fGcd at hP
  split at hP
  · obtain ⟨v, u, rfl, r1, r2⟩ := r.two
    cases r1
    cases r2
    exact ⟨_, _, rfl, hP.now hS (.int _)⟩
  · exact hP.elim⟩
def fTuple : FM := fun ds st => match ds with
  | [d] => match dSeq st d with
    | some xs => .ok (.tup xs) st
    | none => .bad
  | _ => .bad
theorem c_tuple : CallM X (.type "tuple") fTuple := ⟨_, call_tuple_ofF, fun m st H ds vs E Q hS r hP => by
  unfold fTuple at hP
  split at hP
  · split at hP
    · rename_i xs hx
      obtain ⟨v, rfl, r1⟩ := r.one
      obtain ⟨a, vs, rfl, q, rs⟩ := dSeq_read hS hx r1
      rcases q with q | q
      · exact ⟨a, vs, rfl, .inl ⟨q, hP.tup hS rs⟩⟩
      · exact ⟨a, vs, rfl, .inr ⟨q.sq, hP.now hS (.tup q rs)⟩⟩
    · exact hP.elim
  · exact hP.elim⟩
def fList : FM := fun ds st => match ds with
  | [d] => match dSeq st d with
    | some xs => .ok (.ref st.length) (st ++ [.lst xs])
    | none => .bad
  | _ => .bad
theorem c_list : CallM X (.type "list") fList := ⟨_, call_list_of, fun m st H ds vs E Q hS r hP => by
  unfold fList at hP
  split at hP
  · split at hP
    · rename_i xs hx
      obtain ⟨v, rfl, r1⟩ := r.one
      obtain ⟨a, vs, rfl, q, rs⟩ := dSeq_read hS hx r1
      exact ⟨a, vs, rfl, q.imp id PlT.sq, hP.lst hS rs⟩
    · exact hP.elim
  · exact hP.elim⟩
def fMin2 : FM := fun ds st => match ds with
  | [.int i, .int j] => .ok (.int (if j < i then j else i)) st
  | _ => .bad
theorem c_min2 (hc : X.calm = true) : CallM X (.builtin "min") fMin2 := ⟨_, call_min2 hc, fun m st H ds vs E Q hS r hP => by
  unfold fMin2 at hP
  split at hP
  · obtain ⟨v, u, rfl, r1, r2⟩ := r.two
    cases r1
    cases r2
    exact ⟨_, _, rfl, hP.now hS (.int _)⟩
  · exact hP.elim⟩
def fMax2 : FM := fun ds st => match ds with
  | [.int i, .int j] => .ok (.int (if j > i then j else i)) st
  | _ => .bad
theorem c_max2 (hc : X.calm = true) : CallM X (.builtin "max") fMax2 := ⟨_, call_max2 hc, fun m st H ds vs E Q hS r hP => by
  unfold fMax2 at hP
  split at hP
  · obtain ⟨v, u, rfl, r1, r2⟩ := r.two
    cases r1
    cases r2
    exact ⟨_, _, rfl, hP.now hS (.int _)⟩
  · exact hP.elim⟩
/-! ### isinstance -/
def dTy (st : Store) : D → Option String
  | .non => some "NoneType"
  | .bl _ => some "bool"
  | .int _ => some "int"
  | .str _ => some "str"
  | .tup _ => some "tuple"
  | .rol _ => some "list"
  | .ref n => (lstAt st n).map fun _ => "list"
  | _ => none
def isiT (a b : String) : Option Bool :=
  if (["NoneType", "bool", "int", "str", "tuple", "list"].contains a && ["bool", "int", "str", "tuple", "list"].contains b) = true then some (decide (a = b) || (decide (a = "bool") && decide (b = "int"))) else none
theorem isiT_ok {a b : String} {r : Bool} (h : isiT a b = some r) : kitB a b = some r := by
  have all : (["NoneType", "bool", "int", "str", "tuple", "list"].all fun a => ["bool", "int", "str", "tuple", "list"].all fun b => decide (kitB a b = some (decide (a = b) || (decide (a = "bool") && decide (b = "int"))))) = true := by decide +kernel
  unfold isiT at h
  split at h
  · rename_i c
    rw [Bool.and_eq_true] at c
    have z := List.all_eq_true.mp (List.all_eq_true.mp all a (List.contains_iff_mem.mp c.1)) b (List.contains_iff_mem.mp c.2)
    rw [of_decide_eq_true z]
    exact h
  · cases h
theorem ty_read {K : KW} {m : List Addr} {st : Store} {H : Hp} {d : D} {v : V} {t : String} (s : SS K m st H) (h : dTy st d = some t) (r : RD K m H d v) : TyX K H v (.type t) := by
  cases r with
  | non => cases h; exact .base .non
  | bl b => cases h; exact .base (.bl b)
  | int i => cases h; exact .base (.int i)
  | str x => cases h; exact .base (.str _)
  | tup q rs =>
    cases h
    rcases q with ⟨o, _, q⟩ | ⟨o, its, n, q1, q2, _⟩
    · exact .fTuple q
    · exact .kTuple q1 q2
  | rol q rs =>
    cases h
    rcases q with ⟨o, q⟩ | ⟨o, its, n, q1, q2, _⟩
    · exact .base (.frz q)
    · exact .kList q1 q2
  | ref q =>
    have h : (lstAt st _).map (fun _ => "list") = some t := h
    simp only [Option.map_eq_some_iff] at h
    obtain ⟨xs, e, rfl⟩ := h
    obtain ⟨vs, h1, h2⟩ := s.list e q
    exact .base (.lst h1)
  | _ => cases h
def fIsi : FM := fun ds st => match ds with
  | [d, .ty c] => match dTy st d with
    | some t => match isiT t c with
      | some b => .ok (.bl b) st
      | none => .bad
    | none => .bad
  | _ => .bad
theorem c_isi : CallM X (.builtin "isinstance") fIsi := ⟨_, call_isi, fun m st H ds vs E Q hS r hP => by
  unfold fIsi at hP
  split at hP
  · split at hP
    · rename_i t ht
      split at hP
      · rename_i b hb
        obtain ⟨v, u, rfl, r1, r2⟩ := r.two
        cases r2
        exact ⟨_, _, _, _, b, rfl, by constructor, ty_read hS ht r1, kit_ty (isiT_ok hb), hP.now hS (.bl _)⟩
      · exact hP.elim
    · exact hP.elim
  · exact hP.elim⟩

/-! ### fresh lists, sequences as arguments -/
/-- an expression that makes a list that nobody else has -/
structure El (X : Cx) (W : WX) (e : Expr) (f : EM (List D)) : Prop where
  run : ∀ (m : List Addr) (τ : Sl) (st : Store) (σ : L2.St) (H : Hp) (Q : VK), SL X.K m H τ σ → SS X.kw m st H →
    Pe X.kw (fun c d H' => W c d σ H') (fun m' H' ds v => ∃ a vs, v = .ref a ∧ H' a = some (.lst vs) ∧ a ∉ m' ∧ H a = none ∧ RDs X.K m' H' ds vs) m H (f τ st) Q → wE X e σ H Q
def eEl (f : EM (List D)) : EM D := fun τ st => (f τ st).bind fun ds s1 => .ok (.ref s1.length) (s1 ++ [.lst ds])
theorem Ext.back {K : KW} {m m1 : List Addr} {H H1 : Hp} {s1 : Store} {a : Addr} (e : Ext K m H m1 H1) (s : SS K m1 s1 H1) (h : H1 a = none) : H a = none := by
  cases q : H a with
  | none => rfl
  | some o =>
    by_cases hm : a ∈ m
    · exact absurd (e.mem hm) (s.notin h)
    · rw [e.frm a o hm q] at h
      cases h
theorem Ext.own {K : PySem.W.Frag} {m m1 : List Addr} {H H1 : Hp} {a : Addr} (e : Ext K m H m1 H1) (h : H a = none) : Ext K m H (m1 ++ [a]) H1 where
  pre := fun n b q => by
    have z := e.pre n b q
    rw [List.getElem?_append_left (List.getElem?_eq_some_iff.mp z).1]
    exact z
  tup := e.tup
  plt := e.plt
  fzl := e.fzl
  frm := e.frm
  new := fun b q n => by
    rcases List.mem_append.mp q with q | q
    · exact e.new b q n
    · have z : b = a := by simpa using q
      rw [z]
      exact h
theorem ex_el {fl : EM (List D)} (h : El X W e fl) : Ex X W e (eEl fl) := by
  refine ⟨fun m τ st σ H Q hL hS hP => h.run m τ st σ H Q hL hS ?_⟩
  unfold eEl at hP
  cases hq : fl τ st with
  | ok ds s1 =>
    rw [hq] at hP
    intro m1 H1 v e1 hS1 ⟨a, vs, e, ha, na, hn, rs⟩
    subst e
    refine hP (m1 ++ [a]) H1 (.ref a) (e1.own hn) (hS1.grow na ⟨vs, ha, rs.kp Kp.grow⟩) (.ref ?_)
    rw [← hS1.len]
    simp
  | exc x st' =>
    rw [hq] at hP
    exact hP
  | bad =>
    rw [hq] at hP
    exact hP.elim
/-- the items of an expression's list or tuple -/
structure Es (X : Cx) (W : WX) (e : Expr) (f : EM (List D)) : Prop where
  run : ∀ (m : List Addr) (τ : Sl) (st : Store) (σ : L2.St) (H : Hp) (Q : VK), SL X.K m H τ σ → SS X.kw m st H → Pe X.kw (fun c d H' => W c d σ H') (SqV X.K) m H (f τ st) Q → wE X e σ H Q
theorem es_el {fl : EM (List D)} (h : El X W e fl) : Es X W e fl := by
  refine ⟨fun m τ st σ H Q hL hS hP => h.run m τ st σ H Q hL hS ?_⟩
  cases hq : fl τ st with
  | ok ds s1 =>
    rw [hq] at hP
    intro m1 H1 v e1 hS1 ⟨a, vs, e, ha, na, hn, rs⟩
    exact hP m1 H1 v e1 hS1 ⟨a, vs, e, .inl (SqL.of ha), rs⟩
  | exc x st' =>
    rw [hq] at hP
    exact hP
  | bad =>
    rw [hq] at hP
    exact hP.elim
def sEx (f : EM D) : EM (List D) := fun τ st => (f τ st).bind fun d s1 => match dSeq s1 d with
  | some xs => .ok xs s1
  | none => .bad
theorem es_ex (h : Ex X W e f) : Es X W e (sEx f) := by
  refine ⟨fun m τ st σ H Q hL hS hP => h.run m τ st σ H Q hL hS (hP.bind fun d s1 m1 H1 v e1 hS1 r1 hP1 => ?_)⟩
  split at hP1
  · rename_i xs hx
    exact hP1.now hS1 (dSeq_read hS1 hx r1)
  · exact hP1.elim
/-- a built-in of one argument, by its items -/
abbrev SM1 := List D → Store → ER D
def CallS (X : Cx) (fv : Value) (g : SM1) : Prop :=
  ∃ r, CallR X fv r ∧ ∀ (m : List Addr) (st : Store) (H : Hp) (ds : List D) (v : V) (E : XK) (Q : VK), SS X.kw m st H → SqV X.K m H ds v → Pe X.kw E (RD X.K) m H (g ds st) Q → r [v] H Q
def eCS (g : SM1) (f : EM (List D)) : EM D := fun τ st => (f τ st).bind g
theorem ex_callBs {x : Str} {id : String} {g : SM1} {fl : EM (List D)} (hc : CallS X (.builtin id) g) (hg : Gl X x) (hm : X.mg x = none) (hv : bootBuiltins x = some (.builtin id)) (ha : Es X W e fl) (hn : x ≠ "__name__" := by decide) (hdb : (x == ("__debug__" : Str)) = false := by decide)
    (he : starEach [e] X.env = (false, eval e X.env) :: starEach [] X.env := by rfl) (hpl : (backTo pos (starEach [] X.env)).any (·.1) = false := by rfl) : Ex X W (.Call (.Name x p) [e] [] pos) (eCS g fl) := by
  obtain ⟨r, hr, h⟩ := hc
  refine ⟨fun m τ st σ H Q hL hS hP pins s I => (pe_callB hr hg hm hv (pa_cons peW pa_nil he) hn hdb he hpl).run pins s σ H Q I ?_⟩
  exact ha.run m τ st σ H _ hL hS (hP.bind fun ds s1 m1 H1 v e1 hS1 r1 hP1 => h m1 s1 H1 ds v _ Q hS1 r1 hP1)
theorem ex_callTs {x : Str} {T : String} {g : SM1} {fl : EM (List D)} (hc : CallS X (.type T) g) (hg : Gl X x) (hm : X.mg x = none) (hv : bootBuiltins x = some (.type T)) (ha : Es X W e fl) (hn : x ≠ "__name__" := by decide) (hdb : (x == ("__debug__" : Str)) = false := by decide)
    (he : starEach [e] X.env = (false, eval e X.env) :: starEach [] X.env := by rfl) (hpl : (backTo pos (starEach [] X.env)).any (·.1) = false := by rfl) : Ex X W (.Call (.Name x p) [e] [] pos) (eCS g fl) := by
  obtain ⟨r, hr, h⟩ := hc
  refine ⟨fun m τ st σ H Q hL hS hP pins s I => (pe_callTy hr hg hm hv (pa_cons peW pa_nil he) hn hdb he hpl).run pins s σ H Q I ?_⟩
  exact ha.run m τ st σ H _ hL hS (hP.bind fun ds s1 m1 H1 v e1 hS1 r1 hP1 => h m1 s1 H1 ds v _ Q hS1 r1 hP1)
def gTuple : SM1 := fun xs st => .ok (.tup xs) st
theorem s_tuple : CallS X (.type "tuple") gTuple := ⟨_, call_tuple_ofF, fun m st H ds v E Q hS r hP => by
  obtain ⟨a, vs, rfl, q, rs⟩ := r
  rcases q with q | q
  · exact ⟨a, vs, rfl, .inl ⟨q, hP.tup hS rs⟩⟩
  · exact ⟨a, vs, rfl, .inr ⟨q.sq, hP.now hS (.tup q rs)⟩⟩⟩
def gLen : SM1 := fun xs st => .ok (.int xs.length) st
theorem s_len : CallS X (.builtin "len") gLen := ⟨_, call_len_seq, fun m st H ds v E Q hS r hP => by
  obtain ⟨a, vs, rfl, q, rs⟩ := r
  refine ⟨a, vs, rfl, q.imp id PlT.sq, ?_⟩
  rw [← rs.len]
  exact hP.now hS (.int _)⟩

/-! ### targets -/
def wG (X : Cx) (tg : Expr) : TG := fun v σ H Q => ∀ (pins : List (Addr × Obj)) (s : Shared) (u : Value), Inv X pins σ H s → RelV v u → wpAny (model X.prog X.w) X.A (assign tg X.env u) (fun _ s' => ∃ σ' H', Inv X pins σ' H' s' ∧ Q σ' H') X.xe s
theorem pgW {X : Cx} {tg : Expr} : PG X tg (wG X tg) := ⟨fun pins s σ H v u Q I r h => h pins s u I r⟩
/-- a target: the slots at ix are set -/
structure Eg (X : Cx) (tg : Expr) (ix : List Nat) (set : D → Sl → Option Sl) : Prop where
  run : ∀ (m : List Addr) (τ τ' : Sl) (st : Store) (σ : L2.St) (H : Hp) (d : D) (v : V) (Q : L2.St → Hp → Prop), SL X.K m H τ σ → SS X.kw m st H → RD X.K m H d v → set d τ = some τ' →
    (∀ σ', σ'.length = σ.length → (∀ j, j ∉ ix → σ'[j]? = σ[j]?) → SL X.K m H τ' σ' → Q σ' H) → wG X tg v σ H Q
def gN (i : Nat) : D → Sl → Option Sl := fun d τ => some (τ.set i (some d))
theorem eg_name {i : Nat} {x : Str} (hN : X.N.Nodup) (hi : X.N[i]? = some x := by rfl) (hx : Loc X.env.scope x := by first | exact Or.inl rfl | exact Or.inr rfl) (hf : X.fn x = true ∨ X.env.scope.names.lookup x = some .local := by first | exact .inl rfl | exact .inr rfl) : Eg X (.Name x pos) [i] (gN i) := by
  refine ⟨fun m τ τ' st σ H d v Q hL hS r e k pins s u I ru => (pg_name hN hi hx hf).run pins s σ H v u Q I ru ?_⟩
  cases e
  exact k _ (by simp) (fun j hj => List.getElem?_set_ne (fun z => hj (by simp [z]))) (hL.set i r)
/-- several names, one after another -/
structure Egs (X : Cx) (ts : List Expr) (ix : List Nat) (set : List D → Sl → Option Sl) : Prop where
  run : ∃ t : TGs, PGs X ts t ∧ ∀ (m : List Addr) (τ τ' : Sl) (σ : L2.St) (H : Hp) (ds : List D) (vs : List V) (Q : L2.St → Hp → Prop), SL X.K m H τ σ → RDs X.K m H ds vs → set ds τ = some τ' →
    (∀ σ', σ'.length = σ.length → (∀ j, j ∉ ix → σ'[j]? = σ[j]?) → SL X.K m H τ' σ' → Q σ' H) → t vs σ H Q
def gNil0 : List D → Sl → Option Sl := fun ds τ => match ds with
  | [] => some τ
  | _ => none
theorem egs_nil : Egs X [] [] gNil0 := ⟨_, pgs_nil, fun m τ τ' σ H ds vs Q hL r e k => by
    cases r with
    | nil =>
      cases e
      exact ⟨rfl, k σ rfl (fun _ _ => rfl) hL⟩
    | cons _ _ => cases e⟩
def gCs (i : Nat) (set : List D → Sl → Option Sl) : List D → Sl → Option Sl := fun ds τ => match ds with
  | d :: r => set r (τ.set i (some d))
  | [] => none
theorem egs_cons {i : Nat} {ix : List Nat} {x : Str} {ts : List Expr} {set : List D → Sl → Option Sl} (hN : X.N.Nodup) (hr : Egs X ts ix set) (hi : X.N[i]? = some x := by rfl) (hx : Loc X.env.scope x := by first | exact Or.inl rfl | exact Or.inr rfl) (hf : X.fn x = true ∨ X.env.scope.names.lookup x = some .local := by first | exact .inl rfl | exact .inr rfl)
    (hs : (assignEach (.Name x pos :: ts) X.env).map (·.2) = assign (.Name x pos) X.env :: (assignEach ts X.env).map (·.2) := by rfl) : Egs X (.Name x pos :: ts) (i :: ix) (gCs i set) := by
  obtain ⟨t, ht, h⟩ := hr
  refine ⟨_, pgs_cons (pg_name hN hi hx hf) ht hs, fun m τ τ' σ H ds vs Q hL r e k => ?_⟩
  cases r with
  | nil => cases e
  | cons r1 r2 =>
    refine ⟨_, _, rfl, h m _ τ' _ H _ _ Q (hL.set i r1) r2 e fun σ' l q s => k σ' (by rw [l, List.length_set]) (fun j hj => ?_) s⟩
    rw [q j fun z => hj (List.mem_cons_of_mem _ z)]
    exact List.getElem?_set_ne (fun z => hj (by simp [z]))
def gT (n : Nat) (set : List D → Sl → Option Sl) : D → Sl → Option Sl := fun d τ => match d with
  | .tup ds => if ds.length = n then set ds τ else none
  | _ => none
theorem eg_tup {ts : List Expr} {kk : Nat} {ix : List Nat} {set : List D → Sl → Option Sl} {n : Nat} (hc : X.calm = true) (h : Egs X ts ix set) (hn : (assignEach ts X.env).length = n := by rfl) (hst : (assignEach ts X.env).findIdx? (·.1) = none := by rfl) : Eg X (.Tuple ts kk pos) ix (gT n set) := by
  obtain ⟨t, ht, h⟩ := h
  refine ⟨fun m τ τ' st σ H d v Q hL hS r e k pins s u I ru => (pg_tup hc ht hn hst).run pins s σ H v u Q I ru ?_⟩
  unfold gT at e
  split at e
  · split at e
    · rename_i hl
      cases r with
      | tup q rs => exact ⟨_, _, rfl, q.sq, by rw [← rs.len]; exact hl, h m τ τ' σ H _ _ Q hL rs e k⟩
    · cases e
  · cases e

/-! ### what is walked -/
inductive Sq where
  /-- items that stay -/
  | fix (xs : List D)
  /-- the items of a list of the store's, which must stay as long as it is walked -/
  | cell (n : Nat) (xs : List D)
  /-- pairs of the items of two lists of the store's -/
  | two (n k : Nat) (xs ys : List D)
  /-- pairs of the items of a list of the store's (the first one if l, otherwise the second one) and of a tuple -/
  | mix (l : Bool) (n : Nat) (xs ys : List D)
/-- pairs -/
def zipD (xs ys : List D) : List D := (List.zip xs ys).map fun p => .tup [p.1, p.2]
def Sq.items : Sq → List D
  | .fix xs => xs
  | .cell _ xs => xs
  | .two _ _ xs ys => zipD xs ys
  | .mix _ _ xs ys => zipD xs ys
def Sq.chk (q : Sq) (st : Store) : Bool := match q with
  | .fix _ => true
  | .cell n xs => decide (lstAt st n = some xs)
  | .two n k xs ys => decide (lstAt st n = some xs) && decide (lstAt st k = some ys)
  | .mix l n xs ys => decide (lstAt st n = some (if l then xs else ys))
def JOk (K : KW) (m0 : List Addr) (H0 : Hp) (q : Sq) (J : It) : Prop :=
  ∀ (m : List Addr) (H : Hp) (st : Store), Ext K m0 H0 m H → SS K m st H → q.chk st = true →
    (∀ (i : Nat) (d : D), q.items[i]? = some d → J.go i H ∧ ∀ x H', J.yld i H x H' → Ext K m H m H' ∧ SS K m st H' ∧ RD K m H' d x) ∧ J.stop q.items.length H
def wI (X : Cx) (tg iter : Expr) : TI := fun σ H R => ∀ (pins : List (Addr × Obj)) (s : Shared), Inv X pins σ H s → wpAny (model X.prog X.w) X.A (eval iter X.env) (fun v s1 => wpAny (model X.prog X.w) X.A (pyIter v) (PIE X pins σ tg R) X.xe s1) X.xe s
theorem piW {X : Cx} {tg iter : Expr} : PI X tg iter (wI X tg iter) := ⟨fun pins s σ H R I h => h pins s I⟩
structure Ei (X : Cx) (W : WX) (tg iter : Expr) (f : EM Sq) : Prop where
  run : ∀ (m : List Addr) (τ : Sl) (st : Store) (σ : L2.St) (H : Hp) (R : It → Hp → Prop), SL X.K m H τ σ → SS X.kw m st H → Pe X.kw (fun c d H' => W c d σ H') (JOk X.kw) m H (f τ st) R → wI X tg iter σ H R
theorem j_list {K : KW} {m0 : List Addr} {H0 : Hp} {a : Addr} {q : Sq} (h : ∀ (m : List Addr) (H : Hp) (st : Store), Ext K m0 H0 m H → SS K m st H → q.chk st = true → ∃ vs, SqL K H a vs ∧ RDs K m H q.items vs) : JOk K m0 H0 q (Itl K a) := fun m H st e s hc => by
  obtain ⟨vs, hq, rs⟩ := h m H st e s hc
  refine ⟨fun i d hd => ?_, ⟨vs, hq, by rw [rs.len]; exact Nat.le_refl _⟩⟩
  obtain ⟨v, hv, r⟩ := rs.get hd
  refine ⟨⟨vs, v, hq, hv⟩, fun x H' hy => ?_⟩
  obtain ⟨rfl, y⟩ := hy
  have z := y vs hq
  rw [hv] at z
  cases z
  exact ⟨.refl, s, r⟩
theorem j_tup {K : KW} {m0 : List Addr} {H0 : Hp} {a : Addr} {vs : List V} {xs : List D} (hq : SqT K H0 a vs) (rs : RDs K m0 H0 xs vs) : JOk K m0 H0 (.fix xs) (Itt K a) := fun m H st e s _ => by
  have hq' := e.tup a vs hq
  have rs' := rs.mono e
  refine ⟨fun i d hd => ?_, ⟨vs, hq', by show vs.length ≤ xs.length; rw [← rs.len]; exact Nat.le_refl _⟩⟩
  obtain ⟨v, hv, r⟩ := rs'.get (show xs[i]? = some d from hd)
  refine ⟨⟨vs, v, hq', hv⟩, fun x H' hy => ?_⟩
  obtain ⟨rfl, y⟩ := hy
  have z := y vs hq'
  rw [hv] at z
  cases z
  exact ⟨.refl, s, r⟩
def dSq (st : Store) : D → Option Sq
  | .tup xs => some (.fix xs)
  | .rol xs => some (.fix xs)
  | .ref n => (lstAt st n).map (.cell n)
  | .str x => some (.fix (x.map fun c => .str [c]))
  | _ => none
def iEx (f : EM D) : EM Sq := fun τ st => (f τ st).bind fun d s1 => match dSq s1 d with
  | some q => .ok q s1
  | none => .bad
theorem j_str {K : KW} {m0 : List Addr} {H0 : Hp} (x : List Nat) : JOk K m0 H0 (.fix (x.map fun c => .str [c])) (Its ⟨x.toArray⟩) := fun m H st e s _ => by
  refine ⟨fun i d hd => ?_, ?_⟩
  · have hd : (x.map fun c => D.str [c])[i]? = some d := hd
    rw [List.getElem?_map] at hd
    cases hx : x[i]? with
    | none =>
      rw [hx] at hd
      cases hd
    | some c =>
      rw [hx] at hd
      cases hd
      refine ⟨(List.getElem?_eq_some_iff.mp hx).1, fun y H' hy => ?_⟩
      obtain ⟨e, c', h1, h2⟩ := hy
      subst e
      have h3 : x[i]? = some c' := by simpa using h1
      rw [hx] at h3
      cases h3
      subst h2
      exact ⟨.refl, s, .str [c]⟩
  · show (⟨x.toArray⟩ : PySem.Str).cps.size ≤ (x.map fun c => D.str [c]).length
    simp
theorem ei_ex {tg : Expr} (h : Ex X W e f) : Ei X W tg e (iEx f) := by
  refine ⟨fun m τ st σ H R hL hS hP pins s I => ?_⟩
  unfold iEx at hP
  have hrun := h.run m τ st σ H
  cases hq : f τ st with
  | bad =>
    rw [hq] at hP
    exact hP.elim
  | exc x s1 =>
    rw [hq] at hP
    refine (pi_list (tg := tg) peW).run pins s σ H R I (hrun _ hL hS ?_)
    rw [hq]
    exact hP
  | ok d s1 =>
    rw [hq] at hP
    have hP : Pe X.kw (fun c d H' => W c d σ H') (JOk X.kw) m H (match dSq s1 d with
      | some q => .ok q s1
      | none => .bad) R := hP
    cases hd : dSq s1 d with
    | none =>
      rw [hd] at hP
      exact hP.elim
    | some q =>
      rw [hd] at hP
      cases d with
      | tup xs =>
        cases hd
        refine (pi_tup (tg := tg) peW).run pins s σ H R I (hrun _ hL hS ?_)
        rw [hq]
        intro m1 H1 v e1 hS1 r1
        cases r1 with
        | tup sq rs => exact ⟨_, rfl, ⟨_, sq.sq⟩, hP m1 H1 _ e1 hS1 (j_tup sq.sq rs)⟩
      | rol xs =>
        cases hd
        refine (pi_list (tg := tg) peW).run pins s σ H R I (hrun _ hL hS ?_)
        rw [hq]
        intro m1 H1 v e1 hS1 r1
        cases r1 with
        | rol sq rs => exact ⟨_, rfl, ⟨_, sq.sq⟩, hP m1 H1 _ e1 hS1 (j_list fun m H st e s _ => ⟨_, (e.fzl _ _ sq).sq, rs.mono e⟩)⟩
      | ref n =>
        have hd : (lstAt s1 n).map (Sq.cell n) = some q := hd
        simp only [Option.map_eq_some_iff] at hd
        obtain ⟨xs, hx, rfl⟩ := hd
        refine (pi_list (tg := tg) peW).run pins s σ H R I (hrun _ hL hS ?_)
        rw [hq]
        intro m1 H1 v e1 hS1 r1
        cases r1 with
        | ref z =>
          obtain ⟨vs, h1, h2⟩ := hS1.list hx z
          refine ⟨_, rfl, ⟨vs, SqL.of h1⟩, hP m1 H1 _ e1 hS1 (j_list fun m H st e s hc => ?_)⟩
          obtain ⟨us, h3, h4⟩ := s.list (of_decide_eq_true hc) (e.pre _ _ z)
          exact ⟨us, SqL.of h3, h4⟩
      | str x =>
        cases hd
        refine (pi_str (tg := tg) peW).run pins s σ H R I (hrun _ hL hS ?_)
        rw [hq]
        intro m1 H1 v e1 hS1 r1
        cases r1
        exact ⟨_, rfl, hP m1 H1 _ e1 hS1 (j_str x)⟩
      | _ => cases hd
def iEl (f : EM (List D)) : EM Sq := fun τ st => (f τ st).bind fun xs s1 => .ok (.fix xs) s1
theorem ei_el {tg : Expr} {fl : EM (List D)} (h : El X W e fl) : Ei X W tg e (iEl fl) := by
  refine ⟨fun m τ st σ H R hL hS hP pins s I => (pi_list (tg := tg) peW).run pins s σ H R I (h.run m τ st σ H _ hL hS ?_)⟩
  unfold iEl at hP
  cases hq : fl τ st with
  | ok ds s1 =>
    rw [hq] at hP
    intro m1 H1 v e1 hS1 ⟨a, vs, e, ha, na, hn, rs⟩
    exact ⟨a, e, ⟨vs, SqL.of ha⟩, hP m1 H1 _ e1 hS1 (j_list fun m H st e s _ => ⟨vs, SqL.of (e.frm _ _ na ha), rs.mono e⟩)⟩
  | exc x st' =>
    rw [hq] at hP
    exact hP
  | bad =>
    rw [hq] at hP
    exact hP.elim
/-- lo, lo + 1, .. below hi -/
def rng (lo hi : Int) : List D := (List.range (hi - lo).toNat).map fun k => D.int (lo + (k : Nat))
theorem j_rng {K : KW} {m0 : List Addr} {H0 : Hp} (lo hi : Int) : JOk K m0 H0 (.fix (rng lo hi)) (Itr lo (hi - lo).toNat) := fun m H st e s _ => by
  refine ⟨fun i d hd => ?_, ?_⟩
  · have hd : (rng lo hi)[i]? = some d := hd
    unfold rng at hd
    rw [List.getElem?_map] at hd
    cases hx : (List.range (hi - lo).toNat)[i]? with
    | none =>
      rw [hx] at hd
      cases hd
    | some k =>
      rw [hx] at hd
      cases hd
      obtain ⟨h1, h2⟩ := List.getElem?_eq_some_iff.mp hx
      rw [List.length_range] at h1
      rw [List.getElem_range] at h2
      subst h2
      refine ⟨h1, fun y H' hy => ?_⟩
      obtain ⟨rfl, rfl⟩ := hy
      exact ⟨.refl, s, .int _⟩
  · show (hi - lo).toNat ≤ (rng lo hi).length
    simp [rng]
def okRng (j : Int) : Bool := decide (j.natAbs < 4611686018427387904)
theorem okRng_ok {j : Int} (h : okRng j = true) : -(2 ^ 62) ≤ j ∧ j < 2 ^ 62 := by
  have q : j.natAbs < 4611686018427387904 := of_decide_eq_true h
  have q' : -4611686018427387904 ≤ j ∧ j < 4611686018427387904 := by omega
  exact q'
def iRg1 (f : EM D) : EM Sq := fun τ st => (f τ st).bind fun d s1 => match d with
  | .int j => if okRng j then .ok (.fix (rng 0 j)) s1 else .bad
  | _ => .bad
def iRg2 (fa fb : EM D) : EM Sq := fun τ st => (fa τ st).bind fun d s1 => (fb τ s1).bind fun e s2 => match d, e with
  | .int i, .int j => if okRng i && okRng j then .ok (.fix (rng i j)) s2 else .bad
  | _, _ => .bad
theorem ei_range1 {tg : Expr} (hg : Gl X "range") (hm : X.mg "range" = none) (ha : Ex X W a fa) (hs : starEach [a] X.env = [(false, eval a X.env)] := by rfl) : Ei X W tg (.Call (.Name "range" p) [a] [] pos) (iRg1 fa) := by
  refine ⟨fun m τ st σ H R hL hS hP pins s I => (pi_range1 (tg := tg) hg hm (pa_cons peW pa_nil (by rw [hs]; rfl)) hs).run pins s σ H R I (ha.run m τ st σ H _ hL hS (hP.bind fun d s1 m1 H1 v e1 hS1 r1 hP1 => ?_))⟩
  split at hP1
  · split at hP1
    · rename_i j hj
      cases r1
      obtain ⟨q1, q2⟩ := okRng_ok hj
      refine ⟨j, rfl, q1, q2, hP1.now hS1 ?_⟩
      have z := j_rng (K := X.kw) (m0 := m1) (H0 := H1) 0 j
      rw [Int.sub_zero] at z
      exact z
    · exact hP1.elim
  · exact hP1.elim
theorem ei_range2 {tg : Expr} (hg : Gl X "range") (hm : X.mg "range" = none) (ha : Ex X W a fa) (hb : Ex X W b fb) (hs : starEach [a, b] X.env = [(false, eval a X.env), (false, eval b X.env)] := by rfl) (hs2 : starEach [b] X.env = [(false, eval b X.env)] := by rfl) :
    Ei X W tg (.Call (.Name "range" p) [a, b] [] pos) (iRg2 fa fb) := by
  refine ⟨fun m τ st σ H R hL hS hP pins s I => (pi_range2 (tg := tg) hg hm (pa_cons peW (pa_cons peW pa_nil (by rw [hs2]; rfl)) (by rw [hs, hs2])) hs hs2).run pins s σ H R I ?_⟩
  refine two ha hb hL hS hP fun m2 st2 H2 dx dy x y e2 hS2 r1 r2 hP2 => ?_
  split at hP2
  · split at hP2
    · rename_i i j hij
      cases r1
      cases r2
      rw [Bool.and_eq_true] at hij
      obtain ⟨q1, q2⟩ := okRng_ok hij.1
      obtain ⟨q3, q4⟩ := okRng_ok hij.2
      exact ⟨i, j, rfl, ⟨q1, q2, q3, q4⟩, hP2.now hS2 (j_rng i j)⟩
    · exact hP2.elim
  · exact hP2.elim

/-! ### comprehensions -/
def wipeD (τ : Sl) : List Nat → Sl
  | [] => τ
  | v :: vs => (wipeD τ vs).set v none
theorem wipeD_some {τ : Sl} {i : Nat} {d : D} : ∀ {vs : List Nat}, (wipeD τ vs)[i]? = some (some d) → τ[i]? = some (some d) ∧ i ∉ vs
  | [], h => ⟨h, by simp⟩
  | v :: vs, h => by
    unfold wipeD at h
    by_cases hi : v = i
    · subst hi
      by_cases hv : v < (wipeD τ vs).length
      · rw [List.getElem?_set_self hv] at h
        cases h
      · rw [List.getElem?_eq_none (by simpa using hv)] at h
        cases h
    · rw [List.getElem?_set_ne hi] at h
      obtain ⟨h1, h2⟩ := wipeD_some h
      exact ⟨h1, by simp only [List.mem_cons, not_or]; exact ⟨fun e => hi e.symm, h2⟩⟩
theorem wipeD_len (τ : Sl) : ∀ vs : List Nat, (wipeD τ vs).length = τ.length
  | [] => rfl
  | v :: vs => by unfold wipeD; rw [List.length_set, wipeD_len τ vs]
theorem SL.wipe {K : PySem.W.Frag} {m : List Addr} {H : Hp} {τ : Sl} {σ : L2.St} (s : SL K m H τ σ) (vs : List Nat) : SL K m H (wipeD τ vs) (L2.wipe σ vs) :=
  ⟨by rw [wipeD_len, wipe_length, s.len], fun i d h => by
    obtain ⟨h1, h2⟩ := wipeD_some h
    obtain ⟨v, h3, h4⟩ := s.get i d h1
    exact ⟨v, by rw [wipe_out h2]; exact h3, h4⟩⟩
theorem wipe_same {σ σ' : L2.St} {vs : List Nat} (hl : σ'.length = σ.length) (h : ∀ j, j ∉ vs → σ'[j]? = σ[j]?) : L2.wipe σ' vs = L2.wipe σ vs := by
  apply List.ext_getElem?
  intro i
  by_cases hi : i ∈ vs
  · have z : ∀ (τ : L2.St) (us : List Nat), i ∈ us → (L2.wipe τ us)[i]? = if i < τ.length then some none else none := by
      intro τ us
      induction us with
      | nil => intro q; cases q
      | cons u us ih =>
        intro q
        unfold L2.wipe
        by_cases hu : u = i
        · subst hu
          split
          · rename_i hlt
            rw [List.getElem?_set_self (by rw [wipe_length]; exact hlt)]
          · rename_i hlt
            exact List.getElem?_eq_none (by rw [List.length_set, wipe_length]; omega)
        · rw [List.getElem?_set_ne hu]
          exact ih ((List.mem_cons.mp q).resolve_left fun e => hu e.symm)
    rw [z σ' vs hi, z σ vs hi, hl]
  · rw [wipe_out hi, wipe_out hi, h i hi]
/-- no exception leaves here -/
def _root_.HM.ER.bindN {α β : Type} (r : ER α) (k : α → Store → ER β) : ER β := match r with
  | .ok a st => k a st
  | _ => .bad
@[simp] theorem _root_.HM.ER.bindN_ok {α β : Type} (a : α) (st : Store) (k : α → Store → ER β) : (ER.ok a st).bindN k = k a st := rfl
theorem Pe.bindN {α β γ δ : Type} {K : KW} {E E' : XK} {R : List Addr → Hp → α → β → Prop} {S : List Addr → Hp → γ → δ → Prop} {m : List Addr} {H : Hp} {r : ER α} {Q : β → Hp → Prop} {k : α → Store → ER γ} {Q' : δ → Hp → Prop} (h : Pe K E S m H (r.bindN k) Q')
    (hk : ∀ a st m' H' b, Ext K m H m' H' → SS K m' st H' → R m' H' a b → Pe K E S m' H' (k a st) Q' → Q b H') : Pe K E' R m H r Q := by
  cases r with
  | ok a st => exact fun m' H' b e s q => hk a st m' H' b e s q (Pe.up h e)
  | exc x st => exact h.elim
  | bad => exact h
/-- .. read from an earlier heap -/
theorem Pe.from {α β γ δ : Type} {K : KW} {E E' : XK} {R : List Addr → Hp → α → β → Prop} {S : List Addr → Hp → γ → δ → Prop} {m m1 : List Addr} {H H1 : Hp} {r : ER α} {Q : β → Hp → Prop} {k : α → Store → ER γ} {Q' : δ → Hp → Prop} (h : Pe K E S m1 H1 (r.bindN k) Q')
    (hk : ∀ a st m' H' b, Ext K m H m' H' → SS K m' st H' → R m' H' a b → Pe K E S m1 H1 (k a st) Q' → Q b H') : Pe K E' R m H r Q := by
  cases r with
  | ok a st => exact fun m' H' b e s q => hk a st m' H' b e s q h
  | exc x st => exact h.elim
  | bad => exact h
/-- the turns of a comprehension -/
def compL (q : Sq) (set : D → Sl → Option Sl) (ft : EM Bool) (fe : EM D) (τ : Sl) : List D → List D → Store → ER (List D)
  | [], acc => fun st => if q.chk st then .ok acc st else .bad
  | d :: ds, acc => fun st => if q.chk st then match set d τ with
    | some τ1 => (ft τ1 st).bindN fun b s1 => if b then (fe τ1 s1).bindN fun x s2 => compL q set ft fe τ ds (acc ++ [x]) s2 else compL q set ft fe τ ds acc s1
    | none => .bad
  else .bad
def lComp (own : List Nat) (fi : EM Sq) (set : D → Sl → Option Sl) (ft : EM Bool) (fe : EM D) : EM (List D) := fun τ st => (fi τ st).bind fun q s1 =>
  if q.items.length ≤ 16777216 then compL q set ft fe (wipeD τ own) q.items [] s1 else .bad
/-- tests of a comprehension -/
def wTs (X : Cx) (ifs : List Expr) : TT := fun σ H Q => ∀ (pins : List (Addr × Obj)) (s : Shared), Inv X pins σ H s → wpAny (model X.prog X.w) X.A (forIn ifs true fun c r => if r = true then do let ok ← isTrue c X.env (eval c X.env); pure (ForInStep.yield ok) else pure (ForInStep.yield r)) (TP X pins σ Q) X.xe s
theorem ptsW {X : Cx} {ifs : List Expr} : PTs X ifs (wTs X ifs) := ⟨fun pins s σ H Q I h => h pins s I⟩
structure Ets (X : Cx) (W : WX) (ifs : List Expr) (f : EM Bool) : Prop where
  run : ∀ (m : List Addr) (τ : Sl) (st : Store) (σ : L2.St) (H : Hp) (Q : Bool → Hp → Prop), SL X.K m H τ σ → SS X.kw m st H → Pe X.kw (fun c d H' => W c d σ H') RB m H (f τ st) Q → wTs X ifs σ H Q
def tYes : EM Bool := fun _ st => .ok true st
theorem ets_nil : Ets X W [] tYes := ⟨fun m τ st σ H Q hL hS hP pins s I => pts_nil.run pins s σ H Q I (hP.now hS rfl)⟩
theorem ets_one (h : Et X W e g) : Ets X W [e] g := ⟨fun m τ st σ H Q hL hS hP pins s I => (pts_one ptW).run pins s σ H Q I (h.run m τ st σ H Q hL hS hP)⟩
abbrev W0 : WX := fun _ _ _ _ => False
/-- the context of a block, whatever it starts at -/
abbrev Blk (X : Cx) (scope : Scope) (P : Cx → Prop) : Prop := ∀ (s : Shared) (H : Hp) (C : Addr) (cl : List (Str × Addr)) (fp : List Addr), P (X.blk s H scope (compEnvC scope cl C X.env) fp)
abbrev BEx (X : Cx) (scope : Scope) (elt : Expr) (fe : EM D) : Prop := ∀ (s : Shared) (H : Hp) (C : Addr) (cl : List (Str × Addr)) (fp : List Addr), Ex (X.blk s H scope (compEnvC scope cl C X.env) fp) W0 elt fe
abbrev BEt (X : Cx) (scope : Scope) (ifs : List Expr) (ft : EM Bool) : Prop := ∀ (s : Shared) (H : Hp) (C : Addr) (cl : List (Str × Addr)) (fp : List Addr), Ets (X.blk s H scope (compEnvC scope cl C X.env) fp) W0 ifs ft
abbrev BEg (X : Cx) (scope : Scope) (tg : Expr) (ix : List Nat) (set : D → Sl → Option Sl) : Prop := ∀ (s : Shared) (H : Hp) (C : Addr) (cl : List (Str × Addr)) (fp : List Addr), Eg (X.blk s H scope (compEnvC scope cl C X.env) fp) tg ix set
def gAll (X : Cx) (scope : Scope) (tg : Expr) : TG := fun v σ H Q => Blk X scope fun Y => wG Y tg v σ H Q
def tAll (X : Cx) (scope : Scope) (ifs : List Expr) : TT := fun σ H Q => Blk X scope fun Y => wTs Y ifs σ H Q
def eAll (X : Cx) (scope : Scope) (e : Expr) : TE := fun σ H Q => Blk X scope fun Y => wE Y e σ H Q
/-- one turn after another -/
theorem comp_read {tg elt : Expr} {ifs : List Expr} {scope : Scope} {ix own : List Nat} {set : D → Sl → Option Sl} {ft : EM Bool} {fe : EM D} (hown : ∀ i ∈ ix, i ∈ own) (hg : BEg X scope tg ix set) (ht : BEt X scope ifs ft) (he : BEx X scope elt fe)
    {m0 : List Addr} {τ : Sl} {σ : L2.St} {H0 H1 : Hp} {st0 : Store} {m1 : List Addr} {q : Sq} {J : It} {Q : VK} {E : XK} (e1 : Ext X.K m0 H0 m1 H1) (hL : SL X.K m1 H1 τ σ) (hS : SS X.kw m1 st0 H1) (hJ : JOk X.kw m1 H1 q J) (hz : q.items.length ≤ 16777216)
    (hP : Pe X.kw E (fun m' H' ds v => ∃ a vs, v = .ref a ∧ H' a = some (.lst vs) ∧ a ∉ m' ∧ H0 a = none ∧ RDs X.K m' H' ds vs) m1 H1 (compL q set ft fe (wipeD τ own) q.items [] st0) Q) (D' : Addr) (hD : H1 D' = none) :
    ∃ W : Nat → Nat → Hp → Prop, (∃ m, W 0 m (upd H1 D' (.lst []))) ∧ ∀ i m H, W i m H →
      (J.stop i H ∧ Q (.ref D') H) ∨ (J.go i H ∧ ∃ Nx : Hp → Prop, (∀ H', Nx H' → ∃ m', m' < m ∧ W (i + 1) m' H') ∧ ∀ x H', J.yld i H x H' → gAll X scope tg x (L2.wipe σ own) H' fun σ2 H2 => L2.wipe σ2 own = L2.wipe σ own ∧ tAll X scope ifs σ2 H2 fun b H3 =>
        if b = true then eAll X scope elt σ2 H3 fun y H4 => ∃ acc, H4 D' = some (.lst acc) ∧ acc.length < sizeLine ∧ Nx (upd H4 D' (.lst (acc ++ [y]))) else Nx H3) := by
  have hD0 : H0 D' = none := e1.back hS hD
  have hn : D' ∉ m1 := hS.notin hD
  obtain ⟨Z, hZ⟩ : ∃ Z : Nat → Hp → Prop, Z = fun i H => i ≤ q.items.length ∧ ∃ (m : List Addr) (st : Store) (acc : List D) (vs : List V), Ext X.K m1 H1 m H ∧ D' ∉ m ∧ SS X.kw m st H ∧ H D' = some (.lst vs) ∧ RDs X.K m H acc vs ∧ acc.length ≤ i ∧
    Pe X.kw E (fun m' H' ds v => ∃ a vs, v = .ref a ∧ H' a = some (.lst vs) ∧ a ∉ m' ∧ H0 a = none ∧ RDs X.K m' H' ds vs) m1 H1 (compL q set ft fe (wipeD τ own) (q.items.drop i) acc st) Q := ⟨_, rfl⟩
  refine ⟨fun i k H => k = q.items.length - i ∧ Z i H, ⟨_, rfl, ?_⟩, ?_⟩
  · rw [hZ]
    refine ⟨Nat.zero_le _, m1, st0, [], [], Ext.fresh hD, hn, hS.fresh hD, upd_same, .nil, Nat.le_refl _, ?_⟩
    rw [List.drop_zero]
    exact hP
  · rintro i k H ⟨rfl, hZi⟩
    rw [hZ] at hZi
    obtain ⟨hi, m, st, acc, vs, e, hm, s, hd, rs, hacc, hP⟩ := hZi
    by_cases hlt : i < q.items.length
    · rw [List.drop_eq_getElem_cons hlt] at hP
      unfold compL at hP
      split at hP
      · rename_i hc
        obtain ⟨hgo, _⟩ := hJ m H st e s hc
        obtain ⟨go, yl⟩ := hgo i q.items[i] (by simp [hlt])
        split at hP
        · rename_i τ1 hset
          refine .inr ⟨go, Z (i + 1), fun H' h => ⟨q.items.length - (i + 1), by omega, rfl, h⟩, fun x H' hy s0 H0' C cl fp => ?_⟩
          obtain ⟨e2, s2, r2⟩ := yl x H' hy
          refine (hg s0 H0' C cl fp).run m _ τ1 st _ H' _ x _ ((hL.mono (e.trans e2)).wipe own) s2 r2 hset fun σ2 l1 l2 hL2 => ?_
          have l3 : σ2.length = σ.length := by rw [l1, wipe_length]
          have l4 : ∀ j, j ∉ own → σ2[j]? = σ[j]? := fun j hj => by rw [l2 j fun z => hj (hown j z), wipe_out hj]
          refine ⟨wipe_same l3 l4, fun s0 H0' C cl fp => ?_⟩
          have keep : ∀ {m' : List Addr} {H' : Hp}, Ext X.K m H m' H' → H' D' = some (.lst vs) ∧ D' ∉ m' := fun {m' H'} e => by
            refine ⟨e.frm D' _ hm hd, fun z => ?_⟩
            have q := e.new D' z hm
            rw [hd] at q
            cases q
          refine (ht s0 H0' C cl fp).run m τ1 st σ2 H' _ hL2 s2 (Pe.from (m := m) (H := H') hP fun b s3 m3 H3 b' e3 hS3 r3 hP3 => ?_)
          subst r3
          cases b with
          | false =>
            refine iteF ?_
            rw [hZ]
            obtain ⟨k1, k2⟩ := keep (e2.trans e3)
            exact ⟨by omega, m3, s3, acc, vs, e.trans (e2.trans e3), k2, hS3, k1, rs.mono (e2.trans e3), by omega, hP3⟩
          | true =>
            refine iteT fun s0 H0' C cl fp => (he s0 H0' C cl fp).run m3 τ1 s3 σ2 H3 _ (hL2.mono e3) hS3 (Pe.from (m := m3) (H := H3) (k := fun x s2 => compL q set ft fe (wipeD τ own) (List.drop (i + 1) q.items) (acc ++ [x]) s2) hP3 fun y s4 m4 H4 y' e4 hS4 r4 hP4 => ?_)
            obtain ⟨k1, k2⟩ := keep ((e2.trans e3).trans e4)
            have rs4 := rs.mono ((e2.trans e3).trans e4)
            have hz' : vs.length < sizeLine := by
              rw [← rs.len, PySem.sizeLine_eq]
              omega
            have e5 : Ext X.K m1 H1 m4 H4 := e.trans ((e2.trans e3).trans e4)
            have e6 : Ext X.K m1 H1 m4 (upd H4 D' (.lst (vs ++ [y']))) := {
              pre := e5.pre
              tup := fun a us h => (Kp.write (K := X.K) (m := m4) k1).tup a us (e5.tup a us h)
              plt := fun a us h => (Kp.write (K := X.K) (m := m4) k1).plt a us (e5.plt a us h)
              fzl := fun a us h => (Kp.write (K := X.K) (m := m4) k1).fzl a us (e5.fzl a us h)
              frm := fun a o q h => by
                rw [upd_ne (ne_of_none h hD)]
                exact e5.frm a o q h
              new := e5.new }
            refine ⟨vs, k1, hz', ?_⟩
            rw [hZ]
            refine ⟨by omega, m4, s4, acc ++ [y], vs ++ [y'], e6, k2, hS4.other k1 k2, upd_same, (rs4.append (.cons r4 .nil)).kp (Kp.write k1), by rw [List.length_append, List.length_singleton]; omega, ?_⟩
            exact hP4
        · exact hP.elim
      · exact hP.elim
    · have e0 : i = q.items.length := by omega
      subst e0
      rw [List.drop_length] at hP
      unfold compL at hP
      split at hP
      · rename_i hc
        obtain ⟨_, stop⟩ := hJ m H st e s hc
        exact .inl ⟨stop, hP m H (.ref D') e s ⟨D', vs, rfl, hd, hm, hD0, rs⟩⟩
      · exact hP.elim
end
end HM

/-! HM, part 6: list comprehensions, statements. -/
namespace HM
open PySem PySem.Spec PyProof.Rows L2
section
variable {X : Cx} {W : WX} {e a b c : Expr} {es rest : List Expr} {pos p : Pos} {f fa fb fc : EM D} {fs : EM (List D)} {g ga gb : EM Bool}
theorem comp_post {tg elt iter : Expr} {ifs : List Expr} {scope : Scope} {own : List (Str × Nat)} {ix : List Nat} {set : D → Sl → Option Sl} {ft : EM Bool} {fe : EM D} {fi : EM Sq} (hi : Ei X W tg iter fi) (hown : ∀ i ∈ ix, i ∈ own.map (·.2))
    (hg : BEg X scope tg ix set) (ht : BEt X scope ifs ft) (he : BEx X scope elt fe) {m : List Addr} {τ : Sl} {st : Store} {σ : L2.St} {H : Hp} {Q : VK} (hL : SL X.K m H τ σ) (hS : SS X.kw m st H)
    (hP : Pe X.kw (fun c d H' => W c d σ H') (fun m' H' ds v => ∃ a vs, v = .ref a ∧ H' a = some (.lst vs) ∧ a ∉ m' ∧ H a = none ∧ RDs X.K m' H' ds vs) m H (lComp (own.map (·.2)) fi set ft fe τ st) Q) :
    tLc (wI X tg iter) (gAll X scope tg) (tAll X scope ifs) (eAll X scope elt) (own.map (·.2)) σ H Q := by
  unfold lComp at hP
  refine hi.run m τ st σ H _ hL hS ?_
  cases hq : fi τ st with
  | bad =>
    rw [hq] at hP
    exact hP.elim
  | exc x s1 =>
    rw [hq] at hP
    exact hP
  | ok q s1 =>
    rw [hq] at hP
    intro m1 H1 J e1 hS1 hJ D' hD
    have hP : Pe X.kw (fun c d H' => W c d σ H') (fun m' H' ds v => ∃ a vs, v = .ref a ∧ H' a = some (.lst vs) ∧ a ∉ m' ∧ H a = none ∧ RDs X.K m' H' ds vs) m H (if q.items.length ≤ 16777216 then compL q set ft fe (wipeD τ (own.map (·.2))) q.items [] s1 else .bad) Q := hP
    split at hP
    · rename_i hz
      exact comp_read (E := fun c d H' => W c d σ H') hown hg ht he e1 (hL.mono e1) hS1 hJ hz (hP.up e1) D' hD
    · exact hP.elim
theorem el_comp {tg elt iter : Expr} {ifs : List Expr} {scope : Scope} {own : List (Str × Nat)} {ix : List Nat} {set : D → Sl → Option Sl} {ft : EM Bool} {fe : EM D} {fi : EM Sq} (hc : X.calm = true) (hN : X.N.Nodup) (hi : Ei X W tg iter fi) (ok : BlkOk X.N X.env.scope scope own)
    (hg : BEg X scope tg ix set) (ht : BEt X scope ifs ft) (he : BEx X scope elt fe) (hown : ∀ i ∈ ix, i ∈ own.map (·.2) := by decide) (hs : ∀ x, foldedSetIterable iter X.env x = pure x := by intro _; rfl) :
    El X W (.ListComp elt [⟨tg, iter, ifs, 0⟩] scope pos) (lComp (own.map (·.2)) fi set ft fe) := by
  refine ⟨fun m τ st σ H Q hL hS hP pins s I => ?_⟩
  refine (pe_lc (g := gAll X scope tg) (tt := tAll X scope ifs) (te := eAll X scope elt) hc hN piW ok ?_ ?_ ?_ hs).run pins s σ H Q I (comp_post hi hown hg ht he hL hS hP)
  · exact fun s H C cl fp => ⟨fun pins s' σ H' v u Q I r h => h s H C cl fp pins s' u I r⟩
  · exact fun s H C cl fp => ⟨fun pins s' σ H' Q I h => h s H C cl fp pins s' I⟩
  · exact fun s H C cl fp => ⟨fun pins s' σ H' Q I h => h s H C cl fp pins s' I⟩
end

/-! ### statements -/
/-- behind a statement -/
def Ps (K : KW) (W : WX) (m : List Addr) (H : Hp) (r : SR) (D : Ends) : Prop := match r with
  | .nx τ st => ∀ m' H' σ, Ext K m H m' H' → SS K m' st H' → SL K m' H' τ σ → D.nx σ H'
  | .bk τ st => ∀ m' H' σ, Ext K m H m' H' → SS K m' st H' → SL K m' H' τ σ → D.bk σ H'
  | .ct τ st => ∀ m' H' σ, Ext K m H m' H' → SS K m' st H' → SL K m' H' τ σ → D.ct σ H'
  | .rt d st => ∀ m' H' v, Ext K m H m' H' → SS K m' st H' → RD K m' H' d v → D.rt v H'
  | .exc x τ st => ∀ m' H' σ c d, Ext K m H m' H' → SS K m' st H' → SL K m' H' τ σ → XR K m' H' x c d → W c d σ H'
  | .bad => False
theorem Ps.up {K : KW} {W : WX} {m m1 : List Addr} {H H1 : Hp} {r : SR} {D : Ends} (h : Ps K W m H r D) (e : Ext K m H m1 H1) : Ps K W m1 H1 r D := by
  cases r with
  | nx τ st => exact fun m' H' σ e' => h m' H' σ (e.trans e')
  | bk τ st => exact fun m' H' σ e' => h m' H' σ (e.trans e')
  | ct τ st => exact fun m' H' σ e' => h m' H' σ (e.trans e')
  | rt d st => exact fun m' H' σ e' => h m' H' σ (e.trans e')
  | exc x τ st => exact fun m' H' σ c d e' => h m' H' σ c d (e.trans e')
  | bad => exact h
def wS (X : Cx) (st : Stmt) : TS := fun D σ H => ∀ (pins : List (Addr × Obj)) (s : Shared), Inv X pins σ H s → wpAny (model X.prog X.w) X.A (exec st X.env) (SP X pins D) X.xe s
def wSs (X : Cx) (st : List Stmt) : TS := fun D σ H => ∀ (pins : List (Addr × Obj)) (s : Shared), Inv X pins σ H s → wpAny (model X.prog X.w) X.A (execs st X.env) (SP X pins D) X.xe s
theorem psW {X : Cx} {st : Stmt} : PS X st (wS X st) := ⟨fun pins s σ H D I h => h pins s I⟩
theorem pssW {X : Cx} {st : List Stmt} : PSs X st (wSs X st) := ⟨fun pins s σ H D I h => h pins s I⟩
structure Sx (X : Cx) (W : WX) (st : Stmt) (f : SM) : Prop where
  run : ∀ (m : List Addr) (τ : Sl) (s : Store) (σ : L2.St) (H : Hp) (D : Ends), SL X.K m H τ σ → SS X.kw m s H → Ps X.kw W m H (f τ s) D → wS X st D σ H
structure Sxs (X : Cx) (W : WX) (st : List Stmt) (f : SM) : Prop where
  run : ∀ (m : List Addr) (τ : Sl) (s : Store) (σ : L2.St) (H : Hp) (D : Ends), SL X.K m H τ σ → SS X.kw m s H → Ps X.kw W m H (f τ s) D → wSs X st D σ H
/-- an expression, then the rest of a statement -/
def bindE {α : Type} (r : ER α) (τ : Sl) (k : α → Store → SR) : SR := match r with
  | .ok a st => k a st
  | .exc x st => .exc x τ st
  | .bad => .bad
@[simp] theorem bindE_ok {α : Type} (a : α) (st : Store) (τ : Sl) (k : α → Store → SR) : bindE (.ok a st) τ k = k a st := rfl
@[simp] theorem bindE_exc {α : Type} (x : Xc) (st : Store) (τ : Sl) (k : α → Store → SR) : bindE (.exc x st : ER α) τ k = .exc x τ st := rfl
@[simp] theorem bindE_bad {α : Type} (τ : Sl) (k : α → Store → SR) : bindE (.bad : ER α) τ k = .bad := rfl
theorem Ps.bind {α β : Type} {K : KW} {W : WX} {R : List Addr → Hp → α → β → Prop} {m : List Addr} {H : Hp} {r : ER α} {τ : Sl} {σ : L2.St} {k : α → Store → SR} {D : Ends} {Q : β → Hp → Prop} (hL : SL K m H τ σ) (h : Ps K W m H (bindE r τ k) D)
    (hk : ∀ a st m' H' b, Ext K m H m' H' → SS K m' st H' → R m' H' a b → Ps K W m' H' (k a st) D → Q b H') : Pe K (fun c d H' => W c d σ H') R m H r Q := by
  cases r with
  | ok a st => exact fun m' H' b e s q => hk a st m' H' b e s q (Ps.up h e)
  | exc x st => exact fun m' H' c d e s q => h m' H' σ c d e s (hL.mono e) q
  | bad => exact h
def sSeq (f g : SM) : SM := fun τ st => match f τ st with
  | .nx τ1 s1 => g τ1 s1
  | r => r
def sNil : SM := fun τ st => .nx τ st
section
variable {X : Cx} {W : WX} {e a b c : Expr} {es rest : List Expr} {pos p : Pos} {fa fb fc fe : EM D} {fs : EM (List D)} {g ga gb : EM Bool} {s1 : Stmt} {ss body : List Stmt} {f h k : SM}
theorem sx_nil : Sxs X W [] sNil := ⟨fun m τ s σ H D hL hS hP pins sh I => pss_nil.run pins sh σ H D I (hP m H σ .refl hS hL)⟩
theorem sx_cons (h1 : Sx X W s1 f) (h2 : Sxs X W ss h) : Sxs X W (s1 :: ss) (sSeq f h) := by
  refine ⟨fun m τ s σ H D hL hS hP pins sh I => (pss_cons psW pssW).run pins sh σ H D I (h1.run m τ s σ H _ hL hS ?_)⟩
  unfold sSeq at hP
  cases hq : f τ s with
  | nx τ1 s1 =>
    rw [hq] at hP
    exact fun m1 H1 σ1 e1 hS1 hL1 => h2.run m1 τ1 s1 σ1 H1 D hL1 hS1 (hP.up e1)
  | bk τ1 s1 =>
    rw [hq] at hP
    exact hP
  | ct τ1 s1 =>
    rw [hq] at hP
    exact hP
  | rt d s1 =>
    rw [hq] at hP
    exact hP
  | exc x τ1 s1 =>
    rw [hq] at hP
    exact hP
  | bad =>
    rw [hq] at hP
    exact hP
theorem sx_one (h1 : Sx X W s1 f) : Sxs X W [s1] f := by
  refine ⟨fun m τ s σ H D hL hS hP pins sh I => (pss_one psW).run pins sh σ H D I (h1.run m τ s σ H _ hL hS hP)⟩
theorem sx_pass : Sx X W (.Pass pos) sNil := ⟨fun m τ s σ H D hL hS hP pins sh I => ps_pass.run pins sh σ H D I (hP m H σ .refl hS hL)⟩
def sBrk : SM := fun τ st => .bk τ st
def sCnt : SM := fun τ st => .ct τ st
theorem sx_break : Sx X W (.Break pos) sBrk := ⟨fun m τ s σ H D hL hS hP pins sh I => ps_break.run pins sh σ H D I (hP m H σ .refl hS hL)⟩
theorem sx_continue : Sx X W (.Continue pos) sCnt := ⟨fun m τ s σ H D hL hS hP pins sh I => ps_continue.run pins sh σ H D I (hP m H σ .refl hS hL)⟩
def sRet (fe : EM D) : SM := fun τ st => bindE (fe τ st) τ fun d s1 => .rt d s1
theorem sx_ret (he : Ex X W e fe) : Sx X W (.Return (some e) pos) (sRet fe) := by
  refine ⟨fun m τ s σ H D hL hS hP pins sh I => (ps_ret peW).run pins sh σ H D I ?_⟩
  exact he.run m τ s σ H _ hL hS (hP.bind hL fun d s1 m1 H1 v e1 hS1 r1 hP1 => hP1 m1 H1 v .refl hS1 r1)
def sRetN : SM := fun _ st => .rt .non st
theorem sx_retN : Sx X W (.Return none pos) sRetN := ⟨fun m τ s σ H D hL hS hP pins sh I => ps_retN.run pins sh σ H D I (hP m H .non .refl hS .non)⟩
def sExpr (fe : EM D) : SM := fun τ st => bindE (fe τ st) τ fun _ s1 => .nx τ s1
theorem sx_expr (he : Ex X W e fe) (hs : swapsWith e none pos.line X.env = pure false := by rfl) : Sx X W (.Expr e pos) (sExpr fe) := by
  refine ⟨fun m τ s σ H D hL hS hP pins sh I => (ps_expr peW hs).run pins sh σ H D I ?_⟩
  exact he.run m τ s σ H _ hL hS (hP.bind hL fun d s1 m1 H1 v e1 hS1 r1 hP1 => hP1 m1 H1 σ .refl hS1 (hL.mono e1))
def sIf (g : EM Bool) (f h : SM) : SM := fun τ st => bindE (g τ st) τ fun b s1 => if b then f τ s1 else h τ s1
theorem sx_if {sa sb : List Stmt} (hc : Et X W c g) (ha : Sxs X W sa f) (hb : Sxs X W sb h) : Sx X W (.If c sa sb pos) (sIf g f h) := by
  refine ⟨fun m τ s σ H D hL hS hP pins sh I => (ps_if ptW pssW pssW).run pins sh σ H D I ?_⟩
  refine hc.run m τ s σ H _ hL hS (hP.bind hL fun d s1 m1 H1 v e1 hS1 r1 hP1 => ?_)
  subst r1
  cases d with
  | true => exact iteT (ha.run m1 τ s1 σ H1 D (hL.mono e1) hS1 hP1)
  | false => exact iteF (hb.run m1 τ s1 σ H1 D (hL.mono e1) hS1 hP1)
/-- name = e -/
def sSet (i : Nat) (fe : EM D) : SM := fun τ st => bindE (fe τ st) τ fun d s1 => .nx (τ.set i (some d)) s1
theorem sx_set {i : Nat} {x : Str} {pos' : Pos} (hN : X.N.Nodup) (he : Ex X W e fe) (hi : X.N[i]? = some x := by rfl) (hx : Loc X.env.scope x := by first | exact Or.inl rfl | exact Or.inr rfl) (hs : swapsWith e (some (.Name x pos')) pos.line X.env = pure false := by rfl)
    (hf : X.fn x = true ∨ X.env.scope.names.lookup x = some .local := by first | exact .inl rfl | exact .inr rfl) : Sx X W (.Assign [.Name x pos'] e pos) (sSet i fe) := by
  refine ⟨fun m τ s σ H D hL hS hP pins sh I => (ps_set hN hi hx peW hs hf).run pins sh σ H D I ?_⟩
  exact he.run m τ s σ H _ hL hS (hP.bind hL fun d s1 m1 H1 v e1 hS1 r1 hP1 => hP1 m1 H1 _ .refl hS1 ((hL.mono e1).set i r1))
/-- target = e -/
def sAsg (set : D → Sl → Option Sl) (fe : EM D) : SM := fun τ st => bindE (fe τ st) τ fun d s1 => match set d τ with
  | some τ1 => .nx τ1 s1
  | none => .bad
theorem sx_asg {tg : Expr} {ix : List Nat} {set : D → Sl → Option Sl} (he : Ex X W e fe) (hg : Eg X tg ix set) (hs : swapsWithSole [tg] e pos.line X.env = pure false := by rfl) (hw : swappedStores [tg] e X.env = pure none := by rfl) (h1 : (assignEach [tg] X.env).map (·.2) = [assign tg X.env] := by rfl) : Sx X W (.Assign [tg] e pos) (sAsg set fe) := by
  refine ⟨fun m τ s σ H D hL hS hP pins sh I => (ps_asg peW pgW hs hw h1).run pins sh σ H D I ?_⟩
  refine he.run m τ s σ H _ hL hS (hP.bind hL fun d s1 m1 H1 v e1 hS1 r1 hP1 => ?_)
  split at hP1
  · rename_i τ1 hset
    exact hg.run m1 τ τ1 s1 σ H1 d v _ (hL.mono e1) hS1 r1 hset fun σ2 _ _ hL2 => hP1 m1 H1 σ2 .refl hS1 hL2
  · exact hP1.elim
/-- name op= e -/
def sAug (i : Nat) (o : O2) (fe : EM D) : SM := fun τ st => match τ[i]? with
  | some (some x) => bindE (fe τ st) τ fun y s1 => bindE (o x y s1) τ fun z s2 => .nx (τ.set i (some z)) s2
  | _ => .bad
theorem sx_aug {i : Nat} {x : Str} {pos' : Pos} {op : Operator} {o : O2} (hN : X.N.Nodup) (he : Ex X W e fe) (ho : OpM X W (inplaceOp op) o) (hi : X.N[i]? = some x := by rfl) (hx : Loc X.env.scope x := by first | exact Or.inl rfl | exact Or.inr rfl)
    (hf : X.fn x = true ∨ X.env.scope.names.lookup x = some .local := by first | exact .inl rfl | exact .inr rfl) : Sx X W (.AugAssign (.Name x pos') op e pos) (sAug i o fe) := by
  refine ⟨fun m τ s σ H D hL hS hP pins sh I => ?_⟩
  unfold sAug at hP
  split at hP
  · rename_i d0 hd0
    obtain ⟨v0, h1, h2⟩ := hL.get i d0 hd0
    obtain ⟨mm, hn, hl⟩ := I.loc
    have vis : Vis X.env.scope x := by
      rcases hx with k | k
      · exact .inl k
      · exact .inr (.inl k)
    obtain ⟨u0, r0, l⟩ := hl i x v0 hi h1 vis
    refine wpAny_AugAssign_Name ?_
    have go : wpAny (model X.prog X.w) X.A (eval e X.env) (fun w s₂ => wpAny (model X.prog X.w) X.A (inplaceOp op u0 w) (fun r s₃ => wpAny (model X.prog X.w) X.A (storeName X.env x r) (fun _ => SP X pins D .next) X.xe s₃) X.xe s₂) X.xe sh := by
      refine thn (he.run m τ s σ H (fun y H1 => wR2 X (inplaceOp op) σ v0 y H1 fun z H2 => D.nx (σ.set i (some z)) H2) hL hS (hP.bind hL fun dy s1 m1 H1 y e1 hS1 r1 hP1 pins s v u I rx ry => ?_) pins sh I) fun w s1 ⟨y, H1, I1, r1, q1⟩ => ?_
      · exact ho m1 s1 σ H1 d0 dy v0 y _ hS1 (h2.mono e1) r1 (hP1.bind (hL.mono e1) fun dz s2 m2 H2 z e2 hS2 r2 hP2 => hP2 m2 H2 _ .refl hS2 (((hL.mono e1).mono e2).set i r2)) pins s v u I rx ry
      · refine thn (q1 pins s1 u0 w I1 r0 r1) fun z s2 ⟨zv, H2, I2, r2, q2⟩ => ?_
        exact store_ok I2 hN hi hx r2 (fun s3 I3 => ⟨_, H2, I3, q2⟩) hf
    rcases l with ⟨hk, hm⟩ | ⟨hk, c, hc, hcell⟩
    · exact wpAny_loadName_local I.ok.kind hk hn hm go
    · rcases hk with hk | hk
      · exact wpAny_loadName_cell I.ok.kind hk hc hcell go
      · rcases hx with k | k
        · have : X.env.scope.names.lookup x = some .free := hk
          rw [k] at this
          cases this
        · have : X.env.scope.names.lookup x = some .free := hk
          rw [k] at this
          cases this
  · exact hP.elim
/-- o[i] = e (a list) -/
def oSetS : D → D → D → Store → Option Store := fun o i v st => match o, i with
  | .ref n, .int k => match lstAt st n with
    | some xs => match ixN xs.length k with
      | some j => some (st.set n (.lst (xs.set j v)))
      | none => none
    | none => none
  | _, _ => none
/-- the order: the value, then the object, then the index -/
def sSubS (fo fi fe : EM D) : SM := fun τ st => bindE (fe τ st) τ fun v s1 => bindE (fo τ s1) τ fun o s2 => bindE (fi τ s2) τ fun i s3 => match oSetS o i v s3 with
  | some s4 => .nx τ s4
  | none => .bad
theorem set_readS {K : KW} {m : List Addr} {st st' : Store} {H : Hp} {o i v : D} {vo vi vv : V} (hS : SS K m st H) (ro : RD K m H o vo) (ri : RD K m H i vi) (rv : RD K m H v vv) (h : oSetS o i v st = some st') :
    ∃ p xs k j, vo = .ref p ∧ vi = .int k ∧ H p = some (.lst xs) ∧ ixN xs.length k = some j ∧ Ext K m H m (upd H p (.lst (xs.set j vv))) ∧ SS K m st' (upd H p (.lst (xs.set j vv))) := by
  unfold oSetS at h
  split at h
  · split at h
    · rename_i xs hx
      split at h
      · rename_i j hj
        cases h
        cases ro with
        | ref q =>
          cases ri
          obtain ⟨vs, h1, h2⟩ := hS.list hx q
          exact ⟨_, vs, _, j, rfl, rfl, h1, by rw [← h2.len]; exact hj, Ext.write h1 q, hS.write h1 q (h2.set rv j)⟩
      · cases h
    · cases h
  · cases h
theorem sx_subS {o i : Expr} {p' : Pos} {fo fi : EM D} (he : Ex X W e fe) (ho : Ex X W o fo) (hi : Ex X W i fi)
    (ha : ∀ v, assign (.Subscript o i p') X.env v = (do
      let ov ← holding [v] (eval o X.env)
      let iv ← holding [v, ov] (eval i X.env)
      standAt p'
      holding [v, ov, iv] (setItem ov iv v)
      release [v, ov, iv] []) := by intro _; rfl)
    (hs : swapsWithSole [.Subscript o i p'] e pos.line X.env = pure false := by rfl) (hw : swappedStores [.Subscript o i p'] e X.env = pure none := by rfl) (h1 : (assignEach [.Subscript o i p'] X.env).map (·.2) = [assign (.Subscript o i p') X.env] := by rfl) : Sx X W (.Assign [.Subscript o i p'] e pos) (sSubS fo fi fe) := by
  refine ⟨fun m τ s σ H D hL hS hP pins sh I => (ps_asg peW (pg_sub peW peW set_list ha) hs hw h1).run pins sh σ H D I ?_⟩
  refine he.run m τ s σ H _ hL hS (hP.bind hL fun v s1 m1 H1 vv e1 hS1 r1 hP1 => ?_)
  refine ho.run m1 τ s1 σ H1 _ (hL.mono e1) hS1 (hP1.bind (hL.mono e1) fun o s2 m2 H2 vo e2 hS2 r2 hP2 => ?_)
  refine hi.run m2 τ s2 σ H2 _ ((hL.mono e1).mono e2) hS2 (hP2.bind ((hL.mono e1).mono e2) fun i s3 m3 H3 vi e3 hS3 r3 hP3 => ?_)
  split at hP3
  · rename_i s4 h4
    obtain ⟨p, xs, k, j, q1, q2, q3, q4, q5, q6⟩ := set_readS hS3 (r2.mono e3) r3 ((r1.mono e2).mono e3) h4
    exact ⟨p, xs, k, j, q1, q2, q3, q4, hP3 m3 _ σ q5 q6 ((((hL.mono e1).mono e2).mono e3).mono q5)⟩
  · exact hP3.elim
/-- o[i] op= e -/
def oGetLS : O2 := fun x i st => match x, i with
  | .ref n, .int k => match lstAt st n with
    | some xs => match atI xs k with
      | some d => .ok d st
      | none => .bad
    | none => .bad
  | _, _ => .bad
def sAugSS (o : O2) (fo fi fe : EM D) : SM := fun τ st => bindE (fo τ st) τ fun x s1 => bindE (fi τ s1) τ fun i s2 => bindE (oGetLS x i s2) τ fun y s3 => bindE (fe τ s3) τ fun z s4 => bindE (o y z s4) τ fun v s5 => match oSetS x i v s5 with
  | some s6 => .nx τ s6
  | none => .bad
theorem get_list : PGet X (rIxL X.K) := by
  intro pins s σ H x y v u Q I rx ry h
  obtain ⟨p, xs, i, z, rfl, rfl, hq, he, q⟩ := h
  cases rx
  obtain ⟨t, rfl⟩ := ry
  obtain ⟨its, r, pl, hz⟩ := I.list hq
  obtain ⟨j, h1, h2, h3, h4, h5⟩ := atI_get he
  obtain ⟨w, ew, rw'⟩ := r.get h2
  have hl := r.length
  have hn := line63
  have fin : EP X pins σ Q w s := ⟨z, H, I, rw', q⟩
  by_cases h0 : 0 ≤ i
  · have hj : i.toNat = j := by
      rw [seqIndex_of h0 h5] at h1
      exact Option.some.inj h1
    exact wpAny_getItem_list pl.isList h0 (by omega) (by rw [hj]; simpa using ew) fin
  · have hj : (i + (its.toArray.size : Int)).toNat = j := by
      rw [seqIndex_neg (by omega) h4] at h1
      rw [List.size_toArray, ← hl]
      exact Option.some.inj h1
    exact wpAny_getItem_list_neg pl.isList (by omega) (by rw [List.size_toArray] <;> omega) (by omega) (by rw [hj]; simpa using ew) fin
theorem getL_readS {K : KW} {E : XK} {m : List Addr} {st : Store} {H : Hp} {x i : D} {vx vi : V} {Q : VK} (hS : SS K m st H) (rx : RD K m H x vx) (ri : RD K m H i vi) (h : Pe K E (RD K) m H (oGetLS x i st) Q) : rIxL K vx vi H Q := by
  unfold oGetLS at h
  split at h
  · split at h
    · split at h
      · rename_i xs hx _ d hd
        cases rx with
        | ref q =>
          cases ri
          obtain ⟨vs, h1, h2⟩ := hS.list hx q
          obtain ⟨v, h3, h4⟩ := atI_rds h2 hd
          exact ⟨_, vs, _, v, rfl, rfl, SqL.of h1, h3, h.now hS h4⟩
      · exact h.elim
    · exact h.elim
  · exact h.elim
theorem sx_augSS {o i : Expr} {p' : Pos} {fo fi : EM D} {op : Operator} {op2 : O2} (ho : Ex X W o fo) (hi : Ex X W i fi) (he : Ex X W e fe) (hop : OpM X W (inplaceOp op) op2)
    (ha : ∀ ov iv new, augStore i ov iv new = (do holding [new, ov, iv] (setItem ov iv new); release [new, ov, iv] []; pure .next) := by intros; rfl) : Sx X W (.AugAssign (.Subscript o i p') op e pos) (sAugSS op2 fo fi fe) := by
  refine ⟨fun m τ s σ H D hL hS hP pins sh I => ?_⟩
  have read : wE X o σ H fun vo H1 => wE X i σ H1 fun vi H2 => rIxL X.K vo vi H2 fun vy H3 => wE X e σ H3 fun vz H4 => wR2 X (inplaceOp op) σ vy vz H4 fun vv H5 => rSetL vo vi vv H5 fun H6 => D.nx σ H6 := by
    refine ho.run m τ s σ H _ hL hS (hP.bind hL fun dx s1 m1 H1 vx e1 hS1 r1 hP1 => ?_)
    have hL1 := hL.mono e1
    refine hi.run m1 τ s1 σ H1 _ hL1 hS1 (hP1.bind hL1 fun di s2 m2 H2 vi e2 hS2 r2 hP2 => ?_)
    have hL2 := hL1.mono e2
    refine getL_readS hS2 (r1.mono e2) r2 (hP2.bind hL2 fun dy s3 m3 H3 vy e3 hS3 r3 hP3 => ?_)
    have hL3 := hL2.mono e3
    refine he.run m3 τ s3 σ H3 _ hL3 hS3 (hP3.bind hL3 fun dz s4 m4 H4 vz e4 hS4 r4 hP4 => ?_)
    have hL4 := hL3.mono e4
    intro pins s v u I rv ru
    refine hop m4 s4 σ H4 dy dz vy vz _ hS4 (r3.mono e4) r4 (hP4.bind hL4 fun dv s5 m5 H5 vv e5 hS5 r5 hP5 => ?_) pins s v u I rv ru
    have hL5 := hL4.mono e5
    split at hP5
    · rename_i s6 h6
      have e25 := ((e3.trans e4).trans e5)
      obtain ⟨p, xs, k, j, q1, q2, q3, q4, q5, q6⟩ := set_readS hS5 ((r1.mono e2).mono e25) (r2.mono e25) r5 h6
      exact ⟨p, xs, k, j, q1, q2, q3, q4, hP5 m5 _ σ q5 q6 (hL5.mono q5)⟩
    · exact hP5.elim
  refine wpAny_AugAssign_SubscriptAny (thn (read pins sh I) fun ov s1 ⟨x1, H1, I1, r1, q1⟩ => ?_) ha
  refine thn (q1 pins s1 I1) fun iv s2 ⟨x2, H2, I2, r2, q2⟩ => ?_
  refine thn (get_list pins s2 σ H2 x1 x2 ov iv _ I2 r1 r2 q2) fun old s3 ⟨x3, H3, I3, r3, q3⟩ => ?_
  refine thn (q3 pins s3 I3) fun v s4 ⟨x4, H4, I4, r4, q4⟩ => ?_
  refine thn (q4 pins s4 old v I4 r3 r4) fun new s5 ⟨x5, H5, I5, r5, q5⟩ => ?_
  exact thn (set_list pins s5 σ H5 x1 x2 x5 ov iv new _ I5 r1 r2 r5 q5) fun _ s6 ⟨H6, I6, q6⟩ => ⟨σ, H6, I6, q6⟩
/-! ### loops -/
def forL (q : Sq) (set : D → Sl → Option Sl) (body : SM) : List D → SM
  | [], τ, st => if q.chk st then .nx τ st else .bad
  | d :: ds, τ, st => if q.chk st then match set d τ with
    | some τ1 => match body τ1 st with
      | .nx τ2 s2 => forL q set body ds τ2 s2
      | .ct τ2 s2 => forL q set body ds τ2 s2
      | .bk τ2 s2 => .nx τ2 s2
      | r => r
    | none => .bad
  else .bad
def sFor (fi : EM Sq) (set : D → Sl → Option Sl) (body : SM) : SM := fun τ st => bindE (fi τ st) τ fun q s1 => forL q set body q.items τ s1
theorem sx_for {tg iter : Expr} {ix : List Nat} {set : D → Sl → Option Sl} {fi : EM Sq} (hp : PassesOwn (model X.prog X.w) X.A X.env X.xe) (hc : X.calm = true) (hi : Ei X W tg iter fi) (hg : Eg X tg ix set) (hb : Sxs X W body f) (hs : ∀ x, foldedSetIterable iter X.env x = pure x := by intro _; rfl) : Sx X W (.For tg iter body [] pos) (sFor fi set f) := by
  refine ⟨fun m τ s σ H D hL hS hP pins sh I => (ps_for hp hc piW pgW pssW hs).run pins sh σ H D I ?_⟩
  refine hi.run m τ s σ H _ hL hS (hP.bind hL fun q s1 m1 H1 J e1 hS1 hJ hP1 => ?_)
  refine ⟨fun i k σ H => k = q.items.length - i ∧ i ≤ q.items.length ∧ ∃ (m : List Addr) (τ : Sl) (st : Store), Ext X.K m1 H1 m H ∧ SS X.kw m st H ∧ SL X.K m H τ σ ∧ Ps X.kw W m H (forL q set f (q.items.drop i) τ st) D, ⟨_, rfl, Nat.zero_le _, m1, τ, s1, .refl, hS1, hL.mono e1, by rw [List.drop_zero]; exact hP1⟩, ?_⟩
  rintro i k σ H ⟨rfl, hi, m, τ, st, e, hS, hL, hP⟩
  by_cases hlt : i < q.items.length
  · rw [List.drop_eq_getElem_cons hlt] at hP
    unfold forL at hP
    split at hP
    · rename_i hc
      obtain ⟨hgo, _⟩ := hJ m H st e hS hc
      obtain ⟨go, yl⟩ := hgo i q.items[i] (by simp [hlt])
      split at hP
      · rename_i τ1 hset
        refine .inr ⟨go, fun σ' H' => i + 1 ≤ q.items.length ∧ ∃ (m : List Addr) (τ : Sl) (st : Store), Ext X.K m1 H1 m H' ∧ SS X.kw m st H' ∧ SL X.K m H' τ σ' ∧ Ps X.kw W m H' (forL q set f (q.items.drop (i + 1)) τ st) D, fun σ' H' h => ⟨q.items.length - (i + 1), by omega, rfl, h⟩, fun x H' hy => ?_⟩
        obtain ⟨e2, s2, r2⟩ := yl x H' hy
        refine hg.run m τ τ1 st σ H' _ x _ (hL.mono e2) s2 r2 hset fun σ2 _ _ hL2 => ?_
        refine hb.run m τ1 st σ2 H' _ hL2 s2 ?_
        have hP := hP.up e2
        cases hq : f τ1 st with
        | nx τ2 s3 =>
          rw [hq] at hP
          exact fun m3 H3 σ3 e3 hS3 hL3 => ⟨by omega, m3, τ2, s3, e.trans (e2.trans e3), hS3, hL3, hP.up e3⟩
        | ct τ2 s3 =>
          rw [hq] at hP
          exact fun m3 H3 σ3 e3 hS3 hL3 => ⟨by omega, m3, τ2, s3, e.trans (e2.trans e3), hS3, hL3, hP.up e3⟩
        | bk τ2 s3 =>
          rw [hq] at hP
          exact hP
        | rt d s3 =>
          rw [hq] at hP
          exact hP
        | exc x τ2 s3 =>
          rw [hq] at hP
          exact hP
        | bad =>
          rw [hq] at hP
          exact hP
      · exact hP.elim
    · exact hP.elim
  · have e0 : i = q.items.length := by omega
    subst e0
    rw [List.drop_length] at hP
    unfold forL at hP
    split at hP
    · rename_i hc
      obtain ⟨_, stop⟩ := hJ m H st e hS hc
      exact .inl ⟨stop, hP m H σ .refl hS hL⟩
    · exact hP.elim
/-- more turns than any loop here takes -/
@[irreducible] def big : Nat := 2 ^ 20000
theorem le_big {k n : Nat} (hk : k ≤ 20000) (h : n ≤ 2 ^ k) : n ≤ big := by
  unfold big
  exact Nat.le_trans h (Nat.pow_le_pow_right (by decide) hk)
/-- while, at most n turns -/
def whileN (g : EM Bool) (body : SM) : Nat → SM
  | 0, _, _ => .bad
  | n + 1, τ, st => bindE (g τ st) τ fun b s1 => if b then match body τ s1 with
      | .nx τ2 s2 => whileN g body n τ2 s2
      | .ct τ2 s2 => whileN g body n τ2 s2
      | .bk τ2 s2 => .nx τ2 s2
      | r => r
    else .nx τ s1
theorem sx_while {c : Expr} (n : Nat) (hp : PassesOwn (model X.prog X.w) X.A X.env X.xe) (hc : Et X W c g) (hb : Sxs X W body f) : Sx X W (.While c body [] pos) (whileN g f n) := by
  refine ⟨fun m τ s σ H D hL hS hP pins sh I => (ps_while hp ptW pssW).run pins sh σ H D I ?_⟩
  refine ⟨fun k σ H => ∃ (m : List Addr) (τ : Sl) (st : Store), SS X.kw m st H ∧ SL X.K m H τ σ ∧ Ps X.kw W m H (whileN g f k τ st) D, ⟨n, m, τ, s, hS, hL, hP⟩, ?_⟩
  rintro k σ H ⟨m, τ, st, hS, hL, hP⟩
  cases k with
  | zero => exact hP.elim
  | succ k =>
    refine hc.run m τ st σ H _ hL hS (hP.bind hL fun b s1 m1 H1 b' e1 hS1 r1 hP1 => ?_)
    subst r1
    cases b with
    | false => exact iteF (hP1 m1 H1 σ .refl hS1 (hL.mono e1))
    | true =>
      refine iteT ⟨fun σ' H' => ∃ (m : List Addr) (τ : Sl) (st : Store), SS X.kw m st H' ∧ SL X.K m H' τ σ' ∧ Ps X.kw W m H' (whileN g f k τ st) D, fun σ' H' h => ⟨k, Nat.lt_succ_self k, h⟩, ?_⟩
      refine hb.run m1 τ s1 σ H1 _ (hL.mono e1) hS1 ?_
      have hP1 : Ps X.kw W m1 H1 (match f τ s1 with
        | .nx τ2 s2 => whileN g f k τ2 s2
        | .ct τ2 s2 => whileN g f k τ2 s2
        | .bk τ2 s2 => .nx τ2 s2
        | r => r) D := hP1
      cases hq : f τ s1 with
      | nx τ2 s3 =>
        rw [hq] at hP1
        exact fun m3 H3 σ3 e3 hS3 hL3 => ⟨m3, τ2, s3, hS3, hL3, hP1.up e3⟩
      | ct τ2 s3 =>
        rw [hq] at hP1
        exact fun m3 H3 σ3 e3 hS3 hL3 => ⟨m3, τ2, s3, hS3, hL3, hP1.up e3⟩
      | bk τ2 s3 =>
        rw [hq] at hP1
        exact hP1
      | rt d s3 =>
        rw [hq] at hP1
        exact hP1
      | exc x τ2 s3 =>
        rw [hq] at hP1
        exact hP1
      | bad =>
        rw [hq] at hP1
        exact hP1
end
end HM

/-! HM, part 7: raise, try; defs; the law's end. -/
namespace HM
open PySem PySem.Spec PyProof.Rows L2
section
variable {X : Cx} {W : WX} {e a b c : Expr} {es rest : List Expr} {pos p : Pos} {fa fb fc fe : EM D} {fs : EM (List D)} {g ga gb : EM Bool} {s1 : Stmt} {ss body suite : List Stmt} {f h k : SM}
def sRaise (x : Xc) : SM := fun τ st => .exc x τ st
theorem sx_raiseB {T N I : String} {x : Str} {m : Str} {j : Nat} {p2 pos' : Pos} (hc : X.calm = true) (tk : Takes X W) (F : ExcB T N I) (hg : Gl X x) (hm : X.mg x = none) (hv : bootBuiltins x = some (.type T)) (hn : x ≠ "__name__" := by decide) (hdb : (x == ("__debug__" : Str)) = false := by decide) :
    Sx X W (.Raise (some (.Call (.Name x p) [.Constant (.str m) j p2] [] pos)) none pos') (sRaise ⟨.ty T, []⟩) :=
  ⟨fun m τ s σ H D hL hS hP pins sh I => (ps_raiseB hc tk F hg hm hv hn hdb).run pins sh σ H D I (hP m H σ _ _ .refl hS hL ⟨rfl, rfl⟩)⟩
def sTry (f : SM) (mt : D → Option Bool) (h : SM) : SM := fun τ st => match f τ st with
  | .exc x τ1 s1 => match mt x.cls with
    | some true => h τ1 s1
    | some false => .exc x τ1 s1
    | none => .bad
  | r => r
theorem sx_try {x : Str} {c : Value} {b₀ : Stmt} {np pos' : Pos} {mt : D → Option Bool} (hs : X.stack = X.env :: X.outer) (hf : X.env.frame = some X.env.locals) (hc : Names X x c) (tk : Takes X W) (hmt : ∀ (m : List Addr) (H : Hp) (y : Xc) (cls : Value) (d : Option Addr) (b : Bool), XR X.K m H y cls d → mt y.cls = some b → PySem.W.exmOne X.K cls c = some b)
    (hb : ∀ (W : WX) (pn : List (Addr × Obj)) (xe : Value → Shared → Prop), Takes (X.tr pn xe) W → PassesOwn (model X.prog X.w) X.A X.env xe → Sxs (X.tr pn xe) W body f)
    (hsu : ∀ (a : Addr) (oe : Obj) (pn : List (Addr × Obj)), Sxs (X.suite a ((a, oe) :: pn)) (fun _ _ _ _ => False) (b₀ :: suite) h)
    (hno : ∀ τ st x τ1 s1, h τ st ≠ .exc x τ1 s1) : Sx X W (.Try body [.ExceptHandler (some (.Name x np)) none (b₀ :: suite) pos'] [] [] pos) (sTry f mt h) := by
  refine ⟨fun m τ s σ H D hL hS hP pins sh I => ?_⟩
  refine (ps_try_only (tb := fun W => fun D σ H => ∀ (pn : List (Addr × Obj)) (xe : Value → Shared → Prop), Takes (X.tr pn xe) W → PassesOwn (model X.prog X.w) X.A X.env xe → wSs (X.tr pn xe) body D σ H)
    (ts := fun a cls d => fun D σ H => ∀ (oe : Obj) (pn : List (Addr × Obj)), wSs (X.suite a ((a, oe) :: pn)) (b₀ :: suite) D σ H) hs hf hc tk (fun W pn xe t1 t2 => ⟨fun pins s σ H D I h => h pn xe t1 t2 pins s I⟩) (fun a oe cls d pn _ _ => ⟨fun pins s σ H D I h => h oe pn pins s I⟩)).run pins sh σ H D I ?_
  intro pn xe t1 t2
  refine (hb _ pn xe t1 t2).run m τ s σ H D hL hS ?_
  unfold sTry at hP
  cases hq : f τ s with
  | exc y τ1 s1 =>
    rw [hq] at hP
    intro m1 H1 σ1 cls d e1 hS1 hL1 hX
    have hP : Ps X.kw W m H (match mt y.cls with
      | some true => h τ1 s1
      | some false => .exc y τ1 s1
      | none => .bad) D := hP
    cases hm : mt y.cls with
    | none =>
      rw [hm] at hP
      exact hP.elim
    | some b =>
      rw [hm] at hP
      refine ⟨b, hmt m1 H1 y cls d b hX hm, fun hb' a na oe pn => ?_, fun hb' => ?_⟩
      · subst hb'
        refine (hsu a oe pn).run m1 τ1 s1 σ1 H1 D hL1 hS1 ?_
        have hP := hP.up e1
        cases hh : h τ1 s1 with
        | exc x τ2 s2 => exact absurd hh (hno _ _ _ _ _)
        | nx _ _ =>
          have hP : Ps X.kw W m1 H1 (h τ1 s1) D := hP
          rw [hh] at hP
          exact hP
        | bk _ _ =>
          have hP : Ps X.kw W m1 H1 (h τ1 s1) D := hP
          rw [hh] at hP
          exact hP
        | ct _ _ =>
          have hP : Ps X.kw W m1 H1 (h τ1 s1) D := hP
          rw [hh] at hP
          exact hP
        | rt _ _ =>
          have hP : Ps X.kw W m1 H1 (h τ1 s1) D := hP
          rw [hh] at hP
          exact hP
        | bad =>
          have hP : Ps X.kw W m1 H1 (h τ1 s1) D := hP
          rw [hh] at hP
          exact hP
      · subst hb'
        exact hP m1 H1 σ1 cls d e1 hS1 hL1 hX
  | nx _ _ =>
    rw [hq] at hP
    exact hP
  | bk _ _ =>
    rw [hq] at hP
    exact hP
  | ct _ _ =>
    rw [hq] at hP
    exact hP
  | rt _ _ =>
    rw [hq] at hP
    exact hP
  | bad =>
    rw [hq] at hP
    exact hP
end

/-- does a built-in class catch -/
def mtB (T : String) : D → Option Bool
  | .ty n => if n = T then some true else none
  | _ => none
theorem mtB_of {K : PySem.W.Frag} {T : String} (h : PySem.W.exmOne K (.type T) (.type T) = some true) (m : List Addr) (H : Hp) (y : Xc) (cls : Value) (d : Option Addr) (b : Bool) (hx : XR K m H y cls d) (hm : mtB T y.cls = some b) : PySem.W.exmOne K cls (.type T) = some b := by
  unfold mtB at hm
  split at hm
  · rename_i n e
    split at hm
    · rename_i hn
      subst hn
      cases hm
      unfold XR at hx
      rw [e] at hx
      obtain ⟨rfl, _⟩ := hx
      exact h
    · cases hm
  · cases hm
theorem mtB_ZeroDivisionError {K : PySem.W.Frag} : ∀ (m : List Addr) (H : Hp) (y : Xc) (cls : Value) (d : Option Addr) (b : Bool), XR K m H y cls d → mtB "ZeroDivisionError" y.cls = some b → PySem.W.exmOne K cls (.type "ZeroDivisionError") = some b := mtB_of (by kernel_rfl)
/-! ### defs -/
/-- the slots at a def's entry -/
def ent (n : Nat) (ds : List D) : Sl := ds.map some ++ List.replicate (n - ds.length) none
def runB (n : Nat) (fb : SM) : FM := fun ds st => match fb (ent n ds) st with
  | .nx _ s => .ok .non s
  | .rt d s => .ok d s
  | .exc x _ s => .exc x s
  | _ => .bad
theorem SL.start {K : PySem.W.Frag} {m : List Addr} {H : Hp} {N : List Str} {ds : List D} {vs : List V} (r : RDs K m H ds vs) : SL K m H (ent N.length ds) (L2.start N vs) where
  len := by simp [ent, L2.start, r.len]
  get := fun i d h => by
    unfold ent at h
    by_cases hi : i < ds.length
    · rw [List.getElem?_append_left (by simpa using hi), List.getElem?_map] at h
      cases hd : ds[i]? with
      | none =>
        rw [hd] at h
        cases h
      | some d' =>
        rw [hd] at h
        simp only [Option.map_some, Option.some.injEq] at h
        subst h
        obtain ⟨v, h1, h2⟩ := r.get hd
        refine ⟨v, ?_, h2⟩
        unfold L2.start
        rw [List.getElem?_append_left (by simpa [← r.len] using hi), List.getElem?_map, h1]
        rfl
    · rw [List.getElem?_append_right (by simpa using hi)] at h
      have z := List.mem_of_getElem? h
      have z2 := List.eq_of_mem_replicate z
      cases z2
section
variable {P : Program} {w : World} {K : PySem.W.Frag} {mg : Str → Option Value} {base : Heap} {x qual : Str} {params : Arguments} {body : List Stmt} {scope : Scope} {dvs : List V} {kws : List (Str × V)} {f : Addr} {fd : FuncData} {N ps : List Str} {k : Nat} {fb : SM}
/-- the context of a def's body -/
abbrev Cd (P : Program) (w : World) (K : PySem.W.Frag) (mg : Str → Option Value) (base : Heap) (N : List Str) (qual : Str) (scope : Scope) (f : Addr) (k : Nat) (B : Cx → WX → Prop) : Prop :=
  ∀ (cdv : Value) (A : Around) (outer : List Env) (s : Shared) (H : Hp) (E : XK), Room k (A.deeper (envOfC qual scope s.heap.objs.size f cdv)) → B (cxOf (L2.CX P w) P w K mg base N qual scope f cdv A outer s H E) (fun c d _ H => E c d H)
theorem fn_def (F : FunD K x qual params body scope dvs kws f fd) (S : FnScope N ps scope)
    (hb : ∀ (cdv : Value) (A : Around) (outer : List Env) (s : Shared) (H : Hp) (E : XK), Room k (A.deeper (envOfC qual scope s.heap.objs.size f cdv)) → Takes (cxOf (L2.CX P w) P w K mg base N qual scope f cdv A outer s H E) (fun c d _ H => E c d H) →
      PassesOwn (model P w) (A.deeper (envOfC qual scope s.heap.objs.size f cdv)) (envOfC qual scope s.heap.objs.size f cdv) (cxOf (L2.CX P w) P w K mg base N qual scope f cdv A outer s H E).xe →
      Sxs (cxOf (L2.CX P w) P w K mg base N qual scope f cdv A outer s H E) (fun c d _ H => E c d H) body fb) : FnM P w K mg base (k + 1) f fd ps (runB N.length fb) := by
  refine F.ok S (fun vs H Q E ⟨m, st, ds, hl, hS, r, _⟩ => by rw [← r.len, hl]) (fun cdv A outer s H vs Q E hr ⟨m, st, ds, hl, hS, r, hP⟩ => ?_)
  refine ⟨_, pssW, (hb cdv A outer s H E hr (takes_of rfl rfl rfl rfl) (passes_of rfl)).run m (ent N.length ds) st (L2.start N vs) H _ (SL.start r) hS ?_⟩
  unfold runB at hP
  cases hq : fb (ent N.length ds) st with
  | nx τ s1 =>
    rw [hq] at hP
    exact fun m1 H1 σ e1 hS1 hL1 => hP m1 H1 .non e1 hS1 .non
  | rt d s1 =>
    rw [hq] at hP
    exact hP
  | exc x τ s1 =>
    rw [hq] at hP
    exact fun m1 H1 σ c d e1 hS1 hL1 hX => hP m1 H1 c d e1 hS1 hX
  | bk τ s1 =>
    rw [hq] at hP
    exact hP.elim
  | ct τ s1 =>
    rw [hq] at hP
    exact hP.elim
  | bad =>
    rw [hq] at hP
    exact hP.elim
end

/-! ### what a def leaves behind may be forgotten -/
mutual
def D.lo (k : Nat) : D → Bool
  | .ref n => decide (n < k)
  | .tup xs => D.loAll k xs
  | .rol xs => D.loAll k xs
  | _ => true
def D.loAll (k : Nat) : List D → Bool
  | [] => true
  | d :: ds => D.lo k d && D.loAll k ds
end
def Cell.lo (k : Nat) : Cell → Bool
  | .lst xs => D.loAll k xs
  | .dct kvs => kvs.all fun p => p.1.lo k && p.2.lo k
section
variable {K : PySem.W.Frag} {m : List Addr} {H : Hp}
mutual
theorem RD.take {k : Nat} : ∀ {d : D} {v : V}, RD K m H d v → d.lo k = true → RD K (m.take k) H d v
  | _, _, .non, _ => .non
  | _, _, .bl b, _ => .bl b
  | _, _, .int i, _ => .int i
  | _, _, .str x, _ => .str x
  | _, _, .ty n, _ => .ty n
  | _, _, .adr a, _ => .adr a
  | _, _, .tup h r, q => .tup h (RDs.takeA r (by simpa only [D.lo] using q))
  | _, _, .rol h r, q => .rol h (RDs.takeA r (by simpa only [D.lo] using q))
  | _, _, .ref (n := n) h, q => .ref (by
    have z : n < k := of_decide_eq_true (by simpa only [D.lo] using q)
    rw [List.getElem?_take_of_lt z]
    exact h)
theorem RDs.takeA {k : Nat} : ∀ {ds : List D} {vs : List V}, RDs K m H ds vs → D.loAll k ds = true → RDs K (m.take k) H ds vs
  | _, _, .nil, _ => .nil
  | _, _, .cons h r, q => by
    simp only [D.loAll, Bool.and_eq_true] at q
    exact .cons (RD.take h q.1) (RDs.takeA r q.2)
end
mutual
theorem RD.is_lo {k : Nat} (hk : m.length ≤ k) : ∀ {d : D} {v : V}, RD K m H d v → d.lo k = true
  | _, _, .non => rfl
  | _, _, .bl b => rfl
  | _, _, .int i => rfl
  | _, _, .str x => rfl
  | _, _, .ty n => rfl
  | _, _, .adr a => rfl
  | _, _, .tup h r => by simpa only [D.lo] using RDs.is_lo hk r
  | _, _, .rol h r => by simpa only [D.lo] using RDs.is_lo hk r
  | _, _, .ref h => by
    simp only [D.lo, decide_eq_true_eq]
    exact Nat.lt_of_lt_of_le (List.getElem?_eq_some_iff.mp h).1 hk
theorem RDs.is_lo {k : Nat} (hk : m.length ≤ k) : ∀ {ds : List D} {vs : List V}, RDs K m H ds vs → D.loAll k ds = true
  | _, _, .nil => rfl
  | _, _, .cons h r => by simp only [D.loAll, RD.is_lo hk h, RDs.is_lo hk r, Bool.and_self]
end
theorem RC.is_lo {K : KW} {k : Nat} {a : Addr} {c : Cell} (hk : m.length ≤ k) (r : RC K m H a c) : c.lo k = true := by
  cases c with
  | lst ds =>
    obtain ⟨vs, _, r⟩ := r
    exact r.is_lo hk
  | dct kvs =>
    have f1 : ∀ {kvs us}, DRel1 K m H kvs us → (kvs.all fun p => p.1.lo k && p.2.lo k) = true := fun {kvs us} r => by
      induction r with
      | nil => rfl
      | @cons p q ps qs h t ih =>
        obtain ⟨h1, h2⟩ := h
        have z : p.1.lo k = true := by rw [h1]; cases q.1 <;> rfl
        rw [List.all_cons, ih, z, h2.is_lo hk]
        rfl
    have f2 : ∀ {kvs us}, DRel2 K m H kvs us → (kvs.all fun p => p.1.lo k && p.2.lo k) = true := fun {kvs us} r => by
      induction r with
      | nil => rfl
      | @cons p q ps qs h t ih =>
        rw [List.all_cons, ih, h.2.2.1.is_lo hk, h.2.2.2.is_lo hk]
        rfl
    rcases r with ⟨us, _, r⟩ | ⟨xs, _, r⟩
    · exact f1 r
    · exact f2 r.2
theorem RC.take {K : KW} {k : Nat} {a : Addr} {c : Cell} (r : RC K m H a c) (h : c.lo k = true) : RC K (m.take k) H a c := by
  cases c with
  | lst ds =>
    obtain ⟨vs, q, r⟩ := r
    exact ⟨vs, q, r.takeA h⟩
  | dct kvs =>
    have f1 : ∀ {kvs us}, DRel1 K m H kvs us → (kvs.all fun p => p.1.lo k && p.2.lo k) = true → DRel1 K (m.take k) H kvs us := fun {kvs us} r => by
      induction r with
      | nil => exact fun _ => .nil
      | @cons p q ps qs h t ih =>
        intro z
        rw [List.all_cons, Bool.and_eq_true, Bool.and_eq_true] at z
        exact .cons ⟨h.1, h.2.take z.1.2⟩ (ih z.2)
    have f2 : ∀ {kvs us}, DRel2 K m H kvs us → (kvs.all fun p => p.1.lo k && p.2.lo k) = true → DRel2 K (m.take k) H kvs us := fun {kvs us} r => by
      induction r with
      | nil => exact fun _ => .nil
      | @cons p q ps qs h t ih =>
        intro z
        rw [List.all_cons, Bool.and_eq_true, Bool.and_eq_true] at z
        exact .cons ⟨h.1, h.2.1, h.2.2.1.take z.1.1, h.2.2.2.take z.1.2⟩ (ih z.2)
    rcases r with ⟨us, q, r⟩ | ⟨xs, q, r⟩
    · exact .inl ⟨us, q, f1 r h⟩
    · exact .inr ⟨xs, q, r.1, f2 r.2 h⟩
/-- r' says no more than r, or the same with a shorter store -/
inductive Le (st : Store) : ER D → ER D → Prop
  | bad (r : ER D) : Le st r .bad
  | refl (r : ER D) : Le st r r
  | gc {v : D} {s1 : Store} (k : Nat) (hk : st.length ≤ k) (hv : v.lo k = true) (hc : ∀ (i : Nat) (c : Cell), i < k → s1[i]? = some c → st[i]? = some c ∨ c.lo k = true) : Le st (.ok v s1) (.ok v (s1.take k))
theorem Le.pe {K : KW} {E : XK} {st : Store} {r r' : ER D} {Q : VK} (l : Le st r r') (s : SS K m st H) (h : Pe K E (RD K) m H r' Q) : Pe K E (RD K) m H r Q := by
  cases l with
  | bad r => exact h.elim
  | refl r => exact h
  | @gc v s1 k hk hv hc =>
    intro m1 H1 b e1 hS1 r1
    refine h (m1.take k) H1 b ⟨⟨fun n a q => ?_, e1.tup, e1.plt, e1.fzl⟩, e1.frm, fun a q n => e1.new a (List.mem_of_mem_take q) n⟩ ⟨?_, ?_, fun n c a q1 q2 => ?_⟩ (r1.take hv)
    · have hl : n < m.length := (List.getElem?_eq_some_iff.mp q).1
      rw [s.len] at hl
      rw [List.getElem?_take_of_lt (Nat.lt_of_lt_of_le hl hk)]
      exact e1.pre n a q
    · rw [List.length_take, List.length_take, hS1.len]
    · exact hS1.nd.sublist (List.take_sublist _ _)
    · have hn : n < k := by
        have z := (List.getElem?_eq_some_iff.mp q1).1
        rw [List.length_take] at z
        omega
      rw [List.getElem?_take_of_lt hn] at q1 q2
      refine (hS1.cel n c a q1 q2).take ?_
      rcases hc n c hn q1 with z | z
      · obtain ⟨a0, _, r0⟩ := s.at z
        exact r0.is_lo (by rw [s.len]; exact hk)
      · exact z
theorem FnM.le {P : Program} {w : World} {mg : Str → Option Value} {base : Heap} {k : Nat} {f : Addr} {fd : FuncData} {ps : List Str} {mf sf : FM} (F : FnM P w K mg base k f fd ps mf) (h : ∀ ds st, Le st (mf ds st) (sf ds st)) : FnM P w K mg base k f fd ps sf :=
  FnOk.imp F fun vs H Q E ⟨m, st, ds, hl, hS, r, hP⟩ => ⟨m, st, ds, hl, hS, r, (h ds st).pe hS hP⟩
/-- a value without the store, the store but for what was laid on it -/
theorem Le.app {st more : Store} {v : D} (hv : v.lo st.length = true) : Le st (.ok v (st ++ more)) (.ok v st) := by
  have z := Le.gc (st := st) (v := v) (s1 := st ++ more) st.length (Nat.le_refl _) hv fun i c hi h => by
    rw [List.getElem?_append_left hi] at h
    exact .inl h
  rw [List.take_left] at z
  exact z
end

/-! ### the law -/
theorem law_sp {K : KW} {mf : FM} {n : Nat} (h : ∀ ns : List Int, ns.length ≤ n → ∃ st, mf [.rol (ns.map D.int)] [] = .ok (.bl true) st) (H : Hp) (a : Addr) (ns : List Int) (hl : ns.length ≤ n) (ho : Only H) (hS : SqL K H a (ns.map V.int)) :
    spM K 1 mf [V.ref a] H (fun v _ => v = .bl true) (fun _ _ _ => False) := by
  obtain ⟨st, e⟩ := h ns hl
  refine ⟨[], [], [.rol (ns.map D.int)], rfl, ⟨rfl, .nil, fun n c a q => by simp at q⟩, .cons (.rol (FzL.of hS fun ys z => ?_) (RDs.ints ns)) .nil, ?_⟩
  · rcases ho a with q | ⟨o, xs, q⟩
    · rw [q] at z
      cases z
    · rw [q] at z
      cases z
  · rw [e]
    intro m' H' b _ _ r
    cases r
    rfl
end HM

/-! HM, part 8: defs as they are called; what a text is put together of. -/
namespace HM
open PySem PySem.Spec PyProof.Rows L2
section
variable {X : Cx} {W : WX} {e a b c : Expr} {es rest : List Expr} {pos p : Pos} {fa fb fc fe : EM D} {fs : EM (List D)} {g ga gb : EM Bool} {s1 : Stmt} {ss body suite : List Stmt} {f h k : SM}
/-- a name = [..] on one line -/
theorem sx_setLc {i : Nat} {y : Str} {py spos : Pos} {tg elt iter : Expr} {ifs : List Expr} {scope : Scope} {own : List (Str × Nat)} {ix : List Nat} {set : D → Sl → Option Sl} {ft : EM Bool} {fe : EM D} {fi : EM Sq} (hc : X.calm = true) (hN : X.N.Nodup) (hi : Ei X W tg iter fi) (ok : BlkOk X.N X.env.scope scope own)
    (hg : BEg X scope tg ix set) (ht : BEt X scope ifs ft) (he : BEx X scope elt fe) (hy : X.N[i]? = some y := by rfl) (hyl : X.env.scope.names.lookup y = some .local := by rfl)
    (hsw : swapsWith (.ListComp elt [⟨tg, iter, ifs, 0⟩] scope pos) (some (.Name y py)) spos.line X.env = pure true := by exact sw_true rfl rfl rfl (by decide +kernel)) (hown : ∀ i ∈ ix, i ∈ own.map (·.2) := by decide) (hs : ∀ x, foldedSetIterable iter X.env x = pure x := by intro _; rfl) :
    Sx X W (.Assign [.Name y py] (.ListComp elt [⟨tg, iter, ifs, 0⟩] scope pos) spos) (sSet i (eEl (lComp (own.map (·.2)) fi set ft fe))) := by
  refine ⟨fun m τ st σ H D hL hS hP pins s I => ?_⟩
  refine (ps_setLc (g := gAll X scope tg) (tt := tAll X scope ifs) (te := eAll X scope elt) hc hN hy hyl hsw piW ok ?_ ?_ ?_ hs).run pins s σ H D I (comp_post hi hown hg ht he hL hS ?_)
  · exact fun s H C cl fp => ⟨fun pins s' σ H' v u Q I r h => h s H C cl fp pins s' u I r⟩
  · exact fun s H C cl fp => ⟨fun pins s' σ H' Q I h => h s H C cl fp pins s' I⟩
  · exact fun s H C cl fp => ⟨fun pins s' σ H' Q I h => h s H C cl fp pins s' I⟩
  · unfold sSet eEl at hP
    cases hq : lComp (own.map (·.2)) fi set ft fe τ st with
    | ok ds s1 =>
      rw [hq] at hP
      intro m1 H1 v e1 hS1 ⟨a, vs, e, ha, na, hn, rs⟩
      subst e
      have e2 := e1.own hn
      have r2 : RD X.K (m1 ++ [a]) H1 (.ref s1.length) (.ref a) := .ref (by
        rw [← hS1.len]
        simp)
      exact hP (m1 ++ [a]) H1 _ e2 (hS1.grow na ⟨vs, ha, rs.kp Kp.grow⟩) ((hL.mono e2).set i r2)
    | exc x st' =>
      rw [hq] at hP
      exact fun m' H' c d e s q => hP m' H' σ c d e s (hL.mono e) q
    | bad =>
      rw [hq] at hP
      exact hP.elim

/-! ### defs by name -/
structure Cal (P : Program) (w : World) (K : PySem.W.Frag) (mg : Str → Option Value) (base : Heap) (x : Str) (k : Nat) (ps : List Str) (mf : FM) : Prop where
  ex : ∃ (f : Addr) (fd : FuncData), FnM P w K mg base k f fd ps mf ∧ mg x = some (.ref f) ∧ PySem.W.keepIn K (.ref f) = true ∧ Binds K fd ps [] ∧ ∃ oc od osl, K.lookup f = some ⟨oc, od, .func fd, osl⟩
theorem Cal.le {P : Program} {w : World} {K : PySem.W.Frag} {mg : Str → Option Value} {base : Heap} {x : Str} {k : Nat} {ps : List Str} {mf sf : FM} (c : Cal P w K mg base x k ps mf) (h : ∀ ds st, Le st (mf ds st) (sf ds st)) : Cal P w K mg base x k ps sf := by
  obtain ⟨f, fd, F, r⟩ := c.ex
  exact ⟨f, fd, F.le h, r⟩
theorem Cal.mono {P : Program} {w : World} {K : PySem.W.Frag} {mg : Str → Option Value} {base : Heap} {x : Str} {j k : Nat} {ps : List Str} {mf : FM} (c : Cal P w K mg base x j ps mf) (h : j ≤ k) : Cal P w K mg base x k ps mf := by
  obtain ⟨f, fd, F, r⟩ := c.ex
  exact ⟨f, fd, FnOk.mono F h, r⟩
theorem ex_c1 {P : Program} {w : World} {K : PySem.W.Frag} {mg : Str → Option Value} {base : Heap} {A : Around} {j k : Nat} {ps : List Str} {mf : FM} {x : Str} (c : Cal P w K mg base x j ps mf) (tk : Takes X W) (hr : Room k A) (hj : j ≤ k) (ha : Ea X W (e :: es) fs)
    (h1 : X.prog = P := by rfl) (h2 : X.w = w := by rfl) (h3 : X.K = K := by rfl) (h4 : X.mg = mg := by rfl) (h5 : X.base = base := by rfl) (h6 : X.A = A := by rfl) (hg : Gl X x := by rfl) (hdb : (x == ("__debug__" : Str)) = false := by decide) (he : starEach (e :: es) X.env = (false, eval e X.env) :: starEach es X.env := by rfl)
    (hpl : (backTo pos (starEach es X.env)).any (·.1) = false := by rfl) : Ex X W (.Call (.Name x p) (e :: es) [] pos) (eCall ps.length mf fs) := by
  subst h1 h2 h3 h4 h5 h6
  obtain ⟨f, fd, F, hm, hk, hb, _⟩ := c.ex
  exact ex_call tk F (hr.mono hj) hg hm hk hb ha hdb he hpl
theorem ex_c0 {P : Program} {w : World} {K : PySem.W.Frag} {mg : Str → Option Value} {base : Heap} {A : Around} {j k : Nat} {ps : List Str} {mf : FM} {x : Str} (c : Cal P w K mg base x j ps mf) (tk : Takes X W) (hr : Room k A) (hj : j ≤ k)
    (h1 : X.prog = P := by rfl) (h2 : X.w = w := by rfl) (h3 : X.K = K := by rfl) (h4 : X.mg = mg := by rfl) (h5 : X.base = base := by rfl) (h6 : X.A = A := by rfl) (hg : Gl X x := by rfl) (hdb : (x == ("__debug__" : Str)) = false := by decide) : Ex X W (.Call (.Name x p) [] [] pos) (eCall ps.length mf aNil) := by
  subst h1 h2 h3 h4 h5 h6
  obtain ⟨f, fd, F, hm, hk, hb, _⟩ := c.ex
  exact ex_call0 tk F (hr.mono hj) hg hm hk hb hdb
/-- in a comprehension nothing is let out -/
theorem tk0 : Takes X (fun _ _ _ _ => False) := takes0
end
/-- a def of the text -/
abbrev FnP (K : PySem.W.Frag) (x : Str) (st : Stmt) (f : Addr) (fd : FuncData) : Prop := FunD K x x (defArgs st) (defBody st) (defScope st) [] [] f fd
section
variable {P : Program} {w : World} {K : PySem.W.Frag} {mg : Str → Option Value} {base : Heap}
theorem cal_mk {x : Str} {st : Stmt} {f : Addr} {fd : FuncData} {N ps : List Str} {k : Nat} {fb : SM} (F : FnP K x st f fd) (S : FnScope N ps (defScope st)) (gx : mg x = some (.ref f))
    (bn : ∀ (kV doc pm : Value) (an : Option Addr) (cdv ct : Value) (us : List Value), us.length = ps.length → bindArgs (PySem.W.fnOf x x (defArgs st) (defBody st) (defScope st) .none kV doc pm an cdv ct) ⟨us, []⟩ = pure (ps.zip us))
    (hb : ∀ (cdv : Value) (A : Around) (outer : List Env) (s : Shared) (H : Hp) (E : XK), Room k (A.deeper (envOfC x (defScope st) s.heap.objs.size f cdv)) → Takes (cxOf (L2.CX P w) P w K mg base N x (defScope st) f cdv A outer s H E) (fun c d _ H => E c d H) →
      PassesOwn (model P w) (A.deeper (envOfC x (defScope st) s.heap.objs.size f cdv)) (envOfC x (defScope st) s.heap.objs.size f cdv) (cxOf (L2.CX P w) P w K mg base N x (defScope st) f cdv A outer s H E).xe →
      Sxs (cxOf (L2.CX P w) P w K mg base N x (defScope st) f cdv A outer s H E) (fun c d _ H => E c d H) (defBody st) fb) : Cal P w K mg base x (k + 1) ps (runB N.length fb) :=
  ⟨f, fd, fn_def F S hb, gx, F.kp, F.bindsN bn, let ⟨oc, od, _, _, _, _, _, _, _, osl, e, lk, _⟩ := F.ex; ⟨oc, od, osl, e ▸ lk⟩⟩
end
/-! ### what the built-in names hold -/
theorem bt_len : bootBuiltins "len" = some (.builtin "len") := by decide +kernel
theorem bt_abs : bootBuiltins "abs" = some (.builtin "abs") := by decide +kernel
theorem bt_isinstance : bootBuiltins "isinstance" = some (.builtin "isinstance") := by decide +kernel
theorem bt_min : bootBuiltins "min" = some (.builtin "min") := by decide +kernel
theorem bt_max : bootBuiltins "max" = some (.builtin "max") := by decide +kernel
theorem bt_sum : bootBuiltins "sum" = some (.builtin "sum") := by decide +kernel
theorem bt_all : bootBuiltins "all" = some (.builtin "all") := by decide +kernel
theorem bt_any : bootBuiltins "any" = some (.builtin "any") := by decide +kernel
theorem bt_sorted : bootBuiltins "sorted" = some (.builtin "sorted") := by decide +kernel
theorem bt_int : bootBuiltins "int" = some (.type "int") := by decide +kernel
theorem bt_bool : bootBuiltins "bool" = some (.type "bool") := by decide +kernel
theorem bt_str : bootBuiltins "str" = some (.type "str") := by decide +kernel
theorem bt_tuple : bootBuiltins "tuple" = some (.type "tuple") := by decide +kernel
theorem bt_list : bootBuiltins "list" = some (.type "list") := by decide +kernel
end HM

/-! HM, part 9: what the top leaves. -/
namespace HM
open PySem PySem.Spec PyProof.Rows L2
mutual
def conB (K : PySem.W.Frag) : D → Value → Bool
  | .non, .none => true
  | .bl a, .bool b => a == b
  | .int i, .int j _ => decide (i = j)
  | .str x, .str y _ => decide (y.cps.toList = x)
  | .tup ds, .ref a => match K.lookup a with
    | some ⟨.type c, od, .seq its _, _⟩ => decide (c = "tuple") && (od.isNone && (decide (its.size ≤ sizeLine) && conAll K ds its.toList))
    | _ => false
  | _, _ => false
def conAll (K : PySem.W.Frag) : List D → List Value → Bool
  | [], [] => true
  | d :: ds, u :: us => conB K d u && conAll K ds us
  | _, _ => false
end
mutual
theorem conB_ok {K : PySem.W.Frag} : ∀ (d : D) (u : Value), conB K d u = true → ∃ v, RelV v u ∧ ∀ m H, RD K m H d v
  | .non, u, h => by
    cases u <;> simp [conB] at h
    exact ⟨.non, rfl, fun _ _ => .non⟩
  | .bl a, u, h => by
    cases u <;> simp [conB] at h
    subst h
    exact ⟨.bl _, rfl, fun _ _ => .bl _⟩
  | .int i, u, h => by
    cases u <;> simp [conB] at h
    subst h
    exact ⟨.int _, ⟨_, rfl⟩, fun _ _ => .int _⟩
  | .str x, u, h => by
    cases u <;> simp [conB] at h
    rename_i y t
    subst h
    refine ⟨.str y, ⟨_, rfl⟩, fun _ _ => ?_⟩
    have e : (⟨y.cps.toList.toArray⟩ : PySem.Str) = y := by simp
    have z := RD.str (K := K) (m := ‹_›) (H := ‹_›) y.cps.toList
    rw [e] at z
    exact z
  | .tup ds, u, h => by
    cases u with
    | ref a =>
      have h1 : (match K.lookup a with
        | some ⟨.type c, od, .seq its _, _⟩ => decide (c = "tuple") && (od.isNone && (decide (its.size ≤ sizeLine) && conAll K ds its.toList))
        | _ => false) = true := by
        simpa only [conB] using h
      split at h1
      · rename_i c od its n osl e
        simp only [Bool.and_eq_true, decide_eq_true_eq] at h1
        obtain ⟨h2, h5, h3, h4⟩ := h1
        subst h2
        have hod : od = none := by simpa using h5
        obtain ⟨vs, r, q⟩ := conAll_ok ds its.toList h4
        exact ⟨.ref a, rfl, fun m H => .tup (.inr ⟨_, its, n, e, rfl, hod, rfl, h3, r⟩) (q m H)⟩
      · cases h1
    | _ => simp [conB] at h
  | .ref _, u, h => by simp [conB] at h
  | .ty _, u, h => by simp [conB] at h
  | .adr _, u, h => by simp [conB] at h
  | .rol _, u, h => by simp [conB] at h
theorem conAll_ok {K : PySem.W.Frag} : ∀ (ds : List D) (us : List Value), conAll K ds us = true → ∃ vs, Vals vs us ∧ ∀ m H, RDs K m H ds vs
  | [], [], _ => ⟨[], .nil, fun _ _ => .nil⟩
  | [], _ :: _, h => by simp [conAll] at h
  | _ :: _, [], h => by simp [conAll] at h
  | d :: ds, u :: us, h => by
    simp only [conAll, Bool.and_eq_true] at h
    obtain ⟨v, r1, q1⟩ := conB_ok d u h.1
    obtain ⟨vs, r2, q2⟩ := conAll_ok ds us h.2
    exact ⟨v :: vs, .cons r1 r2, fun m H => .cons (q1 m H) (q2 m H)⟩
end
/-- a module's name holds a constant -/
structure Con (K : PySem.W.Frag) (mg : Str → Option Value) (x : Str) (d : D) : Prop where
  ex : ∃ u v, mg x = some u ∧ RelV v u ∧ ∀ m H, RD K m H d v
theorem ex_con {X : Cx} {W : WX} {x : Str} {d : D} {pos : Pos} (c : Con X.K X.mg x d) (hg : Gl X x := by rfl) (hd : (x == ("__debug__" : Str)) = false := by decide) : Ex X W (.Name x pos) (eC d) := by
  obtain ⟨u, v, hm, r, rd⟩ := c.ex
  exact ex_glob hg hm r rd hd
/-- further facts of the top -/
inductive Fx where
  /-- a built-in function by a name of the module's -/
  | blt (x : Str) (id : String)
  /-- a constant -/
  | con (x : Str) (d : D)
def Fx.ok (K : PySem.W.Frag) : Fx → Bool
  | .blt x id => (match PySem.W.nsIn K mainGlobals x with
    | some (some (.builtin j)) => decide (j = id)
    | _ => false)
  | .con x d => (match PySem.W.nsIn K mainGlobals x with
    | some (some u) => conB K d u
    | _ => false)
section
variable {K : PySem.W.Frag} {h : Heap} {mg : Str → Option Value}
theorem blt_ok (X : K.In h) (G : h.Ns mainGlobals mg) {x : Str} {id : String} (c : (Fx.blt x id).ok K = true) : mg x = some (.builtin id) := by
  have c : (match PySem.W.nsIn K mainGlobals x with
    | some (some (.builtin j)) => decide (j = id)
    | _ => false) = true := c
  split at c
  · rename_i j e
    rw [PySem.W.mg_of X G e, of_decide_eq_true c]
  · cases c
theorem con_ok (X : K.In h) (G : h.Ns mainGlobals mg) {x : Str} {d : D} (c : (Fx.con x d).ok K = true) : Con K mg x d := by
  have c : (match PySem.W.nsIn K mainGlobals x with
    | some (some u) => conB K d u
    | _ => false) = true := c
  split at c
  · rename_i u e
    obtain ⟨v, r, q⟩ := conB_ok d u c
    exact ⟨u, v, PySem.W.mg_of X G e, r, q⟩
  · cases c
end
/-! ### the Hook -/
def obsM (fa : List He.Fa) (fx : List Fx) (fn : List He.DefD) (K : PySem.W.Frag) : He.AlD := (((fa.all fun f => f.ok K) && fx.all fun f => f.ok K) && fn.all fun d => d.ok K, fn.map fun d => He.fnW K d.at_)
def SaysM (fa : List He.Fa) (fx : List Fx) (fn : List He.DefD) (K : PySem.W.Frag) : Prop := obsM fa fx fn K = He.valD fn
def obsMG (n : Nat) (fa : List He.Fa) (fx : List Fx) (fn : List He.DefD) (g : Addr → Option Obj) : He.AlD := obsM fa fx fn (He.frG g (He.asD g n))
def hookM (n : Nat) (fa : List He.Fa) (fx : List Fx) (fn : List He.DefD) : PySem.W.Hook where
  α := He.AlD
  obs := fun s => obsMG n fa fx fn s.heap.get?
  val := fun _ => He.valD fn
  says := fun _ h => ∃ K : PySem.W.Frag, K.In h ∧ SaysM fa fx fn K
  of := fun _ _ e => ⟨_, He.frG_in, e⟩
  keeps := fun _ _ _ ⟨K, hK, c⟩ k => ⟨K, PySem.W.Frag.In.keeps hK k, c⟩
theorem obsMG_eq {n : Nat} {fa : List He.Fa} {fx : List Fx} {fn : List He.DefD} {g : Addr → Option Obj} {s : Shared} (h : ∀ a, g a = s.heap.get? a) : obsMG n fa fx fn g = (hookM n fa fx fn).obs s := by
  have e : g = s.heap.get? := funext h
  rw [e] <;> rfl
section
variable {fa : List He.Fa} {fx : List Fx} {fn : List He.DefD} {K : PySem.W.Frag}
theorem SaysM.fact (c : SaysM fa fx fn K) (i : Nat) {f : He.Fa} (h : fa[i]? = some f := by rfl) : f.ok K = true := by
  have c1 := (He.ba (He.ba (show (((fa.all fun f => f.ok K) && fx.all fun f => f.ok K) && fn.all fun d => d.ok K) = true from congrArg (fun z : He.AlD => z.1) c)).1).1
  exact List.all_eq_true.mp c1 f (List.mem_of_getElem? h)
theorem SaysM.more (c : SaysM fa fx fn K) (i : Nat) {f : Fx} (h : fx[i]? = some f := by rfl) : f.ok K = true := by
  have c1 := (He.ba (He.ba (show (((fa.all fun f => f.ok K) && fx.all fun f => f.ok K) && fn.all fun d => d.ok K) = true from congrArg (fun z : He.AlD => z.1) c)).1).2
  exact List.all_eq_true.mp c1 f (List.mem_of_getElem? h)
theorem SaysM.def_ (c : SaysM fa fx fn K) (i : Nat) {d : He.DefD} (h : fn[i]? = some d := by rfl) : ∃ fd, FunD K d.name d.qual d.params d.body d.scope (d.dvs K) (d.kws K) (He.fAd K d.at_) fd := by
  have c2 := (He.ba (show (((fa.all fun f => f.ok K) && fx.all fun f => f.ok K) && fn.all fun d => d.ok K) = true from congrArg (fun z : He.AlD => z.1) c)).2
  have e : fn.map (fun d => He.fnW K d.at_) = fn.map He.DefD.val := congrArg (fun z : He.AlD => z.2) c
  have e2 : (fn.map fun d => He.fnW K d.at_)[i]? = (fn.map He.DefD.val)[i]? := by rw [e]
  rw [List.getElem?_map, List.getElem?_map, h] at e2
  exact He.DefD.funD (Option.some.inj e2) (List.all_eq_true.mp c2 d (List.mem_of_getElem? h))
end
/-! ### the law's end -/
/-- where nothing may be let out -/
theorem FnM.shut {P : Program} {w : World} {K : PySem.W.Frag} {mg : Str → Option Value} {base : Heap} {k : Nat} {f : Addr} {fd : FuncData} {ps : List Str} {mf : FM} (F : FnM P w K mg base k f fd ps mf) :
    FnOk P w K mg base CX0 k f fd ps (fun vs H Q _ => spM ⟨K, w⟩ ps.length mf vs H Q fun _ _ _ => False) where
  len := fun vs H Q E h => F.len vs H Q _ h
  run := fun A outer s H args us vs Q E hr e0 hb hv h => by
    refine codeAny_mono (F.run A outer s H args us vs Q _ hr e0 hb hv h) fun r s' hq => ?_
    cases r with
    | error e =>
      obtain ⟨_, _, _, _, _, _, _, _, _, _, _, _, z⟩ := (hq : L2.CX P w outer H s (fun _ _ _ => False) e s')
      exact z.elim
    | ok fl => cases fl <;> exact hq
end HM

/-! HM, part 10: methods of lists and texts, in, slices, sums. -/
namespace HM
open PySem PySem.Spec PyProof.Rows L2
section
variable {X : Cx} {W : WX} {e o a b c : Expr} {es : List Expr} {pos p : Pos} {f fo fa fb : EM D} {fs : EM (List D)}
theorem _root_.L2.Room.units65 {k : Nat} {A : Around} (r : Room k A) : A.units + 65 < cLine := by have := r.un; omega
theorem below_line {n : Nat} (h : n < 16777216) : n < sizeLine := by
  rw [PySem.sizeLine_eq]
  exact h
/-! ### methods -/
abbrev MM := D → FM
def MethM (X : Cx) (id : String) (g : MM) : Prop :=
  ∃ r, MtR X id r ∧ ∀ (m : List Addr) (st : Store) (H : Hp) (d : D) (v : V) (ds : List D) (vs : List V) (E : XK) (Q : VK), SS X.kw m st H → RD X.K m H d v → RDs X.K m H ds vs → Pe X.kw E (RD X.K) m H (g d ds st) Q → r v vs H Q
def okT (T : String) (st : Store) (d : D) : Bool := match d with
  | .str _ => decide (T = "str")
  | .tup _ => decide (T = "tuple")
  | .rol _ => decide (T = "list")
  | .ref n => decide (T = "list") && (lstAt st n).isSome
  | _ => false
theorem okT_ty {K : KW} {m : List Addr} {st : Store} {H : Hp} {d : D} {v : V} {T : String} (s : SS K m st H) (h : okT T st d = true) (r : RD K m H d v) : tyP K T v H := by
  cases r with
  | str x =>
    have q : T = "str" := of_decide_eq_true h
    exact .inl q
  | tup q rs =>
    have q0 : T = "tuple" := of_decide_eq_true h
    rcases q with ⟨o, hd, q⟩ | ⟨o, its, n, q1, q2, q3, _⟩
    · exact .inr ⟨q0, _, o, _, rfl, q, hd⟩
    · exact .inl (.inr (.inl ⟨q0, o, q1, q2, q3⟩))
  | rol q rs => exact .inl (.inl ⟨of_decide_eq_true h, _, q.sq⟩)
  | ref q =>
    have h : (decide (T = "list") && (lstAt st _).isSome) = true := h
    rw [Bool.and_eq_true] at h
    obtain ⟨xs, e⟩ := Option.isSome_iff_exists.mp h.2
    obtain ⟨vs, h1, h2⟩ := s.list e q
    exact .inl (.inl ⟨of_decide_eq_true h.1, _, SqL.of h1⟩)
  | _ => cases h
def eM (T : String) (g : MM) (fo : EM D) (fs : EM (List D)) : EM D := fun τ st => (fo τ st).bind fun d s1 => if okT T s1 d then (fs τ s1).bind fun ds s2 => g d ds s2 else .bad
theorem ex_m {name : Str} {apos cpos : Pos} {T id : String} {g : MM} (pa : PlainAttrs T) (slot : Slot T name id) (hty : typeOf (.builtin id) = pure (.type "method_descriptor")) (hm : MethM X id g) (ho : Ex X W o fo) (ha : Ea X W (e :: es) fs)
    (hbase : attributeBase o name X.env (eval o X.env) = eval o X.env := by rfl)
    (hfew : ((backTo cpos (starEach (e :: es) X.env)).all (fun x => !x.1) && (backToKw cpos (keywordEach [] X.env)).all (fun x => x.1.isSome)
      && decide ((e :: es).length + ([] : List Keyword).length + (if ([] : List Keyword).isEmpty then 0 else 1) < 30)) = true := by rfl)
    (hline : (apos.endLine == cpos.line) = true := by rfl) (hs : starEach (e :: es) X.env = (false, eval e X.env) :: starEach es X.env := by rfl) (hplain : (backTo cpos (starEach es X.env)).any (·.1) = false := by rfl) :
    Ex X W (.Call (.Attribute o name apos) (e :: es) [] cpos) (eM T g fo fs) := by
  obtain ⟨r, hr, h⟩ := hm
  refine ⟨fun m τ st σ H Q hL hS hP pins s I => (pe_bmP pa slot hty hr peW paW hbase hfew hline hs hplain).run pins s σ H Q I ?_⟩
  refine ho.run m τ st σ H _ hL hS (hP.bind fun d s1 m1 H1 v e1 hS1 r1 hP1 => ?_)
  split at hP1
  · rename_i hk
    exact ⟨okT_ty hS1 hk r1, ha.run m1 τ s1 σ H1 _ (hL.mono e1) hS1 (hP1.bind fun ds s2 m2 H2 vs e2 hS2 r2 hP2 => h m2 s2 H2 d v ds vs _ Q hS2 (r1.mono e2) r2 hP2)⟩
  · exact hP1.elim
theorem ex_m0 {name : Str} {apos cpos : Pos} {T id : String} {g : MM} (pa : PlainAttrs T) (slot : Slot T name id) (hty : typeOf (.builtin id) = pure (.type "method_descriptor")) (hm : MethM X id g) (ho : Ex X W o fo)
    (hbase : attributeBase o name X.env (eval o X.env) = eval o X.env := by rfl) (hline : (apos.endLine == cpos.line) = true := by rfl) :
    Ex X W (.Call (.Attribute o name apos) [] [] cpos) (eM T g fo aNil) := by
  obtain ⟨r, hr, h⟩ := hm
  refine ⟨fun m τ st σ H Q hL hS hP pins s I => (pe_bm0P pa slot hty hr peW hbase hline).run pins s σ H Q I ?_⟩
  refine ho.run m τ st σ H _ hL hS (hP.bind fun d s1 m1 H1 v e1 hS1 r1 hP1 => ?_)
  split at hP1
  · rename_i hk
    exact ⟨okT_ty hS1 hk r1, h m1 s1 H1 d v [] [] _ Q hS1 r1 .nil hP1⟩
  · exact hP1.elim
def mAppend : MM := fun d ds st => match d, ds with
  | .ref n, [x] => match lstAt st n with
    | some xs => if xs.length < 16777216 then .ok .non (st.set n (.lst (xs ++ [x]))) else .bad
    | none => .bad
  | _, _ => .bad
theorem me_append : MethM X "list.append" mAppend := ⟨_, mt_append, fun m st H d v ds vs E Q hS r rs hP => by
  unfold mAppend at hP
  split at hP
  · split at hP
    · rename_i xs hx
      split at hP
      · rename_i hl
        cases r with
        | ref q =>
          obtain ⟨us, h1, h2⟩ := hS.list hx q
          obtain ⟨u, rfl, ru⟩ := rs.one
          exact ⟨_, us, u, rfl, rfl, h1, below_line (by rw [← h2.len]; exact hl), hP m _ _ (Ext.write h1 q) (hS.write h1 q (h2.append (.cons ru .nil))) .non⟩
      · exact hP.elim
    · exact hP.elim
  · exact hP.elim⟩
def mExtend : MM := fun d ds st => match d, ds with
  | .ref n, [.ref k] => match lstAt st n, lstAt st k with
    | some xs, some ys => if xs.length + ys.length ≤ 16777216 then .ok .non (st.set n (.lst (xs ++ ys))) else .bad
    | _, _ => .bad
  | _, _ => .bad
theorem me_extend : MethM X "list.extend" mExtend := ⟨_, mt_extend, fun m st H d v ds vs E Q hS r rs hP => by
  unfold mExtend at hP
  split at hP
  · split at hP
    · rename_i xs ys hx hy
      split at hP
      · rename_i hl
        obtain ⟨u, rfl, ru⟩ := rs.one
        cases r with
        | ref q =>
          cases ru with
          | ref q' =>
            obtain ⟨us, h1, h2⟩ := hS.list hx q
            obtain ⟨ws, h3, h4⟩ := hS.list hy q'
            exact ⟨_, _, us, ws, rfl, rfl, h1, h3, line_of (by rw [← h2.len, ← h4.len]; exact hl), hP m _ _ (Ext.write h1 q) (hS.write h1 q (h2.append h4)) .non⟩
      · exact hP.elim
    · exact hP.elim
  · exact hP.elim⟩
def mPop : MM := fun d ds st => match d, ds with
  | .ref n, [] => match lstAt st n with
    | some xs => match xs[xs.length - 1]? with
      | some y => .ok y (st.set n (.lst xs.dropLast))
      | none => .bad
    | none => .bad
  | _, _ => .bad
theorem me_pop : MethM X "list.pop" mPop := ⟨_, mt_pop, fun m st H d v ds vs E Q hS r rs hP => by
  unfold mPop at hP
  split at hP
  · split at hP
    · rename_i xs hx
      split at hP
      · rename_i y hy
        cases r with
        | ref q =>
          obtain ⟨us, h1, h2⟩ := hS.list hx q
          cases rs
          rw [h2.len] at hy
          obtain ⟨u, hu, ru⟩ := h2.get hy
          have e := Ext.write (K := X.K) (o := .lst us.dropLast) h1 q
          exact ⟨_, us, u, rfl, rfl, h1, hu, hP m _ _ e (hS.write h1 q h2.dropLast) (ru.mono e)⟩
      · exact hP.elim
    · exact hP.elim
  · exact hP.elim⟩
def okIx (i : Int) : Bool := decide (i.natAbs < 9223372036854775808)
theorem okIx_ok {i : Int} (h : okIx i = true) : -(2 ^ 63) ≤ i ∧ i < 2 ^ 63 := by
  have q : i.natAbs < 9223372036854775808 := of_decide_eq_true h
  have q' : -9223372036854775808 ≤ i ∧ i < 9223372036854775808 := by omega
  exact q'
def mPopAt : MM := fun d ds st => match d, ds with
  | .ref n, [.int i] => match lstAt st n with
    | some xs => match seqIndex? i xs.length with
      | some k => match xs[k]? with
        | some y => if okIx i then .ok y (st.set n (.lst (xs.eraseIdx k))) else .bad
        | none => .bad
      | none => .bad
    | none => .bad
  | _, _ => .bad
theorem me_popAt : MethM X "list.pop" mPopAt := ⟨_, mt_popAt, fun m st H d v ds vs E Q hS r rs hP => by
  unfold mPopAt at hP
  split at hP
  · split at hP
    · rename_i xs hx
      split at hP
      · rename_i k hk
        split at hP
        · rename_i y hy
          split at hP
          · rename_i hi
            obtain ⟨w, rfl, rw'⟩ := rs.one
            cases rw'
            cases r with
            | ref q =>
              obtain ⟨us, h1, h2⟩ := hS.list hx q
              obtain ⟨u, hu, ru⟩ := h2.get hy
              have e := Ext.write (K := X.K) (o := .lst (us.eraseIdx k)) h1 q
              exact ⟨_, us, _, k, u, rfl, rfl, h1, (okIx_ok hi).1, (okIx_ok hi).2, by rw [← h2.len]; exact hk, hu, hP m _ _ e (hS.write h1 q (h2.erase k)) (ru.mono e)⟩
          · exact hP.elim
        · exact hP.elim
      · exact hP.elim
    · exact hP.elim
  · exact hP.elim⟩
def mInsert : MM := fun d ds st => match d, ds with
  | .ref n, [.int i, y] => match lstAt st n with
    | some xs => if decide (0 ≤ i) && okIx i && decide (xs.length < 16777216) then .ok .non (st.set n (.lst (xs.take i.toNat ++ [y] ++ xs.drop i.toNat))) else .bad
    | none => .bad
  | _, _ => .bad
theorem me_insert : MethM X "list.insert" mInsert := ⟨_, mt_insert, fun m st H d v ds vs E Q hS r rs hP => by
  unfold mInsert at hP
  split at hP
  · split at hP
    · rename_i xs hx
      split at hP
      · rename_i hc
        simp only [Bool.and_eq_true, decide_eq_true_eq] at hc
        obtain ⟨w, u, rfl, rw', ru⟩ := rs.two
        cases rw'
        cases r with
        | ref q =>
          obtain ⟨us, h1, h2⟩ := hS.list hx q
          exact ⟨_, us, _, u, rfl, rfl, h1, below_line (by rw [← h2.len]; exact hc.2), hc.1.1, (okIx_ok hc.1.2).2, hP m _ _ (Ext.write h1 q) (hS.write h1 q (((h2.take _).append (.cons ru .nil)).append (h2.drop _))) .non⟩
      · exact hP.elim
    · exact hP.elim
  · exact hP.elim⟩
/-! ### in -/
def D.flat : D → Bool
  | .non => true
  | .bl _ => true
  | .int _ => true
  | .str _ => true
  | _ => false
def eqF : D → D → Bool
  | .non, .non => true
  | .bl a, .bl b => a == b
  | .bl a, .int b => (if a then 1 else 0) == b
  | .int a, .bl b => a == (if b then 1 else 0)
  | .int a, .int b => decide (a = b)
  | .str a, .str b => decide (a = b)
  | _, _ => false
theorem flat_V {K : PySem.W.Frag} {m : List Addr} {H : Hp} {d : D} {v : V} (r : RD K m H d v) (h : d.flat = true) : flatV v = true := by
  cases r <;> first | rfl | cases h
theorem flats_V {K : PySem.W.Frag} {m : List Addr} {H : Hp} : ∀ {ds : List D} {vs : List V}, RDs K m H ds vs → ds.all D.flat = true → vs.all flatV = true
  | [], _, .nil, _ => rfl
  | d :: ds, _, .cons r rs, h => by
    rw [List.all_cons, Bool.and_eq_true] at h ⊢
    exact ⟨flat_V r h.1, flats_V rs h.2⟩
theorem eqF_V {K : PySem.W.Frag} {m : List Addr} {H : Hp} {d e : D} {v u : V} (r : RD K m H d v) (r' : RD K m H e u) (h : d.flat = true) (h' : e.flat = true) : eqV v u = eqF d e := by
  cases r with
  | non => cases r' <;> first | rfl | cases h'
  | bl b => cases r' <;> first | rfl | cases h'
  | int i =>
    cases r' with
    | int j =>
      show (i == j) = decide (i = j)
      rw [Bool.eq_iff_iff]
      simp
    | _ => first | rfl | cases h'
  | str x =>
    cases r' with
    | str y =>
      show ((⟨x.toArray⟩ : Str) == (⟨y.toArray⟩ : Str)) = decide (x = y)
      rw [Bool.eq_iff_iff]
      simp
    | _ => first | rfl | cases h'
  | _ => cases h
theorem inV_D {K : PySem.W.Frag} {m : List Addr} {H : Hp} {d : D} {v : V} (r : RD K m H d v) (h : d.flat = true) : ∀ {ds : List D} {vs : List V}, RDs K m H ds vs → ds.all D.flat = true → inV v vs = ds.any fun y => eqF y d
  | [], _, .nil, _ => rfl
  | e :: ds, _, .cons r' rs, h' => by
    rw [List.all_cons, Bool.and_eq_true] at h'
    have := inV_D r h rs h'.2
    unfold inV at this ⊢
    rw [List.any_cons, List.any_cons, this, eqF_V r' r h'.1 h]
def rInT (K : PySem.W.Frag) (neg : Bool) : R2 := fun x y H Q => ∃ d ds, Dp K H x d ∧ Dp K H y (.tuple ds) ∧ SeqAt.shaped d = true ∧ SeqAt.shaped (.tuple ds) = true ∧ Q (.bl (if neg then !(ds.any fun z => PyData.eqv z d) else ds.any fun z => PyData.eqv z d)) H
theorem op_inT (hu : X.A.units + 65 < cLine) : OpR X (compareOp .In) (rInT X.K false) := by
  intro pins s σ H x y v u Q I rx ry h
  obtain ⟨d, ds, hd, he, sd, se, q⟩ := h
  obtain ⟨as, r1⟩ := Dp.reads I d x v hd rx
  obtain ⟨bs, r2⟩ := Dp.reads I (.tuple ds) y u he ry
  exact SeqAt.in_tuple_reads r2 r1 (SeqAt.canLay_of_shaped se) (SeqAt.canLay_of_shaped sd) (room_in_shaped sd hu) ⟨.bl _, H, I, rfl, q⟩
theorem op_notInT (hu : X.A.units + 65 < cLine) : OpR X (compareOp .NotIn) (rInT X.K true) := by
  intro pins s σ H x y v u Q I rx ry h
  obtain ⟨d, ds, hd, he, sd, se, q⟩ := h
  obtain ⟨as, r1⟩ := Dp.reads I d x v hd rx
  obtain ⟨bs, r2⟩ := Dp.reads I (.tuple ds) y u he ry
  exact SeqAt.notIn_tuple_reads r2 r1 (SeqAt.canLay_of_shaped se) (SeqAt.canLay_of_shaped sd) (room_in_shaped sd hu) ⟨.bl _, H, I, rfl, q⟩
/-- is it among flat ones, one sign in a text, among data of any depth -/
def dInS (x y : D) (st : Store) : Option Bool := match x, y with
  | .str [c], .str z => some (decide (c ∈ z))
  | x, y => match dSeq st y with
    | some ys => if x.flat && ys.all D.flat then some (ys.any fun y => eqF y x) else if x.plain 59 && ys.all (D.plain 59) then some (decide (x ∈ ys)) else none
    | none => none
def oInS : O2 := fun x y st => match dInS x y st with
  | some b => .ok (.bl b) st
  | none => .bad
def oNotInS : O2 := fun x y st => match dInS x y st with
  | some b => .ok (.bl !b) st
  | none => .bad
theorem any_plain {n : Nat} {x : D} (hx : x.plain n = true) : ∀ {ys : List D}, ys.all (D.plain n) = true → ((ys.map (D.toP n)).any fun z => PyData.eqv z (x.toP n)) = decide (x ∈ ys)
  | [], _ => by simp
  | y :: ys, h => by
    rw [List.all_cons, Bool.and_eq_true] at h
    rw [List.map_cons, List.any_cons, any_plain hx h.2, eqv_plain n y x h.1 hx]
    simp [List.mem_cons, eq_comm]
theorem m_inB {op : CmpOp} {neg : Bool} {r1 r2 r3 r4 : R2} (h1 : OpR X (compareOp op) r1) (h2 : OpR X (compareOp op) r2) (h3 : OpR X (compareOp op) r3) (h4 : OpR X (compareOp op) r4)
    (s1 : ∀ (c : Nat) (z : Str) H Q, Q (.bl (if neg then !decide (c ∈ z.cps.toList) else decide (c ∈ z.cps.toList))) H → r1 (.str ⟨#[c]⟩) (.str z) H Q)
    (s2 : ∀ x y H Q, rIn X.K neg x y H Q → r2 x y H Q)
    (s3 : ∀ x y H Q d ds, Dp X.K H x d → Dp X.K H y (.list ds) → SeqAt.shaped d = true → SeqAt.shaped (.list ds) = true → Q (.bl (if neg then !(ds.any fun z => PyData.eqv z d) else ds.any fun z => PyData.eqv z d)) H → r3 x y H Q)
    (s4 : ∀ x y H Q d ds, Dp X.K H x d → Dp X.K H y (.tuple ds) → SeqAt.shaped d = true → SeqAt.shaped (.tuple ds) = true → Q (.bl (if neg then !(ds.any fun z => PyData.eqv z d) else ds.any fun z => PyData.eqv z d)) H → r4 x y H Q) :
    OpM X W (compareOp op) (fun x y st => match dInS x y st with
    | some b => .ok (.bl (if neg then !b else b)) st
    | none => .bad) := opm_of ((h1.or h2).or (h3.or h4)) fun m st H dx dy x y E Q hS ra rb hP => by
  have fin : ∀ {q : PyData}, q.canLay0 = true → q.depth ≤ 60 → SeqAt.shaped q = true := fun {q} h1 h2 => by
    unfold SeqAt.shaped
    rw [h1, Bool.true_and, decide_eq_true_eq]
    omega
  split at hP
  · rename_i b hb
    unfold dInS at hb
    split at hb
    · cases hb
      cases ra
      cases rb
      exact .inl (.inl (s1 _ _ _ _ (hP.now hS (.bl _))))
    · split at hb
      · rename_i ys hy
        split at hb
        · rename_i hf
          cases hb
          rw [Bool.and_eq_true] at hf
          obtain ⟨p, vs, rfl, q, rs⟩ := dSeq_read hS hy rb
          refine .inl (.inr (s2 _ _ _ _ ⟨p, vs, rfl, q.imp id PlT.sq, flat_V ra hf.1, flats_V rs hf.2, ?_⟩))
          rw [inV_D ra hf.1 rs hf.2]
          exact hP.now hS (.bl _)
        · split at hb
          · rename_i hf
            cases hb
            rw [Bool.and_eq_true] at hf
            obtain ⟨p, vs, rfl, q, rs⟩ := dSeq_read hS hy rb
            obtain ⟨a1, a2, a3⟩ := plain_dp 59 dx x hf.1 ra
            obtain ⟨b1, b2, b3⟩ := plain_all (plain_dp 59) ys vs hf.2 rs
            have e := any_plain hf.1 hf.2
            rcases q with q | q
            · refine .inr (.inl (s3 _ _ _ _ _ _ a1 (.lst q b1) (fin a2 (by omega)) (fin (by simpa only [PyData.canLay0] using b2) (by simp only [PyData.depth]; omega)) ?_))
              rw [e]
              exact hP.now hS (.bl _)
            · refine .inr (.inr (s4 _ _ _ _ _ _ a1 (.tup q.sq b1) (fin a2 (by omega)) (fin (by simpa only [PyData.canLay0] using b2) (by simp only [PyData.depth]; omega)) ?_))
              rw [e]
              exact hP.now hS (.bl _)
          · cases hb
      · cases hb
  · exact hP.elim
theorem m_inS (hu : X.A.units + 65 < cLine) : OpM X W (compareOp .In) oInS := m_inB (neg := false) op_in_sign op_in_seq (op_inD hu) (op_inT hu)
  (fun c z H Q h => ⟨c, z, rfl, rfl, h⟩) (fun x y H Q h => h) (fun x y H Q d ds h1 h2 h3 h4 q => ⟨d, ds, h1, h2, h3, h4, q⟩) (fun x y H Q d ds h1 h2 h3 h4 q => ⟨d, ds, h1, h2, h3, h4, q⟩)
theorem m_notinS (hu : X.A.units + 65 < cLine) : OpM X W (compareOp .NotIn) oNotInS := m_inB (neg := true) op_notIn_sign op_notIn_seq (op_notInD hu) (op_notInT hu)
  (fun c z H Q h => ⟨c, z, rfl, rfl, h⟩) (fun x y H Q h => h) (fun x y H Q d ds h1 h2 h3 h4 q => ⟨d, ds, h1, h2, h3, h4, q⟩) (fun x y H Q d ds h1 h2 h3 h4 q => ⟨d, ds, h1, h2, h3, h4, q⟩)
end
end HM

/-! HM, part 11: slices, sums, all and any, join, texts repeated, lcm. -/
namespace HM
open PySem PySem.Spec PyProof.Rows L2
section
variable {prog : Program} {w : World} {A : Around} {E : Value → Shared → Prop} {s : Shared}
theorem get_whole {t sl : Addr} {items : Array Value} {vl vu : Value} {lo hi : Option Int} {Q : Value → Shared → Prop} (ht : IsTup s.heap t items) (hs : s.heap.IsSliceOf sl vl vu .none) (pl : IsPart vl lo) (pu : IsPart vu hi)
    (h1 : HT.sIx items.size 0 lo = 0) (h2 : HT.sIx items.size items.size hi = items.size) (q : Q (.ref t) s) : wpAny (model prog w) A (getItem (.ref t) (.ref sl)) Q E s := by
  obtain ⟨ob, o1, o2, o3⟩ := id hs
  unfold getItem
  try with_reducible refine wpAny_holding ?_
  try refine wpAny_bind (wpAny_pure ?_)
  refine wpAny_bind (wpAny_sequenceKey ht.typeIs (by decide) ?_)
  refine wpAny_bind (wpAny_callSpecial?_slot (name := Str.ofString "__getitem__") ht.typeIs PyProof.Rows.slot_tuple_getitem (wpAny_call_entry PyProof.Rows.slot_tuple_getitem ht.typeIs entry_tuple_getitem ?_ (args_tuple_getitem _ _)))
  show wpAny _ _ (Builtin.Tuple.tupleItemsOf (.ref t) >>= _) _ _ s
  refine wpAny_bind (tupleItemsOf_ ht (wpAny_bind (wpAny_typeOf (T := "slice") ⟨ob, o1, o2⟩ ?_)))
  rw [if_pos (by decide)]
  refine wpAny_bind (HT.sliceApplied_gen hs pl pu ?_)
  have yes : (((HT.sIx items.size 0 lo : Nat) : Int) == 0 && (1 : Int) == 1 && (HT.sIx items.size items.size hi - HT.sIx items.size 0 lo) == items.size) = true := by
    rw [h1, h2]
    simp
  show wpAny _ _ (if (((HT.sIx items.size 0 lo : Nat) : Int) == 0 && (1 : Int) == 1 && (HT.sIx items.size items.size hi - HT.sIx items.size 0 lo) == items.size) = true then _ else _) _ _ s
  rw [if_pos yes]
  unfold Builtin.Tuple.tupleIsExact
  refine wpAny_bind (wpAny_bind (wpAny_typeOf ht.typeIs ?_))
  refine wpAny_pure ?_
  rw [if_pos (by decide)]
  first
    | exact wpAny_pure ⟨_, rfl, wpAny_pure q⟩
    | exact wpAny_bind (wpAny_rule (wpAny_pure ⟨_, rfl, wpAny_pure q⟩))
end
section
variable {X : Cx}
/-- the whole of a tuple is the tuple -/
def rSlW (K : PySem.W.Frag) : V → Option Int → Option Int → Hp → VK → Prop := fun x lo hi H Q => ∃ a xs, x = .ref a ∧ SqT K H a xs ∧ HT.sIx xs.length 0 lo = 0 ∧ HT.sIx xs.length xs.length hi = xs.length ∧ Q (.ref a) H
theorem sl_whole : SlR X (rSlW X.K) := by
  intro pins s σ H x v vl vu lo hi sl Q I rx hs pl pu h
  obtain ⟨a, xs, rfl, hx, h1, h2, q⟩ := h
  cases rx
  obtain ⟨its, r, ht, hz⟩ := I.tuple hx
  have e : its.toArray.size = xs.length := by rw [List.size_toArray, ← r.length]
  exact ⟨"tuple", _, PyProof.Rows.slot_tuple_getitem.lookup, ht.typeIs, get_whole ht hs pl pu (by rw [e]; exact h1) (by rw [e]; exact h2) ⟨.ref a, H, I, rfl, q⟩⟩
end
section
variable {X : Cx} {W : WX} {e o a b c : Expr} {es : List Expr} {pos p p2 : Pos} {f fo fa fb : EM D} {fs : EM (List D)}
/-! ### slices -/
def cutD {α : Type} (xs : List α) (lo hi : Option Int) : List α := (xs.drop (HT.sIx xs.length 0 lo)).take (HT.sIx xs.length xs.length hi - HT.sIx xs.length 0 lo)
theorem RDs.cut {K : PySem.W.Frag} {m : List Addr} {H : Hp} {ds : List D} {vs : List V} (r : RDs K m H ds vs) (lo hi : Option Int) : RDs K m H (cutD ds lo hi) (cutV vs lo hi) := by
  unfold cutD cutV
  rw [r.len]
  exact (r.drop _).take _
/-- a part of a slice -/
structure Eo (X : Cx) (W : WX) (e : Option Expr) (f : EM (Option Int)) : Prop where
  run : ∃ t : TO, PO X e t ∧ ∀ (m : List Addr) (τ : Sl) (st : Store) (σ : L2.St) (H : Hp) (Q : Option Int → Hp → Prop), SL X.K m H τ σ → SS X.kw m st H → Pe X.kw (fun c d H' => W c d σ H') (fun _ _ a b => a = b) m H (f τ st) Q → t σ H Q
def oNone : EM (Option Int) := fun _ st => .ok none st
def oSome (f : EM D) : EM (Option Int) := fun τ st => (f τ st).bind fun d s1 => match d with
  | .int i => .ok (some i) s1
  | _ => .bad
theorem eo_none : Eo X W none oNone := ⟨_, po_none, fun m τ st σ H Q hL hS hP => hP.now hS rfl⟩
theorem eo_some (h : Ex X W e f) : Eo X W (some e) (oSome f) := ⟨_, po_some peW, fun m τ st σ H Q hL hS hP => h.run m τ st σ H _ hL hS (hP.bind fun d s1 m1 H1 v e1 hS1 r1 hP1 => by
  split at hP1
  · cases r1
    exact ⟨_, rfl, hP1.now hS1 rfl⟩
  · exact hP1.elim)⟩
def dCut (d : D) (lo hi : Option Int) (st : Store) : ER D := match d with
  | .str z => if z.length ≤ 16777216 then .ok (.str (cutD z lo hi)) st else .bad
  | .tup xs => .ok (.tup (cutD xs lo hi)) st
  | .rol xs => .ok (.ref st.length) (st ++ [.lst (cutD xs lo hi)])
  | .ref n => match lstAt st n with
    | some xs => .ok (.ref st.length) (st ++ [.lst (cutD xs lo hi)])
    | none => .bad
  | _ => .bad
def eSl (f : EM D) (fl fh : EM (Option Int)) : EM D := fun τ st => (f τ st).bind fun d s1 => (fl τ s1).bind fun l s2 => (fh τ s2).bind fun h s3 => dCut d l h s3
theorem sl_all : SlR X (fun x lo hi H Q => rSlL X.K x lo hi H Q ∨ (rSlF X.K x lo hi H Q ∨ rSlW X.K x lo hi H Q) ∨ rSlS x lo hi H Q) := sl_list.or ((sl_tupF.or sl_whole).or sl_str)
theorem cutS_D (z : List Nat) (lo hi : Option Int) : cutS ⟨z.toArray⟩ lo hi = ⟨(cutD z lo hi).toArray⟩ := by
  unfold cutS cutD
  simp [PySem.Str.length]
theorem ex_sl {lo hi : Option Expr} {fl fh : EM (Option Int)} (he : Ex X W e f) (hl : Eo X W lo fl) (hh : Eo X W hi fh) : Ex X W (.Subscript e (.Slice lo hi none p2) pos) (eSl f fl fh) := by
  obtain ⟨tl, pl, hl⟩ := hl
  obtain ⟨th, ph, hh⟩ := hh
  refine ⟨fun m τ st σ H Q hL hS hP pins s I => (pe_slice sl_all peW pl ph).run pins s σ H Q I ?_⟩
  refine he.run m τ st σ H _ hL hS (hP.bind fun d s1 m1 H1 v e1 hS1 r1 hP1 => ?_)
  refine hl m1 τ s1 σ H1 _ (hL.mono e1) hS1 (hP1.bind fun l s2 m2 H2 l' e2 hS2 r2 hP2 => ?_)
  subst r2
  refine hh m2 τ s2 σ H2 _ ((hL.mono e1).mono e2) hS2 (hP2.bind fun h s3 m3 H3 h' e3 hS3 r3 hP3 => ?_)
  subst r3
  have r1 := (r1.mono e2).mono e3
  unfold dCut at hP3
  split at hP3
  · split at hP3
    · rename_i hz
      cases r1
      refine .inr (.inr ⟨_, rfl, line_of (by simpa [PySem.Str.length] using hz), ?_⟩)
      rw [cutS_D]
      exact hP3.now hS3 (.str _)
    · exact hP3.elim
  · rename_i ds _
    cases r1 with
    | @tup a vs _ q rs =>
      by_cases hw : HT.sIx vs.length 0 l = 0 ∧ HT.sIx vs.length vs.length h = vs.length
      · refine .inr (.inl (.inr ⟨_, _, rfl, q.sq, hw.1, hw.2, hP3.now hS3 ?_⟩))
        have e : cutD ds l h = ds := by
          unfold cutD
          rw [rs.len, hw.1, hw.2, List.drop_zero, Nat.sub_zero, ← rs.len]
          exact List.take_length
        rw [e]
        exact .tup q rs
      · exact .inr (.inl (.inl ⟨_, _, rfl, q.sq, hw, hP3.tup hS3 (rs.cut _ _)⟩))
  · cases r1 with
    | rol q rs => exact .inl ⟨_, _, rfl, q.sq, hP3.lst hS3 (rs.cut _ _)⟩
  · split at hP3
    · rename_i xs hx
      cases r1 with
      | ref q =>
        obtain ⟨vs, h1, h2⟩ := hS3.list hx q
        exact .inl ⟨_, vs, rfl, SqL.of h1, hP3.lst hS3 (h2.cut _ _)⟩
    · exact hP3.elim
  · exact hP3.elim
/-! ### sums -/
def intsD : List D → Option (List Int)
  | [] => some []
  | .int i :: ds => (intsD ds).map (i :: ·)
  | _ => none
theorem intsD_V {K : PySem.W.Frag} {m : List Addr} {H : Hp} : ∀ {ds : List D} {vs : List V} {ns : List Int}, RDs K m H ds vs → intsD ds = some ns → vs = ns.map V.int
  | [], _, _, .nil, h => by
    cases h
    rfl
  | d :: ds, _, ns, .cons r rs, h => by
    unfold intsD at h
    split at h
    · rename_i e
      cases e
    · rename_i i ds' e
      cases e
      cases r
      cases hz : intsD ds with
      | none =>
        rw [hz] at h
        cases h
      | some ks =>
        rw [hz] at h
        cases h
        rw [intsD_V rs hz]
        rfl
    · cases h
theorem intsD_map : ∀ ns : List Int, intsD (ns.map D.int) = some ns
  | [] => rfl
  | n :: ns => by
    rw [List.map_cons, intsD, intsD_map ns]
    rfl
def rSumT (K : PySem.W.Frag) : List V → Hp → VK → Prop := fun vs H Q => ∃ (a : Addr) (ns : List Int), vs = [V.ref a] ∧ SqT K H a (ns.map V.int) ∧ Q (.int ns.sum) H
theorem cr_sumT (hc : X.calm = true) : CallR X (.builtin "sum") (rSumT X.K) := by
  intro pins s σ H vs us Q I r h
  obtain ⟨a, ns, rfl, hs, q⟩ := h
  obtain ⟨its, rv, hl, _⟩ := I.tuple hs
  rw [Vals.ref1 r]
  have hi := rv.ints
  obtain ⟨xs, e⟩ := hi.allInts.items
  have hn : numsOf (intItems xs).toList = ns := by rw [← e]; exact hi.numsOf
  rw [nums_intItems] at hn
  obtain ⟨ob, ho, hcl, n, hd⟩ := hl
  have ht : s.heap.IsTuple a (intItems xs) := by
    rw [← e]
    exact ⟨ob, ho, hcl, n, hd⟩
  refine PySem.W.ktm_sumG (I.ok.hd hc) ht fun h' tk t' hk => ⟨.int _, H, I.kept hk, ⟨_, rfl⟩, ?_⟩
  rw [preSum_eq, List.take_of_length_le (by simp), hn]
  exact q
def gSum : SM1 := fun xs st => match intsD xs with
  | some ns => .ok (.int ns.sum) st
  | none => .bad
theorem s_sum (hc : X.calm = true) : CallS X (.builtin "sum") gSum := ⟨_, (cr_sum hc).or (cr_sumT hc), fun m st H ds v E Q hS r hP => by
  obtain ⟨a, vs, rfl, q, rs⟩ := r
  unfold gSum at hP
  split at hP
  · rename_i ns hn
    have e := intsD_V rs hn
    subst e
    rcases q with q | q
    · exact .inl ⟨a, ns, rfl, q, hP.now hS (.int _)⟩
    · exact .inr ⟨a, ns, rfl, q.sq, hP.now hS (.int _)⟩
  · exact hP.elim⟩
/-! ### of lists alone -/
def SqVL (K : PySem.W.Frag) (m : List Addr) (H : Hp) (ds : List D) (v : V) : Prop := ∃ a vs, v = .ref a ∧ SqL K H a vs ∧ RDs K m H ds vs
structure Esl (X : Cx) (W : WX) (e : Expr) (f : EM (List D)) : Prop where
  run : ∀ (m : List Addr) (τ : Sl) (st : Store) (σ : L2.St) (H : Hp) (Q : VK), SL X.K m H τ σ → SS X.kw m st H → Pe X.kw (fun c d H' => W c d σ H') (SqVL X.K) m H (f τ st) Q → wE X e σ H Q
theorem esl_el {fl : EM (List D)} (h : El X W e fl) : Esl X W e fl := by
  refine ⟨fun m τ st σ H Q hL hS hP => h.run m τ st σ H Q hL hS ?_⟩
  cases hq : fl τ st with
  | ok ds s1 =>
    rw [hq] at hP
    intro m1 H1 v e1 hS1 ⟨a, vs, e, ha, na, hn, rs⟩
    exact hP m1 H1 v e1 hS1 ⟨a, vs, e, SqL.of ha, rs⟩
  | exc x st' =>
    rw [hq] at hP
    exact hP
  | bad =>
    rw [hq] at hP
    exact hP.elim
def dSeqL (st : Store) : D → Option (List D)
  | .rol xs => some xs
  | .ref n => lstAt st n
  | _ => none
def sExL (f : EM D) : EM (List D) := fun τ st => (f τ st).bind fun d s1 => match dSeqL s1 d with
  | some xs => .ok xs s1
  | none => .bad
theorem esl_ex (h : Ex X W e f) : Esl X W e (sExL f) := by
  refine ⟨fun m τ st σ H Q hL hS hP => h.run m τ st σ H Q hL hS (hP.bind fun d s1 m1 H1 v e1 hS1 r1 hP1 => ?_)⟩
  split at hP1
  · rename_i xs hx
    cases r1 with
    | rol q rs =>
      cases hx
      exact hP1.now hS1 ⟨_, _, rfl, q.sq, rs⟩
    | ref q =>
      obtain ⟨vs, h1, h2⟩ := hS1.list hx q
      exact hP1.now hS1 ⟨_, vs, rfl, SqL.of h1, h2⟩
    | _ => cases hx
  · exact hP1.elim
def CallL (X : Cx) (fv : Value) (g : SM1) : Prop :=
  ∃ r, CallR X fv r ∧ ∀ (m : List Addr) (st : Store) (H : Hp) (ds : List D) (v : V) (E : XK) (Q : VK), SS X.kw m st H → SqVL X.K m H ds v → Pe X.kw E (RD X.K) m H (g ds st) Q → r [v] H Q
theorem ex_callBl {x : Str} {id : String} {g : SM1} {fl : EM (List D)} (hc : CallL X (.builtin id) g) (hg : Gl X x) (hm : X.mg x = none) (hv : bootBuiltins x = some (.builtin id)) (ha : Esl X W e fl) (hn : x ≠ "__name__" := by decide) (hdb : (x == ("__debug__" : Str)) = false := by decide)
    (he : starEach [e] X.env = (false, eval e X.env) :: starEach [] X.env := by rfl) (hpl : (backTo pos (starEach [] X.env)).any (·.1) = false := by rfl) : Ex X W (.Call (.Name x p) [e] [] pos) (eCS g fl) := by
  obtain ⟨r, hr, h⟩ := hc
  refine ⟨fun m τ st σ H Q hL hS hP pins s I => (pe_callB hr hg hm hv (pa_cons peW pa_nil he) hn hdb he hpl).run pins s σ H Q I ?_⟩
  exact ha.run m τ st σ H _ hL hS (hP.bind fun ds s1 m1 H1 v e1 hS1 r1 hP1 => h m1 s1 H1 ds v _ Q hS1 r1 hP1)
def blsD : List D → Option (List Bool)
  | [] => some []
  | .bl i :: ds => (blsD ds).map (i :: ·)
  | _ => none
theorem blsD_V {K : PySem.W.Frag} {m : List Addr} {H : Hp} : ∀ {ds : List D} {vs : List V} {ns : List Bool}, RDs K m H ds vs → blsD ds = some ns → vs = ns.map V.bl
  | [], _, _, .nil, h => by
    cases h
    rfl
  | d :: ds, _, ns, .cons r rs, h => by
    unfold blsD at h
    split at h
    · rename_i e
      cases e
    · rename_i i ds' e
      cases e
      cases r
      cases hz : blsD ds with
      | none =>
        rw [hz] at h
        cases h
      | some ks =>
        rw [hz] at h
        cases h
        rw [blsD_V rs hz]
        rfl
    · cases h
theorem blsD_map : ∀ ns : List Bool, blsD (ns.map D.bl) = some ns
  | [] => rfl
  | n :: ns => by
    rw [List.map_cons, blsD, blsD_map ns]
    rfl
def gAllB : SM1 := fun xs st => match blsD xs with
  | some bs => .ok (.bl (bs.all id)) st
  | none => .bad
def gAnyB : SM1 := fun xs st => match blsD xs with
  | some bs => .ok (.bl (bs.any id)) st
  | none => .bad
theorem s_all (hc : X.calm = true) : CallL X (.builtin "all") gAllB := ⟨_, cr_all hc, fun m st H ds v E Q hS r hP => by
  obtain ⟨a, vs, rfl, q, rs⟩ := r
  unfold gAllB at hP
  split at hP
  · rename_i ns hn
    have e := blsD_V rs hn
    subst e
    exact ⟨a, ns, rfl, q, hP.now hS (.bl _)⟩
  · exact hP.elim⟩
theorem s_any (hc : X.calm = true) : CallL X (.builtin "any") gAnyB := ⟨_, cr_any hc, fun m st H ds v E Q hS r hP => by
  obtain ⟨a, vs, rfl, q, rs⟩ := r
  unfold gAnyB at hP
  split at hP
  · rename_i ns hn
    have e := blsD_V rs hn
    subst e
    exact ⟨a, ns, rfl, q, hP.now hS (.bl _)⟩
  · exact hP.elim⟩
def maxI : List Int → Option Int
  | [] => none
  | n :: ns => some (ns.foldl max n)
def minI : List Int → Option Int
  | [] => none
  | n :: ns => some (ns.foldl min n)
theorem foldl_max_ge : ∀ (ns : List Int) (n : Int), n ≤ ns.foldl max n ∧ (∀ y ∈ ns, y ≤ ns.foldl max n) ∧ (ns.foldl max n = n ∨ ns.foldl max n ∈ ns)
  | [], n => ⟨Int.le_refl _, by simp, .inl rfl⟩
  | k :: ns, n => by
    obtain ⟨h1, h2, h3⟩ := foldl_max_ge ns (max n k)
    rw [List.foldl_cons]
    refine ⟨Int.le_trans (Int.le_max_left n k) h1, fun y hy => ?_, ?_⟩
    · rcases List.mem_cons.mp hy with rfl | hy
      · exact Int.le_trans (Int.le_max_right n y) h1
      · exact h2 y hy
    · rcases h3 with h3 | h3
      · rw [h3]
        rcases Int.le_total n k with h | h
        · rw [Int.max_eq_right h]
          exact .inr (List.mem_cons_self ..)
        · rw [Int.max_eq_left h]
          exact .inl rfl
      · exact .inr (List.mem_cons_of_mem _ h3)
theorem foldl_min_le : ∀ (ns : List Int) (n : Int), ns.foldl min n ≤ n ∧ (∀ y ∈ ns, ns.foldl min n ≤ y) ∧ (ns.foldl min n = n ∨ ns.foldl min n ∈ ns)
  | [], n => ⟨Int.le_refl _, by simp, .inl rfl⟩
  | k :: ns, n => by
    obtain ⟨h1, h2, h3⟩ := foldl_min_le ns (min n k)
    rw [List.foldl_cons]
    refine ⟨Int.le_trans h1 (Int.min_le_left n k), fun y hy => ?_, ?_⟩
    · rcases List.mem_cons.mp hy with rfl | hy
      · exact Int.le_trans h1 (Int.min_le_right n y)
      · exact h2 y hy
    · rcases h3 with h3 | h3
      · rw [h3]
        rcases Int.le_total n k with h | h
        · rw [Int.min_eq_left h]
          exact .inl rfl
        · rw [Int.min_eq_right h]
          exact .inr (List.mem_cons_self ..)
      · exact .inr (List.mem_cons_of_mem _ h3)
def gMax : SM1 := fun xs st => match (intsD xs).bind maxI with
  | some n => .ok (.int n) st
  | none => .bad
def gMin : SM1 := fun xs st => match (intsD xs).bind minI with
  | some n => .ok (.int n) st
  | none => .bad
theorem s_max (hc : X.calm = true) : CallL X (.builtin "max") gMax := ⟨_, cr_max hc, fun m st H ds v E Q hS r hP => by
  obtain ⟨a, vs, rfl, q, rs⟩ := r
  unfold gMax at hP
  split at hP
  · rename_i k hk
    cases hn : intsD ds with
    | none =>
      rw [hn] at hk
      cases hk
    | some ns =>
      rw [hn] at hk
      have e := intsD_V rs hn
      subst e
      cases ns with
      | nil => cases hk
      | cons n ns =>
        have hk : some (ns.foldl max n) = some k := hk
        cases hk
        obtain ⟨h1, h2, h3⟩ := foldl_max_ge ns n
        refine ⟨a, n :: ns, rfl, q, by simp, fun mm hm hy => ?_⟩
        have e : mm = ns.foldl max n := by
          refine Int.le_antisymm ?_ ?_
          · rcases List.mem_cons.mp hm with rfl | hm
            · exact h1
            · exact h2 mm hm
          · rcases h3 with h3 | h3
            · rw [h3]
              exact hy n (List.mem_cons_self ..)
            · exact hy _ (List.mem_cons_of_mem _ h3)
        subst e
        exact hP.now hS (.int _)
  · exact hP.elim⟩
theorem s_min (hc : X.calm = true) : CallL X (.builtin "min") gMin := ⟨_, cr_min hc, fun m st H ds v E Q hS r hP => by
  obtain ⟨a, vs, rfl, q, rs⟩ := r
  unfold gMin at hP
  split at hP
  · rename_i k hk
    cases hn : intsD ds with
    | none =>
      rw [hn] at hk
      cases hk
    | some ns =>
      rw [hn] at hk
      have e := intsD_V rs hn
      subst e
      cases ns with
      | nil => cases hk
      | cons n ns =>
        have hk : some (ns.foldl min n) = some k := hk
        cases hk
        obtain ⟨h1, h2, h3⟩ := foldl_min_le ns n
        refine ⟨a, n :: ns, rfl, q, by simp, fun mm hm hy => ?_⟩
        have e : mm = ns.foldl min n := by
          refine Int.le_antisymm ?_ ?_
          · rcases h3 with h3 | h3
            · rw [h3]
              exact hy n (List.mem_cons_self ..)
            · exact hy _ (List.mem_cons_of_mem _ h3)
          · rcases List.mem_cons.mp hm with rfl | hm
            · exact h1
            · exact h2 mm hm
        subst e
        exact hP.now hS (.int _)
  · exact hP.elim⟩
/-! ### lcm -/
def rLcm : List V → Hp → VK → Prop := fun vs H Q => ∃ a b : Int, vs = [.int a, .int b] ∧ a.natAbs < 2 ^ 9000 ∧ b.natAbs < 2 ^ 9000 ∧ Q (.int ((Nat.lcm a.natAbs b.natAbs : Nat) : Int)) H
theorem log_of {n k : Nat} (h : n < 2 ^ k) (hk : 0 < k) : n.log2 < k := by
  by_cases z : n = 0
  · subst z
    rw [Nat.log2_zero]
    exact hk
  · exact (Nat.log2_lt z).mpr h
theorem cr_lcm : CallR X (.builtin "math.lcm") rLcm := by
  intro pins s σ H vs us Q I r h
  obtain ⟨a, b, rfl, h1, h2, q⟩ := h
  obtain ⟨t, u, rfl⟩ := Vals.int2 r
  have h0 : (1 : Nat) < 2 ^ 9000 := Nat.one_lt_two_pow (by decide)
  have l1 : (max 1 a.natAbs).log2 < 9000 := log_of (Nat.max_lt.mpr ⟨h0, h1⟩) (by decide)
  have l2 : (max a.natAbs b.natAbs).log2 < 9000 := log_of (Nat.max_lt.mpr ⟨h1, h2⟩) (by decide)
  have l3 : ((((Nat.lcm 1 a.natAbs).lcm b.natAbs : Nat) : Int)).natAbs.log2 < bitsLine := by
    rw [Int.natAbs_natCast, PySem.W.mc_lcm_one]
    have := PySem.W.mc_lcm_le a.natAbs b.natAbs
    have h3 : a.natAbs * b.natAbs < 2 ^ 18000 := by
      rw [show (18000 : Nat) = 9000 + 9000 from rfl, Nat.pow_add]
      exact Nat.mul_lt_mul'' h1 h2
    exact Nat.lt_trans (log_of (Nat.lt_of_le_of_lt this h3) (by decide)) (by decide)
  have g := (PySem.W.mg_run_lcm a t b u (by omega) (by omega) l3).meets
  refine PySem.call_function_meets PySem.W.MGF.kind_lcm PySem.W.MGF.plain_lcm PySem.W.MGF.entry_lcm (PySem.W.MGF.args_lcm _ _) g ?_
  rw [PySem.W.mc_lcm_one]
  exact ⟨.int _, H, I.tok _, ⟨_, rfl⟩, q⟩
def fLcm : FM := fun ds st => match ds with
  | [.int i, .int j] => if decide (i.natAbs < 2 ^ 9000) && decide (j.natAbs < 2 ^ 9000) then .ok (.int (Nat.lcm i.natAbs j.natAbs : Nat)) st else .bad
  | _ => .bad
theorem c_lcm : CallM X (.builtin "math.lcm") fLcm := ⟨_, cr_lcm, fun m st H ds vs E Q hS r hP => by
  unfold fLcm at hP
  split at hP
  · split at hP
    · rename_i hc
      rw [Bool.and_eq_true, decide_eq_true_eq, decide_eq_true_eq] at hc
      obtain ⟨v, u, rfl, r1, r2⟩ := r.two
      cases r1
      cases r2
      exact ⟨_, _, rfl, hc.1, hc.2, hP.now hS (.int _)⟩
    · exact hP.elim
  · exact hP.elim⟩
/-! ### texts: join, repeated -/
def strsD : List D → Option (List (List Nat))
  | [] => some []
  | .str x :: ds => (strsD ds).map (x :: ·)
  | _ => none
theorem strsD_V {K : PySem.W.Frag} {m : List Addr} {H : Hp} : ∀ {ds : List D} {vs : List V} {ns : List (List Nat)}, RDs K m H ds vs → strsD ds = some ns → vs = (ns.map fun x => (⟨x.toArray⟩ : Str)).map V.str
  | [], _, _, .nil, h => by
    cases h
    rfl
  | d :: ds, _, ns, .cons r rs, h => by
    unfold strsD at h
    split at h
    · rename_i e
      cases e
    · rename_i i ds' e
      cases e
      cases r
      cases hz : strsD ds with
      | none =>
        rw [hz] at h
        cases h
      | some ks =>
        rw [hz] at h
        cases h
        rw [strsD_V rs hz]
        rfl
    · cases h
theorem strsD_map : ∀ ns : List (List Nat), strsD (ns.map D.str) = some ns
  | [] => rfl
  | n :: ns => by
    rw [List.map_cons, strsD, strsD_map ns]
    rfl
end
end HM

/-! HM, part 12: texts joined, things repeated. -/
namespace HM
open PySem PySem.Spec PyProof.Rows L2 SX
section
variable {X : Cx} {W : WX} {e o a b c : Expr} {es : List Expr} {pos p p2 : Pos} {f fo fa fb : EM D} {fs : EM (List D)}
def joinD (a : List Nat) : List (List Nat) → List Nat
  | [] => []
  | [p] => p
  | p :: q :: r => p ++ (a ++ joinD a (q :: r))
theorem joinD_eq (a : List Nat) : ∀ ys : List (List Nat), TL.joinL a ys = joinD a ys
  | [] => rfl
  | [_] => rfl
  | p :: q :: r => by
    show p ++ (a ++ TL.joinL a (q :: r)) = p ++ (a ++ joinD a (q :: r))
    rw [joinD_eq a (q :: r)]
def mJoin : MM := fun d ds st => match d, ds with
  | .str a, [y] => match (dSeq st y).bind strsD with
    | some ys => if (ys.map List.length).sum + ys.length * a.length ≤ 16777216 then .ok (.str (joinD a ys)) st else .bad
    | none => .bad
  | _, _ => .bad
theorem me_join : MethM X "str.join" mJoin := ⟨_, mt_join, fun m st H d v ds vs E Q hS r rs hP => by
  unfold mJoin at hP
  split at hP
  · rename_i a y
    split at hP
    · rename_i ys hy
      split at hP
      · rename_i hl
        cases hq : dSeq st y with
        | none =>
          rw [hq] at hy
          cases hy
        | some zs =>
          rw [hq] at hy
          obtain ⟨u, rfl, ru⟩ := rs.one
          cases r
          obtain ⟨p, us, rfl, q, rs'⟩ := dSeq_read hS hq ru
          have e := strsD_V rs' hy
          subst e
          refine ⟨⟨a.toArray⟩, p, ys.map S, rfl, rfl, q.imp id PlT.sq, ?_, ?_⟩
          · rw [List.map_map, List.length_map]
            have e : (ys.map ((fun x : Str => x.length) ∘ S)) = ys.map List.length := List.map_congr_left fun x _ => S_len x
            rw [e]
            have e2 : (⟨a.toArray⟩ : Str).length = a.length := S_len a
            rw [e2]
            exact hl
          · have e := join_S a ys
            rw [joinD_eq] at e
            rw [e]
            exact hP.now hS (.str _)
      · exact hP.elim
    · exact hP.elim
  · exact hP.elim⟩
/-! ### * -/
def repD {α : Type} (k : Nat) (xs : List α) : List α := (List.replicate k xs).flatten
theorem foldl_app (x : Array Nat) : ∀ (k : Nat) (acc : Array Nat), (List.replicate k x).foldl (· ++ ·) acc = acc ++ ((List.replicate k x.toList).flatten).toArray
  | 0, acc => by simp
  | k + 1, acc => by
    rw [List.replicate_succ, List.foldl_cons, foldl_app x k, List.replicate_succ, List.flatten_cons]
    apply Array.ext'
    simp
theorem repD_len {α : Type} (k : Nat) (xs : List α) : (repD k xs).length = xs.length * k := by
  unfold repD
  induction k with
  | zero => simp
  | succ k ih =>
    rw [List.replicate_succ, List.flatten_cons, List.length_append, ih, Nat.mul_succ, Nat.add_comm]
theorem op_repS : OpR X (binaryOp .Mult) (fun x y H Q => ∃ (z : List Nat) (k : Int), x = .str (S z) ∧ y = .int k ∧ 2 ≤ k ∧ k ≤ 16777216 ∧ z.length * k.toNat ≤ 16777216 ∧ Q (.str (S (repD k.toNat z))) H) := by
  intro pins s σ H x y v u Q I rx ry h
  obtain ⟨z, k, rfl, rfl, h2, hz, hl, q⟩ := h
  obtain ⟨t, rfl⟩ := rx
  obtain ⟨t', rfl⟩ := ry
  have e1 : (S z).length = z.length := S_len z
  refine PySem.P.mul_str ?_ (fun _ h0 => ?_) (fun _ _ => ?_) ?_
  · have a1 : ¬ k < -(2 ^ 63 : Int) := by omega
    have a2 : ¬ k ≥ 2 ^ 63 := by
      have : (16777216 : Int) < 2 ^ 63 := by decide
      omega
    rw [decide_eq_false a1, decide_eq_false a2]
    rfl
  · rw [e1]
    have h3 : z.length ≤ 16777216 := by
      have : z.length * 1 ≤ z.length * k.toNat := Nat.mul_le_mul_left _ (by omega)
      omega
    have h4 : (16777216 : Int) ≤ (2 ^ 63 - 1) / k := by
      refine (Int.le_ediv_iff_mul_le (by omega)).mpr ?_
      have : (16777216 : Int) * k ≤ 16777216 * 16777216 := Int.mul_le_mul_of_nonneg_left (by omega) (by decide)
      have : (16777216 : Int) * 16777216 ≤ 2 ^ 63 - 1 := by decide
      omega
    omega
  · rw [e1]
    show decide (z.length * k.toNat > 2 ^ 24) = false
    exact decide_eq_false (by
      have : (2 : Nat) ^ 24 = 16777216 := rfl
      omega)
  · have n1 : ¬ k < 1 := by omega
    rw [if_neg n1]
    have a1 : (k == 1) = false := beq_false_of_ne (by omega)
    rw [a1, e1, Bool.false_or]
    by_cases h0 : z = []
    · subst h0
      have e : (S (repD k.toNat ([] : List Nat))) = S [] := by
        have := repD_len k.toNat ([] : List Nat)
        rw [List.length_nil, Nat.zero_mul] at this
        rw [List.length_eq_zero_iff.mp this]
      rw [e] at q
      rw [if_pos (show (([] : List Nat).length == 0) = true from rfl)]
      exact ⟨.str _, H, I, ⟨_, rfl⟩, q⟩
    · have zl : 0 < z.length := List.length_pos_iff.mpr h0
      have a2 : (z.length == 0) = false := beq_false_of_ne (by omega)
      rw [a2, if_neg Bool.false_ne_true]
      have e : (⟨(List.replicate k.toNat (S z).cps).foldl (· ++ ·) #[]⟩ : Str) = S (repD k.toNat z) := by
        rw [foldl_app]
        simp [repD]
      rw [e]
      refine ⟨?_, .str _, H, I.tok _, ⟨_, rfl⟩, q⟩
      rw [S_len, repD_len, PySem.sizeLine_eq]
      exact hl
def oMul : O2 := fun x y st => match x, y with
  | .int i, .int j => if okMul i j then .ok (.int (i * j)) st else .bad
  | .str z, .int k => if decide (2 ≤ k) && decide (k ≤ 16777216) && decide (z.length * k.toNat ≤ 16777216) then .ok (.str (repD k.toNat z)) st else .bad
  | .ref n, .int k => match lstAt st n with
    | some xs => if okIx k && decide (xs.length * k.toNat ≤ 16777216) then .ok (.ref st.length) (st ++ [.lst (repD k.toNat xs)]) else .bad
    | none => .bad
  | .tup xs, .int k => if decide (2 ≤ k) && decide (k ≤ 1000) && !xs.isEmpty && decide (xs.length ≤ 1000) then .ok (.tup (repD k.toNat xs)) st else .bad
  | _, _ => .bad
theorem RDs.rep {K : PySem.W.Frag} {m : List Addr} {H : Hp} {ds : List D} {vs : List V} (r : RDs K m H ds vs) : ∀ k : Nat, RDs K m H (repD k ds) (repD k vs)
  | 0 => .nil
  | k + 1 => by
    have := RDs.rep r k
    unfold repD at this ⊢
    rw [List.replicate_succ, List.replicate_succ, List.flatten_cons, List.flatten_cons]
    exact r.append this
theorem op_mulAll : OpR X (binaryOp .Mult) (fun x y H Q => ((rI IntMulOk fun i j => .int (i * j)) x y H Q ∨ (∃ (z : List Nat) (k : Int), x = .str (S z) ∧ y = .int k ∧ 2 ≤ k ∧ k ≤ 16777216 ∧ z.length * k.toNat ≤ 16777216 ∧ Q (.str (S (repD k.toNat z))) H)) ∨ (rRep x y H Q ∨ rRepF X.K x y H Q)) :=
  (op_mulAny.or op_repS).or (op_rep.or op_repF)
theorem m_mul : OpM X W (binaryOp .Mult) oMul := opm_of op_mulAll fun m st H dx dy x y E Q hS r1 r2 hP => by
  unfold oMul at hP
  split at hP
  · rename_i i j
    split at hP
    · rename_i hc
      cases r1
      cases r2
      have q : (i.natAbs < 18446744073709551616 ∨ j.natAbs < 18446744073709551616) ∨ i.natAbs.log2 + j.natAbs.log2 < 1000000 := of_decide_eq_true hc
      refine .inl (.inl ⟨_, _, rfl, rfl, ?_, hP.now hS (.int _)⟩)
      rcases q with (q | q) | q
      · exact CMul.ok (.inl (by omega))
      · exact CMul.ok (.inr (by omega))
      · exact CMulW.ok q
    · exact hP.elim
  · split at hP
    · rename_i hc
      simp only [Bool.and_eq_true, decide_eq_true_eq] at hc
      cases r1
      cases r2
      exact .inl (.inr ⟨_, _, rfl, rfl, hc.1.1, hc.1.2, hc.2, hP.now hS (.str _)⟩)
    · exact hP.elim
  · split at hP
    · rename_i xs hx
      split at hP
      · rename_i hc
        rw [Bool.and_eq_true, decide_eq_true_eq] at hc
        cases r1 with
        | ref q =>
          cases r2
          obtain ⟨vs, h1, h2⟩ := hS.list hx q
          exact .inr (.inl ⟨_, _, vs, rfl, rfl, h1, (okIx_ok hc.1).1, (okIx_ok hc.1).2, line_of (by rw [← h2.len]; exact hc.2), hP.lst hS (h2.rep _)⟩)
      · exact hP.elim
    · exact hP.elim
  · split at hP
    · rename_i hc
      simp only [Bool.and_eq_true, decide_eq_true_eq, Bool.not_eq_true', List.isEmpty_eq_false_iff] at hc
      cases r1 with
      | tup q rs =>
        cases r2
        refine .inr (.inr ⟨_, _, _, rfl, rfl, q.sq, fun e => hc.1.2 ?_, hc.1.1.1, hc.1.1.2, by rw [← rs.len]; exact hc.2, hP.tup hS (rs.rep _)⟩)
        subst e
        cases rs
        rfl
    · exact hP.elim
  · exact hP.elim
end
end HM

/-! HM: calls of defs with keywords. -/
namespace HM
open PySem PySem.Spec PyProof.Rows L2
section
variable {X : Cx} {W : WX} {e a b c : Expr} {es rest : List Expr} {pos p : Pos} {f fa fb fc : EM D} {fs fk : EM (List D)} {kws : List Keyword}
def wK (X : Cx) (kws : List Keyword) : TA := fun σ H Q => ∀ (pos : Pos) (pins : List (Addr × Obj)) (s : Shared), Inv X pins σ H s → wpAny (model X.prog X.w) X.A (evalAll ((backToKw pos (keywordEach kws X.env)).map (·.2))) (AP X pins σ Q) X.xe s
theorem pkW {X : Cx} {kws : List Keyword} : PK X kws (wK X kws) := ⟨fun pos pins s σ H Q I h => h pos pins s I⟩
/-- the values of keywords -/
structure Ek (X : Cx) (W : WX) (kws : List Keyword) (f : EM (List D)) : Prop where
  run : ∀ (m : List Addr) (τ : Sl) (st : Store) (σ : L2.St) (H : Hp) (Q : List V → Hp → Prop), SL X.K m H τ σ → SS X.kw m st H → Pe X.kw (fun c d H' => W c d σ H') (RDs X.K) m H (f τ st) Q → wK X kws σ H Q
theorem ek_nil : Ek X W [] aNil := ⟨fun m τ st σ H Q hL hS hP pos pins s I => pk_nil.run pos pins s σ H Q I (hP.now hS .nil)⟩
theorem ek_cons {nm : Option Str} {kpos : Pos} (ha : Ex X W e f) (hr : Ek X W kws fs) : Ek X W (⟨nm, e, kpos⟩ :: kws) (aCons f fs) := by
  refine ⟨fun m τ st σ H Q hL hS hP pos pins s I => (pk_cons peW pkW).run pos pins s σ H Q I ?_⟩
  refine ha.run m τ st σ H _ hL hS (hP.bind fun dx s1 m1 H1 x e1 hS1 r1 hP1 => ?_)
  exact hr.run m1 τ s1 σ H1 _ (hL.mono e1) hS1 (hP1.bind fun ds s2 m2 H2 xs e2 hS2 r2 hP2 => hP2.now hS2 (.cons (r1.mono e2) r2))
/-- those at the places -/
def arr {α : Type} (is : List Nat) (l : List α) : List α := is.filterMap (fun i => l[i]?)
theorem Vals.arr {xs : List V} {us : List Value} (r : Vals xs us) : ∀ is : List Nat, Vals (arr is xs) (arr is us)
  | [] => .nil
  | i :: is => by
    have ih := Vals.arr r is
    unfold HM.arr at ih ⊢
    rw [List.filterMap_cons, List.filterMap_cons]
    cases h : xs[i]? with
    | none => rw [r.none_of h]; exact ih
    | some x =>
      obtain ⟨u, h1, h2⟩ := r.get h
      rw [h1]
      exact .cons h2 ih
theorem RDs.arr {K : PySem.W.Frag} {m : List Addr} {H : Hp} {ds : List D} {vs : List V} (r : RDs K m H ds vs) : ∀ is : List Nat, RDs K m H (arr is ds) (arr is vs)
  | [] => .nil
  | i :: is => by
    have ih := RDs.arr r is
    unfold HM.arr at ih ⊢
    rw [List.filterMap_cons, List.filterMap_cons]
    cases h : ds[i]? with
    | none =>
      have : vs[i]? = none := by
        rw [List.getElem?_eq_none_iff] at h ⊢
        rw [← r.len]; exact h
      rw [this]; exact ih
    | some x =>
      obtain ⟨u, h1, h2⟩ := r.get h
      rw [h1]
      exact .cons h2 ih
def eCallK (n k np : Nat) (is : List Nat) (mf : FM) (fs fk : EM (List D)) : EM D := fun τ st => (fs τ st).bind fun ds s1 => (fk τ s1).bind fun es s2 => if ds.length = n ∧ es.length = k ∧ (arr is (ds ++ es)).length = np then mf (arr is (ds ++ es)) s2 else .bad
theorem ex_ck {P : Program} {w : World} {K : PySem.W.Frag} {mg : Str → Option Value} {base : Heap} {A : Around} {j k n : Nat} {ps ks : List Str} {is : List Nat} {mf : FM} {x : Str} {st : Stmt} {fa : Addr} {fd : FuncData} (c : Cal P w K mg base x j ps mf) (F : FnP K x st fa fd) (gx : mg x = some (.ref fa))
    (bn : ∀ (kV doc pm : Value) (an : Option Addr) (cdv ct : Value) (us ws : List Value), us.length = n → ws.length = ks.length → bindArgs (PySem.W.fnOf x x (defArgs st) (defBody st) (defScope st) .none kV doc pm an cdv ct) ⟨us, ks.zip ws⟩ = pure (ps.zip (arr is (us ++ ws))))
    (tk : Takes X W) (hr : Room k A) (hj : j ≤ k) (ha : Ea X W (e :: es) fs) (hkw : Ek X W kws fk)
    (hall : (backToKw pos (keywordEach kws X.env)).all (·.1.isSome) = true := by rfl) (hks : (backToKw pos (keywordEach kws X.env)).filterMap (·.1) = ks := by rfl)
    (hpl : ((backTo pos (starEach (e :: es) X.env)).any (·.1) || (backToKw pos (keywordEach kws X.env)).any (·.1.isNone)) = false := by rfl)
    (h1 : X.prog = P := by rfl) (h2 : X.w = w := by rfl) (h3 : X.K = K := by rfl) (h4 : X.mg = mg := by rfl) (h5 : X.base = base := by rfl) (h6 : X.A = A := by rfl) (hg : Gl X x := by rfl) (hdb : (x == ("__debug__" : Str)) = false := by decide) (he : starEach (e :: es) X.env = (false, eval e X.env) :: starEach es X.env := by rfl) :
    Ex X W (.Call (.Name x p) (e :: es) kws pos) (eCallK n ks.length ps.length is mf fs fk) := by
  subst h1 h2 h3 h4 h5 h6
  obtain ⟨f, fd', G, hm, hk, hb, oc, od, osl, lk⟩ := c.ex
  have e1 : f = fa := by
    rw [hm] at gx
    exact Value.ref.inj (Option.some.inj gx)
  subst e1
  obtain ⟨oc2, od2, dV, kV, doc, pm, an, cdv, ct, osl2, e2, lk2, hcd, hD, hK⟩ := F.ex
  rw [lk] at lk2
  have e3 : fd' = fd := by
    have := Option.some.inj lk2
    injection this with _ _ q _
    injection q
  subst e3
  have hdV : dV = .none := by
    rcases hD with ⟨_, q⟩ | ⟨q, _⟩
    · exact q
    · exact absurd rfl q
  have kb : KBn X.K fd' ps n ks (fun us ws => HM.arr is (us ++ ws)) (fun vs zs => HM.arr is (vs ++ zs)) :=
    ⟨fun s us ws _ l1 l2 => .of_eq (by rw [e2, hdV]; exact bn kV doc pm an cdv ct us ws l1 l2), fun r1 r2 => HM.Vals.arr (r1.append r2) is⟩
  refine ⟨fun m τ st σ H Q hL hS hP pins s I => ?_⟩
  refine wpAny_Call_Name_kw (ld_glob I hg hm ?_ hdb)
  have q : wA X (e :: es) σ H fun vs H1 => wK X kws σ H1 fun zs H2 => vs.length = n ∧ zs.length = ks.length ∧ spM X.kw ps.length mf (HM.arr is (vs ++ zs)) H2 Q (WE W σ) :=
    ha.run m τ st σ H _ hL hS (hP.bind fun ds s1 m1 H1 vs e1 hS1 r1 hP1 => hkw.run m1 τ s1 σ H1 _ (hL.mono e1) hS1 (hP1.bind fun es s2 m2 H2 xs e2 hS2 r2 hP2 => by
      split at hP2
      · rename_i hl
        exact ⟨by rw [← r1.len]; exact hl.1, by rw [← r2.len]; exact hl.2.1, m2, s2, _, hl.2.2, hS2, RDs.arr ((r1.mono e2).append r2) is, hP2⟩
      · exact hP2.elim))
  refine PySem.W.callWith_KW (h₀ := X.base) I.ok.mod.kin hk hall (thn (q pos pins s I) fun us s1 ⟨vs, H1, I1, r, q1⟩ => ?_) hpl he
  refine thn (q1 pos pins s1 I1) fun ws s2 ⟨zs, H2, I2, rz, l1, l2, q2⟩ => ⟨I2.kIn, ?_⟩
  rw [hks]
  have r2 := kb.rel r rz
  refine wpAny_call (codeAny_mono (G.run X.A X.stack s2 H2 ⟨us, ks.zip ws⟩ _ _ Q (WE W σ) (hr.mono hj) I2.env0 (kb.to s2 us ws I2.kIn (r.length.symm.trans l1) (rz.length.symm.trans l2)) r2 q2) fun r s' hq => ?_)
  cases r with
  | error e => exact passAt tk σ pins H2 s2 e s' I2 hq
  | ok fl =>
    cases fl with
    | ret u => exact I2.after hq
    | next => exact False.elim hq
    | brk => exact False.elim hq
    | cont => exact False.elim hq
theorem ex_ck0 {P : Program} {w : World} {K : PySem.W.Frag} {mg : Str → Option Value} {base : Heap} {A : Around} {j k : Nat} {ps ks : List Str} {is : List Nat} {mf : FM} {x : Str} {st : Stmt} {fa : Addr} {fd : FuncData} (c : Cal P w K mg base x j ps mf) (F : FnP K x st fa fd) (gx : mg x = some (.ref fa))
    (bn : ∀ (kV doc pm : Value) (an : Option Addr) (cdv ct : Value) (us ws : List Value), us.length = 0 → ws.length = ks.length → bindArgs (PySem.W.fnOf x x (defArgs st) (defBody st) (defScope st) .none kV doc pm an cdv ct) ⟨us, ks.zip ws⟩ = pure (ps.zip (arr is (us ++ ws))))
    (tk : Takes X W) (hr : Room k A) (hj : j ≤ k) (hkw : Ek X W kws fk)
    (hall : (backToKw pos (keywordEach kws X.env)).all (·.1.isSome) = true := by rfl) (hks : (backToKw pos (keywordEach kws X.env)).filterMap (·.1) = ks := by rfl)
    (hpl : ((backTo pos (starEach [] X.env)).any (·.1) || (backToKw pos (keywordEach kws X.env)).any (·.1.isNone)) = false := by rfl)
    (h1 : X.prog = P := by rfl) (h2 : X.w = w := by rfl) (h3 : X.K = K := by rfl) (h4 : X.mg = mg := by rfl) (h5 : X.base = base := by rfl) (h6 : X.A = A := by rfl) (hg : Gl X x := by rfl) (hdb : (x == ("__debug__" : Str)) = false := by decide) :
    Ex X W (.Call (.Name x p) [] kws pos) (eCallK 0 ks.length ps.length is mf aNil fk) := by
  subst h1 h2 h3 h4 h5 h6
  obtain ⟨f, fd', G, hm, hk, hb, oc, od, osl, lk⟩ := c.ex
  have e1 : f = fa := by
    rw [hm] at gx
    exact Value.ref.inj (Option.some.inj gx)
  subst e1
  obtain ⟨oc2, od2, dV, kV, doc, pm, an, cdv, ct, osl2, e2, lk2, hcd, hD, hK⟩ := F.ex
  rw [lk] at lk2
  have e3 : fd' = fd := by
    have := Option.some.inj lk2
    injection this with _ _ q _
    injection q
  subst e3
  have hdV : dV = .none := by
    rcases hD with ⟨_, q⟩ | ⟨q, _⟩
    · exact q
    · exact absurd rfl q
  have kb : KBn X.K fd' ps 0 ks (fun us ws => HM.arr is (us ++ ws)) (fun vs zs => HM.arr is (vs ++ zs)) :=
    ⟨fun s us ws _ l1 l2 => .of_eq (by rw [e2, hdV]; exact bn kV doc pm an cdv ct us ws l1 l2), fun r1 r2 => HM.Vals.arr (r1.append r2) is⟩
  refine ⟨fun m τ st σ H Q hL hS hP pins s I => ?_⟩
  refine wpAny_Call_Name_kw (ld_glob I hg hm ?_ hdb)
  have q : wK X kws σ H fun zs H2 => zs.length = ks.length ∧ spM X.kw ps.length mf (HM.arr is zs) H2 Q (WE W σ) := by
    have hP : Pe X.kw (fun c d H' => W c d σ H') (RD X.K) m H ((fk τ st).bind fun es s2 => if ([] : List D).length = 0 ∧ es.length = ks.length ∧ (HM.arr is ([] ++ es)).length = ps.length then mf (HM.arr is ([] ++ es)) s2 else .bad) Q := hP
    exact hkw.run m τ st σ H _ hL hS (hP.bind fun es s2 m2 H2 xs e2 hS2 r2 hP2 => by
      split at hP2
      · rename_i hl
        exact ⟨by rw [← r2.len]; exact hl.2.1, m2, s2, _, hl.2.2, hS2, RDs.arr r2 is, hP2⟩
      · exact hP2.elim)
  refine PySem.W.callWith_KW0 (h₀ := X.base) I.ok.mod.kin hk hall (thn (q pos pins s I) fun ws s2 ⟨zs, H2, I2, rz, l2, q2⟩ => ⟨I2.kIn, ?_⟩) hpl
  rw [hks]
  have r2 : Vals (HM.arr is zs) (HM.arr is ([] ++ ws)) := HM.Vals.arr rz is
  refine wpAny_call (codeAny_mono (G.run X.A X.stack s2 H2 ⟨[], ks.zip ws⟩ _ _ Q (WE W σ) (hr.mono hj) I2.env0 (kb.to s2 [] ws I2.kIn rfl (rz.length.symm.trans l2)) r2 q2) fun r s' hq => ?_)
  cases r with
  | error e => exact passAt tk σ pins H2 s2 e s' I2 hq
  | ok fl =>
    cases fl with
    | ret u => exact I2.after hq
    | next => exact False.elim hq
    | brk => exact False.elim hq
    | cont => exact False.elim hq
end
end HM

/-! HM, part Z: zip of a list and a tuple, either way round. -/
namespace HM
open PySem PySem.Spec PyProof.Rows L2
/-- true: a list, false: a tuple -/
def kCls : Bool → String
  | true => "list_iterator"
  | false => "tuple_iterator"
def kIter (k : Bool) (h : Heap) (it l : Addr) (i : Nat) : Prop := ∃ o, h.get? it = some o ∧ o.cls = .type (kCls k) ∧ o.data = .fields #[.ref l, .int i 0]
def kSeq : Bool → Heap → Addr → Array Value → Prop
  | true => fun h l xs => h.IsList l xs
  | false => fun h l xs => h.IsTuple l xs
def kSq : Bool → PySem.W.Frag → Hp → Addr → List V → Prop
  | true => SqL
  | false => SqT
section
variable {prog : Program} {w : World} {A : Around} {E : Value → Shared → Prop} {s : Shared}
theorem draws_k {k : Bool} (hh : A.handled = none) {it l : Addr} (ne : l ≠ it) (items : Array Value) :
    Draws prog w A it [it, l] items.size (fun i v => items[i]? = some v) (fun i h => kIter k h it l i ∧ kSeq k h l items) := by
  cases k with
  | true => exact Draws.list hh it l ne items
  | false => exact Draws.tuple hh it l ne items
abbrev zk1 (c1 : String) (h : Heap) (l1 : Addr) : Heap := h.push { cls := .type c1, data := .fields #[.ref l1, .int 0 0] }
abbrev zk2 (c1 c2 : String) (h : Heap) (l1 l2 : Addr) : Heap := (zk1 c1 h l1).push { cls := .type c2, data := .fields #[.ref l2, .int 0 0] }
abbrev zk3 (c1 c2 : String) (h : Heap) (l1 l2 : Addr) : Heap := (zk2 c1 c2 h l1 l2).push { cls := .type "tuple", data := .seq #[.ref h.objs.size, .ref (zk1 c1 h l1).objs.size] }
abbrev zk4 (c1 c2 : String) (h : Heap) (l1 l2 : Addr) : Heap := (zk3 c1 c2 h l1 l2).push { cls := .type "tuple", data := .seq #[.none, .none] }
abbrev zk5 (c1 c2 : String) (h : Heap) (l1 l2 : Addr) : Heap := (zk4 c1 c2 h l1 l2).push { cls := .type "zip", data := .fields #[.none, .bool false, .bool false, .ref (zk2 c1 c2 h l1 l2).objs.size, .ref (zk3 c1 c2 h l1 l2).objs.size] }
/-- what zip.__new__ makes -/
def NewK (c1 c2 : String) (G : Heap → Prop) (l1 l2 : Addr) : Prop :=
  Meets (Builtin.«zip.__new__» ⟨[.type "zip", .ref l1, .ref l2], []⟩) fun _ R s => G s.heap ∧ R (.ok (.ret (.ref (zk4 c1 c2 s.heap l1 l2).objs.size))) { s with heap := zk5 c1 c2 s.heap l1 l2 }
theorem new_lt (l1 l2 : Addr) (xs ys : Array Value) : NewK "list_iterator" "tuple_iterator" (fun h => h.IsList l1 xs ∧ h.IsTuple l2 ys) l1 l2 :=
  .of_wp fun prog w A R s h => by
    obtain ⟨hp, g, d, tk, os⟩ := s
    obtain ⟨⟨q1, q2⟩, h⟩ := h
    have hsub := sub_zip
    have a1 : Heap.IsList (Shared.heap ⟨hp, g, d, tk, os⟩) l1 xs := q1
    have a2 : Heap.IsTuple (Shared.heap ⟨zk1 "list_iterator" hp l1, g, d, tk, os⟩) l2 ys := Heap.IsTuple.push q2 _
    wp_walk using wpAny_pyIter_list a1, wpAny_pyIter_tuple a2
    exact ⟨_, rfl, h⟩
theorem new_tl (l1 l2 : Addr) (xs ys : Array Value) : NewK "tuple_iterator" "list_iterator" (fun h => h.IsTuple l1 xs ∧ h.IsList l2 ys) l1 l2 :=
  .of_wp fun prog w A R s h => by
    obtain ⟨hp, g, d, tk, os⟩ := s
    obtain ⟨⟨q1, q2⟩, h⟩ := h
    have hsub := sub_zip
    have a1 : Heap.IsTuple (Shared.heap ⟨hp, g, d, tk, os⟩) l1 xs := q1
    have a2 : Heap.IsList (Shared.heap ⟨zk1 "tuple_iterator" hp l1, g, d, tk, os⟩) l2 ys := Heap.IsList.push q2 _
    wp_walk using wpAny_pyIter_tuple a1, wpAny_pyIter_list a2
    exact ⟨_, rfl, h⟩
end
section
variable {prog : Program} {w : World} {A : Around} {E : Value → Shared → Prop} {s : Shared}
/-- what stands behind a call of zip -/
structure ZipMade (k1 k2 : Bool) (h h' : Heap) (l1 l2 : Addr) : Prop where
  z : IsZip h' (h.objs.size + 4) (h.objs.size + 2) (h.objs.size + 3) .none
  i : IsTupOf2 h' (h.objs.size + 2) (.ref h.objs.size) (.ref (h.objs.size + 1))
  o : IsTupOf2 h' (h.objs.size + 3) .none .none
  i1 : kIter k1 h' h.objs.size l1 0
  i2 : kIter k2 h' (h.objs.size + 1) l2 0
  keep : ∀ c o, h.get? c = some o → h'.get? c = some o
theorem call_zk {k1 k2 : Bool} {G : Heap → Prop} {l1 l2 : Addr} {Q : Value → Shared → Prop} (M : NewK (kCls k1) (kCls k2) G l1 l2) (g : G s.heap)
    (h : ∀ h', ZipMade k1 k2 s.heap h' l1 l2 → Q (.ref (s.heap.objs.size + 4)) { s with heap := h' }) : wpAny (model prog w) A (call (.type "zip") [.ref l1, .ref l2]) Q E s := by
  have no : (some "zip.__new__" != some "object.__new__") = true := by decide
  have oi := fun obj => F.args_object_init_3 obj (.ref l1) (.ref l2)
  refine callType_new F.called_zip no (F.typeCall_zip_2 _ _) (F.newCall_zip_2 _ _) oi F.entry_zip_new M ⟨g, ?_⟩
  obtain ⟨n, en⟩ : ∃ n, n = s.heap.objs.size := ⟨_, rfl⟩
  have s1 : (zk1 (kCls k1) s.heap l1).objs.size = n + 1 := by rw [Heap.size_push, en]
  have s2 : (zk2 (kCls k1) (kCls k2) s.heap l1 l2).objs.size = n + 2 := by rw [Heap.size_push, s1]
  have s3 : (zk3 (kCls k1) (kCls k2) s.heap l1 l2).objs.size = n + 3 := by rw [Heap.size_push, s2]
  have s4 : (zk4 (kCls k1) (kCls k2) s.heap l1 l2).objs.size = n + 4 := by rw [Heap.size_push, s3]
  have up : ∀ {h0 : Heap} {o0 : Obj} {c : Addr} {o : Obj}, h0.get? c = some o → (h0.push o0).get? c = some o := fun e => Heap.get?_push_of_some _ e
  have b5 : (zk5 (kCls k1) (kCls k2) s.heap l1 l2).get? (zk4 (kCls k1) (kCls k2) s.heap l1 l2).objs.size = some _ := Heap.get?_push_size _ rfl
  have b4 : (zk5 (kCls k1) (kCls k2) s.heap l1 l2).get? (zk3 (kCls k1) (kCls k2) s.heap l1 l2).objs.size = some _ := up (Heap.get?_push_size _ rfl)
  have b3 : (zk5 (kCls k1) (kCls k2) s.heap l1 l2).get? (zk2 (kCls k1) (kCls k2) s.heap l1 l2).objs.size = some _ := up (up (Heap.get?_push_size _ rfl))
  have b2 : (zk5 (kCls k1) (kCls k2) s.heap l1 l2).get? (zk1 (kCls k1) s.heap l1).objs.size = some _ := up (up (up (Heap.get?_push_size _ rfl)))
  have b1 : (zk5 (kCls k1) (kCls k2) s.heap l1 l2).get? s.heap.objs.size = some _ := up (up (up (up (Heap.get?_push_size _ rfl))))
  show _ ∧ _
  rw [s2, s3, s4] at b5
  rw [s1, s2] at b3
  rw [s3] at b4
  rw [s1] at b2
  rw [s4]
  refine ⟨⟨_, b5, rfl⟩, ?_⟩
  rw [en] at b2 b3 b4 b5 ⊢
  exact h _ ⟨b5, b3, b4, ⟨_, b1, rfl, rfl⟩, ⟨_, b2, rfl, rfl⟩, fun c o e => up (up (up (up (up e))))⟩
end
/-- pairs of the items at a and at b -/
def ItK (k1 k2 : Bool) (K : PySem.W.Frag) (a b : Addr) : It where
  go := fun i H => ∃ (xs ys : List V) (x y : V), (kSq k1 K H a xs ∧ kSq k2 K H b ys) ∧ xs[i]? = some x ∧ ys[i]? = some y
  yld := fun i H v H' => ∃ (T : Addr) (x y : V), (v = .ref T ∧ H T = none ∧ ∃ o : Obj, o.dict = none ∧ H' = upd H T (.frz o (.tup [x, y]))) ∧ (∀ xs, kSq k1 K H a xs → xs[i]? = some x) ∧ (∀ ys, kSq k2 K H b ys → ys[i]? = some y)
  stop := fun i H => ∃ xs ys : List V, (kSq k1 K H a xs ∧ kSq k2 K H b ys) ∧ (i = xs.length ∧ i ≤ ys.length ∨ i = ys.length ∧ i ≤ xs.length)
section
variable {P : Program} {w : World} {K : PySem.W.Frag}
theorem inv_k {X : Cx} {pins : List (Addr × Obj)} {σ : L2.St} {H : Hp} {s : Shared} {k : Bool} {a : Addr} {xs : List V} (I : Inv X pins σ H s) (h : kSq k X.K H a xs) : ∃ its : List Value, Vals xs its ∧ kSeq k s.heap a its.toArray ∧ a < s.heap.objs.size := by
  cases k with
  | true =>
    obtain ⟨its, r, p, _⟩ := I.list h
    exact ⟨its, r, p.isList, p.lt⟩
  | false =>
    obtain ⟨its, r, p, _⟩ := I.tuple h
    obtain ⟨o, e, _⟩ := id p
    exact ⟨its, r, p, Heap.lt_size e⟩
theorem inj_k {X : Cx} {pins : List (Addr × Obj)} {σ : L2.St} {H : Hp} {s : Shared} {k : Bool} {a : Addr} {xs ys : List V} (I : Inv X pins σ H s) (h : kSq k X.K H a xs) (h2 : kSq k X.K H a ys) : xs = ys := by
  cases k with
  | true => exact I.list_inj h h2
  | false => exact I.tuple_inj h h2
theorem sep_k {z TI TO i1 i2 a b : Addr} (D : ZipApart z TI TO i1 i2 a b) : ZipSep2 z TI TO i1 i2 [i1, a] [i2, b] where
  TIz := D.TIz
  TOz := D.TOz
  TITO := D.TITO
  TIi1 := D.TIi1
  mem1 := by simp
  zf1 := by simp [D.i1z.symm, D.l1z.symm]
  Tf1 := by simp [D.TOi1, D.l1TO.symm]
  TIi2 := D.TIi2
  mem2 := by simp
  zf2 := by simp [D.i2z.symm, D.l2z.symm]
  Tf2 := by simp [D.TOi2, D.l2TO.symm]
  sep1_2 := by simp [D.i12, D.l2i1.symm]
  sep2_1 := by simp [D.i12.symm, D.l1i2.symm]
theorem turn_k {k1 k2 : Bool} {elts : List Expr} {kk : Nat} {tpos : Pos} {a b z TI TO i1 i2 : Addr} (D : ZipApart z TI TO i1 i2 a b) :
    Turn P w K (.Tuple elts kk tpos) (ItK k1 k2 K a b) [z, TI, TO, i1, i2] z fun i h => (IsZip h z TI TO .none ∧ IsTupOf2 h TI (.ref i1) (.ref i2) ∧ ∃ x y, IsTupOf2 h TO x y) ∧ kIter k1 h i1 a i ∧ kIter k2 h i2 b i := by
  have keepI : ∀ {k : Bool} {h h' : Heap} {it l : Addr} {i : Nat}, kIter k h it l i → (∀ o, h.get? it = some o → h'.get? it = some o) → kIter k h' it l i := fun st q => by
    obtain ⟨o, e, c⟩ := st
    exact ⟨o, q o e, c⟩
  refine ⟨by simp, ?_, ?_, ?_, ?_, fun A i s Q E st h => wpAny_pyIter_zip st.1.1 h⟩
  · rintro i h ⟨⟨hz, ht, x, y, ho⟩, ⟨o1, g1, _, d1⟩, o2, g2, _, d2⟩ c hc
    simp only [List.mem_cons, List.not_mem_nil, or_false] at hc
    rcases hc with rfl | rfl | rfl | rfl | rfl
    · exact ⟨_, hz, fun v q => nomatch q⟩
    · exact ⟨_, ht, fun v q => nomatch q⟩
    · exact ⟨_, ho, fun v q => nomatch q⟩
    · exact ⟨o1, g1, fun v q => by rw [d1] at q; exact nomatch q⟩
    · exact ⟨o2, g2, fun v q => by rw [d2] at q; exact nomatch q⟩
  · rintro i h h' ⟨⟨hz, ht, x, y, ho⟩, j1, j2⟩ q
    exact ⟨⟨q z (by simp) _ hz, q TI (by simp) _ ht, x, y, q TO (by simp) _ ho⟩, keepI j1 (q i1 (by simp)), keepI j2 (q i2 (by simp))⟩
  · intro X hP hw hK hc i pins s σ H E I hf st hg
    subst hP hw hK
    obtain ⟨⟨hz, ht, x0, y0, ho⟩, j1, j2⟩ := st
    obtain ⟨xs, ys, x, y, ⟨hx, hy⟩, ex, ey⟩ := hg
    obtain ⟨its, rv, p1, _⟩ := inv_k I hx
    obtain ⟨its2, rv2, p2, _⟩ := inv_k I hy
    obtain ⟨u, hu, ru⟩ := rv.get ex
    obtain ⟨u2, hu2, ru2⟩ := rv2.get ey
    have hh : X.A.in1.handled = none := I.ok.hd hc
    have d1 := draws_k (prog := X.prog) (w := X.w) (k := k1) hh D.l1i1 its.toArray
    have d2 := draws_k (prog := X.prog) (w := X.w) (k := k2) hh D.l2i2 its2.toArray
    have n1 : i < its.toArray.size := by have := (List.getElem?_eq_some_iff.mp hu).1; simpa using this
    have n2 : i < its2.toArray.size := by have := (List.getElem?_eq_some_iff.mp hu2).1; simpa using this
    have zl : z < s.heap.objs.size := Heap.lt_size hz
    refine wpAny_pyNext_zipD2_item (sep_k D) d1 d2 hz ht ho ⟨j1, p1⟩ ⟨j2, p2⟩ n1 n2 ?_
    intro v1 v2 h' tk e1 e2 z' o' q1 q2 hT hsz hk
    have e1 : u = v1 := by simpa [hu] using e1
    have e2 : u2 = v2 := by simpa [hu2] using e2
    subst e1 e2
    refine ⟨_, rfl, wpAny_letOwnedTupleGo_zip (s := { s with heap := h', toks := tk }) z' ?_⟩
    intro h'' z'' sb
    have T2 := (sb.2 _ (Nat.ne_of_gt zl)).trans hT
    have nw : ObjOk X.prog X.w (upd H s.heap.objs.size (.frz { cls := .type "tuple", data := .seq #[u, u2] } (.tup [x, y]))) h'' s.heap.objs.size (.frz { cls := .type "tuple", data := .seq #[u, u2] } (.tup [x, y])) := by
      refine ⟨T2, ?_, [u, u2], .cons ru (.cons ru2 .nil), _, T2, rfl, _, rfl⟩
      show 2 ≤ sizeLine
      decide
    have other : ∀ (c : Addr) (o : Obj), c ∉ [z, TI, TO, i1, i2] → s.heap.get? c = some o → h''.get? c = some o := fun c o hb q => by
      simp only [List.mem_cons, List.not_mem_nil, or_false, not_or] at hb
      exact (sb.2 c hb.1).trans (hk c o hb.1 hb.2.2.1 hb.2.2.2.1 hb.2.2.2.2 q)
    have I1 : Inv X pins σ (upd H s.heap.objs.size (.frz { cls := .type "tuple", data := .seq #[u, u2] } (.tup [x, y]))) { s with heap := h'', toks := tk } := I.turnedNew (t' := tk) (ch := [z, TI, TO, i1, i2]) other hf (Nat.le_refl _) nw
    refine ⟨.ref s.heap.objs.size, _, I1, rfl, ⟨_, x, y, ⟨rfl, I.hok.fresh (Nat.le_refl _), _, rfl, rfl⟩, fun l hl => by rw [inj_k I hl hx]; exact ex, fun l hl => by rw [inj_k I hl hy]; exact ey⟩, ⟨⟨z'', ?_, u, u2, ?_⟩, ?_, ?_⟩, ?_⟩
    · exact (sb.2 _ D.TIz).trans (hk _ _ D.TIz D.TITO D.TIi1 D.TIi2 ht)
    · exact (sb.2 _ D.TOz).trans o'
    · exact keepI q1.1 fun o e => (sb.2 _ D.i1z).trans e
    · exact keepI q2.1 fun o e => (sb.2 _ D.i2z).trans e
    · intro c hm
      have lt : c < s.heap.objs.size := by
        obtain ⟨o1, g1, _⟩ := j1
        obtain ⟨o2, g2, _⟩ := j2
        have hm := hm
        simp only [List.mem_cons, List.not_mem_nil, or_false] at hm
        rcases hm with rfl | rfl | rfl | rfl | rfl
        · exact zl
        · exact Heap.lt_size ht
        · exact Heap.lt_size ho
        · exact Heap.lt_size g1
        · exact Heap.lt_size g2
      rw [upd_ne (Nat.ne_of_lt lt)]
      exact (hf c hm).1
  · intro X hP hw hK hc i pins s σ H E I hf st hg
    subst hP hw hK
    obtain ⟨⟨hz, ht, x0, y0, ho⟩, j1, j2⟩ := st
    obtain ⟨xs, ys, ⟨hx, hy⟩, he⟩ := hg
    obtain ⟨its, rv, p1, _⟩ := inv_k I hx
    obtain ⟨its2, rv2, p2, _⟩ := inv_k I hy
    have m1 := rv.length
    have m2 := rv2.length
    have hh : X.A.in1.handled = none := I.ok.hd hc
    have d1 := draws_k (prog := X.prog) (w := X.w) (k := k1) hh D.l1i1 its.toArray
    have d2 := draws_k (prog := X.prog) (w := X.w) (k := k2) hh D.l2i2 its2.toArray
    refine wpAny_pyNext_zipD2_end (sep_k D) d1 d2 hz ht ho ⟨j1, p1⟩ ⟨j2, p2⟩ (by simp; omega) (by simp; omega) (by simp; omega) ?_
    intro h' tk hk
    refine ⟨rfl, I.turnedL (t' := tk) (ch := [z, TI, TO, i1, i2]) ?_ hf⟩
    intro c o hb q
    simp only [List.mem_cons, List.not_mem_nil, or_false, not_or] at hb
    exact hk c o hb.1 hb.2.2.1 hb.2.2.2.1 hb.2.2.2.2 q
end
section
variable {prog : Program} {w : World} {A : Around} {E : Value → Shared → Prop} {s : Shared}
theorem new_ll (l1 l2 : Addr) (xs ys : Array Value) : NewK "list_iterator" "list_iterator" (fun h => h.IsList l1 xs ∧ h.IsList l2 ys) l1 l2 :=
  .of_wp fun prog w A R s h => by
    obtain ⟨hp, g, d, tk, os⟩ := s
    obtain ⟨⟨q1, q2⟩, h⟩ := h
    have hsub := sub_zip
    have a1 : Heap.IsList (Shared.heap ⟨hp, g, d, tk, os⟩) l1 xs := q1
    have a2 : Heap.IsList (Shared.heap ⟨zk1 "list_iterator" hp l1, g, d, tk, os⟩) l2 ys := Heap.IsList.push q2 _
    wp_walk using wpAny_pyIter_list a1, wpAny_pyIter_list a2
    exact ⟨_, rfl, h⟩
theorem new_tt (l1 l2 : Addr) (xs ys : Array Value) : NewK "tuple_iterator" "tuple_iterator" (fun h => h.IsTuple l1 xs ∧ h.IsTuple l2 ys) l1 l2 :=
  .of_wp fun prog w A R s h => by
    obtain ⟨hp, g, d, tk, os⟩ := s
    obtain ⟨⟨q1, q2⟩, h⟩ := h
    have hsub := sub_zip
    have a1 : Heap.IsTuple (Shared.heap ⟨hp, g, d, tk, os⟩) l1 xs := q1
    have a2 : Heap.IsTuple (Shared.heap ⟨zk1 "tuple_iterator" hp l1, g, d, tk, os⟩) l2 ys := Heap.IsTuple.push q2 _
    wp_walk using wpAny_pyIter_tuple a1, wpAny_pyIter_tuple a2
    exact ⟨_, rfl, h⟩
theorem new_k (k1 k2 : Bool) (l1 l2 : Addr) (xs ys : Array Value) : NewK (kCls k1) (kCls k2) (fun h => kSeq k1 h l1 xs ∧ kSeq k2 h l2 ys) l1 l2 := by
  cases k1 <;> cases k2
  · exact new_tt l1 l2 xs ys
  · exact new_tl l1 l2 xs ys
  · exact new_lt l1 l2 xs ys
  · exact new_ll l1 l2 xs ys
end
def iZk (K : PySem.W.Frag) (ta : TA) : TI := fun σ H R => ta σ H fun vs H1 => ∃ (a b : Addr) (k1 k2 : Bool) (xs ys : List V), vs = [.ref a, .ref b] ∧ (kSq k1 K H1 a xs ∧ kSq k2 K H1 b ys) ∧ R (ItK k1 k2 K a b) H1
theorem pi_zk {X : Cx} {e e2 : Expr} {ta : TA} {p pos tpos : Pos} {elts : List Expr} {kk : Nat} (hg : Gl X "zip") (hm : X.mg "zip" = none) (ha : PA X [e, e2] ta)
    (hs : starEach [e, e2] X.env = (false, eval e X.env) :: starEach [e2] X.env := by rfl)
    (hpl : (backTo pos (starEach [e2] X.env)).any (·.1) = false := by rfl) : PI X (.Tuple elts kk tpos) (.Call (.Name "zip" p) [e, e2] [] pos) (iZk X.K ta) := by
  refine ⟨?_⟩
  intro pins s σ H R I h
  refine Call_ (ld_blt I hg hm PyProof.Rows.boot_zip ?_)
  refine PyProof.Rows.callWith_type1 (thn (ha.run pos pins s σ H _ I h) ?_) hs hpl
  rintro us s1 ⟨vs, H1, I1, r1, a, b, k1, k2, xs, ys, rfl, ⟨hx, hy⟩, q⟩
  cases r1 with
  | cons r rr =>
  cases rr with
  | cons r' rr =>
  cases rr
  cases r
  cases r'
  obtain ⟨its, rv, p1, la⟩ := inv_k I1 hx
  obtain ⟨its2, rv2, p2, lb⟩ := inv_k I1 hy
  refine call_zk (new_k k1 k2 a b its.toArray its2.toArray) ⟨p1, p2⟩ ?_
  intro h' Z
  refine wpAny_pyIter_zip Z.z ?_
  have I2 : Inv X pins σ H1 { s1 with heap := h' } := I1.kept (t' := s1.toks) Z.keep
  obtain ⟨n, en⟩ : ∃ n, n = s1.heap.objs.size := ⟨_, rfl⟩
  have T := turn_k (P := X.prog) (w := X.w) (K := X.K) (k1 := k1) (k2 := k2) (elts := elts) (kk := kk) (tpos := tpos) (PySem.W.ktu_apart s1.heap.objs.size a b la lb)
  refine ⟨s1.heap.objs.size + 4, _, _, _, H1, rfl, I2, T, ⟨⟨Z.z, Z.i, _, _, Z.o⟩, Z.i1, Z.i2⟩, ?_, q⟩
  intro c hm
  simp only [List.mem_cons, List.not_mem_nil, or_false] at hm
  have le : s1.heap.objs.size ≤ c := by
    rcases hm with rfl | rfl | rfl | rfl | rfl
    · exact Nat.le_add_right _ _
    · exact Nat.le_add_right _ _
    · exact Nat.le_add_right _ _
    · exact Nat.le_refl _
    · exact Nat.le_add_right _ _
  exact I1.fpOk le (I1.hok.fresh le)
theorem zipD_at {xs ys : List D} {i : Nat} {d : D} (h : (zipD xs ys)[i]? = some d) : ∃ x y, xs[i]? = some x ∧ ys[i]? = some y ∧ d = .tup [x, y] := by
  unfold zipD at h
  rw [List.getElem?_map] at h
  cases hz : (List.zip xs ys)[i]? with
  | none =>
    rw [hz] at h
    cases h
  | some q =>
    rw [hz] at h
    cases h
    obtain ⟨h1, h2⟩ := List.getElem?_zip_eq_some.mp hz
    exact ⟨_, _, h1, h2, rfl⟩
theorem zipD_len (xs ys : List D) : (zipD xs ys).length = min xs.length ys.length := by
  unfold zipD
  rw [List.length_map, List.length_zip]
theorem j_zk {K : KW} {m0 : List Addr} {H0 : Hp} {k1 k2 : Bool} {a b : Addr} {q : Sq} {xs ys : List D} (hi : q.items = zipD xs ys)
    (h : ∀ (m : List Addr) (H : Hp) (st : Store), Ext K m0 H0 m H → SS K m st H → q.chk st = true → ∃ vs us, (kSq k1 K H a vs ∧ kSq k2 K H b us) ∧ RDs K m H xs vs ∧ RDs K m H ys us) : JOk K m0 H0 q (ItK k1 k2 K a b) := by
  intro m H st e s hc
  obtain ⟨vs, us, ⟨q1, q2⟩, r1, r2⟩ := h m H st e s hc
  refine ⟨?_, vs, us, ⟨q1, q2⟩, ?_⟩
  · intro i d hd
    rw [hi] at hd
    obtain ⟨x, y, hx, hy, rfl⟩ := zipD_at hd
    obtain ⟨v, hv, rv⟩ := r1.get hx
    obtain ⟨u, hu, ru⟩ := r2.get hy
    refine ⟨⟨vs, us, v, u, ⟨q1, q2⟩, hv, hu⟩, ?_⟩
    rintro z H' ⟨T, v', u', ⟨rfl, hT, ob, hob, rfl⟩, g1, g2⟩
    have z1 := g1 vs q1
    have z2 := g2 us q2
    rw [hv] at z1
    rw [hu] at z2
    cases z1
    cases z2
    have f := Ext.fresh (K := K) (m := m) (H := H) (o := .frz ob (.tup [v, u])) hT
    exact ⟨f, s.fresh hT, .tup (PlT.of hob) (.cons (rv.mono f) (.cons (ru.mono f) .nil))⟩
  · rw [hi, zipD_len, r1.len, r2.len]
    omega
end HM

/-! HM, part 13: max and min of tuples, index. -/
namespace HM
open PySem PySem.Spec PyProof.Rows L2
section
variable {prog : Program} {w : World} {A : Around} {E : Value → Shared → Prop} {s : Shared}
/-- the greatest of a tuple's ints -/
theorem tup_max {t : Addr} {xs : Array (Int × Tok)} {Q : Value → Shared → Prop} (hh : A.handled = none) (ht : s.heap.IsTuple t (intItems xs)) (hne : 0 < xs.size)
    (h : ∀ v h' tk, (intItems xs)[argBest (fun i j => decide (numAt xs i > numAt xs j)) (xs.size - 1)]? = some v → (∀ b o, s.heap.get? b = some o → h'.get? b = some o) → Q v { s with heap := h', toks := tk }) :
    wpAny (model prog w) A (call (.builtin "max") [.ref t]) Q E s := by
  obtain ⟨ob, o1, _, _, _⟩ := id ht
  have sz : (intItems xs).size = xs.size := by simp [intItems]
  refine call_max_walk (wpAny_pyIter_tuple ht ?_)
  refine ⟨_, [_, t], [_], _, _, _, _, rfl, Walks.tuple (A := A.in1) hh s.heap.objs.size t (Nat.ne_of_lt (Heap.lt_size o1)) (intItems xs), ⟨⟨_, Heap.get?_push_size _ rfl, rfl, rfl⟩, ht.push _⟩, fun b hb => ?_, by omega, CmpOf.ints_gt (numAt xs) (fun _ _ => intItems_at), fun v h' tk hP hk => ?_⟩
  · rcases List.mem_cons.mp hb with rfl | hb
    · exact Heap.lt_size (Heap.get?_push_size _ rfl)
    · rw [List.mem_singleton.mp hb]
      exact Heap.lt_size (Heap.get?_push_of_some _ o1)
  · rw [sz] at hP
    exact h v h' tk hP fun b o e => hk b o (fun hm => absurd (Heap.lt_size e) (by rw [List.mem_singleton.mp hm]; exact Nat.lt_irrefl _)) (Heap.get?_push_of_some _ e)
theorem tup_min {t : Addr} {xs : Array (Int × Tok)} {Q : Value → Shared → Prop} (hh : A.handled = none) (ht : s.heap.IsTuple t (intItems xs)) (hne : 0 < xs.size)
    (h : ∀ v h' tk, (intItems xs)[argBest (fun i j => decide (numAt xs i < numAt xs j)) (xs.size - 1)]? = some v → (∀ b o, s.heap.get? b = some o → h'.get? b = some o) → Q v { s with heap := h', toks := tk }) :
    wpAny (model prog w) A (call (.builtin "min") [.ref t]) Q E s := by
  obtain ⟨ob, o1, _, _, _⟩ := id ht
  have sz : (intItems xs).size = xs.size := by simp [intItems]
  refine call_min_walk (wpAny_pyIter_tuple ht ?_)
  refine ⟨_, [_, t], [_], _, _, _, _, rfl, Walks.tuple (A := A.in1) hh s.heap.objs.size t (Nat.ne_of_lt (Heap.lt_size o1)) (intItems xs), ⟨⟨_, Heap.get?_push_size _ rfl, rfl, rfl⟩, ht.push _⟩, fun b hb => ?_, by omega, CmpOf.ints_lt (numAt xs) (fun _ _ => intItems_at), fun v h' tk hP hk => ?_⟩
  · rcases List.mem_cons.mp hb with rfl | hb
    · exact Heap.lt_size (Heap.get?_push_size _ rfl)
    · rw [List.mem_singleton.mp hb]
      exact Heap.lt_size (Heap.get?_push_of_some _ o1)
  · rw [sz] at hP
    exact h v h' tk hP fun b o e => hk b o (fun hm => absurd (Heap.lt_size e) (by rw [List.mem_singleton.mp hm]; exact Nat.lt_irrefl _)) (Heap.get?_push_of_some _ e)
end
section
variable {X : Cx} {W : WX} {e : Expr} {pos p : Pos}
def rMaxT (K : PySem.W.Frag) : List V → Hp → VK → Prop := fun vs H Q => ∃ (a : Addr) (ns : List Int), vs = [V.ref a] ∧ SqT K H a (ns.map V.int) ∧ 0 < ns.length ∧ ∀ m, m ∈ ns → (∀ y, y ∈ ns → y ≤ m) → Q (.int m) H
def rMinT (K : PySem.W.Frag) : List V → Hp → VK → Prop := fun vs H Q => ∃ (a : Addr) (ns : List Int), vs = [V.ref a] ∧ SqT K H a (ns.map V.int) ∧ 0 < ns.length ∧ ∀ m, m ∈ ns → (∀ y, y ∈ ns → m ≤ y) → Q (.int m) H
theorem cr_maxT (hc : X.calm = true) : CallR X (.builtin "max") (rMaxT X.K) := by
  intro pins s σ H vs us Q I r h
  obtain ⟨a, ns, rfl, hs, hne, q⟩ := h
  obtain ⟨its, rv, hl, _⟩ := I.tuple hs
  rw [Vals.ref1 r]
  have hi := rv.ints
  obtain ⟨xs, e⟩ := hi.allInts.items
  have hn : numsOf (intItems xs).toList = ns := by rw [← e]; exact hi.numsOf
  rw [nums_intItems] at hn
  subst hn
  obtain ⟨ob, ho, hcl, n, hd⟩ := hl
  have ht : s.heap.IsTuple a (intItems xs) := by
    rw [← e]
    exact ⟨ob, ho, hcl, n, hd⟩
  have hsz : 0 < xs.size := by simpa using hne
  refine tup_max (I.ok.hd hc) ht hsz fun v h' tk hv hk => ?_
  obtain ⟨t, rfl⟩ := intItems_at hv
  obtain ⟨h1, h2⟩ := argBest_gt (numAt xs) (xs.size - 1)
  refine ⟨.int _, H, I.kept hk, ⟨_, rfl⟩, q _ ?_ fun y hy => ?_⟩
  · rw [numAt_eq]
    exact PySem.getD_mem (by rw [List.length_map, Array.length_toList]; omega)
  · obtain ⟨j, hj, rfl⟩ := mem_getD hy
    rw [List.length_map, Array.length_toList] at hj
    rw [← numAt_eq]
    exact h2 j (by omega)
theorem cr_minT (hc : X.calm = true) : CallR X (.builtin "min") (rMinT X.K) := by
  intro pins s σ H vs us Q I r h
  obtain ⟨a, ns, rfl, hs, hne, q⟩ := h
  obtain ⟨its, rv, hl, _⟩ := I.tuple hs
  rw [Vals.ref1 r]
  have hi := rv.ints
  obtain ⟨xs, e⟩ := hi.allInts.items
  have hn : numsOf (intItems xs).toList = ns := by rw [← e]; exact hi.numsOf
  rw [nums_intItems] at hn
  subst hn
  obtain ⟨ob, ho, hcl, n, hd⟩ := hl
  have ht : s.heap.IsTuple a (intItems xs) := by
    rw [← e]
    exact ⟨ob, ho, hcl, n, hd⟩
  have hsz : 0 < xs.size := by simpa using hne
  refine tup_min (I.ok.hd hc) ht hsz fun v h' tk hv hk => ?_
  obtain ⟨t, rfl⟩ := intItems_at hv
  obtain ⟨h1, h2⟩ := argBest_lt (numAt xs) (xs.size - 1)
  refine ⟨.int _, H, I.kept hk, ⟨_, rfl⟩, q _ ?_ fun y hy => ?_⟩
  · rw [numAt_eq]
    exact PySem.getD_mem (by rw [List.length_map, Array.length_toList]; omega)
  · obtain ⟨j, hj, rfl⟩ := mem_getD hy
    rw [List.length_map, Array.length_toList] at hj
    rw [← numAt_eq]
    exact h2 j (by omega)
theorem max_uniq {ns : List Int} {k m : Int} (hk : maxI ns = some k) (hm : m ∈ ns) (hy : ∀ y ∈ ns, y ≤ m) : m = k := by
  cases ns with
  | nil => cases hk
  | cons n ns =>
    have hk : some (ns.foldl max n) = some k := hk
    cases hk
    obtain ⟨h1, h2, h3⟩ := foldl_max_ge ns n
    refine Int.le_antisymm ?_ ?_
    · rcases List.mem_cons.mp hm with rfl | hm
      · exact h1
      · exact h2 m hm
    · rcases h3 with h3 | h3
      · rw [h3]
        exact hy n (List.mem_cons_self ..)
      · exact hy _ (List.mem_cons_of_mem _ h3)
theorem min_uniq {ns : List Int} {k m : Int} (hk : minI ns = some k) (hm : m ∈ ns) (hy : ∀ y ∈ ns, m ≤ y) : m = k := by
  cases ns with
  | nil => cases hk
  | cons n ns =>
    have hk : some (ns.foldl min n) = some k := hk
    cases hk
    obtain ⟨h1, h2, h3⟩ := foldl_min_le ns n
    refine Int.le_antisymm ?_ ?_
    · rcases h3 with h3 | h3
      · rw [h3]
        exact hy n (List.mem_cons_self ..)
      · exact hy _ (List.mem_cons_of_mem _ h3)
    · rcases List.mem_cons.mp hm with rfl | hm
      · exact h1
      · exact h2 m hm
theorem maxI_pos {ns : List Int} {k : Int} (hk : maxI ns = some k) : 0 < ns.length := by
  cases ns with
  | nil => cases hk
  | cons n ns => simp
theorem minI_pos {ns : List Int} {k : Int} (hk : minI ns = some k) : 0 < ns.length := by
  cases ns with
  | nil => cases hk
  | cons n ns => simp
theorem sv_max (hc : X.calm = true) : CallS X (.builtin "max") gMax := ⟨_, (cr_max hc).or (cr_maxT hc), fun m st H ds v E Q hS r hP => by
  obtain ⟨a, vs, rfl, q, rs⟩ := r
  unfold gMax at hP
  split at hP
  · rename_i k hk
    cases hn : intsD ds with
    | none =>
      rw [hn] at hk
      cases hk
    | some ns =>
      rw [hn] at hk
      have hk : maxI ns = some k := hk
      have e := intsD_V rs hn
      subst e
      have fin : ∀ mm, mm ∈ ns → (∀ y, y ∈ ns → y ≤ mm) → Q (.int mm) H := fun mm hm hy => by
        rw [max_uniq hk hm hy]
        exact hP.now hS (.int _)
      rcases q with q | q
      · exact .inl ⟨a, ns, rfl, q, maxI_pos hk, fin⟩
      · exact .inr ⟨a, ns, rfl, q.sq, maxI_pos hk, fin⟩
  · exact hP.elim⟩
theorem sv_min (hc : X.calm = true) : CallS X (.builtin "min") gMin := ⟨_, (cr_min hc).or (cr_minT hc), fun m st H ds v E Q hS r hP => by
  obtain ⟨a, vs, rfl, q, rs⟩ := r
  unfold gMin at hP
  split at hP
  · rename_i k hk
    cases hn : intsD ds with
    | none =>
      rw [hn] at hk
      cases hk
    | some ns =>
      rw [hn] at hk
      have hk : minI ns = some k := hk
      have e := intsD_V rs hn
      subst e
      have fin : ∀ mm, mm ∈ ns → (∀ y, y ∈ ns → mm ≤ y) → Q (.int mm) H := fun mm hm hy => by
        rw [min_uniq hk hm hy]
        exact hP.now hS (.int _)
      rcases q with q | q
      · exact .inl ⟨a, ns, rfl, q, minI_pos hk, fin⟩
      · exact .inr ⟨a, ns, rfl, q.sq, minI_pos hk, fin⟩
  · exact hP.elim⟩
end
/-! ### tuple(range(..)), list(range(..)) -/
section
variable {X : Cx} {W : WX} {e a b : Expr} {pos p p2 : Pos} {fa fb : EM D}
def okLen (j : Int) : Bool := decide (j.toNat ≤ 16777216) && decide (0 ≤ j)
theorem rng_rds {K : PySem.W.Frag} {m : List Addr} {H : Hp} {i j : Int} : RDs K m H (rng i j) (rgV i j) := by
  have e1 : rng i j = ((List.range (j - i).toNat).map fun k : Nat => i + (k : Int)).map D.int := by
    unfold rng
    rw [List.map_map]
    rfl
  have e2 : rgV i j = ((List.range (j - i).toNat).map fun k : Nat => i + (k : Int)).map V.int := by
    unfold rgV
    rw [List.map_map]
    rfl
  rw [e1, e2]
  exact RDs.ints _
theorem rg_ok {i j : Int} (hi : okLen i = true) (hj : okLen j = true) : RgOk i j := by
  unfold okLen at hi hj
  rw [Bool.and_eq_true, decide_eq_true_eq, decide_eq_true_eq] at hi hj
  exact RgOk.of_le hi.2 (by omega) (by omega) hj.2
def kTup (i j : Int) (st : Store) : ER D := if okLen i && okLen j then .ok (.tup (rng i j)) st else .bad
def kLst (i j : Int) (st : Store) : ER D := if okLen i && okLen j then .ok (.ref st.length) (st ++ [.lst (rng i j)]) else .bad
def eRg1 (k : Int → Int → Store → ER D) (fa : EM D) : EM D := fun τ st => (fa τ st).bind fun d s1 => match d with
  | .int j => k 0 j s1
  | _ => .bad
def eRg2 (k : Int → Int → Store → ER D) (fa fb : EM D) : EM D := fun τ st => (fa τ st).bind fun d s1 => (fb τ s1).bind fun e s2 => match d, e with
  | .int i, .int j => k i j s2
  | _, _ => .bad
theorem kTup_ok {K : KW} {E : XK} {m : List Addr} {st : Store} {H : Hp} {Q : VK} {i j : Int} (hS : SS K m st H) (hP : Pe K E (RD K) m H (kTup i j st) Q) : RgOk i j ∧ TNew Q H (rgV i j) := by
  unfold kTup at hP
  split at hP
  · rename_i hc
    rw [Bool.and_eq_true] at hc
    exact ⟨rg_ok hc.1 hc.2, hP.tup hS rng_rds⟩
  · exact hP.elim
theorem kLst_ok {K : KW} {E : XK} {m : List Addr} {st : Store} {H : Hp} {Q : VK} {i j : Int} (hS : SS K m st H) (hP : Pe K E (RD K) m H (kLst i j st) Q) : RgOk i j ∧ ∀ q, H q = none → Q (.ref q) (upd H q (.lst (rgV i j))) := by
  unfold kLst at hP
  split at hP
  · rename_i hc
    rw [Bool.and_eq_true] at hc
    exact ⟨rg_ok hc.1 hc.2, hP.lst hS rng_rds⟩
  · exact hP.elim
theorem ex_tupRg1 (hc : X.calm = true) (hg : Gl X "tuple") (hm : X.mg "tuple" = none) (hg2 : Gl X "range") (hm2 : X.mg "range" = none) (ha : Ex X W a fa) (na : starEach [.Call (.Name "range" p2) [a] [] pos] X.env = (false, eval (.Call (.Name "range" p2) [a] [] pos) X.env) :: starEach [] X.env := by rfl) (nb : starEach [a] X.env = (false, eval a X.env) :: starEach [] X.env := by rfl) {pos2 : Pos} :
    Ex X W (.Call (.Name "tuple" p) [.Call (.Name "range" p2) [a] [] pos] [] pos2) (eRg1 kTup fa) := by
  refine ⟨fun m τ st σ H Q hL hS hP pins s I => (pe_tupRgF hc hg hm (prg_1 hg2 hm2 peW nb) na).run pins s σ H Q I ?_⟩
  refine ha.run m τ st σ H _ hL hS (hP.bind fun d s1 m1 H1 v e1 hS1 r1 hP1 => ?_)
  split at hP1
  · cases r1
    exact ⟨_, rfl, kTup_ok hS1 hP1⟩
  · exact hP1.elim
theorem ex_lstRg1 (hc : X.calm = true) (hg : Gl X "list") (hm : X.mg "list" = none) (hg2 : Gl X "range") (hm2 : X.mg "range" = none) (ha : Ex X W a fa) (na : starEach [.Call (.Name "range" p2) [a] [] pos] X.env = (false, eval (.Call (.Name "range" p2) [a] [] pos) X.env) :: starEach [] X.env := by rfl) (nb : starEach [a] X.env = (false, eval a X.env) :: starEach [] X.env := by rfl) {pos2 : Pos} :
    Ex X W (.Call (.Name "list" p) [.Call (.Name "range" p2) [a] [] pos] [] pos2) (eRg1 kLst fa) := by
  refine ⟨fun m τ st σ H Q hL hS hP pins s I => (pe_listRg hc hg hm (prg_1 hg2 hm2 peW nb) na).run pins s σ H Q I ?_⟩
  refine ha.run m τ st σ H _ hL hS (hP.bind fun d s1 m1 H1 v e1 hS1 r1 hP1 => ?_)
  split at hP1
  · cases r1
    exact ⟨_, rfl, kLst_ok hS1 hP1⟩
  · exact hP1.elim
end
/-! ### zip of two -/
section
variable {X : Cx} {W : WX} {a b : Expr} {pos p tpos : Pos} {fa fb : EM D}
def zip2 (d e : D) (st : Store) : ER Sq := match d, e with
  | .tup xs, .tup ys => .ok (.fix (zipD xs ys)) st
  | .ref n, .ref k => match lstAt st n, lstAt st k with
    | some xs, some ys => .ok (.two n k xs ys) st
    | _, _ => .bad
  | .ref n, .tup ys => match lstAt st n with
    | some xs => .ok (.mix true n xs ys) st
    | none => .bad
  | .tup xs, .ref n => match lstAt st n with
    | some ys => .ok (.mix false n xs ys) st
    | none => .bad
  | _, _ => .bad
def iZip (fa fb : EM D) : EM Sq := fun τ st => (fa τ st).bind fun d s1 => (fb τ s1).bind fun e s2 => zip2 d e s2
theorem ei_zip {elts : List Expr} {kk : Nat} (hg : Gl X "zip") (hm : X.mg "zip" = none) (ha : Ex X W a fa) (hb : Ex X W b fb)
    (hs : starEach [a, b] X.env = (false, eval a X.env) :: starEach [b] X.env := by rfl) (hs2 : starEach [b] X.env = (false, eval b X.env) :: starEach [] X.env := by rfl) (hpl : (backTo pos (starEach [b] X.env)).any (·.1) = false := by rfl) :
    Ei X W (.Tuple elts kk tpos) (.Call (.Name "zip" p) [a, b] [] pos) (iZip fa fb) := by
  refine ⟨fun m τ st σ H R hL hS hP pins s I => (pi_zk (elts := elts) (kk := kk) (tpos := tpos) hg hm (pa_cons peW (pa_cons peW pa_nil hs2) hs) hs hpl).run pins s σ H R I ?_⟩
  refine two ha hb hL hS hP fun m2 st2 H2 dx dy x y e2 hS2 r1 r2 hP2 => ?_
  unfold zip2 at hP2
  split at hP2
  · cases r1 with
    | tup q rs =>
      cases r2 with
      | tup q2 rs2 => exact ⟨_, _, false, false, _, _, rfl, ⟨q.sq, q2.sq⟩, hP2.now hS2 (j_zk rfl fun m H st e s _ => ⟨_, _, ⟨e.tup _ _ q.sq, e.tup _ _ q2.sq⟩, rs.mono e, rs2.mono e⟩)⟩
  · split at hP2
    · rename_i xs ys hx hy
      cases r1 with
      | ref q =>
        cases r2 with
        | ref q2 =>
          obtain ⟨vs, h1, _⟩ := hS2.list hx q
          obtain ⟨us, h2, _⟩ := hS2.list hy q2
          refine ⟨_, _, true, true, vs, us, rfl, ⟨SqL.of h1, SqL.of h2⟩, hP2.now hS2 (j_zk rfl fun m H st e s hc => ?_)⟩
          have hc : (decide (lstAt st _ = some xs) && decide (lstAt st _ = some ys)) = true := hc
          rw [Bool.and_eq_true, decide_eq_true_eq, decide_eq_true_eq] at hc
          obtain ⟨vs, h1, r1⟩ := s.list hc.1 (e.pre _ _ q)
          obtain ⟨us, h2, r2⟩ := s.list hc.2 (e.pre _ _ q2)
          exact ⟨vs, us, ⟨SqL.of h1, SqL.of h2⟩, r1, r2⟩
    · exact hP2.elim
  · split at hP2
    · rename_i xs hx
      cases r1 with
      | ref q =>
        cases r2 with
        | tup q2 rs2 =>
          obtain ⟨vs, h1, _⟩ := hS2.list hx q
          refine ⟨_, _, true, false, vs, _, rfl, ⟨SqL.of h1, q2.sq⟩, hP2.now hS2 (j_zk rfl fun m H st e s hc => ?_)⟩
          have hc : decide (lstAt st _ = some xs) = true := hc
          rw [decide_eq_true_eq] at hc
          obtain ⟨vs, h1, r1⟩ := s.list hc (e.pre _ _ q)
          exact ⟨vs, _, ⟨SqL.of h1, e.tup _ _ q2.sq⟩, r1, rs2.mono e⟩
    · exact hP2.elim
  · split at hP2
    · rename_i ys hy
      cases r1 with
      | tup q rs =>
        cases r2 with
        | ref q2 =>
          obtain ⟨us, h2, _⟩ := hS2.list hy q2
          refine ⟨_, _, false, true, _, us, rfl, ⟨q.sq, SqL.of h2⟩, hP2.now hS2 (j_zk rfl fun m H st e s hc => ?_)⟩
          have hc : decide (lstAt st _ = some ys) = true := hc
          rw [decide_eq_true_eq] at hc
          obtain ⟨us, h2, r2⟩ := s.list hc (e.pre _ _ q2)
          exact ⟨_, us, ⟨e.tup _ _ q.sq, SqL.of h2⟩, rs.mono e, r2⟩
    · exact hP2.elim
  · exact hP2.elim
end
end HM

/-! HM, part D: dicts. -/
namespace HM
open PySem PySem.Spec PyProof.Rows L2

/-! ### keys -/
mutual
inductive NV (K : PySem.W.Frag) (H : Hp) : NestedKey → V → Prop
  | non : NV K H .none .non
  | int (i : Int) : NV K H (.num i) (.int i)
  | str (x : PySem.Str) : NV K H (.text x) (.str x)
  | tup {a : Addr} {vs : List V} {ks : List NestedKey} : SqT K H a vs → NVs K H ks vs → NV K H (.tup ks) (.ref a)
inductive NVs (K : PySem.W.Frag) (H : Hp) : List NestedKey → List V → Prop
  | nil : NVs K H [] []
  | cons {k : NestedKey} {v : V} {ks : List NestedKey} {vs : List V} : NV K H k v → NVs K H ks vs → NVs K H (k :: ks) (v :: vs)
end
section
variable {X : Cx} {pins : List (Addr × Obj)} {σ : L2.St} {H : Hp} {s : Shared}
mutual
theorem nv_is (I : Inv X pins σ H s) : ∀ {k : NestedKey} {v : V} {u : Value}, NV X.K H k v → RelV v u → NestedIs s.heap k u
  | _, _, _, .non, r => by
    cases (show _ = Value.none from r)
    exact .none
  | _, _, _, .int i, r => by
    obtain ⟨t, rfl⟩ := r
    exact .int i t
  | _, _, _, .str x, r => by
    obtain ⟨t, rfl⟩ := r
    exact .text x t
  | _, _, _, .tup q n, r => by
    cases (show _ = Value.ref _ from r)
    obtain ⟨its, rs, ⟨o, e, c, k, d⟩, _⟩ := I.tuple q
    exact .tup e c d (by simpa using nvs_is I n rs)
theorem nvs_is (I : Inv X pins σ H s) : ∀ {ks : List NestedKey} {vs : List V} {us : List Value}, NVs X.K H ks vs → Vals vs us → NestedAll s.heap ks us
  | _, _, _, .nil, r => by
    cases r
    exact .nil
  | _, _, _, .cons h t, r => by
    cases r with
    | cons r1 r2 => exact .cons (nv_is I h r1) (nvs_is I t r2)
end
end
section
variable {K : PySem.W.Frag} {m : List Addr} {H : Hp}
theorem nvs_of {n : Nat} (ih : ∀ (d : D) (v : V), d.plain n = true → RD K m H d v → NV K H d.nk v ∧ d.nk.depth ≤ n) : ∀ (ds : List D) (vs : List V), ds.all (D.plain n) = true → RDs K m H ds vs → NVs K H (D.nks ds) vs ∧ NestedKey.depthAll (D.nks ds) ≤ n
  | [], _, _, r => by
    cases r
    exact ⟨.nil, Nat.zero_le _⟩
  | d :: ds, _, h, r => by
    cases r with
    | cons r1 r2 =>
      rw [List.all_cons, Bool.and_eq_true] at h
      obtain ⟨a1, a2⟩ := ih d _ h.1 r1
      obtain ⟨b1, b2⟩ := nvs_of ih ds _ h.2 r2
      refine ⟨.cons a1 b1, ?_⟩
      simp only [D.nks, NestedKey.depthAll]
      omega
theorem nv_of : ∀ (n : Nat) (d : D) (v : V), d.plain n = true → RD K m H d v → NV K H d.nk v ∧ d.nk.depth ≤ n := by
  intro n
  induction n with
  | zero =>
    intro d v h r
    cases r <;> simp [D.plain] at h
    · exact ⟨.non, Nat.zero_le _⟩
    · exact ⟨.int _, Nat.zero_le _⟩
    · exact ⟨.str _, Nat.zero_le _⟩
  | succ n ih =>
    intro d v h r
    cases r with
    | non => exact ⟨.non, Nat.zero_le _⟩
    | int i => exact ⟨.int _, Nat.zero_le _⟩
    | str x => exact ⟨.str _, Nat.zero_le _⟩
    | tup s rs =>
      rename_i a vs ds
      obtain ⟨b1, b2⟩ := nvs_of ih ds vs h rs
      refine ⟨.tup s.sq b1, ?_⟩
      simp only [D.nk, NestedKey.depth]
      omega
    | _ => simp [D.plain] at h
end
theorem nks_inj {n : Nat} (ih : ∀ x y : D, x.plain n = true → y.plain n = true → x.nk = y.nk → x = y) : ∀ xs ys : List D, xs.all (D.plain n) = true → ys.all (D.plain n) = true → D.nks xs = D.nks ys → xs = ys
  | [], [], _, _, _ => rfl
  | [], _ :: _, _, _, h => by simp [D.nks] at h
  | _ :: _, [], _, _, h => by simp [D.nks] at h
  | x :: xs, y :: ys, h1, h2, h => by
    rw [List.all_cons, Bool.and_eq_true] at h1 h2
    simp only [D.nks, List.cons.injEq] at h
    rw [ih x y h1.1 h2.1 h.1, nks_inj ih xs ys h1.2 h2.2 h.2]
theorem nk_inj : ∀ (n : Nat) (x y : D), x.plain n = true → y.plain n = true → x.nk = y.nk → x = y := by
  intro n
  induction n with
  | zero => intro x y h1 h2 h; cases x <;> simp [D.plain] at h1 <;> cases y <;> simp [D.plain] at h2 <;> simp [D.nk] at h <;> first | rfl | rw [h]
  | succ n ih =>
    intro x y h1 h2 h
    cases x <;> simp only [D.plain, Bool.false_eq_true] at h1 <;> cases y <;> simp only [D.plain, Bool.false_eq_true] at h2 <;> simp [D.nk] at h <;> first
      | rfl
      | rw [h]
      | rw [nks_inj ih _ _ h1 h2 h]
/-! ### a dict's cell -/
def dctAt (st : Store) (n : Nat) : Option (List (D × D)) := match st[n]? with
  | some (.dct kvs) => some kvs
  | _ => none
theorem dct_lst {st : Store} {n : Nat} {xs : List D} (h : lstAt st n = some xs) : dctAt st n = none := by
  unfold lstAt at h
  unfold dctAt
  split at h
  · rename_i e
    rw [e]
  · cases h
theorem lst_dct {st : Store} {n : Nat} {kvs : List (D × D)} (h : dctAt st n = some kvs) : lstAt st n = none := by
  unfold dctAt at h
  unfold lstAt
  split at h
  · rename_i e
    rw [e]
  · cases h
theorem SS.dict {K : KW} {m : List Addr} {st : Store} {H : Hp} {n : Nat} {kvs : List (D × D)} {a : Addr} (s : SS K m st H) (h : dctAt st n = some kvs) (e : m[n]? = some a) : RC K m H a (.dct kvs) := by
  unfold dctAt at h
  split at h
  · rename_i q
    cases h
    exact s.cel n _ a q e
  · cases h
def D.flatK (d : D) : Bool := match d with
  | .int _ => true
  | .str _ => true
  | _ => false
def keyFit (kvs : List (D × D)) (k : D) : Bool := (k.flatK && kvs.all fun p => p.1.flatK) || (k.tupQ && kvs.all fun p => p.1.tupQ)
def dGet (kvs : List (D × D)) (k : D) : Option D := (kvs.find? fun p => decide (p.1 = k)).map (·.2)
def dPut (kvs : List (D × D)) (k v : D) : List (D × D) := if (dGet kvs k).isSome then kvs.map (fun p => if p.1 = k then (p.1, v) else p) else kvs ++ [(k, v)]
/-- what the dict at a holds at y -/
def DG (K : KW) (H : Hp) (a : Addr) (y : V) (o : Option V) : Prop :=
  (∃ us k, H a = some (.dK us) ∧ y = kV k ∧ o = valV us k) ∨
  (∃ k b, H a = some (.dK []) ∧ y = .ref b ∧ NV K H k (.ref b) ∧ k.depth ≤ 8 ∧ o = none) ∨
  (∃ xs k b, H a = some (.ext (DObj K.w a xs)) ∧ y = .ref b ∧ NV K H k (.ref b) ∧ k.depth ≤ 8 ∧ (∀ x ∈ xs, NV K H x.1 (.ref x.2.1) ∧ x.1.depth ≤ 8) ∧ o = (xs.find? fun x => decide (x.1 = k)).map (·.2.2))
theorem keyD_inj {a b : Key} (h : keyD a = keyD b) : a = b := by
  cases a <;> cases b <;> simp [keyD] at h
  · rw [h]
  · rename_i x y
    have : x = y := by
      cases x; cases y
      simp only [PySem.Str.mk.injEq]
      exact h
    rw [this]
theorem flatK_of {K : PySem.W.Frag} {m : List Addr} {H : Hp} {k : D} {v : V} (h : k.flatK = true) (r : RD K m H k v) : ∃ q : Key, k = keyD q ∧ v = kV q := by
  cases r with
  | int i => exact ⟨.inl i, rfl, rfl⟩
  | str x => exact ⟨.inr ⟨x.toArray⟩, by simp [keyD], rfl⟩
  | _ => cases h
theorem tupQ_of {K : PySem.W.Frag} {m : List Addr} {H : Hp} {k : D} {v : V} (h : k.tupQ = true) (r : RD K m H k v) : ∃ b, v = .ref b ∧ NV K H k.nk (.ref b) ∧ k.nk.depth ≤ 8 := by
  cases r with
  | tup s rs =>
    obtain ⟨z1, z2⟩ := nv_of 8 _ _ h (.tup s rs)
    exact ⟨_, rfl, z1, z2⟩
  | _ => cases h
/-- a found value and its value -/
def OptR (K : PySem.W.Frag) (m : List Addr) (H : Hp) (o : Option D) (u : Option V) : Prop := match o, u with
  | none, none => True
  | some d, some v => RD K m H d v
  | _, _ => False
section
variable {K : PySem.W.Frag} {m : List Addr} {H : Hp}
theorem get1 {kvs : List (D × D)} {us : List (Key × V)} (r : DRel1 K m H kvs us) (k : Key) : OptR K m H (dGet kvs (keyD k)) (valV us k) := by
  unfold dGet valV
  induction r with
  | nil => exact True.intro
  | @cons p q ps qs h t ih =>
    obtain ⟨h1, h2⟩ := h
    by_cases e : q.1 = k
    · rw [List.find?_cons_of_pos (by simp [h1, e]), List.find?_cons_of_pos (by simp [e])]
      exact h2
    · rw [List.find?_cons_of_neg (by simp only [h1, decide_eq_true_eq]; exact fun z => e (keyD_inj z)), List.find?_cons_of_neg (by simpa using e)]
      exact ih
theorem tupQ_plain {d : D} (h : d.tupQ = true) : d.plain 8 = true := by
  cases d <;> first | exact h | cases h
theorem get2 {kvs : List (D × D)} {xs : List (NestedKey × Addr × V)} (r : DRel2 K m H kvs xs) {k : D} (hk : k.tupQ = true) : OptR K m H (dGet kvs k) ((xs.find? fun x => decide (x.1 = k.nk)).map (·.2.2)) := by
  unfold dGet
  induction r with
  | nil => exact True.intro
  | @cons p q ps qs h t ih =>
    obtain ⟨h1, h2, h3, h4⟩ := h
    by_cases e : p.1 = k
    · rw [List.find?_cons_of_pos (by simp [e]), List.find?_cons_of_pos (by simp [h2, e])]
      exact h4
    · rw [List.find?_cons_of_neg (by simpa using e), List.find?_cons_of_neg (by simp only [h2, decide_eq_true_eq]; exact fun z => e (nk_inj 8 _ _ (tupQ_plain h1) (tupQ_plain hk) z))]
      exact ih
theorem keys2 {kvs : List (D × D)} {xs : List (NestedKey × Addr × V)} (r : DRel2 K m H kvs xs) : ∀ x ∈ xs, NV K H x.1 (.ref x.2.1) ∧ x.1.depth ≤ 8 := by
  induction r with
  | nil => exact fun _ h => nomatch h
  | @cons p q ps qs h t ih =>
    intro x hx
    obtain ⟨h1, h2, h3, h4⟩ := h
    rcases List.mem_cons.mp hx with rfl | hx
    · obtain ⟨b, e, z1, z2⟩ := tupQ_of h1 h3
      cases e
      rw [h2]
      exact ⟨z1, z2⟩
    · exact ih x hx
theorem not_both {d : D} (h1 : d.flatK = true) (h2 : d.tupQ = true) : False := by cases d <;> simp [D.flatK, D.tupQ] at h1 h2
end
theorem dg_of {K : KW} {m : List Addr} {H : Hp} {a : Addr} {kvs : List (D × D)} {k : D} {v : V} (c : RC K m H a (.dct kvs)) (r : RD K m H k v) (f : keyFit kvs k = true) : ∃ o, DG K H a v o ∧ OptR K m H (dGet kvs k) o := by
  unfold keyFit at f
  rw [Bool.or_eq_true, Bool.and_eq_true, Bool.and_eq_true] at f
  rcases c with ⟨us, e, q⟩ | ⟨xs, e, ne, q⟩
  · rcases f with ⟨f1, _⟩ | ⟨f1, f2⟩
    · obtain ⟨y, rfl, rfl⟩ := flatK_of f1 r
      exact ⟨_, .inl ⟨us, y, e, rfl, rfl⟩, get1 q y⟩
    · cases q with
      | nil =>
        obtain ⟨b, rfl, z1, z2⟩ := tupQ_of f1 r
        exact ⟨none, .inr (.inl ⟨_, b, e, rfl, z1, z2, rfl⟩), True.intro⟩
      | @cons p u ps us h t =>
        rw [List.all_cons, Bool.and_eq_true] at f2
        obtain ⟨h1, _⟩ := h
        rw [h1] at f2
        cases hu : u.1 <;> rw [hu] at f2 <;> exact absurd f2.1 (by simp [keyD, D.tupQ])
  · rcases f with ⟨f1, f2⟩ | ⟨f1, _⟩
    · cases q with
      | nil => exact absurd rfl ne
      | @cons p u ps us h t =>
        rw [List.all_cons, Bool.and_eq_true] at f2
        exact (not_both f2.1 h.1).elim
    · obtain ⟨b, rfl, z1, z2⟩ := tupQ_of f1 r
      exact ⟨_, .inr (.inr ⟨xs, _, b, e, rfl, z1, z2, keys2 q, rfl⟩), get2 q f1⟩

/-! ### the operations -/
theorem paired_find {k : NestedKey} : ∀ {xs : List (NestedKey × Addr × V)} {zs : List (NestedKey × Addr × Value)}, Paired (fun p q => p.1 = q.1 ∧ p.2.1 = q.2.1 ∧ RelV p.2.2 q.2.2) xs zs → RelO ((xs.find? fun x => decide (x.1 = k)).map (·.2.2)) ((atKey zs k).map (·.2))
  | _, _, .nil => True.intro
  | _, _, .cons (a := p) (b := q) h t => by
    have ih := paired_find (k := k) t
    unfold atKey at ih ⊢
    by_cases e : p.1 = k
    · rw [List.find?_cons_of_pos (by simp [e]), List.find?_cons_of_pos (by simp [← h.1, e])]
      exact h.2.2
    · rw [List.find?_cons_of_neg (by simpa using e), List.find?_cons_of_neg (by simpa [← h.1] using e)]
      exact ih
theorem paired_is {P : Program} {w : World} {h : Heap} : ∀ {xs : List (NestedKey × Addr × V)} {zs : List (NestedKey × Addr × Value)}, Paired (fun p q => p.1 = q.1 ∧ p.2.1 = q.2.1 ∧ RelV p.2.2 q.2.2) xs zs → (∀ x ∈ xs, (nestedKind P w).is h x.1 x.2.1) → ∀ z ∈ zs, (nestedKind P w).is h z.1 z.2.1
  | _, _, .nil, _ => fun _ h => nomatch h
  | _, _, .cons (a := p) (b := q) r t, hs => fun z hz => by
    rcases List.mem_cons.mp hz with rfl | hz
    · rw [← r.1, ← r.2.1]
      exact hs p (List.mem_cons_self ..)
    · exact paired_is t (fun x hx => hs x (List.mem_cons_of_mem _ hx)) z hz
section
variable {X : Cx} {pins : List (Addr × Obj)} {σ : L2.St} {H : Hp} {s : Shared} {a : Addr} {y v : V} {u r : Value} {o : Option V} {A : Around} {E : Value → Shared → Prop}
/-- a dict of tuple keys, as the library tells it -/
theorem dobj_at {xs : List (NestedKey × Addr × V)} (I : Inv X pins σ H s) (e : H a = some (.ext (DObj X.kw.w a xs))) (hx : ∀ x ∈ xs, NV X.K H x.1 (.ref x.2.1) ∧ x.1.depth ≤ 8) :
    (a == sysModules) = false ∧ xs.length ≤ sizeLine ∧ ∃ zs, Paired (fun p q => p.1 = q.1 ∧ p.2.1 = q.2.1 ∧ RelV p.2.2 q.2.2) xs zs ∧ s.heap.DictOfH (nestedKind X.prog X.w) a zs := by
  obtain ⟨⟨hd, hz, zs, rel, ob, es, ep, h1, h2, h3, h4, h5⟩, _, _⟩ := (show ObjOk X.prog X.w H s.heap a (.ext (DObj X.w a xs)) from I.hok a _ e)
  exact ⟨hd, hz, zs, rel, ob, es, ep, h1, h2, h3, h4, paired_is rel fun x hm => ⟨nv_is I (hx x hm).1 rfl, (hx x hm).2⟩, h5⟩
theorem dk_empty_at (I : Inv X pins σ H s) (e : H a = some (.dK [])) : (a == sysModules) = false ∧ s.heap.DictOfH (nestedKind X.prog X.w) a [] := by
  obtain ⟨_, hd, vs, rel, dd⟩ := dk_of I.hok e
  cases rel
  obtain ⟨ob, es, ep, h1, h2, h3, _, h5, _⟩ := dd
  have z : es.toList = [] := by
    generalize es.toList = l at h5
    cases h5
    rfl
  exact ⟨hd, ob, es, ep, h1, h2, h3, by rw [z]; rfl, (fun _ h => nomatch h), by simp⟩
theorem nroom (hu : A.units + 10 < cLine) : (nestedKind X.prog X.w).room A.in1 := by
  show A.units + 1 + 8 < cLine
  omega
/-- d[y], there -/
theorem dg_getItem {Q : Value → Shared → Prop} (hu : A.units + 10 < cLine) (I : Inv X pins σ H s) (g : DG X.kw H a y (some v)) (ry : RelV y u) (h : ∀ w' s', Inv X pins σ H s' → RelV v w' → Q w' s') :
    wpAny (model X.prog X.w) A (getItem (.ref a) u) Q E s := by
  rcases g with ⟨us, k, e, ey, l⟩ | ⟨k, b, e, ey, n, dp, l⟩ | ⟨xs, k, b, e, ey, n, dp, hx, l⟩
  · exact d_getItem (by omega) I (.inl ⟨us, k, .inl e, ey, l⟩) ry h
  · cases l
  · subst ey
    cases (show u = Value.ref b from ry)
    obtain ⟨hd, hz, zs, rel, dd⟩ := dobj_at I e hx
    obtain ⟨w', hw, rw'⟩ := RelO.some_of (v := v) (o := (atKey zs k).map (·.2)) (by rw [l]; exact paired_find rel)
    obtain ⟨p, hp, hp2⟩ := Option.map_eq_some_iff.mp hw
    refine wpAny_getItem_heap (nroom hu) ⟨nv_is I n rfl, dp⟩ dd hp ?_
    rw [hp2]
    exact h w' _ (I.tok _) rw'
theorem dg_in {Q : Value → Shared → Prop} (hu : A.units + 10 < cLine) (I : Inv X pins σ H s) (g : DG X.kw H a y o) (ry : RelV y u) (h : ∀ s', Inv X pins σ H s' → Q (.bool o.isSome) s') :
    wpAny (model X.prog X.w) A (compareOp .In u (.ref a)) Q E s := by
  rcases g with ⟨us, k, e, ey, l⟩ | ⟨k, b, e, ey, n, dp, l⟩ | ⟨xs, k, b, e, ey, n, dp, hx, l⟩
  · exact d_in (by omega) I (.inl ⟨us, k, .inl e, ey, l⟩) ry h
  · subst ey l
    cases (show u = Value.ref b from ry)
    obtain ⟨hd, dd⟩ := dk_empty_at I e
    exact wpAny_in_heap (nroom hu) ⟨nv_is I n rfl, dp⟩ hd dd (h _ (I.tok _))
  · subst ey
    cases (show u = Value.ref b from ry)
    obtain ⟨hd, hz, zs, rel, dd⟩ := dobj_at I e hx
    refine wpAny_in_heap (nroom hu) ⟨nv_is I n rfl, dp⟩ hd dd ?_
    have q := (paired_find (k := k) rel).isSome_eq
    rw [Option.isSome_map (x := atKey zs k)] at q
    rw [← q, ← l]
    exact h _ (I.tok _)
theorem dg_notIn {Q : Value → Shared → Prop} (hu : A.units + 10 < cLine) (I : Inv X pins σ H s) (g : DG X.kw H a y o) (ry : RelV y u) (h : ∀ s', Inv X pins σ H s' → Q (.bool (!o.isSome)) s') :
    wpAny (model X.prog X.w) A (compareOp .NotIn u (.ref a)) Q E s := by
  rcases g with ⟨us, k, e, ey, l⟩ | ⟨k, b, e, ey, n, dp, l⟩ | ⟨xs, k, b, e, ey, n, dp, hx, l⟩
  · exact d_notIn (by omega) I (.inl ⟨us, k, .inl e, ey, l⟩) ry h
  · subst ey l
    cases (show u = Value.ref b from ry)
    obtain ⟨hd, dd⟩ := dk_empty_at I e
    exact wpAny_notIn_heap (nroom hu) ⟨nv_is I n rfl, dp⟩ hd dd (h _ (I.tok _))
  · subst ey
    cases (show u = Value.ref b from ry)
    obtain ⟨hd, hz, zs, rel, dd⟩ := dobj_at I e hx
    refine wpAny_notIn_heap (nroom hu) ⟨nv_is I n rfl, dp⟩ hd dd ?_
    have q := (paired_find (k := k) rel).isSome_eq
    rw [Option.isSome_map (x := atKey zs k)] at q
    rw [← q, ← l]
    exact h _ (I.tok _)
/-- d.get(y), d.get(y, x) -/
theorem dg_get1 {Q : Value → Shared → Prop} (hu : A.units + 10 < cLine) (I : Inv X pins σ H s) (g : DG X.kw H a y o) (ry : RelV y u) (h : ∀ w' s', Inv X pins σ H s' → RelV (o.getD .non) w' → Q w' s') :
    wpAny (model X.prog X.w) A (call (.builtin "dict.get") [.ref a, u]) Q E s := by
  rcases g with ⟨us, k, e, ey, l⟩ | ⟨k, b, e, ey, n, dp, l⟩ | ⟨xs, k, b, e, ey, n, dp, hx, l⟩
  · exact d_get1 (by omega) I (.inl ⟨us, k, .inl e, ey, l⟩) ry h
  · subst ey l
    cases (show u = Value.ref b from ry)
    obtain ⟨hd, dd⟩ := dk_empty_at I e
    exact call_meetsIn PySem.F.slot_dict_get dd.typeIs PySem.F.entry_dict_get (PySem.F.args_dict_get_2 _ _) (meetsH_dict_get (nestedKind X.prog X.w) a b hd) ⟨nroom hu, k, [], ⟨nv_is I n rfl, dp⟩, dd, h _ _ (I.tok _) rfl⟩
  · subst ey
    cases (show u = Value.ref b from ry)
    obtain ⟨hd, hz, zs, rel, dd⟩ := dobj_at I e hx
    refine call_meetsIn PySem.F.slot_dict_get dd.typeIs PySem.F.entry_dict_get (PySem.F.args_dict_get_2 _ _) (meetsH_dict_get (nestedKind X.prog X.w) a b hd) ⟨nroom hu, k, zs, ⟨nv_is I n rfl, dp⟩, dd, h _ _ (I.tok _) ?_⟩
    rw [l]
    exact (paired_find (k := k) rel).getD rfl
theorem dg_get2 {d : V} {Q : Value → Shared → Prop} (hu : A.units + 10 < cLine) (I : Inv X pins σ H s) (g : DG X.kw H a y o) (ry : RelV y u) (rd : RelV d r) (h : ∀ w' s', Inv X pins σ H s' → RelV (o.getD d) w' → Q w' s') :
    wpAny (model X.prog X.w) A (call (.builtin "dict.get") [.ref a, u, r]) Q E s := by
  rcases g with ⟨us, k, e, ey, l⟩ | ⟨k, b, e, ey, n, dp, l⟩ | ⟨xs, k, b, e, ey, n, dp, hx, l⟩
  · exact d_get2 (by omega) I (.inl ⟨us, k, .inl e, ey, l⟩) ry rd h
  · subst ey l
    cases (show u = Value.ref b from ry)
    obtain ⟨hd, dd⟩ := dk_empty_at I e
    exact call_meetsIn PySem.F.slot_dict_get dd.typeIs PySem.F.entry_dict_get (PySem.F.args_dict_get_3 _ _ _) (meetsH_dict_get_default (nestedKind X.prog X.w) a b hd r) ⟨nroom hu, k, [], ⟨nv_is I n rfl, dp⟩, dd, h _ _ (I.tok _) rd⟩
  · subst ey
    cases (show u = Value.ref b from ry)
    obtain ⟨hd, hz, zs, rel, dd⟩ := dobj_at I e hx
    refine call_meetsIn PySem.F.slot_dict_get dd.typeIs PySem.F.entry_dict_get (PySem.F.args_dict_get_3 _ _ _) (meetsH_dict_get_default (nestedKind X.prog X.w) a b hd r) ⟨nroom hu, k, zs, ⟨nv_is I n rfl, dp⟩, dd, h _ _ (I.tok _) ?_⟩
    rw [l]
    exact (paired_find (k := k) rel).getD rd
end
/-! ### d[y] = v -/
def putX (xs : List (NestedKey × Addr × V)) (k : NestedKey) (b : Addr) (v : V) : List (NestedKey × Addr × V) := if (xs.any fun x => decide (x.1 = k)) then xs.map (fun x => if x.1 = k then (x.1, x.2.1, v) else x) else xs ++ [(k, b, v)]
theorem paired_any {k : NestedKey} : ∀ {xs : List (NestedKey × Addr × V)} {zs : List (NestedKey × Addr × Value)}, Paired (fun p q => p.1 = q.1 ∧ p.2.1 = q.2.1 ∧ RelV p.2.2 q.2.2) xs zs → (xs.any fun x => decide (x.1 = k)) = (atKey zs k).isSome
  | _, _, .nil => rfl
  | _, _, .cons (a := p) (b := q) h t => by
    have ih := paired_any (k := k) t
    unfold atKey at ih ⊢
    rw [List.any_cons, ih]
    by_cases e : p.1 = k
    · rw [List.find?_cons_of_pos (by simp [← h.1, e])]
      simp [e]
    · rw [List.find?_cons_of_neg (by simpa [← h.1] using e)]
      simp [e]
theorem paired_map {k : NestedKey} {v : V} {r : Value} (rv : RelV v r) : ∀ {xs : List (NestedKey × Addr × V)} {zs : List (NestedKey × Addr × Value)}, Paired (fun p q => p.1 = q.1 ∧ p.2.1 = q.2.1 ∧ RelV p.2.2 q.2.2) xs zs → Paired (fun p q => p.1 = q.1 ∧ p.2.1 = q.2.1 ∧ RelV p.2.2 q.2.2) (xs.map (fun x => if x.1 = k then (x.1, x.2.1, v) else x)) (zs.map (putAt k r))
  | _, _, .nil => .nil
  | _, _, .cons (a := p) (b := q) h t => by
    refine .cons ?_ (paired_map rv t)
    unfold putAt
    simp only []
    by_cases e : p.1 = k
    · rw [if_pos e, if_pos (by rw [← h.1]; exact e)]
      exact ⟨h.1, h.2.1, rv⟩
    · rw [if_neg e, if_neg (by rw [← h.1]; exact e)]
      exact h
theorem paired_put {k : NestedKey} {b : Addr} {v : V} {r : Value} (rv : RelV v r) {xs : List (NestedKey × Addr × V)} {zs : List (NestedKey × Addr × Value)} (rel : Paired (fun p q => p.1 = q.1 ∧ p.2.1 = q.2.1 ∧ RelV p.2.2 q.2.2) xs zs) :
    Paired (fun p q => p.1 = q.1 ∧ p.2.1 = q.2.1 ∧ RelV p.2.2 q.2.2) (putX xs k b v) (storedH zs k b r) := by
  unfold putX storedH
  rw [paired_any rel]
  by_cases e : (atKey zs k).isSome = true
  · rw [if_pos e, if_pos e]
    exact paired_map rv rel
  · rw [if_neg e, if_neg e]
    exact Paired.snoc rel ⟨rfl, rfl, rv⟩
theorem putX_len {xs : List (NestedKey × Addr × V)} {k : NestedKey} {b : Addr} {v : V} : (putX xs k b v).length ≤ xs.length + 1 := by
  unfold putX
  split <;> simp
/-- the heap behind a[y] = v -/
def DP (K : KW) (H : Hp) (a : Addr) (y v : V) (H' : Hp) : Prop :=
  (∃ us k, H a = some (.dK us) ∧ y = kV k ∧ us.length < sizeLine ∧ H' = upd H a (.dK (putK us k v))) ∨
  (∃ k b, H a = some (.dK []) ∧ y = .ref b ∧ NV K H k (.ref b) ∧ k.depth ≤ 8 ∧ H' = upd H a (.ext (DObj K.w a [(k, b, v)]))) ∨
  (∃ xs k b, H a = some (.ext (DObj K.w a xs)) ∧ y = .ref b ∧ NV K H k (.ref b) ∧ k.depth ≤ 8 ∧ (∀ x ∈ xs, NV K H x.1 (.ref x.2.1) ∧ x.1.depth ≤ 8) ∧ xs.length < sizeLine ∧ H' = upd H a (.ext (DObj K.w a (putX xs k b v))))
theorem dobj_ok {P : Program} {w : World} {a : Addr} {xs : List (NestedKey × Addr × V)} {H' : Hp} {h' : Heap} {zs : List (NestedKey × Addr × Value)} (hd : (a == sysModules) = false) (hz : xs.length ≤ sizeLine) (rel : Paired (fun p q => p.1 = q.1 ∧ p.2.1 = q.2.1 ∧ RelV p.2.2 q.2.2) xs zs)
    (dd : h'.DictOfH (nestedKind P w) a zs) : ObjOk P w H' h' a (.ext (DObj w a xs)) := by
  obtain ⟨ob, es, ep, h1, h2, h3, h4, _, h5⟩ := dd
  refine ⟨⟨hd, hz, zs, rel, ob, es, ep, h1, h2, h3, h4, h5⟩, ⟨ob, h1⟩, fun g1 g2 ⟨_, _, zs', rel', ob', es', ep', h1', r'⟩ st => ⟨hd, hz, zs', rel', ob', es', ep', st _ h1', r'⟩⟩
section
variable {X : Cx} {pins : List (Addr × Obj)} {σ : L2.St} {H H' : Hp} {s : Shared} {a : Addr} {y v : V} {u r : Value} {A : Around} {E : Value → Shared → Prop}
theorem dg_set {Q : Unit → Shared → Prop} (hu : A.units + 10 < cLine) (I : Inv X pins σ H s) (g : DP X.kw H a y v H') (ry : RelV y u) (rv : RelV v r) (h : ∀ s', Inv X pins σ H' s' → Q () s') :
    wpAny (model X.prog X.w) A (setItem (.ref a) u r) Q E s := by
  rcases g with ⟨us, k, e, ey, l, eH⟩ | ⟨k, b, e, ey, n, dp, eH⟩ | ⟨xs, k, b, e, ey, n, dp, hx, l, eH⟩
  · exact d_setItem (by omega) I (.inl ⟨us, k, e, ey, l, eH⟩) ry rv h
  · subst ey eH
    cases (show u = Value.ref b from ry)
    obtain ⟨hd, dd⟩ := dk_empty_at I e
    refine wpAny_setItem_heap (hsz := Nat.zero_le _) (nroom hu) ⟨nv_is I n rfl, dp⟩ dd fun h' dd' hs => h _ ?_
    have he : ∃ q, h'.get? a = some q := let ⟨q, _, _, hq, _⟩ := dd'; ⟨q, hq⟩
    refine d_write I (by rw [e]; exact True.intro) hs he (dobj_ok hd (by rw [PySem.sizeLine_eq]; show 1 ≤ _; omega) ?_ dd')
    exact .cons ⟨rfl, rfl, rv⟩ .nil
  · subst ey eH
    cases (show u = Value.ref b from ry)
    obtain ⟨hd, hz, zs, rel, dd⟩ := dobj_at I e hx
    refine wpAny_setItem_heap (hsz := by rw [← Paired.length rel]; exact hz) (nroom hu) ⟨nv_is I n rfl, dp⟩ dd fun h' dd' hs => h _ ?_
    have he : ∃ q, h'.get? a = some q := let ⟨q, _, _, hq, _⟩ := dd'; ⟨q, hq⟩
    exact d_write I (by rw [e]; exact True.intro) hs he (dobj_ok hd (by have := putX_len (xs := xs) (k := k) (b := b) (v := v); omega) (paired_put rv rel) dd')
end

/-! ### the store's side -/
theorem dp_of {K : KW} {m : List Addr} {st : Store} {H : Hp} {n : Nat} {kvs : List (D × D)} {k d : D} {y v : V} {a : Addr} (hS : SS K m st H) (hk : dctAt st n = some kvs) (hn : m[n]? = some a) (rk : RD K m H k y) (rv : RD K m H d v) (f : keyFit kvs k = true) (hl : kvs.length < 16777216) :
    ∃ H', DP K H a y v H' ∧ Ext K m H m H' ∧ SS K m (st.set n (.dct (dPut kvs k d))) H' := by
  have c := hS.dict hk hn
  have f' := f
  unfold keyFit at f'
  rw [Bool.or_eq_true, Bool.and_eq_true, Bool.and_eq_true] at f'
  rcases c with ⟨us, e, q⟩ | ⟨xs, e, ne, q⟩
  · have mu : Mut (H a) := by rw [e]; exact True.intro
    rcases f' with ⟨f1, _⟩ | ⟨f1, f2⟩
    · obtain ⟨w, rfl, rfl⟩ := flatK_of f1 rk
      refine ⟨_, .inl ⟨us, w, e, rfl, below_line (by rw [← Paired.length q]; exact hl), rfl⟩, Ext.writeM mu hn, hS.writeM mu hn (.inl ⟨_, upd_same, ?_⟩)⟩
      have kp : ∀ o : HO, Kp K m H m (upd H a o) := fun _ => Kp.writeM mu
      unfold dPut putK
      have ea : (dGet kvs (keyD w)).isSome = (us.any fun kv => decide (kv.1 = w)) := by
        have z := get1 q w
        rw [valV_any]
        cases h1 : dGet kvs (keyD w) <;> cases h2 : valV us w <;> rw [h1, h2] at z <;> first | rfl | exact z.elim
      rw [ea]
      split
      · have go : ∀ {kvs us}, DRel1 K m H kvs us → Paired (fun (p : D × D) (q : Key × V) => p.1 = keyD q.1 ∧ RD K m H p.2 q.2) (kvs.map fun p => if p.1 = keyD w then (p.1, d) else p) (us.map fun kv => if kv.1 = w then (kv.1, v) else kv) := fun {kvs us} r => by
          induction r with
          | nil => exact .nil
          | @cons p u ps us h t ih =>
            refine .cons ?_ ih
            simp only []
            by_cases e : u.1 = w
            · rw [if_pos e, if_pos (by rw [h.1, e])]
              exact ⟨h.1, rv⟩
            · rw [if_neg e, if_neg (by rw [h.1]; exact fun z => e (keyD_inj z))]
              exact h
        exact DRel1.kp (go q) (kp _)
      · exact DRel1.kp (Paired.snoc q ⟨rfl, rv⟩) (kp _)
    · have hnil : kvs = [] ∧ us = [] := by
        cases q with
        | nil => exact ⟨rfl, rfl⟩
        | @cons p u ps us h t =>
          rw [List.all_cons, Bool.and_eq_true] at f2
          obtain ⟨h1, _⟩ := h
          rw [h1] at f2
          cases hu : u.1 <;> rw [hu] at f2 <;> exact absurd f2.1 (by simp [keyD, D.tupQ])
      obtain ⟨rfl, rfl⟩ := hnil
      obtain ⟨b, rfl, z1, z2⟩ := tupQ_of f1 rk
      refine ⟨_, .inr (.inl ⟨k.nk, b, e, rfl, z1, z2, rfl⟩), Ext.writeM mu hn, hS.writeM mu hn (.inr ⟨_, upd_same, by simp, ?_⟩)⟩
      have kp : ∀ o : HO, Kp K m H m (upd H a o) := fun _ => Kp.writeM mu
      have e0 : dPut [] k d = [(k, d)] := rfl
      rw [e0]
      exact .cons ⟨f1, rfl, rk.kp (kp _), rv.kp (kp _)⟩ .nil
  · have mu : Mut (H a) := by rw [e]; exact True.intro
    rcases f' with ⟨f1, f2⟩ | ⟨f1, _⟩
    · cases q with
      | nil => exact absurd rfl ne
      | @cons p u ps us h t =>
        rw [List.all_cons, Bool.and_eq_true] at f2
        exact (not_both f2.1 h.1).elim
    · obtain ⟨b, rfl, z1, z2⟩ := tupQ_of f1 rk
      refine ⟨_, .inr (.inr ⟨xs, k.nk, b, e, rfl, z1, z2, keys2 q, below_line (by rw [← Paired.length q]; exact hl), rfl⟩), Ext.writeM mu hn, hS.writeM mu hn (.inr ⟨_, upd_same, ?_, ?_⟩)⟩
      · unfold putX
        split
        · intro z
          exact ne (List.map_eq_nil_iff.mp z)
        · simp
      · have kp : ∀ o : HO, Kp K m H m (upd H a o) := fun _ => Kp.writeM mu
        unfold dPut putX
        have ea : (dGet kvs k).isSome = (xs.any fun x => decide (x.1 = k.nk)) := by
          have z := get2 q f1
          have z2 : (xs.any fun x => decide (x.1 = k.nk)) = ((xs.find? fun x => decide (x.1 = k.nk)).map (·.2.2)).isSome := by
            rw [Option.isSome_map, Bool.eq_iff_iff, List.find?_isSome]
            simp
          rw [z2]
          cases h1 : dGet kvs k <;> cases h2 : (xs.find? fun x => decide (x.1 = k.nk)).map (·.2.2) <;> rw [h1, h2] at z <;> first | rfl | exact z.elim
        rw [ea]
        split
        · have go : ∀ {kvs xs}, DRel2 K m H kvs xs → DRel2 K m H (kvs.map fun p => if p.1 = k then (p.1, d) else p) (xs.map fun x => if x.1 = k.nk then (x.1, x.2.1, v) else x) := fun {kvs xs} r => by
            induction r with
            | nil => exact .nil
            | @cons p u ps us h t ih =>
              refine .cons ?_ ih
              simp only []
              by_cases e : p.1 = k
              · rw [if_pos e, if_pos (by rw [h.2.1, e])]
                exact ⟨h.1, h.2.1, h.2.2.1, rv⟩
              · rw [if_neg e, if_neg (by rw [h.2.1]; exact fun z => e (nk_inj 8 _ _ (tupQ_plain h.1) (tupQ_plain f1) z))]
                exact h
          exact DRel2.kp (go q) (kp _)
        · exact DRel2.kp (Paired.snoc q ⟨f1, rfl, rk, rv⟩) (kp _)
/-! ### {}, d[k], k in d, d[k] = v, len(d) -/
section
variable {X : Cx} {W : WX} {e o a b c : Expr} {es : List Expr} {pos p : Pos} {f fo fa fb fe fi : EM D} {fs : EM (List D)}
def eDct : EM D := fun _ st => .ok (.ref st.length) (st ++ [.dct []])
theorem ex_dct : Ex X W (.Dict [] [] pos) eDct := ⟨fun m τ st σ H Q hL hS hP pins s I => pe_dnewK.run pins s σ H Q I fun p hp => by
  refine hP (m ++ [p]) _ _ (Ext.app hp) (hS.app hp (.inl ⟨[], upd_same, .nil⟩)) (.ref ?_)
  rw [← hS.len]
  simp⟩
def rDG (K : KW) : R2 := fun x y H Q => ∃ a v, x = .ref a ∧ DG K H a y (some v) ∧ Q v H
theorem dg_typeIs {pins : List (Addr × Obj)} {σ : L2.St} {H : Hp} {s : Shared} {a : Addr} {y : V} {o : Option V} (I : Inv X pins σ H s) (g : DG X.kw H a y o) : s.TypeIs (.ref a) "dict" := by
  rcases g with ⟨us, k, e, ey, l⟩ | ⟨k, b, e, ey, n, dp, l⟩ | ⟨xs, k, b, e, ey, n, dp, hx, l⟩
  · obtain ⟨_, _, vs, _, dd⟩ := dk_of I.hok e
    exact dd.typeIs
  · exact (dk_empty_at I e).2.typeIs
  · obtain ⟨_, _, zs, _, dd⟩ := dobj_at I e hx
    exact dd.typeIs
theorem ix_dg (hu : X.A.units + 10 < cLine) : IxR X (rDG X.kw) := by
  intro value slice pins s σ H x y v u Q I rx ry h hs
  obtain ⟨a, z, rfl, g, q⟩ := h
  cases (show v = Value.ref a from rx)
  exact tail_any (dg_typeIs I g) PySem.F.slot_dict_getitem.lookup (dg_getItem hu I g ry fun w' s' I' rw' => ⟨z, H, I', rw', q⟩) hs
theorem get_dg (hu : X.A.units + 10 < cLine) : PGet X (rDG X.kw) := by
  intro pins s σ H x y v u Q I rx ry h
  obtain ⟨a, z, rfl, g, q⟩ := h
  cases (show v = Value.ref a from rx)
  exact dg_getItem hu I g ry fun w' s' I' rw' => ⟨z, H, I', rw', q⟩
def oIx : O2 := fun x y st => match x with
  | .ref n => match dctAt st n with
    | some kvs => if keyFit kvs y then match dGet kvs y with
        | some d => .ok d st
        | none => .bad
      else .bad
    | none => oIxS x y st
  | _ => oIxS x y st
theorem dg_some {m : List Addr} {st : Store} {H : Hp} {n : Nat} {kvs : List (D × D)} {dy d : D} {vx vy : V} {E : XK} {Q : VK} (hS : SS X.kw m st H) (hk : dctAt st n = some kvs) (rx : RD X.K m H (.ref n) vx) (ry : RD X.K m H dy vy) (f : keyFit kvs dy = true) (hd : dGet kvs dy = some d)
    (hP : Pe X.kw E (RD X.K) m H (.ok d st) Q) : rDG X.kw vx vy H Q := by
  cases rx with
  | ref q =>
    obtain ⟨o, g, r⟩ := dg_of (hS.dict hk q) ry f
    rw [hd] at r
    cases o with
    | none => exact r.elim
    | some v => exact ⟨_, v, rfl, g, hP.now hS r⟩
theorem m_ix (hu : X.A.units + 65 < cLine) : IxM X W oIx := by
  obtain ⟨r, hr, h⟩ := m_ixS (X := X) (W := W)
  refine ⟨_, hr.or (ix_dg (by omega)), fun m st H dx dy x y E Q hS r1 r2 hP => ?_⟩
  unfold oIx at hP
  split at hP
  · split at hP
    · rename_i kvs hk
      split at hP
      · rename_i f
        split at hP
        · rename_i d hd
          exact .inr (dg_some hS hk r1 r2 f hd hP)
        · exact hP.elim
      · exact hP.elim
    · exact .inl (h m st H _ dy x y E Q hS r1 r2 hP)
  · exact .inl (h m st H dx dy x y E Q hS r1 r2 hP)
/-! in -/
def dIn (x y : D) (st : Store) : Option Bool := match y with
  | .ref n => match dctAt st n with
    | some kvs => if keyFit kvs x then some (dGet kvs x).isSome else none
    | none => dInS x y st
  | _ => dInS x y st
def oIn : O2 := fun x y st => match dIn x y st with
  | some b => .ok (.bl b) st
  | none => .bad
def oNotIn : O2 := fun x y st => match dIn x y st with
  | some b => .ok (.bl !b) st
  | none => .bad
theorem optR_some {K : PySem.W.Frag} {m : List Addr} {H : Hp} {o : Option D} {u : Option V} (r : OptR K m H o u) : o.isSome = u.isSome := by
  cases o <;> cases u <;> first | rfl | exact r.elim
theorem m_in (hu : X.A.units + 65 < cLine) : OpM X W (compareOp .In) oIn := fun m st σ H dx dy x y Q hS r1 r2 hP pins s v u I rx ry => by
  have old := fun hP => m_inS (W := W) hu m st σ H dx dy x y Q hS r1 r2 hP pins s v u I rx ry
  unfold oIn dIn at hP
  unfold oInS at old
  cases dy with
  | ref n =>
    simp only at hP
    cases hk : dctAt st n with
    | some kvs =>
      rw [hk] at hP
      simp only at hP
      by_cases f : keyFit kvs dx = true
      · rw [if_pos f] at hP
        cases r2 with
        | ref q =>
          obtain ⟨o, g, r⟩ := dg_of (hS.dict hk q) r1 f
          cases (show u = Value.ref _ from ry)
          refine dg_in (by omega) I g rx fun s' I' => ⟨.bl o.isSome, H, I', rfl, ?_⟩
          rw [← optR_some r]
          exact hP.now hS (.bl _)
      · rw [if_neg f] at hP
        exact hP.elim
    | none =>
      rw [hk] at hP
      exact old hP
  | _ => exact old hP
theorem m_notin (hu : X.A.units + 65 < cLine) : OpM X W (compareOp .NotIn) oNotIn := fun m st σ H dx dy x y Q hS r1 r2 hP pins s v u I rx ry => by
  have old := fun hP => m_notinS (W := W) hu m st σ H dx dy x y Q hS r1 r2 hP pins s v u I rx ry
  unfold oNotIn dIn at hP
  unfold oNotInS at old
  cases dy with
  | ref n =>
    simp only at hP
    cases hk : dctAt st n with
    | some kvs =>
      rw [hk] at hP
      simp only at hP
      by_cases f : keyFit kvs dx = true
      · rw [if_pos f] at hP
        cases r2 with
        | ref q =>
          obtain ⟨o, g, r⟩ := dg_of (hS.dict hk q) r1 f
          cases (show u = Value.ref _ from ry)
          refine dg_notIn (by omega) I g rx fun s' I' => ⟨.bl (!o.isSome), H, I', rfl, ?_⟩
          rw [← optR_some r]
          exact hP.now hS (.bl _)
      · rw [if_neg f] at hP
        exact hP.elim
    | none =>
      rw [hk] at hP
      exact old hP
  | _ => exact old hP
/-! o[i] = v -/
def rSet (K : KW) : V → V → V → Hp → (Hp → Prop) → Prop := fun o i v H Q => rSetL o i v H Q ∨ ∃ a H', o = .ref a ∧ DP K H a i v H' ∧ Q H'
theorem set_any (hu : X.A.units + 10 < cLine) : PSet X (rSet X.kw) := by
  intro pins s σ H o i v ov iv u Q I ro ri rv h
  rcases h with h | ⟨a, H', rfl, g, q⟩
  · exact set_list pins s σ H o i v ov iv u Q I ro ri rv h
  · cases (show ov = Value.ref a from ro)
    exact dg_set hu I g ri rv fun s' I' => ⟨H', I', q⟩
def oSet : D → D → D → Store → Option Store := fun o i v st => match o with
  | .ref n => match dctAt st n with
    | some kvs => if keyFit kvs i && decide (kvs.length < 16777216) then some (st.set n (.dct (dPut kvs i v))) else none
    | none => oSetS o i v st
  | _ => oSetS o i v st
theorem set_read {K : KW} {m : List Addr} {st st' : Store} {H : Hp} {o i v : D} {vo vi vv : V} (hS : SS K m st H) (ro : RD K m H o vo) (ri : RD K m H i vi) (rv : RD K m H v vv) (h : oSet o i v st = some st') :
    ∃ H', Ext K m H m H' ∧ SS K m st' H' ∧ ∀ Q : Hp → Prop, Q H' → rSet K vo vi vv H Q := by
  have old : oSetS o i v st = some st' → ∃ H', Ext K m H m H' ∧ SS K m st' H' ∧ ∀ Q : Hp → Prop, Q H' → rSet K vo vi vv H Q := fun h => by
    obtain ⟨p, xs, k, j, q1, q2, q3, q4, q5, q6⟩ := set_readS hS ro ri rv h
    exact ⟨_, q5, q6, fun Q q => .inl ⟨p, xs, k, j, q1, q2, q3, q4, q⟩⟩
  unfold oSet at h
  cases o with
  | ref n =>
    simp only at h
    cases hk : dctAt st n with
    | some kvs =>
      rw [hk] at h
      simp only at h
      by_cases f : (keyFit kvs i && decide (kvs.length < 16777216)) = true
      · rw [if_pos f] at h
        cases h
        rw [Bool.and_eq_true, decide_eq_true_eq] at f
        cases ro with
        | ref q =>
          obtain ⟨H', g, e, s⟩ := dp_of hS hk q ri rv f.1 f.2
          exact ⟨H', e, s, fun Q z => .inr ⟨_, H', rfl, g, z⟩⟩
      · rw [if_neg f] at h
        cases h
    | none =>
      rw [hk] at h
      exact old h
  | _ => exact old h
def sSub (fo fi fe : EM D) : SM := fun τ st => bindE (fe τ st) τ fun v s1 => bindE (fo τ s1) τ fun o s2 => bindE (fi τ s2) τ fun i s3 => match oSet o i v s3 with
  | some s4 => .nx τ s4
  | none => .bad
theorem sx_sub {o i : Expr} {p' : Pos} {fo fi : EM D} (hu : X.A.units + 65 < cLine) (he : Ex X W e fe) (ho : Ex X W o fo) (hi : Ex X W i fi)
    (ha : ∀ v, assign (.Subscript o i p') X.env v = (do
      let ov ← holding [v] (eval o X.env)
      let iv ← holding [v, ov] (eval i X.env)
      standAt p'
      holding [v, ov, iv] (setItem ov iv v)
      release [v, ov, iv] []) := by intro _; rfl)
    (hs : swapsWithSole [.Subscript o i p'] e pos.line X.env = pure false := by rfl) (hw : swappedStores [.Subscript o i p'] e X.env = pure none := by rfl) (h1 : (assignEach [.Subscript o i p'] X.env).map (·.2) = [assign (.Subscript o i p') X.env] := by rfl) : Sx X W (.Assign [.Subscript o i p'] e pos) (sSub fo fi fe) := by
  refine ⟨fun m τ s σ H D hL hS hP pins sh I => (ps_asg peW (pg_sub peW peW (set_any (by omega)) ha) hs hw h1).run pins sh σ H D I ?_⟩
  refine he.run m τ s σ H _ hL hS (hP.bind hL fun v s1 m1 H1 vv e1 hS1 r1 hP1 => ?_)
  refine ho.run m1 τ s1 σ H1 _ (hL.mono e1) hS1 (hP1.bind (hL.mono e1) fun o s2 m2 H2 vo e2 hS2 r2 hP2 => ?_)
  refine hi.run m2 τ s2 σ H2 _ ((hL.mono e1).mono e2) hS2 (hP2.bind ((hL.mono e1).mono e2) fun i s3 m3 H3 vi e3 hS3 r3 hP3 => ?_)
  split at hP3
  · rename_i s4 h4
    obtain ⟨H4, q5, q6, q7⟩ := set_read hS3 (r2.mono e3) r3 ((r1.mono e2).mono e3) h4
    exact q7 _ (hP3 m3 _ σ q5 q6 ((((hL.mono e1).mono e2).mono e3).mono q5))
  · exact hP3.elim
/-! o[i] op= e -/
def oGetL : O2 := fun x i st => match x with
  | .ref n => match dctAt st n with
    | some kvs => if keyFit kvs i then match dGet kvs i with
        | some d => .ok d st
        | none => .bad
      else .bad
    | none => oGetLS x i st
  | _ => oGetLS x i st
def sAugS (o : O2) (fo fi fe : EM D) : SM := fun τ st => bindE (fo τ st) τ fun x s1 => bindE (fi τ s1) τ fun i s2 => bindE (oGetL x i s2) τ fun y s3 => bindE (fe τ s3) τ fun z s4 => bindE (o y z s4) τ fun v s5 => match oSet x i v s5 with
  | some s6 => .nx τ s6
  | none => .bad
def rGet (K : KW) : R2 := fun x y H Q => rIxL K x y H Q ∨ rDG K x y H Q
theorem get_any (hu : X.A.units + 10 < cLine) : PGet X (rGet X.kw) := by
  intro pins s σ H x y v u Q I rx ry h
  rcases h with h | h
  · exact get_list pins s σ H x y v u Q I rx ry h
  · exact get_dg hu pins s σ H x y v u Q I rx ry h
theorem getL_read {m : List Addr} {st : Store} {H : Hp} {x i : D} {vx vi : V} {E : XK} {Q : VK} (hS : SS X.kw m st H) (rx : RD X.K m H x vx) (ri : RD X.K m H i vi) (h : Pe X.kw E (RD X.K) m H (oGetL x i st) Q) : rGet X.kw vx vi H Q := by
  unfold oGetL at h
  split at h
  · split at h
    · rename_i kvs hk
      split at h
      · rename_i f
        split at h
        · rename_i d hd
          exact .inr (dg_some hS hk rx ri f hd h)
        · exact h.elim
      · exact h.elim
    · exact .inl (getL_readS hS rx ri h)
  · exact .inl (getL_readS hS rx ri h)
end
section
variable {X : Cx} {W : WX} {e o a b c : Expr} {es : List Expr} {pos p : Pos} {f fo fa fb fe fi : EM D} {fs : EM (List D)}
theorem sx_augS {o i : Expr} {p' : Pos} {fo fi : EM D} {op : Operator} {op2 : O2} (hu : X.A.units + 65 < cLine) (ho : Ex X W o fo) (hi : Ex X W i fi) (he : Ex X W e fe) (hop : OpM X W (inplaceOp op) op2)
    (ha : ∀ ov iv new, augStore i ov iv new = (do holding [new, ov, iv] (setItem ov iv new); release [new, ov, iv] []; pure .next) := by intros; rfl) : Sx X W (.AugAssign (.Subscript o i p') op e pos) (sAugS op2 fo fi fe) := by
  refine ⟨fun m τ s σ H D hL hS hP pins sh I => ?_⟩
  have read : wE X o σ H fun vo H1 => wE X i σ H1 fun vi H2 => rGet X.kw vo vi H2 fun vy H3 => wE X e σ H3 fun vz H4 => wR2 X (inplaceOp op) σ vy vz H4 fun vv H5 => rSet X.kw vo vi vv H5 fun H6 => D.nx σ H6 := by
    refine ho.run m τ s σ H _ hL hS (hP.bind hL fun dx s1 m1 H1 vx e1 hS1 r1 hP1 => ?_)
    have hL1 := hL.mono e1
    refine hi.run m1 τ s1 σ H1 _ hL1 hS1 (hP1.bind hL1 fun di s2 m2 H2 vi e2 hS2 r2 hP2 => ?_)
    have hL2 := hL1.mono e2
    refine getL_read hS2 (r1.mono e2) r2 (hP2.bind hL2 fun dy s3 m3 H3 vy e3 hS3 r3 hP3 => ?_)
    have hL3 := hL2.mono e3
    refine he.run m3 τ s3 σ H3 _ hL3 hS3 (hP3.bind hL3 fun dz s4 m4 H4 vz e4 hS4 r4 hP4 => ?_)
    have hL4 := hL3.mono e4
    intro pins s v u I rv ru
    refine hop m4 s4 σ H4 dy dz vy vz _ hS4 (r3.mono e4) r4 (hP4.bind hL4 fun dv s5 m5 H5 vv e5 hS5 r5 hP5 => ?_) pins s v u I rv ru
    have hL5 := hL4.mono e5
    split at hP5
    · rename_i s6 h6
      have e25 := ((e3.trans e4).trans e5)
      obtain ⟨H6, q5, q6, q7⟩ := set_read hS5 ((r1.mono e2).mono e25) (r2.mono e25) r5 h6
      exact q7 _ (hP5 m5 _ σ q5 q6 (hL5.mono q5))
    · exact hP5.elim
  refine wpAny_AugAssign_SubscriptAny (thn (read pins sh I) fun ov s1 ⟨x1, H1, I1, r1, q1⟩ => ?_) ha
  refine thn (q1 pins s1 I1) fun iv s2 ⟨x2, H2, I2, r2, q2⟩ => ?_
  refine thn (get_any (by omega) pins s2 σ H2 x1 x2 ov iv _ I2 r1 r2 q2) fun old s3 ⟨x3, H3, I3, r3, q3⟩ => ?_
  refine thn (q3 pins s3 I3) fun v s4 ⟨x4, H4, I4, r4, q4⟩ => ?_
  refine thn (q4 pins s4 old v I4 r3 r4) fun new s5 ⟨x5, H5, I5, r5, q5⟩ => ?_
  exact thn (set_any (by omega) pins s5 σ H5 x1 x2 x5 ov iv new _ I5 r1 r2 r5 q5) fun _ s6 ⟨H6, I6, q6⟩ => ⟨σ, H6, I6, q6⟩
/-! len -/
/-- it is a dict with so many entries -/
def IsDG (K : KW) (H : Hp) (a : Addr) (n : Nat) : Prop := (∃ us, H a = some (.dK us) ∧ us.length = n) ∨ ∃ xs, H a = some (.ext (DObj K.w a xs)) ∧ (∀ x ∈ xs, NV K H x.1 (.ref x.2.1) ∧ x.1.depth ≤ 8) ∧ xs.length = n
theorem isDG_of {K : KW} {m : List Addr} {st : Store} {H : Hp} {n : Nat} {kvs : List (D × D)} {v : V} (hS : SS K m st H) (hk : dctAt st n = some kvs) (r : RD K m H (.ref n) v) : ∃ a, v = .ref a ∧ IsDG K H a kvs.length := by
  cases r with
  | ref q =>
    rcases hS.dict hk q with ⟨us, e, r⟩ | ⟨xs, e, ne, r⟩
    · exact ⟨_, rfl, .inl ⟨us, e, (Paired.length r).symm⟩⟩
    · exact ⟨_, rfl, .inr ⟨xs, e, keys2 r, (Paired.length r).symm⟩⟩
theorem call_len_dg : CallR X (.builtin "len") (fun xs H Q => ∃ a n, xs = [.ref a] ∧ IsDG X.kw H a n ∧ Q (.int (n : Nat)) H) := by
  intro pins s σ H xs us Q I r h
  obtain ⟨a, n, rfl, g, q⟩ := h
  obtain ⟨u, rfl, rx⟩ := vals1 r
  cases (show u = Value.ref a from rx)
  rcases g with ⟨us, e, rfl⟩ | ⟨xs, e, hx, rfl⟩
  · exact d_len I (.inl e) fun t s' I' => ⟨.int us.length, H, I', ⟨t, rfl⟩, q⟩
  · obtain ⟨hd, hz, zs, rel, dd⟩ := dobj_at I e hx
    have hl : xs.length = zs.length := Paired.length rel
    refine call_len_dictH hd dd (by rw [← hl]; rw [sizeLine_eq] at hz; omega) ?_
    rw [hl] at q
    exact ⟨.int zs.length, H, I.tok _, ⟨_, rfl⟩, q⟩
def fLen : FM := fun ds st => match ds with
  | [.ref n] => match dctAt st n with
    | some kvs => .ok (.int kvs.length) st
    | none => fLenS ds st
  | _ => fLenS ds st
theorem c_len : CallM X (.builtin "len") fLen := by
  obtain ⟨r, hr, h⟩ := c_lenS (X := X)
  refine ⟨_, hr.or call_len_dg, fun m st H ds vs E Q hS rs hP => ?_⟩
  unfold fLen at hP
  split at hP
  · split at hP
    · rename_i kvs hk
      obtain ⟨v, rfl, r1⟩ := rs.one
      obtain ⟨a, rfl, g⟩ := isDG_of hS hk r1
      exact .inr ⟨a, _, rfl, g, hP.now hS (.int _)⟩
    · exact .inl (h m st H _ vs E Q hS rs hP)
  · exact .inl (h m st H _ vs E Q hS rs hP)
/-! d.get(k), d.get(k, x) -/
theorem isDG_at {pins : List (Addr × Obj)} {σ : L2.St} {H : Hp} {s : Shared} {a : Addr} {n : Nat} (I : Inv X pins σ H s) (g : IsDG X.kw H a n) : s.TypeIs (.ref a) "dict" ∧ ∀ b, Value.ref a = .ref b → ∃ ob, s.heap.get? b = some ob ∧ ob.dict = none := by
  rcases g with ⟨us, e, rfl⟩ | ⟨xs, e, hx, rfl⟩
  · obtain ⟨_, hd, vs, _, dd⟩ := dk_of I.hok e
    refine ⟨dd.typeIs, fun b q => ?_⟩
    cases q
    obtain ⟨ob, _, _, h1, h2, _⟩ := dd
    exact ⟨ob, h1, h2.2.1⟩
  · obtain ⟨_, _, zs, _, dd⟩ := dobj_at I e hx
    refine ⟨dd.typeIs, fun b q => ?_⟩
    cases q
    obtain ⟨ob, _, _, h1, h2, _⟩ := dd
    exact ⟨ob, h1, h2.2.1⟩
def isDct (st : Store) (d : D) : Bool := match d with
  | .ref n => (dctAt st n).isSome
  | _ => false
def oDGet (d k x : D) (st : Store) : ER D := match d with
  | .ref n => match dctAt st n with
    | some kvs => if keyFit kvs k then .ok ((dGet kvs k).getD x) st else .bad
    | none => .bad
  | _ => .bad
def eGet2 (fo fa fb : EM D) : EM D := fun τ st => (fo τ st).bind fun d s1 => if isDct s1 d then (fa τ s1).bind fun k s2 => (fb τ s2).bind fun x s3 => oDGet d k x s3 else .bad
def eGet1 (fo fa : EM D) : EM D := fun τ st => (fo τ st).bind fun d s1 => if isDct s1 d then (fa τ s1).bind fun k s2 => oDGet d k .non s2 else .bad
theorem isDct_of {m : List Addr} {st : Store} {H : Hp} {d : D} {v : V} (hS : SS X.kw m st H) (h : isDct st d = true) (r : RD X.K m H d v) : ∃ a n, v = .ref a ∧ IsDG X.kw H a n := by
  unfold isDct at h
  split at h
  · obtain ⟨kvs, hk⟩ := Option.isSome_iff_exists.mp h
    obtain ⟨a, e, g⟩ := isDG_of hS hk r
    exact ⟨a, _, e, g⟩
  · cases h
theorem oDGet_of {m : List Addr} {st : Store} {H : Hp} {d k x : D} {v y z : V} {E : XK} {Q : VK} (hS : SS X.kw m st H) (r : RD X.K m H d v) (rk : RD X.K m H k y) (rx : RD X.K m H x z) (hP : Pe X.kw E (RD X.K) m H (oDGet d k x st) Q) : ∃ a o, v = .ref a ∧ DG X.kw H a y o ∧ Q (o.getD z) H := by
  unfold oDGet at hP
  split at hP
  · split at hP
    · rename_i kvs hk
      split at hP
      · rename_i f
        cases r with
        | ref q =>
          obtain ⟨o, g, ro⟩ := dg_of (hS.dict hk q) rk f
          refine ⟨_, o, rfl, g, hP.now hS ?_⟩
          cases h1 : dGet kvs k <;> cases h2 : o <;> rw [h1, h2] at ro <;> first | exact rx | exact ro | exact ro.elim
      · exact hP.elim
    · exact hP.elim
  · exact hP.elim
theorem ex_get2 {apos cpos : Pos} (hu : X.A.units + 65 < cLine) (ho : Ex X W o fo) (ha : Ex X W a fa) (hb : Ex X W b fb) (m : M2 X o "get" apos a b cpos) : Ex X W (.Call (.Attribute o "get" apos) [a, b] [] cpos) (eGet2 fo fa fb) := by
  refine ⟨fun m0 τ st σ H Q hL hS hP pins s I => ?_⟩
  have read : wE X o σ H fun vo H1 => ∃ p n, vo = .ref p ∧ IsDG X.kw H1 p n ∧ wE X a σ H1 fun y H2 => wE X b σ H2 fun z H3 => ∃ q, DG X.kw H3 p y q ∧ Q (q.getD z) H3 := by
    refine ho.run m0 τ st σ H _ hL hS (hP.bind fun d s1 m1 H1 v e1 hS1 r1 hP1 => ?_)
    split at hP1
    · rename_i hk
      obtain ⟨p, n, rfl, g⟩ := isDct_of hS1 hk r1
      refine ⟨p, n, rfl, g, ha.run m1 τ s1 σ H1 _ (hL.mono e1) hS1 (hP1.bind fun k s2 m2 H2 y e2 hS2 r2 hP2 => ?_)⟩
      refine hb.run m2 τ s2 σ H2 _ ((hL.mono e1).mono e2) hS2 (hP2.bind fun x s3 m3 H3 z e3 hS3 r3 hP3 => ?_)
      obtain ⟨p', q, e, g', hq⟩ := oDGet_of hS3 ((r1.mono e2).mono e3) (r2.mono e3) r3 hP3
      cases e
      exact ⟨q, g', hq⟩
    · exact hP1.elim
  refine wpAny_Call_method m.base m.few m.line PySem.F.plainAttrs_dict PySem.F.slot_dict_get PySem.F.type_dict_get (thn (read pins s I) fun u s1 ⟨x, H1, I1, rx, p, n, ex, g, q1⟩ => ?_)
  subst ex
  obtain rfl : u = Value.ref p := rx
  obtain ⟨t1, t2⟩ := isDG_at I1 g
  refine ⟨t1, t2, ?_⟩
  rw [m.trees]
  refine Calls.callWith_builtin rfl (Calls.evalArgs_plain (Calls.spliced_cons (thn (q1 pins s1 I1) fun iv s2 ⟨y, H2, I2, ry, q2⟩ =>
    Calls.spliced_cons (thn (q2 pins s2 I2) fun fv s3 ⟨z, H3, I3, rz, ov, g3, q3⟩ => Calls.spliced_nil ?_))))
  exact dg_get2 (by omega) I3 g3 ry rz fun w' s4 I4 rw' => ⟨_, H3, I4, rw', q3⟩
theorem ex_get1 {apos cpos : Pos} (hu : X.A.units + 65 < cLine) (ho : Ex X W o fo) (ha : Ex X W a fa) (m : M1 X o "get" apos a cpos) : Ex X W (.Call (.Attribute o "get" apos) [a] [] cpos) (eGet1 fo fa) := by
  refine ⟨fun m0 τ st σ H Q hL hS hP pins s I => ?_⟩
  have read : wE X o σ H fun vo H1 => ∃ p n, vo = .ref p ∧ IsDG X.kw H1 p n ∧ wE X a σ H1 fun y H2 => ∃ q, DG X.kw H2 p y q ∧ Q (q.getD .non) H2 := by
    refine ho.run m0 τ st σ H _ hL hS (hP.bind fun d s1 m1 H1 v e1 hS1 r1 hP1 => ?_)
    split at hP1
    · rename_i hk
      obtain ⟨p, n, rfl, g⟩ := isDct_of hS1 hk r1
      refine ⟨p, n, rfl, g, ha.run m1 τ s1 σ H1 _ (hL.mono e1) hS1 (hP1.bind fun k s2 m2 H2 y e2 hS2 r2 hP2 => ?_)⟩
      obtain ⟨p', q, e, g', hq⟩ := oDGet_of hS2 (r1.mono e2) r2 .non hP2
      cases e
      exact ⟨q, g', hq⟩
    · exact hP1.elim
  refine wpAny_Call_method m.base m.few m.line PySem.F.plainAttrs_dict PySem.F.slot_dict_get PySem.F.type_dict_get (thn (read pins s I) fun u s1 ⟨x, H1, I1, rx, p, n, ex, g, q1⟩ => ?_)
  subst ex
  obtain rfl : u = Value.ref p := rx
  obtain ⟨t1, t2⟩ := isDG_at I1 g
  refine ⟨t1, t2, ?_⟩
  rw [m.trees]
  refine Calls.callWith_builtin rfl (Calls.evalArgs_plain (Calls.spliced_cons (thn (q1 pins s1 I1) fun iv s2 ⟨y, H2, I2, ry, ov, g3, q3⟩ => Calls.spliced_nil ?_)))
  exact dg_get1 (by omega) I2 g3 ry fun w' s4 I4 rw' => ⟨_, H2, I4, rw', q3⟩
end
end HM

/-! HM, part O: sorting tuples of which some are empty. -/
namespace HM
open PySem PySem.Calls PySem.Spec PyProof.Rows PySem.W PySem.SeqAt
section
variable {prog : Program} {w : World} {A : Around} {E : Value → Shared → Prop} {s : Shared}
theorem call_tuple_lt {Q : Value → Shared → Prop} {l b : Addr} {items items2 : Array Value} {e r : Nat → Bool} (hl : s.heap.IsTuple l items) (hb : s.heap.IsTuple b items2)
    (he : ∀ j (h1 : j < items.size) (h2 : j < items2.size), EqAt A.in1 s items[j] items2[j] (e j)) (hr : ∀ j (h1 : j < items.size) (h2 : j < items2.size), e j = false → RcLt A.in1 s items[j] items2[j] (r j))
    (h : Q (.bool (firstLt e r (decide (items.size < items2.size)) (List.range (min items.size items2.size)))) s) : wpAny (model prog w) A (call (.builtin "tuple.__lt__") [.ref l, .ref b]) Q E s := by
  obtain ⟨⟨cls, dd, data, sl⟩, ho, hc, n, hd⟩ := id hl
  obtain ⟨⟨cls2, dd2, data2, sl2⟩, ho2, hc2, n2, hd2⟩ := id hb
  simp only at hc hd hc2 hd2
  subst hc hd hc2 hd2
  exact call_meets PySem.F.slot_tuple_lt ⟨_, ho, rfl⟩ PySem.F.entry_tuple_lt (PySem.F.args_tuple_lt_2 _ _) (PySem.SeqAt.tuple_ltAt l b items items2 n n2 dd dd2 sl sl2 e r) ⟨ho, ho2, he, hr, h⟩
theorem oneLt_tup {xs ys : List PyData} {a b : Value} {as bs : List Addr} {Q : Bool → Shared → Prop} (f : Bool) (ra : PySem.Reads s.heap a (.tuple xs) as) (rb : PySem.Reads s.heap b (.tuple ys) bs) (h : alike (.tuple xs) (.tuple ys) = true)
    (hu : A.units + min (PyData.tuple xs).depth (PyData.tuple ys).depth < cLine) (hq : Q (dataLt (.tuple xs) (.tuple ys)) s) : wpAny (model prog w) A (oneLt' f a b) Q E s := by
  cases f with
  | false =>
    rw [oneLt'_eq]
    simp only [Bool.false_eq_true, if_false]
    exact wpAny_bind (rcLt_alike _ _ A s a b as bs ra rb h (by simp) hu prog w E _ (wpAny_truthy_bool hq))
  | true =>
    have hal : alikeAll xs ys = true := by simpa [alike] using h
    cases ra with
    | @tuple l o vs n _ as₁ h1 h2 h3 h4 =>
      cases rb with
      | @tuple l' o' vs' n' _ bs₁ k1 k2 k3 k4 =>
        have n1 : vs.size = xs.length := by simpa using ReadsAll.length _ _ _ h4
        have n2 : vs'.size = ys.length := by simpa using ReadsAll.length _ _ _ k4
        rw [dataLt_tuple, ← firstLt_toks xs ys hal, ← n1, ← n2] at hq
        rw [oneLt'_eq]
        simp only [if_true]
        refine wpAny_bind (wpAny_cRoomFor (room_here hu) ?_)
        refine wpAny_bind (wpAny_callSpecialIfBound?_slot (T := "tuple") ⟨_, h1, h2⟩ PySem.F.slot_tuple_lt (call_tuple_lt (e := pairEq xs ys) (r := fun j => dataLt (xs.getD j .none) (ys.getD j .none)) ⟨_, h1, h2, _, h3⟩ ⟨_, k1, k2, _, k3⟩ (fun j j1 j2 => ?_) (fun j j1 j2 hj => ?_) ?_))
        · have := eqAt_alikeAll xs ys A.in1 s vs.toList vs'.toList _ _ h4 k4 hal (room_in hu) j (by simpa using j1) (by simpa using j2)
          simpa using this
        · have := rcLt_alikeAll xs ys A.in1 s vs.toList vs'.toList _ _ h4 k4 hal (room_in hu) j (by simpa using j1) (by simpa using j2) hj
          simpa using this
        · exact wpAny_truthy_bool hq
/-- the firsts of tuples -/
theorem firsts_tup : ∀ {vs : List Value} {ds : List PyData} {Q : List (Option Value) → Shared → Prop}, EachIs (fun v d => ∃ as, PySem.Reads s.heap v d as) vs ds → (∀ d, d ∈ ds → ∃ r, d = PyData.tuple r) →
    (∀ fs : List (Option Value), fs.length = vs.length → (∀ i : Nat, (fs[i]?.bind id).isSome = true ↔ ∃ (x : PyData) (r : List PyData), ds[i]? = some (PyData.tuple (x :: r))) → Q fs s) → wpAny (model prog w) A (vs.mapM firstOfTuple') Q E s
  | [], [], Q, .nil, _, h => by
    rw [List.mapM_nil]
    exact wpAny_pure (h [] rfl fun i => by simp)
  | v :: vs, d :: ds, Q, .cons ⟨as, r⟩ t, ht, h => by
    obtain ⟨xs, rfl⟩ := ht d (List.mem_cons_self ..)
    rw [List.mapM_cons]
    cases r with
    | @tuple a o its n _ _ ho hc hd hr =>
      refine wpAny_bind ?_
      rw [kas_first_eq]
      refine wpAny_bind (Looks.here (show Looks (model prog w) s.heap (typeOf (.ref a)) o.cls from (Looks.ld ho).andThen .now) ?_)
      rw [hc, if_neg (by first | decide | simp)]
      refine wpAny_bind (listItems_at ho hd (wpAny_pure ?_))
      refine wpAny_bind (firsts_tup t (fun d hd => ht d (List.mem_cons_of_mem _ hd)) fun fs h1 h2 => wpAny_pure (h _ (by simp [h1]) fun i => ?_))
      cases i with
      | zero =>
        have hl := SeqAt.ReadsAll.length _ _ _ hr
        cases xs with
        | nil =>
          have : its.size = 0 := by simpa using hl
          simp [this]
        | cons x r =>
          have : 0 < its.size := by
            have : its.size = r.length + 1 := by simpa using hl
            omega
          simp [this]
      | succ i => simpa using h2 i
theorem fst_of {fs : List (Option Value)} (h : fs.all (·.isSome) = false) : ∃ i, (fs[i]?.bind id).isSome = false ∧ i < fs.length := by
  induction fs with
  | nil => simp at h
  | cons f fs ih =>
    cases hf : f.isSome with
    | false => exact ⟨0, by simpa using hf, by simp⟩
    | true =>
      rw [List.all_cons, hf, Bool.true_and] at h
      obtain ⟨i, h1, h2⟩ := ih h
      exact ⟨i + 1, by simpa using h1, by simpa using h2⟩
/-- tuples of which some are empty -/
theorem SortsAt_tups {vs : List Value} {ds : List PyData} (e : EachIs (fun v d => ∃ as, PySem.Reads s.heap v d as) vs ds) (hal : AllAlike ds) (hk : ∀ d, d ∈ ds → ∃ r, d = .tuple r) (h0 : PyData.tuple [] ∈ ds) (hu : ∀ d, d ∈ ds → A.units + d.depth < cLine) : SortsAt prog w A s (dataKind s.heap ds) vs := by
  have room : ∀ {d d' : PyData}, d ∈ ds → A.units + min d.depth d'.depth < cLine := fun {d d'} hd => Nat.lt_of_le_of_lt (Nat.add_le_add_left (Nat.min_le_left _ _) _) (hu d hd)
  have lt : ∀ (f : Bool) (E : Value → Shared → Prop) (x y : Value) (a b : (dataKind s.heap ds).α) (Q : Bool → Shared → Prop), (dataKind s.heap ds).keyOf x = some a → (dataKind s.heap ds).keyOf y = some b → Q ((dataKind s.heap ds).blt a b) s → wpAny (model prog w) A (oneLt' f x y) Q E s := fun f E x y a b Q ha hb hq => by
    obtain ⟨d, as, hd, ra, rfl⟩ := dataKind_inv ha
    obtain ⟨d', as', hd', rb, rfl⟩ := dataKind_inv hb
    obtain ⟨r1, rfl⟩ := hk d hd
    obtain ⟨r2, rfl⟩ := hk d' hd'
    exact oneLt_tup f ra rb (hal _ hd _ hd') (room hd) hq
  refine ⟨fun v hv => ?_, ?_⟩
  · obtain ⟨d, hd, as, r⟩ := e.left v hv
    exact ⟨_, dataKind_some hal hd r⟩
  · cases ds with
    | nil => cases h0
    | cons d₀ ds₀ =>
      obtain ⟨r₀, rfl⟩ := hk d₀ (List.mem_cons_self ..)
      have kinds : ∀ (E : Value → Shared → Prop) {Q : SortKind → Shared → Prop}, Q (if r₀ = [] then oneType' else general') s → wpAny (model prog w) A (keyKind' vs.toArray) Q E s := fun E Q hq => by
        rw [keyKind'_eq, List.mapM_toArray, map_eq_pure_bind]
        refine wpAny_bind (wpAny_bind (firsts_tup e hk fun fs h1 h2 => wpAny_pure ?_))
        have hz : fs.all (·.isSome) = false := by
          obtain ⟨i, hi⟩ := List.getElem?_of_mem h0
          cases hq : fs.all (·.isSome) with
          | false => rfl
          | true =>
            rw [List.all_eq_true] at hq
            have hn : ¬ (fs[i]?.bind id).isSome = true := by
              rw [h2 i, hi]
              rintro ⟨x, r, h⟩
              cases h
            have hil : i < fs.length := by
              rw [h1, e.length]
              exact (List.getElem?_eq_some_iff.mp hi).1
            have := hq fs[i] (List.getElem_mem hil)
            rw [List.getElem?_eq_getElem hil] at hn
            exact absurd this hn
        rw [if_neg (by simpa using hz)]
        have hf := h2 0
        simp only [List.getElem?_cons_zero, Option.some.injEq, PyData.tuple.injEq] at hf
        cases r₀ with
        | cons x r =>
          have hf : (fs[0]?.bind id).isSome = true := hf.mpr ⟨x, r, rfl⟩
          rw [if_pos (by simpa using hf)]
          rw [if_neg (by simp)] at hq
          exact wpAny_pure hq
        | nil =>
          have hf : ¬ (fs[0]?.bind id).isSome = true := fun h => by
            obtain ⟨x, r, h⟩ := hf.mp h
            cases h
          rw [if_neg (by simpa using hf)]
          rw [if_pos rfl] at hq
          rw [oneTypeOnly'_eq, List.mapM_toArray, map_eq_pure_bind]
          refine wpAny_bind (wpAny_bind (wpAny_bind (kas_mapM (r := Value.type "tuple") _ (fun v hv Q' hq => ?_) (wpAny_pure ?_))))
          · obtain ⟨d, hd, as, r⟩ := e.left v hv
            obtain ⟨xs, rfl⟩ := hk d hd
            exact (looks_reads r).here hq
          · have hall : ((List.map (fun _ => Value.type "tuple") vs).toArray.all fun x => x == Value.type "tuple") = true := by
              simp only [List.all_toArray, List.all_map, List.all_eq_true]
              intro _ _
              rfl
            cases vs with
            | nil => cases e
            | cons v vs =>
              have h0 : (List.map (fun _ => Value.type "tuple") (v :: vs)).toArray[0]? = some (Value.type "tuple") := by simp
              rw [h0]
              simp only [hall, if_true]
              exact wpAny_pure (wpAny_pure hq)
      by_cases hr : r₀ = []
      · rw [if_pos hr] at kinds
        exact ⟨oneType', fun E x y a b Q ha hb hq => by rw [keyLt'_oneType]; exact lt true E x y a b Q ha hb hq, fun _ E Q hq => kinds E hq⟩
      · rw [if_neg hr] at kinds
        exact ⟨general', fun E x y a b Q ha hb hq => lt false E x y a b Q ha hb hq, fun _ E Q hq => kinds E hq⟩
/-- what can be sorted: data of one kind, or tuples -/
def Sortable2 (ds : List PyData) : Prop := Sortable ds ∨ ((∀ d, d ∈ ds → ∃ r, d = PyData.tuple r) ∧ PyData.tuple [] ∈ ds)
theorem SortsAt_data2 {vs : List Value} {ds : List PyData} (e : EachIs (fun v d => ∃ as, PySem.Reads s.heap v d as) vs ds) (hal : AllAlike ds) (hk : Sortable2 ds) (hu : ∀ d, d ∈ ds → A.units + d.depth < cLine) : SortsAt prog w A s (dataKind s.heap ds) vs := by
  rcases hk with hk | ⟨hk, h0⟩
  · exact SortsAt.data e hal hk hu
  · exact SortsAt_tups e hal hk h0 hu
theorem bound_map2 {β : Type} {bs : List β} {enc : β → PyData} (hu : ∀ b, b ∈ bs → A.units + 2 + (enc b).depth < cLine) : ∀ d, d ∈ bs.map enc → A.in1.in1.units + d.depth < cLine := by
  intro d hd
  obtain ⟨b, hb, rfl⟩ := List.mem_map.mp hd
  exact hu b hb
/-- sorted(xs) -/
theorem sorted_data2 {β : Type} {R : Value → β → Prop} {enc : β → PyData} {bs : List β} {vs : List Value} {l : Addr} {Q : Value → Shared → Prop} (hl : s.heap.IsList l vs.toArray) (e : EachIs R vs bs) (er : EachIs (fun v b => ∃ as, PySem.Reads s.heap v (enc b) as) vs bs) (hal : AllAlike (bs.map enc)) (hk : Sortable2 (bs.map enc)) (hL : bs.length ≤ sizeLine)
    (hu : ∀ b, b ∈ bs → A.units + 2 + (enc b).depth < cLine) (h : ∀ out, out.length = bs.length → EachIs R out (bs.mergeSort (dataLe false enc)) → Q (.ref (s.heap.objs.size + 1)) { s with heap := PyProof.Rows.sortedAll s.heap vs (List.toArray out) }) :
    wpAny (model prog w) A (call (.builtin "sorted") [.ref l]) Q E s := by
  have er' : EachIs (fun v b => ∃ as, PySem.Reads (sortingHeap (copyHeap s.heap vs) (s.heap.objs.size + 1) vs) v (enc b) as) vs bs := er.mono fun _ _ ⟨as, r⟩ => ⟨as, PyProof.Rows.Reads.keeps (fun _ _ => sorting_copy_old) r⟩
  exact sorted_vals hl (SortsAt_data2 (s := { s with heap := sortingHeap (copyHeap s.heap vs) (s.heap.objs.size + 1) vs }) (each_map (R := fun v d => ∃ as, PySem.Reads (sortingHeap (copyHeap s.heap vs) (s.heap.objs.size + 1) vs) v d as) enc er') hal hk (bound_map2 hu)) (by rw [e.length]; exact hL)
    (h _ (by rw [sortVals_length false rfl]; exact e.length) (sortVals_data false e er' hal))
end
end HM

/-! HM, part E: order, sorted, places. -/
namespace HM
open PySem PySem.Spec PyProof.Rows L2
section
variable {X : Cx} {W : WX} {e o a b c : Expr} {es : List Expr} {pos p : Pos} {f fo fa fb : EM D} {fs : EM (List D)}
/-! ### < -/
def D.isTup (d : D) : Bool := match d with
  | .tup _ => true
  | _ => false
def dLt (x y : D) : Option Bool := if x.isTup && x.plain 60 && y.plain 60 && PySem.W.alike (x.toP 60) (y.toP 60) then some (PySem.W.dataLt (x.toP 60) (y.toP 60)) else none
def oLt : O2 := fun x y st => match x, y with
  | .int i, .int j => .ok (.bl (decide (i < j))) st
  | x, y => match dLt x y with
    | some b => .ok (.bl b) st
    | none => .bad
theorem toP_tup {x : D} (h : x.isTup = true) : x.toP 60 ≠ .none := by
  cases x <;> simp [D.isTup] at h <;> simp [D.toP]
theorem m_lt (hu : X.A.units + 65 < cLine) : OpM X W (compareOp .Lt) oLt := fun m st σ H dx dy x y Q hS r1 r2 hP pins s v u I rx ry => by
  unfold oLt at hP
  split at hP
  · exact m_ltI (W := W) m st σ H _ _ x y Q hS r1 r2 hP pins s v u I rx ry
  · split at hP
    · rename_i b hb
      unfold dLt at hb
      split at hb
      · rename_i hc
        cases hb
        simp only [Bool.and_eq_true] at hc
        obtain ⟨⟨⟨h1, h2⟩, h3⟩, h4⟩ := hc
        obtain ⟨a1, a2, a3⟩ := plain_dp 60 dx x h2 r1
        obtain ⟨b1, b2, b3⟩ := plain_dp 60 dy y h3 r2
        obtain ⟨as, ra⟩ := Dp.reads I _ x v a1 rx
        obtain ⟨bs, rb⟩ := Dp.reads I _ y u b1 ry
        exact PySem.W.lt_data ra rb h4 (toP_tup h1) (by omega) ⟨.bl _, H, I, rfl, hP.now hS (.bl _)⟩
      · cases hb
    · exact hP.elim
end

/-! ### sorted -/
section
open PySem.W PySem.Calls
variable {prog : Program} {w : World} {A : Around} {E : Value → Shared → Prop} {s : Shared}
theorem collect_tup {l : Addr} {vs : List Value} {Q : List Value → Shared → Prop} (hl : PyProof.Rows.IsTup s.heap l vs.toArray)
    (h : Q vs { s with heap := (s.heap.push (seqObj "list" #[] 0)).update s.heap.objs.size (Obj.mapSeq (· ++ vs.toArray)) }) (hsz : vs.length ≤ sizeLine) :
    wpAny (model prog w) A (collect (.ref l)) Q E s := by
  obtain ⟨o, ho, hc, n, hd⟩ := id hl
  unfold collect
  refine wpAny_bind (wpAny_runValue (codeAny_builtin entry_proto_collect' ?_))
  show wpAny _ _ (do again (.builtin "list.__iadd__" ⟨[← newList [], .ref l], []⟩)) _ _ s
  refine wpAny_bind (wpAny_newList (wpAny_pure ⟨Code.quiet_builtin _ (by decide +kernel), codeAny_builtin entry_list_iadd' ?_⟩))
  show wpAny _ _ (Builtin.List.listExtendWith (.ref s.heap.objs.size) (.ref l) (.ref s.heap.objs.size)) _ _ { s with heap := s.heap.push (seqObj "list" #[] 0) }
  unfold Builtin.List.listExtendWith
  have ho' : (s.heap.push (seqObj "list" #[] 0)).get? l = some o := Heap.get?_push_of_some _ ho
  refine wpAny_bind (wpAny_typeOf (T := "tuple") ⟨o, ho', hc⟩ ?_)
  have ht : (Value.type "tuple" == Value.type "tuple") = true := by rfl
  rw [if_pos (by rw [ht]; simp)]
  refine wpAny_bind (listItems_at ho' hd ?_)
  refine wpAny_bind (listItems_at (xs := #[]) (n := 0) (Heap.get?_push_size _ rfl) rfl ?_)
  rw [if_neg (by simp)]
  refine wpAny_bind (listUpdate_at (xs := #[]) (n := 0) (Heap.get?_push_size _ rfl) rfl ?_ (Nat.zero_le _) (by show (#[] ++ vs.toArray).size ≤ sizeLine + 1; simp only [Array.size_append, List.size_toArray, List.length_nil]; omega))
  refine wpAny_pure ?_
  show wpAny (model prog w) A (do
      let o ← load s.heap.objs.size
      match o.data with
      | .seq xs _ => pure xs.toList
      | _ => unsupported "internal:collect") Q E { s with heap := (s.heap.push (seqObj "list" #[] 0)).update s.heap.objs.size (Obj.mapSeq (· ++ vs.toArray)) }
  refine wpAny_bind (wpAny_load (get?_update_seq (Heap.get?_push_size _ rfl) _) ?_)
  show wpAny _ _ (pure ((#[] : Array Value) ++ vs.toArray).toList) Q E _
  rw [show ((#[] : Array Value) ++ vs.toArray).toList = vs by simp]
  exact wpAny_pure h
theorem sorted_of_sortT {l : Addr} {vs : List Value} {kw : List (PySem.Str × Value)} {Q : Value → Shared → Prop} (hl : PyProof.Rows.IsTup s.heap l vs.toArray) (hL : vs.length ≤ sizeLine) (ha1 : argsOk "sorted" ⟨[.ref l], kw⟩) (ha2 : ∀ x, argsOk "list.sort" ⟨[.ref x], kw⟩)
    (body : ∀ E' : Value → Shared → Prop, wpAny (model prog w) A.in1.in1 (Builtin.«list.sort» ⟨[.ref (s.heap.objs.size + 1)], kw⟩) (fun f s' => f = .done (.ret .none) ∧ Q (.ref (s.heap.objs.size + 1)) s') E' { s with heap := copyHeap s.heap vs }) :
    wpAny (model prog w) A (call (.builtin "sorted") [.ref l] kw) Q E s := by
  refine call_function_entry_kw kind_sorted plain_sorted entry_sorted ha1 ?_
  unfold Builtin.«sorted»
  refine wpAny_bind (m := checkCount "sorted" 1 1 _) (wpAny_pure ?_)
  refine wpAny_bind (collect_tup hl ?_ hL)
  refine wpAny_bind (wpAny_newList ?_ hL)
  have hsz : ((s.heap.push (seqObj "list" #[] 0)).update s.heap.objs.size (Obj.mapSeq (· ++ vs.toArray))).objs.size = s.heap.objs.size + 1 := by
    rw [Heap.size_update, size_push']
  show wpAny _ _ _ _ _ { s with heap := copyHeap s.heap vs }
  rw [hsz]
  refine wpAny_bind (wpAny_holding (wpAny_call_entry_kw slot_list_sort ⟨_, copyHeap_at s.heap vs, rfl⟩ entry_list_sort ?body (ha2 _)))
  case body =>
    show wpAny (model prog w) A.in1.in1 (Builtin.«list.sort» ⟨[.ref (s.heap.objs.size + 1)], kw⟩) _ _ _
    refine wpAny_mono (body _) (fun f s' hf => ?_) fun _ _ e => e
    obtain ⟨rfl, hq⟩ := hf
    exact ⟨_, rfl, wpAny_pure ⟨_, rfl, hq⟩⟩
theorem bound_mapT {β : Type} {bs : List β} {enc : β → PyData} (hu : ∀ b, b ∈ bs → A.units + 2 + (enc b).depth < cLine) : ∀ d, d ∈ bs.map enc → A.in1.in1.units + d.depth < cLine := by
  intro d hd
  obtain ⟨b, hb, rfl⟩ := List.mem_map.mp hd
  exact hu b hb
theorem sorted_dataT {β : Type} {R : Value → β → Prop} {enc : β → PyData} {bs : List β} {vs : List Value} {l : Addr} {Q : Value → Shared → Prop} (hl : PyProof.Rows.IsTup s.heap l vs.toArray) (e : EachIs R vs bs) (er : EachIs (fun v b => ∃ as, PySem.Reads s.heap v (enc b) as) vs bs) (hal : AllAlike (bs.map enc)) (hk : Sortable2 (bs.map enc)) (hL : bs.length ≤ sizeLine)
    (hu : ∀ b, b ∈ bs → A.units + 2 + (enc b).depth < cLine) (h : ∀ out, out.length = bs.length → EachIs R out (bs.mergeSort (dataLe false enc)) → Q (.ref (s.heap.objs.size + 1)) { s with heap := sortedAll s.heap vs (List.toArray out) }) :
    wpAny (model prog w) A (call (.builtin "sorted") [.ref l]) Q E s := by
  have er' : EachIs (fun v b => ∃ as, PySem.Reads (sortingHeap (copyHeap s.heap vs) (s.heap.objs.size + 1) vs) v (enc b) as) vs bs := er.mono fun _ _ ⟨as, r⟩ => ⟨as, PyProof.Rows.Reads.keeps (fun _ _ => sorting_copy_old) r⟩
  have hL' : vs.length ≤ sizeLine := by rw [e.length]; exact hL
  exact sorted_of_sortT hl hL' (args_sorted1 _) (fun _ => args_list_sort _) fun _ => list_sort_vals (s := { s with heap := copyHeap s.heap vs }) (copyHeap_at s.heap vs)
    (SortsAt_data2 (s := { s with heap := sortingHeap (copyHeap s.heap vs) (s.heap.objs.size + 1) vs }) (each_map (R := fun v d => ∃ as, PySem.Reads (sortingHeap (copyHeap s.heap vs) (s.heap.objs.size + 1) vs) v d as) enc er') hal hk (bound_mapT hu)) hL'
    ⟨rfl, h _ (by rw [sortVals_length false rfl]; exact e.length) (sortVals_data false e er' hal)⟩
end

section
open PySem.W
variable {X : Cx} {W : WX} {e o a b c : Expr} {es : List Expr} {pos p : Pos} {f fo fa fb : EM D} {fs : EM (List D)}
def rSortedD (K : PySem.W.Frag) : List V → Hp → VK → Prop := fun xs H Q => ∃ (a : Addr) (bs : List (D × V)), xs = [.ref a] ∧ (SqL K H a (bs.map (·.2)) ∨ SqT K H a (bs.map (·.2))) ∧ (∀ b ∈ bs, Dp K H b.2 (b.1.toP 60) ∧ (b.1.toP 60).depth ≤ 60) ∧
  AllAlike (bs.map fun b => b.1.toP 60) ∧ Sortable2 (bs.map fun b => b.1.toP 60) ∧ ∀ p, H p = none → Q (.ref p) (upd H p (.lst ((bs.mergeSort (dataLe false fun b => b.1.toP 60)).map (·.2))))
theorem each_of {β : Type} {R : Value → β → Prop} {f : β → V} : ∀ {bs : List β} {us : List Value}, Vals (bs.map f) us → (∀ b ∈ bs, ∀ u, RelV (f b) u → R u b) → EachIs R us bs
  | [], _, r, _ => by
    cases r
    exact .nil
  | b :: bs, _, r, h => by
    cases r with
    | cons r1 r2 => exact .cons (h b (List.mem_cons_self ..) _ r1) (each_of r2 fun b hb => h b (List.mem_cons_of_mem _ hb))
theorem vals_of_each {β : Type} {f : β → V} : ∀ {bs : List β} {us : List Value}, EachIs (fun u b => RelV (f b) u) us bs → Vals (bs.map f) us
  | _, _, .nil => .nil
  | _, _, .cons h t => .cons h (vals_of_each t)
theorem cr_sortedD (hu : X.A.units + 65 < cLine) : CallR X (.builtin "sorted") (rSortedD X.K) := by
  intro pins s σ H vs us Q I r h
  obtain ⟨a, bs, rfl, hs, hb, hal, hk, q⟩ := h
  rw [Vals.ref1 r]
  have main : ∀ its : List Value, Vals (bs.map (·.2)) its → (bs.map (·.2)).length ≤ sizeLine → (∀ Q : Value → Shared → Prop, (∀ out, out.length = bs.length → EachIs (fun u (b : D × V) => RelV b.2 u) out (bs.mergeSort (dataLe false fun b => b.1.toP 60)) → Q (.ref (s.heap.objs.size + 1)) { s with heap := PyProof.Rows.sortedAll s.heap its (List.toArray out) }) →
      wpAny (model X.prog X.w) X.A (call (.builtin "sorted") [.ref a]) Q X.xe s) → wpAny (model X.prog X.w) X.A (call (.builtin "sorted") [.ref a]) (EP X pins σ Q) X.xe s := fun its rv hz go => by
    refine go _ fun out h1 h2 => ?_
    obtain ⟨ep, he'⟩ := PyProof.Rows.sortedAll_at s.heap its out.toArray
    have rv' := vals_of_each (f := fun b : D × V => b.2) h2
    have hlen : ((bs.mergeSort (dataLe false fun b => b.1.toP 60)).map (·.2)).length ≤ sizeLine := by
      rw [List.length_map, List.length_mergeSort]
      rwa [List.length_map] at hz
    exact ⟨.ref _, upd H (s.heap.objs.size + 1) (.lst ((bs.mergeSort (dataLe false fun b => b.1.toP 60)).map (·.2))), I.laid (t' := s.toks) (fun _ _ => PyProof.Rows.sortedAll_old) (Nat.le_succ _) ⟨hlen, out, ep, rv', he'⟩, rfl, q _ (I.hok.fresh (Nat.le_succ _))⟩
  have ee : ∀ its : List Value, Vals (bs.map (·.2)) its → EachIs (fun u (b : D × V) => RelV b.2 u) its bs := fun its rv => each_of (f := fun b : D × V => b.2) rv fun b _ u h => h
  have er : ∀ its : List Value, Vals (bs.map (·.2)) its → EachIs (fun v (b : D × V) => ∃ as, PySem.Reads s.heap v (b.1.toP 60) as) its bs := fun its rv => each_of (f := fun b : D × V => b.2) rv fun b hm u h => Dp.reads I _ _ _ (hb b hm).1 h
  have hd : ∀ b, b ∈ bs → X.A.units + 2 + (b.1.toP 60).depth < cLine := fun b hm => by
    have := (hb b hm).2
    omega
  rcases hs with hs | hs
  · obtain ⟨its, rv, hl, hz⟩ := I.list hs
    exact main its rv hz fun Q hQ => sorted_data2 (enc := fun b : D × V => b.1.toP 60) hl.isList (ee its rv) (er its rv) hal hk (by rwa [List.length_map] at hz) hd hQ
  · obtain ⟨its, rv, hl, hz⟩ := I.tuple hs
    exact main its rv hz fun Q hQ => sorted_dataT (enc := fun b : D × V => b.1.toP 60) hl (ee its rv) (er its rv) hal hk (by rwa [List.length_map] at hz) hd hQ
def sortLeD (a b : D) : Bool := !dataLt (b.toP 60) (a.toP 60)
def sortD (xs : List D) : List D := xs.mergeSort sortLeD
def D.neTup (d : D) : Bool := match d with
  | .tup (_ :: _) => true
  | _ => false
def D.atom (d : D) : Bool := match d with
  | .int _ => true
  | .str _ => true
  | _ => false
def sortable (xs : List D) : Bool := (xs.all (D.plain 60)) && (xs.all fun x => xs.all fun y => alike (x.toP 60) (y.toP 60)) && (xs.all D.neTup || xs.all D.atom || (xs.all D.isTup && xs.any fun x => decide (x = .tup [])))
def gSorted : SM1 := fun xs st => if sortable xs then .ok (.ref st.length) (st ++ [.lst (sortD xs)]) else .bad
theorem rds_zip {K : PySem.W.Frag} {m : List Addr} {H : Hp} : ∀ {ds : List D} {vs : List V}, RDs K m H ds vs → (ds.zip vs).map (·.1) = ds ∧ (ds.zip vs).map (·.2) = vs ∧ ∀ b ∈ ds.zip vs, RD K m H b.1 b.2
  | _, _, .nil => ⟨rfl, rfl, fun _ h => nomatch h⟩
  | _, _, .cons h t => by
    obtain ⟨a1, a2, a3⟩ := rds_zip t
    refine ⟨by simp [a1], by simp [a2], fun b hb => ?_⟩
    rw [List.zip_cons_cons] at hb
    rcases List.mem_cons.mp hb with rfl | hb
    · exact h
    · exact a3 b hb
theorem rds_of {K : PySem.W.Frag} {m : List Addr} {H : Hp} : ∀ {bs : List (D × V)}, (∀ b ∈ bs, RD K m H b.1 b.2) → RDs K m H (bs.map (·.1)) (bs.map (·.2))
  | [], _ => .nil
  | b :: bs, h => .cons (h b (List.mem_cons_self ..)) (rds_of fun b hb => h b (List.mem_cons_of_mem _ hb))
theorem s_sorted (hu : X.A.units + 65 < cLine) : CallS X (.builtin "sorted") gSorted := ⟨_, cr_sortedD hu, fun m st H ds v E Q hS r hP => by
  unfold gSorted at hP
  split at hP
  · rename_i hc
    unfold sortable at hc
    simp only [Bool.and_eq_true, Bool.or_eq_true, List.all_eq_true] at hc
    obtain ⟨⟨h1, h2⟩, h3⟩ := hc
    obtain ⟨a, vs, rfl, q, rs⟩ := r
    obtain ⟨z1, z2, z3⟩ := rds_zip rs
    have hmem : ∀ b ∈ ds.zip vs, b.1 ∈ ds := fun b hb => by
      rw [← z1]
      exact List.mem_map_of_mem hb
    have hmap : (ds.zip vs).map (fun b => b.1.toP 60) = ds.map (D.toP 60) := by
      conv => rhs; rw [← z1]
      rw [List.map_map]
      rfl
    refine ⟨a, ds.zip vs, rfl, by rw [z2]; exact q.imp id PlT.sq, fun b hb => ?_, ?_, ?_, ?_⟩
    · obtain ⟨a1, a2, a3⟩ := plain_dp 60 b.1 b.2 (h1 _ (hmem b hb)) (z3 b hb)
      exact ⟨a1, a3⟩
    · rw [hmap]
      intro d hd d' hd'
      obtain ⟨x, hx, rfl⟩ := List.mem_map.mp hd
      obtain ⟨y, hy, rfl⟩ := List.mem_map.mp hd'
      exact h2 x hx y hy
    · rw [hmap]
      rcases h3 with (h3 | h3) | ⟨h3, h4⟩
      · refine .inl (.inl fun d hd => ?_)
        obtain ⟨x, hx, rfl⟩ := List.mem_map.mp hd
        have := h3 x hx
        unfold D.neTup at this
        split at this
        · exact ⟨_, _, rfl⟩
        · cases this
      · refine .inl (.inr fun d hd => ?_)
        obtain ⟨x, hx, rfl⟩ := List.mem_map.mp hd
        have := h3 x hx
        unfold D.atom at this
        split at this
        · exact ⟨nofun, fun _ => nofun⟩
        · exact ⟨nofun, fun _ => nofun⟩
        · cases this
      · refine .inr ⟨fun d hd => ?_, ?_⟩
        · obtain ⟨x, hx, rfl⟩ := List.mem_map.mp hd
          have := h3 x hx
          unfold D.isTup at this
          split at this
          · exact ⟨_, rfl⟩
          · cases this
        · rw [List.any_eq_true] at h4
          obtain ⟨x, hx, e⟩ := h4
          have e := of_decide_eq_true e
          subst e
          exact List.mem_map.mpr ⟨_, hx, rfl⟩
    · have e : (ds.zip vs).mergeSort (dataLe false fun b => b.1.toP 60) = (ds.zip vs).mergeSort (fun b c => sortLeD b.1 c.1) := rfl
      have e2 : ((ds.zip vs).mergeSort (fun b c => sortLeD b.1 c.1)).map (·.1) = sortD ds := by
        refine (sort_maps (s := sortLeD) (Prod.fst : D × V → D) (fun _ _ _ _ => rfl)).trans ?_
        show ((ds.zip vs).map fun b => b.1).mergeSort sortLeD = sortD ds
        rw [z1]
        rfl
      rw [e]
      have z4 : ∀ b ∈ (ds.zip vs).mergeSort (fun b c => sortLeD b.1 c.1), RD X.K m H b.1 b.2 := fun b hb => z3 b (List.mem_mergeSort.mp hb)
      have z5 := rds_of z4
      rw [e2] at z5
      exact hP.lst hS z5
  · exact hP.elim⟩
end
end HM

/-! HM, part M: min of tuples. -/
namespace HM
open PySem PySem.Spec PyProof.Rows L2
section
open PySem.W PySem.Calls
variable {prog : Program} {w : World} {A : Around} {E : Value → Shared → Prop} {s : Shared}
theorem min_list_ix {l : Addr} {vs : Array Value} {ys : List PyData} {as : List Addr} {Q : Value → Shared → Prop} (hh : A.handled = none) (hl : s.heap.IsList l vs) (hr : ReadsAll s.heap vs.toList ys as) (hn : vs.size = ys.length) (h0 : 0 < ys.length) (ha : AlikeAll ys) (hu : A.units + 1 + PyData.depthAll ys < cLine)
    (h : ∀ v h' tk, vs[argBest (fun i j => PySem.W.dataLt (ys.getD i .none) (ys.getD j .none)) (ys.length - 1)]? = some v → (∀ b o, s.heap.get? b = some o → h'.get? b = some o) → Q v { s with heap := h', toks := tk }) :
    wpAny (model prog w) A (call (.builtin "min") [.ref l]) Q E s := by
  refine call_min_walkH (iter_listW (A := A.in1) hh hl fun s₂ e W st hfp hw hk => ?_)
  refine ⟨_, _, _, _, _, _, _, s.heap, _, rfl, W, st, hfp, by omega, hw, hk, cmpIn_lt (A := A.in1) hr ha (by show A.units + 1 + _ < _; exact hu), fun v s' hP m => ?_⟩
  obtain ⟨h', tk, rfl, hk'⟩ := moved_old e rfl m
  rw [hn] at hP
  exact h v h' tk hP hk'
theorem min_tuple_ix {l : Addr} {vs : Array Value} {ys : List PyData} {as : List Addr} {Q : Value → Shared → Prop} (hh : A.handled = none) (hl : s.heap.IsTuple l vs) (hr : ReadsAll s.heap vs.toList ys as) (hn : vs.size = ys.length) (h0 : 0 < ys.length) (ha : AlikeAll ys) (hu : A.units + 1 + PyData.depthAll ys < cLine)
    (h : ∀ v h' tk, vs[argBest (fun i j => PySem.W.dataLt (ys.getD i .none) (ys.getD j .none)) (ys.length - 1)]? = some v → (∀ b o, s.heap.get? b = some o → h'.get? b = some o) → Q v { s with heap := h', toks := tk }) :
    wpAny (model prog w) A (call (.builtin "min") [.ref l]) Q E s := by
  refine call_min_walkH (iter_tupleW (A := A.in1) hh hl fun s₂ e W st hfp hw hk => ?_)
  refine ⟨_, _, _, _, _, _, _, s.heap, _, rfl, W, st, hfp, by omega, hw, hk, cmpIn_lt (A := A.in1) hr ha (by show A.units + 1 + _ < _; exact hu), fun v s' hP m => ?_⟩
  obtain ⟨h', tk, rfl, hk'⟩ := moved_old e rfl m
  rw [hn] at hP
  exact h v h' tk hP hk'
end
section
open PySem.W PySem.Calls
variable {X : Cx} {W : WX} {e o a b c : Expr} {es : List Expr} {pos p : Pos} {f fo fa fb : EM D} {fs : EM (List D)}
/-- the place of the first of the least -/
def minIx (ds : List D) : Nat := argBest (fun i j => PySem.W.dataLt ((ds.getD i .non).toP 60) ((ds.getD j .non).toP 60)) (ds.length - 1)
def minable (xs : List D) : Bool := xs.all D.isTup && xs.all (D.plain 60) && xs.all fun x => xs.all fun y => PySem.W.alike (x.toP 60) (y.toP 60)
def gMinT : SM1 := fun xs st => match (intsD xs).bind minI with
  | some n => .ok (.int n) st
  | none => match minable xs, xs[minIx xs]? with
    | true, some d => .ok d st
    | _, _ => .bad
def rMinD (K : PySem.W.Frag) : List V → Hp → VK → Prop := fun xs H Q => ∃ (a : Addr) (bs : List (D × V)), xs = [.ref a] ∧ (SqL K H a (bs.map (·.2)) ∨ SqT K H a (bs.map (·.2))) ∧ (∀ b ∈ bs, Dp K H b.2 (b.1.toP 60) ∧ (b.1.toP 60).depth ≤ 60) ∧
  AlikeAll (bs.map fun b => b.1.toP 60) ∧ 0 < bs.length ∧ ∀ b, bs[minIx (bs.map (·.1))]? = some b → Q b.2 H
theorem depthAll_le {n : Nat} : ∀ {ys : List PyData}, (∀ y ∈ ys, y.depth ≤ n) → PyData.depthAll ys ≤ n
  | [], _ => by simp [PyData.depthAll]
  | y :: ys, h => by
    have h1 := h y (List.mem_cons_self ..)
    have h2 := depthAll_le (ys := ys) fun z hz => h z (List.mem_cons_of_mem _ hz)
    simp only [PyData.depthAll]
    omega
theorem cr_minD (hc : X.calm = true) (hu : X.A.units + 65 < cLine) : CallR X (.builtin "min") (rMinD X.K) := by
  intro pins s σ H vs us Q I r h
  obtain ⟨a, bs, rfl, hs, hb, hal, h0, q⟩ := h
  rw [Vals.ref1 r]
  have ee : ∀ its : List Value, Vals (bs.map (·.2)) its → EachIs (fun u (b : D × V) => RelV b.2 u) its bs := fun its rv => each_of (f := fun b : D × V => b.2) rv fun b _ u h => h
  have er : ∀ its : List Value, Vals (bs.map (·.2)) its → EachIs (fun v (b : D × V) => ∃ as, PySem.Reads s.heap v (b.1.toP 60) as) its bs := fun its rv => each_of (f := fun b : D × V => b.2) rv fun b hm u h => Dp.reads I _ _ _ (hb b hm).1 h
  have hd : PyData.depthAll (bs.map fun b => b.1.toP 60) ≤ 60 := depthAll_le fun y hy => by
    obtain ⟨b, hb', rfl⟩ := List.mem_map.mp hy
    exact (hb b hb').2
  have ix : argBest (fun i j => PySem.W.dataLt ((bs.map fun b => b.1.toP 60).getD i .none) ((bs.map fun b => b.1.toP 60).getD j .none)) ((bs.map fun b => b.1.toP 60).length - 1) = minIx (bs.map (·.1)) := by
    unfold minIx
    have g : ∀ i, (bs.map fun b => b.1.toP 60).getD i .none = ((bs.map (·.1)).getD i D.non).toP 60 := fun i => by
      simp only [List.getD_eq_getElem?_getD, List.getElem?_map]
      cases bs[i]? <;> simp [D.toP]
    simp only [g, List.length_map]
  have fin : ∀ its : List Value, Vals (bs.map (·.2)) its → ∀ v h' tk, its.toArray[minIx (bs.map (·.1))]? = some v → (∀ b o, s.heap.get? b = some o → h'.get? b = some o) → EP X pins σ Q v { s with heap := h', toks := tk } := fun its rv v h' tk hv hk => by
    have hv' : its[minIx (bs.map (·.1))]? = some v := by simpa using hv
    have len := EachIs.length (ee its rv)
    have hi := (List.getElem?_eq_some_iff.mp hv').1
    have hb' : bs[minIx (bs.map (·.1))]? = some bs[minIx (bs.map (·.1))] := List.getElem?_eq_getElem (by omega)
    obtain ⟨u, hu', ru⟩ := rv.get (i := minIx (bs.map (·.1))) (x := (bs[minIx (bs.map (·.1))]'(by omega)).2) (by rw [List.getElem?_map, hb']; rfl)
    rw [hv'] at hu'
    cases hu'
    exact ⟨_, H, I.kept hk, ru, q _ hb'⟩
  have sz : ∀ its : List Value, Vals (bs.map (·.2)) its → its.toArray.size = (bs.map fun b => b.1.toP 60).length := fun its rv => by
    have len := EachIs.length (ee its rv)
    simp
    omega
  have l0 : 0 < (bs.map fun b => b.1.toP 60).length := by rw [List.length_map]; exact h0
  rcases hs with hs | hs
  · obtain ⟨its, rv, hl, hz⟩ := I.list hs
    obtain ⟨as, ra⟩ := PySem.W.each_readsAll (fun b : D × V => b.1.toP 60) (er its rv)
    refine min_list_ix (vs := its.toArray) (I.ok.hd hc) hl.isList (by simpa using ra) (sz its rv) l0 hal (by omega) fun v h' tk hv hk => ?_
    rw [ix] at hv
    exact fin its rv v h' tk hv hk
  · obtain ⟨its, rv, hl, hz⟩ := I.tuple hs
    obtain ⟨as, ra⟩ := PySem.W.each_readsAll (fun b : D × V => b.1.toP 60) (er its rv)
    obtain ⟨ob, ho, hcl, n, hd'⟩ := hl
    refine min_tuple_ix (vs := its.toArray) (I.ok.hd hc) ⟨ob, ho, hcl, n, hd'⟩ (by simpa using ra) (sz its rv) l0 hal (by omega) fun v h' tk hv hk => ?_
    rw [ix] at hv
    exact fin its rv v h' tk hv hk
theorem sv_minD (hc : X.calm = true) (hu : X.A.units + 65 < cLine) : CallS X (.builtin "min") gMinT := ⟨_, ((cr_min hc).or (cr_minT hc)).or (cr_minD hc hu), fun m st H ds v E Q hS r hP => by
  obtain ⟨a, vs, rfl, q, rs⟩ := r
  unfold gMinT at hP
  split at hP
  · rename_i k hk
    cases hn : intsD ds with
    | none =>
      rw [hn] at hk
      cases hk
    | some ns =>
      rw [hn] at hk
      have hk : minI ns = some k := hk
      have e := intsD_V rs hn
      subst e
      have fin : ∀ mm, mm ∈ ns → (∀ y, y ∈ ns → mm ≤ y) → Q (.int mm) H := fun mm hm hy => by
        rw [min_uniq hk hm hy]
        exact hP.now hS (.int _)
      rcases q with q | q
      · exact .inl (.inl ⟨a, ns, rfl, q, minI_pos hk, fin⟩)
      · exact .inl (.inr ⟨a, ns, rfl, q.sq, minI_pos hk, fin⟩)
  · split at hP
    · rename_i d hm hd
      unfold minable at hm
      simp only [Bool.and_eq_true, List.all_eq_true] at hm
      obtain ⟨⟨h0, h1⟩, h2⟩ := hm
      obtain ⟨z1, z2, z3⟩ := rds_zip rs
      have hmem : ∀ b ∈ ds.zip vs, b.1 ∈ ds := fun b hb => by
        rw [← z1]
        exact List.mem_map_of_mem hb
      have hmap : (ds.zip vs).map (fun b => b.1.toP 60) = ds.map (D.toP 60) := by
        conv => rhs; rw [← z1]
        rw [List.map_map]
        rfl
      refine .inr ⟨a, ds.zip vs, rfl, by rw [z2]; exact q.imp id PlT.sq, fun b hb => ?_, ?_, ?_, fun b hb => ?_⟩
      · obtain ⟨a1, a2, a3⟩ := plain_dp 60 b.1 b.2 (h1 _ (hmem b hb)) (z3 b hb)
        exact ⟨a1, a3⟩
      · rw [hmap]
        refine ⟨fun d hd d' hd' => ?_, fun d hd => ?_⟩
        · obtain ⟨x, hx, rfl⟩ := List.mem_map.mp hd
          obtain ⟨y, hy, rfl⟩ := List.mem_map.mp hd'
          exact h2 x hx y hy
        · obtain ⟨x, hx, rfl⟩ := List.mem_map.mp hd
          exact toP_tup (h0 x hx)
      · have : (ds.zip vs).length = ds.length := by rw [← z1, List.length_map, z1]
        rw [this]
        have := (List.getElem?_eq_some_iff.mp hd).1
        omega
      · rw [z1] at hb
        have e : b.1 = d := by
          have : ((ds.zip vs).map (·.1))[minIx ds]? = some b.1 := by rw [List.getElem?_map, hb]; rfl
          rw [z1, hd] at this
          exact (Option.some.inj this).symm
        have rb := z3 b (List.mem_of_getElem? hb)
        rw [e] at rb
        exact hP.now hS rb
    · exact hP.elim⟩
/-! ### index -/
def mIndexT : MM := fun d ds st => match d, ds with
  | .tup xs, [.int k] => match intsD xs with
    | some ns => if k ∈ ns then .ok (.int (ns.idxOf k : Nat)) st else .bad
    | none => .bad
  | _, _ => .bad
theorem me_indexT : MethM X "tuple.index" mIndexT := ⟨fun v vs H Q => ∃ (p : Addr) (ns : List Int) (k : Int), v = .ref p ∧ vs = [.int k] ∧ SqT X.K H p (ns.map V.int) ∧ k ∈ ns ∧ Q (.int (ns.idxOf k : Nat)) H,
  fun pins s σ H x xs v us Q I r rs h => by
    obtain ⟨p, ns, k, rfl, rfl, hq, hk, q⟩ := h
    cases r
    obtain ⟨u, rfl, ru⟩ := vals1 rs
    obtain ⟨t, rfl⟩ := ru
    obtain ⟨its, rv, ⟨ob, ho, hc, n, hd⟩, hz⟩ := I.tuple hq
    exact PySem.SeqAt.tuple_index_ints (vs := its) ⟨ob, ho, hc, n, hd⟩ rv.ints hk ⟨.int _, H, I.tok _, ⟨_, rfl⟩, q⟩,
  fun m st H d v ds vs E Q hS r rs hP => by
    unfold mIndexT at hP
    split at hP
    · split at hP
      · rename_i ns hn
        split at hP
        · rename_i hk
          cases r with
          | tup q r2 =>
            obtain ⟨w, rfl, rw'⟩ := rs.one
            cases rw'
            have e := intsD_V r2 hn
            subst e
            exact ⟨_, ns, _, rfl, rfl, q.sq, hk, hP.now hS (.int _)⟩
        · exact hP.elim
      · exact hP.elim
    · exact hP.elim⟩
def mIndexL : MM := fun d ds st => match d, ds with
  | .ref n, [.int k] => match (lstAt st n).bind intsD with
    | some ns => if k ∈ ns then .ok (.int (ns.idxOf k : Nat)) st else .bad
    | none => .bad
  | _, _ => .bad
theorem me_indexL : MethM X "list.index" mIndexL := ⟨fun v vs H Q => ∃ (p : Addr) (ns : List Int) (k : Int), v = .ref p ∧ vs = [.int k] ∧ SqL X.K H p (ns.map V.int) ∧ k ∈ ns ∧ Q (.int (ns.idxOf k : Nat)) H,
  fun pins s σ H x xs v us Q I r rs h => by
    obtain ⟨p, ns, k, rfl, rfl, hq, hk, q⟩ := h
    cases r
    obtain ⟨u, rfl, ru⟩ := vals1 rs
    obtain ⟨t, rfl⟩ := ru
    obtain ⟨its, rv, hl, hz⟩ := I.list hq
    exact PySem.SeqAt.list_index_ints (vs := its) hl.isList rv.ints (by rw [← List.length_map (f := V.int)]; exact hz) hk ⟨.int _, H, I.tok _, ⟨_, rfl⟩, q⟩,
  fun m st H d v ds vs E Q hS r rs hP => by
    unfold mIndexL at hP
    split at hP
    · split at hP
      · rename_i ns hn
        split at hP
        · rename_i hk
          cases r with
          | ref q =>
            obtain ⟨w, rfl, rw'⟩ := rs.one
            cases rw'
            obtain ⟨xs, hx, hn⟩ := Option.bind_eq_some_iff.mp hn
            obtain ⟨us, h1, h2⟩ := hS.list hx q
            have e := intsD_V h2 hn
            subst e
            exact ⟨_, ns, _, rfl, rfl, SqL.of h1, hk, hP.now hS (.int _)⟩
        · exact hP.elim
      · exact hP.elim
    · exact hP.elim⟩
end
end HM

/-! HM, part S: how mirrors are computed (simp). -/
namespace HM
open PySem PySem.Spec PyProof.Rows L2
section
variable {α β : Type} {τ : Sl} {st : Store} {f g h fa fb fc fe fo fi : EM D} {fs : EM (List D)} {ga gb : EM Bool} {i n : Nat} {d : D} {u v : SM}
@[simp] theorem eVar_e (hh : τ[i]? = some (some d)) : eVar i τ st = .ok d st := by unfold eVar; rw [hh]
@[simp] theorem eC_e : eC d τ st = .ok d st := rfl
@[simp] theorem eBin_e {o : O2} : eBin o fa fb τ st = (fa τ st).bind fun x s1 => (fb τ s1).bind fun y s2 => o x y s2 := rfl
@[simp] theorem eUn_e {o : O1} : eUn o fa τ st = (fa τ st).bind o := rfl
@[simp] theorem tBl_e : tBl fa τ st = (fa τ st).bind dBl := rfl
@[simp] theorem dBl_e {b : Bool} : dBl (.bl b) st = .ok b st := rfl
def oTru (d : D) (st : Store) : ER Bool := match dTru st d with
  | some b => .ok b st
  | none => .bad
@[simp] theorem tVal_e : tVal fa τ st = (fa τ st).bind oTru := rfl
@[simp] theorem oTru_bl {b : Bool} : oTru (.bl b) st = .ok b st := rfl
@[simp] theorem oTru_int {k : Int} : oTru (.int k) st = .ok (k != 0) st := rfl
@[simp] theorem oTru_non : oTru .non st = .ok false st := rfl
@[simp] theorem oTru_tup {xs : List D} : oTru (.tup xs) st = .ok (!xs.isEmpty) st := rfl
@[simp] theorem tAnd_e : HM.tAnd ga gb τ st = (ga τ st).bind fun x s1 => if x then gb τ s1 else .ok false s1 := rfl
@[simp] theorem tOr_e : HM.tOr ga gb τ st = (ga τ st).bind fun x s1 => if x then .ok true s1 else gb τ s1 := rfl
@[simp] theorem tNot_e : HM.tNot ga τ st = (ga τ st).bind fun x s1 => .ok (!x) s1 := rfl
@[simp] theorem tYes_e : HM.tYes τ st = .ok true st := rfl
def oAndV (k : Store → ER D) (d : D) (st : Store) : ER D := match dTru st d with
  | some true => k st
  | some false => .ok d st
  | none => .bad
def oOrV (k : Store → ER D) (d : D) (st : Store) : ER D := match dTru st d with
  | some true => .ok d st
  | some false => k st
  | none => .bad
def oNotV (d : D) (st : Store) : ER D := match dTru st d with
  | some b => .ok (.bl !b) st
  | none => .bad
@[simp] theorem eAnd_e : eAnd fa fb τ st = (fa τ st).bind (oAndV (fb τ)) := rfl
@[simp] theorem eOr_e : eOr fa fb τ st = (fa τ st).bind (oOrV (fb τ)) := rfl
@[simp] theorem eNot_e : eNot fa τ st = (fa τ st).bind oNotV := rfl
@[simp] theorem oAndV_bl {k : Store → ER D} {b : Bool} : oAndV k (.bl b) st = if b then k st else .ok (.bl false) st := by cases b <;> rfl
@[simp] theorem oOrV_bl {k : Store → ER D} {b : Bool} : oOrV k (.bl b) st = if b then .ok (.bl true) st else k st := by cases b <;> rfl
@[simp] theorem oNotV_bl {b : Bool} : oNotV (.bl b) st = .ok (.bl !b) st := rfl
@[simp] theorem eIf_e : eIf ga fa fb τ st = (ga τ st).bind fun x s1 => if x then fa τ s1 else fb τ s1 := rfl
@[simp] theorem aNil_e : aNil τ st = .ok [] st := rfl
@[simp] theorem aCons_e : aCons f fs τ st = (f τ st).bind fun x s1 => (fs τ s1).bind fun xs s2 => .ok (x :: xs) s2 := rfl
@[simp] theorem eTup_e : eTup fs τ st = (fs τ st).bind fun xs s1 => if xs.length ≤ 16777216 then .ok (.tup xs) s1 else .bad := rfl
@[simp] theorem eLst_e : eLst fs τ st = (fs τ st).bind fun xs s1 => if xs.length ≤ 16777216 then .ok (.ref s1.length) (s1 ++ [.lst xs]) else .bad := rfl
@[simp] theorem eCall_e {mf : FM} : eCall n mf fs τ st = (fs τ st).bind fun ds s1 => if ds.length = n then mf ds s1 else .bad := rfl
@[simp] theorem eCB_e {mf : FM} : eCB mf fs τ st = (fs τ st).bind mf := rfl
@[simp] theorem eCS_e {g : SM1} : eCS g fs τ st = (fs τ st).bind g := rfl
@[simp] theorem eEl_e : eEl fs τ st = (fs τ st).bind fun ds s1 => .ok (.ref s1.length) (s1 ++ [.lst ds]) := rfl
def oSeq (d : D) (st : Store) : ER (List D) := match dSeq st d with
  | some xs => .ok xs st
  | none => .bad
@[simp] theorem sEx_e : sEx f τ st = (f τ st).bind oSeq := rfl
@[simp] theorem oSeq_tup {xs : List D} : oSeq (.tup xs) st = .ok xs st := rfl
@[simp] theorem oSeq_rol {xs : List D} : oSeq (.rol xs) st = .ok xs st := rfl
@[simp] theorem eChain_e {o o' : O2} : eChain o o' fa fb fc τ st = (fa τ st).bind fun x s1 => (fb τ s1).bind fun y s2 => (o x y s2).bind fun z s3 => match z with
  | .bl true => (fc τ s3).bind fun w s4 => o' y w s4
  | .bl false => .ok (.bl false) s3
  | _ => .bad := rfl
/-! values -/
@[simp] theorem oAdd_int {i j : Int} : oAdd (.int i) (.int j) st = .ok (.int (i + j)) st := rfl
@[simp] theorem oIAdd_int {i j : Int} : oIAdd (.int i) (.int j) st = .ok (.int (i + j)) st := rfl
@[simp] theorem oAdd_str {a b : List Nat} : oAdd (.str a) (.str b) st = if a.length + b.length ≤ 16777216 then .ok (.str (a ++ b)) st else .bad := rfl
@[simp] theorem oAdd_tup {a b : List D} : oAdd (.tup a) (.tup b) st = if a.length + b.length ≤ 16777216 then .ok (.tup (a ++ b)) st else .bad := rfl
@[simp] theorem oInt_e {i j : Int} {k : Int → Int → Int} : oInt k (.int i) (.int j) st = .ok (.int (k i j)) st := rfl
@[simp] theorem oIntC_e {i j : Int} {C : Int → Int → Bool} {k : Int → Int → Int} (hc : C i j = true) : oIntC C k (.int i) (.int j) st = .ok (.int (k i j)) st := by
  show (if C i j = true then _ else _) = _
  rw [if_pos hc]
@[simp] theorem oCmp_e {i j : Int} {k : Int → Int → Bool} : oCmp k (.int i) (.int j) st = .ok (.bl (k i j)) st := rfl
@[simp] theorem oNeg_e {i : Int} : oNeg (.int i) st = .ok (.int (-i)) st := rfl
@[simp] theorem oEq_int {i j : Int} : oEq (.int i) (.int j) st = .ok (.bl (decide (i = j))) st := rfl
@[simp] theorem oNe_int {i j : Int} : oNe (.int i) (.int j) st = .ok (.bl !(decide (i = j))) st := rfl
@[simp] theorem oEq_str {a b : List Nat} : oEq (.str a) (.str b) st = .ok (.bl (decide (a = b))) st := rfl
@[simp] theorem oNe_str {a b : List Nat} : oNe (.str a) (.str b) st = .ok (.bl !(decide (a = b))) st := rfl
@[simp] theorem oEq_bl {a b : Bool} : oEq (.bl a) (.bl b) st = .ok (.bl (decide (a = b))) st := rfl
@[simp] theorem oNe_bl {a b : Bool} : oNe (.bl a) (.bl b) st = .ok (.bl !(decide (a = b))) st := rfl
@[simp] theorem oEq_tup {a b : List D} (ha : (D.tup a).plain 60 = true) (hb : (D.tup b).plain 60 = true) : oEq (.tup a) (.tup b) st = .ok (.bl (decide (a = b))) st := by
  simp [oEq, dEq, D.pd, ha, hb]
@[simp] theorem oNe_tup {a b : List D} (ha : (D.tup a).plain 60 = true) (hb : (D.tup b).plain 60 = true) : oNe (.tup a) (.tup b) st = .ok (.bl !(decide (a = b))) st := by
  simp [oNe, dEq, D.pd, ha, hb]
@[simp] theorem plain_tup {n : Nat} {xs : List D} : (D.tup xs).plain (n + 1) = xs.all (D.plain n) := rfl
@[simp] theorem plain_int {n : Nat} {k : Int} : (D.int k).plain n = true := by cases n <;> rfl
@[simp] theorem plain_non {n : Nat} : D.non.plain n = true := by cases n <;> rfl
@[simp] theorem plain_str {n : Nat} {x : List Nat} : (D.str x).plain n = x.all fun c => decide (c < 1114112) := by cases n <;> rfl
@[simp] theorem oIs_bl {a b : Bool} : oIs (.bl a) (.bl b) st = .ok (.bl (decide (a = b))) st := rfl
@[simp] theorem oIsNot_bl {a b : Bool} : oIsNot (.bl a) (.bl b) st = .ok (.bl !(decide (a = b))) st := rfl
@[simp] theorem oIs_non : oIs .non .non st = .ok (.bl true) st := rfl
@[simp] theorem oIs_int {i : Int} : oIs (.int i) .non st = .ok (.bl false) st := rfl
@[simp] theorem oIs_tup {xs : List D} : oIs (.tup xs) .non st = .ok (.bl false) st := rfl
@[simp] theorem oIsNot_non : oIsNot .non .non st = .ok (.bl false) st := rfl
@[simp] theorem oIsNot_int {i : Int} : oIsNot (.int i) .non st = .ok (.bl true) st := rfl
@[simp] theorem oIsNot_tup {xs : List D} : oIsNot (.tup xs) .non st = .ok (.bl true) st := rfl
def ofO (st : Store) : Option D → ER D
  | some d => .ok d st
  | none => .bad
@[simp] theorem ofO_some : ofO st (some d) = .ok d st := rfl
@[simp] theorem oIx_tup {xs : List D} {k : Int} : oIx (.tup xs) (.int k) st = ofO st (atI xs k) := by
  unfold oIx oIxS ofO
  simp only <;> (split <;> simp_all)
theorem oIx_ref {xs : List D} {m : Nat} {k : Int} (hh : lstAt st m = some xs) : oIx (.ref m) (.int k) st = ofO st (atI xs k) := by
  unfold oIx oIxS ofO
  simp only [dct_lst hh, hh] <;> (split <;> simp_all)
/-- d[k] -/
theorem oIx_dct {kvs : List (D × D)} {m : Nat} {k d : D} (hh : dctAt st m = some kvs) (hf : keyFit kvs k = true) (hg : dGet kvs k = some d) : oIx (.ref m) k st = .ok d st := by
  unfold oIx
  simp only [hh, hf, hg, if_true]
@[simp] theorem oLt_int {i j : Int} : oLt (.int i) (.int j) st = .ok (.bl (decide (i < j))) st := rfl
@[simp] theorem eDct_e : eDct τ st = .ok (.ref st.length) (st ++ [.dct []]) := rfl
@[simp] theorem atI_0 {α : Type} {x : α} {xs : List α} : atI (x :: xs) 0 = some x := by simp [atI, ixN]
@[simp] theorem atI_1 {α : Type} {x y : α} {xs : List α} : atI (x :: y :: xs) 1 = some y := atI_nat (j := 1) rfl
@[simp] theorem atI_2 {α : Type} {x y z : α} {xs : List α} : atI (x :: y :: z :: xs) 2 = some z := atI_nat (j := 2) rfl
@[simp] theorem atI_3 {α : Type} {x y z w : α} {xs : List α} : atI (x :: y :: z :: w :: xs) 3 = some w := atI_nat (j := 3) rfl
/-! built-ins -/
@[simp] theorem fInt_int {i : Int} : fInt [.int i] st = .ok (.int i) st := rfl
@[simp] theorem fInt_bl {b : Bool} : fInt [.bl b] st = .ok (.int (if b then 1 else 0)) st := rfl
@[simp] theorem fAbs_e {i : Int} : fAbs [.int i] st = .ok (.int (i.natAbs : Nat)) st := rfl
@[simp] theorem fGcd_e {i j : Int} : fGcd [.int i, .int j] st = .ok (.int (Nat.gcd i.natAbs j.natAbs : Nat)) st := rfl
@[simp] theorem fLen_tup {xs : List D} : fLen [.tup xs] st = .ok (.int xs.length) st := rfl
@[simp] theorem fLen_rol {xs : List D} : fLen [.rol xs] st = .ok (.int xs.length) st := rfl
theorem fLen_ref {xs : List D} {m : Nat} (hh : lstAt st m = some xs) : fLen [.ref m] st = .ok (.int xs.length) st := by simp [fLen, fLenS, dSeq, hh, dct_lst hh]
theorem fLen_dct {kvs : List (D × D)} {m : Nat} (hh : dctAt st m = some kvs) : fLen [.ref m] st = .ok (.int kvs.length) st := by simp [fLen, hh]
@[simp] theorem fTuple_tup {xs : List D} : fTuple [.tup xs] st = .ok (.tup xs) st := rfl
theorem fTuple_ref {xs : List D} {m : Nat} (hh : lstAt st m = some xs) : fTuple [.ref m] st = .ok (.tup xs) st := by simp [fTuple, dSeq, hh]
@[simp] theorem gTuple_e {xs : List D} : gTuple xs st = .ok (.tup xs) st := rfl
@[simp] theorem gLen_e {xs : List D} : gLen xs st = .ok (.int xs.length) st := rfl
@[simp] theorem fMin2_e {i j : Int} : fMin2 [.int i, .int j] st = .ok (.int (if j < i then j else i)) st := rfl
@[simp] theorem fMax2_e {i j : Int} : fMax2 [.int i, .int j] st = .ok (.int (if j > i then j else i)) st := rfl
theorem fIsi_e {t c : String} {b : Bool} (h1 : dTy st d = some t) (h2 : isiT t c = some b) : fIsi [d, .ty c] st = .ok (.bl b) st := by simp [fIsi, h1, h2]
theorem isi1 : isiT "int" "int" = some true := by decide +kernel
theorem isi2 : isiT "int" "bool" = some false := by decide +kernel
theorem isi3 : isiT "bool" "int" = some true := by decide +kernel
theorem isi4 : isiT "bool" "bool" = some true := by decide +kernel
theorem isi5 : isiT "tuple" "tuple" = some true := by decide +kernel
theorem isi6 : isiT "tuple" "int" = some false := by decide +kernel
theorem isi7 : isiT "str" "str" = some true := by decide +kernel
theorem isi8 : isiT "str" "int" = some false := by decide +kernel
theorem isi9 : isiT "NoneType" "int" = some false := by decide +kernel
@[simp] theorem fIsi_ii {i : Int} : fIsi [.int i, .ty "int"] st = .ok (.bl true) st := fIsi_e rfl isi1
@[simp] theorem fIsi_ib {i : Int} : fIsi [.int i, .ty "bool"] st = .ok (.bl false) st := fIsi_e rfl isi2
@[simp] theorem fIsi_bi {i : Bool} : fIsi [.bl i, .ty "int"] st = .ok (.bl true) st := fIsi_e rfl isi3
@[simp] theorem fIsi_bb {i : Bool} : fIsi [.bl i, .ty "bool"] st = .ok (.bl true) st := fIsi_e rfl isi4
@[simp] theorem fIsi_tt {xs : List D} : fIsi [.tup xs, .ty "tuple"] st = .ok (.bl true) st := fIsi_e rfl isi5
@[simp] theorem fIsi_ti {xs : List D} : fIsi [.tup xs, .ty "int"] st = .ok (.bl false) st := fIsi_e rfl isi6
@[simp] theorem fIsi_ss {x : List Nat} : fIsi [.str x, .ty "str"] st = .ok (.bl true) st := fIsi_e rfl isi7
@[simp] theorem fIsi_si {x : List Nat} : fIsi [.str x, .ty "int"] st = .ok (.bl false) st := fIsi_e rfl isi8
@[simp] theorem fIsi_ni : fIsi [.non, .ty "int"] st = .ok (.bl false) st := fIsi_e rfl isi9
/-! statements -/
def SR.seq (r : SR) (k : SM) : SR := match r with
  | .nx τ s => k τ s
  | r => r
@[simp] theorem seq_nx {k : SM} : (SR.nx τ st).seq k = k τ st := rfl
@[simp] theorem seq_rt {k : SM} : (SR.rt d st).seq k = .rt d st := rfl
@[simp] theorem seq_bad {k : SM} : SR.bad.seq k = .bad := rfl
@[simp] theorem seq_exc {x : Xc} {k : SM} : (SR.exc x τ st).seq k = .exc x τ st := rfl
@[simp] theorem seq_bk {k : SM} : (SR.bk τ st).seq k = .bk τ st := rfl
@[simp] theorem seq_ct {k : SM} : (SR.ct τ st).seq k = .ct τ st := rfl
@[simp] theorem sSeq_e : sSeq u v τ st = (u τ st).seq v := by
  unfold sSeq SR.seq
  rfl
@[simp] theorem sNil_e : sNil τ st = .nx τ st := rfl
@[simp] theorem sIf_e : sIf ga u v τ st = bindE (ga τ st) τ fun b s1 => if b then u τ s1 else v τ s1 := rfl
@[simp] theorem sSet_e : sSet i fe τ st = bindE (fe τ st) τ fun d s1 => .nx (τ.set i (some d)) s1 := rfl
@[simp] theorem sRet_e : sRet fe τ st = bindE (fe τ st) τ fun d s1 => .rt d s1 := rfl
@[simp] theorem sRetN_e : sRetN τ st = .rt .non st := rfl
@[simp] theorem sExpr_e : sExpr fe τ st = bindE (fe τ st) τ fun _ s1 => .nx τ s1 := rfl
@[simp] theorem sRaise_e {x : Xc} : sRaise x τ st = .exc x τ st := rfl
@[simp] theorem sBrk_e : sBrk τ st = .bk τ st := rfl
@[simp] theorem sCnt_e : sCnt τ st = .ct τ st := rfl
@[simp] theorem bindE_bind {r : ER α} {k : α → Store → ER β} {k' : β → Store → SR} : bindE (r.bind k) τ k' = bindE r τ fun a s => bindE (k a s) τ k' := by cases r <;> rfl
@[simp] theorem bind_bind {γ : Type} {r : ER α} {k : α → Store → ER β} {k' : β → Store → ER γ} : (r.bind k).bind k' = r.bind fun a s => (k a s).bind k' := by cases r <;> rfl
@[simp] theorem bind_ite {c : Prop} [Decidable c] {r r' : ER α} {k : α → Store → ER β} : (if c then r else r').bind k = if c then r.bind k else r'.bind k := by split <;> rfl
@[simp] theorem bindE_ite {c : Prop} [Decidable c] {r r' : ER α} {k : α → Store → SR} : bindE (if c then r else r') τ k = if c then bindE r τ k else bindE r' τ k := by split <;> rfl
def SR.fin : SR → ER D
  | .nx _ s => .ok .non s
  | .rt d s => .ok d s
  | .exc x _ s => .exc x s
  | _ => .bad
@[simp] theorem fin_nx : (SR.nx τ st).fin = .ok .non st := rfl
@[simp] theorem fin_rt : (SR.rt d st).fin = .ok d st := rfl
@[simp] theorem fin_exc {x : Xc} : (SR.exc x τ st).fin = .exc x st := rfl
@[simp] theorem fin_bad : SR.bad.fin = .bad := rfl
theorem runB_e {ds : List D} : runB n u ds st = (u (ent n ds) st).fin := rfl
@[simp] theorem fin_ite {c : Prop} [Decidable c] {r r' : SR} : (if c then r else r').fin = if c then r.fin else r'.fin := by split <;> rfl
@[simp] theorem seq_ite {c : Prop} [Decidable c] {r r' : SR} {k : SM} : (if c then r else r').seq k = if c then r.seq k else r'.seq k := by split <;> rfl
@[simp] theorem ent_0 : ent n [] = List.replicate n none := by simp [ent]
@[simp] theorem ent_cons {x : D} {xs : List D} : ent (n + 1) (x :: xs) = some x :: ent n xs := by
  simp [ent]
end
end HM

/-! HM, part T: lists written to, loops, the draws' store. -/
namespace HM
open PySem PySem.Spec PyProof.Rows L2
section
variable {α β : Type} {τ : Sl} {st : Store} {f g h fa fb fc fe fo fi : EM D} {fs : EM (List D)} {ga gb : EM Bool} {i n m : Nat} {d v : D} {xs ys : List D} {u w : SM}
theorem lstAt_set (hh : lstAt st n = some xs) : lstAt (st.set n (.lst ys)) n = some ys := by
  have : n < st.length := by
    unfold lstAt at hh
    split at hh
    · rename_i e
      exact (List.getElem?_eq_some_iff.mp e).1
    · cases hh
  simp [lstAt, this]
theorem lstAt_ne {c : Cell} (hh : m ≠ n) : lstAt (st.set n c) m = lstAt st m := by
  unfold lstAt
  rw [List.getElem?_set_ne (Ne.symm hh)]
theorem oSet_ref {k : Int} {j : Nat} (hh : lstAt st m = some xs) (hj : ixN xs.length k = some j) : oSet (.ref m) (.int k) v st = some (st.set m (.lst (xs.set j v))) := by
  simp [oSet, oSetS, dct_lst hh, hh, hj]
theorem oSet_dct {kvs : List (D × D)} {k : D} (hh : dctAt st m = some kvs) (hf : keyFit kvs k = true) (hl : kvs.length < 16777216) : oSet (.ref m) k v st = some (st.set m (.dct (dPut kvs k v))) := by
  simp [oSet, hh, hf, hl]
theorem oGetL_ref {k : Int} (hh : lstAt st m = some xs) : oGetL (.ref m) (.int k) st = ofO st (atI xs k) := by
  unfold oGetL oGetLS ofO
  simp only [dct_lst hh, hh] <;> (split <;> simp_all)
def ofS (τ : Sl) : Option Store → SR
  | some s => .nx τ s
  | none => .bad
@[simp] theorem ofS_some : ofS τ (some st) = .nx τ st := rfl
@[simp] theorem sSub_e : sSub fo fi fe τ st = bindE (fe τ st) τ fun v s1 => bindE (fo τ s1) τ fun o s2 => bindE (fi τ s2) τ fun i s3 => ofS τ (oSet o i v s3) := by
  unfold sSub ofS
  rfl
@[simp] theorem sAugS_e {o : O2} : sAugS o fo fi fe τ st = bindE (fo τ st) τ fun x s1 => bindE (fi τ s1) τ fun i s2 => bindE (oGetL x i s2) τ fun y s3 => bindE (fe τ s3) τ fun z s4 => bindE (o y z s4) τ fun v s5 => ofS τ (oSet x i v s5) := by
  unfold sAugS ofS
  rfl
theorem sAug_e {o : O2} (hh : τ[i]? = some (some d)) : sAug i o fe τ st = bindE (fe τ st) τ fun y s1 => bindE (o d y s1) τ fun z s2 => .nx (τ.set i (some z)) s2 := by
  unfold sAug
  rw [hh]
def ofA (set : D → Sl → Option Sl) (τ : Sl) (d : D) (st : Store) : SR := match set d τ with
  | some τ1 => .nx τ1 st
  | none => .bad
@[simp] theorem sAsg_e {set : D → Sl → Option Sl} : sAsg set fe τ st = bindE (fe τ st) τ (ofA set τ) := rfl
@[simp] theorem okMul_l {i j : Int} (hh : i.natAbs < 18446744073709551616) : okMul i j = true := decide_eq_true (.inl (.inl hh))
@[simp] theorem okMul_r {i j : Int} (hh : j.natAbs < 18446744073709551616) : okMul i j = true := decide_eq_true (.inl (.inr hh))
theorem okMod_of {i j : Int} (hh : j ≠ 0) : okMod i j = true := decide_eq_true hh
theorem okDiv_of {i j : Int} (hh : j ≠ 0) (h2 : j.natAbs.log2 < 9000) : okDiv i j = true := decide_eq_true ⟨hh, h2⟩
theorem log2_le {x k : Nat} (h : x < 2 ^ k) : x.log2 ≤ k := by
  by_cases z : x = 0
  · subst z
    exact Nat.zero_le _
  · exact Nat.le_of_lt ((Nat.log2_lt z).mpr h)
/-! for loops -/
theorem sFor_e {fi : EM Sq} {set : D → Sl → Option Sl} : sFor fi set u τ st = bindE (fi τ st) τ fun q s1 => forL q set u q.items τ s1 := rfl
def ofQ (st : Store) : Option Sq → ER Sq
  | some q => .ok q st
  | none => .bad
@[simp] theorem ofQ_some {q : Sq} : ofQ st (some q) = .ok q st := rfl
@[simp] theorem iEx_e : iEx f τ st = (f τ st).bind fun d s1 => ofQ s1 (dSq s1 d) := by
  unfold iEx ofQ
  rfl
@[simp] theorem dSq_tup : dSq st (.tup xs) = some (.fix xs) := rfl
@[simp] theorem dSq_rol : dSq st (.rol xs) = some (.fix xs) := rfl
theorem dSq_ref (hh : lstAt st n = some xs) : dSq st (.ref n) = some (.cell n xs) := by simp [dSq, hh]
@[simp] theorem items_fix : (Sq.fix xs).items = xs := rfl
@[simp] theorem items_cell : (Sq.cell n xs).items = xs := rfl
@[simp] theorem iEl_e : iEl fs τ st = (fs τ st).bind fun xs s1 => .ok (.fix xs) s1 := rfl
def rg1 (d : D) (st : Store) : ER Sq := match d with
  | .int j => if okRng j then .ok (.fix (rng 0 j)) st else .bad
  | _ => .bad
def rg2 (d e : D) (st : Store) : ER Sq := match d, e with
  | .int i, .int j => if okRng i && okRng j then .ok (.fix (rng i j)) st else .bad
  | _, _ => .bad
@[simp] theorem iRg1_e : iRg1 f τ st = (f τ st).bind rg1 := rfl
@[simp] theorem iRg2_e : iRg2 fa fb τ st = (fa τ st).bind fun d s1 => (fb τ s1).bind fun e s2 => rg2 d e s2 := rfl
theorem okRng_of {j : Int} (hh : j.natAbs < 4611686018427387904) : okRng j = true := decide_eq_true hh
theorem rg1_int {j : Int} (hh : j.natAbs < 4611686018427387904) : rg1 (.int j) st = .ok (.fix (rng 0 j)) st := by simp [rg1, okRng_of hh]
theorem rg2_int {i j : Int} (hi : i.natAbs < 4611686018427387904) (hh : j.natAbs < 4611686018427387904) : rg2 (.int i) (.int j) st = .ok (.fix (rng i j)) st := by simp [rg2, okRng_of hh, okRng_of hi]
/-- a loop, by an invariant -/
theorem for_inv {set : D → Sl → Option Sl} {q : Sq} (P : Nat → Sl → Store → Prop) (hc : ∀ k τ st, P k τ st → q.chk st = true) :
    ∀ (xs : List D) (k : Nat) (τ : Sl) (st : Store), P k τ st →
    (∀ i d τ st, xs[i]? = some d → P (k + i) τ st → ∃ τ1, set d τ = some τ1 ∧ ∃ τ2 s2, (u τ1 st = .nx τ2 s2 ∨ u τ1 st = .ct τ2 s2) ∧ P (k + i + 1) τ2 s2) →
    ∃ τ' st', forL q set u xs τ st = .nx τ' st' ∧ P (k + xs.length) τ' st'
  | [], k, τ, st, h0, _ => ⟨τ, st, by
      unfold forL
      rw [if_pos (hc _ _ _ h0)], h0⟩
  | d :: ds, k, τ, st, h0, hs => by
    obtain ⟨τ1, e1, τ2, s2, e2, h2⟩ := hs 0 d τ st rfl h0
    obtain ⟨τ', st', e3, h3⟩ := for_inv (q := q) P hc ds (k + 1) τ2 s2 h2 fun i d τ st hi hp => by
      have := hs (i + 1) d τ st hi (by rwa [show k + (i + 1) = k + 1 + i by omega])
      rwa [show k + (i + 1) + 1 = k + 1 + i + 1 by omega] at this
    refine ⟨τ', st', ?_, ?_⟩
    · unfold forL
      rw [if_pos (hc _ _ _ h0), e1]
      rcases e2 with e2 | e2 <;> simp only [e2, e3]
    · rw [List.length_cons]
      rwa [show k + (ds.length + 1) = k + 1 + ds.length by omega]
/-! comprehensions -/
def lc1 (own : List Nat) (set : D → Sl → Option Sl) (ft : EM Bool) (fe : EM D) (τ : Sl) (q : Sq) (st : Store) : ER (List D) := if q.items.length ≤ 16777216 then compL q set ft fe (wipeD τ own) q.items [] st else .bad
theorem lComp_e {own : List Nat} {fi : EM Sq} {set : D → Sl → Option Sl} {ft : EM Bool} : lComp own fi set ft fe τ st = (fi τ st).bind (lc1 own set ft fe τ) := rfl
/-- a comprehension without tests -/
theorem comp_inv {set : D → Sl → Option Sl} {q : Sq} (P : List D → Store → Prop) (hc : ∀ acc st, P acc st → q.chk st = true) :
    ∀ (xs acc : List D) (st : Store), P acc st →
    (∀ i d acc' st, xs[i]? = some d → acc'.length = acc.length + i → P acc' st → ∃ τ1, set d τ = some τ1 ∧ ∃ x s2, fe τ1 st = .ok x s2 ∧ P (acc' ++ [x]) s2) →
    ∃ ys st', compL q set tYes fe τ xs acc st = .ok ys st' ∧ P ys st' ∧ ys.length = acc.length + xs.length
  | [], acc, st, h0, _ => ⟨acc, st, by
      unfold compL
      rw [if_pos (hc _ _ h0)], h0, rfl⟩
  | d :: ds, acc, st, h0, hs => by
    obtain ⟨τ1, e1, x, s2, e2, h2⟩ := hs 0 d acc st rfl rfl h0
    obtain ⟨ys, st', e3, h3, h4⟩ := comp_inv (q := q) P hc ds (acc ++ [x]) s2 h2 fun i d acc' st hi ha hp => hs (i + 1) d acc' st hi (by simp at ha; omega) hp
    refine ⟨ys, st', ?_, h3, by simp at h4; simp; omega⟩
    unfold compL
    rw [if_pos (hc _ _ h0), e1]
    simp only [tYes, ER.bindN_ok, if_true, e2]
    exact e3
end
/-! the draws' store: cell 0 holds the script's numbers, cell 1 the place -/
structure DS (ns : List Int) (st : Store) : Prop where
  c0 : lstAt st 0 = some (ns.map D.int)
  c1 : ∃ p h q : Int, 0 ≤ p ∧ lstAt st 1 = some [.ref 0, .int p, .int h, .int q]
/-- what a draw may change -/
structure Fr (a b : Store) : Prop where
  len : a.length ≤ b.length
  at' : ∀ n, n ≠ 1 → n < a.length → b[n]? = a[n]?
theorem Fr.refl {a : Store} : Fr a a := ⟨Nat.le_refl _, fun _ _ _ => rfl⟩
theorem Fr.trans {a b c : Store} (x : Fr a b) (y : Fr b c) : Fr a c := ⟨Nat.le_trans x.len y.len, fun n h1 h2 => (y.at' n h1 (Nat.lt_of_lt_of_le h2 x.len)).trans (x.at' n h1 h2)⟩
theorem Fr.lst {a b : Store} {n : Nat} {xs : List D} (x : Fr a b) (h : lstAt a n = some xs) (hn : n ≠ 1) : lstAt b n = some xs := by
  have := x.at' n hn (lstAt_lt h)
  unfold lstAt at h ⊢
  rwa [this]
theorem Fr.app {a : Store} {c : Cell} : Fr a (a ++ [c]) := ⟨by simp, fun n _ h => by rw [List.getElem?_append_left h]⟩
theorem DS.app {ns : List Int} {st : Store} {c : Cell} (h : DS ns st) : DS ns (st ++ [c]) := by
  obtain ⟨c0, p, hh, q, hp, c1⟩ := h
  exact ⟨by rw [lstAt_left (lstAt_lt c0)]; exact c0, p, hh, q, hp, by rw [lstAt_left (lstAt_lt c1)]; exact c1⟩
end HM

/-! HM, part U: how the mirrors of parts 10 to 12 are computed. -/
namespace HM
open PySem PySem.Spec PyProof.Rows L2
section
variable {τ : Sl} {st : Store} {f g fo fi : EM D} {fs : EM (List D)} {fl fh : EM (Option Int)} {i n m : Nat} {d v x : D} {xs ys : List D}
@[simp] theorem eM_e {T : String} {g : MM} : eM T g fo fs τ st = (fo τ st).bind fun d s1 => if okT T s1 d then (fs τ s1).bind fun ds s2 => g d ds s2 else .bad := rfl
theorem okT_ref (hh : lstAt st n = some xs) : okT "list" st (.ref n) = true := by simp [okT, hh]
@[simp] theorem okT_str {z : List Nat} : okT "str" st (.str z) = true := rfl
theorem mAppend_ref (hh : lstAt st n = some xs) (hl : xs.length < 16777216) : mAppend (.ref n) [x] st = .ok .non (st.set n (.lst (xs ++ [x]))) := by simp [mAppend, hh, hl]
theorem mInsert_ref {k : Nat} (hh : lstAt st n = some xs) (hl : xs.length < 16777216) (hk : k < 9223372036854775808) : mInsert (.ref n) [.int k, x] st = .ok .non (st.set n (.lst (xs.take k ++ [x] ++ xs.drop k))) := by
  have h2 : okIx (k : Int) = true := decide_eq_true (by omega)
  simp [mInsert, hh, hl, h2]
theorem mExtend_ref (hh : lstAt st n = some xs) (h2 : lstAt st m = some ys) (hl : xs.length + ys.length ≤ 16777216) : mExtend (.ref n) [.ref m] st = .ok .non (st.set n (.lst (xs ++ ys))) := by simp [mExtend, hh, h2, hl]
theorem mPop_ref (hh : lstAt st n = some (xs ++ [x])) : mPop (.ref n) [] st = .ok x (st.set n (.lst xs)) := by simp [mPop, hh]
theorem mJoin_tup {a : List Nat} {ys : List (List Nat)} (hl : (ys.map List.length).sum + ys.length * a.length ≤ 16777216) : mJoin (.str a) [.tup (ys.map D.str)] st = .ok (.str (joinD a ys)) st := by
  simp [mJoin, dSeq, strsD_map, hl]
theorem mJoin_ref {a : List Nat} {ys : List (List Nat)} (hh : lstAt st n = some (ys.map D.str)) (hl : (ys.map List.length).sum + ys.length * a.length ≤ 16777216) : mJoin (.str a) [.ref n] st = .ok (.str (joinD a ys)) st := by
  simp [mJoin, dSeq, hh, strsD_map, hl]
def ofB (st : Store) : Option Bool → ER D
  | some b => .ok (.bl b) st
  | none => .bad
@[simp] theorem ofB_some {b : Bool} : ofB st (some b) = .ok (.bl b) st := rfl
@[simp] theorem oIn_e : oIn x v st = ofB st (dIn x v st) := by
  unfold oIn ofB
  rfl
@[simp] theorem oNotIn_e : oNotIn x v st = ofB st ((dIn x v st).map fun b => !b) := by
  unfold oNotIn ofB
  cases dIn x v st <;> rfl
@[simp] theorem dIn_sign {c : Nat} {z : List Nat} : dIn (.str [c]) (.str z) st = some (decide (c ∈ z)) := rfl
theorem dIn_S (hy : dSeq st v = some ys) : dIn x v st = dInS x v st := by
  unfold dIn
  cases v with
  | ref n => simp only [dct_lst (show lstAt st n = some ys from hy)]
  | _ => rfl
theorem dIn_dct {kvs : List (D × D)} (hh : dctAt st n = some kvs) (hf : keyFit kvs x = true) : dIn x (.ref n) st = some (dGet kvs x).isSome := by
  unfold dIn
  simp only [hh, hf, if_true]
theorem dIn_flat (hy : dSeq st v = some ys) (h1 : x.flat = true) (h2 : ys.all D.flat = true) : dIn x v st = some (ys.any fun y => eqF y x) := by
  rw [dIn_S hy]
  unfold dInS
  split
  · rename_i c z
    cases hy
  · simp [hy, h1, h2]
@[simp] theorem dSeq_tup : dSeq st (.tup xs) = some xs := rfl
@[simp] theorem dSeq_rol : dSeq st (.rol xs) = some xs := rfl
theorem dSeq_ref (hh : lstAt st n = some xs) : dSeq st (.ref n) = some xs := hh
@[simp] theorem flat_int {k : Int} : (D.int k).flat = true := rfl
@[simp] theorem flat_str {k : List Nat} : (D.str k).flat = true := rfl
@[simp] theorem flat_bl {k : Bool} : (D.bl k).flat = true := rfl
@[simp] theorem flat_non : D.non.flat = true := rfl
@[simp] theorem eqF_int {a b : Int} : eqF (.int a) (.int b) = decide (a = b) := rfl
@[simp] theorem eqF_str {a b : List Nat} : eqF (.str a) (.str b) = decide (a = b) := rfl
@[simp] theorem dIn_tup {k : Int} : dIn (.int k) (.tup ys) st = if ys.all D.flat then some (ys.any fun y => eqF y (.int k)) else if ys.all (D.plain 59) then some (decide (D.int k ∈ ys)) else none := by
  simp [dIn, dInS, dSeq] <;> rfl
@[simp] theorem eSl_e : eSl f fl fh τ st = (f τ st).bind fun d s1 => (fl τ s1).bind fun l s2 => (fh τ s2).bind fun h s3 => dCut d l h s3 := rfl
@[simp] theorem oNone_e : oNone τ st = .ok none st := rfl
def ofI (d : D) (st : Store) : ER (Option Int) := match d with
  | .int i => .ok (some i) st
  | _ => .bad
@[simp] theorem ofI_int {k : Int} : ofI (.int k) st = .ok (some k) st := rfl
@[simp] theorem oSome_e : oSome f τ st = (f τ st).bind ofI := rfl
theorem sIx_n {n d k : Nat} : HT.sIx n d (some (k : Int)) = min k n := HT.sIx_nat n d k
@[simp] theorem sIx_0 {n d : Nat} : HT.sIx n d none = d := rfl
theorem dCut_str {z : List Nat} {lo hi : Option Int} (hz : z.length ≤ 16777216) : dCut (.str z) lo hi st = .ok (.str (cutD z lo hi)) st := by simp [dCut, hz]
theorem dCut_ref {lo hi : Option Int} (hh : lstAt st n = some xs) : dCut (.ref n) lo hi st = .ok (.ref st.length) (st ++ [.lst (cutD xs lo hi)]) := by simp [dCut, hh]
theorem cutD_nn {α : Type} {zs : List α} {a b : Nat} : cutD zs (some (a : Int)) (some (b : Int)) = (zs.drop (min a zs.length)).take (min b zs.length - min a zs.length) := by
  unfold cutD
  rw [sIx_n, sIx_n]
theorem cutD_to {α : Type} {zs : List α} {b : Nat} : cutD zs none (some (b : Int)) = zs.take b := by
  unfold cutD
  rw [sIx_n, sIx_0, List.drop_zero, Nat.sub_zero]
  exact PySem.W.kmk_take_min ..
theorem cutD_from {α : Type} {zs : List α} {a : Nat} : cutD zs (some (a : Int)) none = zs.drop a := by
  unfold cutD
  rw [sIx_n, sIx_0]
  rw [show zs.drop (min a zs.length) = zs.drop a from PySem.W.kmk_drop_min ..]
  refine List.take_of_length_le ?_
  rw [List.length_drop]
  omega
theorem gSum_ints {ns : List Int} : gSum (ns.map D.int) st = .ok (.int ns.sum) st := by simp [gSum, intsD_map]
theorem gAllB_bls {bs : List Bool} : gAllB (bs.map D.bl) st = .ok (.bl (bs.all id)) st := by simp [gAllB, blsD_map]
theorem gAnyB_bls {bs : List Bool} : gAnyB (bs.map D.bl) st = .ok (.bl (bs.any id)) st := by simp [gAnyB, blsD_map]
@[simp] theorem oMul_int {a b : Int} (hc : okMul a b = true) : oMul (.int a) (.int b) st = .ok (.int (a * b)) st := by simp [oMul, hc]
theorem oMul_str {z : List Nat} {k : Int} (h2 : 2 ≤ k) (hz : k ≤ 16777216) (hl : z.length * k.toNat ≤ 16777216) : oMul (.str z) (.int k) st = .ok (.str (repD k.toNat z)) st := by
  simp [oMul, h2, hz, hl]
theorem fLcm_W {a b : Int} (ha : a.natAbs < 2 ^ 9000) (hb : b.natAbs < 2 ^ 9000) : fLcm [.int a, .int b] st = .ok (.int (Nat.lcm a.natAbs b.natAbs : Nat)) st := by
  unfold fLcm
  simp only [decide_eq_true ha, decide_eq_true hb, Bool.and_self, if_true]
theorem fLcm_e {a b : Int} (ha : a.natAbs < 18446744073709551616) (hb : b.natAbs < 18446744073709551616) : fLcm [.int a, .int b] st = .ok (.int (Nat.lcm a.natAbs b.natAbs : Nat)) st :=
  fLcm_W (Nat.lt_of_lt_of_le ha (Nat.pow_le_pow_right (n := 2) (i := 64) (by decide) (by decide))) (Nat.lt_of_lt_of_le hb (Nat.pow_le_pow_right (n := 2) (i := 64) (by decide) (by decide)))
theorem fList_tup : fList [.tup xs] st = .ok (.ref st.length) (st ++ [.lst xs]) := rfl
theorem fList_ref (hh : lstAt st n = some xs) : fList [.ref n] st = .ok (.ref st.length) (st ++ [.lst xs]) := by simp [fList, dSeq, hh]
theorem sExL_e : sExL f τ st = (f τ st).bind fun d s1 => match dSeqL s1 d with
  | some xs => .ok xs s1
  | none => .bad := rfl
theorem oAdd_ref (hh : lstAt st n = some xs) (h2 : lstAt st m = some ys) (hl : xs.length + ys.length ≤ 16777216) : oAdd (.ref n) (.ref m) st = .ok (.ref st.length) (st ++ [.lst (xs ++ ys)]) := by simp [oAdd, hh, h2, hl]
theorem oIx_str {z : List Nat} {k : Nat} {c : Nat} (hz : z.length ≤ 16777216) (hk : z[k]? = some c) : oIx (.str z) (.int k) st = .ok (.str [c]) st := by
  have := atI_nat (xs := z) (j := k) (v := c) hk
  simp [oIx, oIxS, hz, this]
theorem fLen_str {z : List Nat} (hz : z.length ≤ 16777216) : fLen [.str z] st = .ok (.int z.length) st := by simp [fLen, fLenS, hz]
end
/-- a while loop, by an invariant with a measure -/
theorem while_inv {g : EM Bool} {u : SM} (P : Nat → Sl → Store → Prop) (Done : Sl → Store → Prop)
    (hs : ∀ n τ st, P n τ st → (∃ s1, g τ st = .ok false s1 ∧ Done τ s1) ∨ (∃ s1, g τ st = .ok true s1 ∧ ∃ τ2 s2, (u τ s1 = .nx τ2 s2 ∨ u τ s1 = .ct τ2 s2) ∧ ∃ m, m < n ∧ P m τ2 s2)) :
    ∀ (k n : Nat) (τ : Sl) (st : Store), n < k → P n τ st → ∃ τ' st', whileN g u k τ st = .nx τ' st' ∧ Done τ' st'
  | 0, _, _, _, h, _ => absurd h (Nat.not_lt_zero _)
  | k + 1, n, τ, st, h, hp => by
    unfold whileN
    rcases hs n τ st hp with ⟨s1, e, hd⟩ | ⟨s1, e, τ2, s2, e2, m, hm, hp2⟩
    · rw [e, bindE_ok, if_neg Bool.false_ne_true]
      exact ⟨τ, s1, rfl, hd⟩
    · rw [e, bindE_ok, if_pos rfl]
      obtain ⟨τ', st', e3, hd⟩ := while_inv P Done hs k m τ2 s2 (by omega) hp2
      refine ⟨τ', st', ?_, hd⟩
      rcases e2 with e2 | e2 <;> simp only [e2] <;> exact e3
/-- a comprehension that reads alone -/
theorem comp_map {α : Type} {q : Sq} {set : D → Sl → Option Sl} {fe : EM D} {τ : Sl} {st : Store} (hq : q.chk st = true) (g h : α → D) : ∀ (xs : List α) (acc : List D), (∀ a ∈ xs, ∃ τ1, set (g a) τ = some τ1 ∧ fe τ1 st = .ok (h a) st) → compL q set tYes fe τ (xs.map g) acc st = .ok (acc ++ xs.map h) st
  | [], acc, _ => by
    rw [List.map_nil, List.map_nil, List.append_nil]
    unfold compL
    rw [if_pos hq]
  | a :: xs, acc, hs => by
    obtain ⟨τ1, e1, e2⟩ := hs a (List.mem_cons_self ..)
    rw [List.map_cons]
    unfold compL
    rw [if_pos hq, e1]
    simp only [tYes, ER.bindN_ok, if_true, e2]
    rw [comp_map hq g h xs (acc ++ [h a]) fun b hb => hs b (List.mem_cons_of_mem _ hb), List.map_cons, List.append_assoc]
    rfl
/-- a loop that folds -/
theorem for_fold {α β : Type} {q : Sq} {set : D → Sl → Option Sl} {u : SM} {st : Store} (hq : q.chk st = true) (g : α → D) (F : β → α → β) (E : β → Option D → Sl) (I : β → Prop) : ∀ (xs : List α) (b : β) (t : Option D), I b →
    (∀ b t a, a ∈ xs → I b → I (F b a) ∧ ∃ τ1, set (g a) (E b t) = some τ1 ∧ u τ1 st = .nx (E (F b a) (some (g a))) st) → (∃ t', forL q set u (xs.map g) (E b t) st = .nx (E (xs.foldl F b) t') st) ∧ I (xs.foldl F b)
  | [], b, t, hI, _ => ⟨⟨t, by rw [List.map_nil, forL, if_pos hq]; rfl⟩, hI⟩
  | a :: xs, b, t, hI, hs => by
    obtain ⟨h1, τ1, e1, e2⟩ := hs b t a (List.mem_cons_self ..) hI
    obtain ⟨⟨t', e3⟩, h3⟩ := for_fold hq g F E I xs (F b a) (some (g a)) h1 fun b t a ha => hs b t a (List.mem_cons_of_mem _ ha)
    refine ⟨⟨t', ?_⟩, h3⟩
    rw [List.map_cons, forL, if_pos hq, e1]
    simp only [e2]
    exact e3
end HM

/-! HM, part V: growth of stores, comprehensions with tests, keyword calls. -/
namespace HM
open PySem PySem.Spec PyProof.Rows L2
section
variable {τ : Sl} {st : Store} {fs fk : EM (List D)} {n k np : Nat} {is : List Nat} {mf : FM}
@[simp] theorem eCallK_e : eCallK n k np is mf fs fk τ st = (fs τ st).bind fun ds s1 => (fk τ s1).bind fun es s2 => if ds.length = n ∧ es.length = k ∧ (arr is (ds ++ es)).length = np then mf (arr is (ds ++ es)) s2 else .bad := rfl
end
/-- cells are added alone -/
structure Gr (a b : Store) : Prop where
  ex : ∃ l, b = a ++ l
theorem Gr.refl {a : Store} : Gr a a := ⟨[], by simp⟩
theorem Gr.app {a : Store} {c : Cell} : Gr a (a ++ [c]) := ⟨[c], rfl⟩
theorem Gr.trans {a b c : Store} (x : Gr a b) (y : Gr b c) : Gr a c := by
  obtain ⟨l, rfl⟩ := x.ex
  obtain ⟨m, rfl⟩ := y.ex
  exact ⟨l ++ m, by simp⟩
theorem Gr.lst {a b : Store} {n : Nat} {xs : List D} (x : Gr a b) (h : lstAt a n = some xs) : lstAt b n = some xs := by
  obtain ⟨l, rfl⟩ := x.ex
  rw [lstAt_left (lstAt_lt h)]
  exact h
theorem Gr.fr {a b : Store} (x : Gr a b) : Fr a b := by
  obtain ⟨l, rfl⟩ := x.ex
  exact ⟨by simp, fun n _ h => by rw [List.getElem?_append_left h]⟩
theorem Gr.ds {a b : Store} {ns : List Int} (x : Gr a b) (H : DS ns a) : DS ns b := by
  obtain ⟨c0, p, h, q, hp, c1⟩ := H
  exact ⟨x.lst c0, p, h, q, hp, x.lst c1⟩
/-- the last cell is written -/
theorem Gr.put {a b : Store} {m : Nat} {c : Cell} (x : Gr a b) (h : a.length ≤ m) : Gr a (b.set m c) := by
  obtain ⟨l, rfl⟩ := x.ex
  exact ⟨l.set (m - a.length) c, List.set_append_right m c h⟩
theorem Gr.len {a b : Store} (x : Gr a b) : a.length ≤ b.length := by
  obtain ⟨l, rfl⟩ := x.ex
  simp
theorem DS.put2 {ns : List Int} {s : Store} {m : Nat} {c : Cell} (H : DS ns s) (h0 : m ≠ 0) (h1 : m ≠ 1) : DS ns (s.set m c) := by
  obtain ⟨c0, p, h, q, hp, c1⟩ := H
  exact ⟨by rw [lstAt_ne (Ne.symm h0)]; exact c0, p, h, q, hp, by rw [lstAt_ne (Ne.symm h1)]; exact c1⟩
theorem Fr.put2 {st s : Store} {m : Nat} {c : Cell} (F : Fr st s) (h : st.length ≤ m) : Fr st (s.set m c) :=
  ⟨by rw [List.length_set]; exact F.len, fun n h1 h2 => by rw [List.getElem?_set_ne (by omega)]; exact F.at' n h1 h2⟩
theorem DS.len {ns : List Int} {s : Store} (H : DS ns s) : 2 ≤ s.length := by
  obtain ⟨p, h, q, _, c1⟩ := H.c1
  exact lstAt_lt c1
theorem rng_eq (n : Nat) : rng 0 n = (List.range n).map fun k => D.int (k : Nat) := by
  unfold rng
  simp
theorem rng_mem {n : Nat} {i : Nat} {d : D} (h : (rng 0 n)[i]? = some d) : ∃ k : Nat, k < n ∧ d = .int k := by
  rw [rng_eq, List.getElem?_map] at h
  cases hx : (List.range n)[i]? with
  | none => rw [hx] at h; cases h
  | some a =>
    have := List.mem_range.mp (List.mem_of_getElem? hx)
    rw [hx] at h
    exact ⟨a, this, (Option.some.inj h).symm⟩
@[simp] theorem iZip_e {fa fb : EM D} {τ : Sl} {st : Store} : iZip fa fb τ st = (fa τ st).bind fun d s1 => (fb τ s1).bind fun e s2 => zip2 d e s2 := rfl
@[simp] theorem zip2_tup {xs ys : List D} {st : Store} : zip2 (.tup xs) (.tup ys) st = .ok (.fix (zipD xs ys)) st := rfl
def okRg (k : Int → Int → Store → ER D) (d : D) (st : Store) : ER D := match d with
  | .int j => k 0 j st
  | _ => .bad
@[simp] theorem eRg1_e {k : Int → Int → Store → ER D} {fa : EM D} {τ : Sl} {st : Store} : eRg1 k fa τ st = (fa τ st).bind (okRg k) := rfl
@[simp] theorem okRg_int {k : Int → Int → Store → ER D} {j : Int} {st : Store} : okRg k (.int j) st = k 0 j st := rfl
theorem rng_len {n : Nat} : (rng 0 (n : Nat)).length = n := by
  unfold rng
  simp
theorem lstAt_new {a : Store} {xs : List D} : lstAt (a ++ [.lst xs]) a.length = some xs := by simp [lstAt]
/-- a comprehension with a test -/
theorem comp_gen {q : Sq} {set : D → Sl → Option Sl} {ft : EM Bool} {fe : EM D} {τ : Sl} (P : Nat → List D → Store → Prop) (hc : ∀ k acc st, P k acc st → q.chk st = true) :
    ∀ (xs : List D) (k : Nat) (acc : List D) (st : Store), P k acc st →
    (∀ (i : Nat) (d : D) (acc' : List D) (st : Store), xs[i]? = some d → P (k + i) acc' st → ∃ τ1, set d τ = some τ1 ∧ ∃ b s1, ft τ1 st = .ok b s1 ∧ (b = false → P (k + i + 1) acc' s1) ∧ (b = true → ∃ x s2, fe τ1 s1 = .ok x s2 ∧ P (k + i + 1) (acc' ++ [x]) s2)) →
    ∃ ys st', compL q set ft fe τ xs acc st = .ok ys st' ∧ P (k + xs.length) ys st'
  | [], k, acc, st, h0, _ => ⟨acc, st, by
      unfold compL
      rw [if_pos (hc _ _ _ h0)], h0⟩
  | d :: ds, k, acc, st, h0, hs => by
    obtain ⟨τ1, e1, b, s1, e2, h2, h3⟩ := hs 0 d acc st rfl h0
    have next : ∀ acc s, P (k + 1) acc s → ∃ ys st', compL q set ft fe τ ds acc s = .ok ys st' ∧ P (k + (d :: ds).length) ys st' := fun acc s h => by
      rw [List.length_cons, show k + (ds.length + 1) = k + 1 + ds.length by omega]
      refine comp_gen P hc ds (k + 1) acc s h fun i d acc' st hi hp => ?_
      rw [show k + 1 + i = k + (i + 1) by omega] at hp ⊢
      exact hs (i + 1) d acc' st hi hp
    unfold compL
    rw [if_pos (hc _ _ _ h0), e1]
    simp only [e2, ER.bindN_ok]
    cases b with
    | false => exact next _ _ (h2 rfl)
    | true =>
      obtain ⟨x, s2, e3, h4⟩ := h3 rfl
      simp only [if_true, e3, ER.bindN_ok]
      exact next _ _ h4
/-- a comprehension with a test that reads alone -/
theorem comp_fil {α : Type} {q : Sq} {set : D → Sl → Option Sl} {ft : EM Bool} {fe : EM D} {τ : Sl} {st : Store} (hq : q.chk st = true) (g h : α → D) (p : α → Bool) : ∀ (xs : List α) (acc : List D), (∀ a ∈ xs, ∃ τ1, set (g a) τ = some τ1 ∧ ft τ1 st = .ok (p a) st ∧ (p a = true → fe τ1 st = .ok (h a) st)) → compL q set ft fe τ (xs.map g) acc st = .ok (acc ++ (xs.filter p).map h) st
  | [], acc, _ => by
    rw [List.map_nil, List.filter_nil, List.map_nil, List.append_nil]
    unfold compL
    rw [if_pos hq]
  | a :: xs, acc, hs => by
    obtain ⟨τ1, e1, e2, e3⟩ := hs a (List.mem_cons_self ..)
    have ih := fun acc => comp_fil hq g h p xs acc fun b hb => hs b (List.mem_cons_of_mem _ hb)
    rw [List.map_cons, List.filter_cons]
    unfold compL
    rw [if_pos hq, e1]
    simp only [e2, ER.bindN_ok]
    cases hp : p a with
    | false => simp only [Bool.false_eq_true, if_false]; exact ih acc
    | true =>
      simp only [if_true, e3 hp, ER.bindN_ok]
      rw [ih, List.map_cons, List.append_assoc]
      rfl
theorem forL_nil {set : D → Sl → Option Sl} {u : SM} {q : Sq} {τ : Sl} {st : Store} (hq : q.chk st = true) : forL q set u [] τ st = .nx τ st := by
  rw [forL, if_pos hq]
theorem forL_nx {set : D → Sl → Option Sl} {u : SM} {q : Sq} {τ τ1 τ2 : Sl} {st s2 : Store} {d : D} {ds : List D} (hq : q.chk st = true) (h1 : set d τ = some τ1) (h2 : u τ1 st = .nx τ2 s2) : forL q set u (d :: ds) τ st = forL q set u ds τ2 s2 := by
  rw [forL, if_pos hq, h1]
  simp only [h2]
theorem forL_ct {set : D → Sl → Option Sl} {u : SM} {q : Sq} {τ τ1 τ2 : Sl} {st s2 : Store} {d : D} {ds : List D} (hq : q.chk st = true) (h1 : set d τ = some τ1) (h2 : u τ1 st = .ct τ2 s2) : forL q set u (d :: ds) τ st = forL q set u ds τ2 s2 := by
  rw [forL, if_pos hq, h1]
  simp only [h2]
theorem forL_rt {set : D → Sl → Option Sl} {u : SM} {q : Sq} {τ τ1 : Sl} {st s2 : Store} {d x : D} {ds : List D} (hq : q.chk st = true) (h1 : set d τ = some τ1) (h2 : u τ1 st = .rt x s2) : forL q set u (d :: ds) τ st = .rt x s2 := by
  rw [forL, if_pos hq, h1]
  simp only [h2]
theorem forL_bk {set : D → Sl → Option Sl} {u : SM} {q : Sq} {τ τ1 τ2 : Sl} {st s2 : Store} {d : D} {ds : List D} (hq : q.chk st = true) (h1 : set d τ = some τ1) (h2 : u τ1 st = .bk τ2 s2) : forL q set u (d :: ds) τ st = .nx τ2 s2 := by
  rw [forL, if_pos hq, h1]
  simp only [h2]
theorem map_mem {α : Type} {f : α → D} {xs : List α} {i : Nat} {d : D} (h : (xs.map f)[i]? = some d) : ∃ a ∈ xs, d = f a := by
  rw [List.getElem?_map] at h
  cases hx : xs[i]? with
  | none => simp [hx] at h
  | some a => exact ⟨a, List.mem_of_getElem? hx, by simpa [hx] using h.symm⟩
theorem any_eqF {cs : List Int} {k : Int} : ((cs.map D.int).any fun y => eqF y (.int k)) = decide (k ∈ cs) := by
  induction cs with
  | nil => rfl
  | cons c cs ih =>
    rw [List.map_cons, List.any_cons, ih]
    by_cases h : k = c <;> simp [h, eq_comm]
theorem dIn_ints {cs : List Int} {k : Int} {st : Store} : dIn (.int k) (.tup (cs.map D.int)) st = some (decide (k ∈ cs)) := by
  rw [dIn_tup, if_pos, any_eqF]
  rw [List.all_eq_true]
  intro x hx
  obtain ⟨c, _, rfl⟩ := List.mem_map.mp hx
  rfl
end HM

/-! HM, part W: what holds behind a run. -/
namespace HM
open PySem PySem.Spec PyProof.Rows L2
section
variable {α β : Type} {r : ER α} {Q Q' : α → Store → Prop} {st : Store} {τ : Sl}
def W (r : ER α) (Q : α → Store → Prop) : Prop := match r with
  | .ok a s => Q a s
  | _ => False
def WS (r : SR) (N : Sl → Store → Prop) (R : D → Store → Prop) (B C : Sl → Store → Prop) : Prop := match r with
  | .nx τ s => N τ s
  | .rt d s => R d s
  | .bk τ s => B τ s
  | .ct τ s => C τ s
  | _ => False
theorem W.ex (h : W r Q) : ∃ a s, r = .ok a s ∧ Q a s := by
  cases r with
  | ok a s => exact ⟨a, s, rfl, h⟩
  | _ => exact h.elim
theorem W.of {a : α} {s : Store} (h : r = .ok a s) (q : Q a s) : W r Q := by rw [h]; exact q
theorem W.mono (h : W r Q) (i : ∀ a s, Q a s → Q' a s) : W r Q' := by
  cases r with
  | ok a s => exact i a s h
  | _ => exact h.elim
@[simp] theorem W_ok {a : α} {s : Store} : W (.ok a s) Q = Q a s := rfl
@[simp] theorem W_bad : W (.bad : ER α) Q = False := rfl
@[simp] theorem W_bind {k : α → Store → ER β} {Q : β → Store → Prop} : W (r.bind k) Q = W r fun a s => W (k a s) Q := by cases r <;> rfl
theorem W_ite {c : Prop} [Decidable c] {r' : ER α} : W (if c then r else r') Q = if c then W r Q else W r' Q := by split <;> rfl
section
variable {N : Sl → Store → Prop} {R : D → Store → Prop} {B C : Sl → Store → Prop}
@[simp] theorem WS_nx : WS (.nx τ st) N R B C = N τ st := rfl
@[simp] theorem WS_rt {d : D} : WS (.rt d st) N R B C = R d st := rfl
@[simp] theorem WS_bk : WS (.bk τ st) N R B C = B τ st := rfl
@[simp] theorem WS_ct : WS (.ct τ st) N R B C = C τ st := rfl
@[simp] theorem WS_bindE {k : α → Store → SR} : WS (bindE r τ k) N R B C = W r fun a s => WS (k a s) N R B C := by cases r <;> rfl
@[simp] theorem WS_seq {s : SR} {v : SM} : WS (s.seq v) N R B C = WS s (fun τ st => WS (v τ st) N R B C) R B C := by cases s <;> rfl
theorem WS_ite {c : Prop} [Decidable c] {a b : SR} : WS (if c then a else b) N R B C = if c then WS a N R B C else WS b N R B C := by split <;> rfl
@[simp] theorem W_fin {s : SR} {Q : D → Store → Prop} : W s.fin Q = WS s (fun _ st => Q .non st) Q (fun _ _ => False) (fun _ _ => False) := by cases s <;> rfl
theorem WS.mono {s : SR} {N' : Sl → Store → Prop} {R' : D → Store → Prop} {B' C' : Sl → Store → Prop} (h : WS s N R B C) (n : ∀ τ st, N τ st → N' τ st) (r : ∀ d st, R d st → R' d st) (b : ∀ τ st, B τ st → B' τ st) (c : ∀ τ st, C τ st → C' τ st) : WS s N' R' B' C' := by
  cases s with
  | nx τ s => exact n _ _ h
  | rt d s => exact r _ _ h
  | bk τ s => exact b _ _ h
  | ct τ s => exact c _ _ h
  | _ => exact h.elim
/-- a for loop -/
theorem ws_for {q : Sq} {set : D → Sl → Option Sl} {u : SM} (P : Nat → Sl → Store → Prop) (hc : ∀ k τ st, P k τ st → q.chk st = true) :
    ∀ (xs : List D) (k : Nat) (τ : Sl) (st : Store), P k τ st →
    (∀ i d τ st, xs[i]? = some d → P (k + i) τ st → ∃ τ1, set d τ = some τ1 ∧ WS (u τ1 st) (P (k + i + 1)) R N (P (k + i + 1))) →
    (∀ τ st, P (k + xs.length) τ st → N τ st) → WS (forL q set u xs τ st) N R B C
  | [], k, τ, st, h0, _, hN => by
    unfold forL
    rw [if_pos (hc _ _ _ h0)]
    exact hN _ _ h0
  | d :: ds, k, τ, st, h0, hs, hN => by
    obtain ⟨τ1, e1, h1⟩ := hs 0 d τ st rfl h0
    have rest := fun τ st h => ws_for (q := q) (set := set) (u := u) P hc ds (k + 1) τ st h (fun i d τ st hi hp => by
      have := hs (i + 1) d τ st hi (by rwa [show k + (i + 1) = k + 1 + i by omega])
      rwa [show k + (i + 1) + 1 = k + 1 + i + 1 by omega] at this) (fun τ st h => hN τ st (by rw [List.length_cons]; rwa [show k + (ds.length + 1) = k + 1 + ds.length by omega]))
    unfold forL
    rw [if_pos (hc _ _ _ h0), e1]
    simp only
    generalize u τ1 st = r at h1
    cases r with
    | nx τ s => exact rest τ s h1
    | ct τ s => exact rest τ s h1
    | bk τ s => exact h1
    | rt d s => exact h1
    | _ => exact h1.elim
/-- a for loop over given items -/
theorem ws_for0 {q : Sq} {set : D → Sl → Option Sl} {u : SM} {xs : List D} (P : Nat → Sl → Store → Prop) (hc : ∀ k τ st, P k τ st → q.chk st = true) (h0 : P 0 τ st)
    (hs : ∀ i d τ st, xs[i]? = some d → P i τ st → ∃ τ1, set d τ = some τ1 ∧ WS (u τ1 st) (P (i + 1)) R N (P (i + 1)))
    (hN : ∀ τ st, P xs.length τ st → N τ st) : WS (forL q set u xs τ st) N R B C :=
  ws_for P hc xs 0 τ st h0 (fun i d τ st hi hp => by
    rw [Nat.zero_add] at hp ⊢
    exact hs i d τ st hi hp) (fun τ st h => hN τ st (by rwa [Nat.zero_add] at h))
/-- a while loop -/
theorem ws_while {g : EM Bool} {u : SM} (P : Nat → Sl → Store → Prop)
    (hs : ∀ n τ st, P n τ st → W (g τ st) fun b s1 => if b then WS (u τ s1) (fun τ s => ∃ m, m < n ∧ P m τ s) R N (fun τ s => ∃ m, m < n ∧ P m τ s) else N τ s1) :
    ∀ (k n : Nat) (τ : Sl) (st : Store), n < k → P n τ st → WS (whileN g u k τ st) N R B C
  | 0, _, _, _, h, _ => absurd h (Nat.not_lt_zero _)
  | k + 1, n, τ, st, h, hp => by
    unfold whileN
    obtain ⟨b, s1, e, h1⟩ := (hs n τ st hp).ex
    rw [e, bindE_ok]
    cases b with
    | false => exact h1
    | true =>
      rw [if_pos rfl] at h1 ⊢
      generalize u τ s1 = r at h1
      cases r with
      | nx τ s =>
        obtain ⟨m, hm, hp2⟩ := h1
        exact ws_while P hs k m τ s (by omega) hp2
      | ct τ s =>
        obtain ⟨m, hm, hp2⟩ := h1
        exact ws_while P hs k m τ s (by omega) hp2
      | bk τ s => exact h1
      | rt d s => exact h1
      | _ => exact h1.elim
end
/-- a comprehension -/
theorem w_comp {q : Sq} {set : D → Sl → Option Sl} {ft : EM Bool} {fe : EM D} {Q : List D → Store → Prop} (P : Nat → List D → Store → Prop) (hc : ∀ k acc st, P k acc st → q.chk st = true) :
    ∀ (xs : List D) (k : Nat) (acc : List D) (st : Store), P k acc st →
    (∀ (i : Nat) (d : D) (acc' : List D) (st : Store), xs[i]? = some d → P (k + i) acc' st → ∃ τ1, set d τ = some τ1 ∧ W (ft τ1 st) fun b s1 => if b then W (fe τ1 s1) fun x s2 => P (k + i + 1) (acc' ++ [x]) s2 else P (k + i + 1) acc' s1) →
    (∀ acc st, P (k + xs.length) acc st → Q acc st) → W (compL q set ft fe τ xs acc st) Q
  | [], k, acc, st, h0, _, hQ => by
    unfold compL
    rw [if_pos (hc _ _ _ h0)]
    exact hQ _ _ h0
  | d :: ds, k, acc, st, h0, hs, hQ => by
    obtain ⟨τ1, e1, h1⟩ := hs 0 d acc st rfl h0
    obtain ⟨b, s1, e2, h2⟩ := h1.ex
    have rest := fun acc st h => w_comp (q := q) (set := set) (ft := ft) (fe := fe) P hc ds (k + 1) acc st h (fun i d acc' st hi hp => by
      have := hs (i + 1) d acc' st hi (by rwa [show k + (i + 1) = k + 1 + i by omega])
      rwa [show k + (i + 1) + 1 = k + 1 + i + 1 by omega] at this) (fun acc st h => hQ acc st (by rw [List.length_cons]; rwa [show k + (ds.length + 1) = k + 1 + ds.length by omega]))
    unfold compL
    rw [if_pos (hc _ _ _ h0), e1]
    simp only [e2, ER.bindN_ok]
    cases b with
    | false => exact rest _ _ h2
    | true =>
      rw [if_pos rfl] at h2
      obtain ⟨x, s2, e3, h3⟩ := h2.ex
      simp only [if_true, e3, ER.bindN_ok]
      exact rest _ _ h3
theorem w_comp0 {q : Sq} {set : D → Sl → Option Sl} {ft : EM Bool} {fe : EM D} {Q : List D → Store → Prop} {xs : List D} (P : Nat → List D → Store → Prop) (hc : ∀ k acc st, P k acc st → q.chk st = true) (h0 : P 0 [] st)
    (hs : ∀ (i : Nat) (d : D) (acc : List D) (st : Store), xs[i]? = some d → P i acc st → ∃ τ1, set d τ = some τ1 ∧ W (ft τ1 st) fun b s1 => if b then W (fe τ1 s1) fun x s2 => P (i + 1) (acc ++ [x]) s2 else P (i + 1) acc s1)
    (hQ : ∀ acc st, P xs.length acc st → Q acc st) : W (compL q set ft fe τ xs [] st) Q :=
  w_comp P hc xs 0 [] st h0 (fun i d acc st hi hp => by
    rw [Nat.zero_add] at hp ⊢
    exact hs i d acc st hi hp) (fun acc st h => hQ acc st (by rwa [Nat.zero_add] at h))
theorem w_lc {own : List Nat} {set : D → Sl → Option Sl} {ft : EM Bool} {fe : EM D} {q : Sq} {Q : List D → Store → Prop} (hl : q.items.length ≤ 16777216) (h : W (compL q set ft fe (wipeD τ own) q.items [] st) Q) : W (lc1 own set ft fe τ q st) Q := by
  unfold lc1
  rw [if_pos hl]
  exact h
/-- a comprehension that reads alone -/
theorem w_map {α : Type} {q : Sq} {set : D → Sl → Option Sl} {fe : EM D} {Q : List D → Store → Prop} {ds : List D} (g h : α → D) (xs : List α) (hd : ds = xs.map g) (hq : q.chk st = true) (hs : ∀ a ∈ xs, ∃ τ1, set (g a) τ = some τ1 ∧ W (fe τ1 st) fun d s => d = h a ∧ s = st) (hQ : Q (xs.map h) st) :
    W (compL q set tYes fe τ ds [] st) Q := by
  subst hd
  have e := comp_map (set := set) (fe := fe) (τ := τ) hq g h xs [] (fun a ha => by
    obtain ⟨τ1, e1, hw⟩ := hs a ha
    obtain ⟨d, s, e2, e3, e4⟩ := hw.ex
    rw [e3, e4] at e2
    exact ⟨τ1, e1, e2⟩)
  rw [e]
  exact hQ
/-- a comprehension with a test that reads alone -/
theorem w_fil {α : Type} {q : Sq} {set : D → Sl → Option Sl} {ft : EM Bool} {fe : EM D} {Q : List D → Store → Prop} {ds : List D} (g h : α → D) (p : α → Bool) (xs : List α) (hd : ds = xs.map g) (hq : q.chk st = true)
    (hs : ∀ a ∈ xs, ∃ τ1, set (g a) τ = some τ1 ∧ W (ft τ1 st) fun b s => b = p a ∧ s = st ∧ (b = true → W (fe τ1 st) fun d s => d = h a ∧ s = st)) (hQ : Q ((xs.filter p).map h) st) :
    W (compL q set ft fe τ ds [] st) Q := by
  subst hd
  have e := comp_fil (set := set) (ft := ft) (fe := fe) (τ := τ) hq g h p xs [] (fun a ha => by
    obtain ⟨τ1, e1, hw⟩ := hs a ha
    obtain ⟨b, s, e2, e3, e4, h3⟩ := hw.ex
    rw [e3, e4] at e2
    refine ⟨τ1, e1, e2, fun hb => ?_⟩
    obtain ⟨d, s, e5, e6, e7⟩ := (h3 (e3.trans hb)).ex
    rw [e6, e7] at e5
    exact e5)
  rw [e]
  exact hQ
/-- a loop that folds, the store as it is -/
theorem ws_fold {α β : Type} {q : Sq} {set : D → Sl → Option Sl} {u : SM} {ds : List D} {N : Sl → Store → Prop} {R : D → Store → Prop} {B C : Sl → Store → Prop} (g : α → D) (F : β → α → β) (E : β → Option D → Sl) (xs : List α) (b0 : β) (t0 : Option D) (hd : ds = xs.map g) (hτ : τ = E b0 t0) (hq : q.chk st = true)
    (hs : ∀ b t a, a ∈ xs → ∃ τ1, set (g a) (E b t) = some τ1 ∧ WS (u τ1 st) (fun τ s => (∃ t, τ = E (F b a) t) ∧ s = st) R (fun _ _ => False) (fun τ s => (∃ t, τ = E (F b a) t) ∧ s = st))
    (hN : ∀ t, N (E (xs.foldl F b0) t) st) : WS (forL q set u ds τ st) N R B C := by
  subst hd hτ
  induction xs generalizing b0 t0 with
  | nil =>
    rw [List.map_nil, forL, if_pos hq]
    exact hN t0
  | cons a xs ih =>
    obtain ⟨τ1, e1, h1⟩ := hs b0 t0 a (List.mem_cons_self ..)
    rw [List.map_cons, forL, if_pos hq, e1]
    simp only
    have go : ∀ τ s, ((∃ t, τ = E (F b0 a) t) ∧ s = st) → WS (forL q set u (xs.map g) τ s) N R B C := fun τ s h => by
      obtain ⟨⟨t, rfl⟩, rfl⟩ := h
      exact ih (F b0 a) t (fun b t a' ha => hs b t a' (List.mem_cons_of_mem _ ha)) hN
    generalize u τ1 st = r at h1
    cases r with
    | nx τ s => exact go τ s h1
    | ct τ s => exact go τ s h1
    | rt d s => exact h1
    | _ => exact h1.elim
end
theorem rng_at {n i : Nat} {d : D} (h : (rng 0 (n : Nat))[i]? = some d) : i < n ∧ d = .int (i : Nat) := by
  have hin : i < n := by
    have := (List.getElem?_eq_some_iff.mp h).1
    rwa [rng_len] at this
  rw [rng_eq, List.getElem?_map, List.getElem?_range hin] at h
  exact ⟨hin, (Option.some.inj h).symm⟩
section
variable {q : Sq} {set : D → Sl → Option Sl} {u : SM} {τ : Sl} {st : Store} {N : Sl → Store → Prop} {R : D → Store → Prop} {B C : Sl → Store → Prop} {ft : EM Bool} {fe : EM D} {Q : List D → Store → Prop}
/-- over range(n) -/
theorem ws_rng {n : Nat} (P : Nat → Sl → Store → Prop) (hc : ∀ k τ st, P k τ st → q.chk st = true) (h0 : P 0 τ st)
    (hs : ∀ i τ st, i < n → P i τ st → ∃ τ1, set (.int (i : Nat)) τ = some τ1 ∧ WS (u τ1 st) (P (i + 1)) R N (P (i + 1)))
    (hN : ∀ τ st, P n τ st → N τ st) : WS (forL q set u (rng 0 (n : Nat)) τ st) N R B C :=
  ws_for0 P hc h0 (fun i d τ st hi hp => by
    obtain ⟨hin, rfl⟩ := rng_at hi
    exact hs i τ st hin hp) (fun τ st h => hN τ st (by rwa [rng_len] at h))
theorem w_rng {n : Nat} (P : Nat → List D → Store → Prop) (hc : ∀ k acc st, P k acc st → q.chk st = true) (h0 : P 0 [] st)
    (hs : ∀ (i : Nat) (acc : List D) (st : Store), i < n → P i acc st → ∃ τ1, set (.int (i : Nat)) τ = some τ1 ∧ W (ft τ1 st) fun b s1 => if b then W (fe τ1 s1) fun x s2 => P (i + 1) (acc ++ [x]) s2 else P (i + 1) acc s1)
    (hQ : ∀ acc st, P n acc st → Q acc st) : W (compL q set ft fe τ (rng 0 (n : Nat)) [] st) Q :=
  w_comp0 P hc h0 (fun i d acc st hi hp => by
    obtain ⟨hin, rfl⟩ := rng_at hi
    exact hs i acc st hin hp) (fun acc st h => hQ acc st (by rwa [rng_len] at h))
/-- over things that are told by others -/
theorem ws_map {α : Type} {ds : List D} (g : α → D) (xs : List α) (hd : ds = xs.map g) (P : Nat → Sl → Store → Prop) (hc : ∀ k τ st, P k τ st → q.chk st = true) (h0 : P 0 τ st)
    (hs : ∀ i a τ st, xs[i]? = some a → P i τ st → ∃ τ1, set (g a) τ = some τ1 ∧ WS (u τ1 st) (P (i + 1)) R N (P (i + 1)))
    (hN : ∀ τ st, P xs.length τ st → N τ st) : WS (forL q set u ds τ st) N R B C :=
  ws_for0 P hc h0 (fun i d τ st hi hp => by
    rw [hd, List.getElem?_map] at hi
    cases hx : xs[i]? with
    | none => rw [hx] at hi; cases hi
    | some a =>
      rw [hx] at hi
      cases hi
      exact hs i a τ st hx hp) (fun τ st h => hN τ st (by rwa [hd, List.length_map] at h))
theorem w_mapc {α : Type} {ds : List D} (g : α → D) (xs : List α) (hd : ds = xs.map g) (P : Nat → List D → Store → Prop) (hc : ∀ k acc st, P k acc st → q.chk st = true) (h0 : P 0 [] st)
    (hs : ∀ (i : Nat) (a : α) (acc : List D) (st : Store), xs[i]? = some a → P i acc st → ∃ τ1, set (g a) τ = some τ1 ∧ W (ft τ1 st) fun b s1 => if b then W (fe τ1 s1) fun x s2 => P (i + 1) (acc ++ [x]) s2 else P (i + 1) acc s1)
    (hQ : ∀ acc st, P xs.length acc st → Q acc st) : W (compL q set ft fe τ ds [] st) Q :=
  w_comp0 P hc h0 (fun i d acc st hi hp => by
    rw [hd, List.getElem?_map] at hi
    cases hx : xs[i]? with
    | none => rw [hx] at hi; cases hi
    | some a =>
      rw [hx] at hi
      cases hi
      exact hs i a acc st hx hp) (fun acc st h => hQ acc st (by rwa [hd, List.length_map] at h))
end
section
variable {q : Sq} {set : D → Sl → Option Sl} {u : SM} {τ : Sl} {st : Store} {N : Sl → Store → Prop} {R : D → Store → Prop} {B C : Sl → Store → Prop}
/-- a loop that returns False at the first that fails -/
theorem ws_all {α : Type} (g : α → D) (p : α → Bool) (I : Sl → Prop) (J : Store → Prop) (hc : ∀ st, J st → q.chk st = true) : ∀ (xs : List α) (ds : List D) (τ : Sl) (st : Store), ds = xs.map g → I τ → J st →
    (∀ a ∈ xs, ∀ τ st, I τ → J st → ∃ τ1, set (g a) τ = some τ1 ∧ WS (u τ1 st) (fun τ s => p a = true ∧ I τ ∧ J s) (fun d s => p a = false ∧ d = .bl false ∧ J s) (fun _ _ => False) (fun τ s => p a = true ∧ I τ ∧ J s)) →
    (∀ τ s, xs.all p = true → I τ → J s → N τ s) → (∀ s, xs.all p = false → J s → R (.bl false) s) → WS (forL q set u ds τ st) N R B C
  | [], ds, τ, st, hd, h0, j0, _, kN, _ => by
    subst hd
    rw [List.map_nil, forL, if_pos (hc st j0)]
    exact kN τ st rfl h0 j0
  | a :: xs, ds, τ, st, hd, h0, j0, hs, kN, kR => by
    subst hd
    obtain ⟨τ1, e1, h1⟩ := hs a (List.mem_cons_self ..) τ st h0 j0
    rw [List.map_cons, forL, if_pos (hc st j0), e1]
    simp only
    have go : ∀ τ s, (p a = true ∧ I τ ∧ J s) → WS (forL q set u (xs.map g) τ s) N R B C := fun τ s ⟨hp, h2, h3⟩ =>
      ws_all g p I J hc xs _ τ s rfl h2 h3 (fun b hb => hs b (List.mem_cons_of_mem _ hb)) (fun τ s h => kN τ s (by rw [List.all_cons, hp, h]; rfl)) (fun s h => kR s (by rw [List.all_cons, hp, h]; rfl))
    generalize u τ1 st = r at h1
    cases r with
    | nx τ s => exact go τ s h1
    | ct τ s => exact go τ s h1
    | rt d s =>
      obtain ⟨hp, rfl, h3⟩ := h1
      exact kR s (by rw [List.all_cons, hp]; rfl) h3
    | _ => exact h1.elim
theorem ws_allR {n : Nat} (p : Nat → Bool) (I : Sl → Prop) (J : Store → Prop) (hc : ∀ st, J st → q.chk st = true) (h0 : I τ) (j0 : J st)
    (hs : ∀ a, a < n → ∀ τ st, I τ → J st → ∃ τ1, set (.int (a : Nat)) τ = some τ1 ∧ WS (u τ1 st) (fun τ s => p a = true ∧ I τ ∧ J s) (fun d s => p a = false ∧ d = .bl false ∧ J s) (fun _ _ => False) (fun τ s => p a = true ∧ I τ ∧ J s))
    (kN : ∀ τ s, (List.range n).all p = true → I τ → J s → N τ s) (kR : ∀ s, (List.range n).all p = false → J s → R (.bl false) s) : WS (forL q set u (rng 0 (n : Nat)) τ st) N R B C :=
  ws_all (fun k : Nat => D.int k) p I J hc (List.range n) _ τ st (rng_eq n) h0 j0 (fun a ha => hs a (List.mem_range.mp ha)) kN kR
theorem WS.cut {r : SR} {N' : Sl → Store → Prop} (h : WS r N' R B C) (k : ∀ τ s, N' τ s → N τ s) : WS r N R B C := h.mono k (fun _ _ h => h) (fun _ _ h => h) (fun _ _ h => h)
end
/-! dicts -/
theorem dGet_put {kvs : List (D × D)} {k k' v : D} : dGet (dPut kvs k v) k' = if k' = k then some v else dGet kvs k' := by
  have h1 : ∀ kvs : List (D × D), dGet (kvs.map fun p => if p.1 = k then (p.1, v) else p) k' = (dGet kvs k').map fun x => if k' = k then v else x := fun kvs => by
    unfold dGet
    induction kvs with
    | nil => rfl
    | cons p kvs ih =>
      rw [List.map_cons]
      by_cases e : p.1 = k'
      · rw [List.find?_cons_of_pos (by split <;> simpa using e), List.find?_cons_of_pos (by simpa using e)]
        by_cases e2 : p.1 = k
        · have : k' = k := by rw [← e, e2]
          simp [e2, this]
        · have : ¬ k' = k := by rw [← e]; exact e2
          simp [e2, this]
      · rw [List.find?_cons_of_neg (by split <;> simpa using e), List.find?_cons_of_neg (by simpa using e)]
        exact ih
  unfold dPut
  split
  · rename_i h
    rw [h1]
    by_cases e : k' = k
    · obtain ⟨x, hx⟩ := Option.isSome_iff_exists.mp h
      subst e
      simp [hx]
    · rw [if_neg e]
      cases dGet kvs k' <;> simp [e]
  · rename_i h
    unfold dGet at h ⊢
    rw [List.find?_append]
    by_cases e : k' = k
    · subst e
      have : kvs.find? (fun p => decide (p.1 = k')) = none := by
        cases hz : kvs.find? (fun p => decide (p.1 = k')) with
        | none => rfl
        | some x => rw [hz] at h; exact absurd rfl h
      simp [this]
    · rw [if_neg e]
      cases hz : kvs.find? (fun p => decide (p.1 = k')) with
      | some x => simp
      | none => simp [Ne.symm e]
theorem dPut_keys {kvs : List (D × D)} {k v : D} {p : D → Bool} (h : (kvs.all fun q => p q.1) = true) (hk : p k = true) : ((dPut kvs k v).all fun q => p q.1) = true := by
  unfold dPut
  rw [List.all_eq_true] at h
  split
  · rw [List.all_eq_true]
    intro x hx
    obtain ⟨y, hy, rfl⟩ := List.mem_map.mp hx
    have := h y hy
    split <;> exact this
  · rw [List.all_append, List.all_eq_true.mpr h]
    simpa using hk
theorem dPut_len {kvs : List (D × D)} {k v : D} : (dPut kvs k v).length ≤ kvs.length + 1 := by
  unfold dPut
  split <;> simp
theorem keyFit_tup {kvs : List (D × D)} {k : D} (h : (kvs.all fun q => q.1.tupQ) = true) (hk : k.tupQ = true) : keyFit kvs k = true := by simp [keyFit, h, hk]
theorem keyFit_flat {kvs : List (D × D)} {k : D} (h : (kvs.all fun q => q.1.flatK) = true) (hk : k.flatK = true) : keyFit kvs k = true := by simp [keyFit, h, hk]
theorem dctAt_new {a : Store} {kvs : List (D × D)} : dctAt (a ++ [.dct kvs]) a.length = some kvs := by simp [dctAt]
theorem dctAt_lt {st : Store} {n : Nat} {kvs : List (D × D)} (h : dctAt st n = some kvs) : n < st.length := by
  unfold dctAt at h
  split at h
  · rename_i e
    exact (List.getElem?_eq_some_iff.mp e).1
  · cases h
theorem dctAt_set {st : Store} {n : Nat} {kvs kvs' : List (D × D)} (h : dctAt st n = some kvs) : dctAt (st.set n (.dct kvs')) n = some kvs' := by
  have := dctAt_lt h
  simp [dctAt, this]
theorem dctAt_ne {st : Store} {n m : Nat} {c : Cell} (h : m ≠ n) : dctAt (st.set n c) m = dctAt st m := by
  unfold dctAt
  rw [List.getElem?_set_ne (Ne.symm h)]
theorem Gr.dct {a b : Store} {n : Nat} {kvs : List (D × D)} (x : Gr a b) (h : dctAt a n = some kvs) : dctAt b n = some kvs := by
  obtain ⟨l, rfl⟩ := x.ex
  unfold dctAt at h ⊢
  rw [List.getElem?_append_left (dctAt_lt (kvs := kvs) (by unfold dctAt; exact h))]
  exact h
theorem Fr.dct {a b : Store} {n : Nat} {kvs : List (D × D)} (x : Fr a b) (h : dctAt a n = some kvs) (hn : n ≠ 1) : dctAt b n = some kvs := by
  have := x.at' n hn (dctAt_lt h)
  unfold dctAt at h ⊢
  rwa [this]
section
variable {g : EM Bool} {u v w : SM} {τ : Sl} {st s1 : Store} {N : Sl → Store → Prop} {R : D → Store → Prop} {B C : Sl → Store → Prop}
theorem ws_skip (h : g τ st = .ok false st) (k : WS (w τ st) N R B C) : WS (sSeq (sIf g u sNil) w τ st) N R B C := by
  rw [sSeq_e, WS_seq, sIf_e, h]
  simpa using k
theorem ws_take (h : g τ st = .ok true st) (k : WS (u τ st) (fun τ s => WS (w τ s) N R B C) R B C) : WS (sSeq (sIf g u v) w τ st) N R B C := by
  rw [sSeq_e, WS_seq, sIf_e, h]
  simpa using k
theorem ws_else (h : g τ st = .ok false st) (k : WS (v τ st) (fun τ s => WS (w τ s) N R B C) R B C) : WS (sSeq (sIf g u v) w τ st) N R B C := by
  rw [sSeq_e, WS_seq, sIf_e, h]
  simpa using k
/-- one statement, then the rest -/
theorem ws_cons {N' : Sl → Store → Prop} (h : WS (u τ st) N' R B C) (k : ∀ τ s, N' τ s → WS (w τ s) N R B C) : WS (sSeq u w τ st) N R B C := by
  rw [sSeq_e, WS_seq]
  exact h.cut k
end
end HM

/-! HM, part X: texts split. -/
namespace HM
open PySem PySem.Spec PyProof.Rows L2
section
variable {X : Cx}
theorem strs_rds {K : KW} {m : List Addr} {H : Hp} : ∀ ys : List Str, RDs K m H (ys.map fun y => D.str y.cps.toList) (ys.map V.str)
  | [] => .nil
  | y :: ys => .cons (.str y.cps.toList) (strs_rds ys)
def mSplit : MM := fun d ds st => match d, ds with
  | .str a, [.str b] => if b ≠ [] ∧ a.length + 2 ≤ 16777216 then .ok (.ref st.length) (st ++ [.lst ((Txt.split ⟨a.toArray⟩ ⟨b.toArray⟩).map fun y => D.str y.cps.toList)]) else .bad
  | _, _ => .bad
theorem me_split : MethM X "str.split" mSplit := ⟨_, mt_split, fun m st H d v ds vs E Q hS r rs hP => by
  unfold mSplit at hP
  split at hP
  · rename_i a b
    split at hP
    · rename_i hc
      cases r
      obtain ⟨u, rfl, ru⟩ := rs.one
      cases ru
      refine ⟨_, _, rfl, rfl, ?_, ?_, hP.lst hS (strs_rds _)⟩
      · cases b with
        | nil => exact absurd rfl hc.1
        | cons x b => rfl
      · rw [PySem.sizeLine_eq]
        exact hc.2
    · exact hP.elim
  · exact hP.elim⟩
end
/-! ### dict(pairs) -/
section
variable {X : Cx} {pins : List (Addr × Obj)} {σ : L2.St} {H : Hp} {s : Shared} {a : Addr} {xs : List V}
theorem plain_seq (I : Inv X pins σ H s) (h : PlT X.K H a xs) : ∃ its : List Value, Vals xs its ∧ PlainSeq "tuple" s.heap a its.toArray ∧ xs.length ≤ sizeLine := by
  obtain ⟨its, r, pl, hz⟩ := I.tuple h.sq
  obtain ⟨ob, ho, hc, n, hd⟩ := pl
  rcases h with ⟨o, hn, h⟩ | ⟨o, its', n', hk, hc', hn, hs, hz', r'⟩
  · have z : s.heap.get? a = some o := (I.hok a _ h).1
    rw [z] at ho
    cases ho
    exact ⟨its, r, ⟨ob, n, z, hc, hn, hd⟩, hz⟩
  · have z := I.kIn a o hk
    rw [z] at ho
    cases ho
    exact ⟨its, r, ⟨ob, n, z, hc, hn, hd⟩, hz⟩
theorem pairs2 (I : Inv X pins σ H s) : ∀ {ps : List Addr} {kvs : List (Key × V)}, Paired (fun p kv => SqT X.K H p [kV kv.1, kv.2]) ps kvs →
    ∃ (prs : List (Key × Value)) (qs : List (Value × Value)), KV kvs prs ∧ prs.length = ps.length ∧ qs.length = ps.length ∧ ∀ (j : Nat) (q : Value × Value), qs[j]? = some q → ∃ (b : Addr) (k : Key), ps[j]? = some b ∧ prs[j]? = some (k, q.2) ∧ IsTup s.heap b #[q.1, q.2] ∧ (mixKind X.prog X.w).is k q.1 = true
  | _, _, .nil => ⟨[], [], .nil, rfl, rfl, fun j q e => by simp at e⟩
  | _, _, .cons (a := p) (b := kv) h t => by
    obtain ⟨prs, qs, r, hl, hl2, hp⟩ := pairs2 I t
    obtain ⟨its, rv, ht, _⟩ := I.tuple h
    obtain ⟨u, y, ei, ru, ry⟩ := vals2 rv
    subst ei
    refine ⟨(kv.1, y) :: prs, (u, y) :: qs, .cons ⟨rfl, ry⟩ r, by rw [List.length_cons, List.length_cons, hl], by rw [List.length_cons, List.length_cons, hl2], fun j q e => ?_⟩
    cases j with
    | zero =>
      have e' : (u, y) = q := Option.some.inj e
      subst e'
      exact ⟨p, kv.1, rfl, rfl, ht, kV_is ru⟩
    | succ j =>
      obtain ⟨b, k', e1, e2, e3⟩ := hp j q (by simpa using e)
      exact ⟨b, k', by simpa using e1, by simpa using e2, e3⟩
theorem call_dictT (hcalm : X.calm = true) : CallR X (.type "dict") (fun xs H Q => ∃ (a : Addr) (ps : List Addr) (kvs : List (Key × V)), xs = [.ref a] ∧ PlT X.K H a (ps.map V.ref) ∧ Paired (fun p kv => SqT X.K H p [kV kv.1, kv.2]) ps kvs ∧
    ∀ p, H p = none → Q (.ref p) (upd H p (.dK (mergeK [] kvs)))) := by
  intro pins s σ H xs us Q I r q
  obtain ⟨a, ps, kvs, rfl, hq, hp, q⟩ := q
  obtain ⟨u, rfl, rx⟩ := vals1 r
  cases rx
  obtain ⟨its, rv, pl, hz⟩ := plain_seq I hq
  have ei := refs_at rv
  subst ei
  rw [List.length_map] at hz
  obtain ⟨prs, qs, rel, hl, hl2, hpr⟩ := pairs2 I hp
  have P := PairArg.tuple (prog := X.prog) (w := X.w) a (ps.map Value.ref).toArray (fun j => ps.getD j 0) qs
  refine PySem.call_dict_pairs (knd := mixKind X.prog X.w) (kvs := prs) P (I.ok.hd hcalm) ⟨pl, by simp [hl2], fun j k v e => ?_⟩ ⟨by rw [hl, hl2], fun j k v e => ?_⟩ (by rw [hl2]; exact hz) fun h' tk hd' k => ?_
  · obtain ⟨b, k', e1, e2, e3, e4⟩ := hpr j _ e
    obtain ⟨o, ho, hc, n, hd⟩ := e3
    exact ⟨by simp [e1], .inl (by simp only [List.getD_eq_getElem?_getD, e1]; exact ⟨o, ho, hc, n, hd⟩)⟩
  · obtain ⟨b, k', e1, e2, e3, e4⟩ := hpr j _ e
    exact ⟨k', e2, e4⟩
  · have hm : (s.heap.objs.size == sysModules) = false := beq_eq_false_iff_ne.mpr (Nat.ne_of_gt I.big)
    have hlen : (mergeK [] kvs).length ≤ sizeLine := by
      refine Nat.le_trans (length_mergeK kvs []) ?_
      rw [List.length_nil, Nat.zero_add, rel.length, hl]
      exact hz
    exact ⟨.ref s.heap.objs.size, upd H s.heap.objs.size (.dK (mergeK [] kvs)), I.laid (t' := tk) (fun b o e => k b o (fun z => nomatch z) e) (Nat.le_refl _) (show ObjOk X.prog X.w _ _ _ (.dK (mergeK [] kvs)) from ⟨hlen, hm, merged [] prs, KV.merge rel .nil, hd'⟩), rfl, q _ (I.hok.fresh (Nat.le_refl _))⟩
end
section
variable {K : PySem.W.Frag} {m : List Addr} {H : Hp}
theorem DRel1.put {kvs : List (D × D)} {us : List (Key × V)} (q : DRel1 K m H kvs us) {d : D} {v : V} (rv : RD K m H d v) (w : Key) : DRel1 K m H (dPut kvs (keyD w) d) (putK us w v) := by
  unfold dPut putK
  have ea : (dGet kvs (keyD w)).isSome = (us.any fun kv => decide (kv.1 = w)) := by
    have z := get1 q w
    rw [valV_any]
    cases h1 : dGet kvs (keyD w) <;> cases h2 : valV us w <;> rw [h1, h2] at z <;> first | rfl | exact z.elim
  rw [ea]
  split
  · have go : ∀ {kvs us}, DRel1 K m H kvs us → DRel1 K m H (kvs.map fun p => if p.1 = keyD w then (p.1, d) else p) (us.map fun kv => if kv.1 = w then (kv.1, v) else kv) := fun {kvs us} r => by
      induction r with
      | nil => exact .nil
      | @cons p u ps us h t ih =>
        refine .cons ?_ ih
        simp only []
        by_cases e : u.1 = w
        · rw [if_pos e, if_pos (by rw [h.1, e])]
          exact ⟨h.1, rv⟩
        · rw [if_neg e, if_neg (by rw [h.1]; exact fun z => e (keyD_inj z))]
          exact h
    exact go q
  · exact Paired.snoc q ⟨rfl, rv⟩
def mergeD (acc ps : List (D × D)) : List (D × D) := ps.foldl (fun acc p => dPut acc p.1 p.2) acc
theorem DRel1.merge {ps : List (D × D)} {kvs : List (Key × V)} (r : DRel1 K m H ps kvs) : ∀ {acc : List (D × D)} {us : List (Key × V)}, DRel1 K m H acc us → DRel1 K m H (mergeD acc ps) (mergeK us kvs) := by
  induction r with
  | nil => exact fun q => q
  | @cons p q ps kvs h t ih =>
    intro acc us z
    have e := ih (z.put h.2 q.1)
    rw [← h.1] at e
    exact e
/-- a pair whose first is a number or a text -/
def pairD (d : D) : Option (D × D) := match d with
  | .tup [k, v] => if k.flatK then some (k, v) else none
  | _ => none
def pairsD : List D → Option (List (D × D))
  | [] => some []
  | d :: ds => match pairD d, pairsD ds with
    | some p, some ps => some (p :: ps)
    | _, _ => none
theorem pairsD_read : ∀ {ds : List D} {vs : List V} {ps : List (D × D)}, RDs K m H ds vs → pairsD ds = some ps → ∃ (as : List Addr) (kvs : List (Key × V)), vs = as.map V.ref ∧ Paired (fun p kv => SqT K H p [kV kv.1, kv.2]) as kvs ∧ DRel1 K m H ps kvs
  | _, _, _, .nil, e => by
    cases e
    exact ⟨[], [], rfl, .nil, .nil⟩
  | _, _, _, .cons (d := d) r rs, e => by
    unfold pairsD at e
    split at e
    · rename_i p ps hp hps
      cases e
      obtain ⟨as, kvs, rfl, q1, q2⟩ := pairsD_read rs hps
      unfold pairD at hp
      split at hp
      · rename_i k v
        split at hp
        · rename_i hf
          cases hp
          cases r with
          | tup sq r2 =>
            cases r2 with
            | cons rk r3 =>
              cases r3 with
              | cons rv r4 =>
                cases r4
                obtain ⟨w, e1, e2⟩ := flatK_of hf rk
                subst e2
                exact ⟨_ :: as, (w, _) :: kvs, rfl, .cons sq.sq q1, .cons ⟨e1, rv⟩ q2⟩
        · cases hp
      · cases hp
    · cases e
end
section
variable {X : Cx}
def gDict : SM1 := fun ds st => match pairsD ds with
  | some ps => .ok (.ref st.length) (st ++ [.dct (mergeD [] ps)])
  | none => .bad
theorem s_dict (hc : X.calm = true) : CallS X (.type "dict") gDict := ⟨_, (call_dictP hc).or (call_dictT hc), fun m st H ds v E Q hS r hP => by
  obtain ⟨a, vs, rfl, q, rs⟩ := r
  unfold gDict at hP
  split at hP
  · rename_i ps hps
    obtain ⟨as, kvs, rfl, q1, q2⟩ := pairsD_read rs hps
    have fin : ∀ p, H p = none → Q (.ref p) (upd H p (.dK (mergeK [] kvs))) := fun p hp => by
      refine hP (m ++ [p]) _ _ (Ext.app hp) (hS.app hp (.inl ⟨_, upd_same, DRel1.kp (DRel1.merge q2 .nil) (Ext.app hp).toKp⟩)) (.ref ?_)
      rw [← hS.len]
      simp
    rcases q with q | q
    · exact .inl ⟨a, as, kvs, rfl, q, q1, fin⟩
    · exact .inr ⟨a, as, kvs, rfl, q, q1, fin⟩
  · exact hP.elim⟩
end
theorem bt_dict : bootBuiltins "dict" = some (.type "dict") := by decide +kernel
end HM

/-! HM, part Y: more of what holds behind a run. -/
namespace HM
open PySem PySem.Spec PyProof.Rows L2
section
variable {g : EM Bool} {u v w : SM} {τ : Sl} {st s1 : Store} {N : Sl → Store → Prop} {R : D → Store → Prop} {B C : Sl → Store → Prop}
/-- an if whose test changes the store -/
theorem ws_ifd (P : Bool → Store → Prop) (h : W (g τ st) P) (k1 : ∀ s, P true s → WS (u τ s) N R B C) (k2 : ∀ s, P false s → WS (v τ s) N R B C) : WS (sIf g u v τ st) N R B C := by
  rw [sIf_e, WS_bindE]
  refine h.mono fun b s hp => ?_
  cases b with
  | true => exact k1 s hp
  | false => exact k2 s hp
/-- a test that must be passed: if not g: return False -/
theorem ws_must {f : EM D} (P : Store → Prop) (h : W (f τ st) fun d s => d = .bl true ∧ P s) (k : ∀ s, P s → N τ s) : WS (sIf (HM.tNot (tVal f)) u sNil τ st) N R B C := by
  rw [sIf_e, WS_bindE, tNot_e, tVal_e]
  rw [W_bind, W_bind]
  refine h.mono fun d s hp => ?_
  obtain ⟨rfl, hp⟩ := hp
  simpa using k s hp
theorem ws_forD {fi : EM Sq} {set : D → Sl → Option Sl} (P : Sq → Store → Prop) (h : W (fi τ st) P) (k : ∀ q s, P q s → WS (forL q set u q.items τ s) N R B C) : WS (sFor fi set u τ st) N R B C := by
  rw [sFor_e, WS_bindE]
  exact h.mono k
theorem ws_set {i : Nat} {f : EM D} (h : W (f τ st) fun d s => N (τ.set i (some d)) s) : WS (sSet i f τ st) N R B C := by
  rw [sSet_e, WS_bindE]
  exact h
theorem ws_ret {f : EM D} (h : W (f τ st) R) : WS (sRet f τ st) N R B C := by
  rw [sRet_e, WS_bindE]
  exact h
theorem ws_expr {f : EM D} (h : W (f τ st) fun _ s => N τ s) : WS (sExpr f τ st) N R B C := by
  rw [sExpr_e, WS_bindE]
  exact h
/-- a name bound to a comprehension's list -/
theorem ws_setLc {i : Nat} {own : List Nat} {fi : EM Sq} {set : D → Sl → Option Sl} {ft : EM Bool} {fe : EM D} (P : Sq → Store → Prop) (h : W (fi τ st) P) (hl : ∀ q s, P q s → q.items.length ≤ 16777216)
    (k : ∀ q s, P q s → W (compL q set ft fe (wipeD τ own) q.items [] s) fun ys s1 => N (τ.set i (some (.ref s1.length))) (s1 ++ [.lst ys])) : WS (sSet i (eEl (lComp own fi set ft fe)) τ st) N R B C := by
  refine ws_set ?_
  rw [eEl_e, W_bind, lComp_e, W_bind]
  refine h.mono fun q s hp => w_lc (hl q s hp) ?_
  exact k q s hp
end
end HM

namespace K19
open PySem PySem.Spec PyProof.Rows L2 HM
def top (i : Nat) : Stmt := PySem.Challenge.pw_closedratios_k19_values.main.body.getD i (.Pass ⟨0, 0, 0, 0⟩)
abbrev s_held : Stmt := top 1
abbrev s_value_of : Stmt := top 2
abbrev s_value_in : Stmt := top 3
abbrev s_combined : Stmt := top 4
abbrev s__law_begin : Stmt := top 6
abbrev s__law_draw : Stmt := top 7
abbrev s__law_pick : Stmt := top 8
abbrev s__law_pop : Stmt := top 9
abbrev s__law_shuffled : Stmt := top 10
abbrev s__law_pool : Stmt := top 11
abbrev s__law_is_int : Stmt := top 12
abbrev s__law_value_of : Stmt := top 13
abbrev s__law_leaf : Stmt := top 14
abbrev s__law_shape : Stmt := top 15
abbrev s__law_line : Stmt := top 16
abbrev s__law_far : Stmt := top 17
abbrev s__law_tells : Stmt := top 18
abbrev s__law_tells_parts : Stmt := top 19
abbrev s__law_tells_edges : Stmt := top 20
abbrev s__law_holds : Stmt := top 21
abbrev s_law : Stmt := top 22
def N_held : List PySem.Str := ["n", "top"]
theorem sc_held : FnScope N_held ["n", "top"] (defScope s_held) := ⟨rfl, rfl, rfl, by decide +kernel, rfl, by decide +kernel, by decide +kernel⟩
def m_held : SM := (sSeq (sIf (tBl (eBin oLt (eVar 0) (eC (.int 0)))) (sRet (eC (.int 0))) sNil)
    (sSeq (sIf (tBl (eBin oGt (eVar 0) (eVar 1))) (sRet (eVar 1)) sNil)
    (sRet (eVar 0))))
theorem ok_held {P : Program} {w : World} {K : PySem.W.Frag} {mg : PySem.Str → Option Value} {base : Heap} {f : Addr} {fd : FuncData} (F : FnP K "held" s_held f fd) (gx : mg "held" = some (.ref f))  :
    Cal P w K mg base "held" 1 ["n", "top"] (runB 2 (m_held)) :=
  cal_mk (k := 0) F sc_held gx (fun _ _ _ _ _ _ us hl => match us, hl with | [_, _], _ => rfl) fun cdv A outer s H E hr tk hp =>
    (sx_cons (sx_if (et_cmp (m_lt hr.units65) (xv 0) ex_int (nomark _)) (sx_one (sx_ret ex_int)) sx_nil)
    (sx_cons (sx_if (et_cmp m_gt (xv 0) (xv 1) (nomark _)) (sx_one (sx_ret (xv 1))) sx_nil)
    (sx_one (sx_ret (xv 0)))))
def N_value_of : List PySem.Str := ["value", "numbers"]
theorem sc_value_of : FnScope N_value_of ["value", "numbers"] (defScope s_value_of) := ⟨rfl, rfl, rfl, by decide +kernel, rfl, by decide +kernel, by decide +kernel⟩
def m_value_of (f_value_in : FM) : SM := (sRet (eCall 2 f_value_in (aCons (eVar 0) (aCons (eCS gDict (sEx (eVar 1))) aNil))))
theorem ok_value_of {P : Program} {w : World} {K : PySem.W.Frag} {mg : PySem.Str → Option Value} {base : Heap} {f : Addr} {fd : FuncData} {f_value_in : FM} (F : FnP K "value_of" s_value_of f fd) (gx : mg "value_of" = some (.ref f)) (c_value_in : Cal P w K mg base "value_in" 42 ["value", "known"] f_value_in) (z_dict : mg "dict" = none) :
    Cal P w K mg base "value_of" 43 ["value", "numbers"] (runB 2 (m_value_of f_value_in)) :=
  cal_mk (k := 42) F sc_value_of gx (fun _ _ _ _ _ _ us hl => match us, hl with | [_, _], _ => rfl) fun cdv A outer s H E hr tk hp =>
    (sx_one (sx_ret (ex_c1 c_value_in tk hr (by decide) (ea_cons (xv 0) (ea_cons (ex_callTs (s_dict (by rfl)) (by rfl) z_dict bt_dict (es_ex (xv 1))) ea_nil)))))
def N_value_in : List PySem.Str := ["value", "known", "word", "parts", "part"]
theorem sc_value_in : FnScope N_value_in ["value", "known"] (defScope s_value_in) := ⟨rfl, rfl, rfl, by decide +kernel, rfl, by decide +kernel, by decide +kernel⟩
def m_value_in (f_value_in : FM) (f_combined : FM) : SM := (sSeq (sSet 2 (eBin oIx (eVar 0) (eC (.int 0))))
    (sSeq (sIf (tBl (eBin oEq (eVar 2) (eC (.str [110, 117, 109, 98, 101, 114])))) (sRet (eBin oIx (eVar 0) (eC (.int 1)))) sNil)
    (sSeq (sIf (tBl (eBin oEq (eVar 2) (eC (.str [110, 97, 109, 101])))) (sRet (eBin oIx (eVar 1) (eBin oIx (eVar 0) (eC (.int 1))))) sNil)
    (sSeq (sSet 3 (eEl (lComp [4] (iEx (eSl (eVar 0) (oSome (eC (.int 1))) oNone)) (gN 4) tYes (eCall 2 f_value_in (aCons (eVar 4) (aCons (eVar 1) aNil))))))
    (sSeq (sIf (tBl (eBin oNe (eVar 2) (eC (.str [119, 104, 101, 110])))) (sRet (eCall 3 f_combined (aCons (eVar 2) (aCons (eBin oIx (eVar 3) (eC (.int 0))) (aCons (eBin oIx (eVar 3) (eC (.int 1))) aNil))))) sNil)
    (sSeq (sIf (tBl (eBin oGt (eBin oIx (eVar 3) (eC (.int 0))) (eC (.int 0)))) (sRet (eBin oIx (eVar 3) (eC (.int 1)))) sNil)
    (sRet (eBin oIx (eVar 3) (eC (.int 2))))))))))
theorem ok_value_in {P : Program} {w : World} {K : PySem.W.Frag} {mg : PySem.Str → Option Value} {base : Heap} {f : Addr} {fd : FuncData} {f_combined : FM} {f_value_in : FM} {j : Nat} (hj : 1 ≤ j) (F : FnP K "value_in" s_value_in f fd) (gx : mg "value_in" = some (.ref f)) (c_combined : Cal P w K mg base "combined" 1 ["word", "left", "right"] f_combined) (c_value_in : Cal P w K mg base "value_in" j ["value", "known"] f_value_in) :
    Cal P w K mg base "value_in" (j + 1) ["value", "known"] (runB 5 (m_value_in f_value_in f_combined)) :=
  cal_mk (k := j) F sc_value_in gx (fun _ _ _ _ _ _ us hl => match us, hl with | [_, _], _ => rfl) fun cdv A outer s H E hr tk hp =>
    (sx_cons (sx_set sc_value_in.nd (ex_ix (m_ix hr.units65) (xv 0) ex_int))
    (sx_cons (sx_if (et_cmp (m_eq hr.units) (xv 2) (ex_strc [110, 117, 109, 98, 101, 114] (by decide +kernel)) (nomark _)) (sx_one (sx_ret (ex_ix (m_ix hr.units65) (xv 0) ex_int))) sx_nil)
    (sx_cons (sx_if (et_cmp (m_eq hr.units) (xv 2) (ex_strc [110, 97, 109, 101] (by decide +kernel)) (nomark _)) (sx_one (sx_ret (ex_ix (m_ix hr.units65) (xv 1) (ex_ix (m_ix hr.units65) (xv 0) ex_int)))) sx_nil)
    (sx_cons (sx_setLc (own := [(("part" : PySem.Str), 4)]) (by rfl) sc_value_in.nd (ei_ex (ex_sl (xv 0) (eo_some ex_int) eo_none)) (blkOk_by (N := N_value_in) (sc := (defScope s_value_in)) (by decide +kernel)) (fun _ _ _ _ _ => (eg_name sc_value_in.nd)) (fun _ _ _ _ _ => ets_nil) (fun _ _ _ _ _ => (ex_c1 c_value_in tk0 hr (by omega) (ea_cons (xv 4) (ea_cons (xv 1) ea_nil)))))
    (sx_cons (sx_if (et_cmp (m_ne hr.units) (xv 2) (ex_strc [119, 104, 101, 110] (by decide +kernel)) (nomark _)) (sx_one (sx_ret (ex_c1 c_combined tk hr (by omega) (ea_cons (xv 2) (ea_cons (ex_ix (m_ix hr.units65) (xv 3) ex_int) (ea_cons (ex_ix (m_ix hr.units65) (xv 3) ex_int) ea_nil)))))) sx_nil)
    (sx_cons (sx_if (et_cmp m_gt (ex_ix (m_ix hr.units65) (xv 3) ex_int) ex_int (nomark _)) (sx_one (sx_ret (ex_ix (m_ix hr.units65) (xv 3) ex_int))) sx_nil)
    (sx_one (sx_ret (ex_ix (m_ix hr.units65) (xv 3) ex_int)))))))))
def fr_value_in (f_combined : FM) : Nat → FM
  | 0 => runB 5 (fun _ _ => .bad)
  | m + 1 => runB 5 (m_value_in (fr_value_in f_combined m) f_combined)
theorem rec_value_in {P : Program} {w : World} {K : PySem.W.Frag} {mg : PySem.Str → Option Value} {base : Heap} {f : Addr} {fd : FuncData} {f_combined : FM} (F : FnP K "value_in" s_value_in f fd) (gx : mg "value_in" = some (.ref f)) (c_combined : Cal P w K mg base "combined" 1 ["word", "left", "right"] f_combined) : ∀ m : Nat, Cal P w K mg base "value_in" (1 + 1 + m) ["value", "known"] (fr_value_in f_combined m)
  | 0 => cal_mk (k := 1) F sc_value_in gx (fun _ _ _ _ _ _ us hl => match us, hl with | [_, _], _ => rfl) fun cdv A outer s H E hr tk hp => ⟨fun _ _ _ _ _ _ _ _ hP => hP.elim⟩
  | m + 1 => ok_value_in (j := 1 + 1 + m) (by omega) F gx c_combined (rec_value_in F gx c_combined m)
def N_combined : List PySem.Str := ["word", "left", "right"]
theorem sc_combined : FnScope N_combined ["word", "left", "right"] (defScope s_combined) := ⟨rfl, rfl, rfl, by decide +kernel, rfl, by decide +kernel, by decide +kernel⟩
def m_combined : SM := (sSeq (sIf (tBl (eBin oEq (eVar 0) (eC (.str [43])))) (sRet (eBin oAdd (eVar 1) (eVar 2))) sNil)
    (sSeq (sIf (tBl (eBin oEq (eVar 0) (eC (.str [45])))) (sRet (eBin oSub (eVar 1) (eVar 2))) sNil)
    (sSeq (sIf (tBl (eBin oEq (eVar 0) (eC (.str [42])))) (sRet (eBin oMul (eVar 1) (eVar 2))) sNil)
    (sSeq (sIf (tBl (eBin oEq (eVar 0) (eC (.str [60])))) (sRet (eCB fInt (aCons (eBin oLt (eVar 1) (eVar 2)) aNil))) sNil)
    (sSeq (sIf (tBl (eBin oEq (eVar 0) (eC (.str [60, 61])))) (sRet (eCB fInt (aCons (eBin oLe (eVar 1) (eVar 2)) aNil))) sNil)
    (sSeq (sIf (tBl (eBin oEq (eVar 0) (eC (.str [61, 61])))) (sRet (eCB fInt (aCons (eBin oEq (eVar 1) (eVar 2)) aNil))) sNil)
    (sSeq (sIf (tBl (eBin oEq (eVar 0) (eC (.str [109, 105, 110])))) (sRet (eCB fMin2 (aCons (eVar 1) (aCons (eVar 2) aNil)))) sNil)
    (sRet (eCB fMax2 (aCons (eVar 1) (aCons (eVar 2) aNil)))))))))))
theorem ok_combined {P : Program} {w : World} {K : PySem.W.Frag} {mg : PySem.Str → Option Value} {base : Heap} {f : Addr} {fd : FuncData} (F : FnP K "combined" s_combined f fd) (gx : mg "combined" = some (.ref f)) (z_int : mg "int" = none) (z_min : mg "min" = none) (z_max : mg "max" = none) :
    Cal P w K mg base "combined" 1 ["word", "left", "right"] (runB 3 (m_combined)) :=
  cal_mk (k := 0) F sc_combined gx (fun _ _ _ _ _ _ us hl => match us, hl with | [_, _, _], _ => rfl) fun cdv A outer s H E hr tk hp =>
    (sx_cons (sx_if (et_cmp (m_eq hr.units) (xv 0) (ex_strc [43] (by decide +kernel)) (nomark _)) (sx_one (sx_ret (ex_op m_add (xv 1) (xv 2)))) sx_nil)
    (sx_cons (sx_if (et_cmp (m_eq hr.units) (xv 0) (ex_strc [45] (by decide +kernel)) (nomark _)) (sx_one (sx_ret (ex_op m_sub (xv 1) (xv 2)))) sx_nil)
    (sx_cons (sx_if (et_cmp (m_eq hr.units) (xv 0) (ex_strc [42] (by decide +kernel)) (nomark _)) (sx_one (sx_ret (ex_op m_mul (xv 1) (xv 2)))) sx_nil)
    (sx_cons (sx_if (et_cmp (m_eq hr.units) (xv 0) (ex_strc [60] (by decide +kernel)) (nomark _)) (sx_one (sx_ret (ex_callT c_int (by rfl) z_int bt_int (ea_cons (ex_cmp (m_lt hr.units65) (xv 1) (xv 2) (nomark _)) ea_nil)))) sx_nil)
    (sx_cons (sx_if (et_cmp (m_eq hr.units) (xv 0) (ex_strc [60, 61] (by decide +kernel)) (nomark _)) (sx_one (sx_ret (ex_callT c_int (by rfl) z_int bt_int (ea_cons (ex_cmp m_le (xv 1) (xv 2) (nomark _)) ea_nil)))) sx_nil)
    (sx_cons (sx_if (et_cmp (m_eq hr.units) (xv 0) (ex_strc [61, 61] (by decide +kernel)) (nomark _)) (sx_one (sx_ret (ex_callT c_int (by rfl) z_int bt_int (ea_cons (ex_cmp (m_eq hr.units) (xv 1) (xv 2) (nomark _)) ea_nil)))) sx_nil)
    (sx_cons (sx_if (et_cmp (m_eq hr.units) (xv 0) (ex_strc [109, 105, 110] (by decide +kernel)) (nomark _)) (sx_one (sx_ret (ex_callB (c_min2 (by rfl)) (by rfl) z_min bt_min (ea_cons (xv 1) (ea_cons (xv 2) ea_nil))))) sx_nil)
    (sx_one (sx_ret (ex_callB (c_max2 (by rfl)) (by rfl) z_max bt_max (ea_cons (xv 1) (ea_cons (xv 2) ea_nil))))))))))))
def N__law_begin : List PySem.Str := ["script", "cell"]
theorem sc__law_begin : FnScope N__law_begin ["script"] (defScope s__law_begin) := ⟨rfl, rfl, rfl, by decide +kernel, rfl, by decide +kernel, by decide +kernel⟩
def m__law_begin : SM := (sRet (eLst (aCons (eEl (lComp [1] (iEx (eVar 0)) (gN 1) tYes (eCB fInt (aCons (eVar 1) aNil)))) (aCons (eC (.int 0)) (aCons (eC (.int 0)) (aCons (eC (.int 7)) aNil))))))
theorem ok__law_begin {P : Program} {w : World} {K : PySem.W.Frag} {mg : PySem.Str → Option Value} {base : Heap} {f : Addr} {fd : FuncData} (F : FnP K "_law_begin" s__law_begin f fd) (gx : mg "_law_begin" = some (.ref f)) (z_int : mg "int" = none) :
    Cal P w K mg base "_law_begin" 1 ["script"] (runB 2 (m__law_begin)) :=
  cal_mk (k := 0) F sc__law_begin gx (fun _ _ _ _ _ _ us hl => match us, hl with | [_], _ => rfl) fun cdv A outer s H E hr tk hp =>
    (sx_one (sx_ret (ex_lst (ea_cons (ex_el (el_comp (own := [(("cell" : PySem.Str), 1)]) (by rfl) sc__law_begin.nd (ei_ex (xv 0)) (blkOk_by (N := N__law_begin) (sc := (defScope s__law_begin)) (by decide +kernel)) (fun _ _ _ _ _ => (eg_name sc__law_begin.nd)) (fun _ _ _ _ _ => ets_nil) (fun _ _ _ _ _ => (ex_callT c_int (by rfl) z_int bt_int (ea_cons (xv 1) ea_nil))))) (ea_cons ex_int (ea_cons ex_int (ea_cons ex_int ea_nil)))))))
def N__law_draw : List PySem.Str := ["d", "many", "found", "size", "cell"]
theorem sc__law_draw : FnScope N__law_draw ["d", "many"] (defScope s__law_draw) := ⟨rfl, rfl, rfl, by decide +kernel, rfl, by decide +kernel, by decide +kernel⟩
def m__law_draw : SM := (sSeq (sIf (tBl (eBin oGt (eBin oIx (eVar 0) (eC (.int 2))) (eC (.int 0)))) (sSeq (sSet 2 (eBin oIx (eVar 0) (eC (.int 2))))
    (sSeq (sSub (eVar 0) (eC (.int 2)) (eBin oDiv (eVar 2) (eVar 1)))
    (sRet (eBin oMod (eCB fInt (aCons (eVar 2) aNil)) (eVar 1))))) sNil)
    (sSeq (sSet 3 (eC (.int 0)))
    (sSeq (sIf (tBl (eBin oLt (eBin oIx (eVar 0) (eC (.int 1))) (eCB fLen (aCons (eBin oIx (eVar 0) (eC (.int 0))) aNil)))) (sSeq (sSet 4 (eBin oIx (eBin oIx (eVar 0) (eC (.int 0))) (eBin oIx (eVar 0) (eC (.int 1)))))
    (sSet 3 (eBin oAdd (eBin oMul (eC (.int 2)) (eCB fAbs (aCons (eVar 4) aNil))) (eCB fInt (aCons (eBin oLt (eVar 4) (eC (.int 0))) aNil))))) sNil)
    (sSeq (sAugS oIAdd (eVar 0) (eC (.int 1)) (eC (.int 1)))
    (sSeq (sIf (tBl (eBin oGe (eVar 3) (eBin oMul (eC (.int 2)) (eBin oPow (eC (.int 10)) (eC (.int 18)))))) (sSeq (sSet 2 (eBin oMod (eCB fInt (aCons (eBin oDiv (eVar 3) (eC (.int 2))) aNil)) (eBin oShl (eC (.int 1)) (eC (.int 6000)))))
    (sSeq (sSub (eVar 0) (eC (.int 2)) (eBin oDiv (eVar 2) (eVar 1)))
    (sRet (eBin oMod (eCB fInt (aCons (eVar 2) aNil)) (eVar 1))))) sNil)
    (sSeq (sSub (eVar 0) (eC (.int 3)) (eBin oMod (eCB fInt (aCons (eBin oAdd (eBin oAdd (eBin oAdd (eBin oMul (eBin oIx (eVar 0) (eC (.int 3))) (eC (.int 48271))) (eBin oMul (eBin oMod (eCB fInt (aCons (eVar 3) aNil)) (eC (.int 2147483629))) (eC (.int 16807)))) (eBin oMul (eBin oIx (eVar 0) (eC (.int 1))) (eC (.int 69621)))) (eC (.int 11))) aNil)) (eC (.int 2147483647))))
    (sRet (eBin oMod (eCB fInt (aCons (eBin oDiv (eBin oIx (eVar 0) (eC (.int 3))) (eC (.int 16))) aNil)) (eVar 1)))))))))
theorem ok__law_draw {P : Program} {w : World} {K : PySem.W.Frag} {mg : PySem.Str → Option Value} {base : Heap} {f : Addr} {fd : FuncData} (F : FnP K "_law_draw" s__law_draw f fd) (gx : mg "_law_draw" = some (.ref f)) (z_int : mg "int" = none) (z_len : mg "len" = none) (z_abs : mg "abs" = none) :
    Cal P w K mg base "_law_draw" 1 ["d", "many"] (runB 5 (m__law_draw)) :=
  cal_mk (k := 0) F sc__law_draw gx (fun _ _ _ _ _ _ us hl => match us, hl with | [_, _], _ => rfl) fun cdv A outer s H E hr tk hp =>
    (sx_cons (sx_if (et_cmp m_gt (ex_ix (m_ix hr.units65) (xv 0) ex_int) ex_int (nomark _)) (sx_cons (sx_set sc__law_draw.nd (ex_ix (m_ix hr.units65) (xv 0) ex_int))
    (sx_cons (sx_sub hr.units65 (ex_op m_div (xv 2) (xv 1)) (xv 0) ex_int)
    (sx_one (sx_ret (ex_op m_mod (ex_callT c_int (by rfl) z_int bt_int (ea_cons (xv 2) ea_nil)) (xv 1)))))) sx_nil)
    (sx_cons (sx_set sc__law_draw.nd ex_int)
    (sx_cons (sx_if (et_cmp (m_lt hr.units65) (ex_ix (m_ix hr.units65) (xv 0) ex_int) (ex_callB c_len (by rfl) z_len bt_len (ea_cons (ex_ix (m_ix hr.units65) (xv 0) ex_int) ea_nil)) (nomark _)) (sx_cons (sx_set sc__law_draw.nd (ex_ix (m_ix hr.units65) (ex_ix (m_ix hr.units65) (xv 0) ex_int) (ex_ix (m_ix hr.units65) (xv 0) ex_int)))
    (sx_one (sx_set sc__law_draw.nd (ex_op m_add (ex_op m_mul ex_int (ex_callB c_abs (by rfl) z_abs bt_abs (ea_cons (xv 4) ea_nil))) (ex_callT c_int (by rfl) z_int bt_int (ea_cons (ex_cmp (m_lt hr.units65) (xv 4) ex_int (nomark _)) ea_nil)))))) sx_nil)
    (sx_cons (sx_augS hr.units65 (xv 0) ex_int ex_int mi_add)
    (sx_cons (sx_if (et_cmp m_ge (xv 3) (ex_op m_mul ex_int (ex_op m_pow ex_int ex_int)) (nomark _)) (sx_cons (sx_set sc__law_draw.nd (ex_op m_mod (ex_callT c_int (by rfl) z_int bt_int (ea_cons (ex_op m_div (xv 3) ex_int) ea_nil)) (ex_op m_shl ex_int ex_int)))
    (sx_cons (sx_sub hr.units65 (ex_op m_div (xv 2) (xv 1)) (xv 0) ex_int)
    (sx_one (sx_ret (ex_op m_mod (ex_callT c_int (by rfl) z_int bt_int (ea_cons (xv 2) ea_nil)) (xv 1)))))) sx_nil)
    (sx_cons (sx_sub hr.units65 (ex_op m_mod (ex_callT c_int (by rfl) z_int bt_int (ea_cons (ex_op m_add (ex_op m_add (ex_op m_add (ex_op m_mul (ex_ix (m_ix hr.units65) (xv 0) ex_int) ex_int) (ex_op m_mul (ex_op m_mod (ex_callT c_int (by rfl) z_int bt_int (ea_cons (xv 3) ea_nil)) ex_int) ex_int)) (ex_op m_mul (ex_ix (m_ix hr.units65) (xv 0) ex_int) ex_int)) ex_int) ea_nil)) ex_int) (xv 0) ex_int)
    (sx_one (sx_ret (ex_op m_mod (ex_callT c_int (by rfl) z_int bt_int (ea_cons (ex_op m_div (ex_ix (m_ix hr.units65) (xv 0) ex_int) ex_int) ea_nil)) (xv 1))))))))))
def N__law_pick : List PySem.Str := ["d", "row"]
theorem sc__law_pick : FnScope N__law_pick ["d", "row"] (defScope s__law_pick) := ⟨rfl, rfl, rfl, by decide +kernel, rfl, by decide +kernel, by decide +kernel⟩
def m__law_pick (f__law_draw : FM) : SM := (sRet (eBin oIx (eVar 1) (eCall 2 f__law_draw (aCons (eVar 0) (aCons (eCB fLen (aCons (eVar 1) aNil)) aNil)))))
theorem ok__law_pick {P : Program} {w : World} {K : PySem.W.Frag} {mg : PySem.Str → Option Value} {base : Heap} {f : Addr} {fd : FuncData} {f__law_draw : FM} (F : FnP K "_law_pick" s__law_pick f fd) (gx : mg "_law_pick" = some (.ref f)) (c__law_draw : Cal P w K mg base "_law_draw" 1 ["d", "many"] f__law_draw) (z_len : mg "len" = none) :
    Cal P w K mg base "_law_pick" 2 ["d", "row"] (runB 2 (m__law_pick f__law_draw)) :=
  cal_mk (k := 1) F sc__law_pick gx (fun _ _ _ _ _ _ us hl => match us, hl with | [_, _], _ => rfl) fun cdv A outer s H E hr tk hp =>
    (sx_one (sx_ret (ex_ix (m_ix hr.units65) (xv 1) (ex_c1 c__law_draw tk hr (by decide) (ea_cons (xv 0) (ea_cons (ex_callB c_len (by rfl) z_len bt_len (ea_cons (xv 1) ea_nil)) ea_nil))))))
def N__law_pop : List PySem.Str := ["d", "row"]
theorem sc__law_pop : FnScope N__law_pop ["d", "row"] (defScope s__law_pop) := ⟨rfl, rfl, rfl, by decide +kernel, rfl, by decide +kernel, by decide +kernel⟩
def m__law_pop (f__law_draw : FM) : SM := (sRet (eM "list" mPopAt (eVar 1) (aCons (eCall 2 f__law_draw (aCons (eVar 0) (aCons (eCB fLen (aCons (eVar 1) aNil)) aNil))) aNil)))
theorem ok__law_pop {P : Program} {w : World} {K : PySem.W.Frag} {mg : PySem.Str → Option Value} {base : Heap} {f : Addr} {fd : FuncData} {f__law_draw : FM} (F : FnP K "_law_pop" s__law_pop f fd) (gx : mg "_law_pop" = some (.ref f)) (c__law_draw : Cal P w K mg base "_law_draw" 1 ["d", "many"] f__law_draw) (z_len : mg "len" = none) :
    Cal P w K mg base "_law_pop" 2 ["d", "row"] (runB 2 (m__law_pop f__law_draw)) :=
  cal_mk (k := 1) F sc__law_pop gx (fun _ _ _ _ _ _ us hl => match us, hl with | [_, _], _ => rfl) fun cdv A outer s H E hr tk hp =>
    (sx_one (sx_ret (ex_m PySem.F.plainAttrs_list PySem.F.slot_list_pop PySem.F.type_list_pop me_popAt (xv 1) (ea_cons (ex_c1 c__law_draw tk hr (by decide) (ea_cons (xv 0) (ea_cons (ex_callB c_len (by rfl) z_len bt_len (ea_cons (xv 1) ea_nil)) ea_nil))) ea_nil))))
def N__law_shuffled : List PySem.Str := ["d", "row", "left", "found", "k"]
theorem sc__law_shuffled : FnScope N__law_shuffled ["d", "row"] (defScope s__law_shuffled) := ⟨rfl, rfl, rfl, by decide +kernel, rfl, by decide +kernel, by decide +kernel⟩
def m__law_shuffled (f__law_draw : FM) : SM := (sSeq (sSet 2 (eCB fList (aCons (eVar 1) aNil)))
    (sSeq (sSet 3 (eLst aNil))
    (sSeq (sFor (iRg1 (eCB fLen (aCons (eVar 2) aNil))) (gN 4) (sExpr (eM "list" mAppend (eVar 3) (aCons (eM "list" mPopAt (eVar 2) (aCons (eCall 2 f__law_draw (aCons (eVar 0) (aCons (eCB fLen (aCons (eVar 2) aNil)) aNil))) aNil)) aNil))))
    (sRet (eVar 3)))))
theorem ok__law_shuffled {P : Program} {w : World} {K : PySem.W.Frag} {mg : PySem.Str → Option Value} {base : Heap} {f : Addr} {fd : FuncData} {f__law_draw : FM} (F : FnP K "_law_shuffled" s__law_shuffled f fd) (gx : mg "_law_shuffled" = some (.ref f)) (c__law_draw : Cal P w K mg base "_law_draw" 1 ["d", "many"] f__law_draw) (z_list : mg "list" = none) (z_range : mg "range" = none) (z_len : mg "len" = none) :
    Cal P w K mg base "_law_shuffled" 2 ["d", "row"] (runB 5 (m__law_shuffled f__law_draw)) :=
  cal_mk (k := 1) F sc__law_shuffled gx (fun _ _ _ _ _ _ us hl => match us, hl with | [_, _], _ => rfl) fun cdv A outer s H E hr tk hp =>
    (sx_cons (sx_set sc__law_shuffled.nd (ex_callT c_list (by rfl) z_list bt_list (ea_cons (xv 1) ea_nil)))
    (sx_cons (sx_set sc__law_shuffled.nd (ex_lst ea_nil))
    (sx_cons (sx_for hp (by rfl) (ei_range1 (by rfl) z_range (ex_callB c_len (by rfl) z_len bt_len (ea_cons (xv 2) ea_nil))) (eg_name sc__law_shuffled.nd) (sx_one (sx_expr (ex_m PySem.F.plainAttrs_list PySem.F.slot_list_append PySem.F.type_list_append me_append (xv 3) (ea_cons (ex_m PySem.F.plainAttrs_list PySem.F.slot_list_pop PySem.F.type_list_pop me_popAt (xv 2) (ea_cons (ex_c1 c__law_draw tk hr (by decide) (ea_cons (xv 0) (ea_cons (ex_callB c_len (by rfl) z_len bt_len (ea_cons (xv 2) ea_nil)) ea_nil))) ea_nil)) ea_nil)))))
    (sx_one (sx_ret (xv 3))))))
def N__law_pool : List PySem.Str := ["text"]
theorem sc__law_pool : FnScope N__law_pool [] (defScope s__law_pool) := ⟨rfl, rfl, rfl, by decide +kernel, rfl, by decide +kernel, by decide +kernel⟩
def m__law_pool : SM := (sSeq (sSet 0 (eC (.str [97, 32, 98, 50, 32, 119, 101, 108, 108, 32, 108, 101, 102, 116, 32, 114, 32, 107, 48, 32, 99, 97, 114, 114, 121, 32, 122, 57, 122, 32, 102, 117, 108, 108, 32, 116, 97, 105, 108, 32, 110, 32, 109, 56, 32, 97, 97, 32, 98, 117, 115, 121, 32, 99, 110, 116, 32, 112, 32, 116, 52, 32, 101, 118, 101, 110, 50, 32, 97, 98, 49, 32, 104, 101, 97, 100, 32, 117, 32, 118, 50, 32, 119, 32, 108, 111, 119, 101, 115, 116, 32, 104, 105, 103, 104, 32, 109, 105, 100, 32])))
    (sSeq (sSet 0 (eBin oAdd (eVar 0) (eC (.str [115, 32, 116, 32, 101, 32, 102, 32, 103, 32, 104, 32, 105, 32, 106, 32, 107, 32, 120, 32, 121, 32, 113, 55, 32, 100, 101, 101, 112, 32, 115, 105, 99, 107, 32, 103, 97, 116, 101, 32, 108, 53, 32, 104, 111, 108, 100, 32, 110, 101, 120, 116, 49, 32, 111, 32, 99, 48, 32, 100, 32, 116, 119, 111, 32, 122, 122, 49, 32, 110, 101, 97, 114, 120, 32, 102, 97, 114, 57, 32, 108, 97, 115, 116, 108, 121, 32, 114, 105, 110, 103, 50, 32]))))
    (sRet (eM "str" mSplit (eBin oAdd (eVar 0) (eC (.str [97, 97, 97, 97, 97, 97, 97, 56, 32, 98, 32, 99, 49, 32, 116, 111, 112, 50, 32, 110, 101, 116, 51, 32, 114, 111, 119, 32, 99, 111, 108, 55, 32, 118, 32, 116, 111, 97, 100, 32, 97, 115, 107, 115, 32, 109, 111, 100, 101, 49, 32, 103, 114, 111, 117, 112, 32, 102, 114, 101, 115, 104, 48, 32, 108, 111, 116, 115, 55, 32, 107, 105, 110, 100]))) (aCons (eC (.str [32])) aNil)))))
theorem ok__law_pool {P : Program} {w : World} {K : PySem.W.Frag} {mg : PySem.Str → Option Value} {base : Heap} {f : Addr} {fd : FuncData} (F : FnP K "_law_pool" s__law_pool f fd) (gx : mg "_law_pool" = some (.ref f))  :
    Cal P w K mg base "_law_pool" 1 [] (runB 1 (m__law_pool)) :=
  cal_mk (k := 0) F sc__law_pool gx (fun _ _ _ _ _ _ us hl => match us, hl with | [], _ => rfl) fun cdv A outer s H E hr tk hp =>
    (sx_cons (sx_set sc__law_pool.nd (ex_strc [97, 32, 98, 50, 32, 119, 101, 108, 108, 32, 108, 101, 102, 116, 32, 114, 32, 107, 48, 32, 99, 97, 114, 114, 121, 32, 122, 57, 122, 32, 102, 117, 108, 108, 32, 116, 97, 105, 108, 32, 110, 32, 109, 56, 32, 97, 97, 32, 98, 117, 115, 121, 32, 99, 110, 116, 32, 112, 32, 116, 52, 32, 101, 118, 101, 110, 50, 32, 97, 98, 49, 32, 104, 101, 97, 100, 32, 117, 32, 118, 50, 32, 119, 32, 108, 111, 119, 101, 115, 116, 32, 104, 105, 103, 104, 32, 109, 105, 100, 32] (by decide +kernel)))
    (sx_cons (sx_set sc__law_pool.nd (ex_op m_add (xv 0) (ex_strc [115, 32, 116, 32, 101, 32, 102, 32, 103, 32, 104, 32, 105, 32, 106, 32, 107, 32, 120, 32, 121, 32, 113, 55, 32, 100, 101, 101, 112, 32, 115, 105, 99, 107, 32, 103, 97, 116, 101, 32, 108, 53, 32, 104, 111, 108, 100, 32, 110, 101, 120, 116, 49, 32, 111, 32, 99, 48, 32, 100, 32, 116, 119, 111, 32, 122, 122, 49, 32, 110, 101, 97, 114, 120, 32, 102, 97, 114, 57, 32, 108, 97, 115, 116, 108, 121, 32, 114, 105, 110, 103, 50, 32] (by decide +kernel))))
    (sx_one (sx_ret (ex_m PySem.F.plainAttrs_str PySem.F.slot_str_split PySem.F.type_str_split me_split (ex_op m_add (xv 0) (ex_strc [97, 97, 97, 97, 97, 97, 97, 56, 32, 98, 32, 99, 49, 32, 116, 111, 112, 50, 32, 110, 101, 116, 51, 32, 114, 111, 119, 32, 99, 111, 108, 55, 32, 118, 32, 116, 111, 97, 100, 32, 97, 115, 107, 115, 32, 109, 111, 100, 101, 49, 32, 103, 114, 111, 117, 112, 32, 102, 114, 101, 115, 104, 48, 32, 108, 111, 116, 115, 55, 32, 107, 105, 110, 100] (by decide +kernel))) (ea_cons (ex_strc [32] (by decide +kernel)) ea_nil))))))
def N__law_is_int : List PySem.Str := ["thing"]
theorem sc__law_is_int : FnScope N__law_is_int ["thing"] (defScope s__law_is_int) := ⟨rfl, rfl, rfl, by decide +kernel, rfl, by decide +kernel, by decide +kernel⟩
def m__law_is_int : SM := (sRet (eAnd (eCB fIsi (aCons (eVar 0) (aCons (eC (.ty "int")) aNil))) (eNot (eCB fIsi (aCons (eVar 0) (aCons (eC (.ty "bool")) aNil))))))
theorem ok__law_is_int {P : Program} {w : World} {K : PySem.W.Frag} {mg : PySem.Str → Option Value} {base : Heap} {f : Addr} {fd : FuncData} (F : FnP K "_law_is_int" s__law_is_int f fd) (gx : mg "_law_is_int" = some (.ref f)) (z_int : mg "int" = none) (z_isinstance : mg "isinstance" = none) (z_bool : mg "bool" = none) :
    Cal P w K mg base "_law_is_int" 1 ["thing"] (runB 1 (m__law_is_int)) :=
  cal_mk (k := 0) F sc__law_is_int gx (fun _ _ _ _ _ _ us hl => match us, hl with | [_], _ => rfl) fun cdv A outer s H E hr tk hp =>
    (sx_one (sx_ret (ex_and (ex_callB c_isi (by rfl) z_isinstance bt_isinstance (ea_cons (xv 0) (ea_cons (ex_bltn (by rfl) z_int bt_int (by rfl) (fun _ _ => .ty _)) ea_nil))) (ex_one (ex_not (ex_callB c_isi (by rfl) z_isinstance bt_isinstance (ea_cons (xv 0) (ea_cons (ex_bltn (by rfl) z_bool bt_bool (by rfl) (fun _ _ => .ty _)) ea_nil))))))))
def N__law_value_of : List PySem.Str := ["value", "env", "left", "right", "entry"]
theorem sc__law_value_of : FnScope N__law_value_of ["value", "env"] (defScope s__law_value_of) := ⟨rfl, rfl, rfl, by decide +kernel, rfl, by decide +kernel, by decide +kernel⟩
def m__law_value_of (f__law_value_of : FM) : SM := (sSeq (sIf (tBl (eBin oEq (eBin oIx (eVar 0) (eC (.int 0))) (eC (.str [110, 117, 109, 98, 101, 114])))) (sRet (eBin oIx (eVar 0) (eC (.int 1)))) sNil)
    (sSeq (sIf (tBl (eBin oEq (eBin oIx (eVar 0) (eC (.int 0))) (eC (.str [110, 97, 109, 101])))) (sRet (eBin oIx (eEl (lComp [4] (iEx (eVar 1)) (gN 4) (tBl (eBin oEq (eBin oIx (eVar 4) (eC (.int 0))) (eBin oIx (eVar 0) (eC (.int 1))))) (eBin oIx (eVar 4) (eC (.int 1))))) (eC (.int 0)))) sNil)
    (sSeq (sSet 2 (eCall 2 f__law_value_of (aCons (eBin oIx (eVar 0) (eC (.int 1))) (aCons (eVar 1) aNil))))
    (sSeq (sSet 3 (eCall 2 f__law_value_of (aCons (eBin oIx (eVar 0) (eC (.int 2))) (aCons (eVar 1) aNil))))
    (sSeq (sIf (tBl (eBin oEq (eBin oIx (eVar 0) (eC (.int 0))) (eC (.str [119, 104, 101, 110])))) (sRet (eIf (tBl (eBin oGt (eVar 2) (eC (.int 0)))) (eVar 3) (eCall 2 f__law_value_of (aCons (eBin oIx (eVar 0) (eC (.int 3))) (aCons (eVar 1) aNil))))) sNil)
    (sSeq (sIf (tBl (eBin oIn (eBin oIx (eVar 0) (eC (.int 0))) (eTup (aCons (eC (.str [43])) (aCons (eC (.str [45])) aNil))))) (sRet (eIf (tBl (eBin oEq (eBin oIx (eVar 0) (eC (.int 0))) (eC (.str [43])))) (eBin oAdd (eVar 2) (eVar 3)) (eBin oSub (eVar 2) (eVar 3)))) sNil)
    (sSeq (sIf (tBl (eBin oEq (eBin oIx (eVar 0) (eC (.int 0))) (eC (.str [42])))) (sRet (eBin oMul (eVar 2) (eVar 3))) sNil)
    (sSeq (sIf (tBl (eBin oIn (eBin oIx (eVar 0) (eC (.int 0))) (eTup (aCons (eC (.str [109, 105, 110])) (aCons (eC (.str [109, 97, 120])) aNil))))) (sRet (eIf (tBl (eBin oEq (eBin oIx (eVar 0) (eC (.int 0))) (eC (.str [109, 105, 110])))) (eCB fMin2 (aCons (eVar 2) (aCons (eVar 3) aNil))) (eCB fMax2 (aCons (eVar 2) (aCons (eVar 3) aNil))))) sNil)
    (sSeq (sIf (tBl (eBin oEq (eBin oIx (eVar 0) (eC (.int 0))) (eC (.str [61, 61])))) (sRet (eCB fInt (aCons (eBin oEq (eVar 2) (eVar 3)) aNil))) sNil)
    (sRet (eIf (tBl (eBin oEq (eBin oIx (eVar 0) (eC (.int 0))) (eC (.str [60])))) (eCB fInt (aCons (eBin oLt (eVar 2) (eVar 3)) aNil)) (eCB fInt (aCons (eBin oLe (eVar 2) (eVar 3)) aNil)))))))))))))
theorem ok__law_value_of {P : Program} {w : World} {K : PySem.W.Frag} {mg : PySem.Str → Option Value} {base : Heap} {f : Addr} {fd : FuncData} {f__law_value_of : FM} {j : Nat} (hj : 0 ≤ j) (F : FnP K "_law_value_of" s__law_value_of f fd) (gx : mg "_law_value_of" = some (.ref f)) (z_min : mg "min" = none) (z_max : mg "max" = none) (z_int : mg "int" = none) (c__law_value_of : Cal P w K mg base "_law_value_of" j ["value", "env"] f__law_value_of) :
    Cal P w K mg base "_law_value_of" (j + 1) ["value", "env"] (runB 5 (m__law_value_of f__law_value_of)) :=
  cal_mk (k := j) F sc__law_value_of gx (fun _ _ _ _ _ _ us hl => match us, hl with | [_, _], _ => rfl) fun cdv A outer s H E hr tk hp =>
    (sx_cons (sx_if (et_cmp (m_eq hr.units) (ex_ix (m_ix hr.units65) (xv 0) ex_int) (ex_strc [110, 117, 109, 98, 101, 114] (by decide +kernel)) (nomark _)) (sx_one (sx_ret (ex_ix (m_ix hr.units65) (xv 0) ex_int))) sx_nil)
    (sx_cons (sx_if (et_cmp (m_eq hr.units) (ex_ix (m_ix hr.units65) (xv 0) ex_int) (ex_strc [110, 97, 109, 101] (by decide +kernel)) (nomark _)) (sx_one (sx_ret (ex_ix (m_ix hr.units65) (ex_el (el_comp (own := [(("entry" : PySem.Str), 4)]) (by rfl) sc__law_value_of.nd (ei_ex (xv 1)) (blkOk_by (N := N__law_value_of) (sc := (defScope s__law_value_of)) (by decide +kernel)) (fun _ _ _ _ _ => (eg_name sc__law_value_of.nd)) (fun _ _ _ _ _ => (ets_one (et_cmp (m_eq hr.units) (ex_ix (m_ix hr.units65) (xv 4) ex_int) (ex_ix (m_ix hr.units65) (xv 0) ex_int) (nomark _)))) (fun _ _ _ _ _ => (ex_ix (m_ix hr.units65) (xv 4) ex_int)))) ex_int))) sx_nil)
    (sx_cons (sx_set sc__law_value_of.nd (ex_c1 c__law_value_of tk hr (by omega) (ea_cons (ex_ix (m_ix hr.units65) (xv 0) ex_int) (ea_cons (xv 1) ea_nil))))
    (sx_cons (sx_set sc__law_value_of.nd (ex_c1 c__law_value_of tk hr (by omega) (ea_cons (ex_ix (m_ix hr.units65) (xv 0) ex_int) (ea_cons (xv 1) ea_nil))))
    (sx_cons (sx_if (et_cmp (m_eq hr.units) (ex_ix (m_ix hr.units65) (xv 0) ex_int) (ex_strc [119, 104, 101, 110] (by decide +kernel)) (nomark _)) (sx_one (sx_ret (ex_if (et_cmp m_gt (xv 2) ex_int (nomark _)) (xv 3) (ex_c1 c__law_value_of tk hr (by omega) (ea_cons (ex_ix (m_ix hr.units65) (xv 0) ex_int) (ea_cons (xv 1) ea_nil)))))) sx_nil)
    (sx_cons (sx_if (et_cmp (m_in hr.units65) (ex_ix (m_ix hr.units65) (xv 0) ex_int) (ex_tup (ea_cons (ex_strc [43] (by decide +kernel)) (ea_cons (ex_strc [45] (by decide +kernel)) ea_nil))) (by rfl)) (sx_one (sx_ret (ex_if (et_cmp (m_eq hr.units) (ex_ix (m_ix hr.units65) (xv 0) ex_int) (ex_strc [43] (by decide +kernel)) (nomark _)) (ex_op m_add (xv 2) (xv 3)) (ex_op m_sub (xv 2) (xv 3))))) sx_nil)
    (sx_cons (sx_if (et_cmp (m_eq hr.units) (ex_ix (m_ix hr.units65) (xv 0) ex_int) (ex_strc [42] (by decide +kernel)) (nomark _)) (sx_one (sx_ret (ex_op m_mul (xv 2) (xv 3)))) sx_nil)
    (sx_cons (sx_if (et_cmp (m_in hr.units65) (ex_ix (m_ix hr.units65) (xv 0) ex_int) (ex_tup (ea_cons (ex_strc [109, 105, 110] (by decide +kernel)) (ea_cons (ex_strc [109, 97, 120] (by decide +kernel)) ea_nil))) (by rfl)) (sx_one (sx_ret (ex_if (et_cmp (m_eq hr.units) (ex_ix (m_ix hr.units65) (xv 0) ex_int) (ex_strc [109, 105, 110] (by decide +kernel)) (nomark _)) (ex_callB (c_min2 (by rfl)) (by rfl) z_min bt_min (ea_cons (xv 2) (ea_cons (xv 3) ea_nil))) (ex_callB (c_max2 (by rfl)) (by rfl) z_max bt_max (ea_cons (xv 2) (ea_cons (xv 3) ea_nil)))))) sx_nil)
    (sx_cons (sx_if (et_cmp (m_eq hr.units) (ex_ix (m_ix hr.units65) (xv 0) ex_int) (ex_strc [61, 61] (by decide +kernel)) (nomark _)) (sx_one (sx_ret (ex_callT c_int (by rfl) z_int bt_int (ea_cons (ex_cmp (m_eq hr.units) (xv 2) (xv 3) (nomark _)) ea_nil)))) sx_nil)
    (sx_one (sx_ret (ex_if (et_cmp (m_eq hr.units) (ex_ix (m_ix hr.units65) (xv 0) ex_int) (ex_strc [60] (by decide +kernel)) (nomark _)) (ex_callT c_int (by rfl) z_int bt_int (ea_cons (ex_cmp (m_lt hr.units65) (xv 2) (xv 3) (nomark _)) ea_nil)) (ex_callT c_int (by rfl) z_int bt_int (ea_cons (ex_cmp m_le (xv 2) (xv 3) (nomark _)) ea_nil))))))))))))))
def fr__law_value_of : Nat → FM
  | 0 => runB 5 (fun _ _ => .bad)
  | m + 1 => runB 5 (m__law_value_of (fr__law_value_of m))
theorem rec__law_value_of {P : Program} {w : World} {K : PySem.W.Frag} {mg : PySem.Str → Option Value} {base : Heap} {f : Addr} {fd : FuncData} (F : FnP K "_law_value_of" s__law_value_of f fd) (gx : mg "_law_value_of" = some (.ref f)) (z_min : mg "min" = none) (z_max : mg "max" = none) (z_int : mg "int" = none) : ∀ m : Nat, Cal P w K mg base "_law_value_of" (0 + 1 + m) ["value", "env"] (fr__law_value_of m)
  | 0 => cal_mk (k := 0) F sc__law_value_of gx (fun _ _ _ _ _ _ us hl => match us, hl with | [_, _], _ => rfl) fun cdv A outer s H E hr tk hp => ⟨fun _ _ _ _ _ _ _ _ hP => hP.elim⟩
  | m + 1 => ok__law_value_of (j := 0 + 1 + m) (by omega) F gx z_min z_max z_int (rec__law_value_of F gx z_min z_max z_int m)
def N__law_leaf : List PySem.Str := ["d", "names", "style"]
theorem sc__law_leaf : FnScope N__law_leaf ["d", "names"] (defScope s__law_leaf) := ⟨rfl, rfl, rfl, by decide +kernel, rfl, by decide +kernel, by decide +kernel⟩
def m__law_leaf (f__law_draw : FM) (f__law_pick : FM) : SM := (sSeq (sSet 2 (eCall 2 f__law_draw (aCons (eVar 0) (aCons (eC (.int 7)) aNil))))
    (sSeq (sIf (tAnd (tBl (eBin oLt (eVar 2) (eC (.int 4)))) (tBl (eBin oGt (eCB fLen (aCons (eVar 1) aNil)) (eC (.int 0))))) (sRet (eTup (aCons (eC (.str [110, 97, 109, 101])) (aCons (eCall 2 f__law_pick (aCons (eVar 0) (aCons (eVar 1) aNil))) aNil)))) sNil)
    (sSeq (sIf (tBl (eBin oEq (eVar 2) (eC (.int 6)))) (sRet (eTup (aCons (eC (.str [110, 117, 109, 98, 101, 114])) (aCons (eCall 2 f__law_pick (aCons (eVar 0) (aCons (eLst (aCons (eC (.int 0)) (aCons (eC (.int 1)) (aCons (eC (.int 12)) (aCons (eC (.int 100000)) (aCons (eC (.int 999999)) aNil)))))) aNil))) aNil)))) sNil)
    (sRet (eTup (aCons (eC (.str [110, 117, 109, 98, 101, 114])) (aCons (eCall 2 f__law_draw (aCons (eVar 0) (aCons (eC (.int 6)) aNil))) aNil)))))))
theorem ok__law_leaf {P : Program} {w : World} {K : PySem.W.Frag} {mg : PySem.Str → Option Value} {base : Heap} {f : Addr} {fd : FuncData} {f__law_draw f__law_pick : FM} (F : FnP K "_law_leaf" s__law_leaf f fd) (gx : mg "_law_leaf" = some (.ref f)) (c__law_draw : Cal P w K mg base "_law_draw" 1 ["d", "many"] f__law_draw) (c__law_pick : Cal P w K mg base "_law_pick" 2 ["d", "row"] f__law_pick) (z_len : mg "len" = none) :
    Cal P w K mg base "_law_leaf" 3 ["d", "names"] (runB 3 (m__law_leaf f__law_draw f__law_pick)) :=
  cal_mk (k := 2) F sc__law_leaf gx (fun _ _ _ _ _ _ us hl => match us, hl with | [_, _], _ => rfl) fun cdv A outer s H E hr tk hp =>
    (sx_cons (sx_set sc__law_leaf.nd (ex_c1 c__law_draw tk hr (by decide) (ea_cons (xv 0) (ea_cons ex_int ea_nil))))
    (sx_cons (sx_if (Ew.et (ew_and (et_cmp (m_lt hr.units65) (xv 2) ex_int (nomark _)) (ew_and1 (et_cmp m_gt (ex_callB c_len (by rfl) z_len bt_len (ea_cons (xv 1) ea_nil)) ex_int (nomark _))))) (sx_one (sx_ret (ex_tup (ea_cons (ex_strc [110, 97, 109, 101] (by decide +kernel)) (ea_cons (ex_c1 c__law_pick tk hr (by decide) (ea_cons (xv 0) (ea_cons (xv 1) ea_nil))) ea_nil))))) sx_nil)
    (sx_cons (sx_if (et_cmp (m_eq hr.units) (xv 2) ex_int (nomark _)) (sx_one (sx_ret (ex_tup (ea_cons (ex_strc [110, 117, 109, 98, 101, 114] (by decide +kernel)) (ea_cons (ex_c1 c__law_pick tk hr (by decide) (ea_cons (xv 0) (ea_cons (ex_lst (ea_cons ex_int (ea_cons ex_int (ea_cons ex_int (ea_cons ex_int (ea_cons ex_int ea_nil)))))) ea_nil))) ea_nil))))) sx_nil)
    (sx_one (sx_ret (ex_tup (ea_cons (ex_strc [110, 117, 109, 98, 101, 114] (by decide +kernel)) (ea_cons (ex_c1 c__law_draw tk hr (by decide) (ea_cons (xv 0) (ea_cons ex_int ea_nil))) ea_nil))))))))
def N__law_shape : List PySem.Str := ["d", "names", "leaves", "row", "at", "word", "k"]
theorem sc__law_shape : FnScope N__law_shape ["d", "names", "leaves"] (defScope s__law_shape) := ⟨rfl, rfl, rfl, by decide +kernel, rfl, by decide +kernel, by decide +kernel⟩
def m__law_shape (f__law_leaf : FM) (f__law_draw : FM) (f__law_pick : FM) : SM := (sSeq (sSet 3 (eEl (lComp [6] (iRg1 (eVar 2)) (gN 6) tYes (eCall 2 f__law_leaf (aCons (eVar 0) (aCons (eVar 1) aNil))))))
    (sSeq (whileN (tBl (eBin oGt (eCB fLen (aCons (eVar 3) aNil)) (eC (.int 1)))) (sSeq (sSet 4 (eCall 2 f__law_draw (aCons (eVar 0) (aCons (eBin oSub (eCB fLen (aCons (eVar 3) aNil)) (eC (.int 1))) aNil))))
    (sSeq (sSet 5 (eCall 2 f__law_pick (aCons (eVar 0) (aCons (eLst (aCons (eC (.str [119, 104, 101, 110])) (aCons (eC (.str [43])) (aCons (eC (.str [45])) (aCons (eC (.str [42])) (aCons (eC (.str [60])) (aCons (eC (.str [60, 61])) (aCons (eC (.str [61, 61])) (aCons (eC (.str [109, 105, 110])) (aCons (eC (.str [109, 97, 120])) (aCons (eC (.str [45])) (aCons (eC (.str [119, 104, 101, 110])) aNil)))))))))))) aNil))))
    (sIf (tAnd (tBl (eBin oEq (eVar 5) (eC (.str [119, 104, 101, 110])))) (tBl (eBin oLt (eBin oAdd (eVar 4) (eC (.int 2))) (eCB fLen (aCons (eVar 3) aNil))))) (sSet 3 (eBin oAdd (eBin oAdd (eSl (eVar 3) oNone (oSome (eVar 4))) (eLst (aCons (eTup (aCons (eC (.str [119, 104, 101, 110])) (aCons (eBin oIx (eVar 3) (eVar 4)) (aCons (eBin oIx (eVar 3) (eBin oAdd (eVar 4) (eC (.int 1)))) (aCons (eBin oIx (eVar 3) (eBin oAdd (eVar 4) (eC (.int 2)))) aNil))))) aNil))) (eSl (eVar 3) (oSome (eBin oAdd (eVar 4) (eC (.int 3)))) oNone))) (sSet 3 (eBin oAdd (eBin oAdd (eSl (eVar 3) oNone (oSome (eVar 4))) (eLst (aCons (eTup (aCons (eIf (tBl (eBin oEq (eVar 5) (eC (.str [119, 104, 101, 110])))) (eC (.str [109, 105, 110])) (eVar 5)) (aCons (eBin oIx (eVar 3) (eVar 4)) (aCons (eBin oIx (eVar 3) (eBin oAdd (eVar 4) (eC (.int 1)))) aNil)))) aNil))) (eSl (eVar 3) (oSome (eBin oAdd (eVar 4) (eC (.int 2)))) oNone)))))) big)
    (sRet (eBin oIx (eVar 3) (eC (.int 0))))))
theorem ok__law_shape {P : Program} {w : World} {K : PySem.W.Frag} {mg : PySem.Str → Option Value} {base : Heap} {f : Addr} {fd : FuncData} {f__law_leaf f__law_draw f__law_pick : FM} (F : FnP K "_law_shape" s__law_shape f fd) (gx : mg "_law_shape" = some (.ref f)) (c__law_leaf : Cal P w K mg base "_law_leaf" 3 ["d", "names"] f__law_leaf) (c__law_draw : Cal P w K mg base "_law_draw" 1 ["d", "many"] f__law_draw) (c__law_pick : Cal P w K mg base "_law_pick" 2 ["d", "row"] f__law_pick) (z_range : mg "range" = none) (z_len : mg "len" = none) :
    Cal P w K mg base "_law_shape" 4 ["d", "names", "leaves"] (runB 7 (m__law_shape f__law_leaf f__law_draw f__law_pick)) :=
  cal_mk (k := 3) F sc__law_shape gx (fun _ _ _ _ _ _ us hl => match us, hl with | [_, _, _], _ => rfl) fun cdv A outer s H E hr tk hp =>
    (sx_cons (sx_setLc (own := [(("k" : PySem.Str), 6)]) (by rfl) sc__law_shape.nd (ei_range1 (by rfl) z_range (xv 2)) (blkOk_by (N := N__law_shape) (sc := (defScope s__law_shape)) (by decide +kernel)) (fun _ _ _ _ _ => (eg_name sc__law_shape.nd)) (fun _ _ _ _ _ => ets_nil) (fun _ _ _ _ _ => (ex_c1 c__law_leaf tk0 hr (by decide) (ea_cons (xv 0) (ea_cons (xv 1) ea_nil)))))
    (sx_cons (sx_while big hp (et_cmp m_gt (ex_callB c_len (by rfl) z_len bt_len (ea_cons (xv 3) ea_nil)) ex_int (nomark _)) (sx_cons (sx_set sc__law_shape.nd (ex_c1 c__law_draw tk hr (by decide) (ea_cons (xv 0) (ea_cons (ex_op m_sub (ex_callB c_len (by rfl) z_len bt_len (ea_cons (xv 3) ea_nil)) ex_int) ea_nil))))
    (sx_cons (sx_set sc__law_shape.nd (ex_c1 c__law_pick tk hr (by decide) (ea_cons (xv 0) (ea_cons (ex_lst (ea_cons (ex_strc [119, 104, 101, 110] (by decide +kernel)) (ea_cons (ex_strc [43] (by decide +kernel)) (ea_cons (ex_strc [45] (by decide +kernel)) (ea_cons (ex_strc [42] (by decide +kernel)) (ea_cons (ex_strc [60] (by decide +kernel)) (ea_cons (ex_strc [60, 61] (by decide +kernel)) (ea_cons (ex_strc [61, 61] (by decide +kernel)) (ea_cons (ex_strc [109, 105, 110] (by decide +kernel)) (ea_cons (ex_strc [109, 97, 120] (by decide +kernel)) (ea_cons (ex_strc [45] (by decide +kernel)) (ea_cons (ex_strc [119, 104, 101, 110] (by decide +kernel)) ea_nil)))))))))))) ea_nil))))
    (sx_one (sx_if (Ew.et (ew_and (et_cmp (m_eq hr.units) (xv 5) (ex_strc [119, 104, 101, 110] (by decide +kernel)) (nomark _)) (ew_and1 (et_cmp (m_lt hr.units65) (ex_op m_add (xv 4) ex_int) (ex_callB c_len (by rfl) z_len bt_len (ea_cons (xv 3) ea_nil)) (nomark _))))) (sx_one (sx_set sc__law_shape.nd (ex_op m_add (ex_op m_add (ex_sl (xv 3) eo_none (eo_some (xv 4))) (ex_lst (ea_cons (ex_tup (ea_cons (ex_strc [119, 104, 101, 110] (by decide +kernel)) (ea_cons (ex_ix (m_ix hr.units65) (xv 3) (xv 4)) (ea_cons (ex_ix (m_ix hr.units65) (xv 3) (ex_op m_add (xv 4) ex_int)) (ea_cons (ex_ix (m_ix hr.units65) (xv 3) (ex_op m_add (xv 4) ex_int)) ea_nil))))) ea_nil))) (ex_sl (xv 3) (eo_some (ex_op m_add (xv 4) ex_int)) eo_none)))) (sx_one (sx_set sc__law_shape.nd (ex_op m_add (ex_op m_add (ex_sl (xv 3) eo_none (eo_some (xv 4))) (ex_lst (ea_cons (ex_tup (ea_cons (ex_if (et_cmp (m_eq hr.units) (xv 5) (ex_strc [119, 104, 101, 110] (by decide +kernel)) (nomark _)) (ex_strc [109, 105, 110] (by decide +kernel)) (xv 5)) (ea_cons (ex_ix (m_ix hr.units65) (xv 3) (xv 4)) (ea_cons (ex_ix (m_ix hr.units65) (xv 3) (ex_op m_add (xv 4) ex_int)) ea_nil)))) ea_nil))) (ex_sl (xv 3) (eo_some (ex_op m_add (xv 4) ex_int)) eo_none)))))))))
    (sx_one (sx_ret (ex_ix (m_ix hr.units65) (xv 3) ex_int)))))
def N__law_line : List PySem.Str := ["d", "names", "signs", "found", "k"]
theorem sc__law_line : FnScope N__law_line ["d", "names"] (defScope s__law_line) := ⟨rfl, rfl, rfl, by decide +kernel, rfl, by decide +kernel, by decide +kernel⟩
def m__law_line (f__law_pick : FM) (f__law_leaf : FM) (f__law_draw : FM) : SM := (sSeq (sSet 2 (eCall 2 f__law_pick (aCons (eVar 0) (aCons (eLst (aCons (eLst (aCons (eC (.str [43])) (aCons (eC (.str [45])) aNil))) (aCons (eLst (aCons (eC (.str [42])) aNil)) (aCons (eLst (aCons (eC (.str [45])) aNil)) aNil)))) aNil))))
    (sSeq (sSet 3 (eCall 2 f__law_leaf (aCons (eVar 0) (aCons (eVar 1) aNil))))
    (sSeq (sIf (tBl (eBin oEq (eCall 2 f__law_draw (aCons (eVar 0) (aCons (eC (.int 2)) aNil))) (eC (.int 1)))) (sSeq (sFor (iRg1 (eBin oAdd (eC (.int 1)) (eCall 2 f__law_draw (aCons (eVar 0) (aCons (eC (.int 13)) aNil))))) (gN 4) (sSet 3 (eTup (aCons (eCall 2 f__law_pick (aCons (eVar 0) (aCons (eVar 2) aNil))) (aCons (eCall 2 f__law_leaf (aCons (eVar 0) (aCons (eVar 1) aNil))) (aCons (eVar 3) aNil))))))
    (sRet (eVar 3))) sNil)
    (sSeq (sFor (iRg1 (eBin oAdd (eC (.int 15)) (eCall 2 f__law_draw (aCons (eVar 0) (aCons (eC (.int 15)) aNil))))) (gN 4) (sSet 3 (eTup (aCons (eCall 2 f__law_pick (aCons (eVar 0) (aCons (eVar 2) aNil))) (aCons (eVar 3) (aCons (eCall 2 f__law_leaf (aCons (eVar 0) (aCons (eVar 1) aNil))) aNil))))))
    (sRet (eVar 3))))))
theorem ok__law_line {P : Program} {w : World} {K : PySem.W.Frag} {mg : PySem.Str → Option Value} {base : Heap} {f : Addr} {fd : FuncData} {f__law_pick f__law_leaf f__law_draw : FM} (F : FnP K "_law_line" s__law_line f fd) (gx : mg "_law_line" = some (.ref f)) (c__law_pick : Cal P w K mg base "_law_pick" 2 ["d", "row"] f__law_pick) (c__law_leaf : Cal P w K mg base "_law_leaf" 3 ["d", "names"] f__law_leaf) (c__law_draw : Cal P w K mg base "_law_draw" 1 ["d", "many"] f__law_draw) (z_range : mg "range" = none) :
    Cal P w K mg base "_law_line" 4 ["d", "names"] (runB 5 (m__law_line f__law_pick f__law_leaf f__law_draw)) :=
  cal_mk (k := 3) F sc__law_line gx (fun _ _ _ _ _ _ us hl => match us, hl with | [_, _], _ => rfl) fun cdv A outer s H E hr tk hp =>
    (sx_cons (sx_set sc__law_line.nd (ex_c1 c__law_pick tk hr (by decide) (ea_cons (xv 0) (ea_cons (ex_lst (ea_cons (ex_lst (ea_cons (ex_strc [43] (by decide +kernel)) (ea_cons (ex_strc [45] (by decide +kernel)) ea_nil))) (ea_cons (ex_lst (ea_cons (ex_strc [42] (by decide +kernel)) ea_nil)) (ea_cons (ex_lst (ea_cons (ex_strc [45] (by decide +kernel)) ea_nil)) ea_nil)))) ea_nil))))
    (sx_cons (sx_set sc__law_line.nd (ex_c1 c__law_leaf tk hr (by decide) (ea_cons (xv 0) (ea_cons (xv 1) ea_nil))))
    (sx_cons (sx_if (et_cmp (m_eq hr.units) (ex_c1 c__law_draw tk hr (by decide) (ea_cons (xv 0) (ea_cons ex_int ea_nil))) ex_int (nomark _)) (sx_cons (sx_for hp (by rfl) (ei_range1 (by rfl) z_range (ex_op m_add ex_int (ex_c1 c__law_draw tk hr (by decide) (ea_cons (xv 0) (ea_cons ex_int ea_nil))))) (eg_name sc__law_line.nd) (sx_one (sx_set sc__law_line.nd (ex_tup (ea_cons (ex_c1 c__law_pick tk hr (by decide) (ea_cons (xv 0) (ea_cons (xv 2) ea_nil))) (ea_cons (ex_c1 c__law_leaf tk hr (by decide) (ea_cons (xv 0) (ea_cons (xv 1) ea_nil))) (ea_cons (xv 3) ea_nil)))))))
    (sx_one (sx_ret (xv 3)))) sx_nil)
    (sx_cons (sx_for hp (by rfl) (ei_range1 (by rfl) z_range (ex_op m_add ex_int (ex_c1 c__law_draw tk hr (by decide) (ea_cons (xv 0) (ea_cons ex_int ea_nil))))) (eg_name sc__law_line.nd) (sx_one (sx_set sc__law_line.nd (ex_tup (ea_cons (ex_c1 c__law_pick tk hr (by decide) (ea_cons (xv 0) (ea_cons (xv 2) ea_nil))) (ea_cons (xv 3) (ea_cons (ex_c1 c__law_leaf tk hr (by decide) (ea_cons (xv 0) (ea_cons (xv 1) ea_nil))) ea_nil)))))))
    (sx_one (sx_ret (xv 3)))))))
def N__law_far : List PySem.Str := ["d"]
theorem sc__law_far : FnScope N__law_far ["d"] (defScope s__law_far) := ⟨rfl, rfl, rfl, by decide +kernel, rfl, by decide +kernel, by decide +kernel⟩
def m__law_far (f__law_draw : FM) : SM := (sRet (eBin oMul (eBin oSub (eC (.int 1)) (eBin oMul (eC (.int 2)) (eCall 2 f__law_draw (aCons (eVar 0) (aCons (eC (.int 2)) aNil))))) (eBin oAdd (eBin oMul (eCall 2 f__law_draw (aCons (eVar 0) (aCons (eC (.int 100000000)) aNil))) (eBin oPow (eC (.int 10)) (eC (.int 21)))) (eC (.int 17)))))
theorem ok__law_far {P : Program} {w : World} {K : PySem.W.Frag} {mg : PySem.Str → Option Value} {base : Heap} {f : Addr} {fd : FuncData} {f__law_draw : FM} (F : FnP K "_law_far" s__law_far f fd) (gx : mg "_law_far" = some (.ref f)) (c__law_draw : Cal P w K mg base "_law_draw" 1 ["d", "many"] f__law_draw) :
    Cal P w K mg base "_law_far" 2 ["d"] (runB 1 (m__law_far f__law_draw)) :=
  cal_mk (k := 1) F sc__law_far gx (fun _ _ _ _ _ _ us hl => match us, hl with | [_], _ => rfl) fun cdv A outer s H E hr tk hp =>
    (sx_one (sx_ret (ex_op m_mul (ex_op m_sub ex_int (ex_op m_mul ex_int (ex_c1 c__law_draw tk hr (by decide) (ea_cons (xv 0) (ea_cons ex_int ea_nil))))) (ex_op m_add (ex_op m_mul (ex_c1 c__law_draw tk hr (by decide) (ea_cons (xv 0) (ea_cons ex_int ea_nil))) (ex_op m_pow ex_int ex_int)) ex_int))))
def N__law_tells : List PySem.Str := ["value", "env", "told"]
theorem sc__law_tells : FnScope N__law_tells ["value", "env"] (defScope s__law_tells) := ⟨rfl, rfl, rfl, by decide +kernel, rfl, by decide +kernel, by decide +kernel⟩
def m__law_tells (f_value_of : FM) (f__law_is_int : FM) (f__law_value_of : FM) : SM := (sSeq (sSet 2 (eCallK 1 1 2 [0, 1] f_value_of (aCons (eVar 0) aNil) (aCons (eCB fTuple (aCons (eVar 1) aNil)) aNil)))
    (sRet (eAnd (eCall 1 f__law_is_int (aCons (eVar 2) aNil)) (eBin oEq (eVar 2) (eCall 2 f__law_value_of (aCons (eVar 0) (aCons (eVar 1) aNil)))))))
theorem ok__law_tells {P : Program} {w : World} {K : PySem.W.Frag} {mg : PySem.Str → Option Value} {base : Heap} {f : Addr} {fd : FuncData} {f_value_of f__law_is_int f__law_value_of : FM} (F : FnP K "_law_tells" s__law_tells f fd) (gx : mg "_law_tells" = some (.ref f)) (c_value_of : Cal P w K mg base "value_of" 43 ["value", "numbers"] f_value_of) (c__law_is_int : Cal P w K mg base "_law_is_int" 1 ["thing"] f__law_is_int) (c__law_value_of : Cal P w K mg base "_law_value_of" 41 ["value", "env"] f__law_value_of) {fa_value_of : Addr} {fd_value_of : FuncData} (FK_value_of : FnP K "value_of" s_value_of fa_value_of fd_value_of) (gk_value_of : mg "value_of" = some (.ref fa_value_of)) (z_tuple : mg "tuple" = none) :
    Cal P w K mg base "_law_tells" 44 ["value", "env"] (runB 3 (m__law_tells f_value_of f__law_is_int f__law_value_of)) :=
  cal_mk (k := 43) F sc__law_tells gx (fun _ _ _ _ _ _ us hl => match us, hl with | [_, _], _ => rfl) fun cdv A outer s H E hr tk hp =>
    (sx_cons (sx_set sc__law_tells.nd (ex_ck (n := 1) (ks := ["numbers"]) (is := [0, 1]) c_value_of FK_value_of gk_value_of (fun _ _ _ _ _ _ us ws hl hk => match us, ws, hl, hk with | [_], [_], _, _ => rfl) tk hr (by decide) (ea_cons (xv 0) ea_nil) (ek_cons (ex_callT c_tuple (by rfl) z_tuple bt_tuple (ea_cons (xv 1) ea_nil)) ek_nil)))
    (sx_one (sx_ret (ex_and (ex_c1 c__law_is_int tk hr (by decide) (ea_cons (xv 2) ea_nil)) (ex_one (ex_cmp (m_eq hr.units) (xv 2) (ex_c1 c__law_value_of tk hr (by decide) (ea_cons (xv 0) (ea_cons (xv 1) ea_nil))) (nomark _)))))))
def N__law_tells_parts : List PySem.Str := ["value", "env", "part"]
theorem sc__law_tells_parts : FnScope N__law_tells_parts ["value", "env"] (defScope s__law_tells_parts) := ⟨rfl, rfl, rfl, by decide +kernel, rfl, by decide +kernel, by decide +kernel⟩
def m__law_tells_parts (f__law_tells : FM) : SM := (sSeq (sIf (tBl (eBin oIn (eBin oIx (eVar 0) (eC (.int 0))) (eTup (aCons (eC (.str [110, 97, 109, 101])) (aCons (eC (.str [110, 117, 109, 98, 101, 114])) aNil))))) (sRet (eCall 2 f__law_tells (aCons (eVar 0) (aCons (eVar 1) aNil)))) sNil)
    (sRet (eAnd (eCS gAllB (lComp [2] (iEx (eSl (eVar 0) (oSome (eC (.int 1))) oNone)) (gN 2) tYes (eCall 2 f__law_tells (aCons (eVar 2) (aCons (eVar 1) aNil))))) (eCall 2 f__law_tells (aCons (eVar 0) (aCons (eVar 1) aNil))))))
theorem ok__law_tells_parts {P : Program} {w : World} {K : PySem.W.Frag} {mg : PySem.Str → Option Value} {base : Heap} {f : Addr} {fd : FuncData} {f__law_tells : FM} (F : FnP K "_law_tells_parts" s__law_tells_parts f fd) (gx : mg "_law_tells_parts" = some (.ref f)) (c__law_tells : Cal P w K mg base "_law_tells" 44 ["value", "env"] f__law_tells) (z_all : mg "all" = none) :
    Cal P w K mg base "_law_tells_parts" 45 ["value", "env"] (runB 3 (m__law_tells_parts f__law_tells)) :=
  cal_mk (k := 44) F sc__law_tells_parts gx (fun _ _ _ _ _ _ us hl => match us, hl with | [_, _], _ => rfl) fun cdv A outer s H E hr tk hp =>
    (sx_cons (sx_if (et_cmp (m_in hr.units65) (ex_ix (m_ix hr.units65) (xv 0) ex_int) (ex_tup (ea_cons (ex_strc [110, 97, 109, 101] (by decide +kernel)) (ea_cons (ex_strc [110, 117, 109, 98, 101, 114] (by decide +kernel)) ea_nil))) (by rfl)) (sx_one (sx_ret (ex_c1 c__law_tells tk hr (by decide) (ea_cons (xv 0) (ea_cons (xv 1) ea_nil))))) sx_nil)
    (sx_one (sx_ret (ex_and (ex_callBl (s_all (by rfl)) (by rfl) z_all bt_all (esl_el (el_comp (own := [(("part" : PySem.Str), 2)]) (by rfl) sc__law_tells_parts.nd (ei_ex (ex_sl (xv 0) (eo_some ex_int) eo_none)) (blkOk_by (N := N__law_tells_parts) (sc := (defScope s__law_tells_parts)) (by decide +kernel)) (fun _ _ _ _ _ => (eg_name sc__law_tells_parts.nd)) (fun _ _ _ _ _ => ets_nil) (fun _ _ _ _ _ => (ex_c1 c__law_tells tk0 hr (by decide) (ea_cons (xv 2) (ea_cons (xv 1) ea_nil))))))) (ex_one (ex_c1 c__law_tells tk hr (by decide) (ea_cons (xv 0) (ea_cons (xv 1) ea_nil))))))))
def N__law_tells_edges : List PySem.Str := ["value", "env", "spare", "whole", "more", "wider", "other", "word", "chosen"]
theorem sc__law_tells_edges : FnScope N__law_tells_edges ["value", "env", "spare"] (defScope s__law_tells_edges) := ⟨rfl, rfl, rfl, by decide +kernel, rfl, by decide +kernel, by decide +kernel⟩
def m__law_tells_edges (f__law_value_of : FM) (f__law_tells : FM) (f_value_of : FM) (f__law_is_int : FM) : SM := (sSeq (sSet 3 (eCall 2 f__law_value_of (aCons (eVar 0) (aCons (eVar 1) aNil))))
    (sSeq (sFor (iEx (eLst (aCons (eUn oNeg (eC (.int 1))) (aCons (eC (.int 0)) (aCons (eC (.int 1)) aNil))))) (gN 4) (sSeq (sSet 5 (eBin oAdd (eLst (aCons (eTup (aCons (eVar 2) (aCons (eBin oAdd (eVar 3) (eVar 4)) aNil))) aNil)) (eVar 1)))
    (sSeq (sSet 6 (eTup (aCons (eC (.str [110, 97, 109, 101])) (aCons (eVar 2) aNil))))
    (sSeq (sFor (iEx (eLst (aCons (eC (.str [60])) (aCons (eC (.str [60, 61])) (aCons (eC (.str [61, 61])) (aCons (eC (.str [109, 105, 110])) (aCons (eC (.str [109, 97, 120])) (aCons (eC (.str [43])) (aCons (eC (.str [45])) (aCons (eC (.str [42])) aNil)))))))))) (gN 7) (sIf (tOr (HM.tNot (tVal (eCall 2 f__law_tells (aCons (eTup (aCons (eVar 7) (aCons (eVar 0) (aCons (eVar 6) aNil)))) (aCons (eVar 5) aNil))))) (HM.tNot (tVal (eCall 2 f__law_tells (aCons (eTup (aCons (eVar 7) (aCons (eVar 6) (aCons (eVar 0) aNil)))) (aCons (eVar 5) aNil)))))) (sRet (eC (.bl false))) sNil))
    (sSeq (sSet 8 (eCall 2 f_value_of (aCons (eTup (aCons (eC (.str [119, 104, 101, 110])) (aCons (eTup (aCons (eC (.str [45])) (aCons (eVar 6) (aCons (eVar 0) aNil)))) (aCons (eTup (aCons (eC (.str [110, 117, 109, 98, 101, 114])) (aCons (eC (.int 5)) aNil))) (aCons (eTup (aCons (eC (.str [110, 117, 109, 98, 101, 114])) (aCons (eC (.int 7)) aNil))) aNil))))) (aCons (eCB fTuple (aCons (eVar 5) aNil)) aNil))))
    (sIf (tOr (HM.tNot (tVal (eCall 1 f__law_is_int (aCons (eVar 8) aNil)))) (tBl (eBin oNe (eVar 8) (eIf (tBl (eBin oEq (eVar 4) (eC (.int 1)))) (eC (.int 5)) (eC (.int 7)))))) (sRet (eC (.bl false))) sNil))))))
    (sRet (eC (.bl true)))))
theorem ok__law_tells_edges {P : Program} {w : World} {K : PySem.W.Frag} {mg : PySem.Str → Option Value} {base : Heap} {f : Addr} {fd : FuncData} {f__law_value_of f__law_tells f_value_of f__law_is_int : FM} (F : FnP K "_law_tells_edges" s__law_tells_edges f fd) (gx : mg "_law_tells_edges" = some (.ref f)) (c__law_value_of : Cal P w K mg base "_law_value_of" 41 ["value", "env"] f__law_value_of) (c__law_tells : Cal P w K mg base "_law_tells" 44 ["value", "env"] f__law_tells) (c_value_of : Cal P w K mg base "value_of" 43 ["value", "numbers"] f_value_of) (c__law_is_int : Cal P w K mg base "_law_is_int" 1 ["thing"] f__law_is_int) (z_tuple : mg "tuple" = none) :
    Cal P w K mg base "_law_tells_edges" 45 ["value", "env", "spare"] (runB 9 (m__law_tells_edges f__law_value_of f__law_tells f_value_of f__law_is_int)) :=
  cal_mk (k := 44) F sc__law_tells_edges gx (fun _ _ _ _ _ _ us hl => match us, hl with | [_, _, _], _ => rfl) fun cdv A outer s H E hr tk hp =>
    (sx_cons (sx_set sc__law_tells_edges.nd (ex_c1 c__law_value_of tk hr (by decide) (ea_cons (xv 0) (ea_cons (xv 1) ea_nil))))
    (sx_cons (sx_for hp (by rfl) (ei_ex (ex_lst (ea_cons (ex_un m_neg ex_int) (ea_cons ex_int (ea_cons ex_int ea_nil))))) (eg_name sc__law_tells_edges.nd) (sx_cons (sx_set sc__law_tells_edges.nd (ex_op m_add (ex_lst (ea_cons (ex_tup (ea_cons (xv 2) (ea_cons (ex_op m_add (xv 3) (xv 4)) ea_nil))) ea_nil)) (xv 1)))
    (sx_cons (sx_set sc__law_tells_edges.nd (ex_tup (ea_cons (ex_strc [110, 97, 109, 101] (by decide +kernel)) (ea_cons (xv 2) ea_nil))))
    (sx_cons (sx_for hp (by rfl) (ei_ex (ex_lst (ea_cons (ex_strc [60] (by decide +kernel)) (ea_cons (ex_strc [60, 61] (by decide +kernel)) (ea_cons (ex_strc [61, 61] (by decide +kernel)) (ea_cons (ex_strc [109, 105, 110] (by decide +kernel)) (ea_cons (ex_strc [109, 97, 120] (by decide +kernel)) (ea_cons (ex_strc [43] (by decide +kernel)) (ea_cons (ex_strc [45] (by decide +kernel)) (ea_cons (ex_strc [42] (by decide +kernel)) ea_nil)))))))))) (eg_name sc__law_tells_edges.nd) (sx_one (sx_if (Ew.et (ew_or (et_not (et_val (ex_c1 c__law_tells tk hr (by decide) (ea_cons (ex_tup (ea_cons (xv 7) (ea_cons (xv 0) (ea_cons (xv 6) ea_nil)))) (ea_cons (xv 5) ea_nil))))) (ew_or1 (et_not (et_val (ex_c1 c__law_tells tk hr (by decide) (ea_cons (ex_tup (ea_cons (xv 7) (ea_cons (xv 6) (ea_cons (xv 0) ea_nil)))) (ea_cons (xv 5) ea_nil)))))))) (sx_one (sx_ret ex_bl)) sx_nil)))
    (sx_cons (sx_set sc__law_tells_edges.nd (ex_c1 c_value_of tk hr (by decide) (ea_cons (ex_tup (ea_cons (ex_strc [119, 104, 101, 110] (by decide +kernel)) (ea_cons (ex_tup (ea_cons (ex_strc [45] (by decide +kernel)) (ea_cons (xv 6) (ea_cons (xv 0) ea_nil)))) (ea_cons (ex_tup (ea_cons (ex_strc [110, 117, 109, 98, 101, 114] (by decide +kernel)) (ea_cons ex_int ea_nil))) (ea_cons (ex_tup (ea_cons (ex_strc [110, 117, 109, 98, 101, 114] (by decide +kernel)) (ea_cons ex_int ea_nil))) ea_nil))))) (ea_cons (ex_callT c_tuple (by rfl) z_tuple bt_tuple (ea_cons (xv 5) ea_nil)) ea_nil))))
    (sx_one (sx_if (Ew.et (ew_or (et_not (et_val (ex_c1 c__law_is_int tk hr (by decide) (ea_cons (xv 8) ea_nil)))) (ew_or1 (et_cmp (m_ne hr.units) (xv 8) (ex_if (et_cmp (m_eq hr.units) (xv 4) ex_int (nomark _)) ex_int ex_int) (nomark _))))) (sx_one (sx_ret ex_bl)) sx_nil)))))))
    (sx_one (sx_ret ex_bl))))
def N__law_holds : List PySem.Str := ["integer", "most", "told", "due", "one"]
theorem sc__law_holds : FnScope N__law_holds ["integer", "most"] (defScope s__law_holds) := ⟨rfl, rfl, rfl, by decide +kernel, rfl, by decide +kernel, by decide +kernel⟩
def m__law_holds (f_held : FM) (f__law_is_int : FM) : SM := (sSeq (sSet 2 (eLst (aCons (eCall 2 f_held (aCons (eVar 0) (aCons (eVar 1) aNil))) (aCons (eCallK 0 2 2 [1, 0] f_held aNil (aCons (eVar 1) (aCons (eVar 0) aNil))) aNil))))
    (sSeq (sSet 3 (eIf (tBl (eBin oLt (eVar 0) (eC (.int 0)))) (eC (.int 0)) (eIf (tBl (eBin oGt (eVar 0) (eVar 1))) (eVar 1) (eVar 0))))
    (sRet (eCS gAllB (lComp [4] (iEx (eVar 2)) (gN 4) tYes (eAnd (eCall 1 f__law_is_int (aCons (eVar 4) aNil)) (eBin oEq (eVar 4) (eVar 3))))))))
theorem ok__law_holds {P : Program} {w : World} {K : PySem.W.Frag} {mg : PySem.Str → Option Value} {base : Heap} {f : Addr} {fd : FuncData} {f_held f__law_is_int : FM} (F : FnP K "_law_holds" s__law_holds f fd) (gx : mg "_law_holds" = some (.ref f)) (c_held : Cal P w K mg base "held" 1 ["n", "top"] f_held) (c__law_is_int : Cal P w K mg base "_law_is_int" 1 ["thing"] f__law_is_int) {fa_held : Addr} {fd_held : FuncData} (FK_held : FnP K "held" s_held fa_held fd_held) (gk_held : mg "held" = some (.ref fa_held)) (z_all : mg "all" = none) :
    Cal P w K mg base "_law_holds" 2 ["integer", "most"] (runB 5 (m__law_holds f_held f__law_is_int)) :=
  cal_mk (k := 1) F sc__law_holds gx (fun _ _ _ _ _ _ us hl => match us, hl with | [_, _], _ => rfl) fun cdv A outer s H E hr tk hp =>
    (sx_cons (sx_set sc__law_holds.nd (ex_lst (ea_cons (ex_c1 c_held tk hr (by decide) (ea_cons (xv 0) (ea_cons (xv 1) ea_nil))) (ea_cons (ex_ck0 (ks := ["top", "n"]) (is := [1, 0]) c_held FK_held gk_held (fun _ _ _ _ _ _ us ws hl hk => match us, ws, hl, hk with | [], [_, _], _, _ => rfl) tk hr (by decide) (ek_cons (xv 1) (ek_cons (xv 0) ek_nil))) ea_nil))))
    (sx_cons (sx_set sc__law_holds.nd (ex_if (et_cmp (m_lt hr.units65) (xv 0) ex_int (nomark _)) ex_int (ex_if (et_cmp m_gt (xv 0) (xv 1) (nomark _)) (xv 1) (xv 0))))
    (sx_one (sx_ret (ex_callBl (s_all (by rfl)) (by rfl) z_all bt_all (esl_el (el_comp (own := [(("one" : PySem.Str), 4)]) (by rfl) sc__law_holds.nd (ei_ex (xv 2)) (blkOk_by (N := N__law_holds) (sc := (defScope s__law_holds)) (by decide +kernel)) (fun _ _ _ _ _ => (eg_name sc__law_holds.nd)) (fun _ _ _ _ _ => ets_nil) (fun _ _ _ _ _ => (ex_and (ex_c1 c__law_is_int tk0 hr (by decide) (ea_cons (xv 4) ea_nil)) (ex_one (ex_cmp (m_eq hr.units) (xv 4) (xv 3) (nomark _))))))))))))
def N_law : List PySem.Str := ["script", "d", "pool", "names", "integers", "env", "value", "spare", "at", "other", "most", "far", "near", "k", "name", "integer"]
theorem sc_law : FnScope N_law ["script"] (defScope s_law) := ⟨rfl, rfl, rfl, by decide +kernel, rfl, by decide +kernel, by decide +kernel⟩
def m_law (f__law_begin : FM) (f__law_pool : FM) (f__law_draw : FM) (f__law_pop : FM) (f__law_far : FM) (f__law_line : FM) (f__law_shape : FM) (f__law_tells_parts : FM) (f__law_tells : FM) (f__law_shuffled : FM) (f__law_pick : FM) (f__law_tells_edges : FM) (f__law_holds : FM) : SM := (sSeq (sSet 1 (eCall 1 f__law_begin (aCons (eVar 0) aNil)))
    (sSeq (sSet 2 (eCall 0 f__law_pool aNil))
    (sSeq (sSet 3 (eEl (lComp [13] (iRg1 (eCall 2 f__law_draw (aCons (eVar 1) (aCons (eC (.int 5)) aNil)))) (gN 13) tYes (eCall 2 f__law_pop (aCons (eVar 1) (aCons (eVar 2) aNil))))))
    (sSeq (sSet 4 (eEl (lComp [14] (iEx (eVar 3)) (gN 14) tYes (eBin oSub (eCall 2 f__law_draw (aCons (eVar 1) (aCons (eC (.int 16)) aNil))) (eC (.int 3))))))
    (sSeq (sIf (tAnd (tBl (eBin oGt (eCB fLen (aCons (eVar 3) aNil)) (eC (.int 0)))) (tBl (eBin oEq (eCall 2 f__law_draw (aCons (eVar 1) (aCons (eC (.int 5)) aNil))) (eC (.int 1))))) (sSub (eVar 4) (eCall 2 f__law_draw (aCons (eVar 1) (aCons (eCB fLen (aCons (eVar 3) aNil)) aNil))) (eCall 1 f__law_far (aCons (eVar 1) aNil))) sNil)
    (sSeq (sSet 5 (eEl (lComp [13] (iRg1 (eCB fLen (aCons (eVar 3) aNil))) (gN 13) tYes (eTup (aCons (eBin oIx (eVar 3) (eVar 13)) (aCons (eBin oIx (eVar 4) (eVar 13)) aNil))))))
    (sSeq (sIf (tBl (eBin oEq (eCall 2 f__law_draw (aCons (eVar 1) (aCons (eC (.int 4)) aNil))) (eC (.int 1)))) (sSet 6 (eCall 2 f__law_line (aCons (eVar 1) (aCons (eVar 3) aNil)))) (sSet 6 (eCall 3 f__law_shape (aCons (eVar 1) (aCons (eVar 3) (aCons (eBin oAdd (eC (.int 1)) (eCall 2 f__law_draw (aCons (eVar 1) (aCons (eC (.int 10)) aNil)))) aNil))))))
    (sSeq (sIf (HM.tNot (tVal (eCall 2 f__law_tells_parts (aCons (eVar 6) (aCons (eVar 5) aNil))))) (sRet (eC (.bl false))) sNil)
    (sSeq (sSet 7 (eCall 2 f__law_pop (aCons (eVar 1) (aCons (eVar 2) aNil))))
    (sSeq (sIf (HM.tNot (tVal (eCall 2 f__law_tells (aCons (eVar 6) (aCons (eCall 2 f__law_shuffled (aCons (eVar 1) (aCons (eBin oAdd (eVar 5) (eLst (aCons (eTup (aCons (eVar 7) (aCons (eCall 2 f__law_draw (aCons (eVar 1) (aCons (eC (.int 9)) aNil))) aNil))) aNil))) aNil))) aNil))))) (sRet (eC (.bl false))) sNil)
    (sSeq (sIf (tBl (eBin oGt (eCB fLen (aCons (eVar 3) aNil)) (eC (.int 0)))) (sSeq (sSet 8 (eCall 2 f__law_draw (aCons (eVar 1) (aCons (eCB fLen (aCons (eVar 3) aNil)) aNil))))
    (sSeq (sSet 9 (eBin oAdd (eBin oAdd (eSl (eVar 5) oNone (oSome (eVar 8))) (eLst (aCons (eTup (aCons (eBin oIx (eVar 3) (eVar 8)) (aCons (eBin oAdd (eBin oIx (eVar 4) (eVar 8)) (eCall 2 f__law_pick (aCons (eVar 1) (aCons (eLst (aCons (eUn oNeg (eC (.int 1))) (aCons (eC (.int 1)) (aCons (eC (.int 2)) (aCons (eUn oNeg (eC (.int 7))) aNil))))) aNil)))) aNil))) aNil))) (eSl (eVar 5) (oSome (eBin oAdd (eVar 8) (eC (.int 1)))) oNone)))
    (sIf (tOr (HM.tNot (tVal (eCall 2 f__law_tells (aCons (eVar 6) (aCons (eVar 9) aNil))))) (HM.tNot (tVal (eCall 2 f__law_tells (aCons (eVar 6) (aCons (eVar 5) aNil)))))) (sRet (eC (.bl false))) sNil))) sNil)
    (sSeq (sIf (HM.tNot (tVal (eCall 3 f__law_tells_edges (aCons (eCall 3 f__law_shape (aCons (eVar 1) (aCons (eVar 3) (aCons (eBin oAdd (eC (.int 1)) (eCall 2 f__law_draw (aCons (eVar 1) (aCons (eC (.int 3)) aNil)))) aNil)))) (aCons (eVar 5) (aCons (eVar 7) aNil)))))) (sRet (eC (.bl false))) sNil)
    (sSeq (sSet 10 (eCall 2 f__law_draw (aCons (eVar 1) (aCons (eC (.int 13)) aNil))))
    (sSeq (sIf (tBl (eBin oEq (eCall 2 f__law_draw (aCons (eVar 1) (aCons (eC (.int 6)) aNil))) (eC (.int 1)))) (sSet 10 (eCB fAbs (aCons (eCall 1 f__law_far (aCons (eVar 1) aNil)) aNil))) sNil)
    (sSeq (sSet 11 (eCall 1 f__law_far (aCons (eVar 1) aNil)))
    (sSeq (sSet 12 (eLst (aCons (eUn oNeg (eC (.int 1))) (aCons (eC (.int 0)) (aCons (eC (.int 1)) (aCons (eBin oSub (eVar 10) (eC (.int 1))) (aCons (eVar 10) (aCons (eBin oAdd (eVar 10) (eC (.int 1))) (aCons (eVar 11) (aCons (eUn oNeg (eVar 11)) (aCons (eBin oSub (eCall 2 f__law_draw (aCons (eVar 1) (aCons (eC (.int 25)) aNil))) (eC (.int 6))) aNil)))))))))))
    (sRet (eCS gAllB (lComp [15] (iEx (eVar 12)) (gN 15) tYes (eCall 2 f__law_holds (aCons (eVar 15) (aCons (eVar 10) aNil))))))))))))))))))))))
theorem ok_law {P : Program} {w : World} {K : PySem.W.Frag} {mg : PySem.Str → Option Value} {base : Heap} {f : Addr} {fd : FuncData} {f__law_begin f__law_pool f__law_draw f__law_pop f__law_far f__law_line f__law_shape f__law_tells_parts f__law_tells f__law_shuffled f__law_pick f__law_tells_edges f__law_holds : FM} (F : FnP K "law" s_law f fd) (c__law_begin : Cal P w K mg base "_law_begin" 1 ["script"] f__law_begin) (c__law_pool : Cal P w K mg base "_law_pool" 1 [] f__law_pool) (c__law_draw : Cal P w K mg base "_law_draw" 1 ["d", "many"] f__law_draw) (c__law_pop : Cal P w K mg base "_law_pop" 2 ["d", "row"] f__law_pop) (c__law_far : Cal P w K mg base "_law_far" 2 ["d"] f__law_far) (c__law_line : Cal P w K mg base "_law_line" 4 ["d", "names"] f__law_line) (c__law_shape : Cal P w K mg base "_law_shape" 4 ["d", "names", "leaves"] f__law_shape) (c__law_tells_parts : Cal P w K mg base "_law_tells_parts" 45 ["value", "env"] f__law_tells_parts) (c__law_tells : Cal P w K mg base "_law_tells" 44 ["value", "env"] f__law_tells) (c__law_shuffled : Cal P w K mg base "_law_shuffled" 2 ["d", "row"] f__law_shuffled) (c__law_pick : Cal P w K mg base "_law_pick" 2 ["d", "row"] f__law_pick) (c__law_tells_edges : Cal P w K mg base "_law_tells_edges" 45 ["value", "env", "spare"] f__law_tells_edges) (c__law_holds : Cal P w K mg base "_law_holds" 2 ["integer", "most"] f__law_holds) (z_range : mg "range" = none) (z_len : mg "len" = none) (z_abs : mg "abs" = none) (z_all : mg "all" = none) :
    FnM P w K mg base 46 f fd ["script"] (runB 16 (m_law f__law_begin f__law_pool f__law_draw f__law_pop f__law_far f__law_line f__law_shape f__law_tells_parts f__law_tells f__law_shuffled f__law_pick f__law_tells_edges f__law_holds)) :=
  fn_def (k := 45) F sc_law fun cdv A outer s H E hr tk hp =>
    (sx_cons (sx_set sc_law.nd (ex_c1 c__law_begin tk hr (by decide) (ea_cons (xv 0) ea_nil)))
    (sx_cons (sx_set sc_law.nd (ex_c0 c__law_pool tk hr (by decide)))
    (sx_cons (sx_set sc_law.nd (ex_el (el_comp (own := [(("k" : PySem.Str), 13)]) (by rfl) sc_law.nd (ei_range1 (by rfl) z_range (ex_c1 c__law_draw tk hr (by decide) (ea_cons (xv 1) (ea_cons ex_int ea_nil)))) (blkOk_by (N := N_law) (sc := (defScope s_law)) (by decide +kernel)) (fun _ _ _ _ _ => (eg_name sc_law.nd)) (fun _ _ _ _ _ => ets_nil) (fun _ _ _ _ _ => (ex_c1 c__law_pop tk0 hr (by decide) (ea_cons (xv 1) (ea_cons (xv 2) ea_nil)))))))
    (sx_cons (sx_set sc_law.nd (ex_el (el_comp (own := [(("name" : PySem.Str), 14)]) (by rfl) sc_law.nd (ei_ex (xv 3)) (blkOk_by (N := N_law) (sc := (defScope s_law)) (by decide +kernel)) (fun _ _ _ _ _ => (eg_name sc_law.nd)) (fun _ _ _ _ _ => ets_nil) (fun _ _ _ _ _ => (ex_op m_sub (ex_c1 c__law_draw tk0 hr (by decide) (ea_cons (xv 1) (ea_cons ex_int ea_nil))) ex_int)))))
    (sx_cons (sx_if (Ew.et (ew_and (et_cmp m_gt (ex_callB c_len (by rfl) z_len bt_len (ea_cons (xv 3) ea_nil)) ex_int (nomark _)) (ew_and1 (et_cmp (m_eq hr.units) (ex_c1 c__law_draw tk hr (by decide) (ea_cons (xv 1) (ea_cons ex_int ea_nil))) ex_int (nomark _))))) (sx_one (sx_sub hr.units65 (ex_c1 c__law_far tk hr (by decide) (ea_cons (xv 1) ea_nil)) (xv 4) (ex_c1 c__law_draw tk hr (by decide) (ea_cons (xv 1) (ea_cons (ex_callB c_len (by rfl) z_len bt_len (ea_cons (xv 3) ea_nil)) ea_nil))))) sx_nil)
    (sx_cons (sx_setLc (own := [(("k" : PySem.Str), 13)]) (by rfl) sc_law.nd (ei_range1 (by rfl) z_range (ex_callB c_len (by rfl) z_len bt_len (ea_cons (xv 3) ea_nil))) (blkOk_by (N := N_law) (sc := (defScope s_law)) (by decide +kernel)) (fun _ _ _ _ _ => (eg_name sc_law.nd)) (fun _ _ _ _ _ => ets_nil) (fun _ _ _ _ _ => (ex_tup (ea_cons (ex_ix (m_ix hr.units65) (xv 3) (xv 13)) (ea_cons (ex_ix (m_ix hr.units65) (xv 4) (xv 13)) ea_nil)))))
    (sx_cons (sx_if (et_cmp (m_eq hr.units) (ex_c1 c__law_draw tk hr (by decide) (ea_cons (xv 1) (ea_cons ex_int ea_nil))) ex_int (nomark _)) (sx_one (sx_set sc_law.nd (ex_c1 c__law_line tk hr (by decide) (ea_cons (xv 1) (ea_cons (xv 3) ea_nil))))) (sx_one (sx_set sc_law.nd (ex_c1 c__law_shape tk hr (by decide) (ea_cons (xv 1) (ea_cons (xv 3) (ea_cons (ex_op m_add ex_int (ex_c1 c__law_draw tk hr (by decide) (ea_cons (xv 1) (ea_cons ex_int ea_nil)))) ea_nil)))))))
    (sx_cons (sx_if (et_not (et_val (ex_c1 c__law_tells_parts tk hr (by decide) (ea_cons (xv 6) (ea_cons (xv 5) ea_nil))))) (sx_one (sx_ret ex_bl)) sx_nil)
    (sx_cons (sx_set sc_law.nd (ex_c1 c__law_pop tk hr (by decide) (ea_cons (xv 1) (ea_cons (xv 2) ea_nil))))
    (sx_cons (sx_if (et_not (et_val (ex_c1 c__law_tells tk hr (by decide) (ea_cons (xv 6) (ea_cons (ex_c1 c__law_shuffled tk hr (by decide) (ea_cons (xv 1) (ea_cons (ex_op m_add (xv 5) (ex_lst (ea_cons (ex_tup (ea_cons (xv 7) (ea_cons (ex_c1 c__law_draw tk hr (by decide) (ea_cons (xv 1) (ea_cons ex_int ea_nil))) ea_nil))) ea_nil))) ea_nil))) ea_nil))))) (sx_one (sx_ret ex_bl)) sx_nil)
    (sx_cons (sx_if (et_cmp m_gt (ex_callB c_len (by rfl) z_len bt_len (ea_cons (xv 3) ea_nil)) ex_int (nomark _)) (sx_cons (sx_set sc_law.nd (ex_c1 c__law_draw tk hr (by decide) (ea_cons (xv 1) (ea_cons (ex_callB c_len (by rfl) z_len bt_len (ea_cons (xv 3) ea_nil)) ea_nil))))
    (sx_cons (sx_set sc_law.nd (ex_op m_add (ex_op m_add (ex_sl (xv 5) eo_none (eo_some (xv 8))) (ex_lst (ea_cons (ex_tup (ea_cons (ex_ix (m_ix hr.units65) (xv 3) (xv 8)) (ea_cons (ex_op m_add (ex_ix (m_ix hr.units65) (xv 4) (xv 8)) (ex_c1 c__law_pick tk hr (by decide) (ea_cons (xv 1) (ea_cons (ex_lst (ea_cons (ex_un m_neg ex_int) (ea_cons ex_int (ea_cons ex_int (ea_cons (ex_un m_neg ex_int) ea_nil))))) ea_nil)))) ea_nil))) ea_nil))) (ex_sl (xv 5) (eo_some (ex_op m_add (xv 8) ex_int)) eo_none)))
    (sx_one (sx_if (Ew.et (ew_or (et_not (et_val (ex_c1 c__law_tells tk hr (by decide) (ea_cons (xv 6) (ea_cons (xv 9) ea_nil))))) (ew_or1 (et_not (et_val (ex_c1 c__law_tells tk hr (by decide) (ea_cons (xv 6) (ea_cons (xv 5) ea_nil)))))))) (sx_one (sx_ret ex_bl)) sx_nil)))) sx_nil)
    (sx_cons (sx_if (et_not (et_val (ex_c1 c__law_tells_edges tk hr (by decide) (ea_cons (ex_c1 c__law_shape tk hr (by decide) (ea_cons (xv 1) (ea_cons (xv 3) (ea_cons (ex_op m_add ex_int (ex_c1 c__law_draw tk hr (by decide) (ea_cons (xv 1) (ea_cons ex_int ea_nil)))) ea_nil)))) (ea_cons (xv 5) (ea_cons (xv 7) ea_nil)))))) (sx_one (sx_ret ex_bl)) sx_nil)
    (sx_cons (sx_set sc_law.nd (ex_c1 c__law_draw tk hr (by decide) (ea_cons (xv 1) (ea_cons ex_int ea_nil))))
    (sx_cons (sx_if (et_cmp (m_eq hr.units) (ex_c1 c__law_draw tk hr (by decide) (ea_cons (xv 1) (ea_cons ex_int ea_nil))) ex_int (nomark _)) (sx_one (sx_set sc_law.nd (ex_callB c_abs (by rfl) z_abs bt_abs (ea_cons (ex_c1 c__law_far tk hr (by decide) (ea_cons (xv 1) ea_nil)) ea_nil)))) sx_nil)
    (sx_cons (sx_set sc_law.nd (ex_c1 c__law_far tk hr (by decide) (ea_cons (xv 1) ea_nil)))
    (sx_cons (sx_set sc_law.nd (ex_lst (ea_cons (ex_un m_neg ex_int) (ea_cons ex_int (ea_cons ex_int (ea_cons (ex_op m_sub (xv 10) ex_int) (ea_cons (xv 10) (ea_cons (ex_op m_add (xv 10) ex_int) (ea_cons (xv 11) (ea_cons (ex_un m_neg (xv 11)) (ea_cons (ex_op m_sub (ex_c1 c__law_draw tk hr (by decide) (ea_cons (xv 1) (ea_cons ex_int ea_nil))) ex_int) ea_nil)))))))))))
    (sx_one (sx_ret (ex_callBl (s_all (by rfl)) (by rfl) z_all bt_all (esl_el (el_comp (own := [(("integer" : PySem.Str), 15)]) (by rfl) sc_law.nd (ei_ex (xv 12)) (blkOk_by (N := N_law) (sc := (defScope s_law)) (by decide +kernel)) (fun _ _ _ _ _ => (eg_name sc_law.nd)) (fun _ _ _ _ _ => ets_nil) (fun _ _ _ _ _ => (ex_c1 c__law_holds tk0 hr (by decide) (ea_cons (xv 15) (ea_cons (xv 10) ea_nil)))))))))))))))))))))))))
end K19

namespace K19
open PySem PySem.Spec PyProof.Rows L2 HM

def f_held : FM := runB 2 (m_held)
theorem le_held : ∀ ds st, Le st (runB 2 (m_held) ds st) (f_held ds st) := fun _ _ => .refl _
def f_combined : FM := runB 3 (m_combined)
theorem le_combined : ∀ ds st, Le st (runB 3 (m_combined) ds st) (f_combined ds st) := fun _ _ => .refl _
def f_value_in : FM := fr_value_in f_combined 40
theorem le_value_in : ∀ ds st, Le st (fr_value_in f_combined 40 ds st) (f_value_in ds st) := fun _ _ => .refl _
def f_value_of : FM := runB 2 (m_value_of f_value_in)
theorem le_value_of : ∀ ds st, Le st (runB 2 (m_value_of f_value_in) ds st) (f_value_of ds st) := fun _ _ => .refl _
def f__law_begin : FM := runB 2 (m__law_begin)
theorem le__law_begin : ∀ ds st, Le st (runB 2 (m__law_begin) ds st) (f__law_begin ds st) := fun _ _ => .refl _
def f__law_draw : FM := runB 5 (m__law_draw)
theorem le__law_draw : ∀ ds st, Le st (runB 5 (m__law_draw) ds st) (f__law_draw ds st) := fun _ _ => .refl _
def f__law_pick : FM := runB 2 (m__law_pick f__law_draw)
theorem le__law_pick : ∀ ds st, Le st (runB 2 (m__law_pick f__law_draw) ds st) (f__law_pick ds st) := fun _ _ => .refl _
def f__law_pop : FM := runB 2 (m__law_pop f__law_draw)
theorem le__law_pop : ∀ ds st, Le st (runB 2 (m__law_pop f__law_draw) ds st) (f__law_pop ds st) := fun _ _ => .refl _
def f__law_shuffled : FM := runB 5 (m__law_shuffled f__law_draw)
theorem le__law_shuffled : ∀ ds st, Le st (runB 5 (m__law_shuffled f__law_draw) ds st) (f__law_shuffled ds st) := fun _ _ => .refl _
def f__law_pool : FM := runB 1 (m__law_pool)
theorem le__law_pool : ∀ ds st, Le st (runB 1 (m__law_pool) ds st) (f__law_pool ds st) := fun _ _ => .refl _
def f__law_is_int : FM := runB 1 (m__law_is_int)
theorem le__law_is_int : ∀ ds st, Le st (runB 1 (m__law_is_int) ds st) (f__law_is_int ds st) := fun _ _ => .refl _
def f__law_value_of : FM := fr__law_value_of 40
theorem le__law_value_of : ∀ ds st, Le st (fr__law_value_of 40 ds st) (f__law_value_of ds st) := fun _ _ => .refl _
def f__law_leaf : FM := runB 3 (m__law_leaf f__law_draw f__law_pick)
theorem le__law_leaf : ∀ ds st, Le st (runB 3 (m__law_leaf f__law_draw f__law_pick) ds st) (f__law_leaf ds st) := fun _ _ => .refl _
def f__law_shape : FM := runB 7 (m__law_shape f__law_leaf f__law_draw f__law_pick)
theorem le__law_shape : ∀ ds st, Le st (runB 7 (m__law_shape f__law_leaf f__law_draw f__law_pick) ds st) (f__law_shape ds st) := fun _ _ => .refl _
def f__law_line : FM := runB 5 (m__law_line f__law_pick f__law_leaf f__law_draw)
theorem le__law_line : ∀ ds st, Le st (runB 5 (m__law_line f__law_pick f__law_leaf f__law_draw) ds st) (f__law_line ds st) := fun _ _ => .refl _
def f__law_far : FM := runB 1 (m__law_far f__law_draw)
theorem le__law_far : ∀ ds st, Le st (runB 1 (m__law_far f__law_draw) ds st) (f__law_far ds st) := fun _ _ => .refl _
def f__law_tells : FM := runB 3 (m__law_tells f_value_of f__law_is_int f__law_value_of)
theorem le__law_tells : ∀ ds st, Le st (runB 3 (m__law_tells f_value_of f__law_is_int f__law_value_of) ds st) (f__law_tells ds st) := fun _ _ => .refl _
def f__law_tells_parts : FM := runB 3 (m__law_tells_parts f__law_tells)
theorem le__law_tells_parts : ∀ ds st, Le st (runB 3 (m__law_tells_parts f__law_tells) ds st) (f__law_tells_parts ds st) := fun _ _ => .refl _
def f__law_tells_edges : FM := runB 9 (m__law_tells_edges f__law_value_of f__law_tells f_value_of f__law_is_int)
theorem le__law_tells_edges : ∀ ds st, Le st (runB 9 (m__law_tells_edges f__law_value_of f__law_tells f_value_of f__law_is_int) ds st) (f__law_tells_edges ds st) := fun _ _ => .refl _
def f__law_holds : FM := runB 5 (m__law_holds f_held f__law_is_int)
theorem le__law_holds : ∀ ds st, Le st (runB 5 (m__law_holds f_held f__law_is_int) ds st) (f__law_holds ds st) := fun _ _ => .refl _
def f_law : FM := runB 16 (m_law f__law_begin f__law_pool f__law_draw f__law_pop f__law_far f__law_line f__law_shape f__law_tells_parts f__law_tells f__law_shuffled f__law_pick f__law_tells_edges f__law_holds)
theorem le_law : ∀ ds st, Le st (runB 16 (m_law f__law_begin f__law_pool f__law_draw f__law_pop f__law_far f__law_line f__law_shape f__law_tells_parts f__law_tells f__law_shuffled f__law_pick f__law_tells_edges f__law_holds) ds st) (f_law ds st) := fun _ _ => .refl _

/-! draws -/
theorem r_begin {ns : List Int} (hl : ns.length ≤ 63) : ∃ st', f__law_begin [.rol (ns.map D.int)] [] = .ok (.ref 1) st' ∧ DS ns st' ∧ st'.length = 2 := by
  obtain ⟨ys, st1, e, ⟨h1, h2⟩, hl2⟩ := comp_inv (q := .fix (ns.map D.int)) (set := gN 1) (fe := eCB fInt (aCons (eVar 1) aNil)) (τ := [some (.rol (ns.map D.int)), none]) (fun acc s => acc = (ns.map D.int).take acc.length ∧ s = ([] : Store)) (fun _ _ _ => rfl) (ns.map D.int) [] [] ⟨rfl, rfl⟩ fun i d acc s hi ha hp => by
    obtain ⟨h1, rfl⟩ := hp
    refine ⟨_, rfl, d, [], ?_, ?_, rfl⟩
    · have : ∃ k, d = .int k := by
        rw [List.getElem?_map] at hi
        cases hz : ns[i]? with
        | none => simp [hz] at hi
        | some k => exact ⟨k, by simpa [hz] using hi.symm⟩
      obtain ⟨k, rfl⟩ := this
      simp [gN]
    · simp only [List.length_nil, Nat.zero_add] at ha
      rw [List.length_append, List.length_singleton, ha, List.take_succ, hi, ← ha, ← h1]
      rfl
  have hy : ys = ns.map D.int := by
    rw [h1, List.take_of_length_le]
    simp at hl2
    simp [hl2]
  subst hy h2
  refine ⟨[.lst (ns.map D.int), .lst [.ref 0, .int 0, .int 0, .int 7]], ?_, ⟨rfl, 0, 0, 7, by decide, rfl⟩, rfl⟩
  have e : compL (.fix (ns.map D.int)) (gN 1) tYes (eCB fInt (aCons (eVar 1) aNil)) (wipeD [some (.rol (ns.map D.int)), none] [1]) (ns.map D.int) [] [] = .ok (ns.map D.int) [] := e
  have hs : ns.length ≤ 16777216 := by omega
  simp [f__law_begin, runB_e, m__law_begin, lComp_e, lc1, hs, e]
theorem r_draw {ns : List Int} {st : Store} {many : Int} (H : DS ns st) (h0 : 0 < many) (h1 : many.natAbs.log2 < 9000) :
    ∃ v st', f__law_draw [.ref 1, .int many] st = .ok (.int v) st' ∧ 0 ≤ v ∧ v < many ∧ DS ns st' ∧ Fr st st' := by
  obtain ⟨c0, p, h, q, hp, c1⟩ := H
  have set1 : ∀ p' h' q' : Int, 0 ≤ p' → ∀ s, s = st ∨ (∃ ys, s = st.set 1 (.lst ys)) ∨ (∃ ys zs, s = (st.set 1 (.lst ys)).set 1 (.lst zs)) → DS ns (s.set 1 (.lst [.ref 0, .int p', .int h', .int q'])) ∧ Fr st (s.set 1 (.lst [.ref 0, .int p', .int h', .int q'])) := by
    intro p' h' q' hp' s hs
    have e : s.set 1 (.lst [.ref 0, .int p', .int h', .int q']) = st.set 1 (.lst [.ref 0, .int p', .int h', .int q']) := by
      rcases hs with rfl | ⟨ys, rfl⟩ | ⟨ys, zs, rfl⟩ <;> simp [List.set_set]
    rw [e]
    refine ⟨⟨by rw [lstAt_ne (by decide)]; exact c0, p', h', q', hp', lstAt_set c1⟩, by simp, fun n hn _ => ?_⟩
    rw [List.getElem?_set_ne (Ne.symm hn)]
  have od : ∀ i, okDiv i many = true := fun i => okDiv_of (by omega) h1
  have om : ∀ i, okMod i many = true := fun i => okMod_of (by omega)
  have b0 : ∀ i : Int, 0 ≤ i.fmod many := fun i => Int.fmod_nonneg_of_pos i h0
  have b1 : ∀ i : Int, i.fmod many < many := fun i => Int.fmod_lt_of_pos i h0
  unfold f__law_draw
  rw [runB_e]
  unfold m__law_draw
  by_cases hh : 0 < h
  · obtain ⟨d1, d2⟩ := set1 p (h.fdiv many) q hp st (.inl rfl)
    refine ⟨h.fmod many, _, ?_, b0 _, b1 _, d1, d2⟩
    have x2 : ixN 4 2 = some 2 := rfl
    simp [oIx_ref c1, hh, od, om, oSet_ref c1, x2]
  · -- the size of the script's number here
    have main : ∀ (size : Int) (c : Option D), (0 ≤ size) → ∃ v st', ((sSeq (sAugS oIAdd (eVar 0) (eC (.int 1)) (eC (.int 1)))
        (sSeq (sIf (tBl (eBin oGe (eVar 3) (eBin oMul (eC (.int 2)) (eBin oPow (eC (.int 10)) (eC (.int 18)))))) (sSeq (sSet 2 (eBin oMod (eCB fInt (aCons (eBin oDiv (eVar 3) (eC (.int 2))) aNil)) (eBin oShl (eC (.int 1)) (eC (.int 6000)))))
        (sSeq (sSub (eVar 0) (eC (.int 2)) (eBin oDiv (eVar 2) (eVar 1)))
        (sRet (eBin oMod (eCB fInt (aCons (eVar 2) aNil)) (eVar 1))))) sNil)
        (sSeq (sSub (eVar 0) (eC (.int 3)) (eBin oMod (eCB fInt (aCons (eBin oAdd (eBin oAdd (eBin oAdd (eBin oMul (eBin oIx (eVar 0) (eC (.int 3))) (eC (.int 48271))) (eBin oMul (eBin oMod (eCB fInt (aCons (eVar 3) aNil)) (eC (.int 2147483629))) (eC (.int 16807)))) (eBin oMul (eBin oIx (eVar 0) (eC (.int 1))) (eC (.int 69621)))) (eC (.int 11))) aNil)) (eC (.int 2147483647))))
        (sRet (eBin oMod (eCB fInt (aCons (eBin oDiv (eBin oIx (eVar 0) (eC (.int 3))) (eC (.int 16))) aNil)) (eVar 1)))))) [some (.ref 1), some (.int many), none, some (.int size), c] st).fin = .ok (.int v) st' ∧ 0 ≤ v ∧ v < many ∧ DS ns st' ∧ Fr st st' := by
      intro size c hs
      have x1 : ixN 4 1 = some 1 := rfl
      have x2 : ixN 4 2 = some 2 := rfl
      have x3 : ixN 4 3 = some 3 := rfl
      obtain ⟨st1, e1⟩ : ∃ st1, st1 = st.set 1 (.lst [.ref 0, .int (p + 1), .int h, .int q]) := ⟨_, rfl⟩
      have l1 : lstAt st1 1 = some [.ref 0, .int (p + 1), .int h, .int q] := by
        rw [e1]
        exact lstAt_set c1
      have d48 : okMul q 48271 = true := okMul_r (by decide)
      have d16 : ∀ i, okMul i 16807 = true := fun i => okMul_r (by decide)
      have d69 : ∀ i, okMul i 69621 = true := fun i => okMul_r (by decide)
      have m1 : ∀ i, okMod i 2147483629 = true := fun i => okMod_of (by decide)
      have m2 : ∀ i, okMod i 2147483647 = true := fun i => okMod_of (by decide)
      have v16 : ∀ i, okDiv i 16 = true := fun i => okDiv_of (by decide) (by decide)
      have v2 : ∀ i, okDiv i 2 = true := fun i => okDiv_of (by decide) (by decide)
      by_cases hz : 2000000000000000000 ≤ size
      · have p1 : okPow 10 18 = true := by decide
        have p2 : okMul 2 1000000000000000000 = true := okMul_r (by decide)
        have p3 : okPow 1 6000 = true := by decide
        obtain ⟨M, eM⟩ : ∃ M : Int, M = 2 ^ 6000 := ⟨_, rfl⟩
        have hM : M ≠ 0 := by
          have : (0 : Int) < 2 ^ 6000 := Int.pow_pos (by decide)
          omega
        have om2 : ∀ i, okMod i M = true := fun i => okMod_of hM
        obtain ⟨d1, d2⟩ := set1 (p + 1) (((size.fdiv 2).fmod M).fdiv many) q (by omega) st1 (.inr (.inl ⟨_, e1⟩))
        refine ⟨((size.fdiv 2).fmod M).fmod many, _, ?_, b0 _, b1 _, d1, d2⟩
        simp [oGetL_ref c1, oSet_ref c1, x1, x2, ← e1, hz, p1, p2, p3, v2, od, om, ← eM, om2, oSet_ref l1]
      · have p1 : okPow 10 18 = true := by decide
        have p2 : okMul 2 1000000000000000000 = true := okMul_r (by decide)
        obtain ⟨q', eq'⟩ : ∃ q', q' = (q * 48271 + size.fmod 2147483629 * 16807 + (p + 1) * 69621 + 11).fmod 2147483647 := ⟨_, rfl⟩
        obtain ⟨d1, d2⟩ := set1 (p + 1) h q' (by omega) st1 (.inr (.inl ⟨_, e1⟩))
        have l2 : lstAt (st1.set 1 (.lst [.ref 0, .int (p + 1), .int h, .int q'])) 1 = some [.ref 0, .int (p + 1), .int h, .int q'] := lstAt_set l1
        refine ⟨(q'.fdiv 16).fmod many, _, ?_, b0 _, b1 _, d1, d2⟩
        simp [oGetL_ref c1, oSet_ref c1, x1, x2, x3, ← e1, hz, p1, p2, v2, v16, od, om, m1, m2, d48, d16, d69, oIx_ref l1, oSet_ref l1, oIx_ref l2, ← eq']
    by_cases hp2 : p < ns.length
    · have hc : ∃ c : Int, atI (ns.map D.int) p = some (.int c) := by
        have hp3 : p.toNat < ns.length := by omega
        refine ⟨ns[p.toNat], ?_⟩
        have := atI_nat (xs := ns.map D.int) (j := p.toNat) (v := D.int ns[p.toNat]) (by simp [hp3])
        rwa [Int.toNat_of_nonneg hp] at this
      obtain ⟨c, hc⟩ := hc
      obtain ⟨v, st', e, r⟩ := main (2 * (c.natAbs : Nat) + (if c < 0 then 1 else 0)) (some (.int c)) (by split <;> omega)
      refine ⟨v, st', ?_, r⟩
      rw [← e]
      have k2 : okMul 2 (c.natAbs : Nat) = true := okMul_l (by decide)
      simp [oIx_ref c1, hh, oIx_ref c0, fLen_ref c0, hp2, hc, k2]
    · obtain ⟨v, st', e, r⟩ := main 0 none (by omega)
      refine ⟨v, st', ?_, r⟩
      rw [← e]
      simp [oIx_ref c1, hh, oIx_ref c0, fLen_ref c0, hp2]

/-- a draw, as a natural number -/
theorem r_drawN {ns : List Int} {st : Store} {many : Nat} (H : DS ns st) (h0 : 0 < many) (h1 : many < 2 ^ 60) :
    ∃ (v : Nat) (st' : Store), f__law_draw [.ref 1, .int (many : Nat)] st = .ok (.int (v : Nat)) st' ∧ v < many ∧ DS ns st' ∧ Fr st st' := by
  obtain ⟨v, s1, e, v0, v1, D1, F1⟩ := r_draw (many := (many : Nat)) H (by omega) (by
    rw [Int.natAbs_natCast]
    have := log2_le h1
    omega)
  refine ⟨v.toNat, s1, ?_, by omega, D1, F1⟩
  rw [Int.toNat_of_nonneg v0]
  exact e
theorem ixN_of {n j : Nat} (h : j < n) : ixN n (j : Nat) = some j := by
  unfold ixN
  rw [if_pos (by omega), if_pos (by simpa using h)]
  simp
theorem atI_of {xs : List D} {j : Nat} (h : j < xs.length) : atI xs (j : Nat) = some xs[j] := atI_nat (by simp [h])
theorem r_drawZ {ns : List Int} {st : Store} {many : Int} (H : DS ns st) (h0 : 0 < many) (h1 : many ≤ 1000) :
    ∃ v st', f__law_draw [.ref 1, .int many] st = .ok (.int v) st' ∧ 0 ≤ v ∧ v < many ∧ DS ns st' ∧ Fr st st' :=
  r_draw H h0 (Nat.lt_of_le_of_lt (log2_le (k := 10) (by omega)) (by decide))

theorem r_pick {ns : List Int} {st : Store} {m : Nat} {xs : List D} (H : DS ns st) (hx : lstAt st m = some xs) (hm : m ≠ 1) (h0 : 0 < xs.length) (h1 : xs.length < 2 ^ 60) :
    ∃ v st', f__law_pick [.ref 1, .ref m] st = .ok v st' ∧ v ∈ xs ∧ DS ns st' ∧ Fr st st' := by
  obtain ⟨v, s1, e, v0, v1, D1, F1⟩ := r_draw (many := (xs.length : Nat)) H (by omega) (by
    rw [Int.natAbs_natCast]
    have := log2_le h1
    omega)
  have hv : v.toNat < xs.length := by omega
  refine ⟨xs[v.toNat], s1, ?_, List.getElem_mem _, D1, F1⟩
  have ha : atI xs v = some xs[v.toNat] := by
    have := atI_nat (xs := xs) (j := v.toNat) (v := xs[v.toNat]) (by simp [hv])
    rwa [Int.toNat_of_nonneg v0] at this
  simp [f__law_pick, runB_e, m__law_pick, fLen_ref hx, e, oIx_ref (F1.lst hx hm), ha]

/-- a loop that returns False at the first that fails -/
theorem for_all {α : Type} {q : Sq} {set : D → Sl → Option Sl} {u : SM} {st : Store} (hq : q.chk st = true) (g : α → D) (p : α → Bool) (I : Sl → Prop) : ∀ (xs : List α) (τ : Sl), I τ →
    (∀ a ∈ xs, ∀ τ, I τ → ∃ τ1, set (g a) τ = some τ1 ∧ (p a = true → ∃ τ2, u τ1 st = .nx τ2 st ∧ I τ2) ∧ (p a = false → u τ1 st = .rt (.bl false) st)) →
    (xs.all p = true ∧ ∃ τ', forL q set u (xs.map g) τ st = .nx τ' st ∧ I τ') ∨ (xs.all p = false ∧ forL q set u (xs.map g) τ st = .rt (.bl false) st)
  | [], τ, h0, _ => .inl ⟨rfl, τ, forL_nil hq, h0⟩
  | a :: xs, τ, h0, hs => by
    obtain ⟨τ1, e1, h1, h2⟩ := hs a (List.mem_cons_self ..) τ h0
    cases hp : p a with
    | true =>
      obtain ⟨τ2, e2, h3⟩ := h1 hp
      rcases for_all hq g p I xs τ2 h3 fun b hb => hs b (List.mem_cons_of_mem _ hb) with ⟨ha, τ', e3, h4⟩ | ⟨ha, e3⟩
      · exact .inl ⟨by rw [List.all_cons, hp, ha]; rfl, τ', by rw [List.map_cons, forL_nx hq e1 e2, e3], h4⟩
      · exact .inr ⟨by rw [List.all_cons, hp, ha]; rfl, by rw [List.map_cons, forL_nx hq e1 e2, e3]⟩
    | false => exact .inr ⟨by rw [List.all_cons, hp]; rfl, by rw [List.map_cons, forL_rt hq e1 (h2 hp)]⟩
theorem ch_le {fa fb fc : EM D} {τ : Sl} {st : Store} {a b c : Int} (ha : fa τ st = .ok (.int a) st) (hb : fb τ st = .ok (.int b) st) (hc : fc τ st = .ok (.int c) st) : eChain oLe oLe fa fb fc τ st = .ok (.bl (decide (a ≤ b) && decide (b ≤ c))) st := by
  by_cases h : a ≤ b <;> simp [ha, hb, hc, oLe, h]
theorem ch_lt {fa fb fc : EM D} {τ : Sl} {st : Store} {a b c : Int} (ha : fa τ st = .ok (.int a) st) (hb : fb τ st = .ok (.int b) st) (hc : fc τ st = .ok (.int c) st) : eChain oLe oLt fa fb fc τ st = .ok (.bl (decide (a ≤ b) && decide (b < c))) st := by
  by_cases h : a ≤ b <;> simp [ha, hb, hc, oLe, oLt, h]
theorem gAllB_map {α : Type} {f : α → Bool} {xs : List α} {st : Store} : gAllB (xs.map fun a => D.bl (f a)) st = .ok (.bl (xs.all f)) st := by
  have := gAllB_bls (bs := xs.map f) (st := st)
  rw [List.map_map, List.all_map] at this
  exact this

theorem r_is_int {st : Store} {i : Int} : f__law_is_int [.int i] st = .ok (.bl true) st := by
  simp [f__law_is_int, runB_e, m__law_is_int]

/-! draws, by what holds behind them -/
section
variable {ns : List Int} {st : Store}
theorem w_draw {many : Nat} {Q : D → Store → Prop} (H : DS ns st) (h0 : 0 < many) (h1 : many < 2 ^ 60) (hQ : ∀ (v : Nat) s, v < many → DS ns s → Fr st s → Q (.int (v : Nat)) s) : W (f__law_draw [.ref 1, .int (many : Nat)] st) Q := by
  obtain ⟨v, s, e, hv, D1, F1⟩ := r_drawN H h0 h1
  exact .of e (hQ v s hv D1 F1)
end

section
variable {ns : List Int} {st : Store}
theorem w_pick {m : Nat} {xs : List D} {Q : D → Store → Prop} (H : DS ns st) (hx : lstAt st m = some xs) (hm : m ≠ 1) (h0 : 0 < xs.length) (h1 : xs.length < 2 ^ 60) (hQ : ∀ v s, v ∈ xs → DS ns s → Fr st s → Q v s) : W (f__law_pick [.ref 1, .ref m] st) Q := by
  obtain ⟨v, s, e, hv, D1, F1⟩ := r_pick H hx hm h0 h1
  exact .of e (hQ v s hv D1 F1)
end

/-! values -/
inductive Op where | add | sub | mul | lt | le | eq | mn | mx
def Op.w : Op → List Nat
  | .add => [43]
  | .sub => [45]
  | .mul => [42]
  | .lt => [60]
  | .le => [60, 61]
  | .eq => [61, 61]
  | .mn => [109, 105, 110]
  | .mx => [109, 97, 120]
def Op.f : Op → Int → Int → Int
  | .add, a, b => a + b
  | .sub, a, b => a - b
  | .mul, a, b => a * b
  | .lt, a, b => if a < b then 1 else 0
  | .le, a, b => if a ≤ b then 1 else 0
  | .eq, a, b => if a = b then 1 else 0
  | .mn, a, b => if b < a then b else a
  | .mx, a, b => if a < b then b else a
inductive Vl where | num (n : Int) | nam (x : List Nat) | op (o : Op) (a b : Vl) | whn (a b c : Vl)
def Vl.d : Vl → D
  | .num n => .tup [.str [110, 117, 109, 98, 101, 114], .int n]
  | .nam x => .tup [.str [110, 97, 109, 101], .str x]
  | .op o a b => .tup [.str o.w, a.d, b.d]
  | .whn a b c => .tup [.str [119, 104, 101, 110], a.d, b.d, c.d]
def ev (e : List Nat → Int) : Vl → Int
  | .num n => n
  | .nam x => e x
  | .op o a b => o.f (ev e a) (ev e b)
  | .whn a b c => if 0 < ev e a then ev e b else ev e c
/-- its leaves -/
def Vl.sz : Vl → Nat
  | .num _ => 1
  | .nam _ => 1
  | .op _ a b => a.sz + b.sz
  | .whn a b c => a.sz + b.sz + c.sz
def Vl.dp : Vl → Nat
  | .num _ => 0
  | .nam _ => 0
  | .op _ a b => max a.dp b.dp + 1
  | .whn a b c => max a.dp (max b.dp c.dp) + 1
/-- its numbers small, its names of a kind -/
def Vl.fit (B : Nat) (P : List Nat → Prop) : Vl → Prop
  | .num n => n.natAbs < 2 ^ B
  | .nam x => P x
  | .op _ a b => a.fit B P ∧ b.fit B P
  | .whn a b c => a.fit B P ∧ b.fit B P ∧ c.fit B P
theorem Vl.sz_pos : ∀ v : Vl, 0 < v.sz
  | .num _ => Nat.one_pos
  | .nam _ => Nat.one_pos
  | .op _ a b => by have := a.sz_pos; simp only [Vl.sz]; omega
  | .whn a b c => by have := a.sz_pos; simp only [Vl.sz]; omega
theorem Vl.fit.mono {B : Nat} {P Q : List Nat → Prop} (h : ∀ x, P x → Q x) : ∀ {v : Vl}, v.fit B P → v.fit B Q
  | .num _, f => f
  | .nam x, f => h x f
  | .op _ _ _, f => ⟨f.1.mono h, f.2.mono h⟩
  | .whn _ _ _, f => ⟨f.1.mono h, f.2.1.mono h, f.2.2.mono h⟩
theorem pow_sum {x y : Nat} (h1 : 0 < x) (h2 : 0 < y) : 2 ^ x + 2 ^ y ≤ 2 ^ (x + y) := by
  have a : 2 ≤ 2 ^ x := by
    have := Nat.pow_le_pow_right (n := 2) (by decide) h1
    simpa using this
  have b : 2 ≤ 2 ^ y := by
    have := Nat.pow_le_pow_right (n := 2) (by decide) h2
    simpa using this
  rw [Nat.pow_add]
  obtain ⟨p, hp⟩ : ∃ p, p = 2 ^ x := ⟨_, rfl⟩
  obtain ⟨q, hq⟩ : ∃ q, q = 2 ^ y := ⟨_, rfl⟩
  rw [← hp] at a ⊢
  rw [← hq] at b ⊢
  obtain ⟨u, rfl⟩ : ∃ u, p = u + 2 := ⟨p - 2, by omega⟩
  obtain ⟨v, rfl⟩ : ∃ v, q = v + 2 := ⟨q - 2, by omega⟩
  have e : (u + 2) * (v + 2) = u * v + 2 * u + 2 * v + 4 := by
    rw [Nat.add_mul, Nat.mul_add, Nat.mul_add]
    omega
  rw [e]
  have := Nat.zero_le (u * v)
  omega
theorem Op.f_lt {o : Op} {a b : Int} {x y : Nat} (h1 : 0 < x) (h2 : 0 < y) (ha : a.natAbs < 2 ^ x) (hb : b.natAbs < 2 ^ y) : (o.f a b).natAbs < 2 ^ (x + y) := by
  have s := pow_sum h1 h2
  have p1 : 0 < 2 ^ x := Nat.pow_pos (by decide)
  have p2 : 0 < 2 ^ y := Nat.pow_pos (by decide)
  obtain ⟨p, hp⟩ : ∃ p, p = 2 ^ x := ⟨_, rfl⟩
  obtain ⟨q, hq⟩ : ∃ q, q = 2 ^ y := ⟨_, rfl⟩
  obtain ⟨r, hr⟩ : ∃ r, r = 2 ^ (x + y) := ⟨_, rfl⟩
  have hm : p * q = r := by rw [hp, hq, hr, Nat.pow_add]
  rw [← hp] at ha p1 s
  rw [← hq] at hb p2 s
  rw [← hr] at s ⊢
  cases o <;> simp only [Op.f]
  · omega
  · omega
  · rw [Int.natAbs_mul, ← hm]
    exact Nat.mul_lt_mul'' ha hb
  all_goals split <;> omega
theorem ev_lt {e : List Nat → Int} {B : Nat} (hB : 0 < B) : ∀ {v : Vl}, v.fit B (fun x => (e x).natAbs < 2 ^ B) → (ev e v).natAbs < 2 ^ (B * v.sz)
  | .num _, f => by rw [Vl.sz, Nat.mul_one]; exact f
  | .nam _, f => by rw [Vl.sz, Nat.mul_one]; exact f
  | .op o a b, f => by
    rw [Vl.sz, Nat.mul_add]
    exact Op.f_lt (Nat.mul_pos hB a.sz_pos) (Nat.mul_pos hB b.sz_pos) (ev_lt hB f.1) (ev_lt hB f.2)
  | .whn a b c, f => by
    have h1 := ev_lt hB f.2.1
    have h2 := ev_lt hB f.2.2
    have m : ∀ {k : Nat}, k ≤ a.sz + b.sz + c.sz → 2 ^ (B * k) ≤ 2 ^ (B * (a.sz + b.sz + c.sz)) := fun h => Nat.pow_le_pow_right (by decide) (Nat.mul_le_mul_left _ h)
    simp only [Vl.sz, ev]
    split
    · exact Nat.lt_of_lt_of_le h1 (m (by omega))
    · exact Nat.lt_of_lt_of_le h2 (m (by omega))
theorem okMul_pow {a b : Int} {x y : Nat} (ha : a.natAbs < 2 ^ x) (hb : b.natAbs < 2 ^ y) (h : x + y < 1000000) : okMul a b = true := by
  have l : ∀ {n k : Nat}, n < 2 ^ k → n.log2 ≤ k := fun {n k} h => by
    by_cases z : n = 0
    · subst z
      simp
    · exact Nat.le_of_lt ((Nat.log2_lt z).mpr h)
  unfold okMul
  rw [decide_eq_true_eq]
  right
  have := l ha
  have := l hb
  omega
section
variable {st : Store}
theorem r_combined {o : Op} {a b : Int} (h : okMul a b = true) : f_combined [.str o.w, .int a, .int b] st = .ok (.int (o.f a b)) st := by
  cases o <;> simp [f_combined, runB_e, m_combined, Op.w, Op.f, h]
end

/-! value_in -/
/-- a dict that has the names' numbers -/
structure Has (e : List Nat → Int) (P : List Nat → Prop) (kvs : List (D × D)) : Prop where
  flat : (kvs.all fun q => q.1.flatK) = true
  get : ∀ x, P x → dGet kvs (.str x) = some (.int (e x))
theorem cut_tail {α : Type} {y : α} {ys : List α} : HM.cutD (y :: ys) (some 1) none = ys := by
  unfold HM.cutD
  rw [show (some (1 : Int)) = some ((1 : Nat) : Int) from rfl, sIx_n, sIx_0]
  simp
section
variable {e : List Nat → Int} {n : Nat} {kvs : List (D × D)} {st : Store} {P : List Nat → Prop}
def vis (e : List Nat → Int) (cs : List Vl) : List D := cs.map fun c => .int (ev e c)
theorem w_parts {F : FM} {w : List Nat} {cs : List Vl} {Q : List D → Store → Prop} (hk : dctAt st n = some kvs) (hl : cs.length ≤ 3) (hF : ∀ c ∈ cs, ∀ s, dctAt s n = some kvs → W (F [c.d, .ref n] s) fun d s' => d = .int (ev e c) ∧ Gr s s')
    (hQ : ∀ s, Gr st s → Q (vis e cs) s) : W (lComp [4] (iEx (eSl (eVar 0) (oSome (eC (.int 1))) oNone)) (gN 4) tYes (eCall 2 F (aCons (eVar 4) (aCons (eVar 1) aNil))) [some (.tup (.str w :: cs.map Vl.d)), some (.ref n), some (.str w), none, none] st) Q := by
  have cut : dCut (.tup (.str w :: cs.map Vl.d)) (some 1) none st = .ok (.tup (cs.map Vl.d)) st := by
    show ER.ok (D.tup (HM.cutD _ _ _)) st = _
    rw [cut_tail]
  have hq : ofQ st (dSq st (.tup (cs.map Vl.d))) = .ok (.fix (cs.map Vl.d)) st := rfl
  rw [lComp_e]
  simp only [iEx_e, eSl_e, oSome_e, oNone_e]
  simp [cut, hq, -List.map_cons]
  refine w_lc (by show (cs.map Vl.d).length ≤ _; rw [List.length_map]; omega) ?_
  obtain ⟨I, hI⟩ : ∃ I : Nat → List D → Store → Prop, I = fun i acc s => acc = vis e (cs.take i) ∧ Gr st s := ⟨_, rfl⟩
  refine w_mapc Vl.d cs rfl I (fun _ _ _ _ => rfl) (by rw [hI]; exact ⟨rfl, Gr.refl⟩) (fun i c acc s hc hp => ⟨_, rfl, ?_⟩) fun acc s hp => ?_
  · rw [hI] at hp
    obtain ⟨rfl, G⟩ := hp
    simp [wipeD]
    refine (hF c (List.mem_of_getElem? hc) s (G.dct hk)).mono fun d s' h => ?_
    obtain ⟨rfl, G'⟩ := h
    rw [hI]
    refine ⟨?_, G.trans G'⟩
    unfold vis
    rw [List.take_add_one, hc]
    simp
  · rw [hI] at hp
    obtain ⟨rfl, G⟩ := hp
    rw [List.take_length]
    exact hQ s G
theorem fit_tail {B : Nat} (hB : 0 < B) (hb : ∀ x, P x → (e x).natAbs < 2 ^ B) {v : Vl} (f : v.fit B P) : (ev e v).natAbs < 2 ^ (B * v.sz) := ev_lt hB (f.mono hb)
theorem w_value_in {B : Nat} (hB : 0 < B) (hk : Has e P kvs) (hb : ∀ x, P x → (e x).natAbs < 2 ^ B) : ∀ (v : Vl) (m : Nat) (st : Store), v.dp ≤ m → v.fit B P → B * v.sz < 400000 → dctAt st n = some kvs →
    W (fr_value_in f_combined (m + 1) [v.d, .ref n] st) fun d s => d = .int (ev e v) ∧ Gr st s
  | .num i, m, st, hd, hf, hz, h => by
    unfold fr_value_in
    rw [runB_e]
    unfold m_value_in
    rw [W_fin]
    simp [Vl.d, ev, Gr.refl]
  | .nam x, m, st, hd, hf, hz, h => by
    unfold fr_value_in
    rw [runB_e]
    unfold m_value_in
    rw [W_fin]
    have g := oIx_dct h (keyFit_flat hk.flat (k := .str x) rfl) (hk.get x hf)
    simp [Vl.d, ev, Gr.refl, g]
  | .op o a b, m, st, hd, hf, hz, h => by
    cases m with
    | zero => simp [Vl.dp] at hd
    | succ m =>
      simp only [Vl.dp] at hd
      simp only [Vl.sz] at hz
      rw [Nat.mul_add] at hz
      have ha := w_value_in hB hk hb a m
      have hb' := w_value_in hB hk hb b m
      have la := fit_tail hB hb hf.1
      have lb := fit_tail hB hb hf.2
      have mu := okMul_pow la lb (by omega)
      obtain ⟨F, eF⟩ : ∃ F, F = fr_value_in f_combined (m + 1) := ⟨_, rfl⟩
      rw [← eF] at ha hb'
      unfold fr_value_in
      rw [← eF, runB_e]
      unfold m_value_in
      rw [W_fin]
      have n1 : o.w ≠ [110, 117, 109, 98, 101, 114] := by cases o <;> decide
      have n2 : o.w ≠ [110, 97, 109, 101] := by cases o <;> decide
      have n3 : o.w ≠ [119, 104, 101, 110] := by cases o <;> decide
      refine ws_cons (N' := fun τ s => τ = [some (Vl.op o a b).d, some (.ref n), some (.str o.w), none, none] ∧ s = st) ?_ fun τ s hp => ?_
      · simp only [sSeq_e, sIf_e, sSet_e, sExpr_e, sRet_e, sRetN_e, sNil_e, sFor_e, sBrk_e, sCnt_e, sSub_e, sAsg_e, W_fin, WS_seq, WS_bindE, WS_nx, WS_rt, WS_bk, WS_ct]
        simp [Vl.d]
      obtain ⟨rfl, rfl⟩ := hp
      refine ws_skip (by simp [n1]) ?_
      refine ws_skip (by simp [n2]) ?_
      refine ws_cons (N' := fun τ s' => ∃ s0, Gr s s0 ∧ τ = [some (Vl.op o a b).d, some (.ref n), some (.str o.w), some (.ref s0.length), none] ∧ s' = s0 ++ [.lst (vis e [a, b])]) ?_ fun τ s hp => ?_
      · simp only [sSeq_e, sIf_e, sSet_e, sExpr_e, sRet_e, sRetN_e, sNil_e, sFor_e, sBrk_e, sCnt_e, sSub_e, sAsg_e, W_fin, WS_seq, WS_bindE, WS_nx, WS_rt, WS_bk, WS_ct]
        simp only [eEl_e, W_bind]
        refine w_parts (e := e) (cs := [a, b]) h (by simp) (fun c hc s hs => ?_) fun s G => ?_
        · simp only [List.mem_cons, List.not_mem_nil, or_false] at hc
          rcases hc with rfl | rfl
          · exact ha s (by omega) hf.1 (by omega) hs
          · exact hb' s (by omega) hf.2 (by omega) hs
        · rw [W_ok]
          exact ⟨s, G, rfl, rfl⟩
      obtain ⟨s0, G, rfl, rfl⟩ := hp
      have l0 : lstAt (s0 ++ [.lst (vis e [a, b])]) s0.length = some [.int (ev e a), .int (ev e b)] := lstAt_app
      refine ws_take (by simp [n3]) ?_
      simp only [sSeq_e, sIf_e, sSet_e, sExpr_e, sRet_e, sRetN_e, sNil_e, sFor_e, sBrk_e, sCnt_e, sSub_e, sAsg_e, W_fin, WS_seq, WS_bindE, WS_nx, WS_rt, WS_bk, WS_ct]
      have a0 : atI [D.int (ev e a), D.int (ev e b)] 0 = some (.int (ev e a)) := rfl
      have a1 : atI [D.int (ev e a), D.int (ev e b)] 1 = some (.int (ev e b)) := rfl
      simp [oIx_ref l0, a0, a1, r_combined mu, ev]
      exact G.trans Gr.app
  | .whn a b c, m, st, hd, hf, hz, h => by
    cases m with
    | zero => simp [Vl.dp] at hd
    | succ m =>
      simp only [Vl.dp] at hd
      simp only [Vl.sz] at hz
      rw [Nat.mul_add, Nat.mul_add] at hz
      have ha := w_value_in hB hk hb a m
      have hb' := w_value_in hB hk hb b m
      have hc' := w_value_in hB hk hb c m
      obtain ⟨F, eF⟩ : ∃ F, F = fr_value_in f_combined (m + 1) := ⟨_, rfl⟩
      rw [← eF] at ha hb' hc'
      unfold fr_value_in
      rw [← eF, runB_e]
      unfold m_value_in
      rw [W_fin]
      refine ws_cons (N' := fun τ s => τ = [some (Vl.whn a b c).d, some (.ref n), some (.str [119, 104, 101, 110]), none, none] ∧ s = st) ?_ fun τ s hp => ?_
      · simp only [sSeq_e, sIf_e, sSet_e, sExpr_e, sRet_e, sRetN_e, sNil_e, sFor_e, sBrk_e, sCnt_e, sSub_e, sAsg_e, W_fin, WS_seq, WS_bindE, WS_nx, WS_rt, WS_bk, WS_ct]
        simp [Vl.d]
      obtain ⟨rfl, rfl⟩ := hp
      refine ws_skip (by simp) ?_
      refine ws_skip (by simp) ?_
      refine ws_cons (N' := fun τ s' => ∃ s0, Gr s s0 ∧ τ = [some (Vl.whn a b c).d, some (.ref n), some (.str [119, 104, 101, 110]), some (.ref s0.length), none] ∧ s' = s0 ++ [.lst (vis e [a, b, c])]) ?_ fun τ s hp => ?_
      · simp only [sSeq_e, sIf_e, sSet_e, sExpr_e, sRet_e, sRetN_e, sNil_e, sFor_e, sBrk_e, sCnt_e, sSub_e, sAsg_e, W_fin, WS_seq, WS_bindE, WS_nx, WS_rt, WS_bk, WS_ct]
        simp only [eEl_e, W_bind]
        refine w_parts (e := e) (cs := [a, b, c]) h (by simp) (fun x hx s hs => ?_) fun s G => ?_
        · simp only [List.mem_cons, List.not_mem_nil, or_false] at hx
          rcases hx with rfl | rfl | rfl
          · exact ha s (by omega) hf.1 (by omega) hs
          · exact hb' s (by omega) hf.2.1 (by omega) hs
          · exact hc' s (by omega) hf.2.2 (by omega) hs
        · rw [W_ok]
          exact ⟨s, G, rfl, rfl⟩
      obtain ⟨s0, G, rfl, rfl⟩ := hp
      have l0 : lstAt (s0 ++ [.lst (vis e [a, b, c])]) s0.length = some [.int (ev e a), .int (ev e b), .int (ev e c)] := lstAt_app
      have a0 : atI [D.int (ev e a), D.int (ev e b), D.int (ev e c)] 0 = some (.int (ev e a)) := rfl
      have a1 : atI [D.int (ev e a), D.int (ev e b), D.int (ev e c)] 1 = some (.int (ev e b)) := rfl
      have a2 : atI [D.int (ev e a), D.int (ev e b), D.int (ev e c)] 2 = some (.int (ev e c)) := rfl
      refine ws_skip (by simp) ?_
      by_cases hh : 0 < ev e a
      · refine ws_take (by simp [oIx_ref l0, a0, hh]) ?_
        simp only [sSeq_e, sIf_e, sSet_e, sExpr_e, sRet_e, sRetN_e, sNil_e, sFor_e, sBrk_e, sCnt_e, sSub_e, sAsg_e, W_fin, WS_seq, WS_bindE, WS_nx, WS_rt, WS_bk, WS_ct]
        simp [oIx_ref l0, a1, ev, hh]
        exact G.trans Gr.app
      · refine ws_skip (by simp [oIx_ref l0, a0, hh]) ?_
        simp only [sSeq_e, sIf_e, sSet_e, sExpr_e, sRet_e, sRetN_e, sNil_e, sFor_e, sBrk_e, sCnt_e, sSub_e, sAsg_e, W_fin, WS_seq, WS_bindE, WS_nx, WS_rt, WS_bk, WS_ct]
        simp [oIx_ref l0, a2, ev, hh]
        exact G.trans Gr.app
end

/-! the law's own values -/
def enD (p : List Nat × Int) : D := .tup [.str p.1, .int p.2]
def lk (ps : List (List Nat × Int)) (x : List Nat) : Int := ((ps.find? fun p => decide (p.1 = x)).map (·.2)).getD 0
theorem pairs_en : ∀ ps : List (List Nat × Int), pairsD (ps.map enD) = some (ps.map fun p => (D.str p.1, D.int p.2))
  | [] => rfl
  | p :: ps => by
    show pairsD (enD p :: ps.map enD) = _
    unfold pairsD
    rw [pairs_en ps]
    rfl
theorem get_merge {x : List Nat} : ∀ {ps : List (List Nat × Int)} {acc : List (D × D)}, (ps.map (·.1)).Nodup → dGet (mergeD acc (ps.map fun p => (D.str p.1, D.int p.2))) (.str x) = match ps.find? fun p => decide (p.1 = x) with
    | some p => some (.int p.2)
    | none => dGet acc (.str x)
  | [], _, _ => rfl
  | p :: ps, acc, h => by
    rw [List.map_cons, List.nodup_cons] at h
    show dGet (mergeD (dPut acc (.str p.1) (.int p.2)) (ps.map fun p => (D.str p.1, D.int p.2))) (.str x) = _
    rw [get_merge h.2, dGet_put]
    by_cases e : p.1 = x
    · have n : ps.find? (fun p => decide (p.1 = x)) = none := by
        rw [List.find?_eq_none]
        intro q hq z
        rw [decide_eq_true_eq] at z
        refine h.1 ?_
        rw [e, ← z]
        exact List.mem_map_of_mem hq
      rw [n, List.find?_cons_of_pos (by simpa using e)]
      simp [e]
    · rw [List.find?_cons_of_neg (by simpa using e)]
      have : ¬ (D.str x = D.str p.1) := fun z => e (by injection z with z; exact z.symm)
      rw [if_neg this]
theorem keys_merge : ∀ {ps : List (D × D)} {acc : List (D × D)}, (acc.all fun q => q.1.flatK) = true → (ps.all fun q => q.1.flatK) = true → ((mergeD acc ps).all fun q => q.1.flatK) = true
  | [], _, h, _ => h
  | p :: ps, acc, h, h2 => by
    rw [List.all_cons, Bool.and_eq_true] at h2
    exact keys_merge (ps := ps) (dPut_keys (p := D.flatK) h h2.1) h2.2
theorem has_merge {ps : List (List Nat × Int)} (h : (ps.map (·.1)).Nodup) : Has (lk ps) (fun x => x ∈ ps.map (·.1)) (mergeD [] (ps.map fun p => (D.str p.1, D.int p.2))) := by
  refine ⟨keys_merge rfl ?_, fun x hx => ?_⟩
  · rw [List.all_eq_true]
    intro q hq
    obtain ⟨p, _, rfl⟩ := List.mem_map.mp hq
    rfl
  · rw [get_merge h]
    obtain ⟨p, hp, e⟩ := List.mem_map.mp hx
    unfold lk
    cases z : ps.find? fun p => decide (p.1 = x) with
    | some q => rfl
    | none =>
      rw [List.find?_eq_none] at z
      exact absurd (by simpa using e) (z p hp)
section
variable {n : Nat} {st : Store} {ps : List (List Nat × Int)}
theorem lk_filter {x : List Nat} (h : x ∈ ps.map (·.1)) : ∃ r, (ps.filter fun p => decide (p.1 = x)).map (fun p => D.int p.2) = .int (lk ps x) :: r := by
  unfold lk
  induction ps with
  | nil => cases h
  | cons p ps ih =>
    by_cases e : p.1 = x
    · rw [List.filter_cons_of_pos (by simpa using e), List.find?_cons_of_pos (by simpa using e)]
      exact ⟨_, rfl⟩
    · rw [List.filter_cons_of_neg (by simpa using e), List.find?_cons_of_neg (by simpa using e)]
      rw [List.map_cons] at h
      rcases List.mem_cons.mp h with z | z
      · exact absurd z.symm e
      · exact ih z
theorem in_two {x a b : List Nat} {s : Store} : dIn (.str x) (.tup [.str a, .str b]) s = some (decide (a = x) || decide (b = x)) := by
  rw [dIn_flat (ys := [.str a, .str b]) rfl rfl (by rfl)]
  simp [eqF]
theorem w_law_value_of {B : Nat} (hB : 0 < B) (hl : ps.length ≤ 1000) (hb : ∀ x, x ∈ ps.map (·.1) → (lk ps x).natAbs < 2 ^ B) : ∀ (v : Vl) (m : Nat) (st : Store), v.dp ≤ m → v.fit B (fun x => x ∈ ps.map (·.1)) → B * v.sz < 400000 → lstAt st n = some (ps.map enD) →
    W (fr__law_value_of (m + 1) [v.d, .ref n] st) fun d s => d = .int (ev (lk ps) v) ∧ Gr st s
  | .num i, m, st, hd, hf, hz, h => by
    unfold fr__law_value_of
    rw [runB_e]
    unfold m__law_value_of
    rw [W_fin]
    simp [Vl.d, ev, Gr.refl]
  | .nam x, m, st, hd, hf, hz, h => by
    unfold fr__law_value_of
    rw [runB_e]
    unfold m__law_value_of
    rw [W_fin]
    refine ws_skip (by simp [Vl.d]) ?_
    refine ws_take (by simp [Vl.d]) ?_
    simp only [sSeq_e, sIf_e, sSet_e, sExpr_e, sRet_e, sRetN_e, sNil_e, sFor_e, sBrk_e, sCnt_e, sSub_e, sAsg_e, W_fin, WS_seq, WS_bindE, WS_nx, WS_rt, WS_bk, WS_ct]
    have hc : (Sq.cell n (ps.map enD)).chk st = true := by simp [Sq.chk, h]
    simp [lComp_e, dSq_ref h, Vl.d]
    refine w_lc (by simp; omega) ?_
    refine w_fil enD (fun p => D.int p.2) (fun p => decide (p.1 = x)) ps rfl hc (fun p hp => ⟨_, rfl, by simp [wipeD, enD]⟩) ?_
    obtain ⟨r, er⟩ := lk_filter hf
    rw [er]
    have l0 : lstAt (st ++ [.lst (.int (lk ps x) :: r)]) st.length = some (.int (lk ps x) :: r) := lstAt_app
    have a0 : atI (D.int (lk ps x) :: r) 0 = some (.int (lk ps x)) := atI_nat (j := 0) rfl
    simp [oIx_ref l0, a0, ev]
    exact Gr.app
  | .op o a b, m, st, hd, hf, hz, h => by
    cases m with
    | zero => simp [Vl.dp] at hd
    | succ m =>
      simp only [Vl.dp] at hd
      simp only [Vl.sz] at hz
      rw [Nat.mul_add] at hz
      have ha := w_law_value_of hB hl hb a m
      have hb' := w_law_value_of hB hl hb b m
      have la := fit_tail hB hb hf.1
      have lb := fit_tail hB hb hf.2
      have mu := okMul_pow la lb (by omega)
      obtain ⟨F, eF⟩ : ∃ F, F = fr__law_value_of (m + 1) := ⟨_, rfl⟩
      rw [← eF] at ha hb'
      unfold fr__law_value_of
      rw [← eF, runB_e]
      unfold m__law_value_of
      rw [W_fin]
      have n1 : o.w ≠ [110, 117, 109, 98, 101, 114] := by cases o <;> decide
      have n2 : o.w ≠ [110, 97, 109, 101] := by cases o <;> decide
      have n3 : o.w ≠ [119, 104, 101, 110] := by cases o <;> decide
      refine ws_skip (by simp [Vl.d, n1]) ?_
      refine ws_skip (by simp [Vl.d, n2]) ?_
      refine ws_cons (N' := fun τ s' => τ = [some (Vl.op o a b).d, some (.ref n), some (.int (ev (lk ps) a)), none, none] ∧ Gr st s') ?_ fun τ s1 hp => ?_
      · simp only [sSeq_e, sIf_e, sSet_e, sExpr_e, sRet_e, sRetN_e, sNil_e, sFor_e, sBrk_e, sCnt_e, sSub_e, sAsg_e, W_fin, WS_seq, WS_bindE, WS_nx, WS_rt, WS_bk, WS_ct]
        simp [Vl.d]
        refine (ha st (by omega) hf.1 (by omega) h).mono fun d s hp => ?_
        obtain ⟨rfl, G⟩ := hp
        exact ⟨rfl, G⟩
      obtain ⟨rfl, G1⟩ := hp
      refine ws_cons (N' := fun τ s' => τ = [some (Vl.op o a b).d, some (.ref n), some (.int (ev (lk ps) a)), some (.int (ev (lk ps) b)), none] ∧ Gr st s') ?_ fun τ s2 hp => ?_
      · simp only [sSeq_e, sIf_e, sSet_e, sExpr_e, sRet_e, sRetN_e, sNil_e, sFor_e, sBrk_e, sCnt_e, sSub_e, sAsg_e, W_fin, WS_seq, WS_bindE, WS_nx, WS_rt, WS_bk, WS_ct]
        simp [Vl.d]
        refine (hb' s1 (by omega) hf.2 (by omega) (G1.lst h)).mono fun d s hp => ?_
        obtain ⟨rfl, G⟩ := hp
        exact ⟨rfl, G1.trans G⟩
      obtain ⟨rfl, G2⟩ := hp
      refine ws_skip (by simp [Vl.d, n3]) ?_
      cases o <;> simp only [sSeq_e, sIf_e, sSet_e, sExpr_e, sRet_e, sRetN_e, sNil_e, sFor_e, sBrk_e, sCnt_e, sSub_e, sAsg_e, W_fin, WS_seq, WS_bindE, WS_nx, WS_rt, WS_bk, WS_ct] <;> simp [Vl.d, Op.w, ev, Op.f, G2, W_ite, mu, in_two]
  | .whn a b c, m, st, hd, hf, hz, h => by
    cases m with
    | zero => simp [Vl.dp] at hd
    | succ m =>
      simp only [Vl.dp] at hd
      simp only [Vl.sz] at hz
      rw [Nat.mul_add, Nat.mul_add] at hz
      have ha := w_law_value_of hB hl hb a m
      have hb' := w_law_value_of hB hl hb b m
      have hc' := w_law_value_of hB hl hb c m
      obtain ⟨F, eF⟩ : ∃ F, F = fr__law_value_of (m + 1) := ⟨_, rfl⟩
      rw [← eF] at ha hb' hc'
      unfold fr__law_value_of
      rw [← eF, runB_e]
      unfold m__law_value_of
      rw [W_fin]
      refine ws_skip (by simp [Vl.d]) ?_
      refine ws_skip (by simp [Vl.d]) ?_
      refine ws_cons (N' := fun τ s' => τ = [some (Vl.whn a b c).d, some (.ref n), some (.int (ev (lk ps) a)), none, none] ∧ Gr st s') ?_ fun τ s1 hp => ?_
      · simp only [sSeq_e, sIf_e, sSet_e, sExpr_e, sRet_e, sRetN_e, sNil_e, sFor_e, sBrk_e, sCnt_e, sSub_e, sAsg_e, W_fin, WS_seq, WS_bindE, WS_nx, WS_rt, WS_bk, WS_ct]
        simp [Vl.d]
        refine (ha st (by omega) hf.1 (by omega) h).mono fun d s hp => ?_
        obtain ⟨rfl, G⟩ := hp
        exact ⟨rfl, G⟩
      obtain ⟨rfl, G1⟩ := hp
      refine ws_cons (N' := fun τ s' => τ = [some (Vl.whn a b c).d, some (.ref n), some (.int (ev (lk ps) a)), some (.int (ev (lk ps) b)), none] ∧ Gr st s') ?_ fun τ s2 hp => ?_
      · simp only [sSeq_e, sIf_e, sSet_e, sExpr_e, sRet_e, sRetN_e, sNil_e, sFor_e, sBrk_e, sCnt_e, sSub_e, sAsg_e, W_fin, WS_seq, WS_bindE, WS_nx, WS_rt, WS_bk, WS_ct]
        simp [Vl.d]
        refine (hb' s1 (by omega) hf.2.1 (by omega) (G1.lst h)).mono fun d s hp => ?_
        obtain ⟨rfl, G⟩ := hp
        exact ⟨rfl, G1.trans G⟩
      obtain ⟨rfl, G2⟩ := hp
      refine ws_take (by simp [Vl.d]) ?_
      by_cases hh : 0 < ev (lk ps) a
      · simp only [sSeq_e, sIf_e, sSet_e, sExpr_e, sRet_e, sRetN_e, sNil_e, sFor_e, sBrk_e, sCnt_e, sSub_e, sAsg_e, W_fin, WS_seq, WS_bindE, WS_nx, WS_rt, WS_bk, WS_ct]
        simp [Vl.d, hh, ev, G2]
      · simp only [sSeq_e, sIf_e, sSet_e, sExpr_e, sRet_e, sRetN_e, sNil_e, sFor_e, sBrk_e, sCnt_e, sSub_e, sAsg_e, W_fin, WS_seq, WS_bindE, WS_nx, WS_rt, WS_bk, WS_ct]
        simp [Vl.d, hh, ev]
        refine (hc' s2 (by omega) hf.2.2 (by omega) (G2.lst h)).mono fun d s hp => ?_
        obtain ⟨rfl, G⟩ := hp
        exact ⟨rfl, G2.trans G⟩
end

/-! told -/
/-- an environment: names apart, numbers small -/
structure Env (B : Nat) (ps : List (List Nat × Int)) : Prop where
  nd : (ps.map (·.1)).Nodup
  len : ps.length ≤ 10
  small : ∀ x, x ∈ ps.map (·.1) → (lk ps x).natAbs < 2 ^ B
/-- a value that may be told there -/
structure Vl.ok (B : Nat) (ps : List (List Nat × Int)) (v : Vl) : Prop where
  dp : v.dp ≤ 39
  fit : v.fit B (fun x => x ∈ ps.map (·.1))
  sz : B * v.sz < 400000
section
variable {B n : Nat} {st : Store} {ps : List (List Nat × Int)} {v : Vl}
theorem w_value_of (hB : 0 < B) (E : Env B ps) (o : v.ok B ps) : W (f_value_of [v.d, .tup (ps.map enD)] st) fun d s => d = .int (ev (lk ps) v) ∧ Gr st s := by
  unfold f_value_of
  rw [runB_e]
  unfold m_value_of
  rw [W_fin]
  simp only [sSeq_e, sIf_e, sSet_e, sExpr_e, sRet_e, sRetN_e, sNil_e, sFor_e, sBrk_e, sCnt_e, sSub_e, sAsg_e, W_fin, WS_seq, WS_bindE, WS_nx, WS_rt, WS_bk, WS_ct]
  have g : gDict (ps.map enD) st = .ok (.ref st.length) (st ++ [.dct (mergeD [] (ps.map fun p => (D.str p.1, D.int p.2)))]) := by
    unfold gDict
    rw [pairs_en]
  simp [g]
  refine (w_value_in hB (has_merge E.nd) E.small v 39 _ o.dp o.fit o.sz dctAt_new).mono fun d s hp => ?_
  exact ⟨hp.1, Gr.app.trans hp.2⟩
theorem w_law_val (hB : 0 < B) (E : Env B ps) (o : v.ok B ps) (h : lstAt st n = some (ps.map enD)) : W (f__law_value_of [v.d, .ref n] st) fun d s => d = .int (ev (lk ps) v) ∧ Gr st s :=
  w_law_value_of hB (by have := E.len; omega) E.small v 39 st o.dp o.fit o.sz h
theorem w_tells (hB : 0 < B) (E : Env B ps) (o : v.ok B ps) (h : lstAt st n = some (ps.map enD)) : W (f__law_tells [v.d, .ref n] st) fun d s => d = .bl true ∧ Gr st s := by
  unfold f__law_tells
  rw [runB_e]
  unfold m__law_tells
  rw [W_fin]
  refine ws_cons (N' := fun τ s => τ = [some v.d, some (.ref n), some (.int (ev (lk ps) v))] ∧ Gr st s) ?_ fun τ s hp => ?_
  · simp only [sSeq_e, sIf_e, sSet_e, sExpr_e, sRet_e, sRetN_e, sNil_e, sFor_e, sBrk_e, sCnt_e, sSub_e, sAsg_e, W_fin, WS_seq, WS_bindE, WS_nx, WS_rt, WS_bk, WS_ct]
    simp [eCallK_e, fTuple_ref h]
    refine (w_value_of hB E o).mono fun d s hp => ?_
    obtain ⟨rfl, G⟩ := hp
    exact ⟨rfl, G⟩
  obtain ⟨rfl, G1⟩ := hp
  simp only [sSeq_e, sIf_e, sSet_e, sExpr_e, sRet_e, sRetN_e, sNil_e, sFor_e, sBrk_e, sCnt_e, sSub_e, sAsg_e, W_fin, WS_seq, WS_bindE, WS_nx, WS_rt, WS_bk, WS_ct]
  simp [r_is_int]
  refine (w_law_val hB E o (G1.lst h)).mono fun d s hp => ?_
  obtain ⟨rfl, G⟩ := hp
  simp
  exact G1.trans G
end

/-! the parts told -/
def Vl.kids : Vl → List Vl
  | .num _ => []
  | .nam _ => []
  | .op _ a b => [a, b]
  | .whn a b c => [a, b, c]
theorem Vl.ok.kid {B : Nat} {ps : List (List Nat × Int)} {v c : Vl} (o : v.ok B ps) (h : c ∈ v.kids) : c.ok B ps := by
  obtain ⟨h1, h2, h3⟩ := o
  have m : c.sz ≤ v.sz → B * c.sz < 400000 := fun z => Nat.lt_of_le_of_lt (Nat.mul_le_mul_left _ z) h3
  cases v with
  | num n => cases h
  | nam x => cases h
  | op o a b =>
    simp only [Vl.kids, List.mem_cons, List.not_mem_nil, or_false] at h
    simp only [Vl.dp] at h1
    rcases h with rfl | rfl
    · exact ⟨by omega, h2.1, m (by simp only [Vl.sz]; omega)⟩
    · exact ⟨by omega, h2.2, m (by simp only [Vl.sz]; omega)⟩
  | whn a b d =>
    simp only [Vl.kids, List.mem_cons, List.not_mem_nil, or_false] at h
    simp only [Vl.dp] at h1
    rcases h with rfl | rfl | rfl
    · exact ⟨by omega, h2.1, m (by simp only [Vl.sz]; omega)⟩
    · exact ⟨by omega, h2.2.1, m (by simp only [Vl.sz]; omega)⟩
    · exact ⟨by omega, h2.2.2, m (by simp only [Vl.sz]; omega)⟩
section
variable {B n : Nat} {st : Store} {ps : List (List Nat × Int)} {v : Vl}
theorem w_tparts {w : List Nat} {cs : List Vl} {Q : List D → Store → Prop} (hB : 0 < B) (E : Env B ps) (hl : cs.length ≤ 3) (ho : ∀ c ∈ cs, c.ok B ps) (h : lstAt st n = some (ps.map enD))
    (hQ : ∀ s, Gr st s → Q ((List.replicate cs.length true).map D.bl) s) : W (lComp [2] (iEx (eSl (eVar 0) (oSome (eC (.int 1))) oNone)) (gN 2) tYes (eCall 2 f__law_tells (aCons (eVar 2) (aCons (eVar 1) aNil))) [some (.tup (.str w :: cs.map Vl.d)), some (.ref n), none] st) Q := by
  have cut : dCut (.tup (.str w :: cs.map Vl.d)) (some 1) none st = .ok (.tup (cs.map Vl.d)) st := by
    show ER.ok (D.tup (cutD _ _ _)) st = _
    rw [cut_tail]
  have hq : ofQ st (dSq st (.tup (cs.map Vl.d))) = .ok (.fix (cs.map Vl.d)) st := rfl
  rw [lComp_e]
  simp only [iEx_e, eSl_e, oSome_e, oNone_e]
  simp [cut, hq, -List.map_cons]
  refine w_lc (by show (cs.map Vl.d).length ≤ _; rw [List.length_map]; omega) ?_
  obtain ⟨I, hI⟩ : ∃ I : Nat → List D → Store → Prop, I = fun i acc s => acc = (List.replicate i true).map D.bl ∧ Gr st s := ⟨_, rfl⟩
  refine w_mapc Vl.d cs rfl I (fun _ _ _ _ => rfl) (by rw [hI]; exact ⟨rfl, Gr.refl⟩) (fun i c acc s hc hp => ⟨_, rfl, ?_⟩) fun acc s hp => ?_
  · rw [hI] at hp
    obtain ⟨rfl, G⟩ := hp
    simp [wipeD, -List.map_replicate]
    refine (w_tells hB E (ho c (List.mem_of_getElem? hc)) (G.lst h)).mono fun d s' hp => ?_
    obtain ⟨rfl, G'⟩ := hp
    rw [hI]
    refine ⟨?_, G.trans G'⟩
    rw [List.replicate_succ', List.map_append]
    rfl
  · rw [hI] at hp
    obtain ⟨rfl, G⟩ := hp
    exact hQ s G
theorem w_tells_parts (hB : 0 < B) (E : Env B ps) (o : v.ok B ps) (h : lstAt st n = some (ps.map enD)) : W (f__law_tells_parts [v.d, .ref n] st) fun d s => d = .bl true ∧ Gr st s := by
  unfold f__law_tells_parts
  rw [runB_e]
  unfold m__law_tells_parts
  rw [W_fin]
  have two : ∀ (w : List Nat) (cs : List Vl), v.d = .tup (.str w :: cs.map Vl.d) → v.kids = cs → w ≠ [110, 97, 109, 101] → w ≠ [110, 117, 109, 98, 101, 114] → cs.length ≤ 3 → W (eAnd (eCS gAllB (lComp [2] (iEx (eSl (eVar 0) (oSome (eC (.int 1))) oNone)) (gN 2) tYes (eCall 2 f__law_tells (aCons (eVar 2) (aCons (eVar 1) aNil))))) (eCall 2 f__law_tells (aCons (eVar 0) (aCons (eVar 1) aNil))) [some v.d, some (.ref n), none] st) fun d s => d = .bl true ∧ Gr st s := fun w cs e1 e2 n1 n2 hl => by
    simp
    rw [e1]
    refine w_tparts hB E hl (fun c hc => o.kid (e2 ▸ hc)) h fun s G => ?_
    rw [gAllB_bls]
    have : ((List.replicate cs.length true).all id) = true := by simp
    rw [this]
    simp
    rw [← e1]
    refine (w_tells hB E o (G.lst h)).mono fun d s' hp => ?_
    exact ⟨hp.1, G.trans hp.2⟩
  cases v with
  | num i =>
    refine ws_take (by simp [Vl.d, in_two]) ?_
    simp only [sSeq_e, sIf_e, sSet_e, sExpr_e, sRet_e, sRetN_e, sNil_e, sFor_e, sBrk_e, sCnt_e, sSub_e, sAsg_e, W_fin, WS_seq, WS_bindE, WS_nx, WS_rt, WS_bk, WS_ct]
    simp
    exact w_tells hB E o h
  | nam x =>
    refine ws_take (by simp [Vl.d, in_two]) ?_
    simp only [sSeq_e, sIf_e, sSet_e, sExpr_e, sRet_e, sRetN_e, sNil_e, sFor_e, sBrk_e, sCnt_e, sSub_e, sAsg_e, W_fin, WS_seq, WS_bindE, WS_nx, WS_rt, WS_bk, WS_ct]
    simp
    exact w_tells hB E o h
  | op q a b =>
    have n1 : q.w ≠ [110, 117, 109, 98, 101, 114] := by cases q <;> decide
    have n2 : q.w ≠ [110, 97, 109, 101] := by cases q <;> decide
    refine ws_skip (by simp [Vl.d, in_two, n1.symm, n2.symm]) ?_
    have z := two q.w [a, b] rfl rfl n2 n1 (by simp)
    rw [sRet_e, WS_bindE]
    exact z.mono fun d s hp => hp
  | whn a b c =>
    refine ws_skip (by simp [Vl.d, in_two]) ?_
    have z := two [119, 104, 101, 110] [a, b, c] rfl rfl (by decide) (by decide) (by simp)
    rw [sRet_e, WS_bindE]
    exact z.mono fun d s hp => hp
end

/-! held; the pool -/
section
variable {st : Store}
def hel (i m : Int) : Int := if i < 0 then 0 else if i > m then m else i
theorem r_held {i m : Int} : f_held [.int i, .int m] st = .ok (.int (hel i m)) st := by
  by_cases h : i < 0
  · simp [f_held, runB_e, m_held, hel, h]
  · by_cases h2 : m < i <;> simp [f_held, runB_e, m_held, hel, h, h2]
theorem w_holds {i m : Int} : W (f__law_holds [.int i, .int m] st) fun d s => d = .bl true ∧ Gr st s := by
  unfold f__law_holds
  rw [runB_e]
  unfold m__law_holds
  rw [W_fin]
  refine ws_cons (N' := fun τ s => τ = [some (.int i), some (.int m), some (.ref st.length), none, none] ∧ s = st ++ [.lst ([hel i m, hel i m].map D.int)]) ?_ fun τ s hp => ?_
  · simp only [sSeq_e, sIf_e, sSet_e, sExpr_e, sRet_e, sRetN_e, sNil_e, sFor_e, sBrk_e, sCnt_e, sSub_e, sAsg_e, W_fin, WS_seq, WS_bindE, WS_nx, WS_rt, WS_bk, WS_ct]
    simp [eCallK_e, r_held, arr]
  obtain ⟨rfl, rfl⟩ := hp
  refine ws_cons (N' := fun τ s => τ = [some (.int i), some (.int m), some (.ref st.length), some (.int (hel i m)), none] ∧ s = st ++ [.lst ([hel i m, hel i m].map D.int)]) ?_ fun τ s hp => ?_
  · simp only [sSeq_e, sIf_e, sSet_e, sExpr_e, sRet_e, sRetN_e, sNil_e, sFor_e, sBrk_e, sCnt_e, sSub_e, sAsg_e, W_fin, WS_seq, WS_bindE, WS_nx, WS_rt, WS_bk, WS_ct]
    by_cases h : i < 0
    · simp [h, hel]
    · by_cases h2 : m < i <;> simp [h, h2, hel]
  obtain ⟨rfl, rfl⟩ := hp
  have l0 : lstAt (st ++ [.lst ([hel i m, hel i m].map D.int)]) st.length = some ([hel i m, hel i m].map D.int) := lstAt_app
  simp only [sSeq_e, sIf_e, sSet_e, sExpr_e, sRet_e, sRetN_e, sNil_e, sFor_e, sBrk_e, sCnt_e, sSub_e, sAsg_e, W_fin, WS_seq, WS_bindE, WS_nx, WS_rt, WS_bk, WS_ct]
  simp only [eCS, W_bind, lComp_e, iEx_e]
  simp [dSq_ref l0, -List.map_cons]
  refine w_lc (by simp) ?_
  refine w_map D.int (fun _ => D.bl true) [hel i m, hel i m] rfl (by simp [Sq.chk, l0]) (fun a ha => ⟨_, rfl, ?_⟩) ?_
  · have e : a = hel i m := by simpa using ha
    subst e
    simp [wipeD, r_is_int]
  · have g := gAllB_bls (bs := [true, true]) (st := st ++ [.lst ([hel i m, hel i m].map D.int)])
    have e : [hel i m, hel i m].map (fun _ => D.bl true) = [true, true].map D.bl := rfl
    rw [e, g]
    simp
    exact Gr.app
end

/-! the pool -/
def poolL : List (List Nat) := [[97], [98, 50], [119, 101, 108, 108], [108, 101, 102, 116], [114], [107, 48], [99, 97, 114, 114, 121], [122, 57, 122], [102, 117, 108, 108], [116, 97, 105, 108], [110], [109, 56], [97, 97], [98, 117, 115, 121], [99, 110, 116], [112], [116, 52], [101, 118, 101, 110, 50], [97, 98, 49], [104, 101, 97, 100], [117], [118, 50], [119], [108, 111, 119, 101, 115, 116], [104, 105, 103, 104], [109, 105, 100], [115], [116], [101], [102], [103], [104], [105], [106], [107], [120], [121], [113, 55], [100, 101, 101, 112], [115, 105, 99, 107], [103, 97, 116, 101], [108, 53], [104, 111, 108, 100], [110, 101, 120, 116, 49], [111], [99, 48], [100], [116, 119, 111], [122, 122, 49], [110, 101, 97, 114, 120], [102, 97, 114, 57], [108, 97, 115, 116, 108, 121], [114, 105, 110, 103, 50], [97, 97, 97, 97, 97, 97, 97, 56], [98], [99, 49], [116, 111, 112, 50], [110, 101, 116, 51], [114, 111, 119], [99, 111, 108, 55], [118], [116, 111, 97, 100], [97, 115, 107, 115], [109, 111, 100, 101, 49], [103, 114, 111, 117, 112], [102, 114, 101, 115, 104, 48], [108, 111, 116, 115, 55], [107, 105, 110, 100]]
theorem pool_nd : poolL.Nodup := by decide +kernel
theorem pool_len : poolL.length = 68 := by decide +kernel
theorem pool_split : (Txt.split ⟨([97, 32, 98, 50, 32, 119, 101, 108, 108, 32, 108, 101, 102, 116, 32, 114, 32, 107, 48, 32, 99, 97, 114, 114, 121, 32, 122, 57, 122, 32, 102, 117, 108, 108, 32, 116, 97, 105, 108, 32, 110, 32, 109, 56, 32, 97, 97, 32, 98, 117, 115, 121, 32, 99, 110, 116, 32, 112, 32, 116, 52, 32, 101, 118, 101, 110, 50, 32, 97, 98, 49, 32, 104, 101, 97, 100, 32, 117, 32, 118, 50, 32, 119, 32, 108, 111, 119, 101, 115, 116, 32, 104, 105, 103, 104, 32, 109, 105, 100, 32, 115, 32, 116, 32, 101, 32, 102, 32, 103, 32, 104, 32, 105, 32, 106, 32, 107, 32, 120, 32, 121, 32, 113, 55, 32, 100, 101, 101, 112, 32, 115, 105, 99, 107, 32, 103, 97, 116, 101, 32, 108, 53, 32, 104, 111, 108, 100, 32, 110, 101, 120, 116, 49, 32, 111, 32, 99, 48, 32, 100, 32, 116, 119, 111, 32, 122, 122, 49, 32, 110, 101, 97, 114, 120, 32, 102, 97, 114, 57, 32, 108, 97, 115, 116, 108, 121, 32, 114, 105, 110, 103, 50, 32, 97, 97, 97, 97, 97, 97, 97, 56, 32, 98, 32, 99, 49, 32, 116, 111, 112, 50, 32, 110, 101, 116, 51, 32, 114, 111, 119, 32, 99, 111, 108, 55, 32, 118, 32, 116, 111, 97, 100, 32, 97, 115, 107, 115, 32, 109, 111, 100, 101, 49, 32, 103, 114, 111, 117, 112, 32, 102, 114, 101, 115, 104, 48, 32, 108, 111, 116, 115, 55, 32, 107, 105, 110, 100] : List Nat).toArray⟩ ⟨[32].toArray⟩).map (fun y => y.cps.toList) = poolL := by decide +kernel
section
variable {st : Store}
theorem w_pool : W (f__law_pool [] st) fun d s => d = .ref st.length ∧ s = st ++ [.lst (poolL.map D.str)] := by
  unfold f__law_pool
  rw [runB_e]
  unfold m__law_pool
  rw [W_fin]
  have e : (Txt.split ⟨([97, 32, 98, 50, 32, 119, 101, 108, 108, 32, 108, 101, 102, 116, 32, 114, 32, 107, 48, 32, 99, 97, 114, 114, 121, 32, 122, 57, 122, 32, 102, 117, 108, 108, 32, 116, 97, 105, 108, 32, 110, 32, 109, 56, 32, 97, 97, 32, 98, 117, 115, 121, 32, 99, 110, 116, 32, 112, 32, 116, 52, 32, 101, 118, 101, 110, 50, 32, 97, 98, 49, 32, 104, 101, 97, 100, 32, 117, 32, 118, 50, 32, 119, 32, 108, 111, 119, 101, 115, 116, 32, 104, 105, 103, 104, 32, 109, 105, 100, 32, 115, 32, 116, 32, 101, 32, 102, 32, 103, 32, 104, 32, 105, 32, 106, 32, 107, 32, 120, 32, 121, 32, 113, 55, 32, 100, 101, 101, 112, 32, 115, 105, 99, 107, 32, 103, 97, 116, 101, 32, 108, 53, 32, 104, 111, 108, 100, 32, 110, 101, 120, 116, 49, 32, 111, 32, 99, 48, 32, 100, 32, 116, 119, 111, 32, 122, 122, 49, 32, 110, 101, 97, 114, 120, 32, 102, 97, 114, 57, 32, 108, 97, 115, 116, 108, 121, 32, 114, 105, 110, 103, 50, 32, 97, 97, 97, 97, 97, 97, 97, 56, 32, 98, 32, 99, 49, 32, 116, 111, 112, 50, 32, 110, 101, 116, 51, 32, 114, 111, 119, 32, 99, 111, 108, 55, 32, 118, 32, 116, 111, 97, 100, 32, 97, 115, 107, 115, 32, 109, 111, 100, 101, 49, 32, 103, 114, 111, 117, 112, 32, 102, 114, 101, 115, 104, 48, 32, 108, 111, 116, 115, 55, 32, 107, 105, 110, 100] : List Nat).toArray⟩ ⟨[32].toArray⟩).map (fun y => D.str y.cps.toList) = poolL.map D.str := by
    rw [← pool_split, List.map_map]
    rfl
  have g : mSplit (.str [97, 32, 98, 50, 32, 119, 101, 108, 108, 32, 108, 101, 102, 116, 32, 114, 32, 107, 48, 32, 99, 97, 114, 114, 121, 32, 122, 57, 122, 32, 102, 117, 108, 108, 32, 116, 97, 105, 108, 32, 110, 32, 109, 56, 32, 97, 97, 32, 98, 117, 115, 121, 32, 99, 110, 116, 32, 112, 32, 116, 52, 32, 101, 118, 101, 110, 50, 32, 97, 98, 49, 32, 104, 101, 97, 100, 32, 117, 32, 118, 50, 32, 119, 32, 108, 111, 119, 101, 115, 116, 32, 104, 105, 103, 104, 32, 109, 105, 100, 32, 115, 32, 116, 32, 101, 32, 102, 32, 103, 32, 104, 32, 105, 32, 106, 32, 107, 32, 120, 32, 121, 32, 113, 55, 32, 100, 101, 101, 112, 32, 115, 105, 99, 107, 32, 103, 97, 116, 101, 32, 108, 53, 32, 104, 111, 108, 100, 32, 110, 101, 120, 116, 49, 32, 111, 32, 99, 48, 32, 100, 32, 116, 119, 111, 32, 122, 122, 49, 32, 110, 101, 97, 114, 120, 32, 102, 97, 114, 57, 32, 108, 97, 115, 116, 108, 121, 32, 114, 105, 110, 103, 50, 32, 97, 97, 97, 97, 97, 97, 97, 56, 32, 98, 32, 99, 49, 32, 116, 111, 112, 50, 32, 110, 101, 116, 51, 32, 114, 111, 119, 32, 99, 111, 108, 55, 32, 118, 32, 116, 111, 97, 100, 32, 97, 115, 107, 115, 32, 109, 111, 100, 101, 49, 32, 103, 114, 111, 117, 112, 32, 102, 114, 101, 115, 104, 48, 32, 108, 111, 116, 115, 55, 32, 107, 105, 110, 100]) [.str [32]] st = .ok (.ref st.length) (st ++ [.lst (poolL.map D.str)]) := by
    unfold mSplit
    simp only []
    rw [if_pos (by decide), e]
  simp only [sSeq_e, sIf_e, sSet_e, sExpr_e, sRet_e, sRetN_e, sNil_e, sFor_e, sBrk_e, sCnt_e, sSub_e, sAsg_e, W_fin, WS_seq, WS_bindE, WS_nx, WS_rt, WS_bk, WS_ct]
  simp [eM, okT, g]
end

/-! leaves -/
/-- a leaf: a small number or a name -/
def isLeaf (nm : List (List Nat)) : Vl → Prop
  | .num n => 0 ≤ n ∧ n ≤ 999999
  | .nam x => x ∈ nm
  | _ => False
section
variable {ns : List Int} {st : Store} {nm : List (List Nat)} {m : Nat}
theorem w_leaf {Q : D → Store → Prop} (H : DS ns st) (hm : lstAt st m = some (nm.map D.str)) (h1 : m ≠ 1) (hl : nm.length ≤ 100)
    (hQ : ∀ v s, isLeaf nm v → DS ns s → Fr st s → Q v.d s) : W (f__law_leaf [.ref 1, .ref m] st) Q := by
  unfold f__law_leaf
  rw [runB_e]
  unfold m__law_leaf
  rw [W_fin]
  refine ws_cons (N' := fun τ s => ∃ k : Nat, k < 7 ∧ τ = [some (.ref 1), some (.ref m), some (.int k)] ∧ DS ns s ∧ Fr st s) ?_ fun τ s hp => ?_
  · simp only [sSeq_e, sIf_e, sSet_e, sExpr_e, sRet_e, sRetN_e, sNil_e, sFor_e, sBrk_e, sCnt_e, sSub_e, sAsg_e, W_fin, WS_seq, WS_bindE, WS_nx, WS_rt, WS_bk, WS_ct]
    simp
    refine w_draw (many := 7) H (by decide) (by decide) fun v s hv D1 F1 => ?_
    exact ⟨v, hv, rfl, D1, F1⟩
  obtain ⟨k, hk, rfl, D1, F1⟩ := hp
  have g := F1.lst hm h1
  have num : ∀ (j : Nat) (s : Store), j ≤ 999999 → DS ns s → Fr st s → Q (.tup [.str [110, 117, 109, 98, 101, 114], .int (j : Nat)]) s := fun j s hj D F => hQ (.num j) s ⟨by omega, by omega⟩ D F
  by_cases h4 : k < 4 ∧ 0 < nm.length
  · have f1 : (k : Int) < 4 := by omega
    have f2 : 0 < (nm.length : Int) := by omega
    refine ws_take (by simp [fLen_ref g, f1]; omega) ?_
    simp only [sSeq_e, sIf_e, sSet_e, sExpr_e, sRet_e, sRetN_e, sNil_e, sFor_e, sBrk_e, sCnt_e, sSub_e, sAsg_e, W_fin, WS_seq, WS_bindE, WS_nx, WS_rt, WS_bk, WS_ct]
    simp
    refine w_pick D1 g h1 (by simp; omega) (by simp; omega) fun v s hv D2 F2 => ?_
    obtain ⟨x, hx, rfl⟩ := List.mem_map.mp hv
    exact hQ (.nam x) s hx D2 (F1.trans F2)
  · refine ws_skip (by
      by_cases f1 : (k : Int) < 4
      · have : nm = [] := List.eq_nil_of_length_eq_zero (by omega)
        subst this
        simp [fLen_ref g, f1]
      · simp [f1]) ?_
    by_cases h6 : k = 6
    · subst h6
      refine ws_take (by simp) ?_
      simp only [sSeq_e, sIf_e, sSet_e, sExpr_e, sRet_e, sRetN_e, sNil_e, sFor_e, sBrk_e, sCnt_e, sSub_e, sAsg_e, W_fin, WS_seq, WS_bindE, WS_nx, WS_rt, WS_bk, WS_ct]
      simp
      have l0 : lstAt (s ++ [.lst [D.int 0, D.int 1, D.int 12, D.int 100000, D.int 999999]]) s.length = some [D.int 0, D.int 1, D.int 12, D.int 100000, D.int 999999] := lstAt_app
      refine w_pick (Gr.app.ds D1) l0 (by have := D1.len; omega) (by simp) (by simp) fun v s2 hv D2 F2 => ?_
      have F3 := F1.trans (Gr.app.fr.trans F2)
      simp only [List.mem_cons, List.not_mem_nil, or_false] at hv
      rcases hv with rfl | rfl | rfl | rfl | rfl
      · exact num 0 s2 (by decide) D2 F3
      · exact num 1 s2 (by decide) D2 F3
      · exact num 12 s2 (by decide) D2 F3
      · exact num 100000 s2 (by decide) D2 F3
      · exact num 999999 s2 (by decide) D2 F3
    · have f6 : ¬ (k : Int) = 6 := by omega
      refine ws_skip (by simp [f6]) ?_
      simp only [sSeq_e, sIf_e, sSet_e, sExpr_e, sRet_e, sRetN_e, sNil_e, sFor_e, sBrk_e, sCnt_e, sSub_e, sAsg_e, W_fin, WS_seq, WS_bindE, WS_nx, WS_rt, WS_bk, WS_ct]
      simp
      refine w_draw (many := 6) D1 (by decide) (by decide) fun v s hv D2 F2 => ?_
      exact num v s (by omega) D2 (F1.trans F2)
end

section
variable {ns : List Int} {st : Store}
theorem w_far {Q : D → Store → Prop} (H : DS ns st) (hQ : ∀ (n : Int) s, n.natAbs < 2 ^ 100 → DS ns s → Fr st s → Q (.int n) s) : W (f__law_far [.ref 1] st) Q := by
  unfold f__law_far
  rw [runB_e]
  unfold m__law_far
  rw [W_fin]
  simp only [sSeq_e, sIf_e, sSet_e, sExpr_e, sRet_e, sRetN_e, sNil_e, sFor_e, sBrk_e, sCnt_e, sSub_e, sAsg_e, W_fin, WS_seq, WS_bindE, WS_nx, WS_rt, WS_bk, WS_ct]
  simp
  refine w_draw (many := 2) H (by decide) (by decide) fun a s1 ha D1 F1 => ?_
  have p1 : okPow 10 21 = true := by decide
  have k1 : okMul 2 (a : Nat) = true := okMul_l (by decide)
  simp [k1]
  refine w_draw (many := 100000000) D1 (by decide) (by decide) fun b s2 hb D2 F2 => ?_
  have k2 : okMul (b : Nat) 1000000000000000000000 = true := okMul_l (by omega)
  have k3 : ∀ x, okMul (1 - 2 * (a : Int)) x = true := fun x => okMul_l (by omega)
  simp [p1, k2, k3]
  refine hQ _ s2 ?_ D2 (F1.trans F2)
  rw [Int.natAbs_mul]
  have h1 : (1 - 2 * (a : Int)).natAbs = 1 := by omega
  rw [h1]
  omega
end

theorem mPopAt_ref {n : Nat} {st : Store} {xs : List D} {k : Nat} {x : D} (hh : lstAt st n = some xs) (hx : xs[k]? = some x) (hk : k < 9223372036854775808) : mPopAt (.ref n) [.int k] st = .ok x (st.set n (.lst (xs.eraseIdx k))) := by
  have h2 : okIx (k : Int) = true := decide_eq_true (by omega)
  have h3 : seqIndex? (k : Int) xs.length = some k := by
    have : k < xs.length := (List.getElem?_eq_some_iff.mp hx).1
    simp [seqIndex?]
    omega
  simp [mPopAt, hh, h2, h3, hx]
section
variable {ns : List Int} {st : Store}
theorem w_pop {m : Nat} {xs : List D} {Q : D → Store → Prop} (H : DS ns st) (hm : lstAt st m = some xs) (h1 : 1 < m) (h0 : 0 < xs.length) (hl : xs.length < 2 ^ 60)
    (hQ : ∀ k x s, xs[k]? = some x → DS ns s → lstAt s m = some (xs.eraseIdx k) → (∀ j ys, j ≠ m → j ≠ 1 → lstAt st j = some ys → lstAt s j = some ys) → Q x s) : W (f__law_pop [.ref 1, .ref m] st) Q := by
  unfold f__law_pop
  rw [runB_e]
  unfold m__law_pop
  rw [W_fin]
  simp only [sSeq_e, sIf_e, sSet_e, sExpr_e, sRet_e, sRetN_e, sNil_e, sFor_e, sBrk_e, sCnt_e, sSub_e, sAsg_e, W_fin, WS_seq, WS_bindE, WS_nx, WS_rt, WS_bk, WS_ct]
  simp [okT_ref hm, fLen_ref hm]
  refine w_draw (many := xs.length) H h0 hl fun a s1 ha D1 F1 => ?_
  have g := F1.lst hm (by omega)
  have gx : xs[a]? = some xs[a] := List.getElem?_eq_getElem ha
  simp [okT_ref g, mPopAt_ref g gx (show a < 9223372036854775808 by omega)]
  refine hQ a _ _ gx (D1.put2 (by omega) (by omega)) (lstAt_set g) fun j ys hj hj1 e => ?_
  rw [lstAt_ne hj]
  exact F1.lst e hj1
end

section
variable {ns : List Int} {st : Store}
theorem w_shuffled {t : List D} {q : Nat} {Q : D → Store → Prop} (H : DS ns st) (hm : lstAt st q = some t) (lt : t.length ≤ 60) (hQ : ∀ (t' : List D) m s, st.length ≤ m → lstAt s m = some t' → t'.Perm t → DS ns s → Fr st s → Q (.ref m) s) : W (f__law_shuffled [.ref 1, .ref q] st) Q := by
  unfold f__law_shuffled
  rw [runB_e]
  unfold m__law_shuffled
  have two := H.len
  have ef : fList [.ref q] st = .ok (.ref st.length) (st ++ [.lst t]) := by simp [fList, dSeq, hm]
  have g0 : lstAt (st ++ [.lst t] ++ [.lst []]) st.length = some t := (Gr.app (a := st ++ [.lst t])).lst lstAt_new
  have g1 : lstAt (st ++ [.lst t] ++ [.lst []]) (st.length + 1) = some ([] : List D) := by simp [lstAt]
  obtain ⟨s0, hs0⟩ : ∃ s0, s0 = st ++ [.lst t] ++ [.lst []] := ⟨_, rfl⟩
  rw [← hs0] at g0 g1
  have G0 : Gr st s0 := ⟨_, by rw [hs0, List.append_assoc]⟩
  have l0 : fLen [.ref st.length] s0 = .ok (.int (t.length : Nat)) s0 := by rw [fLen_ref g0]
  have hr : rg1 (.int (t.length : Nat)) s0 = .ok (.fix (rng 0 t.length)) s0 := rg1_int (by omega)
  rw [W_fin, sSeq_e, WS_seq]
  refine WS.cut (N' := fun τ s => τ = [some (.ref 1), some (.ref q), some (.ref st.length), none, none] ∧ s = st ++ [.lst t]) (by simp only [sSeq_e, sIf_e, sSet_e, sExpr_e, sRet_e, sRetN_e, sNil_e, sFor_e, sBrk_e, sCnt_e, sSub_e, sAsg_e, W_fin, WS_seq, WS_bindE, WS_nx, WS_rt, WS_bk, WS_ct]; simp [List.replicate, ef]) fun τ s hp => ?_
  obtain ⟨rfl, rfl⟩ := hp
  rw [sSeq_e, WS_seq]
  refine WS.cut (N' := fun τ s => τ = [some (.ref 1), some (.ref q), some (.ref st.length), some (.ref (st.length + 1)), none] ∧ s = s0) (by simp only [sSeq_e, sIf_e, sSet_e, sExpr_e, sRet_e, sRetN_e, sNil_e, sFor_e, sBrk_e, sCnt_e, sSub_e, sAsg_e, W_fin, WS_seq, WS_bindE, WS_nx, WS_rt, WS_bk, WS_ct]; simp [hs0]) fun τ s hp => ?_
  obtain ⟨rfl, rfl⟩ := hp
  rw [sSeq_e, WS_seq, sFor_e]
  simp [l0, hr]
  obtain ⟨I, hI⟩ : ∃ I : Nat → Sl → Store → Prop, I = fun i τ s => ∃ (a : Option D) (L F : List D), τ = [some (.ref 1), some (.ref q), some (.ref st.length), some (.ref (st.length + 1)), a] ∧ lstAt s st.length = some L ∧ lstAt s (st.length + 1) = some F ∧ F.length = i ∧ (L ++ F).Perm t ∧ DS ns s ∧ Fr st s := ⟨_, rfl⟩
  refine ws_rng I (fun _ _ _ _ => rfl) (by rw [hI]; exact ⟨none, t, [], rfl, g0, g1, rfl, by simp, G0.ds H, G0.fr⟩) ?_ ?_
  · intro i τ s hi hp
    rw [hI] at hp
    obtain ⟨a, L, F, rfl, h1, h2, h4, h5, D0, F0⟩ := hp
    have h3 := h5.length_eq
    rw [List.length_append] at h3
    refine ⟨_, rfl, ?_⟩
    have ll : fLen [.ref st.length] s = .ok (.int (L.length : Nat)) s := by rw [fLen_ref h1]
    simp only [sSeq_e, sIf_e, sSet_e, sExpr_e, sRet_e, sRetN_e, sNil_e, sFor_e, sBrk_e, sCnt_e, sSub_e, sAsg_e, W_fin, WS_seq, WS_bindE, WS_nx, WS_rt, WS_bk, WS_ct]
    simp [okT_ref h1, okT_ref h2, ll]
    refine w_draw (many := L.length) D0 (by omega) (by omega) fun v s2 hv D2 F2 => ?_
    have k1 := F2.lst h1 (by omega)
    have k2 := F2.lst h2 (by omega)
    have hx : L[v]? = some L[v] := by simp [hv]
    have pp := mPopAt_ref k1 hx (by omega)
    have n1 : st.length + 1 ≠ st.length := by omega
    have k3 : lstAt (s2.set st.length (.lst (L.eraseIdx v))) (st.length + 1) = some F := by rw [lstAt_ne n1]; exact k2
    have ap := mAppend_ref (x := L[v]) k3 (by omega)
    simp [pp, ap]
    rw [hI]
    refine ⟨_, L.eraseIdx v, F ++ [L[v]], rfl, ?_, ?_, by simp [h4], ?_, ?_, ?_⟩
    · rw [lstAt_ne (by omega), lstAt_set k1]
    · rw [lstAt_set k3]
    · refine List.Perm.trans ?_ h5
      have e : L.Perm (L[v] :: L.eraseIdx v) := by
        rw [List.eraseIdx_eq_take_drop_succ]
        conv => lhs; rw [← List.take_append_drop v L, List.drop_eq_getElem_cons hv]
        exact List.perm_middle
      refine List.Perm.trans ?_ (e.append_right F).symm
      rw [← List.append_assoc]
      exact List.perm_append_singleton _ _
    · exact (D2.put2 (by omega) (by omega)).put2 (by omega) (by omega)
    · exact ((F0.trans F2).put2 (Nat.le_refl _)).put2 (by omega)
  · intro τ s hp
    rw [hI] at hp
    obtain ⟨a, L, F, rfl, h1, h2, h4, h5, D0, F0⟩ := hp
    have z : L = [] := by
      have := h5.length_eq
      rw [List.length_append] at this
      exact List.eq_nil_of_length_eq_zero (by omega)
    subst z
    simp
    exact hQ F _ s (by omega) h2 (by simpa using h5) D0 F0
end

/-! drawn values -/
/-- so deep, so many leaves, of these names -/
structure Vl.dr (nm : List (List Nat)) (d z : Nat) (v : Vl) : Prop where
  dp : v.dp ≤ d
  sz : v.sz ≤ z
  fit : v.fit 100 (fun x => x ∈ nm)
theorem isLeaf.dr {nm : List (List Nat)} {v : Vl} (h : isLeaf nm v) : v.dr nm 0 1 := by
  cases v with
  | num n => exact ⟨Nat.le_refl _, Nat.le_refl _, by
      obtain ⟨a, b⟩ := h
      show n.natAbs < 2 ^ 100
      omega⟩
  | nam x => exact ⟨Nat.le_refl _, Nat.le_refl _, h⟩
  | op o a b => exact h.elim
  | whn a b c => exact h.elim
theorem Vl.dr.op {nm : List (List Nat)} {a b : Vl} {d z1 z2 : Nat} (o : Op) (ha : a.dr nm d z1) (hb : b.dr nm d z2) : (Vl.op o a b).dr nm (d + 1) (z1 + z2) :=
  ⟨by simp only [Vl.dp]; have := ha.dp; have := hb.dp; omega, Nat.add_le_add ha.sz hb.sz, ha.fit, hb.fit⟩
theorem Vl.dr.whn {nm : List (List Nat)} {a b c : Vl} {d z1 z2 z3 : Nat} (ha : a.dr nm d z1) (hb : b.dr nm d z2) (hc : c.dr nm d z3) : (Vl.whn a b c).dr nm (d + 1) (z1 + z2 + z3) :=
  ⟨by simp only [Vl.dp]; have := ha.dp; have := hb.dp; have := hc.dp; omega, Nat.add_le_add (Nat.add_le_add ha.sz hb.sz) hc.sz, ha.fit, hb.fit, hc.fit⟩
theorem Vl.dr.mono {nm : List (List Nat)} {v : Vl} {d d' z z' : Nat} (h : v.dr nm d z) (h1 : d ≤ d') (h2 : z ≤ z') : v.dr nm d' z' := ⟨Nat.le_trans h.dp h1, Nat.le_trans h.sz h2, h.fit⟩

/-! a line of values -/
section
variable {ns : List Int} {st : Store} {nm : List (List Nat)} {m : Nat}
theorem w_sign {q : Nat} {Q : D → Store → Prop} {os : List Op} (H : DS ns st) (hq : lstAt st q = some (os.map fun o => D.str o.w)) (h1 : q ≠ 1) (h0 : 0 < os.length) (hl : os.length < 20) (hQ : ∀ o s, o ∈ os → DS ns s → Fr st s → Q (.str (Op.w o)) s) : W (f__law_pick [.ref 1, .ref q] st) Q := by
  refine w_pick H hq h1 (by simpa using h0) (by simp; omega) fun v s hv D1 F1 => ?_
  obtain ⟨o, ho, rfl⟩ := List.mem_map.mp hv
  exact hQ o s ho D1 F1
end

section
variable {ns : List Int} {st : Store} {nm : List (List Nat)} {m : Nat}
def opD (os : List Op) : List D := os.map fun o => .str o.w
theorem w_line1 {Q : D → Store → Prop} (H : DS ns st) (hQ : ∀ q os s, lstAt s q = some (opD os) → q ≠ 1 → 0 < os.length → os.length < 20 → DS ns s → Fr st s → Q (.ref q) s) :
    W (eCall 2 f__law_pick (aCons (eVar 0) (aCons (eLst (aCons (eLst (aCons (eC (.str [43])) (aCons (eC (.str [45])) aNil))) (aCons (eLst (aCons (eC (.str [42])) aNil)) (aCons (eLst (aCons (eC (.str [45])) aNil)) aNil)))) aNil)) [some (.ref 1), some (.ref m), none, none, none] st) Q := by
  have two := H.len
  obtain ⟨s3, h3⟩ : ∃ s3, s3 = st ++ [.lst (opD [.add, .sub])] ++ [.lst (opD [.mul])] ++ [.lst (opD [.sub])] := ⟨_, rfl⟩
  have G : Gr st s3 := ⟨_, by rw [h3, List.append_assoc, List.append_assoc]⟩
  have a0 : lstAt s3 st.length = some (opD [.add, .sub]) := by rw [h3]; simp [lstAt]
  have a1 : lstAt s3 (st.length + 1) = some (opD [.mul]) := by rw [h3]; simp [lstAt]
  have a2 : lstAt s3 (st.length + 2) = some (opD [.sub]) := by rw [h3]; simp [lstAt]
  have e : eCall 2 f__law_pick (aCons (eVar 0) (aCons (eLst (aCons (eLst (aCons (eC (.str [43])) (aCons (eC (.str [45])) aNil))) (aCons (eLst (aCons (eC (.str [42])) aNil)) (aCons (eLst (aCons (eC (.str [45])) aNil)) aNil)))) aNil)) [some (.ref 1), some (.ref m), none, none, none] st = f__law_pick [.ref 1, .ref s3.length] (s3 ++ [.lst [.ref st.length, .ref (st.length + 1), .ref (st.length + 2)]]) := by
    rw [h3]
    simp [opD, Op.w]
  rw [e]
  refine w_pick (Gr.app.ds (G.ds H)) lstAt_new (by have := G.len; omega) (by simp) (by simp) fun v s hv D1 F1 => ?_
  simp only [List.mem_cons, List.not_mem_nil, or_false] at hv
  have F := (G.trans Gr.app).fr.trans F1
  rcases hv with rfl | rfl | rfl
  · exact hQ _ _ s (F1.lst (Gr.app.lst a0) (by omega)) (by omega) (by simp) (by simp) D1 F
  · exact hQ _ _ s (F1.lst (Gr.app.lst a1) (by omega)) (by omega) (by simp) (by simp) D1 F
  · exact hQ _ _ s (F1.lst (Gr.app.lst a2) (by omega)) (by omega) (by simp) (by simp) D1 F
end

section
variable {ns : List Int} {st : Store} {nm : List (List Nat)} {m : Nat}
theorem w_line {Q : D → Store → Prop} (H : DS ns st) (hm : lstAt st m = some (nm.map D.str)) (h1 : m ≠ 1) (hl : nm.length ≤ 100) (hQ : ∀ (v : Vl) s, v.dr nm 30 31 → DS ns s → Fr st s → Q v.d s) : W (f__law_line [.ref 1, .ref m] st) Q := by
  unfold f__law_line
  rw [runB_e]
  unfold m__law_line
  rw [W_fin]
  refine ws_cons (N' := fun τ s => ∃ q os, τ = [some (.ref 1), some (.ref m), some (.ref q), none, none] ∧ lstAt s q = some (opD os) ∧ q ≠ 1 ∧ 0 < os.length ∧ os.length < 20 ∧ DS ns s ∧ Fr st s) ?_ fun τ s hp => ?_
  · rw [sSet_e, WS_bindE]
    refine w_line1 H fun q os s a b c d e f => ?_
    exact ⟨q, os, rfl, a, b, c, d, e, f⟩
  obtain ⟨q, os, rfl, gq, q1, o0, o1, D1, F1⟩ := hp
  refine ws_cons (N' := fun τ s => ∃ v : Vl, τ = [some (.ref 1), some (.ref m), some (.ref q), some v.d, none] ∧ v.dr nm 0 1 ∧ lstAt s q = some (opD os) ∧ DS ns s ∧ Fr st s) ?_ fun τ s hp => ?_
  · simp only [sSeq_e, sIf_e, sSet_e, sExpr_e, sRet_e, sRetN_e, sNil_e, sFor_e, sBrk_e, sCnt_e, sSub_e, sAsg_e, W_fin, WS_seq, WS_bindE, WS_nx, WS_rt, WS_bk, WS_ct]
    simp
    refine w_leaf D1 (F1.lst hm h1) h1 hl fun v s hv D2 F2 => ?_
    exact ⟨v, rfl, hv.dr, F2.lst gq q1, D2, F1.trans F2⟩
  obtain ⟨v0, rfl, dr0, gq2, D2, F2⟩ := hp
  have loop : ∀ (u : SM) (c : Nat) (s0 : Store) (N : Sl → Store → Prop) (R : D → Store → Prop) (B C : Sl → Store → Prop), c ≤ 29 → lstAt s0 q = some (opD os) → DS ns s0 → Fr st s0 →
      (∀ (i : Nat) (v : Vl) (s : Store), v.dr nm i (i + 1) → lstAt s q = some (opD os) → DS ns s → Fr st s → WS (u [some (.ref 1), some (.ref m), some (.ref q), some v.d, some (.int (i : Nat))] s) (fun τ s => ∃ w : Vl, τ = [some (.ref 1), some (.ref m), some (.ref q), some w.d, some (.int (i : Nat))] ∧ w.dr nm (i + 1) (i + 2) ∧ lstAt s q = some (opD os) ∧ DS ns s ∧ Fr st s) R N (fun τ s => ∃ w : Vl, τ = [some (.ref 1), some (.ref m), some (.ref q), some w.d, some (.int (i : Nat))] ∧ w.dr nm (i + 1) (i + 2) ∧ lstAt s q = some (opD os) ∧ DS ns s ∧ Fr st s)) →
      (∀ (w : Vl) (a : Option D) (s : Store), w.dr nm 30 31 → DS ns s → Fr st s → N [some (.ref 1), some (.ref m), some (.ref q), some w.d, a] s) →
      WS (forL (.fix (rng 0 c)) (gN 4) u (rng 0 c) [some (.ref 1), some (.ref m), some (.ref q), some v0.d, none] s0) N R B C := by
    intro u c s0 N R B C hc g D0 F0 hs hN
    obtain ⟨I, hI⟩ : ∃ I : Nat → Sl → Store → Prop, I = fun i τ s => ∃ (a : Option D) (v : Vl), τ = [some (.ref 1), some (.ref m), some (.ref q), some v.d, a] ∧ v.dr nm i (i + 1) ∧ lstAt s q = some (opD os) ∧ DS ns s ∧ Fr st s := ⟨_, rfl⟩
    refine ws_rng I (fun _ _ _ _ => rfl) (by rw [hI]; exact ⟨none, v0, rfl, dr0, g, D0, F0⟩) (fun i τ s hi hp => ?_) fun τ s hp => ?_
    · rw [hI] at hp
      obtain ⟨a, v, rfl, d, g, D3, F3⟩ := hp
      refine ⟨_, rfl, ?_⟩
      have k : ∀ τ s, (∃ w : Vl, τ = [some (.ref 1), some (.ref m), some (.ref q), some w.d, some (.int (i : Nat))] ∧ w.dr nm (i + 1) (i + 2) ∧ lstAt s q = some (opD os) ∧ DS ns s ∧ Fr st s) → I (i + 1) τ s := fun τ s h => by
        obtain ⟨w, e, r⟩ := h
        rw [hI]
        exact ⟨_, w, e, r⟩
      exact (hs i v s d g D3 F3).mono k (fun _ _ h => h) (fun _ _ h => h) k
    · rw [hI] at hp
      obtain ⟨a, v, rfl, d, g, D3, F3⟩ := hp
      exact hN v a s (d.mono (by omega) (by omega)) D3 F3
  -- a step: the new leaf ahead, or behind
  have step : ∀ (f : Bool) (i : Nat) (v : Vl) (s : Store) (R : D → Store → Prop) (B C : Sl → Store → Prop), v.dr nm i (i + 1) → lstAt s q = some (opD os) → DS ns s → Fr st s →
      WS (sSet 3 (eTup (aCons (eCall 2 f__law_pick (aCons (eVar 0) (aCons (eVar 2) aNil))) (if f then aCons (eCall 2 f__law_leaf (aCons (eVar 0) (aCons (eVar 1) aNil))) (aCons (eVar 3) aNil) else aCons (eVar 3) (aCons (eCall 2 f__law_leaf (aCons (eVar 0) (aCons (eVar 1) aNil))) aNil)))) [some (.ref 1), some (.ref m), some (.ref q), some v.d, some (.int (i : Nat))] s) (fun τ s => ∃ w : Vl, τ = [some (.ref 1), some (.ref m), some (.ref q), some w.d, some (.int (i : Nat))] ∧ w.dr nm (i + 1) (i + 2) ∧ lstAt s q = some (opD os) ∧ DS ns s ∧ Fr st s) R B C := by
    intro f i v s R B C dv g D3 F3
    simp only [sSeq_e, sIf_e, sSet_e, sExpr_e, sRet_e, sRetN_e, sNil_e, sFor_e, sBrk_e, sCnt_e, sSub_e, sAsg_e, W_fin, WS_seq, WS_bindE, WS_nx, WS_rt, WS_bk, WS_ct]
    cases f <;> simp
    · refine w_sign D3 g q1 o0 o1 fun o s4 ho D4 F4 => ?_
      have F5 := F3.trans F4
      refine w_leaf D4 (F5.lst hm h1) h1 hl fun l s6 hl D6 F6 => ?_
      have z := Vl.dr.op o dv (hl.dr.mono (Nat.zero_le i) (Nat.le_refl 1))
      exact ⟨.op o v l, rfl, z, F6.lst (F4.lst g q1) q1, D6, F5.trans F6⟩
    · refine w_sign D3 g q1 o0 o1 fun o s4 ho D4 F4 => ?_
      have F5 := F3.trans F4
      refine w_leaf D4 (F5.lst hm h1) h1 hl fun l s6 hl D6 F6 => ?_
      have z := Vl.dr.op o (hl.dr.mono (Nat.zero_le i) (Nat.le_refl 1)) dv
      exact ⟨.op o l v, rfl, z.mono (Nat.le_refl _) (by omega), F6.lst (F4.lst g q1) q1, D6, F5.trans F6⟩
  refine ws_cons (N' := fun τ s => τ = [some (.ref 1), some (.ref m), some (.ref q), some v0.d, none] ∧ lstAt s q = some (opD os) ∧ DS ns s ∧ Fr st s) ?_ fun τ s hp => ?_
  · refine ws_ifd (fun _ s1 => lstAt s1 q = some (opD os) ∧ DS ns s1 ∧ Fr st s1) ?_ (fun s1 h => ?_) (fun s1 h => ?_)
    · simp
      refine w_draw (many := 2) D2 (by decide) (by decide) fun a s1 ha D3 F3 => ?_
      simp
      exact ⟨F3.lst gq2 q1, D3, F2.trans F3⟩
    · obtain ⟨g, D3, F3⟩ := h
      refine ws_cons (N' := fun τ s => ∃ (w : Vl) (a : Option D), τ = [some (.ref 1), some (.ref m), some (.ref q), some w.d, a] ∧ w.dr nm 30 31 ∧ DS ns s ∧ Fr st s) ?_ fun τ s hp => ?_
      · refine ws_forD (fun q' s1 => ∃ c : Nat, c ≤ 29 ∧ q' = .fix (rng 0 (c : Nat)) ∧ lstAt s1 q = some (opD os) ∧ DS ns s1 ∧ Fr st s1) ?_ ?_
        · simp
          refine w_draw (many := 13) D3 (by decide) (by decide) fun a s1 ha D4 F4 => ?_
          have e : (1 : Int) + (a : Nat) = ((1 + a : Nat) : Int) := by omega
          simp
          rw [e, rg1_int (by omega)]
          exact ⟨1 + a, by omega, rfl, F4.lst g q1, D4, F3.trans F4⟩
        · rintro _ s1 ⟨c, hc, rfl, g1, D4, F4⟩
          exact loop _ c s1 _ _ _ _ hc g1 D4 F4 (fun i v s dv g D5 F5 => step true i v s _ _ _ dv g D5 F5) (fun w a s d D F => ⟨w, a, rfl, d, D, F⟩)
      · obtain ⟨w, a, rfl, d, D, F⟩ := hp
        refine ws_ret ?_
        simp
        exact hQ w s d D F
    · obtain ⟨g, D3, F3⟩ := h
      exact ⟨rfl, g, D3, F3⟩
  obtain ⟨rfl, gq3, D3, F3⟩ := hp
  refine ws_cons (N' := fun τ s => ∃ (w : Vl) (a : Option D), τ = [some (.ref 1), some (.ref m), some (.ref q), some w.d, a] ∧ w.dr nm 30 31 ∧ DS ns s ∧ Fr st s) ?_ fun τ s hp => ?_
  · refine ws_forD (fun q' s1 => ∃ c : Nat, c ≤ 29 ∧ q' = .fix (rng 0 (c : Nat)) ∧ lstAt s1 q = some (opD os) ∧ DS ns s1 ∧ Fr st s1) ?_ ?_
    · simp
      refine w_draw (many := 15) D3 (by decide) (by decide) fun a s1 ha D4 F4 => ?_
      have e : (15 : Int) + (a : Nat) = ((15 + a : Nat) : Int) := by omega
      simp
      rw [e, rg1_int (by omega)]
      exact ⟨15 + a, by omega, rfl, F4.lst gq3 q1, D4, F3.trans F4⟩
    · rintro _ s1 ⟨c, hc, rfl, g1, D4, F4⟩
      exact loop _ c s1 _ _ _ _ hc g1 D4 F4 (fun i v s dv g D5 F5 => step false i v s _ _ _ dv g D5 F5) (fun w a s d D F => ⟨w, a, rfl, d, D, F⟩)
  · obtain ⟨w, a, rfl, d, D, F⟩ := hp
    refine ws_ret ?_
    simp
    exact hQ w s d D F
end

/-! a shape of values -/
/-- row[:at] + [one] + row[at + k:] -/
theorem r_splice {τ : Sl} {s : Store} {r a : Nat} {k : Int} {kk : Nat} {xs : List D} {fe : EM D} {x : D} (h : lstAt s r = some xs) (h3 : τ[3]? = some (some (.ref r))) (h4 : τ[4]? = some (some (.int (a : Nat)))) (hk : k = (kk : Nat)) (hfe : ∀ s', lstAt s' r = some xs → fe τ s' = .ok x s') (hl : xs.length ≤ 100) :
    ∃ p s', (eBin oAdd (eBin oAdd (eSl (eVar 3) oNone (oSome (eVar 4))) (eLst (aCons fe aNil))) (eSl (eVar 3) (oSome (eBin oAdd (eVar 4) (eC (.int k)))) oNone)) τ s = .ok (.ref p) s' ∧ lstAt s' p = some (xs.take a ++ [x] ++ xs.drop (a + kk)) ∧ p ≠ 1 ∧ Gr s s' := by
  have e : (a : Int) + k = ((a + kk : Nat) : Int) := by omega
  obtain ⟨s1, e1⟩ : ∃ s1, s1 = s ++ [.lst (xs.take a)] := ⟨_, rfl⟩
  obtain ⟨s2, e2⟩ : ∃ s2, s2 = s1 ++ [.lst [x]] := ⟨_, rfl⟩
  obtain ⟨s3, e3⟩ : ∃ s3, s3 = s2 ++ [.lst (xs.take a ++ [x])] := ⟨_, rfl⟩
  obtain ⟨s4, e4⟩ : ∃ s4, s4 = s3 ++ [.lst (xs.drop (a + kk))] := ⟨_, rfl⟩
  have G1 : Gr s s1 := by rw [e1]; exact Gr.app
  have G2 : Gr s1 s2 := by rw [e2]; exact Gr.app
  have G3 : Gr s2 s3 := by rw [e3]; exact Gr.app
  have G4 : Gr s3 s4 := by rw [e4]; exact Gr.app
  have a1 : lstAt s2 s.length = some (xs.take a) := G2.lst (by rw [e1]; exact lstAt_new)
  have a2 : lstAt s2 s1.length = some [x] := by rw [e2]; exact lstAt_new
  have a3 : lstAt s4 s2.length = some (xs.take a ++ [x]) := G4.lst (by rw [e3]; exact lstAt_new)
  have a4 : lstAt s4 s3.length = some (xs.drop (a + kk)) := by rw [e4]; exact lstAt_new
  have c1 : dCut (.ref r) none (some (a : Int)) s = .ok (.ref s.length) s1 := by rw [dCut_ref h, cutD_to, e1]
  have c2 : dCut (.ref r) (some ((a + kk : Nat) : Int)) none s3 = .ok (.ref s3.length) s4 := by rw [dCut_ref (G3.lst (G2.lst (G1.lst h))), cutD_from, e4]
  have o1 : oAdd (.ref s.length) (.ref s1.length) s2 = .ok (.ref s2.length) s3 := by
    rw [oAdd_ref a1 a2 (by simp; omega), e3]
  refine ⟨s4.length, s4 ++ [.lst (xs.take a ++ [x] ++ xs.drop (a + kk))], ?_, lstAt_new, ?_, ((G1.trans G2).trans (G3.trans G4)).trans Gr.app⟩
  · rw [eBin_e, eBin_e, eSl_e, eVar_e h3]
    simp only [ER.bind_ok, oNone_e, oSome_e, eVar_e h4, ofI_int, c1, eLst_e, aCons_e, aNil_e, hfe s1 (G1.lst h)]
    simp only [List.length_cons, List.length_nil, Nat.reduceLeDiff, if_true, ER.bind_ok, ← e2, o1, eSl_e, eVar_e h3, oSome_e, eBin_e, eVar_e h4, eC_e, oAdd_int, e, ofI_int, oNone_e, c2]
    exact oAdd_ref a3 a4 (by simp; omega)
  · have : s4.length = s.length + 4 := by rw [e4, e3, e2, e1]; simp
    omega
/-- a row of values: all leaves together, each not too deep -/
structure Row (nm : List (List Nat)) (L : Nat) (vs : List Vl) : Prop where
  ne : 0 < vs.length
  le : vs.length ≤ L
  sum : (vs.map Vl.sz).sum ≤ L
  dp : ∀ v ∈ vs, v.dp ≤ L - vs.length
  fit : ∀ v ∈ vs, v.fit 100 (fun x => x ∈ nm)
theorem split2 {α : Type} {vs : List α} {a : Nat} (h : a + 1 < vs.length) : ∃ x y l r, vs = l ++ x :: y :: r ∧ l.length = a ∧ vs[a]? = some x ∧ vs[a + 1]? = some y ∧ vs.take a = l ∧ vs.drop (a + 2) = r := by
  have h1 : a < vs.length := by omega
  refine ⟨vs[a], vs[a + 1], vs.take a, vs.drop (a + 2), ?_, by rw [List.length_take]; omega, List.getElem?_eq_getElem h1, List.getElem?_eq_getElem h, rfl, rfl⟩
  rw [← List.drop_eq_getElem_cons h, ← List.drop_eq_getElem_cons h1, List.take_append_drop]
theorem Row.op {nm : List (List Nat)} {L : Nat} {l r : List Vl} {x y : Vl} (o : Op) (h : Row nm L (l ++ x :: y :: r)) : Row nm L (l ++ [Vl.op o x y] ++ r) := by
  obtain ⟨h1, h2, h3, h4, h5⟩ := h
  simp at h2 h3 h4 h5 ⊢
  have hx := h4 x (by simp)
  have hy := h4 y (by simp)
  refine ⟨by simp; omega, by simp; omega, by simp [Vl.sz]; omega, fun v hv => ?_, fun v hv => ?_⟩
  · simp at hv ⊢
    rcases hv with hv | rfl | hv
    · have := h4 v (by simp [hv])
      omega
    · simp only [Vl.dp]
      omega
    · have := h4 v (by simp [hv])
      omega
  · simp at hv
    rcases hv with hv | rfl | hv
    · exact h5 v (by simp [hv])
    · exact ⟨h5 x (by simp), h5 y (by simp)⟩
    · exact h5 v (by simp [hv])
theorem Row.whn {nm : List (List Nat)} {L : Nat} {l r : List Vl} {x y z : Vl} (h : Row nm L (l ++ x :: y :: z :: r)) : Row nm L (l ++ [Vl.whn x y z] ++ r) := by
  obtain ⟨h1, h2, h3, h4, h5⟩ := h
  simp at h2 h3 h4 h5 ⊢
  have hx := h4 x (by simp)
  have hy := h4 y (by simp)
  have hz := h4 z (by simp)
  refine ⟨by simp; omega, by simp; omega, by simp [Vl.sz]; omega, fun v hv => ?_, fun v hv => ?_⟩
  · simp at hv ⊢
    rcases hv with hv | rfl | hv
    · have := h4 v (by simp [hv])
      omega
    · simp only [Vl.dp]
      omega
    · have := h4 v (by simp [hv])
      omega
  · simp at hv
    rcases hv with hv | rfl | hv
    · exact h5 v (by simp [hv])
    · exact ⟨h5 x (by simp), h5 y (by simp), h5 z (by simp)⟩
    · exact h5 v (by simp [hv])

/-! the shape walked -/
def whenW : List Nat := [119, 104, 101, 110]
theorem op_when (o : Op) : o.w ≠ whenW := by cases o <;> decide
theorem isLeaf.row {nm : List (List Nat)} {vs : List Vl} (h : ∀ v ∈ vs, isLeaf nm v) (h0 : 0 < vs.length) : Row nm vs.length vs := by
  have one : ∀ v ∈ vs, v.dr nm 0 1 := fun v hv => (h v hv).dr
  have sum : ∀ us : List Vl, (∀ v ∈ us, v.dr nm 0 1) → (us.map Vl.sz).sum ≤ us.length := fun us => by
    induction us with
    | nil => intro _; simp
    | cons u us ih =>
      intro hu
      have a := (hu u (by simp)).sz
      have b := ih fun v hv => hu v (by simp [hv])
      simp
      omega
  exact ⟨h0, Nat.le_refl _, sum vs one, fun v hv => by have := (one v hv).dp; omega, fun v hv => (one v hv).fit⟩
section
variable {ns : List Int} {st : Store} {nm : List (List Nat)} {m : Nat}
theorem w_shape {L : Nat} {Q : D → Store → Prop} (H : DS ns st) (hm : lstAt st m = some (nm.map D.str)) (h1 : m ≠ 1) (hl : nm.length ≤ 100) (hL : 0 < L) (hL2 : L ≤ 20) (hQ : ∀ (v : Vl) s, v.dr nm (L - 1) L → DS ns s → Fr st s → Q v.d s) : W (f__law_shape [.ref 1, .ref m, .int (L : Nat)] st) Q := by
  unfold f__law_shape
  rw [runB_e]
  unfold m__law_shape
  rw [W_fin]
  refine ws_cons (N' := fun τ s => ∃ r vs, τ = [some (.ref 1), some (.ref m), some (.int (L : Nat)), some (.ref r), none, none, none] ∧ r ≠ 1 ∧ lstAt s r = some (List.map Vl.d vs) ∧ Row nm L vs ∧ DS ns s ∧ Fr st s) ?_ fun τ s hp => ?_
  · refine ws_set ?_
    rw [eEl_e, W_bind, lComp_e, W_bind]
    simp only [iRg1_e, W_bind]
    rw [show ent 7 [D.ref 1, D.ref m, D.int (L : Nat)] = [some (.ref 1), some (.ref m), some (.int (L : Nat)), none, none, none, none] from rfl, eVar_e rfl, W_ok, rg1_int (by omega), W_ok]
    refine w_lc (by show (rng 0 (L : Nat)).length ≤ _; rw [rng_len]; omega) ?_
    obtain ⟨I, hI⟩ : ∃ I : Nat → List D → Store → Prop, I = fun i acc s => ∃ vs : List Vl, vs.length = i ∧ acc = vs.map Vl.d ∧ (∀ v ∈ vs, isLeaf nm v) ∧ DS ns s ∧ Fr st s := ⟨_, rfl⟩
    refine w_rng (n := L) I (fun _ _ _ _ => rfl) (by rw [hI]; exact ⟨[], rfl, rfl, by simp, H, Fr.refl⟩) (fun i acc s hi hp => ⟨_, rfl, ?_⟩) fun acc s hp => ?_
    · rw [hI] at hp
      obtain ⟨vs, hvs, rfl, hlf, D1, F1⟩ := hp
      simp [wipeD]
      refine w_leaf D1 (F1.lst hm h1) h1 hl fun v s2 hv D2 F2 => ?_
      rw [hI]
      refine ⟨vs ++ [v], by simp [hvs], by simp, fun u hu => ?_, D2, F1.trans F2⟩
      simp at hu
      rcases hu with hu | rfl
      · exact hlf u hu
      · exact hv
    · rw [hI] at hp
      obtain ⟨vs, hvs, rfl, hlf, D1, F1⟩ := hp
      rw [W_ok]
      have two := D1.len
      refine ⟨s.length, vs, rfl, by omega, lstAt_new, ?_, Gr.app.ds D1, F1.trans Gr.app.fr⟩
      rw [← hvs]
      exact isLeaf.row hlf (by omega)
  obtain ⟨r, vs, rfl, r1, g, hr, D1, F1⟩ := hp
  obtain ⟨P, hP⟩ : ∃ P : Nat → Sl → Store → Prop, P = fun n τ s => ∃ r vs x y, τ = [some (.ref 1), some (.ref m), some (.int (L : Nat)), some (.ref r), x, y, none] ∧ n = vs.length ∧ r ≠ 1 ∧ lstAt s r = some (List.map Vl.d vs) ∧ Row nm L vs ∧ DS ns s ∧ Fr st s := ⟨_, rfl⟩
  refine ws_cons (N' := fun τ s => ∃ r v x y, τ = [some (.ref 1), some (.ref m), some (.int (L : Nat)), some (.ref r), x, y, none] ∧ lstAt s r = some [Vl.d v] ∧ v.dr nm (L - 1) L ∧ DS ns s ∧ Fr st s) ?_ fun τ s hp => ?_
  · refine ws_while P ?_ big vs.length _ _ (Nat.lt_of_lt_of_le (m := 2000) (by have := hr.le; omega) (le_big (k := 11) (by decide) (by decide))) (by rw [hP]; exact ⟨r, vs, none, none, rfl, rfl, r1, g, hr, D1, F1⟩)
    clear hr g r1 D1 F1
    intro n τ s hp
    rw [hP] at hp
    obtain ⟨r, vs, x, y, rfl, rfl, r1, g, hr, D1, F1⟩ := hp
    have hg : W (tBl (eBin oGt (eCB fLen (aCons (eVar 3) aNil)) (eC (.int 1))) [some (.ref 1), some (.ref m), some (.int (L : Nat)), some (.ref r), x, y, none] s) fun b s1 => b = decide (1 < vs.length) ∧ s1 = s := by
      simp [fLen_ref g]
      omega
    refine hg.mono fun b s1 hb => ?_
    obtain ⟨hb, rfl⟩ := hb
    by_cases h2 : 1 < vs.length
    · rw [decide_eq_true h2] at hb
      subst hb
      rw [if_pos rfl]
      refine ws_cons (N' := fun τ s => ∃ a : Nat, a + 1 < vs.length ∧ τ = [some (.ref 1), some (.ref m), some (.int (L : Nat)), some (.ref r), some (.int (a : Nat)), y, none] ∧ lstAt s r = some (List.map Vl.d vs) ∧ DS ns s ∧ Fr st s) ?_ fun τ s hp => ?_
      · refine ws_set ?_
        have e : (vs.length : Int) - 1 = ((vs.length - 1 : Nat) : Int) := by omega
        have lv := hr.le
        simp [fLen_ref g, e]
        refine w_draw (many := vs.length - 1) D1 (by omega) (by omega) fun a s2 ha D2 F2 => ?_
        exact ⟨a, by omega, rfl, F2.lst g r1, D2, F1.trans F2⟩
      obtain ⟨a, ha, rfl, g2, D2, F2⟩ := hp
      refine ws_cons (N' := fun τ s => ∃ w, (w = whenW ∨ ∃ o : Op, w = o.w) ∧ τ = [some (.ref 1), some (.ref m), some (.int (L : Nat)), some (.ref r), some (.int (a : Nat)), some (.str w), none] ∧ lstAt s r = some (List.map Vl.d vs) ∧ DS ns s ∧ Fr st s) ?_ fun τ s hp => ?_
      · refine ws_set ?_
        simp
        refine w_pick (Gr.app.ds D2) lstAt_new (by have := D2.len; omega) (by simp) (by simp) fun v s2 hv D3 F3 => ?_
        have hw : ∃ w, (w = whenW ∨ ∃ o : Op, w = o.w) ∧ v = .str w := by
          simp only [List.mem_cons, List.not_mem_nil, or_false] at hv
          rcases hv with rfl | rfl | rfl | rfl | rfl | rfl | rfl | rfl | rfl | rfl | rfl
          · exact ⟨_, .inl rfl, rfl⟩
          · exact ⟨_, .inr ⟨.add, rfl⟩, rfl⟩
          · exact ⟨_, .inr ⟨.sub, rfl⟩, rfl⟩
          · exact ⟨_, .inr ⟨.mul, rfl⟩, rfl⟩
          · exact ⟨_, .inr ⟨.lt, rfl⟩, rfl⟩
          · exact ⟨_, .inr ⟨.le, rfl⟩, rfl⟩
          · exact ⟨_, .inr ⟨.eq, rfl⟩, rfl⟩
          · exact ⟨_, .inr ⟨.mn, rfl⟩, rfl⟩
          · exact ⟨_, .inr ⟨.mx, rfl⟩, rfl⟩
          · exact ⟨_, .inr ⟨.sub, rfl⟩, rfl⟩
          · exact ⟨_, .inl rfl, rfl⟩
        obtain ⟨w, hw, rfl⟩ := hw
        have F4 := Gr.app.fr.trans F3
        rcases hw with rfl | ⟨o, rfl⟩
        · exact .inl ⟨rfl, F4.lst g2 r1, D3, F2.trans F4⟩
        · exact .inr ⟨_, ⟨o, rfl⟩, rfl, F4.lst g2 r1, D3, F2.trans F4⟩
      obtain ⟨w, hw, rfl, g3, D3, F3⟩ := hp
      have lv : (List.map Vl.d vs).length ≤ 100 := by rw [List.length_map]; have := hr.le; omega
      refine ws_ifd (fun b s1 => s1 = s ∧ (b = true ↔ w = whenW ∧ a + 2 < vs.length)) ?_ (fun s1 h => ?_) (fun s1 h => ?_)
      · by_cases hw2 : w = whenW
        · subst hw2
          simp [whenW, fLen_ref g3]
          omega
        · have : ¬ w = [119, 104, 101, 110] := hw2
          simp [this]
          intro h
          exact absurd h hw2
      · obtain ⟨rfl, hb⟩ := h
        obtain ⟨hw2, ha2⟩ := hb.mp rfl
        obtain ⟨u, v, l, t, e, el, hu, hv, el2, et⟩ := split2 ha
        cases t with
        | nil => rw [e] at ha2; simp at ha2; omega
        | cons z t =>
          have hz : vs[a + 2]? = some z := by rw [e, ← el]; simp
          have i0 : atI (List.map Vl.d vs) (a : Nat) = some u.d := atI_nat (by simp [hu])
          have i1 : atI (List.map Vl.d vs) ((a : Int) + 1) = some v.d := atI_nat (xs := List.map Vl.d vs) (j := a + 1) (by simp [hv])
          have i2 : atI (List.map Vl.d vs) ((a : Int) + 2) = some z.d := atI_nat (xs := List.map Vl.d vs) (j := a + 2) (by simp [hz])
          refine ws_set ?_
          obtain ⟨p, s2, e1, g4, p1, G4⟩ := r_splice (k := 3) (kk := 3) (x := (Vl.whn u v z).d) (fe := eTup (aCons (eC (.str [119, 104, 101, 110])) (aCons (eBin oIx (eVar 3) (eVar 4)) (aCons (eBin oIx (eVar 3) (eBin oAdd (eVar 4) (eC (.int 1)))) (aCons (eBin oIx (eVar 3) (eBin oAdd (eVar 4) (eC (.int 2)))) aNil))))) (τ := [some (.ref 1), some (.ref m), some (.int (L : Nat)), some (.ref r), some (.int (a : Nat)), some (.str w), none]) g3 rfl rfl rfl (fun s' g' => by simp [oIx_ref g', i0, i1, i2, Vl.d]) lv
          rw [e1, W_ok, hP]
          have e2 : List.take a (vs.map Vl.d) ++ [(Vl.whn u v z).d] ++ List.drop (a + 3) (vs.map Vl.d) = List.map Vl.d (l ++ [Vl.whn u v z] ++ t) := by
            rw [← List.map_take, ← List.map_drop, el2, show vs.drop (a + 3) = t by
              have q : vs.drop (a + 3) = (vs.drop (a + 2)).drop 1 := by rw [List.drop_drop]
              rw [q, et]; rfl]
            simp
          rw [e2] at g4
          refine ⟨(l ++ [Vl.whn u v z] ++ t).length, ?_, p, _, _, _, rfl, rfl, p1, g4, Row.whn (e ▸ hr), G4.ds D3, F3.trans G4.fr⟩
          rw [e]
          simp <;> omega
      · obtain ⟨rfl, hb⟩ := h
        obtain ⟨u, v, l, t, e, el, hu, hv, el2, et⟩ := split2 ha
        have i0 : atI (List.map Vl.d vs) (a : Nat) = some u.d := atI_nat (by simp [hu])
        have i1 : atI (List.map Vl.d vs) ((a : Int) + 1) = some v.d := atI_nat (xs := List.map Vl.d vs) (j := a + 1) (by simp [hv])
        obtain ⟨o, ho⟩ : ∃ o : Op, (if w = [119, 104, 101, 110] then [109, 105, 110] else w) = o.w := by
          rcases hw with rfl | ⟨o, rfl⟩
          · exact ⟨.mn, rfl⟩
          · exact ⟨o, if_neg (op_when o)⟩
        refine ws_set ?_
        obtain ⟨p, s2, e1, g4, p1, G4⟩ := r_splice (k := 2) (kk := 2) (x := (Vl.op o u v).d) (fe := eTup (aCons (eIf (tBl (eBin oEq (eVar 5) (eC (.str [119, 104, 101, 110])))) (eC (.str [109, 105, 110])) (eVar 5)) (aCons (eBin oIx (eVar 3) (eVar 4)) (aCons (eBin oIx (eVar 3) (eBin oAdd (eVar 4) (eC (.int 1)))) aNil)))) (τ := [some (.ref 1), some (.ref m), some (.int (L : Nat)), some (.ref r), some (.int (a : Nat)), some (.str w), none]) g3 rfl rfl rfl (fun s' g' => by
          by_cases hw2 : w = [119, 104, 101, 110]
          · rw [if_pos hw2] at ho
            simp [oIx_ref g', i0, i1, Vl.d, hw2, ho]
          · rw [if_neg hw2] at ho
            simp [oIx_ref g', i0, i1, Vl.d, hw2, ho]
            intro h3
            exact absurd h3 (op_when o)) lv
        rw [e1, W_ok, hP]
        have e2 : List.take a (vs.map Vl.d) ++ [(Vl.op o u v).d] ++ List.drop (a + 2) (vs.map Vl.d) = List.map Vl.d (l ++ [Vl.op o u v] ++ t) := by
          rw [← List.map_take, ← List.map_drop, el2, et]
          simp
        rw [e2] at g4
        refine ⟨(l ++ [Vl.op o u v] ++ t).length, ?_, p, _, _, _, rfl, rfl, p1, g4, Row.op o (e ▸ hr), G4.ds D3, F3.trans G4.fr⟩
        rw [e]
        simp <;> omega
    · rw [decide_eq_false h2] at hb
      subst hb
      rw [if_neg (by decide)]
      obtain ⟨h1, h3, h4, h5, h6⟩ := hr
      match vs, h1, h2, h3, h4, h5, h6, g with
      | [v], _, _, h3, h4, h5, h6, g =>
        exact ⟨r, v, x, y, rfl, g, ⟨by simpa using h5 v (by simp), by simpa using h4, h6 v (by simp)⟩, D1, F1⟩
      | _ :: _ :: _, _, h2, _, _, _, _, _ => exact absurd h2 (by simp)
  obtain ⟨r, v, x, y, rfl, g, dv, D1, F1⟩ := hp
  refine ws_ret ?_
  simp [oIx_ref g]
  exact hQ v s dv D1 F1
end

/-! edges -/
theorem Vl.fit.up {B B' : Nat} {P Q : List Nat → Prop} (hB : B ≤ B') (h : ∀ x, P x → Q x) : ∀ {v : Vl}, v.fit B P → v.fit B' Q
  | .num _, f => Nat.lt_of_lt_of_le f (Nat.pow_le_pow_right (by decide) hB)
  | .nam x, f => h x f
  | .op _ _ _, f => ⟨f.1.up hB h, f.2.up hB h⟩
  | .whn _ _ _, f => ⟨f.1.up hB h, f.2.1.up hB h, f.2.2.up hB h⟩
theorem ev_congr {e e' : List Nat → Int} {B : Nat} {P : List Nat → Prop} (h : ∀ x, P x → e x = e' x) : ∀ {v : Vl}, v.fit B P → ev e v = ev e' v
  | .num _, _ => rfl
  | .nam x, f => h x f
  | .op o a b, f => by simp only [ev, ev_congr h f.1, ev_congr h f.2]
  | .whn a b c, f => by simp only [ev, ev_congr h f.1, ev_congr h f.2.1, ev_congr h f.2.2]
theorem lk_cons {x y : List Nat} {w : Int} {ps : List (List Nat × Int)} : lk ((x, w) :: ps) y = if x = y then w else lk ps y := by
  unfold lk
  by_cases h : x = y
  · simp [h]
  · rw [List.find?_cons_of_neg (by simpa using h), if_neg h]
theorem lk_mem {x : List Nat} {ps : List (List Nat × Int)} (h : x ∈ ps.map (·.1)) : ∃ p ∈ ps, lk ps x = p.2 := by
  induction ps with
  | nil => cases h
  | cons p ps ih =>
    obtain ⟨y, w⟩ := p
    rw [lk_cons]
    by_cases e : y = x
    · exact ⟨(y, w), by simp, by rw [if_pos e]⟩
    · rw [if_neg e]
      simp only [List.map_cons, List.mem_cons] at h
      rcases h with h | h
      · exact absurd h.symm e
      · obtain ⟨p, hp, e2⟩ := ih h
        exact ⟨p, by simp [hp], e2⟩
theorem Env.of {B : Nat} {ps : List (List Nat × Int)} (nd : (ps.map (·.1)).Nodup) (len : ps.length ≤ 10) (h : ∀ p ∈ ps, p.2.natAbs < 2 ^ B) : Env B ps :=
  ⟨nd, len, fun x hx => by
    obtain ⟨p, hp, e⟩ := lk_mem hx
    rw [e]
    exact h p hp⟩
theorem Env.wider {ps : List (List Nat × Int)} {x : List Nat} {w : Int} (E : Env 101 ps) (hx : x ∉ ps.map (·.1)) (hl : ps.length ≤ 9) (hw : w.natAbs < 2 ^ 400) : Env 400 ((x, w) :: ps) where
  nd := by
    rw [List.map_cons, List.nodup_cons]
    exact ⟨hx, E.nd⟩
  len := by rw [List.length_cons]; omega
  small := fun y hy => by
    rw [lk_cons]
    split
    · exact hw
    · rename_i h
      simp only [List.map_cons, List.mem_cons] at hy
      rcases hy with hy | hy
      · exact absurd hy.symm h
      · exact Nat.lt_of_lt_of_le (E.small y hy) (Nat.pow_le_pow_right (by decide) (by decide))
section
variable {st : Store} {ps : List (List Nat × Int)} {v : Vl} {n : Nat} {x : List Nat}
def wordOps : List Op := [.lt, .le, .eq, .mn, .mx, .add, .sub, .mul]
theorem w_edges (E : Env 101 ps) (hx : x ∉ ps.map (·.1)) (hl : ps.length ≤ 9) (hf : v.fit 101 (fun y => y ∈ ps.map (·.1))) (hd : v.dp ≤ 10) (hz : v.sz ≤ 3) (h : lstAt st n = some (ps.map enD)) : W (f__law_tells_edges [v.d, .ref n, .str x] st) fun d s => d = .bl true ∧ Gr st s := by
  unfold f__law_tells_edges
  rw [runB_e]
  unfold m__law_tells_edges
  rw [W_fin]
  have ok1 : v.ok 101 ps := ⟨by omega, hf, by omega⟩
  obtain ⟨wh, hwh⟩ : ∃ wh, wh = ev (lk ps) v := ⟨_, rfl⟩
  have whs : wh.natAbs < 2 ^ 303 := by
    rw [hwh]
    exact Nat.lt_of_lt_of_le (ev_lt (by decide) (hf.mono E.small)) (Nat.pow_le_pow_right (by decide) (by omega))
  refine ws_cons (N' := fun τ s => τ = [some v.d, some (.ref n), some (.str x), some (.int wh), none, none, none, none, none] ∧ Gr st s) ?_ fun τ s hp => ?_
  · refine ws_set ?_
    simp
    refine (w_law_val (by decide) E ok1 h).mono fun d s hp => ?_
    obtain ⟨rfl, G⟩ := hp
    rw [hwh]
    exact ⟨rfl, G⟩
  obtain ⟨rfl, G0⟩ := hp
  refine ws_cons (N' := fun τ s => Gr st s) ?_ fun τ s hp => ?_
  · refine ws_forD (fun q s1 => ∃ c, q = .cell c ([-1, 0, 1].map D.int) ∧ lstAt s1 c = some ([-1, 0, 1].map D.int) ∧ Gr st s1) ?_ ?_
    · simp
      rw [dSq_ref (n := s.length) (xs := [.int (-1), .int 0, .int 1]) lstAt_new]
      exact ⟨s.length, rfl, lstAt_new, G0.trans Gr.app⟩
    · rintro _ s1 ⟨c, rfl, gc, G1⟩
      obtain ⟨I, hI⟩ : ∃ I : Nat → Sl → Store → Prop, I = fun i τ s => ∃ a b c' d e, τ = [some v.d, some (.ref n), some (.str x), some (.int wh), a, b, c', d, e] ∧ lstAt s c = some ([-1, 0, 1].map D.int) ∧ Gr st s := ⟨_, rfl⟩
      refine ws_map D.int [-1, 0, 1] rfl I (fun k τ s hp => ?_) (by rw [hI]; exact ⟨_, _, _, _, _, rfl, gc, G1⟩) (fun i more τ s hi hp => ?_) fun τ s hp => ?_
      · rw [hI] at hp
        obtain ⟨_, _, _, _, _, _, g, _⟩ := hp
        simp [Sq.chk]
        exact g
      · have hmore : more = -1 ∨ more = 0 ∨ more = 1 := by
          have := List.mem_of_getElem? hi
          simpa using this
        clear hi
        rw [hI] at hp
        obtain ⟨a, b, c', d', e', rfl, gc, G2⟩ := hp
        refine ⟨_, rfl, ?_⟩
        have E2 : Env 400 ((x, wh + more) :: ps) := E.wider hx hl (by
          have : (2 : Nat) ^ 303 + 1 ≤ 2 ^ 400 := by decide
          omega)
        have up : ∀ y, y ∈ ps.map (·.1) → y ∈ ((x, wh + more) :: ps).map (·.1) := fun y hy => by
          rw [List.map_cons]
          exact List.mem_cons_of_mem _ hy
        have hf2 := hf.up (B' := 400) (by decide) up
        have hxm : x ∈ ((x, wh + more) :: ps).map (·.1) := by simp
        refine ws_cons (N' := fun τ s => ∃ q, τ = [some v.d, some (.ref n), some (.str x), some (.int wh), some (.int more), some (.ref q), c', d', e'] ∧ lstAt s q = some (((x, wh + more) :: ps).map enD) ∧ lstAt s c = some ([-1, 0, 1].map D.int) ∧ Gr st s) ?_ fun τ s hp => ?_
        · refine ws_set ?_
          have g1 : lstAt (s ++ [.lst [.tup [.str x, .int (wh + more)]]]) s.length = some [.tup [.str x, .int (wh + more)]] := lstAt_new
          have g2 : lstAt (s ++ [.lst [.tup [.str x, .int (wh + more)]]]) n = some (ps.map enD) := Gr.app.lst (G2.lst h)
          simp [gN]
          rw [oAdd_ref g1 g2 (by simp; omega)]
          refine ⟨_, rfl, ?_, Gr.app.lst (Gr.app.lst gc), (G2.trans Gr.app).trans Gr.app⟩
          rw [lstAt_new]
          rfl
        obtain ⟨q, rfl, gq, gc, G3⟩ := hp
        refine ws_cons (N' := fun τ s' => τ = [some v.d, some (.ref n), some (.str x), some (.int wh), some (.int more), some (.ref q), some (Vl.d (.nam x)), d', e'] ∧ s' = s) ?_ fun τ s' hp => ?_
        · refine ws_set ?_
          simp [Vl.d]
        obtain ⟨rfl, rfl⟩ := hp
        refine ws_cons (N' := fun τ s => ∃ d', τ = [some v.d, some (.ref n), some (.str x), some (.int wh), some (.int more), some (.ref q), some (Vl.d (.nam x)), d', e'] ∧ lstAt s q = some (((x, wh + more) :: ps).map enD) ∧ lstAt s c = some ([-1, 0, 1].map D.int) ∧ Gr st s) ?_ fun τ s hp => ?_
        · refine ws_forD (fun q' s1 => ∃ u, q' = .cell u (wordOps.map fun o => D.str o.w) ∧ lstAt s1 u = some (wordOps.map fun o => D.str o.w) ∧ Gr s' s1) ?_ ?_
          · simp
            rw [dSq_ref lstAt_new]
            exact ⟨s'.length, rfl, lstAt_new, Gr.app⟩
          · rintro _ s1 ⟨u, rfl, gu, G4⟩
            obtain ⟨J, hJ⟩ : ∃ J : Nat → Sl → Store → Prop, J = fun i τ s => ∃ d', τ = [some v.d, some (.ref n), some (.str x), some (.int wh), some (.int more), some (.ref q), some (Vl.d (.nam x)), d', e'] ∧ lstAt s u = some (wordOps.map fun o => D.str o.w) ∧ Gr s' s := ⟨_, rfl⟩
            refine ws_map (fun o : Op => D.str o.w) wordOps rfl J (fun k τ s hp => ?_) (by rw [hJ]; exact ⟨_, rfl, gu, G4⟩) (fun i o τ s _ hp => ?_) fun τ s hp => ?_
            · rw [hJ] at hp
              obtain ⟨_, _, g, _⟩ := hp
              exact decide_eq_true g
            · rw [hJ] at hp
              obtain ⟨d2, rfl, gu, G5⟩ := hp
              refine ⟨_, rfl, ?_⟩
              refine ws_ifd (fun b s1 => b = false ∧ Gr s s1) ?_ (fun s1 h => absurd h.1 (by decide)) (fun s1 h => ?_)
              · have okA : (Vl.op o v (.nam x)).ok 400 ((x, wh + more) :: ps) := ⟨by simp only [Vl.dp]; omega, ⟨hf2, hxm⟩, by simp only [Vl.sz]; omega⟩
                have okB : (Vl.op o (.nam x) v).ok 400 ((x, wh + more) :: ps) := ⟨by simp only [Vl.dp]; omega, ⟨hxm, hf2⟩, by simp only [Vl.sz]; omega⟩
                simp [gN]
                refine (w_tells (by decide) E2 okA (G5.lst gq)).mono fun d s2 hp => ?_
                obtain ⟨rfl, G6⟩ := hp
                simp
                refine (w_tells (by decide) E2 okB (G6.lst (G5.lst gq))).mono fun d s3 hp => ?_
                obtain ⟨rfl, G7⟩ := hp
                simp
                exact G6.trans G7
              · rw [sNil_e, WS_nx, hJ]
                exact ⟨_, rfl, h.2.lst gu, G5.trans h.2⟩
            · rw [hJ] at hp
              obtain ⟨d2, rfl, gu, G5⟩ := hp
              exact ⟨d2, rfl, G5.lst gq, G5.lst gc, G3.trans G5⟩
        obtain ⟨d3, rfl, gq, gc, G4⟩ := hp
        refine ws_cons (N' := fun τ s => τ = [some v.d, some (.ref n), some (.str x), some (.int wh), some (.int more), some (.ref q), some (Vl.d (.nam x)), d3, some (.int (if more = 1 then 5 else 7))] ∧ lstAt s c = some ([-1, 0, 1].map D.int) ∧ Gr st s) ?_ fun τ s hp => ?_
        · refine ws_set ?_
          have okC : (Vl.whn (.op .sub (.nam x) v) (.num 5) (.num 7)).ok 400 ((x, wh + more) :: ps) := ⟨by simp only [Vl.dp]; omega, ⟨⟨hxm, hf2⟩, show (5 : Int).natAbs < 2 ^ 400 by decide, show (7 : Int).natAbs < 2 ^ 400 by decide⟩, by simp only [Vl.sz]; omega⟩
          simp [fTuple_ref gq]
          refine (w_value_of (by decide) E2 okC).mono fun d s2 hp => ?_
          obtain ⟨rfl, G6⟩ := hp
          refine ⟨?_, G6.lst gc, G4.trans G6⟩
          refine congrArg D.int ?_
          have ec : ev (lk ((x, wh + more) :: ps)) v = wh := by
            rw [hwh]
            refine ev_congr (P := fun y => y ∈ ps.map (·.1)) (fun y hy => ?_) hf
            rw [lk_cons, if_neg]
            intro e
            rw [e] at hx
            exact hx hy
          simp only [ev, Op.f, ec, lk_cons, if_true]
          rcases hmore with rfl | rfl | rfl
          · rw [if_neg (by omega), if_neg (by decide)]
          · rw [if_neg (by omega), if_neg (by decide)]
          · rw [if_pos (by omega), if_pos rfl]
        obtain ⟨rfl, gc, G5⟩ := hp
        refine ws_ifd (fun b s1 => b = false ∧ s1 = s) ?_ (fun s1 h => absurd h.1 (by decide)) (fun s1 h => ?_)
        · simp [r_is_int]
          by_cases hm : more = 1
          · simp [hm]
          · simp [hm]
        · obtain ⟨_, rfl⟩ := h
          rw [sNil_e, WS_nx, hI]
          exact ⟨_, _, _, _, _, rfl, gc, G5⟩
      · rw [hI] at hp
        obtain ⟨_, _, _, _, _, _, _, G⟩ := hp
        exact G
  · refine ws_ret ?_
    simp
    exact hp
end

/-! pieces of the law -/
/-- row[:at] + [one] + row[at + 1:], the one being drawn -/
theorem w_splice {ns : List Int} {τ : Sl} {s : Store} {r a i j : Nat} {xs : List D} {fe : EM D} {G : D → Prop} {Q : D → Store → Prop} (H : DS ns s) (h : lstAt s r = some xs) (r1 : r ≠ 1) (h3 : τ[i]? = some (some (.ref r))) (h4 : τ[j]? = some (some (.int (a : Nat)))) (hl : xs.length ≤ 100)
    (hfe : ∀ s', DS ns s' → Fr s s' → W (fe τ s') fun y s2 => G y ∧ DS ns s2 ∧ Fr s' s2) (hQ : ∀ p y s', G y → p ≠ 1 → lstAt s' p = some (xs.take a ++ [y] ++ xs.drop (a + 1)) → DS ns s' → Fr s s' → Q (.ref p) s') :
    W ((eBin oAdd (eBin oAdd (eSl (eVar i) oNone (oSome (eVar j))) (eLst (aCons fe aNil))) (eSl (eVar i) (oSome (eBin oAdd (eVar j) (eC (.int 1)))) oNone)) τ s) Q := by
  have e : (a : Int) + 1 = ((a + 1 : Nat) : Int) := by omega
  obtain ⟨s1, e1⟩ : ∃ s1, s1 = s ++ [.lst (xs.take a)] := ⟨_, rfl⟩
  have F1 : Fr s s1 := by rw [e1]; exact Gr.app.fr
  have D1 : DS ns s1 := by rw [e1]; exact Gr.app.ds H
  have two := H.len
  have a0 : lstAt s1 s.length = some (xs.take a) := by rw [e1]; exact lstAt_new
  have c1 : dCut (.ref r) none (some (a : Int)) s = .ok (.ref s.length) s1 := by rw [dCut_ref h, cutD_to, e1]
  rw [eBin_e, eBin_e, eSl_e, eVar_e h3]
  simp only [ER.bind_ok, oNone_e, oSome_e, eVar_e h4, ofI_int, c1, eLst_e, aCons_e, aNil_e, W_bind]
  refine (hfe s1 D1 F1).mono fun y s2 hp => ?_
  obtain ⟨hy, D2, F2⟩ := hp
  have F12 := F1.trans F2
  obtain ⟨s3, e3⟩ : ∃ s3, s3 = s2 ++ [.lst [y]] := ⟨_, rfl⟩
  obtain ⟨s4, e4⟩ : ∃ s4, s4 = s3 ++ [.lst (xs.take a ++ [y])] := ⟨_, rfl⟩
  obtain ⟨s5, e5⟩ : ∃ s5, s5 = s4 ++ [.lst (xs.drop (a + 1))] := ⟨_, rfl⟩
  have G3 : Gr s2 s3 := by rw [e3]; exact Gr.app
  have G4 : Gr s3 s4 := by rw [e4]; exact Gr.app
  have G5 : Gr s4 s5 := by rw [e5]; exact Gr.app
  have b0 : lstAt s3 s.length = some (xs.take a) := G3.lst (F2.lst a0 (by omega))
  have b1 : lstAt s3 s2.length = some [y] := by rw [e3]; exact lstAt_new
  have o1 : oAdd (.ref s.length) (.ref s2.length) s3 = .ok (.ref s3.length) s4 := by
    rw [oAdd_ref b0 b1 (by simp; omega), e4]
  have g4 : lstAt s4 r = some xs := G4.lst (G3.lst (F12.lst h r1))
  have c2 : dCut (.ref r) (some ((a + 1 : Nat) : Int)) none s4 = .ok (.ref s4.length) s5 := by rw [dCut_ref g4, cutD_from, e5]
  have b3 : lstAt s5 s3.length = some (xs.take a ++ [y]) := G5.lst (by rw [e4]; exact lstAt_new)
  have b4 : lstAt s5 s4.length = some (xs.drop (a + 1)) := by rw [e5]; exact lstAt_new
  have l5 : s5.length = s2.length + 3 := by rw [e5, e4, e3]; simp
  simp only [W_ok, List.length_cons, List.length_nil, W_ite]
  rw [if_pos (by decide), ← e3, o1, W_ok, eSl_e, eVar_e h3, ER.bind_ok, oSome_e, eBin_e, eVar_e h4, ER.bind_ok, eC_e, ER.bind_ok, oAdd_int, ER.bind_ok, e, ofI_int, ER.bind_ok, oNone_e, ER.bind_ok, c2, W_ok, oAdd_ref b3 b4 (by simp; omega), W_ok]
  have l2 := F12.len
  exact hQ _ y _ hy (by omega) lstAt_new ((((G3.trans G4).trans G5).trans Gr.app).ds D2) (F12.trans (((G3.trans G4).trans G5).trans Gr.app).fr)
theorem unEn {t : List D} {ps : List (List Nat × Int)} (h : t.Perm (ps.map enD)) : ∃ qs : List (List Nat × Int), t = qs.map enD ∧ qs.Perm ps := by
  obtain ⟨f, hf⟩ : ∃ f : D → List Nat × Int, ∀ p, f (enD p) = p := ⟨fun d => match d with
    | .tup [.str x, .int i] => (x, i)
    | _ => ([], 0), fun p => rfl⟩
  refine ⟨t.map f, ?_, ?_⟩
  · rw [List.map_map]
    have : ∀ d ∈ t, (enD ∘ f) d = d := fun d hd => by
      obtain ⟨p, _, rfl⟩ := List.mem_map.mp (h.mem_iff.mp hd)
      show enD (f (enD p)) = enD p
      rw [hf]
    rw [List.map_congr_left this, List.map_id']
  · have e := h.map f
    rw [List.map_map] at e
    have : ps.map (f ∘ enD) = ps := by
      have : ∀ p ∈ ps, (f ∘ enD) p = p := fun p _ => hf p
      rw [List.map_congr_left this, List.map_id']
    rwa [this] at e
section
variable {ns : List Int} {st : Store}
/-- what the law's store holds: pool, names, integers, environment -/
structure LS (ns : List Int) (p m t e : Nat) (rest nm : List (List Nat)) (is : List Int) (ps : List (List Nat × Int)) (s : Store) : Prop where
  ds : DS ns s
  pool : lstAt s p = some (rest.map D.str)
  nam : lstAt s m = some (nm.map D.str)
  int : lstAt s t = some (is.map D.int)
  env : lstAt s e = some (ps.map enD)
theorem LS.fr {p m t e : Nat} {rest nm : List (List Nat)} {is : List Int} {ps : List (List Nat × Int)} {s s' : Store} (h : LS ns p m t e rest nm is ps s) (hp : 1 < p) (hm : 1 < m) (ht : 1 < t) (he : 1 < e) (D : DS ns s') (F : Fr s s') : LS ns p m t e rest nm is ps s' :=
  ⟨D, F.lst h.pool (by omega), F.lst h.nam (by omega), F.lst h.int (by omega), F.lst h.env (by omega)⟩
/-- names that are drawn from the pool -/
theorem w_names {τ : Sl} {p k : Nat} {Q : List D → Store → Prop} (h1 : τ[1]? = some (some (.ref 1))) (h2 : τ[2]? = some (some (.ref p))) (hk : 13 < τ.length) (H : DS ns st) (hp : lstAt st p = some (poolL.map D.str)) (p1 : 1 < p) (hk4 : k ≤ 4)
    (hQ : ∀ (nm rest : List (List Nat)) s, nm.length = k → (nm ++ rest).Perm poolL → DS ns s → lstAt s p = some (rest.map D.str) → Q (nm.map D.str) s) :
    W (compL (.fix (rng 0 (k : Nat))) (gN 13) tYes (eCall 2 f__law_pop (aCons (eVar 1) (aCons (eVar 2) aNil))) τ (rng 0 (k : Nat)) [] st) Q := by
  obtain ⟨I, hI⟩ : ∃ I : Nat → List D → Store → Prop, I = fun i acc s => ∃ nm rest : List (List Nat), nm.length = i ∧ acc = nm.map D.str ∧ (nm ++ rest).Perm poolL ∧ DS ns s ∧ lstAt s p = some (rest.map D.str) := ⟨_, rfl⟩
  refine w_rng (n := k) I (fun _ _ _ _ => rfl) (by rw [hI]; exact ⟨[], poolL, rfl, rfl, List.Perm.refl _, H, hp⟩) (fun i acc s hi hq => ⟨τ.set 13 (some (.int (i : Nat))), by unfold gN; simp [hk], ?_⟩) fun acc s hq => ?_
  · rw [hI] at hq
    obtain ⟨nm, rest, hn, rfl, hp2, D1, g⟩ := hq
    have lr : rest.length = 68 - i := by
      have := hp2.length_eq
      rw [pool_len, List.length_append, hn] at this
      omega
    have h1' : (τ.set 13 (some (.int (i : Nat))))[1]? = some (some (.ref 1)) := by rw [List.getElem?_set_ne (by decide)]; exact h1
    have h2' : (τ.set 13 (some (.int (i : Nat))))[2]? = some (some (.ref p)) := by rw [List.getElem?_set_ne (by decide)]; exact h2
    simp [eVar_e h1', eVar_e h2']
    refine w_pop D1 g p1 (by simp; omega) (by simp; omega) fun k x s2 hx D2 g2 _ => ?_
    rw [List.getElem?_map] at hx
    cases hy : rest[k]? with
    | none => rw [hy] at hx; cases hx
    | some y =>
      rw [hy] at hx
      cases hx
      rw [hI]
      obtain ⟨hkl, hyk⟩ := List.getElem?_eq_some_iff.mp hy
      refine ⟨nm ++ [y], rest.eraseIdx k, by simp [hn], by simp, ?_, D2, ?_⟩
      · refine List.Perm.trans ?_ hp2
        rw [List.append_assoc]
        refine List.Perm.append_left nm ?_
        have e : rest.Perm (rest[k] :: rest.eraseIdx k) := by
          rw [List.eraseIdx_eq_take_drop_succ]
          conv => lhs; rw [← List.take_append_drop k rest, List.drop_eq_getElem_cons hkl]
          exact List.perm_middle
        rw [hyk] at e
        exact e.symm
      · rw [g2, List.eraseIdx_eq_take_drop_succ, List.eraseIdx_eq_take_drop_succ, List.map_append, List.map_take, List.map_drop]
  · rw [hI] at hq
    obtain ⟨nm, rest, hn, rfl, hp2, D1, g⟩ := hq
    exact hQ nm rest s hn hp2 D1 g
end

/-! the law -/
section
variable {ns : List Int}
/-- slots of the law -/
def sl (S : D) (p m t e v x : Option D) (r : List (Option D)) : Sl := some S :: some (.ref 1) :: p :: m :: t :: e :: v :: x :: r
theorem w_ints {τ : Sl} {m : Nat} {st : Store} {nm : List (List Nat)} {Q : List D → Store → Prop} (h1 : τ[1]? = some (some (.ref 1))) (hk : 14 < τ.length) (H : DS ns st) (m1 : 1 < m) (hm : lstAt st m = some (nm.map D.str))
    (hQ : ∀ (is : List Int) s, is.length = nm.length → (∀ i ∈ is, i.natAbs < 2 ^ 100) → DS ns s → Fr st s → Q (is.map D.int) s) :
    W (compL (.cell m (nm.map D.str)) (gN 14) tYes (eBin oSub (eCall 2 f__law_draw (aCons (eVar 1) (aCons (eC (.int 16)) aNil))) (eC (.int 3))) τ (nm.map D.str) [] st) Q := by
  obtain ⟨I, hI⟩ : ∃ I : Nat → List D → Store → Prop, I = fun i acc s => ∃ is : List Int, is.length = i ∧ acc = is.map D.int ∧ (∀ i ∈ is, i.natAbs < 2 ^ 100) ∧ DS ns s ∧ Fr st s := ⟨_, rfl⟩
  refine w_mapc D.str nm rfl I (fun k acc s hp => ?_) (by rw [hI]; exact ⟨[], rfl, rfl, by simp, H, Fr.refl⟩) (fun i a acc s ha hp => ⟨τ.set 14 (some (.str a)), by unfold gN; simp [hk], ?_⟩) fun acc s hp => ?_
  · rw [hI] at hp
    obtain ⟨_, _, _, _, _, F⟩ := hp
    exact decide_eq_true (F.lst hm (by omega))
  · rw [hI] at hp
    obtain ⟨is, hn, rfl, hb, D1, F1⟩ := hp
    have h1' : (τ.set 14 (some (.str a)))[1]? = some (some (.ref 1)) := by rw [List.getElem?_set_ne (by decide)]; exact h1
    simp [eVar_e h1']
    refine w_draw (many := 16) D1 (by decide) (by decide) fun v s2 hv D2 F2 => ?_
    simp
    rw [hI]
    refine ⟨is ++ [(v : Int) - 3], by simp [hn], by simp, fun j hj => ?_, D2, F1.trans F2⟩
    simp at hj
    rcases hj with hj | rfl
    · exact hb j hj
    · omega
  · rw [hI] at hp
    obtain ⟨is, hn, rfl, hb, D1, F1⟩ := hp
    exact hQ is s hn hb D1 F1
/-- names and integers side by side -/
def pairUp (nm : List (List Nat)) (is : List Int) : List (List Nat × Int) := (List.range nm.length).map fun k => (nm.getD k [], is.getD k 0)
theorem pairUp_fst {nm : List (List Nat)} {is : List Int} : (pairUp nm is).map (·.1) = nm := by
  unfold pairUp
  rw [List.map_map]
  refine List.ext_getElem (by simp) fun i h1 h2 => ?_
  simp [List.getD_eq_getElem?_getD, h2]
theorem pairUp_len {nm : List (List Nat)} {is : List Int} : (pairUp nm is).length = nm.length := by simp [pairUp]
theorem pairUp_at {nm : List (List Nat)} {is : List Int} {k : Nat} (h : k < nm.length) : (pairUp nm is)[k]? = some (nm.getD k [], is.getD k 0) := by
  unfold pairUp
  rw [List.getElem?_map, List.getElem?_range h]
  rfl
theorem pairUp_small {nm : List (List Nat)} {is : List Int} {B : Nat} (h : ∀ i ∈ is, i.natAbs < 2 ^ B) : ∀ p ∈ pairUp nm is, p.2.natAbs < 2 ^ B := fun p hp => by
  unfold pairUp at hp
  obtain ⟨k, _, rfl⟩ := List.mem_map.mp hp
  show (is.getD k 0).natAbs < _
  rw [List.getD_eq_getElem?_getD]
  cases hx : is[k]? with
  | none => exact Nat.pow_pos (by decide)
  | some a => exact h a (List.mem_of_getElem? hx)
theorem Vl.dr.ok {nm : List (List Nat)} {v : Vl} {ps : List (List Nat × Int)} (h : v.dr nm 30 31) (hn : ∀ x ∈ nm, x ∈ ps.map (·.1)) : v.ok 101 ps :=
  ⟨by have := h.dp; omega, h.fit.up (by decide) hn, by have := h.sz; omega⟩
theorem up100 {x : Nat} (h : x < 2 ^ 100) : x < 2 ^ 101 := Nat.lt_trans h (by decide)
end

theorem law_holds (ns : List Int) (hl : ns.length ≤ 63) : ∃ st, f_law [.rol (ns.map D.int)] [] = .ok (.bl true) st := by
  have key : W (f_law [.rol (ns.map D.int)] []) fun d _ => d = .bl true := by
    unfold f_law
    rw [runB_e]
    unfold m_law
    rw [W_fin]
    obtain ⟨S, hS⟩ : ∃ S, S = D.rol (ns.map D.int) := ⟨_, rfl⟩
    refine ws_cons (N' := fun τ s => τ = [some S, some (.ref 1), none, none, none, none, none, none, none, none, none, none, none, none, none, none] ∧ DS ns s) ?_ fun τ s hp => ?_
    · refine ws_set ?_
      obtain ⟨s1, e1, D1, _⟩ := r_begin hl
      simp [e1, hS]
      exact D1
    obtain ⟨rfl, D1⟩ := hp
    refine ws_cons (N' := fun τ s => ∃ p, τ = [some S, some (.ref 1), some (.ref p), none, none, none, none, none, none, none, none, none, none, none, none, none] ∧ 1 < p ∧ DS ns s ∧ lstAt s p = some (poolL.map D.str)) ?_ fun τ s hp => ?_
    · refine ws_set ?_
      simp only [eCall_e, aNil_e, ER.bind_ok, List.length_nil, if_true]
      refine w_pool.mono fun d s' hp => ?_
      obtain ⟨rfl, rfl⟩ := hp
      exact ⟨_, rfl, D1.len, Gr.app.ds D1, lstAt_new⟩
    obtain ⟨p, rfl, p1, D2, gp⟩ := hp
    refine ws_cons (N' := fun τ s => ∃ m nm rest, τ = [some S, some (.ref 1), some (.ref p), some (.ref m), none, none, none, none, none, none, none, none, none, none, none, none] ∧ 1 < m ∧ m ≠ p ∧ nm.length ≤ 4 ∧ (nm ++ rest).Perm poolL ∧ DS ns s ∧ lstAt s p = some (List.map D.str rest) ∧ lstAt s m = some (List.map D.str nm)) ?_ fun τ s hp => ?_
    · refine ws_setLc (fun q s1 => ∃ k : Nat, k ≤ 4 ∧ q = .fix (rng 0 (k : Nat)) ∧ DS ns s1 ∧ lstAt s1 p = some (poolL.map D.str)) ?_ ?_ ?_
      · simp
        refine w_draw (many := 5) D2 (by decide) (by decide) fun k s1 hk D F => ?_
        rw [rg1_int (by omega)]
        exact ⟨k, by omega, rfl, D, F.lst gp (by omega)⟩
      · rintro _ _ ⟨k, hk, rfl, _⟩
        show (rng 0 (k : Nat)).length ≤ _
        rw [rng_len]
        omega
      · rintro _ s1 ⟨k, hk, rfl, D3, g3⟩
        refine w_names (τ := wipeD [some S, some (.ref 1), some (.ref p), none, none, none, none, none, none, none, none, none, none, none, none, none] [13]) rfl rfl (show 13 < 16 by decide) D3 g3 p1 hk fun nm rest s2 hn hp D4 g4 => ?_
        have := lstAt_lt g4
        exact ⟨s2.length, nm, rest, rfl, by omega, by omega, by omega, hp, Gr.app.ds D4, Gr.app.lst g4, lstAt_new⟩
    obtain ⟨m, nm, rest, rfl, m1, mp, ln, hperm, D3, gp, gm⟩ := hp
    have nd : (nm ++ rest).Nodup := hperm.nodup_iff.mpr pool_nd
    have lr : nm.length + rest.length = 68 := by
      have := hperm.length_eq
      rw [pool_len, List.length_append] at this
      exact this
    clear hperm
    refine ws_cons (N' := fun τ s => ∃ t is, τ = [some S, some (.ref 1), some (.ref p), some (.ref m), some (.ref t), none, none, none, none, none, none, none, none, none, none, none] ∧ 1 < t ∧ t ≠ p ∧ t ≠ m ∧ is.length = nm.length ∧ (∀ i ∈ is, i.natAbs < 2 ^ 100) ∧ DS ns s ∧ lstAt s p = some (List.map D.str rest) ∧ lstAt s m = some (List.map D.str nm) ∧ lstAt s t = some (List.map D.int is)) ?_ fun τ s hp => ?_
    · refine ws_setLc (fun q s1 => q = .cell m (nm.map D.str) ∧ s1 = s) ?_ ?_ ?_
      · simp
        rw [dSq_ref gm]
        exact ⟨rfl, rfl⟩
      · rintro _ _ ⟨rfl, _⟩
        show (nm.map D.str).length ≤ _
        rw [List.length_map]
        omega
      · rintro _ _ ⟨rfl, rfl⟩
        refine w_ints (τ := wipeD [some S, some (.ref 1), some (.ref p), some (.ref m), none, none, none, none, none, none, none, none, none, none, none, none] [14]) rfl (show 14 < 16 by decide) D3 m1 gm fun is s2 hn hb D4 F4 => ?_
        have g1 := F4.lst gp (by omega)
        have g2 := F4.lst gm (by omega)
        have := lstAt_lt g1
        have := lstAt_lt g2
        exact ⟨s2.length, is, rfl, by omega, by omega, by omega, hn, hb, Gr.app.ds D4, Gr.app.lst g1, Gr.app.lst g2, lstAt_new⟩
    obtain ⟨t, is0, rfl, t1, tp, tm, li0, hb0, D4, gp, gm, gt⟩ := hp
    refine ws_cons (N' := fun τ s => ∃ is, τ = [some S, some (.ref 1), some (.ref p), some (.ref m), some (.ref t), none, none, none, none, none, none, none, none, none, none, none] ∧ is.length = nm.length ∧ (∀ i ∈ is, i.natAbs < 2 ^ 100) ∧ DS ns s ∧ lstAt s p = some (List.map D.str rest) ∧ lstAt s m = some (List.map D.str nm) ∧ lstAt s t = some (List.map D.int is)) ?_ fun τ s hp => ?_
    · refine ws_ifd (fun b s1 => (b = true → 0 < nm.length) ∧ DS ns s1 ∧ Fr s s1) ?_ (fun s1 h => ?_) (fun s1 h => ?_)
      · by_cases h0 : 0 < nm.length
        · simp [fLen_ref gm, h0]
          refine w_draw (many := 5) D4 (by decide) (by decide) fun k s1 hk D F => ?_
          simp
          exact ⟨D, F⟩
        · have : nm.length = 0 := by omega
          simp [fLen_ref gm, this]
          exact ⟨D4, Fr.refl⟩
      · obtain ⟨h0, D5, F5⟩ := h
        have h0 := h0 rfl
        have gp := F5.lst gp (by omega)
        have gm := F5.lst gm (by omega)
        have gt := F5.lst gt (by omega)
        simp only [sSub_e, WS_bindE]
        simp
        refine w_far D5 fun n s2 hn D6 F6 => ?_
        simp [fLen_ref (F6.lst gm (by omega))]
        refine w_draw (many := nm.length) D6 h0 (by omega) fun k s3 hk D7 F7 => ?_
        have F67 := F6.trans F7
        have gt := F67.lst gt (by omega)
        rw [oSet_ref gt (ixN_of (by rw [List.length_map]; omega)), ofS_some, WS_nx]
        refine ⟨rfl, is0.set k n, by rw [List.length_set, li0], fun i hi => ?_, D7.put2 (by omega) (by omega), by rw [lstAt_ne (by omega)]; exact F67.lst gp (by omega), by rw [lstAt_ne (by omega)]; exact F67.lst gm (by omega), by rw [lstAt_set gt, List.map_set]⟩
        rcases List.mem_or_eq_of_mem_set hi with hi | rfl
        · exact hb0 i hi
        · exact hn
      · obtain ⟨_, D5, F5⟩ := h
        exact ⟨is0, rfl, li0, hb0, D5, F5.lst gp (by omega), F5.lst gm (by omega), F5.lst gt (by omega)⟩
    clear hb0 li0 gt gm gp D4 D3
    obtain ⟨is, rfl, li, hb, D4, gp, gm, gt⟩ := hp
    obtain ⟨ps, hps⟩ : ∃ ps, ps = pairUp nm is := ⟨_, rfl⟩
    have pf : ps.map (·.1) = nm := by rw [hps]; exact pairUp_fst
    have pl : ps.length = nm.length := by rw [hps]; exact pairUp_len
    have psm : ∀ q ∈ ps, q.2.natAbs < 2 ^ 100 := by rw [hps]; exact pairUp_small hb
    have E : Env 101 ps := Env.of (by rw [pf]; exact (List.nodup_append.mp nd).1) (by omega) fun q hq => up100 (psm q hq)
    refine ws_cons (N' := fun τ s => ∃ e, τ = [some S, some (.ref 1), some (.ref p), some (.ref m), some (.ref t), some (.ref e), none, none, none, none, none, none, none, none, none, none] ∧ 1 < e ∧ e ≠ p ∧ LS ns p m t e rest nm is ps s) ?_ fun τ s hp => ?_
    · refine ws_setLc (fun q s1 => q = .fix (rng 0 (nm.length : Nat)) ∧ s1 = s) ?_ ?_ ?_
      · simp [fLen_ref gm]
        rw [rg1_int (by omega)]
        exact ⟨rfl, rfl⟩
      · rintro _ _ ⟨rfl, _⟩
        show (rng 0 (nm.length : Nat)).length ≤ _
        rw [rng_len]
        omega
      · rintro _ _ ⟨rfl, rfl⟩
        refine w_map (fun k : Nat => D.int k) (fun k : Nat => enD (nm.getD k [], is.getD k 0)) (List.range nm.length) (rng_eq _) rfl (fun k hk => ⟨_, rfl, ?_⟩) ?_
        · have hk := List.mem_range.mp hk
          have i1 : atI (nm.map D.str) (k : Nat) = some (.str (nm.getD k [])) := atI_nat (by simp [List.getElem?_eq_getElem hk, List.getD_eq_getElem?_getD])
          have i2 : atI (is.map D.int) (k : Nat) = some (.int (is.getD k 0)) := atI_nat (by simp [List.getElem?_eq_getElem (show k < is.length by omega), List.getD_eq_getElem?_getD])
          simp [wipeD, oIx_ref gm, oIx_ref gt, i1, i2, enD, -List.getD_eq_getElem?_getD]
        · have e : (List.range nm.length).map (fun k : Nat => enD (nm.getD k [], is.getD k 0)) = ps.map enD := by
            rw [hps]
            unfold pairUp
            rw [List.map_map]
            rfl
          rw [e]
          have := lstAt_lt gp
          have := lstAt_lt gm
          exact ⟨_, rfl, by omega, by omega, Gr.app.ds D4, Gr.app.lst gp, Gr.app.lst gm, Gr.app.lst gt, lstAt_new⟩
    clear gp gm gt D4
    obtain ⟨e, rfl, e1, ep, A⟩ := hp
    have AF : ∀ {s s' : Store}, LS ns p m t e rest nm is ps s → DS ns s' → Fr s s' → LS ns p m t e rest nm is ps s' := fun A D F => A.fr p1 m1 t1 e1 D F
    have names : ∀ y ∈ nm, y ∈ ps.map (·.1) := fun y hy => by rw [pf]; exact hy
    refine ws_cons (N' := fun τ s => ∃ v : Vl, τ = [some S, some (.ref 1), some (.ref p), some (.ref m), some (.ref t), some (.ref e), some v.d, none, none, none, none, none, none, none, none, none] ∧ v.dr nm 30 31 ∧ LS ns p m t e rest nm is ps s) ?_ fun τ s hp => ?_
    · refine ws_ifd (fun _ s1 => LS ns p m t e rest nm is ps s1) ?_ (fun s1 A => ?_) (fun s1 A => ?_)
      · simp
        refine w_draw (many := 4) A.ds (by decide) (by decide) fun k s1 hk D F => ?_
        simp
        exact AF A D F
      · refine ws_set ?_
        simp
        refine w_line A.ds A.nam (by omega) (by omega) fun v s2 dv D F => ?_
        exact ⟨v, rfl, dv, AF A D F⟩
      · refine ws_set ?_
        simp
        refine w_draw (many := 10) A.ds (by decide) (by decide) fun k s2 hk D F => ?_
        have A := AF A D F
        have ek : (1 : Int) + (k : Nat) = ((1 + k : Nat) : Int) := by omega
        simp
        rw [ek]
        refine w_shape A.ds A.nam (by omega) (by omega) (by omega) (by omega) fun v s2 dv D F => ?_
        exact ⟨v, rfl, dv.mono (by omega) (by omega), AF A D F⟩
    clear A
    obtain ⟨v, rfl, dv, A⟩ := hp
    have okv : v.ok 101 ps := dv.ok names
    refine ws_cons (N' := fun τ s => τ = [some S, some (.ref 1), some (.ref p), some (.ref m), some (.ref t), some (.ref e), some v.d, none, none, none, none, none, none, none, none, none] ∧ LS ns p m t e rest nm is ps s) ?_ fun τ s hp => ?_
    · refine ws_must (fun s => LS ns p m t e rest nm is ps s) ?_ fun s A => ⟨rfl, A⟩
      simp
      refine (w_tells_parts (by decide) E okv A.env).mono fun d s2 hp => ?_
      exact ⟨hp.1, AF A (hp.2.ds A.ds) hp.2.fr⟩
    clear A
    obtain ⟨rfl, A⟩ := hp
    refine ws_cons (N' := fun τ s => ∃ x rest, τ = [some S, some (.ref 1), some (.ref p), some (.ref m), some (.ref t), some (.ref e), some v.d, some (.str x), none, none, none, none, none, none, none, none] ∧ x ∉ nm ∧ LS ns p m t e rest nm is ps s) ?_ fun τ s hp => ?_
    · refine ws_set ?_
      simp
      refine w_pop A.ds A.pool p1 (by rw [List.length_map]; omega) (by rw [List.length_map]; omega) fun k x s2 hx D g K => ?_
      rw [List.getElem?_map] at hx
      cases hy : rest[k]? with
      | none => rw [hy] at hx; cases hx
      | some y =>
        rw [hy] at hx
        cases hx
        refine ⟨y, rfl, fun hc => ?_, rest.eraseIdx k, D, by rw [g, List.eraseIdx_eq_take_drop_succ, List.eraseIdx_eq_take_drop_succ, List.map_append, List.map_take, List.map_drop], K m _ mp (by omega) A.nam, K t _ tp (by omega) A.int, K e _ ep (by omega) A.env⟩
        exact (List.nodup_append.mp nd).2.2 y hc y (List.mem_of_getElem? hy) rfl
    clear A AF lr nd
    obtain ⟨x, rest', rfl, hx, A⟩ := hp
    have AF : ∀ {s s' : Store}, LS ns p m t e rest' nm is ps s → DS ns s' → Fr s s' → LS ns p m t e rest' nm is ps s' := fun A D F => A.fr p1 m1 t1 e1 D F
    have hxp : x ∉ ps.map (·.1) := by rw [pf]; exact hx
    refine ws_cons (N' := fun τ s => τ = [some S, some (.ref 1), some (.ref p), some (.ref m), some (.ref t), some (.ref e), some v.d, some (.str x), none, none, none, none, none, none, none, none] ∧ LS ns p m t e rest' nm is ps s) ?_ fun τ s hp => ?_
    · refine ws_must (fun s => LS ns p m t e rest' nm is ps s) ?_ fun s A => ⟨rfl, A⟩
      simp
      refine w_draw (many := 9) A.ds (by decide) (by decide) fun a s2 ha D F => ?_
      have A2 := AF A D F
      have g1 : lstAt (s2 ++ [.lst [.tup [.str x, .int (a : Nat)]]]) e = some (ps.map enD) := Gr.app.lst A2.env
      have g2 : lstAt (s2 ++ [.lst [.tup [.str x, .int (a : Nat)]]]) s2.length = some [.tup [.str x, .int (a : Nat)]] := lstAt_new
      rw [oAdd_ref g1 g2 (by simp; omega), W_ok]
      have e3 : ps.map enD ++ [.tup [.str x, .int (a : Nat)]] = (ps ++ [(x, (a : Int))]).map enD := by simp [enD]
      rw [e3]
      have D3 := DS.app (c := .lst ((ps ++ [(x, (a : Int))]).map enD)) (DS.app (c := .lst [.tup [.str x, .int (a : Nat)]]) D)
      refine w_shuffled D3 lstAt_new (by simp; omega) fun t' q s3 hq gq hperm D4 F4 => ?_
      obtain ⟨qs, rfl, hqs⟩ := unEn hperm
      have Eq : Env 101 qs := Env.of (by
        rw [(hqs.map _).nodup_iff, List.map_append, List.nodup_append]
        refine ⟨E.nd, by simp, fun a ha b hb hab => ?_⟩
        simp at hb
        rw [hab, hb] at ha
        exact hxp ha) (by have := hqs.length_eq; simp at this; omega) fun q hq => by
          have := hqs.mem_iff.mp hq
          simp at this
          rcases this with h | rfl
          · exact up100 (psm q h)
          · show (a : Int).natAbs < 2 ^ 101
            have : (9 : Nat) < 2 ^ 101 := by decide
            omega
      have okq : v.ok 101 qs := dv.ok fun y hy => by
        rw [(hqs.map _).mem_iff, List.map_append]
        exact List.mem_append_left _ (names y hy)
      refine (w_tells (by decide) Eq okq gq).mono fun d s4 hp => ?_
      exact ⟨hp.1, AF (AF (AF (AF A2 (Gr.app.ds D) Gr.app.fr) D3 Gr.app.fr) D4 F4) (hp.2.ds D4) hp.2.fr⟩
    clear A
    obtain ⟨rfl, A⟩ := hp
    refine ws_cons (N' := fun τ s => ∃ a8 a9, τ = [some S, some (.ref 1), some (.ref p), some (.ref m), some (.ref t), some (.ref e), some v.d, some (.str x), a8, a9, none, none, none, none, none, none] ∧ LS ns p m t e rest' nm is ps s) ?_ fun τ s hp => ?_
    · refine ws_ifd (fun b s1 => s1 = s ∧ (b = true → 0 < nm.length)) ?_ (fun s1 h => ?_) (fun s1 h => ?_)
      · simp [fLen_ref A.nam]
      · obtain ⟨rfl, h0⟩ := h
        have h0 := h0 rfl
        refine ws_cons (N' := fun τ s => ∃ k : Nat, k < nm.length ∧ τ = [some S, some (.ref 1), some (.ref p), some (.ref m), some (.ref t), some (.ref e), some v.d, some (.str x), some (.int (k : Nat)), none, none, none, none, none, none, none] ∧ LS ns p m t e rest' nm is ps s) ?_ fun τ s hp => ?_
        · refine ws_set ?_
          simp [fLen_ref A.nam]
          refine w_draw (many := nm.length) A.ds h0 (by omega) fun k s2 hk D F => ?_
          exact ⟨k, hk, rfl, AF A D F⟩
        clear A
        obtain ⟨k, hk, rfl, A⟩ := hp
        have i1 : atI (nm.map D.str) (k : Nat) = some (.str (nm.getD k [])) := atI_nat (by simp [List.getElem?_eq_getElem hk, List.getD_eq_getElem?_getD])
        have i2 : atI (is.map D.int) (k : Nat) = some (.int (is.getD k 0)) := atI_nat (by simp [List.getElem?_eq_getElem (show k < is.length by omega), List.getD_eq_getElem?_getD])
        have b2 : (is.getD k 0).natAbs < 2 ^ 100 := by
          rw [List.getD_eq_getElem?_getD, List.getElem?_eq_getElem (show k < is.length by omega)]
          exact hb _ (List.getElem_mem _)
        refine ws_cons (N' := fun τ s => ∃ (o : Nat) (z : Int), τ = [some S, some (.ref 1), some (.ref p), some (.ref m), some (.ref t), some (.ref e), some v.d, some (.str x), some (.int (k : Nat)), some (.ref o), none, none, none, none, none, none] ∧ z.natAbs < 2 ^ 101 ∧ lstAt s o = some (List.map enD (ps.take k ++ [(nm.getD k [], z)] ++ ps.drop (k + 1))) ∧ LS ns p m t e rest' nm is ps s) ?_ fun τ s hp => ?_
        · refine ws_set ?_
          refine w_splice (G := fun y => ∃ z : Int, z.natAbs < 2 ^ 101 ∧ y = enD (nm.getD k [], z)) A.ds A.env (by omega) rfl rfl (by rw [List.length_map]; omega) (fun s' D F => ?_) fun o y s' hy o1 go D F => ?_
          · have A2 := AF A D F
            simp [oIx_ref A2.nam, oIx_ref A2.int, i1, i2, -List.getD_eq_getElem?_getD]
            refine w_pick (Gr.app.ds D) lstAt_new (by have := D.len; omega) (by simp) (by simp) fun y s2 hy D2 F2 => ?_
            have : ∃ c : Int, c.natAbs < 10 ∧ y = .int c := by
              simp only [List.mem_cons, List.not_mem_nil, or_false] at hy
              rcases hy with rfl | rfl | rfl | rfl
              · exact ⟨-1, by decide, rfl⟩
              · exact ⟨1, by decide, rfl⟩
              · exact ⟨2, by decide, rfl⟩
              · exact ⟨-7, by decide, rfl⟩
            obtain ⟨c, hc, rfl⟩ := this
            simp [-List.getD_eq_getElem?_getD]
            refine ⟨⟨is.getD k 0 + c, ?_, rfl⟩, D2, Gr.app.fr.trans F2⟩
            have : (2 : Nat) ^ 101 = 2 * 2 ^ 100 := by decide
            have : (10 : Nat) < 2 ^ 100 := by decide
            omega
          · obtain ⟨z, hz, rfl⟩ := hy
            refine ⟨o, z, rfl, hz, ?_, AF A D F⟩
            rw [go]
            simp
        clear A
        obtain ⟨o, z, rfl, hz, go, A⟩ := hp
        have ef : (ps.take k ++ [(nm.getD k [], z)] ++ ps.drop (k + 1)).map (·.1) = nm := by
          rw [List.map_append, List.map_append, List.map_take, List.map_drop, pf]
          have : nm.getD k [] = nm[k] := by rw [List.getD_eq_getElem?_getD, List.getElem?_eq_getElem hk]; rfl
          simp only [List.map_cons, List.map_nil]
          rw [this, List.append_assoc, List.singleton_append, ← List.drop_eq_getElem_cons hk, List.take_append_drop]
        have Eo : Env 101 (ps.take k ++ [(nm.getD k [], z)] ++ ps.drop (k + 1)) := Env.of (by rw [ef, ← pf]; exact E.nd) (by simp; omega) fun q hq => by
          simp only [List.mem_append, List.mem_cons, List.not_mem_nil, or_false] at hq
          rcases hq with (hq | rfl) | hq
          · exact up100 (psm q (List.mem_of_mem_take hq))
          · exact hz
          · exact up100 (psm q (List.mem_of_mem_drop hq))
        have oko : v.ok 101 (ps.take k ++ [(nm.getD k [], z)] ++ ps.drop (k + 1)) := dv.ok fun y hy => by rw [ef]; exact hy
        refine ws_ifd (fun b s1 => b = false ∧ LS ns p m t e rest' nm is ps s1) ?_ (fun s1 h => absurd h.1 (by decide)) (fun s1 h => ⟨_, _, rfl, h.2⟩)
        simp [-List.getD_eq_getElem?_getD, -List.map_append]
        refine (w_tells (by decide) Eo oko go).mono fun d s2 hp => ?_
        obtain ⟨rfl, G⟩ := hp
        have A := AF A (G.ds A.ds) G.fr
        simp
        refine (w_tells (by decide) E okv A.env).mono fun d s3 hp => ?_
        obtain ⟨rfl, G2⟩ := hp
        simp
        exact AF A (G2.ds A.ds) G2.fr
      · obtain ⟨rfl, _⟩ := h
        exact ⟨_, _, rfl, A⟩
    clear A
    obtain ⟨a8, a9, rfl, A⟩ := hp
    refine ws_cons (N' := fun τ s => τ = [some S, some (.ref 1), some (.ref p), some (.ref m), some (.ref t), some (.ref e), some v.d, some (.str x), a8, a9, none, none, none, none, none, none] ∧ DS ns s) ?_ fun τ s hp => ?_
    · refine ws_must (fun s => DS ns s) ?_ fun s A => ⟨rfl, A⟩
      simp
      refine w_draw (many := 3) A.ds (by decide) (by decide) fun k s2 hk D F => ?_
      have A := AF A D F
      have ek : (1 : Int) + (k : Nat) = ((1 + k : Nat) : Int) := by omega
      simp
      rw [ek]
      refine w_shape A.ds A.nam (by omega) (by omega) (by omega) (by omega) fun u s2 du D F => ?_
      have A := AF A D F
      have := du.dp
      have := du.sz
      refine (w_edges E hxp (by omega) (du.fit.up (by decide) names) (by omega) (by omega) A.env).mono fun d s4 hp => ?_
      exact ⟨hp.1, hp.2.ds A.ds⟩
    clear A AF
    obtain ⟨rfl, D5⟩ := hp
    refine ws_cons (N' := fun τ s => ∃ k : Int, τ = [some S, some (.ref 1), some (.ref p), some (.ref m), some (.ref t), some (.ref e), some v.d, some (.str x), a8, a9, some (.int k), none, none, none, none, none] ∧ DS ns s) ?_ fun τ s hp => ?_
    · refine ws_set ?_
      simp
      refine w_draw (many := 13) D5 (by decide) (by decide) fun k s2 hk D F => ?_
      exact ⟨⟨k, rfl⟩, D⟩
    clear D5
    obtain ⟨k0, rfl, D5⟩ := hp
    refine ws_cons (N' := fun τ s => ∃ k : Int, τ = [some S, some (.ref 1), some (.ref p), some (.ref m), some (.ref t), some (.ref e), some v.d, some (.str x), a8, a9, some (.int k), none, none, none, none, none] ∧ DS ns s) ?_ fun τ s hp => ?_
    · refine ws_ifd (fun _ s1 => DS ns s1) ?_ (fun s1 D => ?_) (fun s1 D => ⟨k0, rfl, D⟩)
      · simp
        refine w_draw (many := 6) D5 (by decide) (by decide) fun k s1 hk D F => ?_
        simp
        exact D
      · refine ws_set ?_
        simp
        refine w_far D fun n s2 _ D F => ?_
        exact ⟨⟨_, rfl⟩, D⟩
    clear D5
    obtain ⟨k, rfl, D5⟩ := hp
    refine ws_cons (N' := fun τ s => ∃ f : Int, τ = [some S, some (.ref 1), some (.ref p), some (.ref m), some (.ref t), some (.ref e), some v.d, some (.str x), a8, a9, some (.int k), some (.int f), none, none, none, none] ∧ DS ns s) ?_ fun τ s hp => ?_
    · refine ws_set ?_
      simp
      refine w_far D5 fun n s2 _ D F => ?_
      exact ⟨⟨n, rfl⟩, D⟩
    clear D5
    obtain ⟨f, rfl, D5⟩ := hp
    refine ws_cons (N' := fun τ s => ∃ (q : Nat) (fs : List Int), τ = [some S, some (.ref 1), some (.ref p), some (.ref m), some (.ref t), some (.ref e), some v.d, some (.str x), a8, a9, some (.int k), some (.int f), some (.ref q), none, none, none] ∧ fs.length ≤ 100 ∧ lstAt s q = some (fs.map D.int)) ?_ fun τ s hp => ?_
    · refine ws_set ?_
      simp
      refine w_draw (many := 25) D5 (by decide) (by decide) fun a s2 ha D F => ?_
      exact ⟨[-1, 0, 1, k - 1, k, k + 1, f, -f, (a : Int) - 6], by simp, by simp⟩
    clear D5
    obtain ⟨q, fs, rfl, lf, gq⟩ := hp
    refine ws_ret ?_
    rw [eCS_e, W_bind, lComp_e, W_bind, iEx_e, W_bind, eVar_e rfl, W_ok, dSq_ref gq, ofQ_some, W_ok]
    refine w_lc (by show (fs.map D.int).length ≤ _; rw [List.length_map]; omega) ?_
    obtain ⟨I, hI⟩ : ∃ I : Nat → List D → Store → Prop, I = fun i acc s => acc = (List.replicate i true).map D.bl ∧ lstAt s q = some (fs.map D.int) := ⟨_, rfl⟩
    refine w_mapc D.int fs rfl I (fun k acc s hp => ?_) (by rw [hI]; exact ⟨rfl, gq⟩) (fun i a acc s ha hp => ⟨_, rfl, ?_⟩) fun acc s hp => ?_
    · rw [hI] at hp
      exact decide_eq_true hp.2
    · rw [hI] at hp
      obtain ⟨rfl, g⟩ := hp
      simp [wipeD, -List.map_replicate]
      refine w_holds.mono fun d s2 hp => ?_
      obtain ⟨rfl, G⟩ := hp
      rw [hI]
      refine ⟨?_, G.lst g⟩
      rw [List.replicate_succ', List.map_append]
      rfl
    · rw [hI] at hp
      obtain ⟨rfl, _⟩ := hp
      rw [gAllB_bls, W_ok]
      simp
  obtain ⟨d, s, e, rfl⟩ := key.ex
  exact ⟨s, e⟩

/-! ### the head -/
def fn : List He.DefD := [⟨("held", none), "held", "held", defArgs s_held, defBody s_held, defScope s_held, [], []⟩,
  ⟨("value_of", none), "value_of", "value_of", defArgs s_value_of, defBody s_value_of, defScope s_value_of, [], []⟩,
  ⟨("value_in", none), "value_in", "value_in", defArgs s_value_in, defBody s_value_in, defScope s_value_in, [], []⟩,
  ⟨("combined", none), "combined", "combined", defArgs s_combined, defBody s_combined, defScope s_combined, [], []⟩,
  ⟨("_law_begin", none), "_law_begin", "_law_begin", defArgs s__law_begin, defBody s__law_begin, defScope s__law_begin, [], []⟩,
  ⟨("_law_draw", none), "_law_draw", "_law_draw", defArgs s__law_draw, defBody s__law_draw, defScope s__law_draw, [], []⟩,
  ⟨("_law_pick", none), "_law_pick", "_law_pick", defArgs s__law_pick, defBody s__law_pick, defScope s__law_pick, [], []⟩,
  ⟨("_law_pop", none), "_law_pop", "_law_pop", defArgs s__law_pop, defBody s__law_pop, defScope s__law_pop, [], []⟩,
  ⟨("_law_shuffled", none), "_law_shuffled", "_law_shuffled", defArgs s__law_shuffled, defBody s__law_shuffled, defScope s__law_shuffled, [], []⟩,
  ⟨("_law_pool", none), "_law_pool", "_law_pool", defArgs s__law_pool, defBody s__law_pool, defScope s__law_pool, [], []⟩,
  ⟨("_law_is_int", none), "_law_is_int", "_law_is_int", defArgs s__law_is_int, defBody s__law_is_int, defScope s__law_is_int, [], []⟩,
  ⟨("_law_value_of", none), "_law_value_of", "_law_value_of", defArgs s__law_value_of, defBody s__law_value_of, defScope s__law_value_of, [], []⟩,
  ⟨("_law_leaf", none), "_law_leaf", "_law_leaf", defArgs s__law_leaf, defBody s__law_leaf, defScope s__law_leaf, [], []⟩,
  ⟨("_law_shape", none), "_law_shape", "_law_shape", defArgs s__law_shape, defBody s__law_shape, defScope s__law_shape, [], []⟩,
  ⟨("_law_line", none), "_law_line", "_law_line", defArgs s__law_line, defBody s__law_line, defScope s__law_line, [], []⟩,
  ⟨("_law_far", none), "_law_far", "_law_far", defArgs s__law_far, defBody s__law_far, defScope s__law_far, [], []⟩,
  ⟨("_law_tells", none), "_law_tells", "_law_tells", defArgs s__law_tells, defBody s__law_tells, defScope s__law_tells, [], []⟩,
  ⟨("_law_tells_parts", none), "_law_tells_parts", "_law_tells_parts", defArgs s__law_tells_parts, defBody s__law_tells_parts, defScope s__law_tells_parts, [], []⟩,
  ⟨("_law_tells_edges", none), "_law_tells_edges", "_law_tells_edges", defArgs s__law_tells_edges, defBody s__law_tells_edges, defScope s__law_tells_edges, [], []⟩,
  ⟨("_law_holds", none), "_law_holds", "_law_holds", defArgs s__law_holds, defBody s__law_holds, defScope s__law_holds, [], []⟩,
  ⟨("law", none), "law", "law", defArgs s_law, defBody s_law, defScope s_law, [], []⟩]
def fa : List He.Fa := [.glo "held", .glo "value_of", .glo "value_in", .glo "combined", .glo "_law_begin", .glo "_law_draw", .glo "_law_pick", .glo "_law_pop", .glo "_law_shuffled", .glo "_law_pool", .glo "_law_is_int", .glo "_law_value_of", .glo "_law_leaf", .glo "_law_shape", .glo "_law_line", .glo "_law_far", .glo "_law_tells", .glo "_law_tells_parts", .glo "_law_tells_edges", .glo "_law_holds", .glo "law", .free "dict", .free "int", .free "min", .free "max", .free "len", .free "abs", .free "list", .free "range", .free "isinstance", .free "bool", .free "tuple", .free "all"]
def fx : List Fx := []
abbrev hk : PySem.W.Hook := hookM 5 fa fx fn
def ob (s : PySem.W.SharedT) : He.AlD := obsMG 5 fa fx fn (HandSHeadRun.getT s)
theorem ob_eq (s : PySem.W.SharedT) : ob s = hk.obs s.abs := obsMG_eq (HandSHeadRun.getT_eq s)
def nm0 : List PySem.Str := ["held", "value_of", "value_in", "combined", "_law_begin", "_law_draw", "_law_pick", "_law_pop", "_law_shuffled", "_law_pool", "_law_is_int", "_law_value_of", "_law_leaf", "_law_shape", "_law_line", "_law_far", "_law_tells", "_law_tells_parts", "_law_tells_edges", "_law_holds"]
def nms : List PySem.Str := nm0
theorem run (w : World) : HandSHeadRun.RunEq (PySem.W.OpenLaw.row PySem.Challenge.rw_closedratios_k19_values) (PySem.W.view (PySem.W.OpenLaw.row PySem.Challenge.rw_closedratios_k19_values).prog [22]) hk ob 6000 nms w := by
  intro os
  kernel_rfl
theorem facts {P : Program} {w : World} {K : PySem.W.Frag} {h : Heap} {mg : PySem.Str → Option Value} {f : Addr} (X : K.In h) (G : h.Ns mainGlobals mg) (hfa : mg ("law" : PySem.Str) = some (.ref f)) (c : SaysM fa fx fn K) :
    ∃ fd : FuncData, (∀ (s : Shared) (v : Value), BindsTo s fd ⟨[v], []⟩ [("script", v)]) ∧ ∀ base : Heap, K.In base → base.Ns mainGlobals mg → FnM P w K mg base 46 f fd ["script"] f_law := by
  obtain ⟨fd_held, F_held⟩ := c.def_ 0 rfl
  have gx_held := He.glo_ok X G (c.fact 0 (f := .glo "held") rfl)
  obtain ⟨fd_value_of, F_value_of⟩ := c.def_ 1 rfl
  have gx_value_of := He.glo_ok X G (c.fact 1 (f := .glo "value_of") rfl)
  obtain ⟨fd_value_in, F_value_in⟩ := c.def_ 2 rfl
  have gx_value_in := He.glo_ok X G (c.fact 2 (f := .glo "value_in") rfl)
  obtain ⟨fd_combined, F_combined⟩ := c.def_ 3 rfl
  have gx_combined := He.glo_ok X G (c.fact 3 (f := .glo "combined") rfl)
  obtain ⟨fd__law_begin, F__law_begin⟩ := c.def_ 4 rfl
  have gx__law_begin := He.glo_ok X G (c.fact 4 (f := .glo "_law_begin") rfl)
  obtain ⟨fd__law_draw, F__law_draw⟩ := c.def_ 5 rfl
  have gx__law_draw := He.glo_ok X G (c.fact 5 (f := .glo "_law_draw") rfl)
  obtain ⟨fd__law_pick, F__law_pick⟩ := c.def_ 6 rfl
  have gx__law_pick := He.glo_ok X G (c.fact 6 (f := .glo "_law_pick") rfl)
  obtain ⟨fd__law_pop, F__law_pop⟩ := c.def_ 7 rfl
  have gx__law_pop := He.glo_ok X G (c.fact 7 (f := .glo "_law_pop") rfl)
  obtain ⟨fd__law_shuffled, F__law_shuffled⟩ := c.def_ 8 rfl
  have gx__law_shuffled := He.glo_ok X G (c.fact 8 (f := .glo "_law_shuffled") rfl)
  obtain ⟨fd__law_pool, F__law_pool⟩ := c.def_ 9 rfl
  have gx__law_pool := He.glo_ok X G (c.fact 9 (f := .glo "_law_pool") rfl)
  obtain ⟨fd__law_is_int, F__law_is_int⟩ := c.def_ 10 rfl
  have gx__law_is_int := He.glo_ok X G (c.fact 10 (f := .glo "_law_is_int") rfl)
  obtain ⟨fd__law_value_of, F__law_value_of⟩ := c.def_ 11 rfl
  have gx__law_value_of := He.glo_ok X G (c.fact 11 (f := .glo "_law_value_of") rfl)
  obtain ⟨fd__law_leaf, F__law_leaf⟩ := c.def_ 12 rfl
  have gx__law_leaf := He.glo_ok X G (c.fact 12 (f := .glo "_law_leaf") rfl)
  obtain ⟨fd__law_shape, F__law_shape⟩ := c.def_ 13 rfl
  have gx__law_shape := He.glo_ok X G (c.fact 13 (f := .glo "_law_shape") rfl)
  obtain ⟨fd__law_line, F__law_line⟩ := c.def_ 14 rfl
  have gx__law_line := He.glo_ok X G (c.fact 14 (f := .glo "_law_line") rfl)
  obtain ⟨fd__law_far, F__law_far⟩ := c.def_ 15 rfl
  have gx__law_far := He.glo_ok X G (c.fact 15 (f := .glo "_law_far") rfl)
  obtain ⟨fd__law_tells, F__law_tells⟩ := c.def_ 16 rfl
  have gx__law_tells := He.glo_ok X G (c.fact 16 (f := .glo "_law_tells") rfl)
  obtain ⟨fd__law_tells_parts, F__law_tells_parts⟩ := c.def_ 17 rfl
  have gx__law_tells_parts := He.glo_ok X G (c.fact 17 (f := .glo "_law_tells_parts") rfl)
  obtain ⟨fd__law_tells_edges, F__law_tells_edges⟩ := c.def_ 18 rfl
  have gx__law_tells_edges := He.glo_ok X G (c.fact 18 (f := .glo "_law_tells_edges") rfl)
  obtain ⟨fd__law_holds, F__law_holds⟩ := c.def_ 19 rfl
  have gx__law_holds := He.glo_ok X G (c.fact 19 (f := .glo "_law_holds") rfl)
  obtain ⟨fd_law, F_law⟩ := c.def_ 20 rfl
  have z_dict := He.free_ok X G (c.fact 21 (f := .free "dict") rfl)
  have z_int := He.free_ok X G (c.fact 22 (f := .free "int") rfl)
  have z_min := He.free_ok X G (c.fact 23 (f := .free "min") rfl)
  have z_max := He.free_ok X G (c.fact 24 (f := .free "max") rfl)
  have z_len := He.free_ok X G (c.fact 25 (f := .free "len") rfl)
  have z_abs := He.free_ok X G (c.fact 26 (f := .free "abs") rfl)
  have z_list := He.free_ok X G (c.fact 27 (f := .free "list") rfl)
  have z_range := He.free_ok X G (c.fact 28 (f := .free "range") rfl)
  have z_isinstance := He.free_ok X G (c.fact 29 (f := .free "isinstance") rfl)
  have z_bool := He.free_ok X G (c.fact 30 (f := .free "bool") rfl)
  have z_tuple := He.free_ok X G (c.fact 31 (f := .free "tuple") rfl)
  have z_all := He.free_ok X G (c.fact 32 (f := .free "all") rfl)
  have e := hfa.symm.trans (He.glo_ok X G (c.fact 20 (f := .glo "law") rfl))
  cases e
  refine ⟨fd_law, fun s v => FunD.bindsA (ps := ["script"]) F_law (fun _ _ _ _ _ _ us hl => match us, hl with | [_], _ => rfl) s [v] rfl, fun base _ _ => ?_⟩
  have c_held := (ok_held (P := P) (w := w) (base := base) F_held gx_held ).le le_held
  have c_combined := (ok_combined (P := P) (w := w) (base := base) F_combined gx_combined z_int z_min z_max).le le_combined
  have c_value_in := (rec_value_in (P := P) (w := w) (base := base) F_value_in gx_value_in c_combined 40).le le_value_in
  have c_value_of := (ok_value_of (P := P) (w := w) (base := base) F_value_of gx_value_of c_value_in z_dict).le le_value_of
  have c__law_begin := (ok__law_begin (P := P) (w := w) (base := base) F__law_begin gx__law_begin z_int).le le__law_begin
  have c__law_draw := (ok__law_draw (P := P) (w := w) (base := base) F__law_draw gx__law_draw z_int z_len z_abs).le le__law_draw
  have c__law_pick := (ok__law_pick (P := P) (w := w) (base := base) F__law_pick gx__law_pick c__law_draw z_len).le le__law_pick
  have c__law_pop := (ok__law_pop (P := P) (w := w) (base := base) F__law_pop gx__law_pop c__law_draw z_len).le le__law_pop
  have c__law_shuffled := (ok__law_shuffled (P := P) (w := w) (base := base) F__law_shuffled gx__law_shuffled c__law_draw z_list z_range z_len).le le__law_shuffled
  have c__law_pool := (ok__law_pool (P := P) (w := w) (base := base) F__law_pool gx__law_pool ).le le__law_pool
  have c__law_is_int := (ok__law_is_int (P := P) (w := w) (base := base) F__law_is_int gx__law_is_int z_int z_isinstance z_bool).le le__law_is_int
  have c__law_value_of := (rec__law_value_of (P := P) (w := w) (base := base) F__law_value_of gx__law_value_of z_min z_max z_int 40).le le__law_value_of
  have c__law_leaf := (ok__law_leaf (P := P) (w := w) (base := base) F__law_leaf gx__law_leaf c__law_draw c__law_pick z_len).le le__law_leaf
  have c__law_shape := (ok__law_shape (P := P) (w := w) (base := base) F__law_shape gx__law_shape c__law_leaf c__law_draw c__law_pick z_range z_len).le le__law_shape
  have c__law_line := (ok__law_line (P := P) (w := w) (base := base) F__law_line gx__law_line c__law_pick c__law_leaf c__law_draw z_range).le le__law_line
  have c__law_far := (ok__law_far (P := P) (w := w) (base := base) F__law_far gx__law_far c__law_draw).le le__law_far
  have c__law_tells := (ok__law_tells (P := P) (w := w) (base := base) F__law_tells gx__law_tells c_value_of c__law_is_int c__law_value_of F_value_of gx_value_of z_tuple).le le__law_tells
  have c__law_tells_parts := (ok__law_tells_parts (P := P) (w := w) (base := base) F__law_tells_parts gx__law_tells_parts c__law_tells z_all).le le__law_tells_parts
  have c__law_tells_edges := (ok__law_tells_edges (P := P) (w := w) (base := base) F__law_tells_edges gx__law_tells_edges c__law_value_of c__law_tells c_value_of c__law_is_int z_tuple).le le__law_tells_edges
  have c__law_holds := (ok__law_holds (P := P) (w := w) (base := base) F__law_holds gx__law_holds c_held c__law_is_int F_held gx_held z_all).le le__law_holds
  exact (ok_law (P := P) (w := w) (base := base) F_law c__law_begin c__law_pool c__law_draw c__law_pop c__law_far c__law_line c__law_shape c__law_tells_parts c__law_tells c__law_shuffled c__law_pick c__law_tells_edges c__law_holds z_range z_len z_abs z_all).le le_law
end K19
open PySem PySem.W PySem.Calls PyProof.Rows
set_option maxHeartbeats 0 in
theorem PySem.Challenge.cw_closedratios_k19_values_holds : PySem.Challenge.rw_closedratios_k19_values.Holds := by
  w_on; o_law
  refine HandSHeadRun.head_any (r := OpenLaw.row PySem.Challenge.rw_closedratios_k19_values) (q := view (OpenLaw.row PySem.Challenge.rw_closedratios_k19_values).prog [22]) (H := K19.hk) (ob := K19.ob) (M := 6000) (loose := K19.nms) (d := HandSHeadRun.topDef (OpenLaw.row PySem.Challenge.rw_closedratios_k19_values).prog 22) (kwd := []) K19.ob_eq
    (by kernel_rfl) (fun s => by kernel_rfl) K19.run (by kernel_rfl) (by kernel_rfl) (by kernel_rfl) (by rfl) (by first | assumption | decide +kernel) (by decide +kernel) ⟨rfl, rfl, rfl, rfl, rfl, by decide +kernel⟩ ?hw ?hc
  case hw => w_witness2
  case hc =>
    refine L2.walk_ofE (l := PySem.Challenge.rw_closedratios_k19_values) (n := 63) (k := 46) (x := "script") (CX := L2.CX0) rfl (by decide) (by kernel_rfl) ⟨rfl, by decide, by decide⟩ ?F (fun _ _ _ _ z => z)
    intro w mg fa h Y G hmg0
    obtain ⟨K, KX, c⟩ := Y
    have hmg : mg ("law" : PySem.Str) = some (.ref fa) := by
      have e : (HandSHeadRun.topDef (OpenLaw.row PySem.Challenge.rw_closedratios_k19_values).prog 22).name = ("law" : PySem.Str) := by kernel_rfl
      rw [← e]
      exact hmg0
    obtain ⟨fd, hb, hF⟩ := K19.facts (P := (PySem.Challenge.rw_closedratios_k19_values).prog) (w := w) KX G hmg c
    exact ⟨K, fd, (fun vs H Q _ => HM.spM ⟨K, w⟩ 1 K19.f_law vs H Q fun _ _ _ => False), KX, hb, fun H a ns hl ho hS => HM.law_sp (n := 63) K19.law_holds H a ns hl ho hS, fun base h1 h2 => (hF base h1 h2).shut⟩
